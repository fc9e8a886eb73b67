import PyProof.Rows.All
import Wide.All
import OpenK.AllK
import Wide.FinOn
import HandS.Base
import HandS.Call
import HandS.List
import HandS.Exc
import HandS.ExcOwn
import HandS.Defaults
import HandS.HeadHook1
import HandS.HeadHook2
import HandS.Deep
import HandS.Wide
import HandS.TupAny
import HandS.SortInts
import KE.SortData
import HandS.Comp
import HandS.TryMany
import HandS.TryOnly
import HandS.HeadEnd
import HandS.Words
import HandS.WordsExc
import HandS.EndBits
import HandS.Iter
import HandS.Walk
import KE.GoesEnum
import KE.GoesMore
import HandS.IsInst
import HandS.Text
import HandS.Dict
import HandS.Conv
import HandS.Style
import HandS.TupLe
import PyProof.StrOps2
import HandS.FStr
import HandS.RaiseMore
import KE.KStateDown
import Lean
import HandS.Head0
import HandS.Head1
import HandS.Head2
import PySem.Challenge.RW_pinchfold_k22_whole_folds_of_all_rows
set_option Elab.async false
set_option linter.all false
set_option maxRecDepth 100000
set_option maxHeartbeats 4000000

/-! Tree logic: data-level weakest preconditions over the hand layer. -/
namespace TL
open PySem PySem.Spec PyProof.Rows L2

abbrev Frag := PySem.W.Frag
abbrev SS := L2.St

/-! ### heaps -/
def Ex (H H' : Hp) : Prop := ∀ a o, H a = some o → H' a = some o
theorem Ex.refl (H : Hp) : Ex H H := fun _ _ h => h
theorem Ex.trans {H H1 H2 : Hp} (a : Ex H H1) (b : Ex H1 H2) : Ex H H2 := fun x o h => b x o (a x o h)
theorem Ex.new {H : Hp} {p : Addr} {o : HO} (h : H p = none) : Ex H (upd H p o) := fun a u e => by
  rw [upd_ne (ne_of_none e h)]; exact e
theorem Ex.mut {H H' : Hp} {p : Addr} {o : HO} (e : Ex H H') (h : H p = none) : Ex H (upd H' p o) := fun a u ha => by
  rw [upd_ne (ne_of_none ha h)]; exact e a u ha
theorem Ex.upd2 {H H' : Hp} {p : Addr} {o : HO} (e : Ex H H') : Ex (upd H p o) (upd H' p o) := fun a u ha => by
  by_cases hp : a = p
  · subst hp; rw [upd_same] at ha ⊢; exact ha
  · rw [upd_ne hp] at ha ⊢; exact e a u ha
theorem Ex.none {H H' : Hp} (e : Ex H H') {a : Addr} (h : H' a = none) : H a = none := by
  cases q : H a with
  | none => rfl
  | some o => rw [e a o q] at h; cases h
theorem ex_rd {H H' : Hp} {a : Addr} {u : HO} (e : Ex H H') (h : Rd H a u) : Rd H' a u := by
  rcases h with h | ⟨o, h⟩
  · exact .inl (e a _ h)
  · exact .inr ⟨o, e a _ h⟩
theorem ex_l {K : Frag} {H H' : Hp} {a : Addr} {xs : List V} (e : Ex H H') (h : SqL K H a xs) : SqL K H' a xs := by
  rcases h with h | h
  · exact .inl (ex_rd e h)
  · exact .inr h
theorem ex_t {K : Frag} {H H' : Hp} {a : Addr} {xs : List V} (e : Ex H H') (h : SqT K H a xs) : SqT K H' a xs := by
  rcases h with h | h
  · exact .inl (ex_rd e h)
  · exact .inr h

/-! ### data -/
def kD : Key → PyData
  | .inl i => .int i
  | .inr s => .str s
mutual
inductive Dq (K : Frag) (H : Hp) : V → PyData → Prop
  | non : Dq K H .non .none
  | bl (b : Bool) : Dq K H (.bl b) (.bool b)
  | int (i : Int) : Dq K H (.int i) (.int i)
  | str (x : Str) : Dq K H (.str x) (.str x)
  | lst {a : Addr} {xs : List V} {ds : List PyData} : SqL K H a xs → DqAll K H xs ds → Dq K H (.ref a) (.list ds)
  | tup {a : Addr} {xs : List V} {ds : List PyData} : H a = some (.tup xs) → DqAll K H xs ds → Dq K H (.ref a) (.tuple ds)
  | dct {a : Addr} {vs : List (List Key × V)} {kvs : List (PyData × PyData)} : H a = some (.dT vs) → DqT K H vs kvs → Dq K H (.ref a) (.dict ((.none, .none) :: kvs))
  | dck {a : Addr} {vs : List (Key × V)} {kvs : List (PyData × PyData)} : H a = some (.dK vs) → DqK K H vs kvs → Dq K H (.ref a) (.dict kvs)
inductive DqAll (K : Frag) (H : Hp) : List V → List PyData → Prop
  | nil : DqAll K H [] []
  | cons {v : V} {vs : List V} {d : PyData} {ds : List PyData} : Dq K H v d → DqAll K H vs ds → DqAll K H (v :: vs) (d :: ds)
inductive DqT (K : Frag) (H : Hp) : List (List Key × V) → List (PyData × PyData) → Prop
  | nil : DqT K H [] []
  | cons {k : List Key} {v : V} {vs : List (List Key × V)} {d : PyData} {ds : List (PyData × PyData)} : Dq K H v d → DqT K H vs ds → DqT K H ((k, v) :: vs) ((.tuple (k.map kD), d) :: ds)
inductive DqK (K : Frag) (H : Hp) : List (Key × V) → List (PyData × PyData) → Prop
  | nil : DqK K H [] []
  | cons {k : Key} {v : V} {vs : List (Key × V)} {d : PyData} {ds : List (PyData × PyData)} : Dq K H v d → DqK K H vs ds → DqK K H ((k, v) :: vs) ((kD k, d) :: ds)
end
section
variable {K : Frag} {H H' : Hp}
mutual
theorem dp_mono (e : Ex H H') : ∀ (d : PyData) (v : V), Dq K H v d → Dq K H' v d
  | _, _, .non => .non
  | _, _, .bl b => .bl b
  | _, _, .int i => .int i
  | _, _, .str x => .str x
  | _, _, .lst hs ha => .lst (ex_l e hs) (dpa_mono e _ _ ha)
  | _, _, .tup hs ha => .tup (e _ _ hs) (dpa_mono e _ _ ha)
  | _, _, .dct hs ha => .dct (e _ _ hs) (dqt_mono e _ _ ha)
  | _, _, .dck hs ha => .dck (e _ _ hs) (dqk_mono e _ _ ha)
theorem dpa_mono (e : Ex H H') : ∀ (ds : List PyData) (vs : List V), DqAll K H vs ds → DqAll K H' vs ds
  | _, _, .nil => .nil
  | _, _, .cons h1 h2 => .cons (dp_mono e _ _ h1) (dpa_mono e _ _ h2)
theorem dqt_mono (e : Ex H H') : ∀ (ds : List (PyData × PyData)) (vs : List (List Key × V)), DqT K H vs ds → DqT K H' vs ds
  | _, _, .nil => .nil
  | _, _, .cons h1 h2 => .cons (dp_mono e _ _ h1) (dqt_mono e _ _ h2)
theorem dqk_mono (e : Ex H H') : ∀ (ds : List (PyData × PyData)) (vs : List (Key × V)), DqK K H vs ds → DqK K H' vs ds
  | _, _, .nil => .nil
  | _, _, .cons h1 h2 => .cons (dp_mono e _ _ h1) (dqk_mono e _ _ h2)
end
mutual
theorem dq_dp : ∀ (d : PyData) (v : V), d.canLay0 = true → Dq K H v d → Dp K H v d
  | .none, _, _, h => by cases h; exact .non
  | .bool b, _, _, h => by cases h; exact .bl b
  | .int i, _, _, h => by cases h; exact .int i
  | .str x, _, _, h => by cases h; exact .str x
  | .list ds, _, c, h => by
    cases h with
    | lst hs ha => exact .lst hs (dqa_dpa ds _ (by simpa [PyData.canLay0] using c) ha)
  | .tuple ds, _, c, h => by
    cases h with
    | tup hs ha => exact .tup (SqT.of hs) (dqa_dpa ds _ (by simpa [PyData.canLay0] using c) ha)
  | .dict _, _, c, _ => nomatch c
theorem dqa_dpa : ∀ (ds : List PyData) (vs : List V), PyData.canLayAll0 ds = true → DqAll K H vs ds → DpAll K H vs ds
  | [], _, _, h => by cases h; exact .nil
  | d :: ds, _, c, h => by
    have c' : d.canLay0 = true ∧ PyData.canLayAll0 ds = true := by simpa [PyData.canLayAll0] using c
    cases h with
    | cons h1 h2 => exact .cons (dq_dp d _ c'.1 h1) (dqa_dpa ds _ c'.2 h2)
end
theorem shp_lay {d : PyData} (h : SeqAt.shaped d = true) : d.canLay0 = true := (Bool.and_eq_true_iff.mp h).1
theorem dp_int {v : V} {i : Int} (h : Dq K H v (.int i)) : v = .int i := by cases h; rfl
theorem dp_str {v : V} {i : Str} (h : Dq K H v (.str i)) : v = .str i := by cases h; rfl
theorem dp_bl {v : V} {i : Bool} (h : Dq K H v (.bool i)) : v = .bl i := by cases h; rfl
theorem dp_non {v : V} (h : Dq K H v .none) : v = .non := by cases h; rfl
theorem dp_lst {v : V} {ds : List PyData} (h : Dq K H v (.list ds)) : ∃ a xs, v = .ref a ∧ SqL K H a xs ∧ DqAll K H xs ds := by
  cases h with
  | lst hs ha => exact ⟨_, _, rfl, hs, ha⟩
theorem dp_tup {v : V} {ds : List PyData} (h : Dq K H v (.tuple ds)) : ∃ a xs, v = .ref a ∧ SqT K H a xs ∧ DqAll K H xs ds := by
  cases h with
  | tup hs ha => exact ⟨_, _, rfl, SqT.of hs, ha⟩
theorem dp_tup' {v : V} {ds : List PyData} (h : Dq K H v (.tuple ds)) : ∃ a xs, v = .ref a ∧ H a = some (.tup xs) ∧ DqAll K H xs ds := by
  cases h with
  | tup hs ha => exact ⟨_, _, rfl, hs, ha⟩
theorem dpa_len : ∀ {vs : List V} {ds : List PyData}, DqAll K H vs ds → vs.length = ds.length
  | _, [], h => by cases h; rfl
  | _, _ :: _, h => by
    cases h with
    | cons h1 h2 => exact congrArg Nat.succ (dpa_len h2)
theorem dpa_get : ∀ {ds : List PyData} {vs : List V} {i : Nat} {d : PyData}, DqAll K H vs ds → ds[i]? = some d → ∃ v, vs[i]? = some v ∧ Dq K H v d
  | [], _, _, _, _, e => by simp at e
  | x :: ds, _, 0, d, h, e => by
    cases h with
    | cons h1 h2 =>
      have e' : x = d := Option.some.inj e
      subst e'
      exact ⟨_, rfl, h1⟩
  | x :: ds, _, i + 1, d, h, e => by
    cases h with
    | cons h1 h2 => exact dpa_get (i := i) h2 e
theorem dpa_of : ∀ {ds : List PyData} {vs : List V} {i : Nat} {v : V}, DqAll K H vs ds → vs[i]? = some v → ∃ d, ds[i]? = some d ∧ Dq K H v d
  | [], _, _, _, h, e => by cases h; simp at e
  | x :: ds, _, 0, v, h, e => by
    cases h with
    | cons h1 h2 =>
      have e' := Option.some.inj e
      subst e'
      exact ⟨_, rfl, h1⟩
  | x :: ds, _, i + 1, d, h, e => by
    cases h with
    | cons h1 h2 => exact dpa_of (i := i) h2 e
theorem dpa_app : ∀ {ds es : List PyData} {vs ws : List V}, DqAll K H vs ds → DqAll K H ws es → DqAll K H (vs ++ ws) (ds ++ es)
  | [], _, _, _, h, g => by cases h; exact g
  | _ :: _, _, _, _, h, g => by
    cases h with
    | cons h1 h2 => exact .cons h1 (dpa_app h2 g)
theorem dpa_one {v : V} {d : PyData} (h : Dq K H v d) : DqAll K H [v] [d] := .cons h .nil
theorem dpa_set : ∀ {ds : List PyData} {vs : List V} (i : Nat) {v : V} {d : PyData}, DqAll K H vs ds → Dq K H v d → DqAll K H (vs.set i v) (ds.set i d)
  | [], _, _, _, _, h, _ => by cases h; exact .nil
  | _ :: _, _, 0, _, _, h, g => by
    cases h with
    | cons h1 h2 => exact .cons g h2
  | _ :: _, _, i + 1, _, _, h, g => by
    cases h with
    | cons h1 h2 => exact .cons h1 (dpa_set i h2 g)
theorem dpa_take : ∀ (n : Nat) {ds : List PyData} {vs : List V}, DqAll K H vs ds → DqAll K H (vs.take n) (ds.take n)
  | 0, _, _, _ => .nil
  | _ + 1, [], _, h => by cases h; exact .nil
  | n + 1, _ :: _, _, h => by
    cases h with
    | cons h1 h2 => exact .cons h1 (dpa_take n h2)
theorem dpa_drop : ∀ (n : Nat) {ds : List PyData} {vs : List V}, DqAll K H vs ds → DqAll K H (vs.drop n) (ds.drop n)
  | 0, _, _, h => h
  | _ + 1, [], _, h => by cases h; exact .nil
  | n + 1, _ :: _, _, h => by
    cases h with
    | cons h1 h2 => exact dpa_drop n h2
theorem dpa_rev : ∀ {ds : List PyData} {vs : List V}, DqAll K H vs ds → DqAll K H vs.reverse ds.reverse
  | [], _, h => by cases h; exact .nil
  | d :: ds, _, h => by
    cases h with
    | cons h1 h2 =>
      rw [List.reverse_cons, List.reverse_cons]
      exact dpa_app (dpa_rev h2) (dpa_one h1)
theorem dpa_ints : ∀ (ns : List Int), DqAll K H (ns.map V.int) (ns.map PyData.int)
  | [] => .nil
  | n :: ns => .cons (.int n) (dpa_ints ns)
theorem dpa_ints_eq : ∀ {ns : List Int} {vs : List V}, DqAll K H vs (ns.map PyData.int) → vs = ns.map V.int
  | [], _, h => by
    have h' : DqAll K H _ [] := h
    cases h'; rfl
  | n :: ns, _, h => by
    have h' : DqAll K H _ (.int n :: ns.map PyData.int) := h
    cases h' with
    | cons h1 h2 => rw [dp_int h1, dpa_ints_eq h2]; rfl
end

/-! ### slots -/
/-- a bag of draws -/
def BagD (ds : List PyData) : Prop := ∃ (cells : List Int) (i s t : Int), ds = [.list (cells.map .int), .int i, .int s, .int t] ∧ (∀ c ∈ cells, 0 ≤ c) ∧ 0 ≤ i ∧ 0 ≤ s ∧ 0 ≤ t ∧ t < 2147483629
inductive Sl where
  | un
  | d (x : PyData)
  | ol (a : Addr) (ds : List PyData)
  | bg (b : Addr)
  | v (x : V)
  | dt (a : Addr) (kvs : List (List Key × PyData))
  | dk (a : Addr) (kvs : List (Key × PyData))
  | oo (a : Addr) (rows : List (Addr × List PyData))
def Sl.fp : Sl → List Addr
  | .ol a _ => [a]
  | .bg a => [a]
  | .dt a _ => [a]
  | .dk a _ => [a]
  | .oo a rows => a :: rows.map (·.1)
  | _ => []
def KVp {κ : Type} (K : Frag) (F : Hp) : List (κ × V) → List (κ × PyData) → Prop := Paired fun p q => p.1 = q.1 ∧ Dq K F p.2 q.2
def SlOk (K : Frag) (F H : Hp) (o : Option V) : Sl → Prop
  | .un => True
  | .d x => ∃ v, o = some v ∧ Dq K F v x
  | .ol a ds => o = some (.ref a) ∧ ∃ vs, H a = some (.lst vs) ∧ DqAll K F vs ds
  | .bg a => o = some (.ref a) ∧ ∃ ds vs, BagD ds ∧ H a = some (.lst vs) ∧ DqAll K F vs ds
  | .v x => o = some x
  | .dt a kvs => o = some (.ref a) ∧ ∃ kvs', H a = some (.dT kvs') ∧ KVp K F kvs' kvs
  | .dk a kvs => o = some (.ref a) ∧ ∃ kvs', H a = some (.dK kvs') ∧ KVp K F kvs' kvs
  | .oo a rows => o = some (.ref a) ∧ H a = some (.lst (rows.map fun r => .ref r.1)) ∧ (a :: rows.map (·.1)).Nodup ∧ ∀ r ∈ rows, ∃ vs, H r.1 = some (.lst vs) ∧ DqAll K F vs r.2
def Own (env : List Sl) (a : Addr) : Prop := ∃ (i : Nat) (s : Sl), env[i]? = some s ∧ a ∈ s.fp

theorem paired_imp {α β : Type} {R S : α → β → Prop} : ∀ {xs : List α} {ys : List β}, Paired R xs ys → (∀ a b, R a b → S a b) → Paired S xs ys
  | _, _, .nil, _ => .nil
  | _, _, .cons r t, f => .cons (f _ _ r) (paired_imp t f)
theorem kvp_mono {κ : Type} {K : Frag} {F F' : Hp} (e : Ex F F') {a : List (κ × V)} {b : List (κ × PyData)} (h : KVp K F a b) : KVp K F' a b :=
  paired_imp h fun _ _ z => ⟨z.1, dp_mono e _ _ z.2⟩

theorem slok_mono {K : Frag} {F F' H H' : Hp} {o : Option V} {s : Sl} (e : Ex F F') (k : ∀ a ∈ s.fp, ∀ u, H a = some u → H' a = some u) (h : SlOk K F H o s) : SlOk K F' H' o s := by
  cases s with
  | un => trivial
  | d x => obtain ⟨v, h1, h2⟩ := h; exact ⟨v, h1, dp_mono e _ _ h2⟩
  | ol a ds => obtain ⟨h1, vs, h2, h3⟩ := h; exact ⟨h1, vs, k a (by simp [Sl.fp]) _ h2, dpa_mono e _ _ h3⟩
  | bg a => obtain ⟨h1, ds, vs, h4, h2, h3⟩ := h; exact ⟨h1, ds, vs, h4, k a (by simp [Sl.fp]) _ h2, dpa_mono e _ _ h3⟩
  | v x => exact h
  | dt a kvs => obtain ⟨h1, vs, h2, h3⟩ := h; exact ⟨h1, vs, k a (by simp [Sl.fp]) _ h2, kvp_mono e h3⟩
  | dk a kvs => obtain ⟨h1, vs, h2, h3⟩ := h; exact ⟨h1, vs, k a (by simp [Sl.fp]) _ h2, kvp_mono e h3⟩
  | oo a rows =>
    obtain ⟨h1, h2, h3, h4⟩ := h
    refine ⟨h1, k a (by simp [Sl.fp]) _ h2, h3, fun r hr => ?_⟩
    obtain ⟨vs, q1, q2⟩ := h4 r hr
    exact ⟨vs, k r.1 (List.mem_cons_of_mem _ (List.mem_map_of_mem hr)) _ q1, dpa_mono e _ _ q2⟩
theorem slok_there {K : Frag} {F H : Hp} {o : Option V} {s : Sl} (h : SlOk K F H o s) {a : Addr} (ha : a ∈ s.fp) : H a ≠ none := by
  cases s with
  | un => cases ha
  | d x => cases ha
  | v x => cases ha
  | ol b ds => obtain ⟨_, vs, h2, _⟩ := h; have e : a = b := by simpa [Sl.fp] using ha
               subst e; rw [h2]; intro z; cases z
  | bg b => obtain ⟨_, ds, vs, _, h2, _⟩ := h; have e : a = b := by simpa [Sl.fp] using ha
            subst e; rw [h2]; intro z; cases z
  | dt b ds => obtain ⟨_, vs, h2, _⟩ := h; have e : a = b := by simpa [Sl.fp] using ha
               subst e; rw [h2]; intro z; cases z
  | dk b ds => obtain ⟨_, vs, h2, _⟩ := h; have e : a = b := by simpa [Sl.fp] using ha
               subst e; rw [h2]; intro z; cases z
  | oo b rows =>
    obtain ⟨_, h2, _, h4⟩ := h
    have ha : a = b ∨ a ∈ rows.map (·.1) := List.mem_cons.mp ha
    rcases ha with rfl | ha
    · rw [h2]; intro z; cases z
    · obtain ⟨r, hr, rfl⟩ := List.mem_map.mp ha
      obtain ⟨vs, q1, _⟩ := h4 r hr
      rw [q1]; intro z; cases z

/-- what stood at a def's entry: the frozen part, the heap, the objects that may be changed -/
structure G where
  F0 : Hp
  H0 : Hp
  M : List Addr

structure Sk (K : Frag) (F H : Hp) (σ : SS) (env : List Sl) : Prop where
  len : σ.length = env.length
  sl : ∀ (i : Nat) (s : Sl), env[i]? = some s → SlOk K F H (σ[i]?.getD none) s
  nd : ∀ (i j : Nat) (s t : Sl) (a : Addr), env[i]? = some s → env[j]? = some t → a ∈ s.fp → a ∈ t.fp → i = j
  fr : ∀ a, Own env a → F a = none
  ex : Ex F H
  tf : ∀ (a : Addr) (vs : List V), H a = some (.tup vs) → F a = some (.tup vs)
structure St (K : Frag) (g : G) (F H : Hp) (σ : SS) (env : List Sl) : Prop extends Sk K F H σ env where
  g1 : ∀ a o, g.H0 a = some o → a ∉ g.M → H a = some o
  g2 : ∀ a, Own env a → g.H0 a = none ∨ a ∈ g.M
  g3 : Ex g.F0 F
  g4 : ∀ a, F a ≠ none → g.F0 a ≠ none ∨ g.H0 a = none
  g5 : ∀ a ∈ g.M, H a ≠ none
  g6 : ∀ a ∈ g.M, g.H0 a ≠ none

section
variable {K : Frag} {g : G} {F F' H H' : Hp} {σ : SS} {env : List Sl} {p : Addr} {o : HO}
theorem Sk.there (st : Sk K F H σ env) {a : Addr} (h : Own env a) : H a ≠ none := by
  obtain ⟨i, s, h1, h2⟩ := h
  exact slok_there (st.sl i s h1) h2
theorem Sk.notown (st : Sk K F H σ env) (h : H p = none) : ¬ Own env p := fun z => st.there z h
/-- the heap grows -/
theorem Sk.grow (st : Sk K F H σ env) (e : Ex H H') (t : ∀ (a : Addr) (vs : List V), H' a = some (.tup vs) → H a = some (.tup vs)) : Sk K F H' σ env :=
  ⟨st.len, fun i s h => slok_mono (Ex.refl F) (fun a _ u q => e a u q) (st.sl i s h), st.nd, st.fr, st.ex.trans e, fun a vs h => st.tf a vs (t a vs h)⟩
theorem St.grow (st : St K g F H σ env) (e : Ex H H') (t : ∀ (a : Addr) (vs : List V), H' a = some (.tup vs) → H a = some (.tup vs)) : St K g F H' σ env :=
  { st.toSk.grow e t with g1 := fun a o h m => e a o (st.g1 a o h m), g2 := st.g2, g3 := st.g3, g4 := st.g4, g5 := fun a m z => st.g5 a m (e.none z), g6 := st.g6 }
theorem St.alloc (st : St K g F H σ env) (h : H p = none) (ht : ∀ vs, o ≠ .tup vs := by intro _ z; cases z) : St K g F (upd H p o) σ env := st.grow (Ex.new h) fun a vs q => by
  by_cases e : a = p
  · subst e; rw [upd_same] at q; exact absurd (Option.some.inj q) (ht vs)
  · rw [upd_ne e] at q; exact q
/-- frozen part and heap grow by what is fresh -/
theorem St.h0 (st : St K g F H σ env) (h : H p = none) : g.H0 p = none := by
  cases q : g.H0 p with
  | none => rfl
  | some u =>
    by_cases m : p ∈ g.M
    · exact absurd h (st.g5 p m)
    · rw [st.g1 p u q m] at h; cases h
theorem Sk.freeze (st : Sk K F H σ env) (h : H p = some o) (hF : F p = none) (hn : ¬ Own env p) : Sk K (upd F p o) H σ env where
  len := st.len
  sl := fun i s e => slok_mono (Ex.new hF) (fun a _ u q => q) (st.sl i s e)
  nd := st.nd
  fr := fun a ha => by
    have hne : a ≠ p := fun z => hn (z ▸ ha)
    rw [upd_ne hne]; exact st.fr a ha
  ex := fun a u q => by
    by_cases hp : a = p
    · subst hp; rw [upd_same] at q; cases q; exact h
    · rw [upd_ne hp] at q; exact st.ex a u q
  tf := fun a vs q => by
    by_cases hp : a = p
    · subst hp; rw [h] at q; cases q; exact upd_same
    · rw [upd_ne hp]; exact st.tf a vs q
theorem St.freeze (st : St K g F H σ env) (h : H p = some o) (hF : F p = none) (hn : ¬ Own env p) (h0 : g.H0 p = none) : St K g (upd F p o) H σ env :=
  { st.toSk.freeze h hF hn with
    g1 := st.g1, g2 := st.g2, g3 := st.g3.trans (Ex.new hF), g5 := st.g5, g6 := st.g6,
    g4 := fun a ha => by
      by_cases hp : a = p
      · subst hp; exact .inr h0
      · rw [upd_ne hp] at ha; exact st.g4 a ha }
theorem St.allocF (st : St K g F H σ env) (h : H p = none) : St K g (upd F p o) (upd H p o) σ env where
  len := st.len
  sl := fun i s e => slok_mono (Ex.new (st.ex.none h)) (fun a _ u q => Ex.new h a u q) (st.sl i s e)
  nd := st.nd
  fr := fun a ha => by
    have hne : a ≠ p := fun z => st.toSk.notown h (z ▸ ha)
    rw [upd_ne hne]; exact st.fr a ha
  ex := fun a u q => by
    by_cases e : a = p
    · subst e; rw [upd_same] at q; rw [upd_same]; exact q
    · rw [upd_ne e] at q; rw [upd_ne e]; exact st.ex a u q
  tf := fun a vs q => by
    by_cases e : a = p
    · subst e; rw [upd_same] at q; rw [upd_same]; exact q
    · rw [upd_ne e] at q; rw [upd_ne e]; exact st.tf a vs q
  g1 := fun a u q m => by
    have hne : a ≠ p := fun z => by subst z; have := st.g1 a u q m; rw [h] at this; cases this
    rw [upd_ne hne]; exact st.g1 a u q m
  g2 := st.g2
  g3 := st.g3.trans (Ex.new (st.ex.none h))
  g4 := fun a ha => by
    by_cases e : a = p
    · subst e; exact .inr (st.h0 h)
    · rw [upd_ne e] at ha; exact st.g4 a ha
  g5 := fun a m z => by
    by_cases e : a = p
    · subst e; rw [upd_same] at z; cases z
    · rw [upd_ne e] at z; exact st.g5 a m z
  g6 := st.g6
theorem getD_set {σ : SS} {i j : Nat} {v : V} (hl : i < σ.length) : ((σ.set i (some v))[j]?.getD none) = if i = j then some v else (σ[j]?.getD none) := by
  rw [List.getElem?_set]
  by_cases h : i = j
  · subst h; rw [if_pos rfl, if_pos rfl, if_pos hl]; rfl
  · rw [if_neg h, if_neg h]
theorem set_get {env : List Sl} {i j : Nat} {s t : Sl} (h : (env.set i s)[j]? = some t) : (i = j ∧ t = s) ∨ (i ≠ j ∧ env[j]? = some t) := by
  rw [List.getElem?_set] at h
  by_cases e : i = j
  · subst e
    rw [if_pos rfl] at h
    split at h
    · exact .inl ⟨rfl, (Option.some.inj h).symm⟩
    · cases h
  · rw [if_neg e] at h; exact .inr ⟨e, h⟩
theorem own_set {i : Nat} {s : Sl} {a : Addr} (h : Own (env.set i s) a) : a ∈ s.fp ∨ Own env a := by
  obtain ⟨j, t, h1, h2⟩ := h
  rcases set_get h1 with ⟨_, rfl⟩ | ⟨_, h1⟩
  · exact .inl h2
  · exact .inr ⟨j, t, h1, h2⟩
/-- a slot is stored: s is a new description, its footprint new or the slot's own -/
theorem Sk.set {i : Nat} {v : V} {s : Sl} (st : Sk K F H σ env) (hi : i < env.length) (h : SlOk K F H (some v) s) (hfr : ∀ a ∈ s.fp, F a = none)
    (hn : ∀ a ∈ s.fp, ∀ (j : Nat) (t : Sl), j ≠ i → env[j]? = some t → a ∉ t.fp) : Sk K F H (σ.set i (some v)) (env.set i s) where
  len := by rw [List.length_set, List.length_set]; exact st.len
  sl := fun j t e => by
    rw [getD_set (by rw [st.len]; exact hi)]
    rcases set_get e with ⟨rfl, rfl⟩ | ⟨ne, e⟩
    · rw [if_pos rfl]; exact h
    · rw [if_neg ne]; exact st.sl j t e
  nd := fun j k t u a ej ek ht hu => by
    rcases set_get ej with ⟨rfl, rfl⟩ | ⟨ne, ej2⟩
    · rcases set_get ek with ⟨rfl, rfl⟩ | ⟨ne2, ek⟩
      · rfl
      · exact absurd hu (hn a ht k u (Ne.symm ne2) ek)
    · rcases set_get ek with ⟨rfl, rfl⟩ | ⟨ne2, ek⟩
      · exact absurd ht (hn a hu j t (Ne.symm ne) ej2)
      · exact st.nd j k t u a ej2 ek ht hu
  fr := fun a ha => by
    rcases own_set ha with h1 | h1
    · exact hfr a h1
    · exact st.fr a h1
  ex := st.ex
  tf := st.tf
theorem St.set {i : Nat} {v : V} {s : Sl} (st : St K g F H σ env) (hi : i < env.length) (h : SlOk K F H (some v) s) (hfr : ∀ a ∈ s.fp, F a = none)
    (hn : ∀ a ∈ s.fp, ∀ (j : Nat) (t : Sl), j ≠ i → env[j]? = some t → a ∉ t.fp) (hg : ∀ a ∈ s.fp, g.H0 a = none ∨ a ∈ g.M) : St K g F H (σ.set i (some v)) (env.set i s) :=
  { st.toSk.set hi h hfr hn with
    g1 := st.g1, g3 := st.g3, g4 := st.g4, g5 := st.g5, g6 := st.g6,
    g2 := fun a ha => by
      rcases own_set ha with h1 | h1
      · exact hg a h1
      · exact st.g2 a h1 }
theorem St.setD {i : Nat} {v : V} {x : PyData} (st : St K g F H σ env) (hi : i < env.length) (h : Dq K F v x) : St K g F H (σ.set i (some v)) (env.set i (.d x)) :=
  st.set hi ⟨v, rfl, h⟩ (fun _ h => by cases h) (fun _ h => by cases h) (fun _ h => by cases h)
theorem St.setV {i : Nat} {v : V} (st : St K g F H σ env) (hi : i < env.length) : St K g F H (σ.set i (some v)) (env.set i (.v v)) :=
  st.set (s := .v v) hi rfl (fun _ h => by cases h) (fun _ h => by cases h) (fun _ h => by cases h)
theorem St.setL {i : Nat} {a : Addr} {vs : List V} {ds : List PyData} (st : St K g F H σ env) (hi : i < env.length) (hH : H a = some (.lst vs)) (hd : DqAll K F vs ds) (hF : F a = none) (hn : ¬ Own env a) (h0 : g.H0 a = none) :
    St K g F H (σ.set i (some (.ref a))) (env.set i (.ol a ds)) := by
  have one : ∀ b ∈ (Sl.ol a ds).fp, b = a := fun b hb => by simpa [Sl.fp] using hb
  exact st.set (s := .ol a ds) hi ⟨rfl, vs, hH, hd⟩ (fun b hb => by rw [one b hb]; exact hF) (fun b hb j t _ e ht => hn ⟨j, t, e, by rw [← one b hb]; exact ht⟩) (fun b hb => by rw [one b hb]; exact .inl h0)
/-- an object of a slot is changed in place -/
theorem St.write {i : Nat} {a : Addr} {s s' : Sl} {o' : HO} (st : St K g F H σ env) (hs : env[i]? = some s) (ha : s.fp = [a]) (ha' : s'.fp = [a]) (h : SlOk K F (upd H a o') (σ[i]?.getD none) s') (ht : ∀ vs, o' ≠ .tup vs := by intro _ z; cases z) : St K g F (upd H a o') σ (env.set i s') := by
  have own : Own env a := ⟨i, s, hs, by rw [ha]; simp⟩
  have hF : F a = none := st.fr a own
  have hi : i < env.length := (List.getElem?_eq_some_iff.mp hs).1
  have sub : ∀ b, Own (env.set i s') b → Own env b := fun b hb => by
    rcases own_set hb with h1 | h1
    · rw [ha'] at h1
      have e : b = a := by simpa using h1
      rw [e]; exact own
    · exact h1
  have oth : ∀ (j : Nat) (t : Sl), i ≠ j → env[j]? = some t → a ∉ t.fp := fun j t ne e ht => ne (st.nd i j s t a hs e (by rw [ha]; simp) ht)
  refine { len := by rw [List.length_set]; exact st.len, sl := fun j t e => ?_, nd := fun j k t u b ej ek ht hu => ?_, fr := fun b hb => st.fr b (sub b hb), ex := st.ex.mut hF, tf := fun b vs q => by
             by_cases e : b = a
             · subst e; rw [upd_same] at q; exact absurd (Option.some.inj q) (ht vs)
             · rw [upd_ne e] at q; exact st.tf b vs q, g1 := fun b u q m => ?_, g2 := fun b hb => st.g2 b (sub b hb), g3 := st.g3, g4 := st.g4, g5 := fun b m z => ?_, g6 := st.g6 }
  · rcases set_get e with ⟨rfl, rfl⟩ | ⟨ne, e⟩
    · exact h
    · refine slok_mono (Ex.refl F) (fun b hb u q => ?_) (st.sl j t e)
      have hne : b ≠ a := fun z => oth j t ne e (z ▸ hb)
      rw [upd_ne hne]; exact q
  · rcases set_get ej with ⟨rfl, rfl⟩ | ⟨ne, ej2⟩
    · rcases set_get ek with ⟨rfl, rfl⟩ | ⟨ne2, ek⟩
      · rfl
      · rw [ha'] at ht
        have e : b = a := by simpa using ht
        exact absurd (e ▸ hu) (oth k u ne2 ek)
    · rcases set_get ek with ⟨rfl, rfl⟩ | ⟨ne2, ek⟩
      · rw [ha'] at hu
        have e : b = a := by simpa using hu
        exact absurd (e ▸ ht) (oth j t ne ej2)
      · exact st.nd j k t u b ej2 ek ht hu
  · have hne : b ≠ a := fun z => by
      subst z
      rcases st.g2 b own with h1 | h1
      · rw [h1] at q; cases q
      · exact m h1
    rw [upd_ne hne]; exact st.g1 b u q m
  · by_cases hb : b = a
    · subst hb; rw [upd_same] at z; cases z
    · rw [upd_ne hb] at z; exact st.g5 b m z
/-- a slot's description is weakened -/
theorem St.weak {i : Nat} {s s' : Sl} (st : St K g F H σ env) (hs : env[i]? = some s) (hfp : ∀ a ∈ s'.fp, a ∈ s.fp) (h : SlOk K F H (σ[i]?.getD none) s → SlOk K F H (σ[i]?.getD none) s') : St K g F H σ (env.set i s') := by
  have sub : ∀ b, Own (env.set i s') b → Own env b := fun b hb => by
    rcases own_set hb with h1 | h1
    · exact ⟨i, s, hs, hfp b h1⟩
    · exact h1
  refine { len := by rw [List.length_set]; exact st.len, sl := fun j t e => ?_, nd := fun j k t u b ej ek ht hu => ?_, fr := fun b hb => st.fr b (sub b hb), ex := st.ex, tf := st.tf,
           g1 := st.g1, g2 := fun b hb => st.g2 b (sub b hb), g3 := st.g3, g4 := st.g4, g5 := st.g5, g6 := st.g6 }
  · rcases set_get e with ⟨rfl, rfl⟩ | ⟨ne, e⟩
    · exact h (st.sl i s hs)
    · exact st.sl j t e
  · rcases set_get ej with ⟨rfl, rfl⟩ | ⟨ne, ej2⟩
    · rcases set_get ek with ⟨rfl, rfl⟩ | ⟨ne2, ek⟩
      · rfl
      · exact st.nd i k s u b hs ek (hfp b ht) hu
    · rcases set_get ek with ⟨rfl, rfl⟩ | ⟨ne2, ek⟩
      · exact st.nd j i t s b ej2 hs ht (hfp b hu)
      · exact st.nd j k t u b ej2 ek ht hu
end
end TL

namespace TL
open PySem PySem.Spec PyProof.Rows L2

/-! ### judgements -/
inductive Exc where
  | own (n : Str)
def ExcW (K : Frag) (W : WX) (σ : SS) (H : Hp) : Exc → Prop
  | .own n => W (.ref (He.ga K n)) none σ H
structure SemE (X : Cx) (e : Expr) (σ : SS) (H : Hp) (Q : VK) : Prop where
  run : ∀ (pins : List (Addr × Obj)) (s : Shared), Inv X pins σ H s → wpAny (model X.prog X.w) X.A (eval e X.env) (EP X pins σ Q) X.xe s
def semE (X : Cx) (e : Expr) : TE := fun σ H Q => SemE X e σ H Q
structure SemT (X : Cx) (e : Expr) (σ : SS) (H : Hp) (Q : Bool → Hp → Prop) : Prop where
  run : ∀ (pins : List (Addr × Obj)) (s : Shared), Inv X pins σ H s → wpAny (model X.prog X.w) X.A (isTrue e X.env (eval e X.env)) (TP X pins σ Q) X.xe s
def semT (X : Cx) (e : Expr) : TT := fun σ H Q => SemT X e σ H Q
structure SemS (X : Cx) (st : List Stmt) (D : Ends) (σ : SS) (H : Hp) : Prop where
  run : ∀ (pins : List (Addr × Obj)) (s : Shared), Inv X pins σ H s → wpAny (model X.prog X.w) X.A (execs st X.env) (SP X pins D) X.xe s
def semS (X : Cx) (st : List Stmt) : TS := fun D σ H => SemS X st D σ H
section
variable {X : Cx}
theorem peS (e : Expr) : PE X e (semE X e) := ⟨fun pins s _ _ _ I h => h.run pins s I⟩
theorem ptS (e : Expr) : PT X e (semT X e) := ⟨fun pins s _ _ _ I h => h.run pins s I⟩
theorem pssS (st : List Stmt) : PSs X st (semS X st) := ⟨fun pins s _ _ _ I h => h.run pins s I⟩
theorem semE_of {e : Expr} {t : TE} (h : PE X e t) {σ : SS} {H : Hp} {Q : VK} (q : t σ H Q) : semE X e σ H Q := ⟨fun pins s I => h.run pins s σ H Q I q⟩
theorem semT_of {e : Expr} {t : TT} (h : PT X e t) {σ : SS} {H : Hp} {Q : Bool → Hp → Prop} (q : t σ H Q) : semT X e σ H Q := ⟨fun pins s I => h.run pins s σ H Q I q⟩
theorem semS_of {st : List Stmt} {t : TS} (h : PSs X st t) {D : Ends} {σ : SS} {H : Hp} (q : t D σ H) : semS X st D σ H := ⟨fun pins s I => h.run pins s σ H D I q⟩
end

def Hld (env : List Sl) (a : Addr) (ds : List PyData) : Prop := (∃ i : Nat, env[i]? = some (Sl.ol a ds)) ∨ ∃ (i : Nat) (b : Addr) (rows : List (Addr × List PyData)), env[i]? = some (Sl.oo b rows) ∧ (a, ds) ∈ rows
/-- how a value is known: z: by the frozen part; else it is an object that a slot holds -/
def Rd (K : Frag) (F : Hp) (env : List Sl) (z : Bool) (v : V) (d : PyData) : Prop :=
  match z with
  | true => Dq K F v d
  | false => ∃ a ds, Hld env a ds ∧ v = .ref a ∧ d = .list ds
def HX (X : Cx) (g : G) (env : List Sl) (Ψ : Exc → Prop) (W : WX) (σ : SS) : Prop := ∀ c F' H', Ψ c → St X.K g F' H' σ env → ExcW X.K W σ H' c
def WE (X : Cx) (g : G) (e : Expr) (env : List Sl) (Φ : PyData → Bool → Prop) (Ψ : Exc → Prop) : Prop :=
  ∀ (W : WX), Takes X W → ∀ (σ : SS) (F H : Hp), St X.K g F H σ env → HX X g env Ψ W σ →
    ∀ Q : VK, (∀ d z v F' H', Φ d z → St X.K g F' H' σ env → Ex F F' → Rd X.K F' env z v d → Q v H') → semE X e σ H Q
/-- a test -/
def WT (X : Cx) (g : G) (e : Expr) (env : List Sl) (Φ : Bool → Prop) (Ψ : Exc → Prop) : Prop :=
  ∀ (W : WX), Takes X W → ∀ (σ : SS) (F H : Hp), St X.K g F H σ env → HX X g env Ψ W σ →
    ∀ Q : Bool → Hp → Prop, (∀ b F' H', Φ b → St X.K g F' H' σ env → Ex F F' → Q b H') → semT X e σ H Q
/-- a new list, no slot's -/
def NewL (K : Frag) (g : G) (F H : Hp) (env : List Sl) (v : V) (ds : List PyData) : Prop :=
  ∃ p vs, v = .ref p ∧ H p = some (.lst vs) ∧ DqAll K F vs ds ∧ F p = none ∧ ¬ Own env p ∧ g.H0 p = none
def WN (X : Cx) (g : G) (e : Expr) (env : List Sl) (Φ : List PyData → Prop) (Ψ : Exc → Prop) : Prop :=
  ∀ (W : WX), Takes X W → ∀ (σ : SS) (F H : Hp), St X.K g F H σ env → HX X g env Ψ W σ →
    ∀ Q : VK, (∀ ds v F' H', Φ ds → St X.K g F' H' σ env → Ex F F' → NewL X.K g F' H' env v ds → Q v H') → semE X e σ H Q
/-- arguments: data, or a slot handed on -/
inductive Ar where
  | d (x : PyData)
  | s (i : Nat)
def ArOk (K : Frag) (F : Hp) (σ : SS) (v : V) : Ar → Prop
  | .d x => Dq K F v x
  | .s i => σ[i]? = some (some v)
def ArAll (K : Frag) (F : Hp) (σ : SS) : List V → List Ar → Prop
  | [], [] => True
  | v :: vs, a :: as => ArOk K F σ v a ∧ ArAll K F σ vs as
  | _, _ => False
def WA (X : Cx) (g : G) (es : List Expr) (env : List Sl) (Φ : List Ar → Prop) (Ψ : Exc → Prop) : Prop :=
  ∃ t, PA X es t ∧ ∀ (W : WX), Takes X W → ∀ (σ : SS) (F H : Hp), St X.K g F H σ env → HX X g env Ψ W σ →
    ∀ Q : List V → Hp → Prop, (∀ as vs F' H', Φ as → St X.K g F' H' σ env → Ex F F' → ArAll X.K F' σ vs as → Q vs H') → t σ H Q

section
variable {X : Cx} {g : G} {env : List Sl} {Ψ : Exc → Prop} {pos : Pos} {a b c e : Expr} {K : Frag} {F F' H : Hp} {σ : SS}
theorem rd_mono {z : Bool} {v : V} {d : PyData} (e : Ex F F') (h : Rd K F env z v d) : Rd K F' env z v d := by
  cases z with
  | true => exact dp_mono e _ _ h
  | false => exact h
theorem hld_at {a : Addr} {ds : List PyData} (st : Sk K F H σ env) (h : Hld env a ds) : ∃ vs, H a = some (.lst vs) ∧ DqAll K F vs ds := by
  rcases h with ⟨i, hi⟩ | ⟨i, b, rows, hi, hm⟩
  · exact (st.sl i _ hi).2
  · exact (st.sl i _ hi).2.2.2 _ hm
/-- as it stands now -/
theorem rd_now {z : Bool} {v : V} {d : PyData} (st : Sk K F H σ env) (h : Rd K F env z v d) : Dq K H v d := by
  cases z with
  | true => exact dp_mono st.ex _ _ h
  | false =>
    obtain ⟨a, ds, hi, rfl, rfl⟩ := h
    obtain ⟨vs, h2, h3⟩ := hld_at st hi
    exact .lst (SqL.of h2) (dpa_mono st.ex _ _ h3)
theorem rd_nowP {z : Bool} {v : V} {d : PyData} (st : Sk K F H σ env) (h : Rd K F env z v d) (c : SeqAt.shaped d = true) : Dp K H v d := dq_dp _ _ (shp_lay c) (rd_now st h)
/-- a list: where it stands, its items by the frozen part -/
theorem rd_lst {z : Bool} {v : V} {ds : List PyData} (st : Sk K F H σ env) (h : Rd K F env z v (.list ds)) : ∃ a vs, v = .ref a ∧ SqL K H a vs ∧ DqAll K F vs ds := by
  cases z with
  | true =>
    obtain ⟨a, xs, rfl, h2, h3⟩ := dp_lst h
    exact ⟨a, xs, rfl, ex_l st.ex h2, h3⟩
  | false =>
    obtain ⟨a, ds', hi, rfl, e⟩ := h
    injection e with e
    subst e
    obtain ⟨vs, h2, h3⟩ := hld_at st hi
    exact ⟨a, vs, rfl, SqL.of h2, h3⟩
theorem rd_tup {z : Bool} {v : V} {ds : List PyData} (st : Sk K F H σ env) (h : Rd K F env z v (.tuple ds)) : ∃ a vs, v = .ref a ∧ SqT K H a vs ∧ DqAll K F vs ds := by
  cases z with
  | true =>
    obtain ⟨a, xs, rfl, h2, h3⟩ := dp_tup h
    exact ⟨a, xs, rfl, ex_t st.ex h2, h3⟩
  | false => obtain ⟨_, _, _, _, e⟩ := h; cases e
theorem rd_int {z : Bool} {v : V} {i : Int} (h : Rd K F env z v (.int i)) : v = .int i := by
  cases z with
  | true => exact dp_int h
  | false => obtain ⟨_, _, _, _, e⟩ := h; cases e
theorem rd_str {z : Bool} {v : V} {i : Str} (h : Rd K F env z v (.str i)) : v = .str i := by
  cases z with
  | true => exact dp_str h
  | false => obtain ⟨_, _, _, _, e⟩ := h; cases e
theorem rd_bl {z : Bool} {v : V} {i : Bool} (h : Rd K F env z v (.bool i)) : v = .bl i := by
  cases z with
  | true => exact dp_bl h
  | false => obtain ⟨_, _, _, _, e⟩ := h; cases e
theorem rd_non {z : Bool} {v : V} (h : Rd K F env z v .none) : v = .non := by
  cases z with
  | true => exact dp_non h
  | false => obtain ⟨_, _, _, _, e⟩ := h; cases e

/-! ### combinators -/
theorem WE.mono {Φ Φ' : PyData → Bool → Prop} (h : WE X g e env Φ Ψ) (k : ∀ d z, Φ d z → Φ' d z) : WE X g e env Φ' Ψ :=
  fun W tk σ F H st hx Q hQ => h W tk σ F H st hx Q fun d z v F' H' p => hQ d z v F' H' (k d z p)
/-- a two-place operation on data -/
def DOp (K : Frag) (g : G) (env : List Sl) (r : R2) (d1 : PyData) (z1 : Bool) (d2 : PyData) (z2 : Bool) (Φ : PyData → Bool → Prop) : Prop :=
  ∀ (σ : SS) (F H : Hp) (v1 v2 : V), St K g F H σ env → Rd K F env z1 v1 d1 → Rd K F env z2 v2 d2 →
    ∀ Q : VK, (∀ d z v F' H', Φ d z → St K g F' H' σ env → Ex F F' → Rd K F' env z v d → Q v H') → r v1 v2 H Q
theorem we_op {Φ : PyData → Bool → Prop} {R : PyData → Bool → PyData → Bool → Prop} {r : R2} (hop : PE X e (tOp r (semE X a) (semE X b)))
    (hr : ∀ d1 z1 d2 z2, R d1 z1 d2 z2 → DOp X.K g env r d1 z1 d2 z2 Φ)
    (h : WE X g a env (fun d1 z1 => WE X g b env (fun d2 z2 => R d1 z1 d2 z2) Ψ) Ψ) : WE X g e env Φ Ψ := by
  intro W tk σ F H st hx Q hQ
  refine semE_of hop ?_
  refine h W tk σ F H st hx _ fun d1 z1 v1 F1 H1 h1 st1 e1 r1 => ?_
  refine h1 W tk σ F1 H1 st1 hx _ fun d2 z2 v2 F2 H2 h2 st2 e2 r2 => ?_
  exact hr _ _ _ _ h2 σ F2 H2 v1 v2 st2 (rd_mono e2 r1) r2 Q fun d z v F' H' hp s3 e3 r3 => hQ d z v F' H' hp s3 ((e1.trans e2).trans e3) r3
theorem wt_op {Φ : Bool → Prop} {R : PyData → Bool → PyData → Bool → Prop} {r : R2} (hop : PT X e (tTest (tOp r (semE X a) (semE X b))))
    (hr : ∀ d1 z1 d2 z2, R d1 z1 d2 z2 → DOp X.K g env r d1 z1 d2 z2 (fun d _ => ∃ k, d = .bool k ∧ Φ k))
    (h : WE X g a env (fun d1 z1 => WE X g b env (fun d2 z2 => R d1 z1 d2 z2) Ψ) Ψ) : WT X g e env Φ Ψ := by
  intro W tk σ F H st hx Q hQ
  refine semT_of hop ?_
  refine h W tk σ F H st hx _ fun d1 z1 v1 F1 H1 h1 st1 e1 r1 => ?_
  refine h1 W tk σ F1 H1 st1 hx _ fun d2 z2 v2 F2 H2 h2 st2 e2 r2 => ?_
  refine hr _ _ _ _ h2 σ F2 H2 v1 v2 st2 (rd_mono e2 r1) r2 _ fun d z v F' H' ⟨k, hd, hp⟩ s3 e3 r3 => ?_
  subst hd
  exact ⟨k, rd_bl r3, hQ k F' H' hp s3 ((e1.trans e2).trans e3)⟩
def DUn (K : Frag) (g : G) (env : List Sl) (r : V → Hp → VK → Prop) (d1 : PyData) (z1 : Bool) (Φ : PyData → Bool → Prop) : Prop :=
  ∀ (σ : SS) (F H : Hp) (v1 : V), St K g F H σ env → Rd K F env z1 v1 d1 →
    ∀ Q : VK, (∀ d z v F' H', Φ d z → St K g F' H' σ env → Ex F F' → Rd K F' env z v d → Q v H') → r v1 H Q
theorem we_un1 {Φ : PyData → Bool → Prop} {R : PyData → Bool → Prop} {r : V → Hp → VK → Prop} (hop : PE X e (tUn r (semE X a)))
    (hr : ∀ d1 z1, R d1 z1 → DUn X.K g env r d1 z1 Φ) (h : WE X g a env R Ψ) : WE X g e env Φ Ψ := by
  intro W tk σ F H st hx Q hQ
  refine semE_of hop ?_
  refine h W tk σ F H st hx _ fun d1 z1 v1 F1 H1 h1 st1 e1 r1 => ?_
  exact hr _ _ h1 σ F1 H1 v1 st1 r1 Q fun d z v F' H' hp s3 e3 r3 => hQ d z v F' H' hp s3 (e1.trans e3) r3
theorem dop_of {r : R2} {d1 d2 d : PyData} {z1 z2 z : Bool} {Φ : PyData → Bool → Prop} (hp : Φ d z)
    (h : ∀ (σ : SS) (F H : Hp) (v1 v2 : V) (Q : VK), St K g F H σ env → Rd K F env z1 v1 d1 → Rd K F env z2 v2 d2 → (∀ v, Rd K F env z v d → Q v H) → r v1 v2 H Q) : DOp K g env r d1 z1 d2 z2 Φ :=
  fun σ F H v1 v2 st r1 r2 Q hQ => h σ F H v1 v2 Q st r1 r2 fun v rv => hQ d z v F H hp st (Ex.refl F) rv
theorem dop_l {r r' : R2} {d1 d2 : PyData} {z1 z2 : Bool} {Φ : PyData → Bool → Prop} (h : DOp K g env r d1 z1 d2 z2 Φ) : DOp K g env (fun x y H Q => r x y H Q ∨ r' x y H Q) d1 z1 d2 z2 Φ :=
  fun σ F H v1 v2 st r1 r2 Q hQ => .inl (h σ F H v1 v2 st r1 r2 Q hQ)
theorem dop_r {r r' : R2} {d1 d2 : PyData} {z1 z2 : Bool} {Φ : PyData → Bool → Prop} (h : DOp K g env r' d1 z1 d2 z2 Φ) : DOp K g env (fun x y H Q => r x y H Q ∨ r' x y H Q) d1 z1 d2 z2 Φ :=
  fun σ F H v1 v2 st r1 r2 Q hQ => .inr (h σ F H v1 v2 st r1 r2 Q hQ)
/-- a new object, frozen at once -/
theorem put_lst {p : Addr} {vs : List V} {ds : List PyData} {Φ : PyData → Bool → Prop} {Q : VK} (st : St K g F H σ env) (hn : H p = none) (hd : DqAll K F vs ds) (hp : Φ (.list ds) true)
    (hQ : ∀ d z v F' H', Φ d z → St K g F' H' σ env → Ex F F' → Rd K F' env z v d → Q v H') : Q (.ref p) (upd H p (.lst vs)) := by
  have hF : F p = none := st.ex.none hn
  exact hQ (.list ds) true (.ref p) (upd F p (.lst vs)) _ hp (st.allocF hn) (Ex.new hF) (.lst (SqL.of upd_same) (dpa_mono (Ex.new hF) _ _ hd))
theorem put_tup {p : Addr} {vs : List V} {ds : List PyData} {Φ : PyData → Bool → Prop} {Q : VK} (st : St K g F H σ env) (hn : H p = none) (hd : DqAll K F vs ds) (hp : Φ (.tuple ds) true)
    (hQ : ∀ d z v F' H', Φ d z → St K g F' H' σ env → Ex F F' → Rd K F' env z v d → Q v H') : Q (.ref p) (upd H p (.tup vs)) := by
  have hF : F p = none := st.ex.none hn
  exact hQ (.tuple ds) true (.ref p) (upd F p (.tup vs)) _ hp (st.allocF hn) (Ex.new hF) (.tup upd_same (dpa_mono (Ex.new hF) _ _ hd))
theorem put_new {p : Addr} {vs : List V} {ds : List PyData} {Φ : List PyData → Prop} {Q : VK} (st : St K g F H σ env) (hn : H p = none) (hd : DqAll K F vs ds) (hp : Φ ds)
    (hQ : ∀ ds v F' H', Φ ds → St K g F' H' σ env → Ex F F' → NewL K g F' H' env v ds → Q v H') : Q (.ref p) (upd H p (.lst vs)) :=
  hQ ds (.ref p) F _ hp (st.alloc hn) (Ex.refl F) ⟨p, vs, rfl, upd_same, hd, st.ex.none hn, st.toSk.notown hn, st.h0 hn⟩
theorem we_of_wn {Φ : PyData → Bool → Prop} (h : WN X g e env (fun ds => Φ (.list ds) true) Ψ) : WE X g e env Φ Ψ := fun W tk σ F H st hx Q hQ =>
  h W tk σ F H st hx Q fun ds v F' H' hp st' e' ⟨p, vs, hv, h1, h2, h3, h4, h5⟩ => by
    subst hv
    have e2 := Ex.new (o := .lst vs) h3
    exact hQ (.list ds) true (.ref p) (upd F' p (.lst vs)) H' hp (st'.freeze h1 h3 h4 h5) (e'.trans e2) (.lst (SqL.of upd_same) (dpa_mono e2 _ _ h2))

/-! ### constants and names -/
section
variable {Φ : PyData → Bool → Prop}
theorem we_int {i : Int} {j : Nat} (h : Φ (.int i) true) : WE X g (.Constant (.int i) j pos) env Φ Ψ :=
  fun W tk σ F H st hx Q hQ => semE_of pe_int (hQ _ true _ F H h st (Ex.refl F) (.int i))
theorem we_str {i : Str} {j : Nat} (h : Φ (.str i) true) : WE X g (.Constant (.str i) j pos) env Φ Ψ :=
  fun W tk σ F H st hx Q hQ => semE_of pe_str (hQ _ true _ F H h st (Ex.refl F) (.str i))
theorem we_bool {i : Bool} {j : Nat} (h : Φ (.bool i) true) : WE X g (.Constant (.bool i) j pos) env Φ Ψ :=
  fun W tk σ F H st hx Q hQ => semE_of pe_bl (hQ _ true _ F H h st (Ex.refl F) (.bl i))
theorem we_none {j : Nat} (h : Φ .none true) : WE X g (.Constant .none j pos) env Φ Ψ :=
  fun W tk σ F H st hx Q hQ => semE_of pe_non (hQ _ true _ F H h st (Ex.refl F) .non)
theorem getD_some {σ : SS} {i : Nat} {v : V} (h : σ[i]?.getD none = some v) : σ[i]? = some (some v) := by
  cases e : σ[i]? with
  | none => rw [e] at h; cases h
  | some o => rw [e] at h; exact congrArg some h
/-- a name that holds data -/
theorem we_n (i : Nat) {d : PyData} {x : Str} (h : Φ d true) (he : env[i]? = some (.d d) := by rfl) (hN : X.N[i]? = some x := by rfl)
    (hv : Vis X.env.scope x := by first | exact Or.inl rfl | exact Or.inr (Or.inl rfl) | exact Or.inr (Or.inr rfl)) (hd : (x == ("__debug__" : Str)) = false := by decide)
    (hcd : (x == ("__classdict__" : Str)) = false := by decide) : WE X g (.Name x pos) env Φ Ψ := fun W tk σ F H st hx Q hQ => by
  obtain ⟨v, h1, h2⟩ := st.sl i _ he
  exact semE_of (pe_var hN hv hd hcd) ⟨v, getD_some h1, hQ d true v F H h st (Ex.refl F) h2⟩
/-- a name that holds a list of one's own -/
theorem we_nl (i : Nat) {al : Addr} {ds : List PyData} {x : Str} (h : Φ (.list ds) false) (he : env[i]? = some (.ol al ds) := by rfl) (hN : X.N[i]? = some x := by rfl)
    (hv : Vis X.env.scope x := by first | exact Or.inl rfl | exact Or.inr (Or.inl rfl) | exact Or.inr (Or.inr rfl)) (hd : (x == ("__debug__" : Str)) = false := by decide)
    (hcd : (x == ("__classdict__" : Str)) = false := by decide) : WE X g (.Name x pos) env Φ Ψ := fun W tk σ F H st hx Q hQ => by
  obtain ⟨h1, h2⟩ := st.sl i _ he
  exact semE_of (pe_var hN hv hd hcd) ⟨_, getD_some h1, hQ _ false _ F H h st (Ex.refl F) ⟨al, ds, .inl ⟨i, he⟩, rfl, rfl⟩⟩
/-- a module's int, a module's text -/
theorem we_gint {n : Int} {x : Str} (hm : ∃ t, X.mg x = some (.int n t)) (h : Φ (.int n) true) (hg : Gl X x := by rfl) (hd : (x == ("__debug__" : Str)) = false := by decide) : WE X g (.Name x pos) env Φ Ψ :=
  fun W tk σ F H st hx Q hQ => by
    obtain ⟨t, ht⟩ := hm
    exact semE_of (pe_glob hg ht (v := .int n) ⟨t, rfl⟩ hd) (hQ _ true _ F H h st (Ex.refl F) (.int n))
theorem we_gstr {n : Str} {x : Str} (hm : ∃ t, X.mg x = some (.str n t)) (h : Φ (.str n) true) (hg : Gl X x := by rfl) (hd : (x == ("__debug__" : Str)) = false := by decide) : WE X g (.Name x pos) env Φ Ψ :=
  fun W tk σ F H st hx Q hQ => by
    obtain ⟨t, ht⟩ := hm
    exact semE_of (pe_glob hg ht (v := .str n) ⟨t, rfl⟩ hd) (hQ _ true _ F H h st (Ex.refl F) (.str n))
end
end
end TL

namespace TL
open PySem PySem.Spec PyProof.Rows L2

section
variable {X : Cx} {g : G} {env : List Sl} {Ψ : Exc → Prop} {pos : Pos} {a b c e : Expr} {K : Frag} {F F' H : Hp} {σ : SS}

/-! ### list + list over any list that is read -/
def rCatL (K : Frag) : R2 := fun x y H Q => ∃ l b xs zs, x = .ref l ∧ y = .ref b ∧ SqL K H l xs ∧ SqL K H b zs ∧ xs.length + zs.length ≤ sizeLine ∧ ∀ p, H p = none → Q (.ref p) (upd H p (.lst (xs ++ zs)))
theorem op_catL : OpR X (binaryOp .Add) (rCatL X.K) := by
  intro pins s σ H x y v u Q I rx ry h
  obtain ⟨l, b, xs, zs, rfl, rfl, hH, hB, hz, q⟩ := h
  cases rx
  cases ry
  obtain ⟨vs, r, ⟨⟨cls, dd, data, sl⟩, n, ho, hc, hdn, hd⟩, hl⟩ := I.list hH
  obtain ⟨ws, r2, ⟨⟨cls2, dd2, data2, sl2⟩, n2, ho2, hc2, hdn2, hd2⟩, hl2⟩ := I.list hB
  simp only at hc hd hc2 hd2
  subst hc hd hc2 hd2
  have e1 := r.length
  have e2 := r2.length
  have e : vs.toArray ++ ws.toArray = (vs ++ ws).toArray := by simp
  refine concat_meets ⟨_, ho, rfl⟩ ⟨_, ho2, rfl⟩ noFill_list_add seq_list_add PySem.F.slot_list_add PySem.F.entry_list_add (PySem.F.args_list_add_2 _ _) (list_addW l b vs.toArray ws.toArray n n2 dd dd2 sl sl2 (by simp only [List.size_toArray]; omega)) ⟨ho, ho2, ?_⟩
  rw [e]
  exact ⟨.ref _, _, I.lnew (t' := s.toks) (r.append r2) (by rw [List.length_append]; omega), rfl, q _ I.fresh⟩

/-! ### arithmetic -/
theorem dop_I0 {f : Int → Int → V} {i j : Int} {z1 z2 : Bool} {Φ : PyData → Bool → Prop} {d : PyData} (h : Φ d true) (hf : ∀ F, Dq K F (f i j) d) : DOp K g env (rI0 f) (.int i) z1 (.int j) z2 Φ :=
  dop_of h fun σ F H v1 v2 Q st r1 r2 q => ⟨i, j, rd_int r1, rd_int r2, q _ (hf F)⟩
theorem dop_I {C : Int → Int → Prop} {f : Int → Int → V} {i j : Int} {z1 z2 : Bool} {Φ : PyData → Bool → Prop} {d : PyData} (hc : C i j) (h : Φ d true) (hf : ∀ F, Dq K F (f i j) d) : DOp K g env (rI C f) (.int i) z1 (.int j) z2 Φ :=
  dop_of h fun σ F H v1 v2 Q st r1 r2 q => ⟨i, j, rd_int r1, rd_int r2, hc, q _ (hf F)⟩
inductive AddP (Φ : PyData → Bool → Prop) : PyData → Bool → PyData → Bool → Prop
  | int {i j : Int} {z1 z2 : Bool} : Φ (.int (i + j)) true → AddP Φ (.int i) z1 (.int j) z2
  | str {i j : Str} {z1 z2 : Bool} : Φ (.str (i ++ j)) true → i.length + j.length ≤ sizeLine → AddP Φ (.str i) z1 (.str j) z2
  | lst {xs ys : List PyData} {z1 z2 : Bool} : Φ (.list (xs ++ ys)) true → xs.length + ys.length ≤ sizeLine → AddP Φ (.list xs) z1 (.list ys) z2
  | tup {xs ys : List PyData} {z1 z2 : Bool} : Φ (.tuple (xs ++ ys)) true → xs.length + ys.length ≤ sizeLine → AddP Φ (.tuple xs) z1 (.tuple ys) z2
abbrev rAddS : R2 := fun x y H Q => ∃ i j, x = .str i ∧ y = .str j ∧ i.length + j.length ≤ sizeLine ∧ Q (.str (i ++ j)) H
abbrev rAddA (K : Frag) : R2 := fun x y H Q => (rI0 fun i j => .int (i + j)) x y H Q ∨ (fun x y H Q => rAddS x y H Q ∨ (fun x y H Q => rCatL K x y H Q ∨ rCatA K x y H Q) x y H Q) x y H Q
theorem op_addA : OpR X (binaryOp .Add) (rAddA X.K) := op_add.or (op_add_str.or (op_catL.or op_catA))
theorem dop_add {Φ : PyData → Bool → Prop} {d1 d2 : PyData} {z1 z2 : Bool} (h : AddP Φ d1 z1 d2 z2) : DOp K g env (rAddA K) d1 z1 d2 z2 Φ := by
  cases h with
  | int h => exact dop_l (dop_I0 h fun F => .int _)
  | str h hl => exact dop_r (dop_l (dop_of h fun σ F H v1 v2 Q st r1 r2 q => ⟨_, _, rd_str r1, rd_str r2, hl, q _ (.str _)⟩))
  | lst h hl =>
    refine dop_r (dop_r (dop_l fun σ F H v1 v2 st r1 r2 Q hQ => ?_))
    obtain ⟨a1, vs1, rfl, s1, p1⟩ := rd_lst st.toSk r1
    obtain ⟨a2, vs2, rfl, s2, p2⟩ := rd_lst st.toSk r2
    exact ⟨a1, a2, vs1, vs2, rfl, rfl, s1, s2, by rw [dpa_len p1, dpa_len p2]; exact hl, fun p hp => put_lst st hp (dpa_app p1 p2) h hQ⟩
  | tup h hl =>
    refine dop_r (dop_r (dop_r fun σ F H v1 v2 st r1 r2 Q hQ => ?_))
    obtain ⟨a1, vs1, rfl, s1, p1⟩ := rd_tup st.toSk r1
    obtain ⟨a2, vs2, rfl, s2, p2⟩ := rd_tup st.toSk r2
    refine ⟨a1, a2, vs1, vs2, rfl, rfl, s1, s2, by rw [dpa_len p1, dpa_len p2]; exact hl, fun e => ?_, fun _ e => ?_, fun _ _ p hp => put_tup st hp (dpa_app p1 p2) h hQ⟩
    · subst e
      cases p1
      rw [List.nil_append] at h
      refine hQ _ z2 _ F H ?_ st (Ex.refl F) r2
      cases z2 with
      | true => exact h
      | false => obtain ⟨_, _, _, _, e⟩ := r2; cases e
    subst e
    cases p2
    rw [List.append_nil] at h
    refine hQ _ z1 _ F H ?_ st (Ex.refl F) r1
    cases z1 with
    | true => exact h
    | false => obtain ⟨_, _, _, _, e⟩ := r1; cases e
section
variable {Φ : PyData → Bool → Prop}
theorem we_add (h : WE X g a env (fun d1 z1 => WE X g b env (fun d2 z2 => AddP Φ d1 z1 d2 z2) Ψ) Ψ) : WE X g (.BinOp a .Add b pos) env Φ Ψ :=
  we_op (pe_op op_addA (peS a) (peS b)) (fun _ _ _ _ => dop_add) h
inductive IntP (C : Int → Int → Prop) (f : Int → Int → Int) (Φ : PyData → Bool → Prop) : PyData → Bool → PyData → Bool → Prop
  | mk {i j : Int} {z1 z2 : Bool} : Φ (.int (f i j)) true → C i j → IntP C f Φ (.int i) z1 (.int j) z2
theorem we_sub (h : WE X g a env (fun d1 z1 => WE X g b env (fun d2 z2 => IntP (fun _ _ => True) (fun i j => i - j) Φ d1 z1 d2 z2) Ψ) Ψ) : WE X g (.BinOp a .Sub b pos) env Φ Ψ :=
  we_op (pe_op op_sub (peS a) (peS b)) (fun _ _ _ _ ⟨h, _⟩ => dop_I0 h fun F => .int _) h
theorem we_mul (h : WE X g a env (fun d1 z1 => WE X g b env (fun d2 z2 => IntP CMul (fun i j => i * j) Φ d1 z1 d2 z2) Ψ) Ψ) : WE X g (.BinOp a .Mult b pos) env Φ Ψ :=
  we_op (pe_op op_mul (peS a) (peS b)) (fun _ _ _ _ ⟨h, hc⟩ => dop_I hc h fun F => .int _) h
theorem we_mulW (h : WE X g a env (fun d1 z1 => WE X g b env (fun d2 z2 => IntP CMulW (fun i j => i * j) Φ d1 z1 d2 z2) Ψ) Ψ) : WE X g (.BinOp a .Mult b pos) env Φ Ψ :=
  we_op (pe_op op_mulW (peS a) (peS b)) (fun _ _ _ _ ⟨h, hc⟩ => dop_I hc h fun F => .int _) h
theorem we_div (h : WE X g a env (fun d1 z1 => WE X g b env (fun d2 z2 => IntP CDivW (fun i j => i / j) Φ d1 z1 d2 z2) Ψ) Ψ) : WE X g (.BinOp a .FloorDiv b pos) env Φ Ψ :=
  we_op (pe_op op_fdivW (peS a) (peS b)) (fun _ _ _ _ ⟨h, hc⟩ => dop_I hc h fun F => .int _) h
theorem we_mod (h : WE X g a env (fun d1 z1 => WE X g b env (fun d2 z2 => IntP (fun _ j => 0 < j) (fun i j => i % j) Φ d1 z1 d2 z2) Ψ) Ψ) : WE X g (.BinOp a .Mod b pos) env Φ Ψ :=
  we_op (pe_op op_mod (peS a) (peS b)) (fun _ _ _ _ ⟨h, hc⟩ => dop_I hc h fun F => .int _) h
theorem we_pow (h : WE X g a env (fun d1 z1 => WE X g b env (fun d2 z2 => IntP CPow (fun i j => i ^ j.toNat) Φ d1 z1 d2 z2) Ψ) Ψ) : WE X g (.BinOp a .Pow b pos) env Φ Ψ :=
  we_op (pe_op op_pow (peS a) (peS b)) (fun _ _ _ _ ⟨h, hc⟩ => dop_I hc h fun F => .int _) h
theorem cdiv_small {j : Int} (i : Int) (h : 0 < j) (h2 : j < 4611686018427387904) : CDivW i j := wide_div h (b := 62) (by omega) (by decide) (by decide)
theorem we_neg (h : WE X g a env (fun d1 z1 => ∃ i, d1 = .int i ∧ Φ (.int (-i)) true) Ψ) : WE X g (.UnaryOp .USub a pos) env Φ Ψ :=
  we_un1 (pe_un un_neg (peS a)) (fun d1 z1 ⟨i, hi, hp⟩ σ F H v1 st r1 Q hQ => ⟨i, by subst hi; exact rd_int r1, hQ _ true _ F H hp st (Ex.refl F) (.int _)⟩) h
end

/-! ### comparisons: k is the answer -/
def CP (K : Frag) (g : G) (env : List Sl) (r : R2) (d1 : PyData) (z1 : Bool) (d2 : PyData) (z2 : Bool) (k : Bool) : Prop :=
  ∀ (σ : SS) (F H : Hp) (v1 v2 : V), St K g F H σ env → Rd K F env z1 v1 d1 → Rd K F env z2 v2 d2 → ∀ Q : VK, Q (.bl k) H → r v1 v2 H Q
theorem cp_l {r r' : R2} {d1 d2 : PyData} {z1 z2 k : Bool} (h : CP K g env r d1 z1 d2 z2 k) : CP K g env (fun x y H Q => r x y H Q ∨ r' x y H Q) d1 z1 d2 z2 k := fun σ F H v1 v2 st r1 r2 Q q => .inl (h σ F H v1 v2 st r1 r2 Q q)
theorem cp_r {r r' : R2} {d1 d2 : PyData} {z1 z2 k : Bool} (h : CP K g env r' d1 z1 d2 z2 k) : CP K g env (fun x y H Q => r x y H Q ∨ r' x y H Q) d1 z1 d2 z2 k := fun σ F H v1 v2 st r1 r2 Q q => .inr (h σ F H v1 v2 st r1 r2 Q q)
theorem we_cp {Φ : PyData → Bool → Prop} {op : CmpOp} {r : R2} (ho : OpR X (compareOp op) r) (h : WE X g a env (fun d1 z1 => WE X g b env (fun d2 z2 => ∃ k, CP X.K g env r d1 z1 d2 z2 k ∧ Φ (.bool k) true) Ψ) Ψ)
    (hm : behindInMarks op b = false := by first | exact nomark _ | rfl) : WE X g (.Compare a [op] [b] pos) env Φ Ψ :=
  we_op (pe_cmpR ho (peS a) (peS b) hm) (fun _ _ _ _ ⟨k, hc, hp⟩ σ F H v1 v2 st r1 r2 Q hQ => hc σ F H v1 v2 st r1 r2 Q (hQ _ true _ F H hp st (Ex.refl F) (.bl k))) h
theorem wt_cp {Φ : Bool → Prop} {op : CmpOp} {r : R2} (ho : OpR X (compareOp op) r) (h : WE X g a env (fun d1 z1 => WE X g b env (fun d2 z2 => ∃ k, CP X.K g env r d1 z1 d2 z2 k ∧ Φ k) Ψ) Ψ)
    (hm : behindInMarks op b = false := by first | exact nomark _ | rfl) : WT X g (.Compare a [op] [b] pos) env Φ Ψ :=
  wt_op (pt_cmpR ho (peS a) (peS b) hm) (fun _ _ _ _ ⟨k, hc, hp⟩ σ F H v1 v2 st r1 r2 Q hQ => hc σ F H v1 v2 st r1 r2 Q (hQ (.bool k) true _ F H ⟨k, rfl, hp⟩ st (Ex.refl F) (.bl k))) h
/-- a op b op' c -/
theorem chain_run {r r' : R2} {C : Bool → Prop} (h : WE X g a env (fun d1 z1 => WE X g b env (fun d2 z2 => ∃ k, CP X.K g env r d1 z1 d2 z2 k ∧ (k = true → WE X g c env (fun d3 z3 => ∃ k', CP X.K g env r' d2 z2 d3 z3 k' ∧ C k') Ψ) ∧ (k = false → C false)) Ψ) Ψ)
    {W : WX} (tk : Takes X W) {F H : Hp} (st : St X.K g F H σ env) (hx : HX X g env Ψ W σ) {Q : VK} (hQ : ∀ k F' H', C k → St X.K g F' H' σ env → Ex F F' → Q (.bl k) H') : tChain r r' (semE X a) (semE X b) (semE X c) σ H Q := by
  refine h W tk σ F H st hx _ fun d1 z1 v1 F1 H1 h1 st1 e1 r1 => ?_
  refine h1 W tk σ F1 H1 st1 hx _ fun d2 z2 v2 F2 H2 h2 st2 e2 r2 => ?_
  obtain ⟨k, hc, ht, hf⟩ := h2
  refine hc σ F2 H2 v1 v2 st2 (rd_mono e2 r1) r2 _ ⟨k, rfl, ?_⟩
  cases k with
  | true =>
    rw [if_pos rfl]
    refine ht rfl W tk σ F2 H2 st2 hx _ fun d3 z3 v3 F3 H3 h3 st3 e3 r3 => ?_
    obtain ⟨k', hc', hp⟩ := h3
    exact hc' σ F3 H3 v2 v3 st3 (rd_mono e3 r2) r3 Q (hQ k' F3 H3 hp st3 ((e1.trans e2).trans e3))
  | false =>
    rw [if_neg Bool.false_ne_true]
    exact hQ false F2 H2 (hf rfl) st2 (e1.trans e2)
theorem we_ch {Φ : PyData → Bool → Prop} {op op' : CmpOp} {r r' : R2} (ho : OpR X (compareOp op) r) (ho' : OpR X (compareOp op') r')
    (h : WE X g a env (fun d1 z1 => WE X g b env (fun d2 z2 => ∃ k, CP X.K g env r d1 z1 d2 z2 k ∧ (k = true → WE X g c env (fun d3 z3 => ∃ k', CP X.K g env r' d2 z2 d3 z3 k' ∧ Φ (.bool k') true) Ψ) ∧ (k = false → Φ (.bool false) true)) Ψ) Ψ)
    (hm : lastMarks [op, op'] [b, c] = false := by with_unfolding_all rfl) : WE X g (.Compare a [op, op'] [b, c] pos) env Φ Ψ := fun W tk σ F H st hx Q hQ =>
  semE_of (pe_chain ho ho' (peS a) (peS b) (peS c) hm) (chain_run (C := fun k => Φ (.bool k) true) h tk st hx fun k F' H' hp s e => hQ _ true _ F' H' hp s e (.bl k))
theorem wt_ch {Φ : Bool → Prop} {op op' : CmpOp} {r r' : R2} (ho : OpR X (compareOp op) r) (ho' : OpR X (compareOp op') r')
    (h : WE X g a env (fun d1 z1 => WE X g b env (fun d2 z2 => ∃ k, CP X.K g env r d1 z1 d2 z2 k ∧ (k = true → WE X g c env (fun d3 z3 => ∃ k', CP X.K g env r' d2 z2 d3 z3 k' ∧ Φ k') Ψ) ∧ (k = false → Φ false)) Ψ) Ψ)
    (hm : lastMarks [op, op'] [b, c] = false := by with_unfolding_all rfl) : WT X g (.Compare a [op, op'] [b, c] pos) env Φ Ψ := fun W tk σ F H st hx Q hQ =>
  semT_of (pt_chain ho ho' (peS a) (peS b) (peS c) hm) (chain_run h tk st hx fun k F' H' hp s e => ⟨k, rfl, hQ k F' H' hp s e⟩)

/-- the operators' rules, by what they take -/
abbrev rLtA (K : Frag) : R2 := fun x y H Q => (rI0 fun i j => .bl (decide (i < j))) x y H Q ∨ rLtT K x y H Q
theorem op_ltA {k : Nat} (hr : Room k X.A) : OpR X (compareOp .Lt) (rLtA X.K) := op_lt.or (op_ltT hr.units0)
abbrev rEqA (K : Frag) : R2 := fun x y H Q => rEq x y H Q ∨ rEqD K x y H Q
theorem op_eqA {k : Nat} (hr : Room k X.A) : OpR X (compareOp .Eq) (rEqA X.K) := op_eq.or (op_eqD hr.units)
abbrev rNeA (K : Frag) : R2 := fun x y H Q => rNe x y H Q ∨ rNeD K x y H Q
theorem op_neA {k : Nat} (hr : Room k X.A) : OpR X (compareOp .NotEq) (rNeA X.K) := op_ne.or (op_neD hr.units)
theorem units65 {k : Nat} {A : Around} (hr : Room k A) : A.units + 65 < cLine := by have := hr.un; omega
abbrev rInS : R2 := fun x y H Q => ∃ i j, x = .str i ∧ y = .str j ∧ Q (.bl (!(Builtin.Str.occurrences j i 0 j.length 1).isEmpty)) H
abbrev rNotInS : R2 := fun x y H Q => ∃ i j, x = .str i ∧ y = .str j ∧ Q (.bl (!(!(Builtin.Str.occurrences j i 0 j.length 1).isEmpty))) H
abbrev rInA (K : Frag) : R2 := fun x y H Q => rIn K false x y H Q ∨ (fun x y H Q => rInD K x y H Q ∨ rInS x y H Q) x y H Q
abbrev rNotInA (K : Frag) : R2 := fun x y H Q => rIn K true x y H Q ∨ (fun x y H Q => rNotInD K x y H Q ∨ rNotInS x y H Q) x y H Q
theorem op_inA {k : Nat} (hr : Room k X.A) : OpR X (compareOp .In) (rInA X.K) := op_in_seq.or ((op_inD (units65 hr)).or op_in_str)
theorem op_notInA {k : Nat} (hr : Room k X.A) : OpR X (compareOp .NotIn) (rNotInA X.K) := op_notIn_seq.or ((op_notInD (units65 hr)).or op_notin_str)
abbrev rIsN : R2 := fun x y H Q => y = .non ∧ Q (.bl (decide (x = .non))) H
abbrev rNotN : R2 := fun x y H Q => y = .non ∧ Q (.bl (!decide (x = .non))) H

section
variable {z1 z2 : Bool} {i j : Int} {s t : Str} {d1 d2 : PyData}
theorem cp_I0 {f : Int → Int → Bool} : CP K g env (rI0 fun i j => .bl (f i j)) (.int i) z1 (.int j) z2 (f i j) := fun σ F H v1 v2 st r1 r2 Q q => ⟨i, j, rd_int r1, rd_int r2, q⟩
theorem cp_lt : CP K g env (rLtA K) (.int i) z1 (.int j) z2 (decide (i < j)) := cp_l cp_I0
theorem cp_ltT {ns ms : List Int} : CP K g env (rLtA K) (.tuple (ns.map .int)) z1 (.tuple (ms.map .int)) z2 (HT.lexLt ns ms) := cp_r fun σ F H v1 v2 st r1 r2 Q q => by
  obtain ⟨a1, vs1, rfl, s1, p1⟩ := rd_tup st.toSk r1
  obtain ⟨a2, vs2, rfl, s2, p2⟩ := rd_tup st.toSk r2
  rw [dpa_ints_eq p1] at s1
  rw [dpa_ints_eq p2] at s2
  exact ⟨a1, a2, ns, ms, rfl, rfl, s1, s2, q⟩
theorem cp_le : CP K g env (rI0 fun i j => .bl (decide (i ≤ j))) (.int i) z1 (.int j) z2 (decide (i ≤ j)) := cp_I0
theorem cp_gt : CP K g env (rI0 fun i j => .bl (decide (j < i))) (.int i) z1 (.int j) z2 (decide (j < i)) := cp_I0 (f := fun i j => decide (j < i))
theorem cp_ge : CP K g env (rI0 fun i j => .bl (decide (j ≤ i))) (.int i) z1 (.int j) z2 (decide (j ≤ i)) := cp_I0 (f := fun i j => decide (j ≤ i))
theorem vint_dec : decide (V.int i = V.int j) = decide (i = j) := by
  by_cases h : i = j
  · subst h; simp
  · rw [decide_eq_false h, decide_eq_false fun z => h (V.int.inj z)]
theorem vstr_dec : decide (V.str s = V.str t) = decide (s = t) := by
  by_cases h : s = t
  · subst h; simp
  · rw [decide_eq_false h, decide_eq_false fun z => h (V.str.inj z)]
theorem vbl_dec {k l : Bool} : decide (V.bl k = V.bl l) = decide (k = l) := by
  by_cases h : k = l
  · subst h; simp
  · rw [decide_eq_false h, decide_eq_false fun z => h (V.bl.inj z)]
theorem cp_eqI : CP K g env (rEqA K) (.int i) z1 (.int j) z2 (decide (i = j)) := cp_l fun σ F H v1 v2 st r1 r2 Q q => by
  rw [rd_int r1, rd_int r2]; exact ⟨rfl, by rw [vint_dec]; exact q⟩
theorem cp_eqS : CP K g env (rEqA K) (.str s) z1 (.str t) z2 (decide (s = t)) := cp_l fun σ F H v1 v2 st r1 r2 Q q => by
  rw [rd_str r1, rd_str r2]; exact ⟨rfl, by rw [vstr_dec]; exact q⟩
theorem cp_eqB {k l : Bool} : CP K g env (rEqA K) (.bool k) z1 (.bool l) z2 (decide (k = l)) := cp_l fun σ F H v1 v2 st r1 r2 Q q => by
  rw [rd_bl r1, rd_bl r2]; exact ⟨rfl, by rw [vbl_dec]; exact q⟩
theorem cp_eqD (h1 : SeqAt.shaped d1 = true) (h2 : SeqAt.shaped d2 = true) : CP K g env (rEqA K) d1 z1 d2 z2 (PyData.eqv d1 d2) := cp_r fun σ F H v1 v2 st r1 r2 Q q => ⟨d1, d2, rd_nowP st.toSk r1 h1, rd_nowP st.toSk r2 h2, h1, h2, q⟩
theorem cp_neI : CP K g env (rNeA K) (.int i) z1 (.int j) z2 (!decide (i = j)) := cp_l fun σ F H v1 v2 st r1 r2 Q q => by
  rw [rd_int r1, rd_int r2]; exact ⟨rfl, by rw [vint_dec]; exact q⟩
theorem cp_neS : CP K g env (rNeA K) (.str s) z1 (.str t) z2 (!decide (s = t)) := cp_l fun σ F H v1 v2 st r1 r2 Q q => by
  rw [rd_str r1, rd_str r2]; exact ⟨rfl, by rw [vstr_dec]; exact q⟩
theorem cp_neB {k l : Bool} : CP K g env (rNeA K) (.bool k) z1 (.bool l) z2 (!decide (k = l)) := cp_l fun σ F H v1 v2 st r1 r2 Q q => by
  rw [rd_bl r1, rd_bl r2]; exact ⟨rfl, by rw [vbl_dec]; exact q⟩
theorem cp_neD (h1 : SeqAt.shaped d1 = true) (h2 : SeqAt.shaped d2 = true) : CP K g env (rNeA K) d1 z1 d2 z2 (!PyData.eqv d1 d2) := cp_r fun σ F H v1 v2 st r1 r2 Q q => ⟨d1, d2, rd_nowP st.toSk r1 h1, rd_nowP st.toSk r2 h2, h1, h2, q⟩
/-- x is None -/
def isNone : PyData → Bool
  | .none => true
  | _ => false
theorem dp_isnone {v : V} {d : PyData} (h : Dq K H v d) : decide (v = .non) = isNone d := by
  cases h <;> first | rfl | exact decide_eq_false (fun z => by cases z)
theorem cp_isN : CP K g env rIsN d1 z1 .none z2 (isNone d1) := fun σ F H v1 v2 st r1 r2 Q q => ⟨rd_non r2, by rw [dp_isnone (rd_now st.toSk r1)]; exact q⟩
theorem cp_notN : CP K g env rNotN d1 z1 .none z2 (!isNone d1) := fun σ F H v1 v2 st r1 r2 Q q => ⟨rd_non r2, by rw [dp_isnone (rd_now st.toSk r1)]; exact q⟩
/-- flat things in a list or tuple -/
def fl : PyData → Option V
  | .int i => some (.int i)
  | .str s => some (.str s)
  | .none => some .non
  | _ => none
theorem fl_dp {v x : V} {d : PyData} (h : Dq K H v d) (e : fl d = some x) : v = x := by
  cases h <;> first | exact Option.some.inj e | cases e
theorem fl_flat {x : V} {d : PyData} (e : fl d = some x) : flatV x = true := by
  cases d <;> first | (have e' := Option.some.inj e; subst e'; rfl) | cases e
theorem eqV_int : eqV (.int i) (.int j) = decide (i = j) := by
  show (i == j) = _
  rw [Bool.beq_eq_decide_eq]
theorem dpa_all {vs : List V} : ∀ {ds : List PyData} {vs : List V}, DqAll K H vs ds → (∀ d ∈ ds, ∃ x, fl d = some x) → vs.all flatV = true
  | [], _, h, _ => by cases h; rfl
  | d :: ds, _, h, hf => by
    cases h with
    | cons h1 h2 =>
      obtain ⟨x, hx⟩ := hf d (List.mem_cons_self ..)
      rw [List.all_cons, fl_dp h1 hx, fl_flat hx, dpa_all (vs := []) h2 fun d hd => hf d (List.mem_cons_of_mem _ hd)]
      rfl
/-- an int in a list of ints -/
theorem inV_ints : ∀ (ns : List Int) (i : Int), inV (.int i) (ns.map V.int) = decide (i ∈ ns)
  | [], i => rfl
  | n :: ns, i => by
    have ih := inV_ints ns i
    show (eqV (.int n) (.int i) || inV (.int i) (ns.map V.int)) = _
    rw [ih, eqV_int]
    by_cases h : i = n
    · subst h; simp
    · simp [h, Ne.symm h]
theorem flat_ints (ns : List Int) : (ns.map V.int).all flatV = true := by
  rw [List.all_eq_true]
  intro x hx
  obtain ⟨n, _, rfl⟩ := List.mem_map.mp hx
  rfl
theorem cp_inI {ns : List Int} : CP K g env (rInA K) (.int i) z1 (.list (ns.map .int)) z2 (decide (i ∈ ns)) := cp_l fun σ F H v1 v2 st r1 r2 Q q => by
  obtain ⟨a2, vs2, rfl, s2, p2⟩ := rd_lst st.toSk r2
  rw [dpa_ints_eq p2] at s2
  rw [rd_int r1]
  refine ⟨a2, _, rfl, .inl s2, rfl, flat_ints ns, ?_⟩
  rw [if_neg Bool.false_ne_true, inV_ints]; exact q
theorem cp_notInI {ns : List Int} : CP K g env (rNotInA K) (.int i) z1 (.list (ns.map .int)) z2 (!decide (i ∈ ns)) := cp_l fun σ F H v1 v2 st r1 r2 Q q => by
  obtain ⟨a2, vs2, rfl, s2, p2⟩ := rd_lst st.toSk r2
  rw [dpa_ints_eq p2] at s2
  rw [rd_int r1]
  refine ⟨a2, _, rfl, .inl s2, rfl, flat_ints ns, ?_⟩
  rw [if_pos rfl, inV_ints]; exact q
theorem cp_inTI {ns : List Int} : CP K g env (rInA K) (.int i) z1 (.tuple (ns.map .int)) z2 (decide (i ∈ ns)) := cp_l fun σ F H v1 v2 st r1 r2 Q q => by
  obtain ⟨a2, vs2, rfl, s2, p2⟩ := rd_tup st.toSk r2
  rw [dpa_ints_eq p2] at s2
  rw [rd_int r1]
  refine ⟨a2, _, rfl, .inr s2, rfl, flat_ints ns, ?_⟩
  rw [if_neg Bool.false_ne_true, inV_ints]; exact q
/-- texts in a tuple, a list of texts -/
theorem eqV_str : eqV (.str s) (.str t) = decide (s = t) := by
  show (s == t) = _
  rw [Bool.beq_eq_decide_eq]
theorem inV_strs : ∀ (ns : List Str) (i : Str), inV (.str i) (ns.map V.str) = decide (i ∈ ns)
  | [], i => rfl
  | n :: ns, i => by
    have ih := inV_strs ns i
    show (eqV (.str n) (.str i) || inV (.str i) (ns.map V.str)) = _
    rw [ih, eqV_str]
    by_cases h : i = n
    · subst h; simp
    · simp [h, Ne.symm h]
theorem flat_strs (ns : List Str) : (ns.map V.str).all flatV = true := by
  rw [List.all_eq_true]
  intro x hx
  obtain ⟨n, _, rfl⟩ := List.mem_map.mp hx
  rfl
theorem dpa_strs_eq : ∀ {ns : List Str} {vs : List V}, DqAll K H vs (ns.map PyData.str) → vs = ns.map V.str
  | [], _, h => by
    have h' : DqAll K H _ [] := h
    cases h'; rfl
  | n :: ns, _, h => by
    have h' : DqAll K H _ (.str n :: ns.map PyData.str) := h
    cases h' with
    | cons h1 h2 => rw [dp_str h1, dpa_strs_eq h2]; rfl
theorem cp_inTS (ns : List Str) : CP K g env (rInA K) (.str s) z1 (.tuple (ns.map .str)) z2 (decide (s ∈ ns)) := cp_l fun σ F H v1 v2 st r1 r2 Q q => by
  obtain ⟨a2, vs2, rfl, s2, p2⟩ := rd_tup st.toSk r2
  rw [dpa_strs_eq p2] at s2
  rw [rd_str r1]
  refine ⟨a2, _, rfl, .inr s2, rfl, flat_strs ns, ?_⟩
  rw [if_neg Bool.false_ne_true, inV_strs]; exact q
theorem cp_notInTS (ns : List Str) : CP K g env (rNotInA K) (.str s) z1 (.tuple (ns.map .str)) z2 (!decide (s ∈ ns)) := cp_l fun σ F H v1 v2 st r1 r2 Q q => by
  obtain ⟨a2, vs2, rfl, s2, p2⟩ := rd_tup st.toSk r2
  rw [dpa_strs_eq p2] at s2
  rw [rd_str r1]
  refine ⟨a2, _, rfl, .inr s2, rfl, flat_strs ns, ?_⟩
  rw [if_pos rfl, inV_strs]; exact q
/-- data in a list -/
theorem cp_inD {ds : List PyData} (h1 : SeqAt.shaped d1 = true) (h2 : SeqAt.shaped (.list ds) = true) : CP K g env (rInA K) d1 z1 (.list ds) z2 (ds.any fun z => PyData.eqv z d1) :=
  cp_r (cp_l fun σ F H v1 v2 st r1 r2 Q q => ⟨d1, ds, rd_nowP st.toSk r1 h1, rd_nowP st.toSk r2 h2, h1, h2, q⟩)
theorem cp_notInD {ds : List PyData} (h1 : SeqAt.shaped d1 = true) (h2 : SeqAt.shaped (.list ds) = true) : CP K g env (rNotInA K) d1 z1 (.list ds) z2 (!ds.any fun z => PyData.eqv z d1) :=
  cp_r (cp_l fun σ F H v1 v2 st r1 r2 Q q => ⟨d1, ds, rd_nowP st.toSk r1 h1, rd_nowP st.toSk r2 h2, h1, h2, q⟩)
theorem cp_inS : CP K g env (rInA K) (.str s) z1 (.str t) z2 (!(Builtin.Str.occurrences t s 0 t.length 1).isEmpty) := cp_r (cp_r fun σ F H v1 v2 st r1 r2 Q q => ⟨s, t, rd_str r1, rd_str r2, q⟩)
theorem cp_notInS : CP K g env (rNotInA K) (.str s) z1 (.str t) z2 (!(!(Builtin.Str.occurrences t s 0 t.length 1).isEmpty)) := cp_r (cp_r fun σ F H v1 v2 st r1 r2 Q q => ⟨s, t, rd_str r1, rd_str r2, q⟩)
end

/-! ### tests, and, or, not, conditional expressions -/
section
variable {Φ : Bool → Prop}
theorem WT.mono {Φ' : Bool → Prop} (h : WT X g e env Φ Ψ) (k : ∀ d, Φ d → Φ' d) : WT X g e env Φ' Ψ :=
  fun W tk σ F H st hx Q hQ => h W tk σ F H st hx Q fun d F' H' p => hQ d F' H' (k d p)
theorem wt_e (h : WE X g e env (fun d _ => ∃ k, d = .bool k ∧ Φ k) Ψ) (he : ∀ whole, isTrue e X.env whole = (do let v ← whole; standAt e.pos; holding [v] (truthy v)) := by intro _; rfl) : WT X g e env Φ Ψ := fun W tk σ F H st hx Q hQ => by
  refine semT_of (pt_val (peS e) he) ?_
  refine h W tk σ F H st hx _ fun d z v F' H' ⟨k, hd, hp⟩ s' e' r' => ?_
  subst hd
  exact ⟨k, rd_bl r', hQ k F' H' hp s' e'⟩
theorem wt_not (h : WT X g a env (fun k => Φ (!k)) Ψ) : WT X g (.UnaryOp .Not a pos) env Φ Ψ := fun W tk σ F H st hx Q hQ =>
  semT_of (pt_not (ptS a)) (h W tk σ F H st hx _ fun k F' H' hp s' e' => hQ _ F' H' hp s' e')
theorem we_not {Φ : PyData → Bool → Prop} (h : WE X g a env (fun d _ => ∃ k, d = .bool k ∧ Φ (.bool !k) true) Ψ) : WE X g (.UnaryOp .Not a pos) env Φ Ψ := fun W tk σ F H st hx Q hQ =>
  semE_of (pe_not (peS a)) (h W tk σ F H st hx _ fun d z v F' H' ⟨k, hd, hp⟩ s' e' r' => by
    subst hd
    exact ⟨k, rd_bl r', hQ _ true _ F' H' hp s' e' (.bl _)⟩)
theorem pwS (e : Expr) (t : TT) (h : ∀ {σ H Q}, t σ H Q → ∀ (whole : Sem Value) (pins : List (Addr × Obj)) (s : Shared), Inv X pins σ H s → wpAny (model X.prog X.w) X.A (isTrue e X.env whole) (TP X pins σ Q) X.xe s) : PW X e t := ⟨fun whole pins s σ H Q I q => h q whole pins s I⟩
/-- semantic reading of an and/or whatever its whole is -/
structure SemW (X : Cx) (e : Expr) (σ : SS) (H : Hp) (Q : Bool → Hp → Prop) : Prop where
  run : ∀ (whole : Sem Value) (pins : List (Addr × Obj)) (s : Shared), Inv X pins σ H s → wpAny (model X.prog X.w) X.A (isTrue e X.env whole) (TP X pins σ Q) X.xe s
def semW (X : Cx) (e : Expr) : TT := fun σ H Q => SemW X e σ H Q
theorem pwW (e : Expr) : PW X e (semW X e) := ⟨fun whole pins s σ H Q I q => q.run whole pins s I⟩
theorem semW_of {e : Expr} {t : TT} (h : PW X e t) {σ : SS} {H : Hp} {Q : Bool → Hp → Prop} (q : t σ H Q) : semW X e σ H Q := ⟨fun whole pins s I => h.run whole pins s σ H Q I q⟩
/-- a test, whatever its whole is -/
def WW (X : Cx) (g : G) (e : Expr) (env : List Sl) (Φ : Bool → Prop) (Ψ : Exc → Prop) : Prop :=
  ∀ (W : WX), Takes X W → ∀ (σ : SS) (F H : Hp), St X.K g F H σ env → HX X g env Ψ W σ →
    ∀ Q : Bool → Hp → Prop, (∀ b F' H', Φ b → St X.K g F' H' σ env → Ex F F' → Q b H') → semW X e σ H Q
theorem wt_ww (h : WW X g e env Φ Ψ) : WT X g e env Φ Ψ := fun W tk σ F H st hx Q hQ => semT_of (pwW e).pt (h W tk σ F H st hx Q hQ)
theorem ww_and {rest : List Expr} (h : WT X g a env (fun k => (k = true → WW X g (.BoolOp .And (b :: rest) pos) env Φ Ψ) ∧ (k = false → Φ false)) Ψ) : WW X g (.BoolOp .And (a :: b :: rest) pos) env Φ Ψ := fun W tk σ F H st hx Q hQ => by
  refine semW_of (pw_and (ptS a) (pwW _)) ?_
  refine h W tk σ F H st hx _ fun k F' H' ⟨ht, hf⟩ s' e' => ?_
  cases k with
  | true => rw [if_pos rfl]; exact ht rfl W tk σ F' H' s' hx Q fun k F2 H2 hp s2 e2 => hQ k F2 H2 hp s2 (e'.trans e2)
  | false => rw [if_neg Bool.false_ne_true]; exact hQ false F' H' (hf rfl) s' e'
theorem ww_or {rest : List Expr} (h : WT X g a env (fun k => (k = true → Φ true) ∧ (k = false → WW X g (.BoolOp .Or (b :: rest) pos) env Φ Ψ)) Ψ) : WW X g (.BoolOp .Or (a :: b :: rest) pos) env Φ Ψ := fun W tk σ F H st hx Q hQ => by
  refine semW_of (pw_or (ptS a) (pwW _)) ?_
  refine h W tk σ F H st hx _ fun k F' H' ⟨ht, hf⟩ s' e' => ?_
  cases k with
  | true => rw [if_pos rfl]; exact hQ true F' H' (ht rfl) s' e'
  | false => rw [if_neg Bool.false_ne_true]; exact hf rfl W tk σ F' H' s' hx Q fun k F2 H2 hp s2 e2 => hQ k F2 H2 hp s2 (e'.trans e2)
theorem ww_and1 (h : WT X g a env Φ Ψ) : WW X g (.BoolOp .And [a] pos) env Φ Ψ := fun W tk σ F H st hx Q hQ => semW_of (pw_and1 (ptS a)) (h W tk σ F H st hx Q hQ)
theorem ww_or1 (h : WT X g a env Φ Ψ) : WW X g (.BoolOp .Or [a] pos) env Φ Ψ := fun W tk σ F H st hx Q hQ => semW_of (pw_or1 (ptS a)) (h W tk σ F H st hx Q hQ)
end
section
variable {Φ : PyData → Bool → Prop}
/-- as values (truths) -/
theorem we_one {op : BoolOp} (h : WE X g a env Φ Ψ) : WE X g (.BoolOp op [a] pos) env Φ Ψ := fun W tk σ F H st hx Q hQ => semE_of (pe_one (peS a)) (h W tk σ F H st hx Q hQ)
theorem we_and {rest : List Expr} (h : WE X g a env (fun d _ => ∃ k, d = .bool k ∧ (k = true → WE X g (.BoolOp .And (b :: rest) pos) env Φ Ψ) ∧ (k = false → Φ (.bool false) true)) Ψ) : WE X g (.BoolOp .And (a :: b :: rest) pos) env Φ Ψ := fun W tk σ F H st hx Q hQ => by
  refine semE_of (pe_and (peS a) (peS _)) ?_
  refine h W tk σ F H st hx _ fun d z v F' H' ⟨k, hd, ht, hf⟩ s' e' r' => ?_
  subst hd
  refine ⟨k, rd_bl r', ?_⟩
  cases k with
  | true => rw [if_pos rfl]; exact ht rfl W tk σ F' H' s' hx Q fun d z v F2 H2 hp s2 e2 => hQ d z v F2 H2 hp s2 (e'.trans e2)
  | false => rw [if_neg Bool.false_ne_true]; exact hQ _ true _ F' H' (hf rfl) s' e' (.bl false)
theorem we_or {rest : List Expr} (h : WE X g a env (fun d _ => ∃ k, d = .bool k ∧ (k = true → Φ (.bool true) true) ∧ (k = false → WE X g (.BoolOp .Or (b :: rest) pos) env Φ Ψ)) Ψ) : WE X g (.BoolOp .Or (a :: b :: rest) pos) env Φ Ψ := fun W tk σ F H st hx Q hQ => by
  refine semE_of (pe_or (peS a) (peS _)) ?_
  refine h W tk σ F H st hx _ fun d z v F' H' ⟨k, hd, ht, hf⟩ s' e' r' => ?_
  subst hd
  refine ⟨k, rd_bl r', ?_⟩
  cases k with
  | true => rw [if_pos rfl]; exact hQ _ true _ F' H' (ht rfl) s' e' (.bl true)
  | false => rw [if_neg Bool.false_ne_true]; exact hf rfl W tk σ F' H' s' hx Q fun d z v F2 H2 hp s2 e2 => hQ d z v F2 H2 hp s2 (e'.trans e2)
theorem we_if (h : WT X g c env (fun k => (k = true → WE X g a env Φ Ψ) ∧ (k = false → WE X g b env Φ Ψ)) Ψ) : WE X g (.IfExp c a b pos) env Φ Ψ := fun W tk σ F H st hx Q hQ => by
  refine semE_of (pe_ifExp (ptS c) (peS a) (peS b)) ?_
  refine h W tk σ F H st hx _ fun k F' H' ⟨ht, hf⟩ s' e' => ?_
  cases k with
  | true => rw [if_pos rfl]; exact ht rfl W tk σ F' H' s' hx Q fun d z v F2 H2 hp s2 e2 => hQ d z v F2 H2 hp s2 (e'.trans e2)
  | false => rw [if_neg Bool.false_ne_true]; exact hf rfl W tk σ F' H' s' hx Q fun d z v F2 H2 hp s2 e2 => hQ d z v F2 H2 hp s2 (e'.trans e2)
end

/-! ### subscripts -/
inductive IxP (Φ : PyData → Bool → Prop) : PyData → Bool → PyData → Bool → Prop
  | lst {xs : List PyData} {i : Int} {x : PyData} {z1 z2 : Bool} : Φ x true → atI xs i = some x → IxP Φ (.list xs) z1 (.int i) z2
  | tup {xs : List PyData} {i : Int} {x : PyData} {z1 z2 : Bool} : Φ x true → atI xs i = some x → IxP Φ (.tuple xs) z1 (.int i) z2
  | str {s : Str} {i : Int} {c : Nat} {z1 z2 : Bool} : Φ (.str ⟨#[c]⟩) true → s.length ≤ sizeLine → atI s.cps.toList i = some c → IxP Φ (.str s) z1 (.int i) z2
theorem dpa_at {ds : List PyData} {vs : List V} {i : Int} {d : PyData} (h : DqAll K H vs ds) (e : atI ds i = some d) : ∃ v, atI vs i = some v ∧ Dq K H v d := by
  unfold atI at e ⊢
  rw [dpa_len h]
  cases q : ixN ds.length i with
  | none => rw [q] at e; cases e
  | some j =>
    rw [q] at e
    obtain ⟨v, h1, h2⟩ := dpa_get h (show ds[j]? = some d from e)
    exact ⟨v, h1, h2⟩
theorem dop_ix {Φ : PyData → Bool → Prop} {d1 d2 : PyData} {z1 z2 : Bool} (h : IxP Φ d1 z1 d2 z2) : DOp K g env (rIx K) d1 z1 d2 z2 Φ := by
  cases h with
  | lst hp ha =>
    refine dop_l fun σ F H v1 v2 st r1 r2 Q hQ => ?_
    obtain ⟨a1, vs1, rfl, s1, p1⟩ := rd_lst st.toSk r1
    obtain ⟨v, e1, e2⟩ := dpa_at p1 ha
    exact ⟨a1, vs1, _, v, rfl, rd_int r2, s1, e1, hQ _ true _ F H hp st (Ex.refl F) e2⟩
  | tup hp ha =>
    refine dop_r (dop_l fun σ F H v1 v2 st r1 r2 Q hQ => ?_)
    obtain ⟨a1, vs1, rfl, s1, p1⟩ := rd_tup st.toSk r1
    obtain ⟨v, e1, e2⟩ := dpa_at p1 ha
    exact ⟨a1, vs1, _, v, rfl, rd_int r2, s1, e1, hQ _ true _ F H hp st (Ex.refl F) e2⟩
  | str hp hl ha => exact dop_r (dop_r fun σ F H v1 v2 st r1 r2 Q hQ => ⟨_, _, _, rd_str r1, rd_int r2, hl, ha, hQ _ true _ F H hp st (Ex.refl F) (.str _)⟩)
theorem we_ix {Φ : PyData → Bool → Prop} (h : WE X g a env (fun d1 z1 => WE X g b env (fun d2 z2 => IxP Φ d1 z1 d2 z2) Ψ) Ψ) (hs : PlainIx b := by exact fun _ _ => rfl) : WE X g (.Subscript a b pos) env Φ Ψ :=
  we_op (pe_ix ix_seq (peS a) (peS b) hs) (fun _ _ _ _ => dop_ix) h
end
end TL

namespace TL
open PySem PySem.Spec PyProof.Rows L2

/-! ### contracts -/
inductive PR where
  | rd (d : PyData)
  | nl (ds : List PyData)
  | ar (i : Nat)
  | nt (kvs : List (List Key × PyData))
  | nk (kvs : List (Key × PyData))
abbrev CT := List Sl → (PR → List Sl → Prop) → (Exc → List Sl → Prop) → Prop
def Step (F H : Hp) (args : List Sl) (F' H' : Hp) : Prop :=
  Ex F F' ∧ (∀ a o, H a = some o → ¬ Own args a → H' a = some o) ∧ (∀ a, F' a ≠ none → F a ≠ none ∨ H a = none) ∧ ∀ a, H a ≠ none → H' a ≠ none
def PrOk (K : Frag) (vs : List V) (H F' H' : Hp) (args' : List Sl) (v : V) : PR → Prop
  | .rd d => Dq K F' v d
  | .nl ds => ∃ p xs, v = .ref p ∧ H' p = some (.lst xs) ∧ DqAll K F' xs ds ∧ F' p = none ∧ H p = none ∧ ¬ Own args' p
  | .ar i => vs[i]? = some v
  | .nt kvs => ∃ p xs, v = .ref p ∧ H' p = some (.dT xs) ∧ KVp K F' xs kvs ∧ F' p = none ∧ H p = none ∧ ¬ Own args' p
  | .nk kvs => ∃ p xs, v = .ref p ∧ H' p = some (.dK xs) ∧ KVp K F' xs kvs ∧ F' p = none ∧ H p = none ∧ ¬ Own args' p
def ExcE (K : Frag) (E : XK) (H : Hp) : Exc → Prop
  | .own n => E (.ref (He.ga K n)) none H
def spOf (K : Frag) (n : Nat) (S : CT) : Sp := fun vs H Q E => vs.length = n ∧ ∃ F args Φ Ψ, S args Φ Ψ ∧ Sk K F H (vs.map some) args ∧
  (∀ r v args' F' H', Φ r args' → Sk K F' H' (vs.map some) args' → Step F H args F' H' → (∀ a, Own args' a → Own args a) → PrOk K vs H F' H' args' v r → Q v H') ∧
  (∀ c args' F' H', Ψ c args' → Sk K F' H' (vs.map some) args' → Step F H args F' H' → (∀ a, Own args' a → Own args a) → ExcE K E H' c)
structure Has (P : Program) (w : World) (K : Frag) (mg : Str → Option Value) (base : Heap) (k : Nat) (x : Str) (ps : List Str) (S : CT) : Prop where
  ex : ∃ f fd, mg x = some (.ref f) ∧ PySem.W.keepIn K (.ref f) = true ∧ Binds K fd ps [] ∧ FnOk P w K mg base (L2.CX P w) k f fd ps (spOf K ps.length S)

/-! ### arguments -/
structure SemA (X : Cx) (es : List Expr) (σ : SS) (H : Hp) (Q : List V → Hp → Prop) : Prop where
  run : ∀ (pos : Pos) (pins : List (Addr × Obj)) (s : Shared), Inv X pins σ H s → wpAny (model X.prog X.w) X.A (spliced (backTo pos (starEach es X.env))) (AP X pins σ Q) X.xe s
def semA (X : Cx) (es : List Expr) : TA := fun σ H Q => SemA X es σ H Q
theorem paS {X : Cx} (es : List Expr) : PA X es (semA X es) := ⟨fun pos pins s σ H Q I h => h.run pos pins s I⟩
theorem semA_of {X : Cx} {es : List Expr} {t : TA} (h : PA X es t) {σ : SS} {H : Hp} {Q : List V → Hp → Prop} (q : t σ H Q) : semA X es σ H Q := ⟨fun pos pins s I => h.run pos pins s σ H Q I q⟩
def WAs (X : Cx) (g : G) (es : List Expr) (env : List Sl) (Φ : List Ar → Prop) (Ψ : Exc → Prop) : Prop :=
  ∀ (W : WX), Takes X W → ∀ (σ : SS) (F H : Hp), St X.K g F H σ env → HX X g env Ψ W σ →
    ∀ Q : List V → Hp → Prop, (∀ as vs F' H', Φ as → St X.K g F' H' σ env → Ex F F' → ArAll X.K F' σ vs as → Q vs H') → semA X es σ H Q
section
variable {X : Cx} {g : G} {env : List Sl} {Ψ : Exc → Prop} {pos p : Pos} {a b c e : Expr} {es : List Expr} {K : Frag} {F F' H H' : Hp} {σ : SS}
theorem arall_mono (e : Ex F F') : ∀ {vs : List V} {as : List Ar}, ArAll K F σ vs as → ArAll K F' σ vs as
  | [], [], _ => trivial
  | _ :: _, .d x :: _, ⟨h1, h2⟩ => ⟨dp_mono e _ _ h1, arall_mono e h2⟩
  | _ :: _, .s i :: _, ⟨h1, h2⟩ => ⟨h1, arall_mono e h2⟩
section
variable {Φ : List Ar → Prop}
theorem wa_nil (h : Φ []) : WAs X g [] env Φ Ψ := fun W tk σ F H st hx Q hQ => semA_of pa_nil (hQ [] [] F H h st (Ex.refl F) trivial)
/-- an argument that is data -/
theorem wa_d (he : WE X g e env (fun d z => z = true ∧ WAs X g es env (fun as => Φ (.d d :: as)) Ψ) Ψ) (hs : starEach (e :: es) X.env = (false, eval e X.env) :: starEach es X.env := by rfl) : WAs X g (e :: es) env Φ Ψ := fun W tk σ F H st hx Q hQ => by
  refine semA_of (pa_cons (peS e) (paS es) hs) ?_
  refine he W tk σ F H st hx _ fun d z v F1 H1 ⟨hz, hp⟩ s1 e1 r1 => ?_
  subst hz
  exact hp W tk σ F1 H1 s1 hx _ fun as vs F2 H2 hp2 s2 e2 r2 => hQ (.d d :: as) (v :: vs) F2 H2 hp2 s2 (e1.trans e2) ⟨dp_mono e2 _ _ r1, r2⟩
/-- an object that a slot holds -/
theorem wa_s (i : Nat) {x : Str} {s : Sl} (h : WAs X g es env (fun as => Φ (.s i :: as)) Ψ) (he : env[i]? = some s := by rfl) (hne : s.fp ≠ [] := by (intro h; cases h)) (hN : X.N[i]? = some x := by rfl)
    (hv : Vis X.env.scope x := by first | exact Or.inl rfl | exact Or.inr (Or.inl rfl) | exact Or.inr (Or.inr rfl)) (hd : (x == ("__debug__" : Str)) = false := by decide)
    (hcd : (x == ("__classdict__" : Str)) = false := by decide) (hs : starEach ((.Name x pos) :: es) X.env = (false, eval (.Name x pos) X.env) :: starEach es X.env := by rfl) : WAs X g (.Name x pos :: es) env Φ Ψ := fun W tk σ F H st hx Q hQ => by
  refine semA_of (pa_cons (pe_var hN hv hd hcd) (paS es) hs) ?_
  have q := st.sl i s he
  obtain ⟨v, hv⟩ : ∃ v, σ[i]?.getD none = some v := by
    cases s with
    | un => exact absurd rfl hne
    | d x => exact absurd rfl hne
    | v x => exact ⟨_, q⟩
    | ol a ds => exact ⟨_, q.1⟩
    | bg a => exact ⟨_, q.1⟩
    | dt a ds => exact ⟨_, q.1⟩
    | dk a ds => exact ⟨_, q.1⟩
    | oo a ds => exact ⟨_, q.1⟩
  exact ⟨v, getD_some hv, h W tk σ F H st hx _ fun as vs F2 H2 hp2 s2 e2 r2 => hQ (.s i :: as) (v :: vs) F2 H2 hp2 s2 e2 ⟨getD_some hv, r2⟩⟩
end

/-! ### displays -/
def datas : List Ar → Option (List PyData)
  | [] => some []
  | .d x :: r => (datas r).map (x :: ·)
  | .s _ :: _ => none
theorem dpa_datas : ∀ {as : List Ar} {ds : List PyData} {vs : List V}, datas as = some ds → ArAll K F σ vs as → DqAll K F vs ds
  | [], _, [], h, _ => by cases h; exact .nil
  | .d x :: r, _, _ :: _, h, ⟨h1, h2⟩ => by
    obtain ⟨ds, e1, e2⟩ := Option.map_eq_some_iff.mp (show (datas r).map (x :: ·) = some _ from h)
    subst e2
    exact .cons h1 (dpa_datas e1 h2)
  | .s _ :: _, _, _, h, _ => by cases h
theorem wn_list {Φ : List PyData → Prop} (h : WAs X g es env (fun as => ∃ ds, datas as = some ds ∧ ds.length ≤ sizeLine ∧ Φ ds) Ψ) : WN X g (.List es pos) env Φ Ψ := fun W tk σ F H st hx Q hQ => by
  refine semE_of (pe_lst (paS es)) ?_
  refine h W tk σ F H st hx _ fun as vs F1 H1 ⟨ds, e1, hl, hp⟩ s1 ex1 r1 => ?_
  have hd := dpa_datas e1 r1
  refine ⟨by rw [dpa_len hd]; exact hl, fun p hn => ?_⟩
  exact put_new s1 hn hd hp fun ds v F' H' hp s e r => hQ ds v F' H' hp s (ex1.trans e) r
theorem we_list {Φ : PyData → Bool → Prop} (h : WAs X g es env (fun as => ∃ ds, datas as = some ds ∧ ds.length ≤ sizeLine ∧ Φ (.list ds) true) Ψ) : WE X g (.List es pos) env Φ Ψ := we_of_wn (wn_list h)
theorem we_tuple {x1 : Nat} {Φ : PyData → Bool → Prop} (h : WAs X g es env (fun as => ∃ ds, datas as = some ds ∧ ds.length ≤ sizeLine ∧ Φ (.tuple ds) true) Ψ) : WE X g (.Tuple es x1 pos) env Φ Ψ := fun W tk σ F H st hx Q hQ => by
  refine semE_of (pe_tup (paS es)) ?_
  refine h W tk σ F H st hx _ fun as vs F1 H1 ⟨ds, e1, hl, hp⟩ s1 ex1 r1 => ?_
  have hd := dpa_datas e1 r1
  refine ⟨by rw [dpa_len hd]; exact hl, fun p hn => ?_⟩
  exact put_tup s1 hn hd hp fun d z v F' H' hp s e r => hQ d z v F' H' hp s (ex1.trans e) r

/-! ### calls of defs -/
def slOf (env : List Sl) : Ar → Sl
  | .d x => .d x
  | .s i => env[i]?.getD .un
def arIx : List Ar → List Nat
  | [] => []
  | .s i :: r => i :: arIx r
  | .d _ :: r => arIx r
theorem arall_len : ∀ {vs : List V} {as : List Ar}, ArAll K F σ vs as → vs.length = as.length
  | [], [], _ => rfl
  | _ :: _, _ :: _, ⟨_, h⟩ => congrArg Nat.succ (arall_len h)
  | [], _ :: _, h => h.elim
  | _ :: _, [], h => h.elim
theorem arall_get : ∀ {vs : List V} {as : List Ar} {j : Nat} {a : Ar}, ArAll K F σ vs as → as[j]? = some a → ∃ v, vs[j]? = some v ∧ ArOk K F σ v a
  | [], [], j, a, _, h => by simp at h
  | v :: vs, x :: as, 0, a, ⟨h1, _⟩, h => by
    have e := Option.some.inj h
    subst e
    exact ⟨v, rfl, h1⟩
  | v :: vs, x :: as, j + 1, a, ⟨_, h2⟩, h => arall_get (j := j) h2 h
  | [], _ :: _, _, _, h, _ => h.elim
  | _ :: _, [], _, _, h, _ => h.elim
theorem arix_mem : ∀ {as : List Ar} {j i : Nat}, as[j]? = some (.s i) → i ∈ arIx as
  | .s k :: r, 0, i, h => by
    have e := Option.some.inj h
    injection e with e
    subst e
    exact List.mem_cons_self ..
  | .d x :: r, 0, i, h => by have e := Option.some.inj h; cases e
  | .s k :: r, j + 1, i, h => List.mem_cons_of_mem _ (arix_mem (as := r) (j := j) h)
  | .d x :: r, j + 1, i, h => arix_mem (as := r) (j := j) h
  | [], _, _, h => by simp at h
/-- the same slot is not handed on twice -/
theorem arix_inj : ∀ {as : List Ar} {j k i : Nat}, (arIx as).Nodup → as[j]? = some (.s i) → as[k]? = some (.s i) → j = k
  | [], _, _, _, _, h, _ => by simp at h
  | _ :: _, 0, 0, _, _, _, _ => rfl
  | .s l :: r, 0, k + 1, i, nd, h1, h2 => by
    have e := Option.some.inj h1
    injection e with e
    subst e
    exact absurd (arix_mem (as := r) (j := k) h2) (List.nodup_cons.mp nd).1
  | .s l :: r, j + 1, 0, i, nd, h1, h2 => by
    have e := Option.some.inj h2
    injection e with e
    subst e
    exact absurd (arix_mem (as := r) (j := j) h1) (List.nodup_cons.mp nd).1
  | .d l :: r, 0, k + 1, i, nd, h1, h2 => by have e := Option.some.inj h1; cases e
  | .d l :: r, j + 1, 0, i, nd, h1, h2 => by have e := Option.some.inj h2; cases e
  | .s l :: r, j + 1, k + 1, i, nd, h1, h2 => congrArg Nat.succ (arix_inj (as := r) (List.nodup_cons.mp nd).2 h1 h2)
  | .d l :: r, j + 1, k + 1, i, nd, h1, h2 => congrArg Nat.succ (arix_inj (as := r) nd h1 h2)
theorem map_get {α β : Type} {f : α → β} {l : List α} {j : Nat} {y : β} (h : (l.map f)[j]? = some y) : ∃ x, l[j]? = some x ∧ f x = y := by
  rw [List.getElem?_map] at h
  exact Option.map_eq_some_iff.mp h
theorem vmap_get {vs : List V} {j : Nat} {v : V} (h : vs[j]? = some v) : ((vs.map some)[j]?.getD none : Option V) = some v := by
  rw [List.getElem?_map, h]; rfl
/-- what the callee is handed -/
theorem Sk.callee {as : List Ar} {vs : List V} (st : Sk K F H σ env) (ha : ArAll K F σ vs as) (nd : (arIx as).Nodup) (hs : ∀ i ∈ arIx as, i < env.length) : Sk K F H (vs.map some) (as.map (slOf env)) where
  len := by rw [List.length_map, List.length_map]; exact arall_len ha
  sl := fun j s e => by
    obtain ⟨a, ea, es⟩ := map_get e
    obtain ⟨v, ev, hv⟩ := arall_get ha ea
    rw [vmap_get ev]
    cases a with
    | d x => rw [← es]; exact ⟨v, rfl, hv⟩
    | s i =>
      have hi := hs i (arix_mem ea)
      have q := st.sl i _ (List.getElem?_eq_getElem hi)
      have hv' : σ[i]? = some (some v) := hv
      rw [hv'] at q
      have e2 : s = env[i] := by rw [← es]; show env[i]?.getD .un = _; rw [List.getElem?_eq_getElem hi]; rfl
      rw [e2]; exact q
  nd := fun j k s t a ej ek h1 h2 => by
    obtain ⟨x, ex, rfl⟩ := map_get ej
    obtain ⟨y, ey, rfl⟩ := map_get ek
    cases x with
    | d z => cases h1
    | s i =>
      cases y with
      | d z => cases h2
      | s l =>
        have hi := hs i (arix_mem ex)
        have hl := hs l (arix_mem ey)
        have e1 : slOf env (.s i) = env[i] := by show env[i]?.getD .un = _; rw [List.getElem?_eq_getElem hi]; rfl
        have e2 : slOf env (.s l) = env[l] := by show env[l]?.getD .un = _; rw [List.getElem?_eq_getElem hl]; rfl
        rw [e1] at h1
        rw [e2] at h2
        have e := st.nd i l _ _ a (List.getElem?_eq_getElem hi) (List.getElem?_eq_getElem hl) h1 h2
        subst e
        exact arix_inj nd ex ey
  fr := fun a ⟨j, s, e, h1⟩ => by
    obtain ⟨x, ex, rfl⟩ := map_get e
    cases x with
    | d z => cases h1
    | s i =>
      have hi := hs i (arix_mem ex)
      have e1 : slOf env (.s i) = env[i] := by show env[i]?.getD .un = _; rw [List.getElem?_eq_getElem hi]; rfl
      exact st.fr a ⟨i, env[i], List.getElem?_eq_getElem hi, by rw [← e1]; exact h1⟩
  ex := st.ex
  tf := st.tf
theorem own_args {as : List Ar} {a : Addr} (h : Own (as.map (slOf env)) a) : ∃ (j i : Nat) (s : Sl), as[j]? = some (.s i) ∧ env[i]? = some s ∧ a ∈ s.fp := by
  obtain ⟨j, s, e, h1⟩ := h
  obtain ⟨x, ex, rfl⟩ := map_get e
  cases x with
  | d z => cases h1
  | s i =>
    cases q : env[i]? with
    | none => have e1 : slOf env (.s i) = .un := by show env[i]?.getD .un = _; rw [q]; rfl
              rw [e1] at h1; cases h1
    | some s => have e1 : slOf env (.s i) = s := by show env[i]?.getD .un = _; rw [q]; rfl
                rw [e1] at h1; exact ⟨j, i, s, ex, q, h1⟩
/-- behind a call: the slots that were handed on are as the callee left them -/
theorem St.called {as : List Ar} {vs : List V} {args' env' : List Sl} (st : St K g F H σ env) (ha : ArAll K F σ vs as) (sk : Sk K F' H' (vs.map some) args') (hst : Step F H (as.map (slOf env)) F' H')
    (hl : env'.length = env.length) (hk : ∀ (i : Nat) (s : Sl), i ∉ arIx as → env'[i]? = some s → env[i]? = some s) (hp : ∀ (j i : Nat) (s : Sl), as[j]? = some (Ar.s i) → env'[i]? = some s → args'[j]? = some s)
    (hsub : ∀ (i : Nat) (s s' : Sl), env[i]? = some s → env'[i]? = some s' → ∀ a ∈ s'.fp, a ∈ s.fp) : St K g F' H' σ env' := by
  obtain ⟨e1, e2, e3, e4⟩ := hst
  have sub : ∀ a, Own env' a → Own env a := fun a ⟨i, s', h1, h2⟩ => by
    have hi : i < env.length := by rw [← hl]; exact (List.getElem?_eq_some_iff.mp h1).1
    exact ⟨i, env[i], List.getElem?_eq_getElem hi, hsub i _ s' (List.getElem?_eq_getElem hi) h1 a h2⟩
  have ownA : ∀ a, Own (as.map (slOf env)) a → Own env a := fun a h => by
    obtain ⟨j, i, s, _, h2, h3⟩ := own_args h
    exact ⟨i, s, h2, h3⟩
  have ixs : ∀ (i : Nat), i ∈ arIx as → ∃ j : Nat, as[j]? = some (Ar.s i) := fun i h => by
    clear hp hk ownA e2 ha
    induction as with
    | nil => cases h
    | cons x r ih =>
      cases x with
      | d z => obtain ⟨j, hj⟩ := ih h; exact ⟨j + 1, hj⟩
      | s l =>
        rcases List.mem_cons.mp (show i ∈ l :: arIx r from h) with e | h
        · subst e; exact ⟨0, rfl⟩
        · obtain ⟨j, hj⟩ := ih h; exact ⟨j + 1, hj⟩
  refine { len := by rw [hl]; exact st.len, sl := fun i s e => ?_, nd := fun i j s t a ei ej h1 h2 => ?_, fr := fun a h => ?_, ex := sk.ex, tf := sk.tf, g1 := fun a o h m => ?_, g2 := fun a h => st.g2 a (sub a h), g3 := st.g3.trans e1, g4 := fun a h => ?_, g5 := fun a m z => ?_, g6 := st.g6 }
  · by_cases hi : i ∈ arIx as
    · obtain ⟨j, hj⟩ := ixs i hi
      have q := sk.sl j s (hp j i s hj e)
      obtain ⟨v, ev, hv⟩ := arall_get ha hj
      rw [vmap_get ev] at q
      have hv' : σ[i]? = some (some v) := hv
      rw [hv']; exact q
    · have e' := hk i s hi e
      refine slok_mono e1 (fun a h u q => e2 a u q fun z => ?_) (st.sl i s e')
      obtain ⟨j, l, t, h3, h4, h5⟩ := own_args z
      have el := st.nd i l s t a e' h4 h h5
      subst el
      exact hi (arix_mem h3)
  · have hi : i < env.length := by rw [← hl]; exact (List.getElem?_eq_some_iff.mp ei).1
    have hj : j < env.length := by rw [← hl]; exact (List.getElem?_eq_some_iff.mp ej).1
    exact st.nd i j _ _ a (List.getElem?_eq_getElem hi) (List.getElem?_eq_getElem hj) (hsub i _ s (List.getElem?_eq_getElem hi) ei a h1) (hsub j _ t (List.getElem?_eq_getElem hj) ej a h2)
  · have ho := sub a h
    cases q : F' a with
    | none => rfl
    | some u =>
      rcases e3 a (by rw [q]; intro z; cases z) with z | z
      · exact absurd (st.fr a ho) z
      · exact absurd z (st.there ho)
  · refine e2 a o (st.g1 a o h m) fun z => ?_
    rcases st.g2 a (ownA a z) with q | q
    · rw [q] at h; cases h
    · exact m q
  · rcases e3 a h with z | z
    · exact st.g4 a z
    · exact .inr (st.h0 z)
  · exact e4 a (st.g5 a m) z
end
end TL

namespace TL
open PySem PySem.Spec PyProof.Rows L2

section
variable {X : Cx} {g : G} {env : List Sl} {Ψ : Exc → Prop} {pos p : Pos} {a b c e : Expr} {es : List Expr} {K : Frag} {F F' H H' : Hp} {σ : SS}

/-! ### calls of defs -/
def PRd : PR → PyData → Prop
  | .rd d, d' => d' = d
  | .nl ds, d' => d' = .list ds
  | .ar _, _ => False
  | .nt _, _ => False
  | .nk _, _ => False
def natNd : List Nat → Bool
  | [] => true
  | x :: r => (r.all fun y => !Nat.beq x y) && natNd r
def callOk (as : List Ar) (m n : Nat) : Bool := Nat.beq as.length m && natNd (arIx as) && (arIx as).all fun i => Nat.blt i n
theorem natNd_ok : ∀ {l : List Nat}, natNd l = true → l.Nodup
  | [], _ => List.nodup_nil
  | x :: r, h => by
    have h' : (r.all fun y => !Nat.beq x y) = true ∧ natNd r = true := Bool.and_eq_true_iff.mp h
    refine List.nodup_cons.mpr ⟨fun hm => ?_, natNd_ok h'.2⟩
    have q := List.all_eq_true.mp h'.1 x hm
    rw [Nat.beq_refl] at q
    cases q
theorem callOk_ok {as : List Ar} {m n : Nat} (h : callOk as m n = true) : as.length = m ∧ (arIx as).Nodup ∧ ∀ i ∈ arIx as, i < n := by
  have h1 : (Nat.beq as.length m && natNd (arIx as)) = true ∧ ((arIx as).all fun i => Nat.blt i n) = true := Bool.and_eq_true_iff.mp h
  have h2 := Bool.and_eq_true_iff.mp h1.1
  refine ⟨Nat.eq_of_beq_eq_true h2.1, natNd_ok h2.2, fun i hi => ?_⟩
  have q := List.all_eq_true.mp h1.2 i hi
  exact Nat.le_of_ble_eq_true q
theorem st_same {as : List Ar} {vs : List V} {args' : List Sl} (st : St K g F H σ env) (ha : ArAll K F σ vs as) (sk : Sk K F' H' (vs.map some) args') (hst : Step F H (as.map (slOf env)) F' H') (e : args' = as.map (slOf env)) : St K g F' H' σ env := by
  subst e
  refine st.called ha sk hst rfl (fun _ _ _ h => h) (fun j i s h1 h2 => ?_) (fun i s s' h1 h2 a h3 => ?_)
  · rw [List.getElem?_map, h1]
    show some (env[i]?.getD .un) = some s
    rw [h2]; rfl
  · rw [h1] at h2; cases h2; exact h3
/-- a def is called; what it was handed stays as it is described -/
theorem call_run {j k : Nat} {x : Str} {ps : List Str} {S : CT} {Φ : PR → Prop} (hf : Has X.prog X.w X.K X.mg X.base j x ps S) (hr : Room k X.A)
    (h : WAs X g (e :: es) env (fun as => callOk as ps.length env.length = true ∧ S (as.map (slOf env)) (fun r args' => args' = as.map (slOf env) ∧ Φ r) (fun c args' => args' = as.map (slOf env) ∧ Ψ c)) Ψ)
    (hj : j ≤ k) (hg : Gl X x) (hdb : (x == ("__debug__" : Str)) = false)
    (he : starEach (e :: es) X.env = (false, eval e X.env) :: starEach es X.env) (hpl : (backTo pos (starEach es X.env)).any (·.1) = false)
    {W : WX} (tk : Takes X W) (st : St X.K g F H σ env) (hx : HX X g env Ψ W σ) {Q : VK}
    (hQ : ∀ r vs v F1 H1 F' H' args', Φ r → St X.K g F' H' σ env → Ex F F' → St X.K g F1 H1 σ env → PrOk X.K vs H1 F' H' args' v r → Q v H') : semE X (.Call (.Name x p) (e :: es) [] pos) σ H Q := by
  obtain ⟨f, fd, hm, hk, hb, F0⟩ := hf.ex
  refine semE_of (pe_callS F0 (hr.mono hj) hg hm hk hb (fun σ => passAt tk σ) (paS (e :: es)) hdb he hpl) ?_
  refine h W tk σ F H st hx _ fun as vs F1 H1 ⟨hok, hS⟩ s1 e1 ra => ?_
  obtain ⟨h1, h2, h3⟩ := callOk_ok hok
  refine ⟨by rw [arall_len ra, h1], F1, as.map (slOf env), _, _, hS, s1.toSk.callee ra h2 h3, fun r v args' F' H' ⟨ea, hp⟩ sk hst _ pr => ?_, fun c args' F' H' ⟨ea, hp⟩ sk hst _ => ?_⟩
  · exact hQ r vs v F1 H1 F' H' args' hp (st_same s1 ra sk hst ea) (e1.trans hst.1) s1 pr
  · have := hx c F' H' hp (st_same s1 ra sk hst ea)
    cases c
    exact this
theorem we_call {j k : Nat} {x : Str} {ps : List Str} {S : CT} {Φ : PyData → Bool → Prop} (hf : Has X.prog X.w X.K X.mg X.base j x ps S) (hr : Room k X.A)
    (h : WAs X g (e :: es) env (fun as => callOk as ps.length env.length = true ∧ S (as.map (slOf env)) (fun r args' => args' = as.map (slOf env) ∧ ∃ d, PRd r d ∧ Φ d true) (fun c args' => args' = as.map (slOf env) ∧ Ψ c)) Ψ)
    (hj : j ≤ k := by omega) (hg : Gl X x := by rfl) (hdb : (x == ("__debug__" : Str)) = false := by decide)
    (he : starEach (e :: es) X.env = (false, eval e X.env) :: starEach es X.env := by rfl) (hpl : (backTo pos (starEach es X.env)).any (·.1) = false := by rfl) : WE X g (.Call (.Name x p) (e :: es) [] pos) env Φ Ψ := fun W tk σ F H st hx Q hQ => by
  refine call_run (Φ := fun r => ∃ d, PRd r d ∧ Φ d true) hf hr h hj hg hdb he hpl tk st hx fun r vs v F1 H1 F' H' args' ⟨d, hd, hp⟩ s' e' s1 pr => ?_
  cases r with
  | rd d0 => subst hd; exact hQ _ true v F' H' hp s' e' pr
  | nl ds =>
    subst hd
    obtain ⟨q, xs, rfl, h1, h2, h3, h4, h5⟩ := pr
    have e2 := Ex.new (o := .lst xs) h3
    exact hQ (.list ds) true (.ref q) (upd F' q (.lst xs)) H' hp (s'.freeze h1 h3 (fun z => s1.there z h4) (s1.h0 h4)) (e'.trans e2) (.lst (SqL.of upd_same) (dpa_mono e2 _ _ h2))
  | ar i => exact hd.elim
  | nt _ => exact hd.elim
  | nk _ => exact hd.elim
theorem wn_call {j k : Nat} {x : Str} {ps : List Str} {S : CT} {Φ : List PyData → Prop} (hf : Has X.prog X.w X.K X.mg X.base j x ps S) (hr : Room k X.A)
    (h : WAs X g (e :: es) env (fun as => callOk as ps.length env.length = true ∧ S (as.map (slOf env)) (fun r args' => args' = as.map (slOf env) ∧ ∃ ds, r = .nl ds ∧ Φ ds) (fun c args' => args' = as.map (slOf env) ∧ Ψ c)) Ψ)
    (hj : j ≤ k := by omega) (hg : Gl X x := by rfl) (hdb : (x == ("__debug__" : Str)) = false := by decide)
    (he : starEach (e :: es) X.env = (false, eval e X.env) :: starEach es X.env := by rfl) (hpl : (backTo pos (starEach es X.env)).any (·.1) = false := by rfl) : WN X g (.Call (.Name x p) (e :: es) [] pos) env Φ Ψ := fun W tk σ F H st hx Q hQ => by
  refine call_run (Φ := fun r => ∃ ds, r = .nl ds ∧ Φ ds) hf hr h hj hg hdb he hpl tk st hx fun r vs v F1 H1 F' H' args' ⟨ds, hd, hp⟩ s' e' s1 pr => ?_
  subst hd
  obtain ⟨q, xs, rfl, h1, h2, h3, h4, h5⟩ := pr
  exact hQ ds (.ref q) F' H' hp s' e' ⟨q, xs, rfl, h1, h2, h3, fun z => s1.there z h4, s1.h0 h4⟩

/-! ### built-ins of one argument -/
theorem we_b1 {Φ : PyData → Bool → Prop} {R : PyData → Bool → Prop} {x : Str} {id : String} {r : List V → Hp → VK → Prop} (hc : CallR X (.builtin id) r) (hm : X.mg x = none) (hv : bootBuiltins x = some (.builtin id))
    (hr : ∀ d1 z1, R d1 z1 → DUn X.K g env (fun v => r [v]) d1 z1 Φ) (h : WE X g a env R Ψ) (hg : Gl X x := by rfl) (hn : x ≠ "__name__" := by decide) (hdb : (x == ("__debug__" : Str)) = false := by decide)
    (he : starEach [a] X.env = (false, eval a X.env) :: starEach [] X.env := by rfl) (hpl : (backTo pos (starEach ([] : List Expr) X.env)).any (·.1) = false := by rfl) : WE X g (.Call (.Name x p) [a] [] pos) env Φ Ψ := fun W tk σ F H st hx Q hQ => by
  refine semE_of (pe_callB hc hg hm hv (pa_cons (peS a) pa_nil he) hn hdb he hpl) ?_
  refine h W tk σ F H st hx _ fun d1 z1 v1 F1 H1 h1 st1 e1 r1 => ?_
  exact hr _ _ h1 σ F1 H1 v1 st1 r1 Q fun d z v F' H' hp s3 e3 r3 => hQ d z v F' H' hp s3 (e1.trans e3) r3
theorem we_t1 {Φ : PyData → Bool → Prop} {R : PyData → Bool → Prop} {x : Str} {id : String} {r : List V → Hp → VK → Prop} (hc : CallR X (.type id) r) (hm : X.mg x = none) (hv : bootBuiltins x = some (.type id))
    (hr : ∀ d1 z1, R d1 z1 → DUn X.K g env (fun v => r [v]) d1 z1 Φ) (h : WE X g a env R Ψ) (hg : Gl X x := by rfl) (hn : x ≠ "__name__" := by decide) (hdb : (x == ("__debug__" : Str)) = false := by decide)
    (he : starEach [a] X.env = (false, eval a X.env) :: starEach [] X.env := by rfl) (hpl : (backTo pos (starEach ([] : List Expr) X.env)).any (·.1) = false := by rfl) : WE X g (.Call (.Name x p) [a] [] pos) env Φ Ψ := fun W tk σ F H st hx Q hQ => by
  refine semE_of (pe_callTy hc hg hm hv (pa_cons (peS a) pa_nil he) hn hdb he hpl) ?_
  refine h W tk σ F H st hx _ fun d1 z1 v1 F1 H1 h1 st1 e1 r1 => ?_
  exact hr _ _ h1 σ F1 H1 v1 st1 r1 Q fun d z v F' H' hp s3 e3 r3 => hQ d z v F' H' hp s3 (e1.trans e3) r3
section
variable {Φ : PyData → Bool → Prop}
inductive LenP (Φ : PyData → Bool → Prop) : PyData → Bool → Prop
  | lst {xs : List PyData} {z : Bool} : Φ (.int xs.length) true → LenP Φ (.list xs) z
  | tup {xs : List PyData} {z : Bool} : Φ (.int xs.length) true → LenP Φ (.tuple xs) z
  | str {s : Str} {z : Bool} : Φ (.int s.length) true → s.length ≤ sizeLine → LenP Φ (.str s) z
theorem we_len (hm : X.mg "len" = none) (h : WE X g a env (LenP Φ) Ψ) (hg : Gl X "len" := by rfl) (he : starEach [a] X.env = (false, eval a X.env) :: starEach [] X.env := by rfl) : WE X g (.Call (.Name "len" p) [a] [] pos) env Φ Ψ :=
  we_b1 call_len hm PySem.boot_len (fun d1 z1 q σ F H v1 st r1 Q hQ => by
    cases q with
    | @lst xs z q =>
      obtain ⟨a1, vs1, rfl, s1, p1⟩ := rd_lst st.toSk r1
      exact ⟨_, xs.length, rfl, .inl ⟨_, s1, (dpa_len p1).symm⟩, hQ _ true _ F H q st (Ex.refl F) (.int _)⟩
    | @tup xs z q =>
      obtain ⟨a1, vs1, rfl, s1, p1⟩ := rd_tup st.toSk r1
      exact ⟨_, xs.length, rfl, .inr ⟨_, s1, (dpa_len p1).symm⟩, hQ _ true _ F H q st (Ex.refl F) (.int _)⟩
    | @str s z q hl => exact ⟨_, s.length, rfl, by rw [rd_str r1]; exact ⟨hl, rfl⟩, hQ _ true _ F H q st (Ex.refl F) (.int _)⟩) h hg (he := he)
theorem we_abs (hm : X.mg "abs" = none) (h : WE X g a env (fun d _ => ∃ i, d = .int i ∧ Φ (.int (if i < 0 then -i else i)) true) Ψ) (hg : Gl X "abs" := by rfl) (he : starEach [a] X.env = (false, eval a X.env) :: starEach [] X.env := by rfl) : WE X g (.Call (.Name "abs" p) [a] [] pos) env Φ Ψ :=
  we_b1 call_abs hm (by decide +kernel) (fun d1 z1 ⟨i, e, q⟩ σ F H v1 st r1 Q hQ => by
    subst e
    exact ⟨i, by rw [rd_int r1], hQ _ true _ F H q st (Ex.refl F) (.int _)⟩) h hg (he := he)
theorem we_sum (hm : X.mg "sum" = none) (hc : X.calm = true) (h : WE X g a env (fun d _ => ∃ ns : List Int, d = .list (ns.map .int) ∧ Φ (.int ns.sum) true) Ψ) (hg : Gl X "sum" := by rfl) (he : starEach [a] X.env = (false, eval a X.env) :: starEach [] X.env := by rfl) : WE X g (.Call (.Name "sum" p) [a] [] pos) env Φ Ψ :=
  we_b1 (cr_sum hc) hm (by decide +kernel) (fun d1 z1 ⟨ns, e, q⟩ σ F H v1 st r1 Q hQ => by
    subst e
    obtain ⟨a1, vs1, rfl, s1, p1⟩ := rd_lst st.toSk r1
    rw [dpa_ints_eq p1] at s1
    exact ⟨a1, ns, rfl, s1, hQ _ true _ F H q st (Ex.refl F) (.int _)⟩) h hg (he := he)
theorem dpa_bools_eq : ∀ {ns : List Bool} {vs : List V}, DqAll K H vs (ns.map PyData.bool) → vs = ns.map V.bl
  | [], _, h => by
    have h' : DqAll K H _ [] := h
    cases h'; rfl
  | n :: ns, _, h => by
    have h' : DqAll K H _ (.bool n :: ns.map PyData.bool) := h
    cases h' with
    | cons h1 h2 => rw [dp_bl h1, dpa_bools_eq h2]; rfl
theorem we_all (hm : X.mg "all" = none) (hc : X.calm = true) (h : WE X g a env (fun d _ => ∃ ns : List Bool, d = .list (ns.map .bool) ∧ Φ (.bool (ns.all id)) true) Ψ) (hg : Gl X "all" := by rfl) (he : starEach [a] X.env = (false, eval a X.env) :: starEach [] X.env := by rfl) : WE X g (.Call (.Name "all" p) [a] [] pos) env Φ Ψ :=
  we_b1 (cr_all hc) hm (by decide +kernel) (fun d1 z1 ⟨ns, e, q⟩ σ F H v1 st r1 Q hQ => by
    subst e
    obtain ⟨a1, vs1, rfl, s1, p1⟩ := rd_lst st.toSk r1
    rw [dpa_bools_eq p1] at s1
    exact ⟨a1, ns, rfl, s1, hQ _ true _ F H q st (Ex.refl F) (.bl _)⟩) h hg (he := he)
theorem we_any (hm : X.mg "any" = none) (hc : X.calm = true) (h : WE X g a env (fun d _ => ∃ ns : List Bool, d = .list (ns.map .bool) ∧ Φ (.bool (ns.any id)) true) Ψ) (hg : Gl X "any" := by rfl) (he : starEach [a] X.env = (false, eval a X.env) :: starEach [] X.env := by rfl) : WE X g (.Call (.Name "any" p) [a] [] pos) env Φ Ψ :=
  we_b1 (cr_any hc) hm (by decide +kernel) (fun d1 z1 ⟨ns, e, q⟩ σ F H v1 st r1 Q hQ => by
    subst e
    obtain ⟨a1, vs1, rfl, s1, p1⟩ := rd_lst st.toSk r1
    rw [dpa_bools_eq p1] at s1
    exact ⟨a1, ns, rfl, s1, hQ _ true _ F H q st (Ex.refl F) (.bl _)⟩) h hg (he := he)
inductive IntOfP (Φ : PyData → Bool → Prop) : PyData → Bool → Prop
  | int {i : Int} {z : Bool} : Φ (.int i) true → IntOfP Φ (.int i) z
  | bool {k : Bool} {z : Bool} : Φ (.int (if k then 1 else 0)) true → IntOfP Φ (.bool k) z
theorem we_intof (hm : X.mg "int" = none) (h : WE X g a env (IntOfP Φ) Ψ) (hg : Gl X "int" := by rfl) (he : starEach [a] X.env = (false, eval a X.env) :: starEach [] X.env := by rfl) : WE X g (.Call (.Name "int" p) [a] [] pos) env Φ Ψ :=
  we_t1 call_int1 hm (by decide +kernel) (fun d1 z1 q σ F H v1 st r1 Q hQ => by
    cases q with
    | @int i z q => exact .inl ⟨i, by rw [rd_int r1], hQ _ true _ F H q st (Ex.refl F) (.int _)⟩
    | @bool k z q => exact .inr ⟨k, by rw [rd_bl r1], hQ _ true _ F H q st (Ex.refl F) (.int _)⟩) h hg (he := he)
inductive TupP (Φ : PyData → Bool → Prop) : PyData → Bool → Prop
  | lst {xs : List PyData} {z : Bool} : Φ (.tuple xs) true → TupP Φ (.list xs) z
  | tup {xs : List PyData} : Φ (.tuple xs) true → TupP Φ (.tuple xs) true
theorem we_tupof (hm : X.mg "tuple" = none) (h : WE X g a env (TupP Φ) Ψ) (hg : Gl X "tuple" := by rfl) (he : starEach [a] X.env = (false, eval a X.env) :: starEach [] X.env := by rfl) : WE X g (.Call (.Name "tuple" p) [a] [] pos) env Φ Ψ :=
  we_t1 call_tuple_of hm (by decide +kernel) (fun d1 z1 q σ F H v1 st r1 Q hQ => by
    cases q with
    | @lst xs z q =>
      obtain ⟨a1, vs1, rfl, s1, p1⟩ := rd_lst st.toSk r1
      exact ⟨a1, vs1, rfl, .inl ⟨s1, fun l hl => put_tup st hl p1 q hQ⟩⟩
    | @tup xs q =>
      obtain ⟨a1, vs1, rfl, s1, p1⟩ := rd_tup st.toSk r1
      exact ⟨a1, vs1, rfl, .inr ⟨s1, hQ _ true _ F H q st (Ex.refl F) r1⟩⟩) h hg (he := he)
end
/-! ### new lists by built-ins -/
def DNew (K : Frag) (g : G) (env : List Sl) (r : V → Hp → VK → Prop) (d1 : PyData) (z1 : Bool) (Φ : List PyData → Prop) : Prop :=
  ∀ (σ : SS) (F H : Hp) (v1 : V), St K g F H σ env → Rd K F env z1 v1 d1 →
    ∀ Q : VK, (∀ ds v F' H', Φ ds → St K g F' H' σ env → Ex F F' → NewL K g F' H' env v ds → Q v H') → r v1 H Q
theorem wn_b1 {Φ : List PyData → Prop} {R : PyData → Bool → Prop} {x : Str} {id : String} {r : List V → Hp → VK → Prop} (hc : CallR X (.builtin id) r) (hm : X.mg x = none) (hv : bootBuiltins x = some (.builtin id))
    (hr : ∀ d1 z1, R d1 z1 → DNew X.K g env (fun v => r [v]) d1 z1 Φ) (h : WE X g a env R Ψ) (hg : Gl X x := by rfl) (hn : x ≠ "__name__" := by decide) (hdb : (x == ("__debug__" : Str)) = false := by decide)
    (he : starEach [a] X.env = (false, eval a X.env) :: starEach [] X.env := by rfl) (hpl : (backTo pos (starEach ([] : List Expr) X.env)).any (·.1) = false := by rfl) : WN X g (.Call (.Name x p) [a] [] pos) env Φ Ψ := fun W tk σ F H st hx Q hQ => by
  refine semE_of (pe_callB hc hg hm hv (pa_cons (peS a) pa_nil he) hn hdb he hpl) ?_
  refine h W tk σ F H st hx _ fun d1 z1 v1 F1 H1 h1 st1 e1 r1 => ?_
  exact hr _ _ h1 σ F1 H1 v1 st1 r1 Q fun ds v F' H' hp s3 e3 r3 => hQ ds v F' H' hp s3 (e1.trans e3) r3
theorem wn_t1 {Φ : List PyData → Prop} {R : PyData → Bool → Prop} {x : Str} {id : String} {r : List V → Hp → VK → Prop} (hc : CallR X (.type id) r) (hm : X.mg x = none) (hv : bootBuiltins x = some (.type id))
    (hr : ∀ d1 z1, R d1 z1 → DNew X.K g env (fun v => r [v]) d1 z1 Φ) (h : WE X g a env R Ψ) (hg : Gl X x := by rfl) (hn : x ≠ "__name__" := by decide) (hdb : (x == ("__debug__" : Str)) = false := by decide)
    (he : starEach [a] X.env = (false, eval a X.env) :: starEach [] X.env := by rfl) (hpl : (backTo pos (starEach ([] : List Expr) X.env)).any (·.1) = false := by rfl) : WN X g (.Call (.Name x p) [a] [] pos) env Φ Ψ := fun W tk σ F H st hx Q hQ => by
  refine semE_of (pe_callTy hc hg hm hv (pa_cons (peS a) pa_nil he) hn hdb he hpl) ?_
  refine h W tk σ F H st hx _ fun d1 z1 v1 F1 H1 h1 st1 e1 r1 => ?_
  exact hr _ _ h1 σ F1 H1 v1 st1 r1 Q fun ds v F' H' hp s3 e3 r3 => hQ ds v F' H' hp s3 (e1.trans e3) r3
inductive LstP (Φ : List PyData → Prop) : PyData → Bool → Prop
  | lst {xs : List PyData} {z : Bool} : Φ xs → LstP Φ (.list xs) z
  | tup {xs : List PyData} {z : Bool} : Φ xs → LstP Φ (.tuple xs) z
theorem wn_listof {Φ : List PyData → Prop} (hm : X.mg "list" = none) (h : WE X g a env (LstP Φ) Ψ) (hg : Gl X "list" := by rfl) (he : starEach [a] X.env = (false, eval a X.env) :: starEach [] X.env := by rfl) : WN X g (.Call (.Name "list" p) [a] [] pos) env Φ Ψ :=
  wn_t1 call_list_of hm (by decide +kernel) (fun d1 z1 q σ F H v1 st r1 Q hQ => by
    cases q with
    | @lst xs z q =>
      obtain ⟨a1, vs1, rfl, s1, p1⟩ := rd_lst st.toSk r1
      exact ⟨a1, vs1, rfl, .inl s1, fun l hl => put_new st hl p1 q hQ⟩
    | @tup xs z q =>
      obtain ⟨a1, vs1, rfl, s1, p1⟩ := rd_tup st.toSk r1
      exact ⟨a1, vs1, rfl, .inr s1, fun l hl => put_new st hl p1 q hQ⟩) h hg (he := he)
/-- sorted(xs), any data that can be put in order -/
def rSortD (K : Frag) : List V → Hp → VK → Prop := fun vs H Q => ∃ (a : Addr) (xs : List V) (ds : List PyData) (F : Hp), vs = [V.ref a] ∧ SqL K H a xs ∧ DqAll K F xs ds ∧ Ex F H ∧ PySem.W.AllAlike ds ∧ PySem.W.Sortable ds ∧ (∀ d ∈ ds, SeqAt.shaped d = true) ∧
  ∀ (ys : List V) (p : Addr), DqAll K F ys (ds.mergeSort (PySem.W.dataLe false id)) → H p = none → Q (.ref p) (upd H p (.lst ys))
theorem each_of {X : Cx} {pins : List (Addr × Obj)} {s : Shared} {F : Hp} (I : Inv X pins σ H s) (e : Ex F H) : ∀ {ds : List PyData} {xs : List V} {its : List Value}, (∀ d ∈ ds, SeqAt.shaped d = true) → Vals xs its → DqAll X.K F xs ds →
    PySem.W.EachIs (fun u d => ∃ x : V, RelV x u ∧ Dq X.K F x d) its ds ∧ PySem.W.EachIs (fun u d => ∃ as, Reads s.heap u (id d) as) its ds
  | [], _, _, _, r, h => by
    cases h
    cases r
    exact ⟨.nil, .nil⟩
  | d :: ds, _, _, c, r, h => by
    cases h with
    | cons h1 h2 =>
      cases r with
      | cons r1 r2 =>
        obtain ⟨q1, q2⟩ := each_of I e (fun b hb => c b (List.mem_cons_of_mem _ hb)) r2 h2
        exact ⟨.cons ⟨_, r1, h1⟩ q1, .cons (Dp.reads I d _ _ (dq_dp _ _ (shp_lay (c d (List.mem_cons_self ..))) (dp_mono e _ _ h1)) r1) q2⟩
theorem each_back {F : Hp} : ∀ {ds : List PyData} {out : List Value}, PySem.W.EachIs (fun u d => ∃ x : V, RelV x u ∧ Dq K F x d) out ds → ∃ ys, Vals ys out ∧ DqAll K F ys ds
  | _, _, .nil => ⟨[], .nil, .nil⟩
  | _, _, .cons ⟨x, h1, h2⟩ t => by
    obtain ⟨ys, q1, q2⟩ := each_back t
    exact ⟨x :: ys, .cons h1 q1, .cons h2 q2⟩
theorem cr_sortD {k : Nat} (hr : Room k X.A) : CallR X (.builtin "sorted") (rSortD X.K) := by
  intro pins s σ H vs us Q I r h
  obtain ⟨a, xs, ds, F, rfl, hs, hd, eF, hal, hk, hdp, q⟩ := h
  obtain ⟨its, rv, hl, hz⟩ := I.list hs
  rw [Vals.ref1 r]
  obtain ⟨q1, q2⟩ := each_of I eF hdp rv hd
  have hids : ds.map id = ds := List.map_id ds
  have hu := hr.un
  refine PySem.W.sorted_data (enc := id) hl.isList q1 q2 (by rw [hids]; exact hal) (by rw [hids]; exact hk) (by rw [← dpa_len hd]; exact hz) (fun b hb => by have : b.depth ≤ 64 := of_decide_eq_true (Bool.and_eq_true_iff.mp (hdp b hb)).2; show X.A.units + 2 + b.depth < cLine; omega) fun out h1 h2 => ?_
  obtain ⟨ys, k1, k2⟩ := each_back h2
  obtain ⟨ep, he'⟩ := PyProof.Rows.sortedAll_at s.heap its out.toArray
  have hlen : ys.length ≤ sizeLine := by rw [k1.length, h1, ← dpa_len hd]; exact hz
  exact ⟨.ref _, upd H (s.heap.objs.size + 1) (.lst ys), I.laid (t' := s.toks) (fun _ _ => PyProof.Rows.sortedAll_old) (Nat.le_succ _) ⟨hlen, out, ep, k1, he'⟩, rfl, q _ _ k2 (I.hok.fresh (Nat.le_succ _))⟩
/-- the list in order -/
def srt (ds : List PyData) : List PyData := ds.mergeSort (PySem.W.dataLe false id)
theorem wn_sorted {k : Nat} {Φ : List PyData → Prop} (hm : X.mg "sorted" = none) (hr : Room k X.A) (h : WE X g a env (fun d _ => ∃ ds, d = .list ds ∧ PySem.W.AllAlike ds ∧ PySem.W.Sortable ds ∧ (∀ d ∈ ds, SeqAt.shaped d = true) ∧ Φ (srt ds)) Ψ) (hg : Gl X "sorted" := by rfl) (he : starEach [a] X.env = (false, eval a X.env) :: starEach [] X.env := by rfl) : WN X g (.Call (.Name "sorted" p) [a] [] pos) env Φ Ψ :=
  wn_b1 (cr_sortD hr) hm (by decide +kernel) (fun d1 z1 ⟨ds, e, h1, h2, h3, q⟩ σ F H v1 st r1 Q hQ => by
    subst e
    obtain ⟨a1, vs1, rfl, s1, p1⟩ := rd_lst st.toSk r1
    exact ⟨a1, vs1, ds, F, rfl, s1, p1, st.ex, h1, h2, h3, fun ys p hy hn => put_new st hn hy q hQ⟩) h hg (he := he)
/-! ### built-ins of two arguments -/
theorem we_b2 {Φ : PyData → Bool → Prop} {R : PyData → Bool → PyData → Bool → Prop} {x : Str} {id : String} {r : List V → Hp → VK → Prop} (hc : CallR X (.builtin id) r) (hm : X.mg x = none) (hv : bootBuiltins x = some (.builtin id))
    (hr : ∀ d1 z1 d2 z2, R d1 z1 d2 z2 → DOp X.K g env (fun v w => r [v, w]) d1 z1 d2 z2 Φ) (h : WE X g a env (fun d1 z1 => WE X g b env (fun d2 z2 => R d1 z1 d2 z2) Ψ) Ψ) (hg : Gl X x := by rfl) (hn : x ≠ "__name__" := by decide) (hdb : (x == ("__debug__" : Str)) = false := by decide)
    (he : starEach [a, b] X.env = (false, eval a X.env) :: starEach [b] X.env := by rfl) (he2 : starEach [b] X.env = (false, eval b X.env) :: starEach [] X.env := by rfl) (hpl : (backTo pos (starEach [b] X.env)).any (·.1) = false := by rfl) : WE X g (.Call (.Name x p) [a, b] [] pos) env Φ Ψ := fun W tk σ F H st hx Q hQ => by
  refine semE_of (pe_callB hc hg hm hv (pa_cons (peS a) (pa_cons (peS b) pa_nil he2) he) hn hdb he hpl) ?_
  refine h W tk σ F H st hx _ fun d1 z1 v1 F1 H1 h1 st1 e1 r1 => ?_
  refine h1 W tk σ F1 H1 st1 hx _ fun d2 z2 v2 F2 H2 h2 st2 e2 r2 => ?_
  exact hr _ _ _ _ h2 σ F2 H2 v1 v2 st2 (rd_mono e2 r1) r2 Q fun d z v F' H' hp s3 e3 r3 => hQ d z v F' H' hp s3 ((e1.trans e2).trans e3) r3
theorem we_min2 {Φ : PyData → Bool → Prop} (hm : X.mg "min" = none) (hc : X.calm = true) (h : WE X g a env (fun d1 z1 => WE X g b env (fun d2 z2 => ∃ i j, d1 = .int i ∧ d2 = .int j ∧ Φ (.int (if j < i then j else i)) true) Ψ) Ψ) (hg : Gl X "min" := by rfl) (he : starEach [a, b] X.env = (false, eval a X.env) :: starEach [b] X.env := by rfl) (he2 : starEach [b] X.env = (false, eval b X.env) :: starEach [] X.env := by rfl) (hpl : (backTo pos (starEach [b] X.env)).any (·.1) = false := by rfl) : WE X g (.Call (.Name "min" p) [a, b] [] pos) env Φ Ψ :=
  we_b2 (call_min2 hc) hm (by decide +kernel) (fun d1 z1 d2 z2 ⟨i, j, e1, e2, q⟩ => by
    subst e1 e2
    exact dop_of q fun σ F H v1 v2 Q st r1 r2 k => ⟨i, j, by rw [rd_int r1, rd_int r2], k _ (.int _)⟩) h hg (he := he) (he2 := he2) (hpl := hpl)
theorem we_max2 {Φ : PyData → Bool → Prop} (hm : X.mg "max" = none) (hc : X.calm = true) (h : WE X g a env (fun d1 z1 => WE X g b env (fun d2 z2 => ∃ i j, d1 = .int i ∧ d2 = .int j ∧ Φ (.int (if j > i then j else i)) true) Ψ) Ψ) (hg : Gl X "max" := by rfl) (he : starEach [a, b] X.env = (false, eval a X.env) :: starEach [b] X.env := by rfl) (he2 : starEach [b] X.env = (false, eval b X.env) :: starEach [] X.env := by rfl) (hpl : (backTo pos (starEach [b] X.env)).any (·.1) = false := by rfl) : WE X g (.Call (.Name "max" p) [a, b] [] pos) env Φ Ψ :=
  we_b2 (call_max2 hc) hm (by decide +kernel) (fun d1 z1 d2 z2 ⟨i, j, e1, e2, q⟩ => by
    subst e1 e2
    exact dop_of q fun σ F H v1 v2 Q st r1 r2 k => ⟨i, j, by rw [rd_int r1, rd_int r2], k _ (.int _)⟩) h hg (he := he) (he2 := he2) (hpl := hpl)

/-! ### slices -/
def WP (X : Cx) (g : G) (e : Option Expr) (env : List Sl) (Φ : Option Int → Prop) (Ψ : Exc → Prop) : Prop := match e with
  | none => Φ none
  | some e => WE X g e env (fun d _ => ∃ i, d = .int i ∧ Φ (some i)) Ψ
def semO (X : Cx) : Option Expr → TO
  | none => tNoPart
  | some e => tPart (semE X e)
theorem poS : ∀ e : Option Expr, PO X e (semO X e)
  | none => po_none
  | some e => po_some (peS e)
theorem wp_run {o : Option Expr} {Φ : Option Int → Prop} (h : WP X g o env Φ Ψ) {W : WX} (tk : Takes X W) (st : St X.K g F H σ env) (hx : HX X g env Ψ W σ) {Q : Option Int → Hp → Prop}
    (hQ : ∀ i F' H', Φ i → St X.K g F' H' σ env → Ex F F' → Q i H') : semO X o σ H Q := by
  cases o with
  | none => exact hQ none F H h st (Ex.refl F)
  | some e =>
    refine h W tk σ F H st hx _ fun d z v F' H' ⟨i, hd, hp⟩ s' e' r' => ?_
    subst hd
    exact ⟨i, rd_int r', hQ (some i) F' H' hp s' e'⟩
/-- the items of xs[lo:hi] -/
def cut {α : Type} (xs : List α) (lo hi : Option Int) : List α := (xs.drop (HT.sIx xs.length 0 lo)).take (HT.sIx xs.length xs.length hi - HT.sIx xs.length 0 lo)
theorem dpa_cut {ds : List PyData} {vs : List V} (h : DqAll K H vs ds) (lo hi : Option Int) : DqAll K H (cutV vs lo hi) (cut ds lo hi) := by
  unfold cutV cut
  rw [dpa_len h]
  exact dpa_take _ (dpa_drop _ h)
theorem wn_sliceL {lo hi : Option Expr} {p2 : Pos} {Φ : List PyData → Prop} (h : WE X g a env (fun d1 _ => ∃ xs, d1 = .list xs ∧ WP X g lo env (fun l => WP X g hi env (fun u => Φ (cut xs l u)) Ψ) Ψ) Ψ) : WN X g (.Subscript a (.Slice lo hi none p2) pos) env Φ Ψ := fun W tk σ F H st hx Q hQ => by
  refine semE_of (pe_slice sl_list (peS a) (poS lo) (poS hi)) ?_
  refine h W tk σ F H st hx _ fun d1 z1 v1 F1 H1 ⟨xs, hd, h1⟩ st1 e1 r1 => ?_
  subst hd
  refine wp_run h1 tk st1 hx fun l F2 H2 h2 st2 e2 => wp_run h2 tk st2 hx fun u F3 H3 h3 st3 e3 => ?_
  obtain ⟨a1, vs1, rfl, s1, p1⟩ := rd_lst st3.toSk (rd_mono (e2.trans e3) r1)
  exact ⟨a1, vs1, rfl, s1, fun p hp => put_new st3 hp (dpa_cut p1 l u) h3 fun ds v F' H' hp s e r => hQ ds v F' H' hp s (((e1.trans e2).trans e3).trans e) r⟩
end
end TL

namespace TL
open PySem PySem.Spec PyProof.Rows L2

/-! ### re-basing -/
def fps (env : List Sl) : List Addr := env.flatMap Sl.fp
theorem own_fps {env : List Sl} {a : Addr} : Own env a ↔ a ∈ fps env := by
  unfold fps
  rw [List.mem_flatMap]
  constructor
  · rintro ⟨i, s, h1, h2⟩
    exact ⟨s, List.mem_of_getElem? h1, h2⟩
  · rintro ⟨s, h1, h2⟩
    obtain ⟨i, hi⟩ := List.getElem?_of_mem h1
    exact ⟨i, s, hi, h2⟩
section
variable {X : Cx} {g : G} {env env' : List Sl} {Ψ : Exc → Prop} {pos p : Pos} {a b c e : Expr} {es : List Expr} {K : Frag} {F F' H H' : Hp} {σ σ' : SS}
theorem Sk.base (st : Sk K F H σ env) : St K ⟨F, H, fps env⟩ F H σ env :=
  { st with g1 := fun _ _ h _ => h, g2 := fun a h => .inr (own_fps.mp h), g3 := Ex.refl F, g4 := fun a h => .inl h, g5 := fun a h => st.there (own_fps.mpr h), g6 := fun a h => st.there (own_fps.mpr h) }
theorem St.rebase (st : St K g F H σ env) (st' : St K ⟨F, H, fps env⟩ F' H' σ' env') (sub : ∀ a, Own env' a → Own env a) : St K g F' H' σ' env' :=
  { st'.toSk with
    g1 := fun a o h m => st'.g1 a o (st.g1 a o h m) fun z => by
      rcases st.g2 a (own_fps.mpr z) with q | q
      · rw [q] at h; cases h
      · exact m q
    g2 := fun a h => st.g2 a (sub a h)
    g3 := st.g3.trans st'.g3
    g4 := fun a h => by
      rcases st'.g4 a h with q | q
      · exact st.g4 a q
      · exact .inr (st.h0 q)
    g5 := fun a m z => by
      by_cases h : a ∈ fps env
      · exact st'.g5 a h z
      · cases q : H a with
        | none => exact st.g5 a m q
        | some u => rw [st'.g1 a u q h] at z; cases z
    g6 := st.g6 }

/-! ### several slots set, slots wiped -/
def putsE (env : List Sl) : List (Nat × PyData) → List Sl
  | [] => env
  | (i, d) :: r => putsE (env.set i (.d d)) r
def putsV (σ : SS) : List (Nat × V) → SS
  | [] => σ
  | (i, v) :: r => putsV (σ.set i (some v)) r
def SetsP (K : Frag) (F : Hp) : List (Nat × V) → List (Nat × PyData) → Prop
  | [], [] => True
  | (i, v) :: r, (j, d) :: l => i = j ∧ Dq K F v d ∧ SetsP K F r l
  | _, _ => False
theorem setsP_mono (e : Ex F F') : ∀ {r : List (Nat × V)} {l : List (Nat × PyData)}, SetsP K F r l → SetsP K F' r l
  | [], [], _ => trivial
  | _ :: _, _ :: _, ⟨h1, h2, h3⟩ => ⟨h1, dp_mono e _ _ h2, setsP_mono e h3⟩
theorem setsP_app : ∀ {r r' : List (Nat × V)} {l l' : List (Nat × PyData)}, SetsP K F r l → SetsP K F r' l' → SetsP K F (r ++ r') (l ++ l')
  | [], _, [], _, _, h => h
  | _ :: _, _, _ :: _, _, ⟨h1, h2, h3⟩, h => ⟨h1, h2, setsP_app h3 h⟩
  | [], _, _ :: _, _, h, _ => h.elim
  | _ :: _, _, [], _, h, _ => h.elim
theorem putsV_app (σ : SS) : ∀ (r r' : List (Nat × V)), putsV σ (r ++ r') = putsV (putsV σ r) r'
  | [], _ => rfl
  | (i, v) :: r, r' => putsV_app (σ.set i (some v)) r r'
theorem putsE_len : ∀ (l : List (Nat × PyData)) (env : List Sl), (putsE env l).length = env.length
  | [], _ => rfl
  | (i, d) :: r, env => by rw [putsE, putsE_len r, List.length_set]
theorem St.sets : ∀ {r : List (Nat × V)} {l : List (Nat × PyData)} {σ : SS} {env : List Sl}, St K g F H σ env → SetsP K F r l → (∀ q ∈ l, q.1 < env.length) → St K g F H (putsV σ r) (putsE env l)
  | [], [], _, _, st, _, _ => st
  | (i, v) :: r, (j, d) :: l, σ, env, st, ⟨h1, h2, h3⟩, hl => by
    have h1' : i = j := h1
    subst h1'
    have s2 : St K g F H (σ.set i (some v)) (env.set i (.d d)) := st.setD (hl (i, d) (List.mem_cons_self ..)) h2
    exact St.sets (r := r) (l := l) s2 h3 fun q hq => by rw [List.length_set]; exact hl q (List.mem_cons_of_mem _ hq)
  | [], _ :: _, _, _, _, h, _ => h.elim
  | _ :: _, [], _, _, _, h, _ => h.elim
theorem setsP_idx {vs : List Nat} : ∀ {r : List (Nat × V)} {l : List (Nat × PyData)}, SetsP K F r l → (∀ q ∈ l, q.1 ∈ vs) → ∀ q ∈ r, q.1 ∈ vs
  | [], _, _, _, q, hq => by cases hq
  | a :: r, b :: l, ⟨h1, _, h3⟩, hl, q, hq => by
    rcases List.mem_cons.mp hq with z | z
    · rw [z, show a.1 = b.1 from h1]; exact hl b (List.mem_cons_self ..)
    · exact setsP_idx h3 (fun q hq => hl q (List.mem_cons_of_mem _ hq)) q z
  | _ :: _, [], h, _, _, _ => h.elim
theorem putsV_len : ∀ (r : List (Nat × V)) (σ : SS), (putsV σ r).length = σ.length
  | [], _ => rfl
  | (i, v) :: r, σ => by rw [putsV, putsV_len r, List.length_set]
theorem putsV_get {i : Nat} : ∀ {r : List (Nat × V)} {σ : SS}, (∀ q ∈ r, q.1 ≠ i) → (putsV σ r)[i]? = σ[i]?
  | [], _, _ => rfl
  | (j, v) :: r, σ, h => by
    rw [putsV, putsV_get fun q hq => h q (List.mem_cons_of_mem _ hq), List.getElem?_set, if_neg (h (j, v) (List.mem_cons_self ..))]
theorem putsE_get {i : Nat} : ∀ {r : List (Nat × PyData)} {env : List Sl}, (∀ q ∈ r, q.1 ≠ i) → (putsE env r)[i]? = env[i]?
  | [], _, _ => rfl
  | (j, v) :: r, env, h => by
    rw [putsE, putsE_get fun q hq => h q (List.mem_cons_of_mem _ hq), List.getElem?_set, if_neg (h (j, v) (List.mem_cons_self ..))]
/-- a new object that no slot holds is changed -/
theorem St.untracked {D : Addr} {o' : HO} (st : St K g F H σ env) (hF : F D = none) (hn : ¬ Own env D) (h0 : g.H0 D = none) (ht : ∀ vs, o' ≠ .tup vs := by intro _ z; cases z) : St K g F (upd H D o') σ env where
  len := st.len
  sl := fun i s e => slok_mono (Ex.refl F) (fun a ha u q => by
    have hne : a ≠ D := fun z => hn ⟨i, s, e, z ▸ ha⟩
    rw [upd_ne hne]; exact q) (st.sl i s e)
  nd := st.nd
  fr := st.fr
  ex := st.ex.mut hF
  tf := fun a vs q => by
    by_cases e : a = D
    · subst e; rw [upd_same] at q; exact absurd (Option.some.inj q) (ht vs)
    · rw [upd_ne e] at q; exact st.tf a vs q
  g1 := fun a o h m => by
    have hne : a ≠ D := fun z => by rw [z, h0] at h; cases h
    rw [upd_ne hne]; exact st.g1 a o h m
  g2 := st.g2
  g3 := st.g3
  g4 := st.g4
  g5 := fun a m z => by
    by_cases hb : a = D
    · subst hb; rw [upd_same] at z; cases z
    · rw [upd_ne hb] at z; exact st.g5 a m z
  g6 := st.g6
theorem own_putsE : ∀ {l : List (Nat × PyData)} {env : List Sl} {a : Addr}, Own (putsE env l) a → Own env a
  | [], _, _, h => h
  | (i, d) :: r, env, a, h => by
    rcases own_set (own_putsE (l := r) h) with q | q
    · cases q
    · exact q
/-- what a target does with data -/
def TGd (K : Frag) (t : TG) (A : PyData → Option (List (Nat × PyData))) : Prop :=
  ∀ (x : PyData) (l : List (Nat × PyData)) (σ : SS) (F H : Hp) (v : V) (Q : SS → Hp → Prop), A x = some l → Ex F H → Dq K F v x → (∀ r, SetsP K F r l → Q (putsV σ r) H) → t v σ H Q
theorem tgd_name (j : Nat) : TGd K (gName j) (fun x => some [(j, x)]) := fun x l σ F H v Q e eF hd h => by
  have e' := Option.some.inj e
  subst e'
  exact h [(j, v)] ⟨rfl, hd, trivial⟩
def tgs : List (PyData → Option (List (Nat × PyData))) → List PyData → Option (List (Nat × PyData))
  | [], [] => some []
  | A :: As, x :: xs => match A x, tgs As xs with
    | some l, some r => some (l ++ r)
    | _, _ => none
  | _, _ => none
def TGds (K : Frag) (t : TGs) (As : List (PyData → Option (List (Nat × PyData)))) : Prop :=
  ∀ (xs : List PyData) (l : List (Nat × PyData)) (σ : SS) (F H : Hp) (vs : List V) (Q : SS → Hp → Prop), tgs As xs = some l → Ex F H → DqAll K F vs xs → (∀ r, SetsP K F r l → Q (putsV σ r) H) → t vs σ H Q
theorem tgds_nil : TGds K gNil [] := fun xs l σ F H vs Q e eF hd h => by
  cases xs with
  | nil =>
    cases hd
    have e' := Option.some.inj e
    subst e'
    exact ⟨rfl, h [] trivial⟩
  | cons x r => cases e
theorem tgds_cons {t : TG} {u : TGs} {A : PyData → Option (List (Nat × PyData))} {As : List (PyData → Option (List (Nat × PyData)))} (h1 : TGd K t A) (h2 : TGds K u As) : TGds K (gCons t u) (A :: As) := fun xs l σ F H vs Q e eF hd h => by
  cases xs with
  | nil => cases e
  | cons x r =>
    cases hd with
    | @cons v vs d ds hd1 hd2 =>
      have e0 : (match A x, tgs As r with | some l, some r => some (l ++ r) | _, _ => none) = some l := e
      cases q1 : A x with
      | none => rw [q1] at e0; cases e0
      | some l1 =>
        cases q2 : tgs As r with
        | none => rw [q1, q2] at e0; cases e0
        | some l2 =>
          rw [q1, q2] at e0
          have e' := Option.some.inj e0
          subst e'
          refine ⟨v, vs, rfl, h1 x l1 σ F H v _ q1 eF hd1 fun r1 s1 => h2 r l2 _ F H vs Q q2 eF hd2 fun r2 s2 => ?_⟩
          rw [← putsV_app]
          exact h (r1 ++ r2) (setsP_app s1 s2)
def tgTup (As : List (PyData → Option (List (Nat × PyData)))) : PyData → Option (List (Nat × PyData))
  | .tuple xs => tgs As xs
  | _ => none
theorem tgs_len : ∀ {As : List (PyData → Option (List (Nat × PyData)))} {xs : List PyData} {l : List (Nat × PyData)}, tgs As xs = some l → xs.length = As.length
  | [], [], _, _ => rfl
  | A :: As, x :: xs, l, e => by
    have e0 : (match A x, tgs As xs with | some l, some r => some (l ++ r) | _, _ => none) = some l := e
    cases q2 : tgs As xs with
    | none => rw [q2] at e0; cases q1 : A x <;> rw [q1] at e0 <;> cases e0
    | some l2 => exact congrArg Nat.succ (tgs_len q2)
  | [], _ :: _, _, e => by cases e
  | _ :: _, [], _, e => by cases e
theorem tgd_tup {u : TGs} {n : Nat} {As : List (PyData → Option (List (Nat × PyData)))} (h : TGds K u As) (hn : As.length = n) : TGd K (gTup K n u) (tgTup As) := fun x l σ F H v Q e eF hd hQ => by
  cases x with
  | tuple xs =>
    obtain ⟨a, vs, rfl, h1, h2⟩ := dp_tup hd
    exact ⟨a, vs, rfl, ex_t eF h1, by rw [dpa_len h2, tgs_len e, hn], h xs l σ F H vs Q e eF h2 hQ⟩
  | _ => cases e

def wipeE (env : List Sl) : List Nat → List Sl
  | [] => env
  | v :: vs => (wipeE env vs).set v .un
def wipeOk (env : List Sl) (vs : List Nat) : Bool := vs.all fun i => match env[i]? with
  | some s => s.fp.isEmpty
  | none => true
theorem wipeE_len (env : List Sl) : ∀ vs : List Nat, (wipeE env vs).length = env.length
  | [] => rfl
  | v :: vs => by rw [wipeE, List.length_set, wipeE_len env vs]
theorem wipe_get (σ : SS) (i : Nat) : ∀ vs : List Nat, (wipe σ vs)[i]? = if i ∈ vs then (σ[i]?.map fun _ => none) else σ[i]?
  | [] => by rw [if_neg (by simp)]; rfl
  | v :: vs => by
    show ((wipe σ vs).set v none)[i]? = _
    rw [List.getElem?_set]
    by_cases h : v = i
    · subst h
      rw [if_pos rfl, if_pos (List.mem_cons_self ..), wipe_length]
      by_cases hl : v < σ.length
      · rw [if_pos hl, List.getElem?_eq_getElem hl]; rfl
      · rw [if_neg hl, List.getElem?_eq_none (by omega)]; rfl
    · rw [if_neg h, wipe_get σ i vs]
      by_cases hm : i ∈ vs
      · rw [if_pos hm, if_pos (List.mem_cons_of_mem _ hm)]
      · rw [if_neg hm, if_neg fun z => by
          rcases List.mem_cons.mp z with z | z
          · exact h z.symm
          · exact hm z]
theorem wipeE_get (env : List Sl) (i : Nat) : ∀ vs : List Nat, (wipeE env vs)[i]? = if i ∈ vs then (env[i]?.map fun _ => .un) else env[i]?
  | [] => by rw [if_neg (by simp)]; rfl
  | v :: vs => by
    show ((wipeE env vs).set v .un)[i]? = _
    rw [List.getElem?_set]
    by_cases h : v = i
    · subst h
      rw [if_pos rfl, if_pos (List.mem_cons_self ..), wipeE_len]
      by_cases hl : v < env.length
      · rw [if_pos hl, List.getElem?_eq_getElem hl]; rfl
      · rw [if_neg hl, List.getElem?_eq_none (by omega)]; rfl
    · rw [if_neg h, wipeE_get env i vs]
      by_cases hm : i ∈ vs
      · rw [if_pos hm, if_pos (List.mem_cons_of_mem _ hm)]
      · rw [if_neg hm, if_neg fun z => by
          rcases List.mem_cons.mp z with z | z
          · exact h z.symm
          · exact hm z]
theorem wipe_set {σ : SS} {i : Nat} {x : Option V} {vs : List Nat} (hi : i ∈ vs) : wipe (σ.set i x) vs = wipe σ vs := by
  apply List.ext_getElem?
  intro j
  rw [wipe_get, wipe_get]
  by_cases h : j ∈ vs
  · rw [if_pos h, if_pos h, List.getElem?_set]
    by_cases e : i = j
    · subst e
      rw [if_pos rfl]
      by_cases hl : i < σ.length
      · rw [if_pos hl, List.getElem?_eq_getElem hl]; rfl
      · rw [if_neg hl, List.getElem?_eq_none (by omega)]
    · rw [if_neg e]
  · rw [if_neg h, if_neg h, List.getElem?_set, if_neg (fun z : i = j => h (by rw [← z]; exact hi))]
theorem wipe_wipe (σ : SS) (vs : List Nat) : wipe (wipe σ vs) vs = wipe σ vs := by
  apply List.ext_getElem?
  intro j
  rw [wipe_get, wipe_get]
  by_cases h : j ∈ vs
  · rw [if_pos h, if_pos h, Option.map_map]; rfl
  · rw [if_neg h, if_neg h]
theorem wipe_putsV {vs : List Nat} : ∀ {r : List (Nat × V)} {σ : SS}, (∀ q ∈ r, q.1 ∈ vs) → wipe (putsV σ r) vs = wipe σ vs
  | [], _, _ => rfl
  | (i, v) :: r, σ, h => by
    rw [putsV, wipe_putsV fun q hq => h q (List.mem_cons_of_mem _ hq)]
    exact wipe_set (h _ (List.mem_cons_self ..))
theorem own_wipe {vs : List Nat} {a : Addr} (h : Own (wipeE env vs) a) : Own env a := by
  obtain ⟨i, s, h1, h2⟩ := h
  rw [wipeE_get] at h1
  by_cases hm : i ∈ vs
  · rw [if_pos hm] at h1
    obtain ⟨t, _, e⟩ := Option.map_eq_some_iff.mp h1
    subst e
    cases h2
  · rw [if_neg hm] at h1
    exact ⟨i, s, h1, h2⟩
theorem own_wipe' {vs : List Nat} (ok : wipeOk env vs = true) {a : Addr} (h : Own env a) : Own (wipeE env vs) a := by
  obtain ⟨i, s, h1, h2⟩ := h
  refine ⟨i, s, ?_, h2⟩
  rw [wipeE_get]
  by_cases hm : i ∈ vs
  · have q := List.all_eq_true.mp ok i hm
    rw [h1] at q
    have q' : s.fp.isEmpty = true := q
    cases hs : s.fp with
    | nil => rw [hs] at h2; cases h2
    | cons x r => rw [hs] at q'; cases q'
  · rw [if_neg hm]; exact h1
/-- into a block -/
theorem St.wiped (st : St K g F H σ env) (vs : List Nat) : St K g F H (wipe σ vs) (wipeE env vs) where
  len := by rw [wipe_length, wipeE_len]; exact st.len
  sl := fun i s e => by
    rw [wipeE_get] at e
    by_cases hm : i ∈ vs
    · rw [if_pos hm] at e
      obtain ⟨t, _, e⟩ := Option.map_eq_some_iff.mp e
      subst e
      trivial
    · rw [if_neg hm] at e
      rw [wipe_get, if_neg hm]
      exact st.sl i s e
  nd := fun i j s t a ei ej h1 h2 => by
    rw [wipeE_get] at ei ej
    by_cases hi : i ∈ vs
    · rw [if_pos hi] at ei
      obtain ⟨_, _, e⟩ := Option.map_eq_some_iff.mp ei
      subst e
      cases h1
    · by_cases hj : j ∈ vs
      · rw [if_pos hj] at ej
        obtain ⟨_, _, e⟩ := Option.map_eq_some_iff.mp ej
        subst e
        cases h2
      · rw [if_neg hi] at ei
        rw [if_neg hj] at ej
        exact st.nd i j s t a ei ej h1 h2
  fr := fun a h => st.fr a (own_wipe h)
  ex := st.ex
  tf := st.tf
  g1 := st.g1
  g2 := fun a h => st.g2 a (own_wipe h)
  g3 := st.g3
  g4 := st.g4
  g5 := st.g5
  g6 := st.g6
/-- out of a block -/
theorem St.unwiped {vs : List Nat} (st : St K g F H σ env) (ok : wipeOk env vs = true) (st' : St K g F' H' (wipe σ vs) (wipeE env vs)) (e : Ex F F') : St K g F' H' σ env where
  len := st.len
  sl := fun i s e1 => by
    by_cases hm : i ∈ vs
    · have q := List.all_eq_true.mp ok i hm
      rw [e1] at q
      have q' : s.fp.isEmpty = true := q
      refine slok_mono e (fun a ha => ?_) (st.sl i s e1)
      cases hs : s.fp with
      | nil => rw [hs] at ha; cases ha
      | cons x r => rw [hs] at q'; cases q'
    · have q := st'.sl i s (by rw [wipeE_get, if_neg hm]; exact e1)
      rw [wipe_get, if_neg hm] at q
      exact q
  nd := st.nd
  fr := fun a h => st'.fr a (own_wipe' ok h)
  ex := st'.ex
  tf := st'.tf
  g1 := st'.g1
  g2 := fun a h => st.g2 a h
  g3 := st'.g3
  g4 := st'.g4
  g5 := st'.g5
  g6 := st'.g6

/-! ### list comprehensions -/
abbrev BX (X : Cx) (scope : Scope) (s : Shared) (H : Hp) (C : Addr) (cl : List (Str × Addr)) (fp : List Addr) : Cx := X.blk s H scope (compEnvC scope cl C X.env) fp
def semEB (X : Cx) (scope : Scope) (e : Expr) : TE := fun σ H Q => ∀ s H0 C cl fp, semE (BX X scope s H0 C cl fp) e σ H Q
def semTB (X : Cx) (scope : Scope) : List Expr → TT
  | [] => tYes
  | c :: _ => fun σ H Q => ∀ s H0 C cl fp, semT (BX X scope s H0 C cl fp) c σ H Q
/-- the tests of a clause: none or one -/
def WTs (X : Cx) (g : G) (ifs : List Expr) (env : List Sl) (Φ : Bool → Prop) : Prop := match ifs with
  | [] => Φ true
  | c :: _ => WT X g c env Φ (fun _ => False)
theorem takesB {scope : Scope} {s : Shared} {H0 : Hp} {C : Addr} {cl : List (Str × Addr)} {fp : List Addr} : Takes (BX X scope s H0 C cl fp) (fun _ _ _ _ => False) := fun _ _ x => by
  obtain ⟨_, _, _, _, _, _, _, _, _, _, _, _, _, _, _, _, z⟩ := x
  exact z.elim
theorem hxF {W : WX} : HX X g env (fun _ => False) W σ := fun _ _ _ h => h.elim
/-- the state within a comprehension -/
def LJ (K : Frag) (g : G) (F1 : Hp) (σ : SS) (env : List Sl) (Pv : Nat → List PyData → Prop) (D : Addr) (i : Nat) (H : Hp) : Prop :=
  ∃ F acc avs, St K g F H σ env ∧ Ex F1 F ∧ H D = some (.lst avs) ∧ DqAll K F avs acc ∧ F D = none ∧ ¬ Own env D ∧ g.H0 D = none ∧ Pv i acc ∧ acc.length ≤ i
theorem lc_turn {scope : Scope} {ifs : List Expr} {elt : Expr} {t : TG} {A : PyData → Option (List (Nat × PyData))} {F1 : Hp} {vs : List Nat} {Pv : Nat → List PyData → Prop} {D : Addr} {i : Nat} {x : PyData} {v : V} {l : List (Nat × PyData)}
    (htd : TGd X.K t A) (hA : A x = some l) (hl : ∀ q ∈ l, q.1 ∈ vs ∧ q.1 < env.length) (hsz : i < sizeLine) (hv : Dq X.K F1 v x) (hJ : LJ X.K g F1 (wipe σ vs) (wipeE env vs) Pv D i H)
    (hb : ∀ acc, Pv i acc → ∀ (g' : G) s H0 C cl fp, WTs (BX X scope s H0 C cl fp) g' ifs (putsE (wipeE env vs) l) (fun b => (b = true → ∀ s H0 C cl fp, WE (BX X scope s H0 C cl fp) g' elt (putsE (wipeE env vs) l) (fun y z => z = true ∧ Pv (i + 1) (acc ++ [y])) (fun _ => False)) ∧ (b = false → Pv (i + 1) acc))) :
    t v (wipe σ vs) H fun σ2 H2 => wipe σ2 vs = wipe σ vs ∧ semTB X scope ifs σ2 H2 fun b H3 =>
      if b = true then semEB X scope elt σ2 H3 fun y H4 => ∃ acc, H4 D = some (.lst acc) ∧ acc.length < sizeLine ∧ LJ X.K g F1 (wipe σ vs) (wipeE env vs) Pv D (i + 1) (upd H4 D (.lst (acc ++ [y]))) else LJ X.K g F1 (wipe σ vs) (wipeE env vs) Pv D (i + 1) H3 := by
  obtain ⟨F, acc, avs, st, eF, hD, hd, fD, oD, gD, hp, hlen⟩ := hJ
  refine htd x l (wipe σ vs) F H v _ hA st.ex (dp_mono eF _ _ hv) fun r sr => ?_
  have hidx : ∀ q ∈ r, q.1 ∈ vs := setsP_idx sr fun q hq => (hl q hq).1
  refine ⟨by rw [wipe_putsV hidx]; exact wipe_wipe σ vs, ?_⟩
  -- the state within the turn, over a ground of its own
  have st1 : St X.K ⟨F, H, fps (wipeE env vs)⟩ F H (putsV (wipe σ vs) r) (putsE (wipeE env vs) l) := St.sets st.toSk.base sr fun q hq => by rw [wipeE_len]; exact (hl q hq).2
  have back : ∀ {F' H'}, St X.K ⟨F, H, fps (wipeE env vs)⟩ F' H' (putsV (wipe σ vs) r) (putsE (wipeE env vs) l) → Ex F F' → St X.K ⟨F, H, fps (wipeE env vs)⟩ F' H' (wipe σ vs) (wipeE env vs) := fun {F' H'} s' e' =>
    { len := by rw [wipe_length, wipeE_len]; have := s'.len; rw [putsE_len, wipeE_len] at this; rw [← this, putsV_len, wipe_length]
      sl := fun k s e => by
        by_cases hm : k ∈ vs
        · rw [wipeE_get, if_pos hm] at e
          obtain ⟨_, _, e⟩ := Option.map_eq_some_iff.mp e
          subst e
          trivial
        · have e2 : (putsE (wipeE env vs) l)[k]? = some s := by rw [putsE_get (i := k) fun q hq (z : q.1 = k) => hm (by rw [← z]; exact (hl q hq).1)]; exact e
          have q := s'.sl k s e2
          rw [putsV_get (i := k) fun q hq (z : q.1 = k) => hm (by rw [← z]; exact hidx q hq)] at q
          exact q
      nd := st.nd
      fr := fun a h => by
        obtain ⟨k, s, h1, h2⟩ := h
        by_cases hm : k ∈ vs
        · rw [wipeE_get, if_pos hm] at h1
          obtain ⟨_, _, e⟩ := Option.map_eq_some_iff.mp h1
          subst e
          cases h2
        · exact s'.fr a ⟨k, s, by rw [putsE_get (i := k) fun q hq (z : q.1 = k) => hm (by rw [← z]; exact (hl q hq).1)]; exact h1, h2⟩
      ex := s'.ex
      tf := s'.tf
      g1 := s'.g1
      g2 := fun a h => .inr (own_fps.mp h)
      g3 := s'.g3
      g4 := s'.g4
      g5 := s'.g5
      g6 := s'.g6 }
  have keepD : ∀ {F' H'}, St X.K ⟨F, H, fps (wipeE env vs)⟩ F' H' (putsV (wipe σ vs) r) (putsE (wipeE env vs) l) → H' D = some (.lst avs) ∧ F' D = none := fun {F' H'} s' => by
    refine ⟨s'.g1 D _ hD fun z => oD (own_fps.mpr z), ?_⟩
    cases q : F' D with
    | none => rfl
    | some u =>
      rcases s'.g4 D (by rw [q]; intro z; cases z) with z | z
      · exact absurd fD z
      · have z' : H D = none := z
        rw [hD] at z'; cases z'
  have tests : ∀ (Q : Bool → Hp → Prop), (∀ b F' H', ((b = true → ∀ s H0 C cl fp, WE (BX X scope s H0 C cl fp) ⟨F, H, fps (wipeE env vs)⟩ elt (putsE (wipeE env vs) l) (fun y z => z = true ∧ Pv (i + 1) (acc ++ [y])) (fun _ => False)) ∧ (b = false → Pv (i + 1) acc)) →
      St X.K ⟨F, H, fps (wipeE env vs)⟩ F' H' (putsV (wipe σ vs) r) (putsE (wipeE env vs) l) → Ex F F' → Q b H') → semTB X scope ifs (putsV (wipe σ vs) r) H Q := fun Q hQ => by
    cases ifs with
    | nil =>
      exact hQ true F H ⟨fun _ s H0 C cl fp => (hb acc hp _ (X.s_0) H0 C cl fp).1 rfl s H0 C cl fp, fun z => by cases z⟩ st1 (Ex.refl F)
    | cons c cs =>
      intro s H0 C cl fp
      refine hb acc hp _ s H0 C cl fp _ takesB _ F H st1 hxF Q fun b F' H' hbb s' e' => hQ b F' H' hbb s' e'
  refine tests _ fun b F' H' ⟨h1, h2⟩ s' e' => ?_
  cases b with
  | true =>
    rw [if_pos rfl]
    intro s H0 C cl fp
    refine h1 rfl s H0 C cl fp _ takesB _ F' H' s' hxF _ fun y z w F2 H2 ⟨hz, hp2⟩ s2 e2 rd => ?_
    subst hz
    obtain ⟨hD2, fD2⟩ := keepD s2
    refine ⟨avs, hD2, by rw [dpa_len hd]; omega, F2, acc ++ [y], avs ++ [w], ?_, eF.trans (e'.trans e2), upd_same, ?_, fD2, oD, gD, hp2, by rw [List.length_append, List.length_singleton]; omega⟩
    · have s3 := st.rebase (back s2 (e'.trans e2)) fun a h => h
      exact s3.untracked fD2 oD gD
    · exact dpa_app (dpa_mono (e'.trans e2) _ _ hd) (dpa_one rd)
  | false =>
    rw [if_neg Bool.false_ne_true]
    obtain ⟨hD2, fD2⟩ := keepD s'
    exact ⟨F', acc, avs, st.rebase (back s' e') fun a h => h, eF.trans e', hD2, dpa_mono e' _ _ hd, fD2, oD, gD, h2 rfl, by omega⟩

/-- the state is one of the model's too -/
def tI (X : Cx) (t : TE) : TE := fun σ H Q => t σ H fun v H' => (∃ pins s, Inv X pins σ H' s) → Q v H'
theorem peI (e : Expr) : PE X e (tI X (semE X e)) := ⟨fun pins s σ H Q I h => thn (h.run pins s I) fun u s' ⟨v, H', I', r, q⟩ => ⟨v, H', I', r, q ⟨pins, s', I'⟩⟩⟩
theorem ptsB {scope : Scope} {ifs : List Expr} (h1 : ifs.length ≤ 1) (s : Shared) (H0 : Hp) (C : Addr) (cl : List (Str × Addr)) (fp : List Addr) : PTs (BX X scope s H0 C cl fp) ifs (semTB X scope ifs) := by
  match ifs, h1 with
  | [], _ => exact pts_nil
  | [c], _ => exact pts_one ⟨fun pins s2 σ H Q I h => (h s H0 C cl fp).run pins s2 I⟩
theorem peB {scope : Scope} {e : Expr} (s : Shared) (H0 : Hp) (C : Addr) (cl : List (Str × Addr)) (fp : List Addr) : PE (BX X scope s H0 C cl fp) e (semEB X scope e) := ⟨fun pins s2 σ H Q I h => (h s H0 C cl fp).run pins s2 I⟩
/-- one turn's wish -/
def LT (X : Cx) (env : List Sl) (scope : Scope) (ifs : List Expr) (elt : Expr) (vs : List Nat) (A : PyData → Option (List (Nat × PyData))) (Pv : Nat → List PyData → Prop) (i : Nat) (x : PyData) : Prop :=
  ∃ l, A x = some l ∧ (l.all fun q => vs.elem q.1 && Nat.blt q.1 env.length) = true ∧ ∀ acc, Pv i acc → ∀ (g' : G) s H0 C cl fp, WTs (BX X scope s H0 C cl fp) g' ifs (putsE (wipeE env vs) l) (fun b =>
    (b = true → ∀ s H0 C cl fp, WE (BX X scope s H0 C cl fp) g' elt (putsE (wipeE env vs) l) (fun y z => z = true ∧ Pv (i + 1) (acc ++ [y])) (fun _ => False)) ∧ (b = false → Pv (i + 1) acc))
theorem lt_idx {vs : List Nat} {l : List (Nat × PyData)} {n : Nat} (h : (l.all fun q => vs.elem q.1 && Nat.blt q.1 n) = true) : ∀ q ∈ l, q.1 ∈ vs ∧ q.1 < n := fun q hq => by
  have h1 := Bool.and_eq_true_iff.mp (List.all_eq_true.mp h q hq)
  exact ⟨List.elem_iff.mp h1.1, Nat.le_of_ble_eq_true h1.2⟩
def WNt (X : Cx) (g : G) (t : TE) (env : List Sl) (Φ : List PyData → Prop) (Ψ : Exc → Prop) : Prop :=
  ∀ (W : WX), Takes X W → ∀ (σ : SS) (F H : Hp), St X.K g F H σ env → HX X g env Ψ W σ →
    ∀ Q : VK, (∀ ds v F' H', Φ ds → St X.K g F' H' σ env → Ex F F' → NewL X.K g F' H' env v ds → Q v H') → t σ H Q
section
variable {tg iter elt : Expr} {ifs : List Expr} {scope : Scope} {own : List (Str × Nat)} {t : TG} {A : PyData → Option (List (Nat × PyData))} {Φ : List PyData → Prop}
/-- [elt for tg in a list] -/
theorem nt_lcL (htd : TGd X.K t A) (hwo : wipeOk env (own.map (·.2)) = true)
    (hi : WE X g iter env (fun d z => z = true ∧ ∃ (xs : List PyData) (Pv : Nat → List PyData → Prop), d = .list xs ∧ Pv 0 [] ∧ (∀ i x, xs[i]? = some x → LT X env scope ifs elt (own.map (·.2)) A Pv i x) ∧ ∀ acc, Pv xs.length acc → Φ acc) Ψ) : WNt X g (tLc (iList X.K (tI X (semE X iter))) t (semTB X scope ifs) (semEB X scope elt) (own.map (·.2))) env Φ Ψ := fun W tk σ F H st hx Q hQ => by
  refine hi W tk σ F H st hx _ fun d z v F1 H1 ⟨hz, xs, Pv, hd, p0, pt, pe⟩ s1 e1 rd inv => ?_
  subst hz hd
  obtain ⟨a, vs, rfl, hsq, hda⟩ := dp_lst rd
  obtain ⟨pins, sh, I⟩ := inv
  have hlen : vs.length ≤ sizeLine := by
    obtain ⟨_, _, _, hz⟩ := I.list (ex_l s1.ex hsq)
    exact hz
  refine ⟨a, rfl, ⟨vs, ex_l s1.ex hsq⟩, fun D hD => ?_⟩
  have st2 : St X.K g F1 (upd H1 D (.lst [])) (wipe σ (own.map (·.2))) (wipeE env (own.map (·.2))) := (s1.alloc hD).wiped _
  refine lc_list (xs := vs) (LJ X.K g F1 (wipe σ (own.map (·.2))) (wipeE env (own.map (·.2))) Pv D) ⟨F1, [], [], st2, Ex.refl F1, upd_same, .nil, s1.ex.none hD, fun z => s1.there (own_wipe z) hD, s1.h0 hD, p0, Nat.le_refl 0⟩ (fun i H2 _ ⟨F2, _, _, s3, e3, _⟩ => ex_l s3.ex (ex_l e3 hsq)) (fun i x H2 hx2 hJ => ?_) (fun H2 ⟨F2, acc, avs, s3, e3, hD3, hd3, fD, oD, gD, hp, _⟩ => ?_)
  · obtain ⟨d, hd1, hd2⟩ := dpa_of hda hx2
    obtain ⟨l, hA, hl, hb⟩ := pt i d hd1
    exact lc_turn htd hA (lt_idx hl) (by have := (List.getElem?_eq_some_iff.mp hx2).1; omega) hd2 hJ hb
  · rw [dpa_len hda] at hp
    exact hQ acc (.ref D) F2 H2 (pe acc hp) (s1.unwiped hwo s3 e3) (e1.trans e3) ⟨D, avs, rfl, hD3, hd3, fD, fun z => s1.there z hD, gD⟩
theorem wn_lcL (hc : X.calm = true) (hN : X.N.Nodup) (ok : BlkOk X.N X.env.scope scope own) (hpg : ∀ s H C cl fp, PG (BX X scope s H C cl fp) tg t) (htd : TGd X.K t A) (h1 : ifs.length ≤ 1) (hwo : wipeOk env (own.map (·.2)) = true)
    (hi : WE X g iter env (fun d z => z = true ∧ ∃ (xs : List PyData) (Pv : Nat → List PyData → Prop), d = .list xs ∧ Pv 0 [] ∧ (∀ i x, xs[i]? = some x → LT X env scope ifs elt (own.map (·.2)) A Pv i x) ∧ ∀ acc, Pv xs.length acc → Φ acc) Ψ)
    (hs : ∀ x, foldedSetIterable iter X.env x = pure x := by intro _; rfl) : WN X g (.ListComp elt [⟨tg, iter, ifs, 0⟩] scope pos) env Φ Ψ := fun W tk σ F H st hx Q hQ =>
  semE_of (pe_lc hc hN (pi_list (peI iter)) ok hpg (ptsB h1) peB hs) (nt_lcL htd hwo hi W tk σ F H st hx Q hQ)
/-- .. over a tuple -/
theorem nt_lcT (htd : TGd X.K t A) (hwo : wipeOk env (own.map (·.2)) = true)
    (hi : WE X g iter env (fun d z => z = true ∧ ∃ (xs : List PyData) (Pv : Nat → List PyData → Prop), d = .tuple xs ∧ Pv 0 [] ∧ (∀ i x, xs[i]? = some x → LT X env scope ifs elt (own.map (·.2)) A Pv i x) ∧ ∀ acc, Pv xs.length acc → Φ acc) Ψ) : WNt X g (tLc (iTup X.K (tI X (semE X iter))) t (semTB X scope ifs) (semEB X scope elt) (own.map (·.2))) env Φ Ψ := fun W tk σ F H st hx Q hQ => by
  refine hi W tk σ F H st hx _ fun d z v F1 H1 ⟨hz, xs, Pv, hd, p0, pt, pe⟩ s1 e1 rd inv => ?_
  subst hz hd
  obtain ⟨a, vs, rfl, hsq, hda⟩ := dp_tup rd
  obtain ⟨pins, sh, I⟩ := inv
  have hlen : vs.length ≤ sizeLine := by
    obtain ⟨_, _, _, hz⟩ := I.tuple (ex_t s1.ex hsq)
    exact hz
  refine ⟨a, rfl, ⟨vs, ex_t s1.ex hsq⟩, fun D hD => ?_⟩
  have st2 : St X.K g F1 (upd H1 D (.lst [])) (wipe σ (own.map (·.2))) (wipeE env (own.map (·.2))) := (s1.alloc hD).wiped _
  refine lc_tup (xs := vs) (LJ X.K g F1 (wipe σ (own.map (·.2))) (wipeE env (own.map (·.2))) Pv D) ⟨F1, [], [], st2, Ex.refl F1, upd_same, .nil, s1.ex.none hD, fun z => s1.there (own_wipe z) hD, s1.h0 hD, p0, Nat.le_refl 0⟩ (fun i H2 _ ⟨F2, _, _, s3, e3, _⟩ => ex_t s3.ex (ex_t e3 hsq)) (fun i x H2 hx2 hJ => ?_) (fun H2 ⟨F2, acc, avs, s3, e3, hD3, hd3, fD, oD, gD, hp, _⟩ => ?_)
  · obtain ⟨d, hd1, hd2⟩ := dpa_of hda hx2
    obtain ⟨l, hA, hl, hb⟩ := pt i d hd1
    exact lc_turn htd hA (lt_idx hl) (by have := (List.getElem?_eq_some_iff.mp hx2).1; omega) hd2 hJ hb
  · rw [dpa_len hda] at hp
    exact hQ acc (.ref D) F2 H2 (pe acc hp) (s1.unwiped hwo s3 e3) (e1.trans e3) ⟨D, avs, rfl, hD3, hd3, fD, fun z => s1.there z hD, gD⟩
theorem wn_lcT (hc : X.calm = true) (hN : X.N.Nodup) (ok : BlkOk X.N X.env.scope scope own) (hpg : ∀ s H C cl fp, PG (BX X scope s H C cl fp) tg t) (htd : TGd X.K t A) (h1 : ifs.length ≤ 1) (hwo : wipeOk env (own.map (·.2)) = true)
    (hi : WE X g iter env (fun d z => z = true ∧ ∃ (xs : List PyData) (Pv : Nat → List PyData → Prop), d = .tuple xs ∧ Pv 0 [] ∧ (∀ i x, xs[i]? = some x → LT X env scope ifs elt (own.map (·.2)) A Pv i x) ∧ ∀ acc, Pv xs.length acc → Φ acc) Ψ)
    (hs : ∀ x, foldedSetIterable iter X.env x = pure x := by intro _; rfl) : WN X g (.ListComp elt [⟨tg, iter, ifs, 0⟩] scope pos) env Φ Ψ := fun W tk σ F H st hx Q hQ =>
  semE_of (pe_lc hc hN (pi_tup (peI iter)) ok hpg (ptsB h1) peB hs) (nt_lcT htd hwo hi W tk σ F H st hx Q hQ)
/-- .. over range(n) -/
theorem nt_lcR1 (htd : TGd X.K t A) (hwo : wipeOk env (own.map (·.2)) = true)
    (hi : WE X g a env (fun d z => ∃ (n : Int) (Pv : Nat → List PyData → Prop), d = .int n ∧ (-1000000 ≤ n ∧ n ≤ 16777216) ∧ Pv 0 [] ∧ (∀ i : Nat, (i : Int) < n → LT X env scope ifs elt (own.map (·.2)) A Pv i (.int i)) ∧ ∀ acc, Pv n.toNat acc → Φ acc) Ψ) : WNt X g (tLc (iRng1 (tCons (semE X a) tNil)) t (semTB X scope ifs) (semEB X scope elt) (own.map (·.2))) env Φ Ψ := fun W tk σ F H st hx Q hQ => by
  have hsl := sizeLine_eq
  refine hi W tk σ F H st hx _ fun d z v F1 H1 ⟨n, Pv, hd, hn, p0, pt, pe⟩ s1 e1 rd => ?_
  subst hd
  rw [rd_int rd]
  refine ⟨n, rfl, by omega, by omega, fun D hD => ?_⟩
  have st2 : St X.K g F1 (upd H1 D (.lst [])) (wipe σ (own.map (·.2))) (wipeE env (own.map (·.2))) := (s1.alloc hD).wiped _
  refine lc_range (lo := 0) (n := n.toNat) (LJ X.K g F1 (wipe σ (own.map (·.2))) (wipeE env (own.map (·.2))) Pv D) ⟨F1, [], [], st2, Ex.refl F1, upd_same, .nil, s1.ex.none hD, fun z => s1.there (own_wipe z) hD, s1.h0 hD, p0, Nat.le_refl 0⟩ (fun i H2 hi2 hJ => ?_) (fun H2 ⟨F2, acc, avs, s3, e3, hD3, hd3, fD, oD, gD, hp, _⟩ => ?_)
  · obtain ⟨l, hA, hl, hb⟩ := pt i (by omega)
    rw [Int.zero_add]
    exact lc_turn htd hA (lt_idx hl) (by omega) (.int _) hJ hb
  · exact hQ acc (.ref D) F2 H2 (pe acc hp) (s1.unwiped hwo s3 e3) (e1.trans e3) ⟨D, avs, rfl, hD3, hd3, fD, fun z => s1.there z hD, gD⟩
theorem wn_lcR1 {p1 p2 : Pos} (hm : X.mg "range" = none) (hc : X.calm = true) (hN : X.N.Nodup) (ok : BlkOk X.N X.env.scope scope own) (hpg : ∀ s H C cl fp, PG (BX X scope s H C cl fp) tg t) (htd : TGd X.K t A) (h1 : ifs.length ≤ 1) (hwo : wipeOk env (own.map (·.2)) = true)
    (hi : WE X g a env (fun d z => ∃ (n : Int) (Pv : Nat → List PyData → Prop), d = .int n ∧ (-1000000 ≤ n ∧ n ≤ 16777216) ∧ Pv 0 [] ∧ (∀ i : Nat, (i : Int) < n → LT X env scope ifs elt (own.map (·.2)) A Pv i (.int i)) ∧ ∀ acc, Pv n.toNat acc → Φ acc) Ψ)
    (hs : ∀ x, foldedSetIterable (.Call (.Name "range" p1) [a] [] p2) X.env x = pure x := by intro _; rfl) (hg : Gl X "range" := by rfl) (he : starEach [a] X.env = [(false, eval a X.env)] := by rfl) :
    WN X g (.ListComp elt [⟨tg, .Call (.Name "range" p1) [a] [] p2, ifs, 0⟩] scope pos) env Φ Ψ := fun W tk σ F H st hx Q hQ =>
  semE_of (pe_lc hc hN (pi_range1 hg hm (pa_cons (peS a) pa_nil (by rw [he]; rfl)) he) ok hpg (ptsB h1) peB hs) (nt_lcR1 htd hwo hi W tk σ F H st hx Q hQ)
/-- .. over range(lo, hi) -/
theorem nt_lcR2 (htd : TGd X.K t A) (hwo : wipeOk env (own.map (·.2)) = true)
    (hi : WE X g a env (fun d z => ∃ lo, d = .int lo ∧ WE X g b env (fun d z => ∃ (n : Int) (Pv : Nat → List PyData → Prop), d = .int n ∧ (-1000000 ≤ lo ∧ lo ≤ 1000000 ∧ -1000000 ≤ n ∧ n ≤ 1000000) ∧ Pv 0 [] ∧ (∀ i : Nat, lo + (i : Int) < n → LT X env scope ifs elt (own.map (·.2)) A Pv i (.int (lo + i))) ∧ ∀ acc, Pv (n - lo).toNat acc → Φ acc) Ψ) Ψ) : WNt X g (tLc (iRng2 (tCons (semE X a) (tCons (semE X b) tNil))) t (semTB X scope ifs) (semEB X scope elt) (own.map (·.2))) env Φ Ψ := fun W tk σ F H st hx Q hQ => by
  have hsl := sizeLine_eq
  refine hi W tk σ F H st hx _ fun d0 z0 v0 F0 H0 ⟨lo, hd0, hi2⟩ s0 e0 rd0 => ?_
  refine hi2 W tk σ F0 H0 s0 hx _ fun d z v F1 H1 ⟨n, Pv, hd, hn, p0, pt, pe⟩ s1 e1 rd => ?_
  subst hd hd0
  rw [rd_int rd, rd_int rd0]
  refine ⟨lo, n, rfl, ⟨by omega, by omega, by omega, by omega⟩, fun D hD => ?_⟩
  have st2 : St X.K g F1 (upd H1 D (.lst [])) (wipe σ (own.map (·.2))) (wipeE env (own.map (·.2))) := (s1.alloc hD).wiped _
  refine lc_range (lo := lo) (n := (n - lo).toNat) (LJ X.K g F1 (wipe σ (own.map (·.2))) (wipeE env (own.map (·.2))) Pv D) ⟨F1, [], [], st2, Ex.refl F1, upd_same, .nil, s1.ex.none hD, fun z => s1.there (own_wipe z) hD, s1.h0 hD, p0, Nat.le_refl 0⟩ (fun i H2 hi2 hJ => ?_) (fun H2 ⟨F2, acc, avs, s3, e3, hD3, hd3, fD, oD, gD, hp, _⟩ => ?_)
  · obtain ⟨l, hA, hl, hb⟩ := pt i (by omega)
    exact lc_turn htd hA (lt_idx hl) (by omega) (.int _) hJ hb
  · exact hQ acc (.ref D) F2 H2 (pe acc hp) (s1.unwiped hwo s3 e3) ((e0.trans e1).trans e3) ⟨D, avs, rfl, hD3, hd3, fD, fun z => s1.there z hD, gD⟩
theorem wn_lcR2 {p1 p2 : Pos} (hm : X.mg "range" = none) (hc : X.calm = true) (hN : X.N.Nodup) (ok : BlkOk X.N X.env.scope scope own) (hpg : ∀ s H C cl fp, PG (BX X scope s H C cl fp) tg t) (htd : TGd X.K t A) (h1 : ifs.length ≤ 1) (hwo : wipeOk env (own.map (·.2)) = true)
    (hi : WE X g a env (fun d z => ∃ lo, d = .int lo ∧ WE X g b env (fun d z => ∃ (n : Int) (Pv : Nat → List PyData → Prop), d = .int n ∧ (-1000000 ≤ lo ∧ lo ≤ 1000000 ∧ -1000000 ≤ n ∧ n ≤ 1000000) ∧ Pv 0 [] ∧ (∀ i : Nat, lo + (i : Int) < n → LT X env scope ifs elt (own.map (·.2)) A Pv i (.int (lo + i))) ∧ ∀ acc, Pv (n - lo).toNat acc → Φ acc) Ψ) Ψ)
    (hs : ∀ x, foldedSetIterable (.Call (.Name "range" p1) [a, b] [] p2) X.env x = pure x := by intro _; rfl) (hg : Gl X "range" := by rfl) (he : starEach [a, b] X.env = [(false, eval a X.env), (false, eval b X.env)] := by rfl) (he2 : starEach [b] X.env = [(false, eval b X.env)] := by rfl) :
    WN X g (.ListComp elt [⟨tg, .Call (.Name "range" p1) [a, b] [] p2, ifs, 0⟩] scope pos) env Φ Ψ := fun W tk σ F H st hx Q hQ =>
  semE_of (pe_lc hc hN (pi_range2 hg hm (pa_cons (peS a) (pa_cons (peS b) pa_nil (by rw [he2]; rfl)) (by rw [he, he2])) he he2) ok hpg (ptsB h1) peB hs) (nt_lcR2 htd hwo hi W tk σ F H st hx Q hQ)
end
end
end TL

namespace TL
open PySem PySem.Spec PyProof.Rows L2

/-- a new dict, no slot's; its keys tuples, atoms -/
def NewT (K : Frag) (g : G) (F H : Hp) (env : List Sl) (v : V) (kvs : List (List Key × PyData)) : Prop :=
  ∃ p xs, v = .ref p ∧ H p = some (.dT xs) ∧ KVp K F xs kvs ∧ F p = none ∧ ¬ Own env p ∧ g.H0 p = none
def NewK (K : Frag) (g : G) (F H : Hp) (env : List Sl) (v : V) (kvs : List (Key × PyData)) : Prop :=
  ∃ p xs, v = .ref p ∧ H p = some (.dK xs) ∧ KVp K F xs kvs ∧ F p = none ∧ ¬ Own env p ∧ g.H0 p = none
/-- what is wanted behind a statement -/
structure Po where
  nx : List Sl → Prop
  rt : PR → List Sl → Prop
  bk : List Sl → Prop := fun _ => False
  ct : List Sl → Prop := fun _ => False
  ex : Exc → List Sl → Prop
/-- the same, another end -/
abbrev Po.thn (P : Po) (q : List Sl → Prop) : Po := ⟨q, P.rt, P.bk, P.ct, P.ex⟩
abbrev Po.turn (P : Po) (q : List Sl → Prop) : Po := ⟨q, P.rt, P.nx, q, P.ex⟩
abbrev Po.exn (P : Po) (q : Exc → List Sl → Prop) : Po := ⟨P.nx, P.rt, P.bk, P.ct, q⟩
def RtOk (K : Frag) (g : G) (v : V) (σ' : SS) (F' H' : Hp) (env' : List Sl) : PR → Prop
  | .rd d => Dq K F' v d
  | .nl ds => NewL K g F' H' env' v ds
  | .ar i => σ'[i]? = some (some v) ∧ ∃ s, env'[i]? = some s ∧ s.fp ≠ []
  | .nt kvs => NewT K g F' H' env' v kvs
  | .nk kvs => NewK K g F' H' env' v kvs
structure DOk (X : Cx) (g : G) (F : Hp) (P : Po) (D : Ends) : Prop where
  nx : ∀ env' σ' F' H', P.nx env' → St X.K g F' H' σ' env' → Ex F F' → D.nx σ' H'
  rt : ∀ r v env' σ' F' H', P.rt r env' → St X.K g F' H' σ' env' → RtOk X.K g v σ' F' H' env' r → D.rt v H'
  bk : ∀ env' σ' F' H', P.bk env' → St X.K g F' H' σ' env' → Ex F F' → D.bk σ' H'
  ct : ∀ env' σ' F' H', P.ct env' → St X.K g F' H' σ' env' → Ex F F' → D.ct σ' H'
def XOk (X : Cx) (g : G) (P : Po) (W : WX) : Prop := ∀ c env' σ' F' H', P.ex c env' → St X.K g F' H' σ' env' → ExcW X.K W σ' H' c
structure SemP (X : Cx) (st : Stmt) (D : Ends) (σ : SS) (H : Hp) : Prop where
  run : ∀ (pins : List (Addr × Obj)) (s : Shared), Inv X pins σ H s → wpAny (model X.prog X.w) X.A (exec st X.env) (SP X pins D) X.xe s
def semP (X : Cx) (st : Stmt) : TS := fun D σ H => SemP X st D σ H
def WS (X : Cx) (g : G) (sts : List Stmt) (env : List Sl) (P : Po) : Prop :=
  ∀ (W : WX), Takes X W → XOk X g P W → ∀ (σ : SS) (F H : Hp), St X.K g F H σ env → ∀ D : Ends, DOk X g F P D → semS X sts D σ H
def W1 (X : Cx) (g : G) (st : Stmt) (env : List Sl) (P : Po) : Prop :=
  ∀ (W : WX), Takes X W → XOk X g P W → ∀ (σ : SS) (F H : Hp), St X.K g F H σ env → ∀ D : Ends, DOk X g F P D → semP X st D σ H

section
variable {X : Cx} {g : G} {env env' : List Sl} {P : Po} {pos p : Pos} {a b c e : Expr} {es : List Expr} {st : Stmt} {rest body orelse : List Stmt} {K : Frag} {F F' H H' : Hp} {σ σ' : SS} {D : Ends} {W : WX}
theorem psP (st : Stmt) : PS X st (semP X st) := ⟨fun pins s _ _ _ I h => h.run pins s I⟩
theorem semP_of {t : TS} (h : PS X st t) (q : t D σ H) : semP X st D σ H := ⟨fun pins s I => h.run pins s σ H D I q⟩
theorem DOk.mono (h : DOk X g F P D) (e : Ex F F') : DOk X g F' P D :=
  ⟨fun a b c d h1 h2 h3 => h.nx a b c d h1 h2 (e.trans h3), h.rt, fun a b c d h1 h2 h3 => h.bk a b c d h1 h2 (e.trans h3), fun a b c d h1 h2 h3 => h.ct a b c d h1 h2 (e.trans h3)⟩
theorem XOk.hx (h : XOk X g P W) (env : List Sl) (σ : SS) : HX X g env (fun c => P.ex c env) W σ := fun c F' H' hc s => h c env σ F' H' hc s
theorem ws_nil (h : P.nx env) : WS X g [] env P := fun W tk hx σ F H st D hD => semS_of pss_nil (hD.nx env σ F H h st (Ex.refl F))
theorem ws_cons (h : W1 X g st env (P.thn fun env' => WS X g rest env' P)) : WS X g (st :: rest) env P := fun W tk hx σ F H s0 D hD => by
  refine semS_of (pss_cons (psP st) (pssS rest)) ?_
  refine h W tk hx σ F H s0 _ ⟨fun env' σ' F' H' hw s' e' => ?_, hD.rt, hD.bk, hD.ct⟩
  exact hw W tk hx σ' F' H' s' D (hD.mono e')
theorem WS.mono {P' : Po} (h : WS X g rest env P) (h1 : ∀ e, P.nx e → P'.nx e) (h2 : ∀ r e, P.rt r e → P'.rt r e) (h3 : ∀ e, P.bk e → P'.bk e) (h4 : ∀ e, P.ct e → P'.ct e) (h5 : ∀ c e, P.ex c e → P'.ex c e) : WS X g rest env P' :=
  fun W tk hx σ F H st D hD => h W tk (fun c e σ' F' H' hc => hx c e σ' F' H' (h5 c e hc)) σ F H st D
    ⟨fun e σ' F' H' q => hD.nx e σ' F' H' (h1 e q), fun r v e σ' F' H' q => hD.rt r v e σ' F' H' (h2 r e q), fun e σ' F' H' q => hD.bk e σ' F' H' (h3 e q), fun e σ' F' H' q => hD.ct e σ' F' H' (h4 e q)⟩

/-! ### simple statements -/
theorem ltB {n m : Nat} (h : Nat.blt n m = true) : n < m := Nat.le_of_ble_eq_true h
/-- x = e -/
theorem w1_set (i : Nat) {x : Str} {pos' : Pos} (hN : X.N.Nodup) (h : WE X g e env (fun d z => z = true ∧ P.nx (env.set i (.d d))) (fun c => P.ex c env)) (hi : X.N[i]? = some x := by rfl) (hx : Loc X.env.scope x := by first | exact Or.inl rfl | exact Or.inr rfl) (hl : Nat.blt i env.length = true := by rfl)
    (hs : swapsWith e (some (.Name x pos')) pos.line X.env = pure false := by rfl) (hf : X.fn x = true ∨ X.env.scope.names.lookup x = some .local := by first | exact .inl rfl | exact .inr rfl) : W1 X g (.Assign [.Name x pos'] e pos) env P := fun W tk hx2 σ F H s0 D hD => by
  refine semP_of (ps_set hN hi hx (peS e) hs hf) ?_
  refine h W tk σ F H s0 (hx2.hx env σ) _ fun d z v F' H' ⟨hz, hp⟩ s' e' r' => ?_
  subst hz
  exact hD.nx _ _ F' H' hp (s'.setD (ltB hl) r') e'
/-- x = e, a new list that x alone holds -/
theorem w1_setN (i : Nat) {x : Str} {pos' : Pos} (hN : X.N.Nodup) (h : WN X g e env (fun ds => ∀ a, a ∉ g.M → P.nx (env.set i (.ol a ds))) (fun c => P.ex c env)) (hi : X.N[i]? = some x := by rfl) (hx : Loc X.env.scope x := by first | exact Or.inl rfl | exact Or.inr rfl) (hl : Nat.blt i env.length = true := by rfl)
    (hs : swapsWith e (some (.Name x pos')) pos.line X.env = pure false := by rfl) (hf : X.fn x = true ∨ X.env.scope.names.lookup x = some .local := by first | exact .inl rfl | exact .inr rfl) : W1 X g (.Assign [.Name x pos'] e pos) env P := fun W tk hx2 σ F H s0 D hD => by
  refine semP_of (ps_set hN hi hx (peS e) hs hf) ?_
  refine h W tk σ F H s0 (hx2.hx env σ) _ fun ds v F' H' hp s' e' ⟨q, vs, hv, h1, h2, h3, h4, h5⟩ => ?_
  subst hv
  exact hD.nx _ _ F' H' (hp q fun m => s'.g6 q m h5) (s'.setL (ltB hl) h1 h2 h3 h4 h5) e'
/-- x = [..] on one line -/
theorem w1_setLc (i : Nat) {y : Str} {py : Pos} {elt tg iter : Expr} {ifs : List Expr} {scope : Scope} {own : List (Str × Nat)} {wi : TI} {t : TG} (hc : X.calm = true) (hN : X.N.Nodup) (hi : PI X tg iter wi) (ok : BlkOk X.N X.env.scope scope own) (hpg : ∀ s H C cl fp, PG (BX X scope s H C cl fp) tg t) (h1 : ifs.length ≤ 1)
    (h : WNt X g (tLc wi t (semTB X scope ifs) (semEB X scope elt) (own.map (·.2))) env (fun ds => P.nx (env.set i (.d (.list ds)))) (fun c => P.ex c env))
    (hy : X.N[i]? = some y := by rfl) (hyl : X.env.scope.names.lookup y = some .local := by rfl) (hl : Nat.blt i env.length = true := by rfl)
    (hsw : swapsWith (.ListComp elt [⟨tg, iter, ifs, 0⟩] scope pos) (some (.Name y py)) p.line X.env = pure true := by exact sw_true rfl rfl rfl (by decide +kernel)) (hs : ∀ x, foldedSetIterable iter X.env x = pure x := by intro _; rfl) :
    W1 X g (.Assign [.Name y py] (.ListComp elt [⟨tg, iter, ifs, 0⟩] scope pos) p) env P := fun W tk hx2 σ F H s0 D hD => by
  refine semP_of (ps_setLc hc hN hy hyl hsw hi ok hpg (ptsB h1) peB hs) ?_
  refine h W tk σ F H s0 (hx2.hx env σ) _ fun ds v F' H' hp s' e' ⟨q, vs, hv, h1, h2, h3, h4, h5⟩ => ?_
  subst hv
  have e2 := Ex.new (o := .lst vs) h3
  exact hD.nx _ _ _ H' hp ((s'.freeze h1 h3 h4 h5).setD (ltB hl) (.lst (SqL.of upd_same) (dpa_mono e2 _ _ h2))) (e'.trans e2)
theorem w1_setLcN (i : Nat) {y : Str} {py : Pos} {elt tg iter : Expr} {ifs : List Expr} {scope : Scope} {own : List (Str × Nat)} {wi : TI} {t : TG} (hc : X.calm = true) (hN : X.N.Nodup) (hi : PI X tg iter wi) (ok : BlkOk X.N X.env.scope scope own) (hpg : ∀ s H C cl fp, PG (BX X scope s H C cl fp) tg t) (h1 : ifs.length ≤ 1)
    (h : WNt X g (tLc wi t (semTB X scope ifs) (semEB X scope elt) (own.map (·.2))) env (fun ds => ∀ a, a ∉ g.M → P.nx (env.set i (.ol a ds))) (fun c => P.ex c env))
    (hy : X.N[i]? = some y := by rfl) (hyl : X.env.scope.names.lookup y = some .local := by rfl) (hl : Nat.blt i env.length = true := by rfl)
    (hsw : swapsWith (.ListComp elt [⟨tg, iter, ifs, 0⟩] scope pos) (some (.Name y py)) p.line X.env = pure true := by exact sw_true rfl rfl rfl (by decide +kernel)) (hs : ∀ x, foldedSetIterable iter X.env x = pure x := by intro _; rfl) :
    W1 X g (.Assign [.Name y py] (.ListComp elt [⟨tg, iter, ifs, 0⟩] scope pos) p) env P := fun W tk hx2 σ F H s0 D hD => by
  refine semP_of (ps_setLc hc hN hy hyl hsw hi ok hpg (ptsB h1) peB hs) ?_
  refine h W tk σ F H s0 (hx2.hx env σ) _ fun ds v F' H' hp s' e' ⟨q, vs, hv, h1, h2, h3, h4, h5⟩ => ?_
  subst hv
  exact hD.nx _ _ F' H' (hp q fun m => s'.g6 q m h5) (s'.setL (ltB hl) h1 h2 h3 h4 h5) e'
/-- a, b, .. = e -/
theorem w1_unpack {tg : Expr} {t : TG} {A : PyData → Option (List (Nat × PyData))} (hpg : PG X tg t) (htd : TGd X.K t A)
    (h : WE X g e env (fun d z => z = true ∧ ∃ l, A d = some l ∧ (l.all fun q => Nat.blt q.1 env.length) = true ∧ P.nx (putsE env l)) (fun c => P.ex c env))
    (hs : swapsWithSole [tg] e pos.line X.env = pure false := by rfl) (hw : swappedStores [tg] e X.env = pure none := by rfl) (h1 : (assignEach [tg] X.env).map (·.2) = [assign tg X.env] := by rfl) : W1 X g (.Assign [tg] e pos) env P := fun W tk hx2 σ F H s0 D hD => by
  refine semP_of (ps_asg (peS e) hpg hs hw h1) ?_
  refine h W tk σ F H s0 (hx2.hx env σ) _ fun d z v F' H' ⟨hz, l, hA, hl, hp⟩ s' e' r' => ?_
  subst hz
  refine htd d l σ F' H' v _ hA s'.ex r' fun r sr => ?_
  exact hD.nx _ _ F' H' hp (s'.sets sr fun q hq => ltB (List.all_eq_true.mp hl q hq)) e'
/-- e -/
theorem w1_expr (h : WE X g e env (fun _ _ => P.nx env) (fun c => P.ex c env)) (hs : swapsWith e none pos.line X.env = pure false := by rfl) : W1 X g (.Expr e pos) env P := fun W tk hx2 σ F H s0 D hD =>
  semP_of (ps_expr (peS e) hs) (h W tk σ F H s0 (hx2.hx env σ) _ fun d z v F' H' hp s' e' r' => hD.nx _ _ F' H' hp s' e')
/-- return e -/
theorem w1_ret (h : WE X g e env (fun d z => z = true ∧ P.rt (.rd d) env) (fun c => P.ex c env)) : W1 X g (.Return (some e) pos) env P := fun W tk hx2 σ F H s0 D hD =>
  semP_of (ps_ret (peS e)) (h W tk σ F H s0 (hx2.hx env σ) _ fun d z v F' H' ⟨hz, hp⟩ s' e' r' => by
    subst hz
    exact hD.rt _ v env σ F' H' hp s' r')
theorem w1_retN (h : WN X g e env (fun ds => P.rt (.nl ds) env) (fun c => P.ex c env)) : W1 X g (.Return (some e) pos) env P := fun W tk hx2 σ F H s0 D hD =>
  semP_of (ps_ret (peS e)) (h W tk σ F H s0 (hx2.hx env σ) _ fun ds v F' H' hp s' e' r' => hD.rt _ v env σ F' H' hp s' r')
theorem w1_ret0 (h : P.rt (.rd .none) env) : W1 X g (.Return none pos) env P := fun W tk hx2 σ F H s0 D hD =>
  semP_of ps_retN (hD.rt _ .non env σ F H h s0 (.non))
/-- return x, x a list made here -/
theorem w1_retO (i : Nat) {x : Str} {q : Pos} {al : Addr} {ds : List PyData} (he : env[i]? = some (.ol al ds)) (ha : al ∉ g.M) (h : P.rt (.nl ds) (env.set i .un)) (hN : X.N[i]? = some x := by rfl)
    (hv : Vis X.env.scope x := by first | exact Or.inl rfl | exact Or.inr (Or.inl rfl) | exact Or.inr (Or.inr rfl)) (hd : (x == ("__debug__" : Str)) = false := by decide)
    (hcd : (x == ("__classdict__" : Str)) = false := by decide) : W1 X g (.Return (some (.Name x q)) pos) env P := fun W tk hx2 σ F H s0 D hD => by
  refine semP_of (ps_ret (pe_var hN hv hd hcd)) ?_
  obtain ⟨h1, vs, h2, h3⟩ := s0.sl i _ he
  have own : Own env al := ⟨i, _, he, by simp [Sl.fp]⟩
  refine ⟨_, getD_some h1, hD.rt _ _ _ σ F H h (s0.weak he (fun _ h => by cases h) fun _ => trivial) ⟨al, vs, rfl, h2, h3, s0.fr al own, fun z => ?_, ?_⟩⟩
  · obtain ⟨j, t, ej, ht⟩ := z
    rcases set_get ej with ⟨_, rfl⟩ | ⟨ne, ej⟩
    · cases ht
    · exact ne (s0.nd i j _ t al he ej (by simp [Sl.fp]) ht)
  · rcases s0.g2 al own with z | z
    · exact z
    · exact absurd z ha
/-- return x, x an object that was handed in -/
theorem w1_retA (i : Nat) {x : Str} {q : Pos} {s : Sl} (he : env[i]? = some s) (hne : s.fp ≠ []) (h : P.rt (.ar i) env) (hN : X.N[i]? = some x := by rfl)
    (hv : Vis X.env.scope x := by first | exact Or.inl rfl | exact Or.inr (Or.inl rfl) | exact Or.inr (Or.inr rfl)) (hd : (x == ("__debug__" : Str)) = false := by decide)
    (hcd : (x == ("__classdict__" : Str)) = false := by decide) : W1 X g (.Return (some (.Name x q)) pos) env P := fun W tk hx2 σ F H s0 D hD => by
  refine semP_of (ps_ret (pe_var hN hv hd hcd)) ?_
  have h0 := s0.sl i s he
  obtain ⟨v, hv⟩ : ∃ v, σ[i]?.getD none = some v := by
    cases s with
    | un => exact absurd rfl hne
    | d x => exact absurd rfl hne
    | v x => exact ⟨_, h0⟩
    | ol a ds => exact ⟨_, h0.1⟩
    | bg a => exact ⟨_, h0.1⟩
    | dt a ds => exact ⟨_, h0.1⟩
    | dk a ds => exact ⟨_, h0.1⟩
    | oo a ds => exact ⟨_, h0.1⟩
  exact ⟨v, getD_some hv, hD.rt _ v env σ F H h s0 ⟨getD_some hv, s, he, hne⟩⟩
theorem w1_pass (h : P.nx env) : W1 X g (.Pass pos) env P := fun W tk hx2 σ F H s0 D hD => semP_of ps_pass (hD.nx env σ F H h s0 (Ex.refl F))
theorem w1_doc {x : Str} {j : Nat} {q : Pos} (h : P.nx env) : W1 X g (.Expr (.Constant (.str x) j q) pos) env P := fun W tk hx2 σ F H s0 D hD => semP_of ps_doc (hD.nx env σ F H h s0 (Ex.refl F))
theorem w1_break (h : P.bk env) : W1 X g (.Break pos) env P := fun W tk hx2 σ F H s0 D hD => semP_of ps_break (hD.bk env σ F H h s0 (Ex.refl F))
theorem w1_cont (h : P.ct env) : W1 X g (.Continue pos) env P := fun W tk hx2 σ F H s0 D hD => semP_of ps_continue (hD.ct env σ F H h s0 (Ex.refl F))
theorem w1_if (h : WT X g c env (fun k => (k = true → WS X g body env P) ∧ (k = false → WS X g orelse env P)) (fun c => P.ex c env)) : W1 X g (.If c body orelse pos) env P := fun W tk hx2 σ F H s0 D hD => by
  refine semP_of (ps_if (ptS c) (pssS body) (pssS orelse)) ?_
  refine h W tk σ F H s0 (hx2.hx env σ) _ fun k F' H' ⟨h1, h2⟩ s' e' => ?_
  cases k with
  | true => rw [if_pos rfl]; exact h1 rfl W tk hx2 σ F' H' s' D (hD.mono e')
  | false => rw [if_neg Bool.false_ne_true]; exact h2 rfl W tk hx2 σ F' H' s' D (hD.mono e')
/-- what a raise of an own class leans on -/
structure ExK (K : Frag) (mg : Str → Option Value) (x : Str) : Prop where
  gC : mg x = some (.ref (He.ga K x))
  ex : PySem.W.excIn K (He.ga K x) He.veBase "ValueError.__new__" = true
  kp : PySem.W.keepIn K (.ref (He.ga K x)) = true
  sb : PySem.W.subIn K (.ref (He.ga K x)) (.type "BaseException") = some true
  ty : PySem.W.typeIn K (.ref (He.ga K x)) = some (.type "type")
/-- raise X('..') -/
theorem w1_raise {x m : Str} {j : Nat} {p p2 q : Pos} (hc : X.calm = true) (k : ExK X.K X.mg x) (h : P.ex (.own x) env) (hg : Gl X x := by rfl) (hdb : (x == ("__debug__" : Str)) = false := by decide) : W1 X g (.Raise (some (.Call (.Name x p) [.Constant (.str m) j p2] [] q)) none pos) env P := fun W tk hx2 σ F H s0 D hD =>
  semP_of (ps_raise hc tk (pmk_own PySem.F.excBase_ValueError k.ex k.gC k.kp (raises_own k.sb k.ty) hg hdb)) (hx2 (.own x) env σ F H h s0)

/-! ### an object in a slot is changed -/
/-- x.append(e) -/
theorem w1_append (i : Nat) {x : Str} {q apos cpos : Pos} {al : Addr} {ds : List PyData} (he : env[i]? = some (.ol al ds)) (h : WE X g e env (fun d z => z = true ∧ ds.length < sizeLine ∧ P.nx (env.set i (.ol al (ds ++ [d])))) (fun c => P.ex c env)) (hN : X.N[i]? = some x := by rfl)
    (hv : Vis X.env.scope x := by first | exact Or.inl rfl | exact Or.inr (Or.inl rfl) | exact Or.inr (Or.inr rfl)) (hd : (x == ("__debug__" : Str)) = false := by decide)
    (hcd : (x == ("__classdict__" : Str)) = false := by decide)
    (hbase : attributeBase (.Name x q) "append" X.env (eval (.Name x q) X.env) = eval (.Name x q) X.env := by rfl)
    (hfew : ((backTo cpos (starEach [e] X.env)).all (fun x => !x.1) && (backToKw cpos (keywordEach [] X.env)).all (fun x => x.1.isSome)
      && decide ([e].length + ([] : List Keyword).length + (if ([] : List Keyword).isEmpty then 0 else 1) < 30)) = true := by rfl)
    (hline : (apos.endLine == cpos.line) = true := by rfl) (hs1 : starEach [e] X.env = (false, eval e X.env) :: starEach [] X.env := by rfl) (hplain : (backTo cpos (starEach ([] : List Expr) X.env)).any (·.1) = false := by rfl)
    (hs : swapsWith (.Call (.Attribute (.Name x q) "append" apos) [e] [] cpos) none pos.line X.env = pure false := by rfl) :
    W1 X g (.Expr (.Call (.Attribute (.Name x q) "append" apos) [e] [] cpos) pos) env P := fun W tk hx2 σ F H s0 D hD => by
  refine semP_of (ps_expr (pe_bm PySem.F.plainAttrs_list PySem.F.slot_list_append PySem.F.type_list_append mt_append (pe_var hN hv hd hcd) (pa_cons (peS e) pa_nil hs1) hbase hfew hline hs1 hplain) hs) ?_
  obtain ⟨h1, vs, h2, h3⟩ := s0.sl i _ he
  refine ⟨_, getD_some h1, .inl ⟨rfl, vs, SqL.of h2⟩, ?_⟩
  refine h W tk σ F H s0 (hx2.hx env σ) _ fun d z v F' H' ⟨hz, hl, hp⟩ s' e' r' => ?_
  subst hz
  obtain ⟨h1', vs', h2', h3'⟩ := s'.sl i _ he
  refine ⟨al, vs', v, rfl, rfl, h2', by rw [dpa_len h3']; exact hl, ?_⟩
  exact hD.nx _ _ F' _ hp (s'.write he rfl rfl ⟨h1', vs' ++ [v], upd_same, dpa_app h3' (dpa_one r')⟩) e'
/-- x[k] = e -/
theorem w1_setix (i : Nat) {x : Str} {ix : Expr} {q tpos : Pos} {al : Addr} {ds : List PyData} (he : env[i]? = some (.ol al ds)) (h : WE X g e env (fun d z => z = true ∧ WE X g ix env (fun k _ => ∃ n j, k = .int n ∧ ixN ds.length n = some j ∧ P.nx (env.set i (.ol al (ds.set j d)))) (fun c => P.ex c env)) (fun c => P.ex c env)) (hN : X.N[i]? = some x := by rfl)
    (hv : Vis X.env.scope x := by first | exact Or.inl rfl | exact Or.inr (Or.inl rfl) | exact Or.inr (Or.inr rfl)) (hd : (x == ("__debug__" : Str)) = false := by decide)
    (hcd : (x == ("__classdict__" : Str)) = false := by decide)
    (ha : ∀ v, assign (.Subscript (.Name x q) ix tpos) X.env v = (do
      let ov ← holding [v] (eval (.Name x q) X.env)
      let iv ← holding [v, ov] (eval ix X.env)
      standAt tpos
      holding [v, ov, iv] (setItem ov iv v)
      release [v, ov, iv] []) := by intro _; rfl)
    (hs : swapsWithSole [.Subscript (.Name x q) ix tpos] e pos.line X.env = pure false := by rfl) (hw : swappedStores [.Subscript (.Name x q) ix tpos] e X.env = pure none := by rfl)
    (h1 : (assignEach [.Subscript (.Name x q) ix tpos] X.env).map (·.2) = [assign (.Subscript (.Name x q) ix tpos) X.env] := by rfl) : W1 X g (.Assign [.Subscript (.Name x q) ix tpos] e pos) env P := fun W tk hx2 σ F H s0 D hD => by
  refine semP_of (ps_asg (peS e) (pg_sub (pe_var hN hv hd hcd) (peS ix) set_list ha) hs hw h1) ?_
  refine h W tk σ F H s0 (hx2.hx env σ) _ fun d z v F1 H1 ⟨hz, hp⟩ s1 e1 r1 => ?_
  subst hz
  obtain ⟨h1, vs, h2, h3⟩ := s1.sl i _ he
  refine ⟨_, getD_some h1, ?_⟩
  refine hp W tk σ F1 H1 s1 (hx2.hx env σ) _ fun k z2 w F2 H2 ⟨n, j, hk, hj, hp2⟩ s2 e2 r2 => ?_
  subst hk
  obtain ⟨h1', vs', h2', h3'⟩ := s2.sl i _ he
  refine ⟨al, vs', n, j, rfl, rd_int r2, h2', by rw [dpa_len h3']; exact hj, ?_⟩
  exact hD.nx _ _ F2 _ hp2 (s2.write he rfl rfl ⟨h1', vs'.set j v, upd_same, dpa_set j h3' (dp_mono e2 _ _ r1)⟩) (e1.trans e2)
/-- x[k] read, for an augmented store -/
def rGetL : V → V → Hp → VK → Prop := fun o i H Q => ∃ p xs k v, o = .ref p ∧ i = .int k ∧ H p = some (.lst xs) ∧ atI xs k = some v ∧ Q v H
theorem get_list : PGet X rGetL := fun pins s σ H o i ov iv Q I ro ri ⟨p, xs, k, v, ho, hi, hH, ha, q⟩ => by
  subst ho hi
  cases ro
  obtain ⟨t, rfl⟩ := ri
  obtain ⟨its, r, pl, hz⟩ := I.list (SqL.of hH)
  obtain ⟨j, h1, h2, h3, h4, h5⟩ := atI_get ha
  obtain ⟨w, ew, rw'⟩ := r.get h2
  have hl := r.length
  have hn := line63
  have fin : EP X pins σ Q w s := ⟨v, H, I, rw', q⟩
  by_cases h0 : 0 ≤ k
  · have hj : k.toNat = j := by
      rw [seqIndex_of h0 h5] at h1
      exact Option.some.inj h1
    exact wpAny_getItem_list pl.isList h0 (by omega) (by rw [hj]; simpa using ew) fin
  · have hj : (k + (its.toArray.size : Int)).toNat = j := by
      rw [seqIndex_neg (by omega) h4] at h1
      rw [List.size_toArray, ← hl]
      exact Option.some.inj h1
    exact wpAny_getItem_list_neg pl.isList (by omega) (by rw [List.size_toArray]; omega) (by omega) (by rw [hj]; simpa using ew) fin
/-- x[k] += e, ints -/
theorem w1_augix (i : Nat) {x : Str} {ix : Expr} {q tpos : Pos} {al : Addr} {ds : List PyData} (he : env[i]? = some (.ol al ds))
    (h : WE X g ix env (fun k _ => ∃ n j u, k = .int n ∧ ixN ds.length n = some j ∧ ds[j]? = some (.int u) ∧ WE X g e env (fun d _ => ∃ m, d = .int m ∧ P.nx (env.set i (.ol al (ds.set j (.int (u + m)))))) (fun c => P.ex c env)) (fun c => P.ex c env)) (hN : X.N[i]? = some x := by rfl)
    (hv : Vis X.env.scope x := by first | exact Or.inl rfl | exact Or.inr (Or.inl rfl) | exact Or.inr (Or.inr rfl)) (hd : (x == ("__debug__" : Str)) = false := by decide)
    (hcd : (x == ("__classdict__" : Str)) = false := by decide)
    (ha : ∀ ov iv new, augStore ix ov iv new = (do holding [new, ov, iv] (setItem ov iv new); release [new, ov, iv] []; pure .next) := by intros; rfl) : W1 X g (.AugAssign (.Subscript (.Name x q) ix tpos) .Add e pos) env P := fun W tk hx2 σ F H s0 D hD => by
  refine semP_of (ps_augS (pe_var hN hv hd hcd) (peS ix) get_list (peS e) ip_add set_list ha) ?_
  obtain ⟨h1, vs, h2, h3⟩ := s0.sl i _ he
  refine ⟨_, getD_some h1, ?_⟩
  refine h W tk σ F H s0 (hx2.hx env σ) _ fun k z1 w F1 H1 ⟨n, j, u, hk, hj, hu, hp⟩ s1 e1 r1 => ?_
  subst hk
  obtain ⟨h1', vs', h2', h3'⟩ := s1.sl i _ he
  obtain ⟨v0, hv0, hdv⟩ := dpa_get h3' hu
  have hat : atI vs' n = some v0 := by
    unfold atI
    rw [dpa_len h3', hj]
    exact hv0
  refine ⟨al, vs', n, v0, rfl, rd_int r1, h2', hat, ?_⟩
  refine hp W tk σ F1 H1 s1 (hx2.hx env σ) _ fun d z2 w2 F2 H2 ⟨m, hm, hp2⟩ s2 e2 r2 => ?_
  subst hm
  obtain ⟨h1'', vs'', h2'', h3''⟩ := s2.sl i _ he
  refine ⟨u, m, dp_int hdv, rd_int r2, al, vs'', n, j, rfl, rd_int r1, h2'', by rw [dpa_len h3'']; exact hj, ?_⟩
  exact hD.nx _ _ F2 _ hp2 (s2.write he rfl rfl ⟨h1'', vs''.set j (.int (u + m)), upd_same, dpa_set j h3'' (.int _)⟩) (e1.trans e2)
/-- x += e, x -= e, ints -/
theorem w1_add (i : Nat) {x : Str} {pos' : Pos} {u : Int} (hN : X.N.Nodup) (he : env[i]? = some (.d (.int u))) (h : WE X g e env (fun d _ => ∃ m, d = .int m ∧ P.nx (env.set i (.d (.int (u + m))))) (fun c => P.ex c env)) (hi : X.N[i]? = some x := by rfl) (hx : Loc X.env.scope x := by first | exact Or.inl rfl | exact Or.inr rfl)
    (hf : X.fn x = true ∨ X.env.scope.names.lookup x = some .local := by first | exact .inl rfl | exact .inr rfl) : W1 X g (.AugAssign (.Name x pos') .Add e pos) env P := fun W tk hx2 σ F H s0 D hD => by
  refine semP_of (ps_aug hN hi hx (peS e) ip_add hf) ?_
  obtain ⟨v, h1, h2⟩ := s0.sl i _ he
  refine ⟨v, getD_some h1, ?_⟩
  refine h W tk σ F H s0 (hx2.hx env σ) _ fun d z w F1 H1 ⟨m, hm, hp⟩ s1 e1 r1 => ?_
  subst hm
  exact ⟨u, m, dp_int h2, rd_int r1, hD.nx _ _ F1 H1 hp (s1.setD (List.getElem?_eq_some_iff.mp he).1 (.int _)) e1⟩
theorem w1_sub (i : Nat) {x : Str} {pos' : Pos} {u : Int} (hN : X.N.Nodup) (he : env[i]? = some (.d (.int u))) (h : WE X g e env (fun d _ => ∃ m, d = .int m ∧ P.nx (env.set i (.d (.int (u - m))))) (fun c => P.ex c env)) (hi : X.N[i]? = some x := by rfl) (hx : Loc X.env.scope x := by first | exact Or.inl rfl | exact Or.inr rfl)
    (hf : X.fn x = true ∨ X.env.scope.names.lookup x = some .local := by first | exact .inl rfl | exact .inr rfl) : W1 X g (.AugAssign (.Name x pos') .Sub e pos) env P := fun W tk hx2 σ F H s0 D hD => by
  refine semP_of (ps_aug hN hi hx (peS e) ip_sub hf) ?_
  obtain ⟨v, h1, h2⟩ := s0.sl i _ he
  refine ⟨v, getD_some h1, ?_⟩
  refine h W tk σ F H s0 (hx2.hx env σ) _ fun d z w F1 H1 ⟨m, hm, hp⟩ s1 e1 r1 => ?_
  subst hm
  exact ⟨u, m, dp_int h2, rd_int r1, hD.nx _ _ F1 H1 hp (s1.setD (List.getElem?_eq_some_iff.mp he).1 (.int _)) e1⟩

/-! ### loops -/
/-- the state between turns -/
def FJ (K : Frag) (g : G) (F1 : Hp) (Pv : Nat → List Sl → Prop) (i : Nat) (σ : SS) (H : Hp) : Prop := ∃ F env', St K g F H σ env' ∧ Ex F1 F ∧ Pv i env'
section
variable {tg iter : Expr} {t : TG} {A : PyData → Option (List (Nat × PyData))}
/-- one turn -/
def FT (X : Cx) (g : G) (body : List Stmt) (A : PyData → Option (List (Nat × PyData))) (P : Po) (Pv : Nat → List Sl → Prop) (i : Nat) (x : PyData) : Prop :=
  ∀ env', Pv i env' → ∃ l, A x = some l ∧ (l.all fun q => Nat.blt q.1 env'.length) = true ∧ WS X g body (putsE env' l) (P.turn (Pv (i + 1)))
theorem for_turn {F1 : Hp} {Pv : Nat → List Sl → Prop} {i : Nat} {x : PyData} {v : V} (tk : Takes X W) (hx2 : XOk X g P W) (hD : DOk X g F1 P D) (htd : TGd X.K t A) (hv : Dq X.K F1 v x) (hJ : FJ X.K g F1 Pv i σ H) (h : FT X g body A P Pv i x) :
    t v σ H fun σ2 H2 => semS X body { D with nx := FJ X.K g F1 Pv (i + 1), ct := FJ X.K g F1 Pv (i + 1), bk := D.nx } σ2 H2 := by
  obtain ⟨F, env', s1, e1, hp⟩ := hJ
  obtain ⟨l, hA, hl, hw⟩ := h env' hp
  refine htd x l σ F H v _ hA s1.ex (dp_mono e1 _ _ hv) fun r sr => ?_
  have s2 := s1.sets sr fun q hq => ltB (List.all_eq_true.mp hl q hq)
  exact hw W tk hx2 _ F H s2 _ ⟨fun e2 σ' F' H' q s' ex => ⟨F', e2, s', e1.trans ex, q⟩, hD.rt, fun e2 σ' F' H' q s' ex => hD.nx e2 σ' F' H' q s' (e1.trans ex), fun e2 σ' F' H' q s' ex => ⟨F', e2, s', e1.trans ex, q⟩⟩
theorem w1_forL (hp : PassesOwn (model X.prog X.w) X.A X.env X.xe) (hc : X.calm = true) (hpg : PG X tg t) (htd : TGd X.K t A)
    (hi : WE X g iter env (fun d z => z = true ∧ ∃ (xs : List PyData) (Pv : Nat → List Sl → Prop), d = .list xs ∧ Pv 0 env ∧ (∀ i x, xs[i]? = some x → FT X g body A P Pv i x) ∧ ∀ e, Pv xs.length e → P.nx e) (fun c => P.ex c env))
    (hs : ∀ x, foldedSetIterable iter X.env x = pure x := by intro _; rfl) : W1 X g (.For tg iter body [] pos) env P := fun W tk hx2 σ F H s0 D hD => by
  refine semP_of (ps_for hp hc (pi_list (peS iter)) hpg (pssS body) hs) ?_
  refine hi W tk σ F H s0 (hx2.hx env σ) _ fun d z v F1 H1 ⟨hz, xs, Pv, hd, p0, pt, pe⟩ s1 e1 rd => ?_
  subst hz hd
  obtain ⟨a, vs, rfl, hsq, hda⟩ := dp_lst rd
  refine ⟨a, rfl, ⟨vs, ex_l s1.ex hsq⟩, ?_⟩
  refine for_list (xs := vs) (FJ X.K g F1 Pv) ⟨F1, env, s1, Ex.refl F1, p0⟩ (fun i σ' H' _ ⟨F2, e2, s2, ex2, _⟩ => ex_l s2.ex (ex_l ex2 hsq)) (fun i x σ' H' hx hJ => ?_) (fun σ' H' ⟨F2, e2, s2, ex2, hp2⟩ => ?_)
  · obtain ⟨d, hd1, hd2⟩ := dpa_of hda hx
    exact for_turn tk hx2 (hD.mono e1) htd hd2 hJ (pt i d hd1)
  · rw [dpa_len hda] at hp2
    exact hD.nx e2 σ' F2 H' (pe e2 hp2) s2 (e1.trans ex2)
theorem w1_forT (hp : PassesOwn (model X.prog X.w) X.A X.env X.xe) (hc : X.calm = true) (hpg : PG X tg t) (htd : TGd X.K t A)
    (hi : WE X g iter env (fun d z => z = true ∧ ∃ (xs : List PyData) (Pv : Nat → List Sl → Prop), d = .tuple xs ∧ Pv 0 env ∧ (∀ i x, xs[i]? = some x → FT X g body A P Pv i x) ∧ ∀ e, Pv xs.length e → P.nx e) (fun c => P.ex c env))
    (hs : ∀ x, foldedSetIterable iter X.env x = pure x := by intro _; rfl) : W1 X g (.For tg iter body [] pos) env P := fun W tk hx2 σ F H s0 D hD => by
  refine semP_of (ps_for hp hc (pi_tup (peS iter)) hpg (pssS body) hs) ?_
  refine hi W tk σ F H s0 (hx2.hx env σ) _ fun d z v F1 H1 ⟨hz, xs, Pv, hd, p0, pt, pe⟩ s1 e1 rd => ?_
  subst hz hd
  obtain ⟨a, vs, rfl, hsq, hda⟩ := dp_tup rd
  refine ⟨a, rfl, ⟨vs, ex_t s1.ex hsq⟩, ?_⟩
  refine for_tup (xs := vs) (FJ X.K g F1 Pv) ⟨F1, env, s1, Ex.refl F1, p0⟩ (fun i σ' H' _ ⟨F2, e2, s2, ex2, _⟩ => ex_t s2.ex (ex_t ex2 hsq)) (fun i x σ' H' hx hJ => ?_) (fun σ' H' ⟨F2, e2, s2, ex2, hp2⟩ => ?_)
  · obtain ⟨d, hd1, hd2⟩ := dpa_of hda hx
    exact for_turn tk hx2 (hD.mono e1) htd hd2 hJ (pt i d hd1)
  · rw [dpa_len hda] at hp2
    exact hD.nx e2 σ' F2 H' (pe e2 hp2) s2 (e1.trans ex2)
theorem w1_forR1 {p1 p2 : Pos} (hm : X.mg "range" = none) (hp : PassesOwn (model X.prog X.w) X.A X.env X.xe) (hc : X.calm = true) (hpg : PG X tg t) (htd : TGd X.K t A)
    (hi : WE X g a env (fun d z => ∃ (n : Int) (Pv : Nat → List Sl → Prop), d = .int n ∧ (-1000000 ≤ n ∧ n ≤ 1000000000) ∧ Pv 0 env ∧ (∀ i : Nat, (i : Int) < n → FT X g body A P Pv i (.int i)) ∧ ∀ e, Pv n.toNat e → P.nx e) (fun c => P.ex c env))
    (hs : ∀ x, foldedSetIterable (.Call (.Name "range" p1) [a] [] p2) X.env x = pure x := by intro _; rfl) (hg : Gl X "range" := by rfl) (he : starEach [a] X.env = [(false, eval a X.env)] := by rfl) : W1 X g (.For tg (.Call (.Name "range" p1) [a] [] p2) body [] pos) env P := fun W tk hx2 σ F H s0 D hD => by
  refine semP_of (ps_for hp hc (pi_range1 hg hm (pa_cons (peS a) pa_nil (by rw [he]; rfl)) he) hpg (pssS body) hs) ?_
  refine hi W tk σ F H s0 (hx2.hx env σ) _ fun d z v F1 H1 ⟨n, Pv, hd, hn, p0, pt, pe⟩ s1 e1 rd => ?_
  subst hd
  rw [rd_int rd]
  refine ⟨n, rfl, by omega, by omega, ?_⟩
  refine for_range (lo := 0) (n := n.toNat) (FJ X.K g F1 Pv) ⟨F1, env, s1, Ex.refl F1, p0⟩ (fun i σ' H' hi2 hJ => ?_) (fun σ' H' ⟨F2, e2, s2, ex2, hp2⟩ => ?_)
  · rw [Int.zero_add]
    exact for_turn tk hx2 (hD.mono e1) htd (.int _) hJ (pt i (by omega))
  · exact hD.nx e2 σ' F2 H' (pe e2 hp2) s2 (e1.trans ex2)
theorem w1_forR2 {p1 p2 : Pos} (hm : X.mg "range" = none) (hp : PassesOwn (model X.prog X.w) X.A X.env X.xe) (hc : X.calm = true) (hpg : PG X tg t) (htd : TGd X.K t A)
    (hi : WE X g a env (fun d z => ∃ lo, d = .int lo ∧ WE X g b env (fun d z => ∃ (n : Int) (Pv : Nat → List Sl → Prop), d = .int n ∧ (-1000000 ≤ lo ∧ lo ≤ 1000000000 ∧ -1000000 ≤ n ∧ n ≤ 1000000000) ∧ Pv 0 env ∧ (∀ i : Nat, lo + (i : Int) < n → FT X g body A P Pv i (.int (lo + i))) ∧ ∀ e, Pv (n - lo).toNat e → P.nx e) (fun c => P.ex c env)) (fun c => P.ex c env))
    (hs : ∀ x, foldedSetIterable (.Call (.Name "range" p1) [a, b] [] p2) X.env x = pure x := by intro _; rfl) (hg : Gl X "range" := by rfl) (he : starEach [a, b] X.env = [(false, eval a X.env), (false, eval b X.env)] := by rfl) (he2 : starEach [b] X.env = [(false, eval b X.env)] := by rfl) : W1 X g (.For tg (.Call (.Name "range" p1) [a, b] [] p2) body [] pos) env P := fun W tk hx2 σ F H s0 D hD => by
  refine semP_of (ps_for hp hc (pi_range2 hg hm (pa_cons (peS a) (pa_cons (peS b) pa_nil (by rw [he2]; rfl)) (by rw [he, he2])) he he2) hpg (pssS body) hs) ?_
  refine hi W tk σ F H s0 (hx2.hx env σ) _ fun d0 z0 v0 F0 H0 ⟨lo, hd0, hi2⟩ s00 e0 rd0 => ?_
  refine hi2 W tk σ F0 H0 s00 (hx2.hx env σ) _ fun d z v F1 H1 ⟨n, Pv, hd, hn, p0, pt, pe⟩ s1 e1 rd => ?_
  subst hd hd0
  rw [rd_int rd, rd_int rd0]
  refine ⟨lo, n, rfl, ⟨by omega, by omega, by omega, by omega⟩, ?_⟩
  refine for_range (lo := lo) (n := (n - lo).toNat) (FJ X.K g F1 Pv) ⟨F1, env, s1, Ex.refl F1, p0⟩ (fun i σ' H' hi2 hJ => ?_) (fun σ' H' ⟨F2, e2, s2, ex2, hp2⟩ => ?_)
  · exact for_turn tk hx2 (hD.mono (e0.trans e1)) htd (.int _) hJ (pt i (by omega))
  · exact hD.nx e2 σ' F2 H' (pe e2 hp2) s2 ((e0.trans e1).trans ex2)
end
/-- while: a word with a number that falls -/
theorem w1_while (hp : PassesOwn (model X.prog X.w) X.A X.env X.xe) (Pv : Nat → List Sl → Prop) (m0 : Nat) (h0 : Pv m0 env)
    (h : ∀ m env', Pv m env' → WT X g c env' (fun k => (k = true → WS X g body env' (P.turn fun e => ∃ m', m' < m ∧ Pv m' e)) ∧ (k = false → P.nx env')) (fun c => P.ex c env')) : W1 X g (.While c body [] pos) env P := fun W tk hx2 σ F H s0 D hD => by
  refine semP_of (ps_while hp (ptS c) (pssS body)) ?_
  refine ⟨fun m σ' H' => FJ X.K g F (fun _ e => Pv m e) 0 σ' H', ⟨m0, F, env, s0, Ex.refl F, h0⟩, fun m σ' H' ⟨F1, e1, s1, ex1, hp1⟩ => ?_⟩
  refine h m e1 hp1 W tk σ' F1 H' s1 (hx2.hx e1 σ') _ fun k F2 H2 ⟨ht, hf⟩ s2 ex2 => ?_
  cases k with
  | true =>
    rw [if_pos rfl]
    refine ⟨fun σ3 H3 => ∃ m', m' < m ∧ FJ X.K g F (fun _ e => Pv m' e) 0 σ3 H3, fun σ3 H3 ⟨m', hm, q⟩ => ⟨m', hm, q⟩, ?_⟩
    exact ht rfl W tk hx2 σ' F2 H2 s2 _ ⟨fun e3 σ3 F3 H3 ⟨m', hm, q⟩ s3 ex3 => ⟨m', hm, F3, e3, s3, (ex1.trans ex2).trans ex3, q⟩, hD.rt, fun e3 σ3 F3 H3 q s3 ex3 => hD.nx e3 σ3 F3 H3 q s3 ((ex1.trans ex2).trans ex3), fun e3 σ3 F3 H3 ⟨m', hm, q⟩ s3 ex3 => ⟨m', hm, F3, e3, s3, (ex1.trans ex2).trans ex3, q⟩⟩
  | false =>
    rw [if_neg Bool.false_ne_true]
    exact hD.nx e1 σ' F2 H2 (hf rfl) s2 (ex1.trans ex2)
end
end TL

namespace TL
open PySem PySem.Spec PyProof.Rows L2

/-! ### a def's body keeps its contract -/
def BackS : Sl → Sl → Sl → Prop
  | .un, _, s' => s' = .un
  | .d x, _, s' => s' = .d x
  | .v x, _, s' => s' = .v x
  | .ol a _, .ol b ds', s' => b = a ∧ s' = .ol a ds'
  | .bg a, .bg b, s' => b = a ∧ s' = .bg a
  | .bg a, .ol b ds, s' => b = a ∧ BagD ds ∧ s' = .bg a
  | .dt a _, .dt b kvs, s' => b = a ∧ s' = .dt a kvs
  | .dk a _, .dk b kvs, s' => b = a ∧ s' = .dk a kvs
  | _, _, _ => False
def Back : List Sl → List Sl → List Sl → Prop
  | [], _, r => r = []
  | s :: r, e :: env, s' :: r' => BackS s e s' ∧ Back r env r'
  | _, _, _ => False
theorem backS_fp {s e s' : Sl} (h : BackS s e s') : s'.fp = s.fp := by
  cases s with
  | un => rw [show s' = _ from h]
  | d x => rw [show s' = _ from h]
  | v x => rw [show s' = _ from h]
  | ol a ds => cases e <;> first | exact h.elim | (rw [h.2]; rfl)
  | bg a => cases e <;> first | exact h.elim | (rw [h.2]) | (rw [h.2.2])
  | dt a ds => cases e <;> first | exact h.elim | (rw [h.2]; rfl)
  | dk a ds => cases e <;> first | exact h.elim | (rw [h.2]; rfl)
  | oo a ds => cases e <;> exact h.elim
theorem backS_val {K : Frag} {F F' H H' : Hp} {o o' : Option V} {s e s' : Sl} (h : BackS s e s') (hne : e.fp ≠ []) (hs : s'.fp ≠ []) (h0 : SlOk K F H o s) (h1 : SlOk K F' H' o' e) : o = o' := by
  cases s with
  | un => rw [show s' = _ from h] at hs; exact absurd rfl hs
  | d x => rw [show s' = _ from h] at hs; exact absurd rfl hs
  | v x => rw [show s' = _ from h] at hs; exact absurd rfl hs
  | ol a ds => cases e <;> first | exact h.elim | exact h0.1.trans (by rw [h1.1, h.1])
  | bg a => cases e <;> first | exact h.elim | exact h0.1.trans (by rw [h1.1, h.1])
  | dt a ds => cases e <;> first | exact h.elim | exact h0.1.trans (by rw [h1.1, h.1])
  | dk a ds => cases e <;> first | exact h.elim | exact h0.1.trans (by rw [h1.1, h.1])
  | oo a ds => cases e <;> exact h.elim
theorem backS_env {s e s' : Sl} (h : BackS s e s') (hne : s.fp ≠ []) : e.fp = s.fp := by
  cases s <;> cases e <;> first
    | exact h.elim
    | exact absurd rfl hne
    | (have h1 := h.1; subst h1; rfl)
theorem back_len : ∀ {args env args' : List Sl}, Back args env args' → args'.length = args.length
  | [], _, _, h => by rw [show _ = [] from h]
  | s :: r, e :: env, s' :: r', h => congrArg Nat.succ (back_len h.2)
  | _ :: _, [], _, h => h.elim
  | _ :: _, _ :: _, [], h => h.elim
theorem back_get : ∀ {args env args' : List Sl} {i : Nat} {s' : Sl}, Back args env args' → args'[i]? = some s' → ∃ s e, args[i]? = some s ∧ env[i]? = some e ∧ BackS s e s'
  | [], _, _, i, s', h, e => by rw [show _ = [] from h] at e; simp at e
  | s :: r, e :: env, t :: r', 0, s', h, q => by
    have e' := Option.some.inj q
    subst e'
    exact ⟨s, e, rfl, rfl, h.1⟩
  | s :: r, e :: env, t :: r', i + 1, s', h, q => back_get (i := i) h.2 q
  | _ :: _, [], _, _, _, h, _ => h.elim
  | _ :: _, _ :: _, [], _, _, h, _ => h.elim
theorem slok_back {K : Frag} {F F' H H' : Hp} {o o' : Option V} {s e s' : Sl} (h : BackS s e s') (e0 : Ex F F') (h0 : SlOk K F H o s) (h1 : SlOk K F' H' o' e) : SlOk K F' H' o s' := by
  cases s with
  | un => rw [show s' = .un from h]; trivial
  | d x => rw [show s' = .d x from h]; obtain ⟨v, q1, q2⟩ := h0; exact ⟨v, q1, dp_mono e0 _ _ q2⟩
  | v x => rw [show s' = .v x from h]; exact h0
  | ol a ds =>
    cases e <;> first
      | exact h.elim
      | (obtain ⟨rfl, rfl⟩ := h; exact ⟨h0.1, h1.2⟩)
  | bg a =>
    cases e <;> first
      | exact h.elim
      | (obtain ⟨rfl, rfl⟩ := h; exact ⟨h0.1, h1.2⟩)
      | (obtain ⟨rfl, hb, rfl⟩ := h; obtain ⟨_, vs, q1, q2⟩ := h1; exact ⟨h0.1, _, vs, hb, q1, q2⟩)
  | dt a ds =>
    cases e <;> first
      | exact h.elim
      | (obtain ⟨rfl, rfl⟩ := h; exact ⟨h0.1, h1.2⟩)
  | dk a ds =>
    cases e <;> first
      | exact h.elim
      | (obtain ⟨rfl, rfl⟩ := h; exact ⟨h0.1, h1.2⟩)
  | oo a ds => cases e <;> exact h.elim
def prIx (args args' : List Sl) : PR → Prop
  | .ar i => i < args.length ∧ ∀ s', args'[i]? = some s' → s'.fp ≠ []
  | _ => True
/-- what a body is to reach -/
def endOf (args : List Sl) (Φ : PR → List Sl → Prop) (Ψ : Exc → List Sl → Prop) : Po where
  nx := fun env' => ∃ args', Φ (.rd .none) args' ∧ Back args env' args'
  rt := fun r env' => ∃ args', Φ r args' ∧ prIx args args' r ∧ Back args env' args'
  ex := fun c env' => ∃ args', Ψ c args' ∧ Back args env' args'
theorem pad_get {args : List Sl} {n i : Nat} {s : Sl} (h : (args ++ List.replicate n .un)[i]? = some s) : args[i]? = some s ∨ s = .un := by
  by_cases hi : i < args.length
  · rw [List.getElem?_append_left hi] at h; exact .inl h
  · rw [List.getElem?_append_right (by omega)] at h
    rw [List.getElem?_replicate] at h
    split at h
    · exact .inr (Option.some.inj h).symm
    · cases h
theorem Sk.pad {K : Frag} {F H : Hp} {vs : List V} {args : List Sl} {N : List Str} (sk : Sk K F H (vs.map some) args) (hl : vs.length ≤ N.length) : Sk K F H (L2.start N vs) (args ++ List.replicate (N.length - vs.length) .un) := by
  have hlen : args.length = vs.length := by have := sk.len; rw [List.length_map] at this; exact this.symm
  have ow : ∀ a, Own (args ++ List.replicate (N.length - vs.length) .un) a → Own args a := fun a ⟨i, s, h1, h2⟩ => by
    rcases pad_get h1 with q | q
    · exact ⟨i, s, q, h2⟩
    · subst q; cases h2
  refine ⟨by unfold L2.start; simp only [List.length_append, List.length_map, List.length_replicate]; omega, fun i s h => ?_, fun i j s t a h1 h2 h3 h4 => ?_, fun a h => sk.fr a (ow a h), sk.ex, sk.tf⟩
  · rcases pad_get h with q | q
    · have hi : i < (vs.map some).length := by rw [List.length_map, ← hlen]; exact (List.getElem?_eq_some_iff.mp q).1
      have e : (L2.start N vs)[i]? = (vs.map some)[i]? := by unfold L2.start; rw [List.getElem?_append_left hi]
      rw [e]; exact sk.sl i s q
    · subst q; trivial
  · rcases pad_get h1 with q | q
    · rcases pad_get h2 with q2 | q2
      · exact sk.nd i j s t a q q2 h3 h4
      · subst q2; cases h4
    · subst q; cases h3
section
variable {P : Program} {w : World} {K : Frag} {mg : Str → Option Value} {base : Heap} {f : Addr} {fd : FuncData} {N ps : List Str} {k : Nat} {S : CT}
theorem fn_ok {x : Str} {st : Stmt} (F : FunD K x x (defArgs st) (defBody st) (defScope st) [] [] f fd) (sc : FnScope N ps (defScope st)) (hln : Nat.ble ps.length N.length = true)
    (body : ∀ (cdv : Value) (A : Around) (outer : List Env) (s : Shared) (H : Hp) (E : XK) (g : G) (args : List Sl) (Φ : PR → List Sl → Prop) (Ψ : Exc → List Sl → Prop),
      Room k (cxOf (L2.CX P w) P w K mg base N x (defScope st) f cdv A outer s H E).A →
      PassesOwn (model P w) (cxOf (L2.CX P w) P w K mg base N x (defScope st) f cdv A outer s H E).A (cxOf (L2.CX P w) P w K mg base N x (defScope st) f cdv A outer s H E).env (cxOf (L2.CX P w) P w K mg base N x (defScope st) f cdv A outer s H E).xe →
      g.M = fps args → args.length = ps.length → S args Φ Ψ →
      WS (cxOf (L2.CX P w) P w K mg base N x (defScope st) f cdv A outer s H E) g (defBody st) (args ++ List.replicate (N.length - ps.length) .un) (endOf args Φ Ψ)) : FnOk P w K mg base (L2.CX P w) (k + 1) f fd ps (spOf K ps.length S) := by
  refine F.ok sc (fun vs H Q E h => h.1) fun cdv A outer s H vs Q E hr h => ?_
  obtain ⟨hvl, F0, args, Φ, Ψ, hS, sk, hret, hexc⟩ := h
  have hal : args.length = ps.length := by have := sk.len; rw [List.length_map] at this; omega
  have hln' : ps.length ≤ N.length := Nat.le_of_ble_eq_true hln
  refine ⟨semS _ _, pssS _, ?_⟩
  have skp := sk.pad (N := N) (by omega)
  rw [hvl] at skp
  have fpe : ∀ a, a ∈ fps args ↔ Own args a := fun a => own_fps.symm
  have st0 : St K ⟨F0, H, fps args⟩ F0 H (L2.start N vs) (args ++ List.replicate (N.length - ps.length) .un) :=
    { skp with
      g1 := fun _ _ h _ => h, g3 := Ex.refl F0, g4 := fun a h => .inl h
      g2 := fun a ⟨i, s, h1, h2⟩ => by
        rcases pad_get h1 with q | q
        · exact .inr ((fpe a).mpr ⟨i, s, q, h2⟩)
        · subst q; cases h2
      g5 := fun a h => sk.there ((fpe a).mp h)
      g6 := fun a h => sk.there ((fpe a).mp h) }
  -- what holds at every end
  have fin : ∀ {F' H' : Hp} {σ' : SS} {env' args' : List Sl}, St K ⟨F0, H, fps args⟩ F' H' σ' env' → Back args env' args' →
      Sk K F' H' (vs.map some) args' ∧ Step F0 H args F' H' ∧ (∀ a, Own args' a → Own args a) ∧ ∀ a, Own args' a → Own env' a := fun {F' H' σ' env' args'} s' hbk => by
    have sub : ∀ a, Own args' a → Own args a ∧ Own env' a := fun a ⟨i, s', h1, h2⟩ => by
      obtain ⟨s, e, q1, q2, q3⟩ := back_get hbk h1
      rw [backS_fp q3] at h2
      exact ⟨⟨i, s, q1, h2⟩, ⟨i, e, q2, by rw [backS_env q3 (fun z => by rw [z] at h2; cases h2)]; exact h2⟩⟩
    refine ⟨⟨by rw [List.length_map, back_len hbk]; omega, fun i t h => ?_, fun i j s t a h1 h2 h3 h4 => ?_, fun a h => s'.fr a (sub a h).2, s'.ex, s'.tf⟩, ⟨s'.g3, fun a o h hn => s'.g1 a o h fun m => hn ((fpe a).mp m), fun a h => s'.g4 a h, fun a h => ?_⟩, fun a h => (sub a h).1, fun a h => (sub a h).2⟩
    · obtain ⟨s, e, q1, q2, q3⟩ := back_get hbk h
      exact slok_back q3 s'.g3 (sk.sl i s q1) (s'.sl i e q2)
    · obtain ⟨s1, e1, q1, _, q3⟩ := back_get hbk h1
      obtain ⟨s2, e2, q4, _, q6⟩ := back_get hbk h2
      rw [backS_fp q3] at h3
      rw [backS_fp q6] at h4
      exact sk.nd i j s1 s2 a q1 q4 h3 h4
    · intro z
      by_cases m : a ∈ fps args
      · exact s'.g5 a m z
      · cases q : H a with
        | none => exact h q
        | some u => rw [s'.g1 a u q m] at z; cases z
  have hb0 := body cdv A outer s H E ⟨F0, H, fps args⟩ args Φ Ψ hr (passes_of rfl) rfl hal hS
  refine hb0 (fun cls d _ H => E cls d H) (takes_of rfl rfl rfl rfl) (fun c env' σ' F' H' ⟨args', hp, hbk⟩ s' => ?_) (L2.start N vs) F0 H st0 _ ⟨fun env' σ' F' H' ⟨args', hp, hbk⟩ s' e' => ?_, fun r v env' σ' F' H' ⟨args', hp, hix, hbk⟩ s' ro => ?_, fun _ _ _ _ h => h.elim, fun _ _ _ _ h => h.elim⟩
  · obtain ⟨h1, h2, h3, h4⟩ := fin s' hbk
    have := hexc c args' F' H' hp h1 h2 h3
    cases c
    exact this
  · obtain ⟨h1, h2, h3, h4⟩ := fin s' hbk
    exact hret (.rd .none) .non args' F' H' hp h1 h2 h3 .non
  · obtain ⟨h1, h2, h3, h4⟩ := fin s' hbk
    refine hret r v args' F' H' hp h1 h2 h3 ?_
    cases r with
    | rd d => exact ro
    | nl ds =>
      obtain ⟨p, xs, q1, q2, q3, q4, q5, q6⟩ := ro
      exact ⟨p, xs, q1, q2, q3, q4, q6, fun z => q5 (h4 p z)⟩
    | nt ds =>
      obtain ⟨p, xs, q1, q2, q3, q4, q5, q6⟩ := ro
      exact ⟨p, xs, q1, q2, q3, q4, q6, fun z => q5 (h4 p z)⟩
    | nk ds =>
      obtain ⟨p, xs, q1, q2, q3, q4, q5, q6⟩ := ro
      exact ⟨p, xs, q1, q2, q3, q4, q6, fun z => q5 (h4 p z)⟩
    | ar i =>
      obtain ⟨q1, e, q2, q3⟩ := ro
      obtain ⟨hi, hown⟩ : i < args.length ∧ ∀ s', args'[i]? = some s' → s'.fp ≠ [] := hix
      have hi' : i < args'.length := by rw [back_len hbk]; exact hi
      obtain ⟨s0, e0, q4, q5, q6⟩ := back_get hbk (List.getElem?_eq_getElem hi')
      rw [q2] at q5
      have q5' := Option.some.inj q5
      subst q5'
      have k2 := s'.sl i e q2
      rw [q1] at k2
      show vs[i]? = some v
      have hv : i < vs.length := by omega
      have k1 := sk.sl i s0 q4
      have ev : ((vs.map some)[i]?.getD none : Option V) = some vs[i] := vmap_get (List.getElem?_eq_getElem hv)
      rw [ev] at k1
      have z := backS_val q6 q3 (hown _ (List.getElem?_eq_getElem hi')) k1 k2
      rw [List.getElem?_eq_getElem hv]
      exact z
theorem fn_has {x : Str} {st : Stmt} (F : FunD K x x (defArgs st) (defBody st) (defScope st) [] [] f fd) (hm : mg x = some (.ref f)) (sc : FnScope N ps (defScope st)) (hb : Binds K fd ps []) (hln : Nat.ble ps.length N.length = true)
    (body : ∀ (cdv : Value) (A : Around) (outer : List Env) (s : Shared) (H : Hp) (E : XK) (g : G) (args : List Sl) (Φ : PR → List Sl → Prop) (Ψ : Exc → List Sl → Prop),
      Room k (cxOf (L2.CX P w) P w K mg base N x (defScope st) f cdv A outer s H E).A →
      PassesOwn (model P w) (cxOf (L2.CX P w) P w K mg base N x (defScope st) f cdv A outer s H E).A (cxOf (L2.CX P w) P w K mg base N x (defScope st) f cdv A outer s H E).env (cxOf (L2.CX P w) P w K mg base N x (defScope st) f cdv A outer s H E).xe →
      g.M = fps args → args.length = ps.length → S args Φ Ψ →
      WS (cxOf (L2.CX P w) P w K mg base N x (defScope st) f cdv A outer s H E) g (defBody st) (args ++ List.replicate (N.length - ps.length) .un) (endOf args Φ Ψ)) : Has P w K mg base (k + 1) x ps S := ⟨f, fd, hm, F.kp, hb, fn_ok F sc hln body⟩
end

/-! ### try -/
def ExM (K : Frag) : Exc → Str → Option Bool
  | .own m, n => PySem.W.exmOne K (.ref (He.ga K m)) (.ref (He.ga K n))
/-- what the clauses do with an exception -/
def TryH (X : Cx) (g : G) (P : Po) : List (Str × List Stmt) → Exc → List Sl → Prop
  | [], c, env' => P.ex c env'
  | (n, suite) :: r, c, env' => ∃ b, ExM X.K c n = some b ∧ (b = true → ∀ (a : Addr) (q : Addr × Obj) (pn : List (Addr × Obj)), WS (X.suite a (q :: pn)) g suite env' (P.exn fun _ _ => False)) ∧ (b = false → TryH X g P r c env')
inductive HdR (X : Cx) : List ExceptHandler → List (Str × List Stmt) → Prop
  | nil : HdR X [] []
  | cons {x : Str} {b₀ : Stmt} {suite : List Stmt} {np pos' : Pos} {hds : List ExceptHandler} {l : List (Str × List Stmt)} (hc : Names X x (.ref (He.ga X.K x))) (r : HdR X hds l) :
      HdR X (.ExceptHandler (some (.Name x np)) none (b₀ :: suite) pos' :: hds) ((x, b₀ :: suite) :: l)
section
variable {X : Cx} {g : G} {env env' : List Sl} {P : Po} {pos p : Pos} {body : List Stmt} {F F' H H' : Hp} {σ σ' : SS} {D : Ends} {W : WX}
def tsOf (X : Cx) (suite : List Stmt) (a : Addr) (cls : Value) (d : Option Addr) : TS := fun D σ H => ∀ (oe : Obj) (pn : List (Addr × Obj)), semS (X.suite a ((a, oe) :: pn)) suite D σ H
def hdL (X : Cx) : List (Str × List Stmt) → List (Value × (Addr → Value → Option Addr → TS))
  | [] => []
  | (n, suite) :: r => (.ref (He.ga X.K n), tsOf X suite) :: hdL X r
theorem hdr_ok : ∀ {hds : List ExceptHandler} {l : List (Str × List Stmt)}, HdR X hds l → HdsOk X hds (hdL X l)
  | _, _, .nil => .nil
  | _, _, .cons hc r => .cons hc (fun a oe cls d pn _ _ => ⟨fun pins s σ H D I h => (h oe pn).run pins s I⟩) (hdr_ok r)
theorem tryh_run {F1 : Hp} (hx2 : XOk X g P W) (hD : DOk X g F1 P D) : ∀ {l : List (Str × List Stmt)} {c : Exc} {env' : List Sl} {σ' : SS} {F' H' : Hp}, TryH X g P l c env' → St X.K g F' H' σ' env' → Ex F1 F' → ExcW X.K (wMany X.K W D (hdL X l)) σ' H' c
  | [], c, env', σ', F', H', h, s', e' => by
    have := hx2 c env' σ' F' H' h s'
    cases c
    exact this
  | (n, suite) :: r, c, env', σ', F', H', ⟨b, h1, h2, h3⟩, s', e' => by
    cases c with
    | own m =>
      refine ⟨b, h1, fun hb a ha oe pn => ?_, fun hb => tryh_run hx2 hD (h3 hb) s' e'⟩
      refine h2 hb a (a, oe) pn (fun _ _ _ _ => False) (fun _ _ x => by obtain ⟨_, _, _, _, _, _, _, _, _, _, _, _, _, _, _, _, z⟩ := x; exact z.elim) (fun _ _ _ _ _ z => z.elim) σ' F' H' s' D ?_
      exact ⟨fun e2 σ2 F2 H2 q s2 ex2 => hD.nx e2 σ2 F2 H2 q s2 (e'.trans ex2), hD.rt, fun e2 σ2 F2 H2 q s2 ex2 => hD.bk e2 σ2 F2 H2 q s2 (e'.trans ex2), fun e2 σ2 F2 H2 q s2 ex2 => hD.ct e2 σ2 F2 H2 q s2 (e'.trans ex2)⟩
theorem St.at {K : Frag} (st : St K g F H σ env) : St K { g with F0 := F } F H σ env :=
  { st.toSk with g1 := st.g1, g2 := st.g2, g3 := Ex.refl F, g4 := fun a h => .inl h, g5 := st.g5, g6 := st.g6 }
theorem St.ofAt {K : Frag} (st : St K g F H σ env) (s' : St K { g with F0 := F } F' H' σ' env') : St K g F' H' σ' env' :=
  { s'.toSk with g1 := s'.g1, g2 := s'.g2, g3 := st.g3.trans s'.g3, g5 := s'.g5, g6 := s'.g6
                 g4 := fun a h => by
                   rcases s'.g4 a h with q | q
                   · exact st.g4 a q
                   · exact .inr q }
/-- try: body, several clauses -/
theorem w1_try {h₀ : ExceptHandler} {hds : List ExceptHandler} {l : List (Str × List Stmt)} (hr : HdR X (h₀ :: hds) l)
    (h : ∀ (pn : List (Addr × Obj)) (xe : Value → Shared → Prop) (F : Hp), PassesOwn (model X.prog X.w) X.A X.env xe → WS (X.tr pn xe) { g with F0 := F } body env (P.exn (TryH X g P l)))
    (hs : X.stack = X.env :: X.outer := by rfl) (hf : X.env.frame = some X.env.locals := by rfl) : W1 X g (.Try body (h₀ :: hds) [] [] pos) env P := fun W tk hx2 σ F H s0 D hD => by
  refine semP_of (ps_try_many (tb := fun W' => fun D' σ' H' => ∀ (pn : List (Addr × Obj)) (xe : Value → Shared → Prop), Takes (X.tr pn xe) W' → PassesOwn (model X.prog X.w) X.A X.env xe → semS (X.tr pn xe) body D' σ' H') hs hf tk
    (fun W' pn xe tk' po => ⟨fun pins s σ H D I h => (h pn xe tk' po).run pins s I⟩) (hdr_ok hr)) ?_
  intro pn xe tk' po
  refine h pn xe F po _ tk' (fun c env' σ' F' H' hc s' => ?_) σ F H s0.at D ⟨fun e σ' F' H' q s' ex => hD.nx e σ' F' H' q (s0.ofAt s') ex, fun r v e σ' F' H' q s' ro => hD.rt r v e σ' F' H' q (s0.ofAt s') ?_, fun e σ' F' H' q s' ex => hD.bk e σ' F' H' q (s0.ofAt s') ex, fun e σ' F' H' q s' ex => hD.ct e σ' F' H' q (s0.ofAt s') ex⟩
  · exact tryh_run hx2 hD hc (s0.ofAt s') s'.g3
  · cases r <;> exact ro
end

/-! ### the law -/
def cLaw : CT := fun args Φ Ψ => ∃ ns : List Int, args = [.d (.list (ns.map .int))] ∧ ns.length ≤ 63 ∧ Φ (.rd (.bool true)) args
theorem law_sp {K : Frag} {H : Hp} {a : Addr} {ns : List Int} (hl : ns.length ≤ 63) (hS : SqL K H a (ns.map V.int)) : spOf K 1 cLaw [.ref a] H (fun v _ => v = .bl true) (fun _ _ _ => False) := by
  refine ⟨rfl, H, [.d (.list (ns.map .int))], fun r args' => r = .rd (.bool true), fun _ _ => False, ⟨ns, rfl, hl, rfl⟩, ⟨rfl, fun i s h => ?_, fun i j s t b h1 h2 h3 h4 => ?_, fun b ⟨i, s, h1, h2⟩ => ?_, Ex.refl H, fun _ _ h => h⟩, fun r v args' F' H' hp _ _ _ pr => ?_, fun c _ _ _ hp _ _ _ => hp.elim⟩
  · match i, h with
    | 0, h =>
      have e := Option.some.inj h
      subst e
      exact ⟨.ref a, rfl, .lst hS (dpa_ints ns)⟩
    | i + 1, h => simp at h
  · match i, h1 with
    | 0, h1 =>
      have e := Option.some.inj h1
      subst e
      cases h3
    | i + 1, h => simp at h
  · match i, h1 with
    | 0, h1 =>
      have e := Option.some.inj h1
      subst e
      cases h2
    | i + 1, h => simp at h
  · subst hp
    exact dp_bl pr
end TL

namespace TL
open PySem PySem.Spec PyProof.Rows L2
section
variable {X : Cx} {g : G} {env env' : List Sl} {Ψ : Exc → Prop} {P : Po} {pos p : Pos} {a b c e : Expr} {es : List Expr} {rest : List Stmt} {K : Frag} {F F' H H' : Hp} {σ σ' : SS}
/-- list + list, a new list -/
theorem wn_add {Φ : List PyData → Prop} (h : WE X g a env (fun d1 _ => ∃ xs, d1 = .list xs ∧ WE X g b env (fun d2 _ => ∃ ys, d2 = .list ys ∧ xs.length + ys.length ≤ sizeLine ∧ Φ (xs ++ ys)) Ψ) Ψ) : WN X g (.BinOp a .Add b pos) env Φ Ψ := by
  intro W tk σ F H st hx Q hQ
  refine semE_of (pe_op op_catL (peS a) (peS b)) ?_
  refine h W tk σ F H st hx _ fun d1 z1 v1 F1 H1 ⟨xs, hd1, h1⟩ st1 e1 r1 => ?_
  subst hd1
  refine h1 W tk σ F1 H1 st1 hx _ fun d2 z2 v2 F2 H2 ⟨ys, hd2, hl, hp⟩ st2 e2 r2 => ?_
  subst hd2
  obtain ⟨p1, vs1, rfl, s1, q1⟩ := rd_lst st2.toSk (rd_mono e2 r1)
  obtain ⟨p2, vs2, rfl, s2, q2⟩ := rd_lst st2.toSk r2
  refine ⟨p1, p2, vs1, vs2, rfl, rfl, s1, s2, by rw [dpa_len q1, dpa_len q2]; exact hl, fun p hn => ?_⟩
  exact put_new st2 hn (dpa_app q1 q2) hp fun ds v F' H' hp s e r => hQ ds v F' H' hp s ((e1.trans e2).trans e) r
/-- a statement, what holds behind it, the rest -/
theorem ws_mid {st : Stmt} (M : List Sl → Prop) (h1 : W1 X g st env (P.thn M)) (h2 : ∀ e, M e → WS X g rest e P) : WS X g (st :: rest) env P := fun W tk hx σ F H s0 D hD => by
  refine semS_of (pss_cons (psP st) (pssS rest)) ?_
  refine h1 W tk hx σ F H s0 _ ⟨fun env' σ' F' H' hw s' e' => ?_, hD.rt, hD.bk, hD.ct⟩
  exact h2 env' hw W tk hx σ' F' H' s' D (hD.mono e')
/-! bags: opened, closed -/
theorem ws_close (i : Nat) {al : Addr} {ds : List PyData} (he : env[i]? = some (.ol al ds)) (hb : BagD ds) (h : WS X g rest (env.set i (.bg al)) P) : WS X g rest env P := fun W tk hx σ F H st D hD =>
  h W tk hx σ F H (st.weak he (fun a m => m) fun ⟨h1, vs, h2, h3⟩ => ⟨h1, ds, vs, hb, h2, h3⟩) D hD
theorem ws_open (i : Nat) {al : Addr} (he : env[i]? = some (.bg al)) (h : ∀ (cells : List Int) (j s t : Int), (∀ c ∈ cells, (0 : Int) ≤ c) → 0 ≤ j → 0 ≤ s → 0 ≤ t → t < 2147483629 → WS X g rest (env.set i (.ol al [.list (cells.map .int), .int j, .int s, .int t])) P) : WS X g rest env P := fun W tk hx σ F H st D hD => by
  obtain ⟨h1, ds, vs, ⟨cells, j, s, t, rfl, q1, q2, q3, q4, q5⟩, h2, h3⟩ := st.sl i _ he
  exact h cells j s t q1 q2 q3 q4 q5 W tk hx σ F H (st.weak he (fun a m => m) fun _ => ⟨h1, vs, h2, h3⟩) D hD
end
theorem szOk {n m : Nat} (h : Nat.ble n m = true) : n ≤ m := Nat.le_of_ble_eq_true h
theorem nd_t {p : Prop} [Decidable p] (h : (!decide p) = true) : ¬ p := by simpa using h
theorem nd_f {p : Prop} [Decidable p] (h : (!decide p) = false) : p := by simpa using h
theorem nb {m : Int} (h : m.natAbs < 2 ^ 120) : m.natAbs < 2 ^ 8000 := Nat.lt_of_lt_of_le h (Nat.pow_le_pow_right (by decide) (by decide))
/-! rows given by a function -/
abbrev rg (m : Nat) (f : Nat → PyData) : List PyData := (List.range m).map f
theorem rg_len (m : Nat) (f : Nat → PyData) : (rg m f).length = m := by simp
theorem rg_succ (m : Nat) (f : Nat → PyData) : rg m f ++ [f m] = rg (m + 1) f := by simp [rg, List.range_succ]
theorem rgi_succ (i : Nat) (f : Nat → Int) : ((List.range i).map f).map PyData.int ++ [.int (f i)] = ((List.range (i + 1)).map f).map PyData.int := by simp [List.range_succ]
theorem at_nat {α : Type} {xs : List α} {i : Int} {x : α} (h0 : 0 ≤ i) (h : xs[i.toNat]? = some x) : atI xs i = some x := by
  have hl := (List.getElem?_eq_some_iff.mp h).1
  unfold atI ixN
  rw [if_pos h0, if_pos (by omega)]
  exact h
theorem at_rg {m : Nat} {f : Nat → PyData} {i : Int} (h0 : 0 ≤ i) (h1 : i < m) : atI (rg m f) i = some (f i.toNat) := at_nat h0 (by
  have hl : i.toNat < m := by omega
  simp [rg, hl])
theorem at_last {α : Type} {xs : List α} {x : α} : atI (xs ++ [x]) (-1) = some x := by
  unfold atI ixN
  rw [if_neg (by omega), List.length_append, if_pos (by simp; omega)]
  have e : (-1 + ((xs.length + [x].length : Nat) : Int)).toNat = xs.length := by simp; omega
  show (xs ++ [x])[(-1 + ((xs.length + [x].length : Nat) : Int)).toNat]? = some x
  rw [e]; simp
theorem at_ints {ns : List Int} {i : Int} (h0 : 0 ≤ i) (h1 : i < ns.length) : ∃ n, n ∈ ns ∧ ns[i.toNat]? = some n ∧ atI (ns.map PyData.int) i = some (.int n) := by
  have hl : i.toNat < ns.length := by omega
  refine ⟨ns[i.toNat], List.getElem_mem hl, by simp [hl], at_nat h0 (by simp [hl])⟩
/-! parts of slices, comprehensions over lists -/
theorem wp_none {X : Cx} {g : G} {env : List Sl} {Φ : Option Int → Prop} {Ψ : Exc → Prop} (h : Φ none) : WP X g none env Φ Ψ := h
theorem wp_e {X : Cx} {g : G} {env : List Sl} {e : Expr} {Φ : Option Int → Prop} {Ψ : Exc → Prop} (h : WE X g e env (fun d _ => ∃ i, d = .int i ∧ Φ (some i)) Ψ) : WP X g (some e) env Φ Ψ := h
theorem cut_le {α : Type} (xs : List α) (k : Int) (h0 : 0 ≤ k) (h : (xs.length : Int) ≤ k) : cut xs none (some k) = xs := by
  unfold cut HT.sIx
  have e : ¬ k < 0 := by omega
  simp only [e, if_false]
  rw [List.drop_zero, Nat.min_eq_right (by omega), Nat.sub_zero, List.take_length]
theorem ints_get {ns : List Int} {i : Nat} {x : PyData} (h : (ns.map PyData.int)[i]? = some x) : ∃ n, x = .int n ∧ ns[i]? = some n := by
  obtain ⟨n, h1, h2⟩ := map_get h
  exact ⟨n, h2.symm, h1⟩
theorem tk_succ {α : Type} {ns : List α} {i : Nat} {n : α} (f : α → PyData) (h : ns[i]? = some n) : (ns.take i).map f ++ [f n] = (ns.take (i + 1)).map f := by
  rw [List.take_succ, h]
  simp
/-! pairs of numbers -/
def ppD (p : Int × Int) : PyData := .tuple [.int p.1, .int p.2]
theorem pairs_alike (ps : List (Int × Int)) : PySem.W.AllAlike (ps.map ppD) := fun d hd d' hd' => by
  obtain ⟨p, _, rfl⟩ := List.mem_map.mp hd
  obtain ⟨q, _, rfl⟩ := List.mem_map.mp hd'
  rfl
theorem pairs_sortable (ps : List (Int × Int)) : PySem.W.Sortable (ps.map ppD) := .inl fun d hd => by
  obtain ⟨p, _, rfl⟩ := List.mem_map.mp hd
  exact ⟨_, _, rfl⟩
theorem pairs_depth (ps : List (Int × Int)) : ∀ d ∈ ps.map ppD, SeqAt.shaped d = true := fun d hd => by
  obtain ⟨p, _, rfl⟩ := List.mem_map.mp hd
  rfl
section
variable {Φ : PyData → Bool → Prop} {m : Nat} {f : Nat → PyData} {k : Int} {z1 z2 : Bool}
theorem ix_rg (h0 : 0 ≤ k) (h1 : k < m) (h : Φ (f k.toNat) true) : IxP Φ (.list (rg m f)) z1 (.int k) z2 := .lst h (at_rg h0 h1)
theorem ix_lst (h0 : 0 ≤ k) {xs : List PyData} {x : PyData} (h : xs[k.toNat]? = some x) (hp : Φ x true) : IxP Φ (.list xs) z1 (.int k) z2 := .lst hp (at_nat h0 h)
theorem ix_tup (h0 : 0 ≤ k) {xs : List PyData} {x : PyData} (h : xs[k.toNat]? = some x) (hp : Φ x true) : IxP Φ (.tuple xs) z1 (.int k) z2 := .tup hp (at_nat h0 h)
def isInt : PyData → Bool
  | .int _ => true
  | _ => false
/-- an item of a row of ints, any -/
theorem ix_any (n : Nat) (h0 : 0 ≤ k) (h1 : k < n) {xs : List PyData} (hp : ∀ n, Φ (.int n) true) (hn : xs.length = n := by rfl) (hx : xs.all isInt = true := by rfl) : IxP Φ (.list xs) z1 (.int k) z2 := by
  have hl : k.toNat < xs.length := by omega
  have hi := List.all_eq_true.mp hx _ (List.getElem_mem hl)
  obtain ⟨v, hv⟩ : ∃ v, xs[k.toNat] = .int v := by
    cases e : xs[k.toNat] with
    | int v => exact ⟨v, rfl⟩
    | _ => rw [e] at hi; cases hi
  exact .lst (hp v) (at_nat h0 (by rw [← hv]; simp [hl]))
/-- a power of literals -/
theorem powP {i j v : Int} (hv : i ^ j.toNat = v) (h : Φ (.int v) true) (hc : CPow i j) : IntP CPow (fun i j => i ^ j.toNat) Φ (.int i) z1 (.int j) z2 := ⟨by rw [hv]; exact h, hc⟩
theorem ix_ints (h0 : 0 ≤ k) {ns : List Int} (h1 : k < ns.length) (hp : ∀ n ∈ ns, Φ (.int n) true) : IxP Φ (.list (ns.map .int)) z1 (.int k) z2 := by
  obtain ⟨n, q1, _, q2⟩ := at_ints h0 h1
  exact .lst (hp n q1) q2
end

/-! the end: a law's def, by a contract whose ways may be left by own classes -/
theorem walk_x {l : PySem.W.OpenLaw} {m j : Nat} {q : Program} {lo : List Str} {XP : (Str → Option Value) → Heap → Prop} {YP : World → Heap → Prop} {d : DefRec} {x : Str} (h1 : l.most = some m) (h2 : m ≤ sizeLine) (h3 : d.params.defaults = []) (h4 : Room j callerA)
    (h : ∀ (u : World) (mg : Str → Option Value) (a : Addr) (hp : Heap), YP u hp → hp.Ns mainGlobals mg → mg d.name = some (.ref a) → ∃ (K : PySem.W.Frag) (fd : FuncData) (S : Sp), K.In hp ∧ (∀ (s : Shared) (y : Value), BindsTo s fd ⟨[y], []⟩ [(x, y)]) ∧
      (∀ (H : Hp) (b : Addr) (ns : List Int), ns.length ≤ m → SqL K H b (ns.map V.int) → S [.ref b] H (fun v _ => v = .bl true) fun _ _ _ => False) ∧ ∀ bs : Heap, K.In bs → bs.Ns mainGlobals mg → FnOk l.prog u K mg bs (L2.CX l.prog u) j a fd [x] S) :
    PySem.W.WalkO q lo XP YP l.row.toRowW d [] (fun f vs => PySem.call f vs) := by
  refine Att.attach_callB h1 h3 fun u t0 t1 mg mb a o pm cd dc b vs ns G Y ho hd hcd hmg hob hin hle _ hg => ?_
  obtain ⟨K, fd, S, KX, hb, hS, hF⟩ := h u mg a _ Y G.T.g hmg
  have hl2 := Nat.le_trans hle h2
  have T := G.T
  refine law_call KX T.g T.b T.builtins T.nolimit hg hob hin hl2 h4 hF hb (fun H _ hs => hS H b ns hle hs) fun H e t z => ?_
  obtain ⟨_, _, _, _, _, _, _, _, _, _, _, _, z⟩ := z
  exact z
theorem exk_of {K : Frag} {mg : Str → Option Value} {x : Str} (g : mg x = some (.ref (He.ga K x))) (h : PySem.W.excIn K (He.ga K x) He.veBase "ValueError.__new__" = true ∧ PySem.W.keepIn K (.ref (He.ga K x)) = true ∧ PySem.W.subIn K (.ref (He.ga K x)) (.type "BaseException") = some true ∧ PySem.W.typeIn K (.ref (He.ga K x)) = some (.type "type")) : ExK K mg x := ⟨g, h.1, h.2.1, h.2.2.1, h.2.2.2⟩
theorem Has.mono {P : Program} {w : World} {K : Frag} {mg : Str → Option Value} {base : Heap} {j k : Nat} {x : Str} {ps : List Str} {S : CT} (h : Has P w K mg base j x ps S) (le : j ≤ k) : Has P w K mg base k x ps S := by
  obtain ⟨f, fd, h1, h2, h3, h4⟩ := h.ex
  exact ⟨f, fd, h1, h2, h3, h4.mono le⟩
end TL

/-! enumerate over a tuple -/
namespace TL
open PySem PySem.Spec PyProof.Rows L2
theorem enu_new {v : Value} {o : Obj} {D : Heap → Prop} (B : Begins v o D) : Meets (Builtin.«enumerate.__new__» ⟨[.type "enumerate", v], []⟩) (fun _ R z => D z.heap ∧
    R (.ok (.ret (.ref (z.heap.push o).objs.size))) { z with heap := (z.heap.push o).push { cls := .type "enumerate", data := .fields #[.none, .bool false, .ref z.heap.objs.size, rawInt 0, .none, .none] } }) :=
  .of_wp fun prog w A R z y => by
    obtain ⟨h0, g0, d0, t0, o0⟩ := z
    obtain ⟨y1, y2⟩ := y
    have sb := sub_enumerate
    have go : ∀ {A' : Around} {E : Value → Shared → Prop} {Q : Value → Shared → Prop}, Q (.ref h0.objs.size) ⟨h0.push o, g0, d0, t0, o0⟩ → wpAny (model prog w) A' (pyIter v) Q E ⟨h0, g0, d0, t0, o0⟩ := fun q => B.iter prog w _ _ _ _ y1 q
    wp_walk using go
    refine wpAny_stack_any fun _ => wpAny_pure ?_
    split
    · rename_i cc _ _ _ _ _
      cases (cc == Value.type "enumerate")
      all_goals
        wp_walk using go
        exact ⟨_, rfl, y2⟩
    · wp_walk using go
      exact ⟨_, rfl, y2⟩
theorem enu_call {prog : Program} {w : World} {A : Around} {E : Value → Shared → Prop} {z : Shared} {v : Value} {o : Obj} {D : Heap → Prop} {Q : Value → Shared → Prop} (B : Begins v o D) (y : D z.heap)
    (k : ∀ h', IsEnum h' (z.heap.objs.size + 1) z.heap.objs.size 0 .none → h'.get? z.heap.objs.size = some o → (∀ b u, z.heap.get? b = some u → h'.get? b = some u) → Q (.ref (z.heap.objs.size + 1)) { z with heap := h' }) :
    wpAny (model prog w) A (call (.type "enumerate") [v]) Q E z := by
  refine callType_new F.called_enumerate (by decide) (F.typeCall_enumerate_1 _) (F.newCall_enumerate_1 _) (fun u => F.args_object_init_2 u _) F.entry_enumerate_new (enu_new B) ⟨y, ?_⟩
  have sz : (z.heap.push o).objs.size = z.heap.objs.size + 1 := Heap.size_push ..
  show _ ∧ _
  rw [sz]
  have en : IsEnum ((z.heap.push o).push { cls := .type "enumerate", data := .fields #[.none, .bool false, .ref z.heap.objs.size, rawInt 0, .none, .none] }) (z.heap.objs.size + 1) z.heap.objs.size 0 .none := by
    have u := Heap.get?_push_size (z.heap.push o) (o := { cls := .type "enumerate", data := .fields #[.none, .bool false, .ref z.heap.objs.size, rawInt 0, .none, .none] }) rfl
    rw [sz] at u
    exact u
  exact ⟨⟨_, en, rfl⟩, k _ en (Heap.get?_push_of_some _ (Heap.get?_push_size _ B.free)) fun b u x => Heap.get?_push_of_some _ (Heap.get?_push_of_some _ x)⟩
/-- the tuple at a, each item in a new pair -/
def EnT (K : PySem.W.Frag) (a : Addr) : It :=
  ⟨fun i H => ∃ (vs : List V) (v : V), SqT K H a vs ∧ vs[i]? = some v, fun i H u H' => ∃ p v, u = .ref p ∧ H p = none ∧ H' = upd H p (.tup [.int (i : Nat), v]) ∧ ∀ vs, SqT K H a vs → vs[i]? = some v, fun i H => ∃ vs : List V, SqT K H a vs ∧ vs.length = i⟩
theorem turn_en {P : Program} {w : World} {K : PySem.W.Frag} {elts : List Expr} {kk : Nat} {tpos : Pos} (a e it : Addr) :
    Turn P w K (.Tuple elts kk tpos) (EnT K a) [e, it] e (fun i h => (∃ old, IsEnum h e it ((i : Nat) : Int) old) ∧ h.IsTupleIter it a i ∧ e ≠ it) where
  mem := by simp
  obj := fun i h q b hb => by
    obtain ⟨⟨old, en⟩, ⟨o, o1, o2, o3⟩, _⟩ := q
    have hb2 : b = e ∨ b = it := by simpa using hb
    rcases hb2 with rfl | rfl
    · exact ⟨_, en, fun v q => nomatch q⟩
    · exact ⟨o, o1, fun v q => by rw [o3] at q; cases q⟩
  keep := fun i h h' q k => by
    obtain ⟨⟨old, en⟩, ⟨o, o1, o2⟩, ne⟩ := q
    exact ⟨⟨old, k e (by simp) _ en⟩, ⟨o, k it (by simp) _ o1, o2⟩, ne⟩
  item := by
    intro X hP hw hK hc i pins s σ H E I fps st go
    subst hP hw hK
    obtain ⟨⟨old, en⟩, ti, ne⟩ := st
    obtain ⟨vs, v, sq, hv⟩ := go
    obtain ⟨its, rv, pt, hz⟩ := I.tuple sq
    obtain ⟨u, hu, ru⟩ := rv.get hv
    have lte : e < s.heap.objs.size := Heap.lt_size en
    have lti : it < s.heap.objs.size := by obtain ⟨_, q, _⟩ := ti; exact Heap.lt_size q
    have ani : a ≠ it := fun z => by
      obtain ⟨o, q1, q2, _⟩ := ti
      obtain ⟨o', q3, q4, _⟩ := pt
      rw [z, q1] at q3
      cases q3
      rw [q2] at q4
      exact absurd q4 (by decide)
    obtain ⟨f0, f1, f2, f3, f4, f5⟩ := fps it (by simp)
    have hlt : i < its.toArray.size := by
      have := (List.getElem?_eq_some_iff.mp hu).1
      simpa using this
    have ane : a ≠ e := fun z => by
      obtain ⟨o', q3, q4, _⟩ := pt
      have en' : s.heap.get? e = some _ := en
      rw [z, en'] at q3
      cases q3
      exact absurd q4 (by show ¬ (Value.type "enumerate" = Value.type "tuple"); decide)
    refine wpAny_pyNext_enum_itemD (Draws.tuple (show X.A.in1.handled = none from I.ok.hd hc) it a ani its.toArray) en ⟨ti, pt⟩ hlt ne (by
      intro hm
      have hm2 : e = it ∨ e = a := by simpa using hm
      rcases hm2 with z | z
      · exact ne z
      · exact ane z.symm) fun x h' tk hx eo st' hT hsz keep => ?_
    have xu : x = u := by
      have hx' : its[i]? = some x := by simpa using hx
      rw [hu] at hx'
      exact (Option.some.inj hx').symm
    subst xu
    refine ⟨_, rfl, wpAny_letOwnedTupleGo_enum (s := { s with heap := h', toks := tk + 1 }) eo fun h2 en2 sb => ?_⟩
    have hT2 : h2.get? s.heap.objs.size = some { cls := .type "tuple", data := .seq #[.int i tk, x] } := (sb.2 _ (Nat.ne_of_gt lte)).trans hT
    have nw : ObjOk X.prog X.w (upd H s.heap.objs.size (.tup [.int (i : Nat), v])) h2 s.heap.objs.size (.tup [.int (i : Nat), v]) := ⟨by show 2 ≤ sizeLine; decide, [.int i tk, x], .cons ⟨_, rfl⟩ (.cons ru .nil), ⟨_, hT2, rfl, _, rfl⟩⟩
    have I2 : Inv X pins σ (upd H s.heap.objs.size (.tup [.int (i : Nat), v])) { s with heap := h2, toks := tk + 1 } :=
      I.turnedNew (ch := [e, it]) (fun b ob hb q => (sb.2 b fun z => hb (by simp [z])).trans (keep b ob (fun z => hb (by simp [z])) (fun z => hb (by simp [z])) q)) fps (Nat.le_refl _) nw
    refine ⟨.ref s.heap.objs.size, _, I2, rfl, ⟨_, v, rfl, I.hok.fresh (Nat.le_refl _), rfl, fun ys hy => by rw [I.tuple_inj hy sq]; exact hv⟩, ⟨⟨x, ?_⟩, ?_, ne⟩, fun b hb => ?_⟩
    · rw [show ((i + 1 : Nat) : Int) = (i : Int) + 1 by omega]
      exact en2
    · obtain ⟨o, q1, q2⟩ := st'.1
      exact ⟨o, (sb.2 it (Ne.symm ne)).trans q1, q2⟩
    · have hb2 : b = e ∨ b = it := by simpa using hb
      have lb : b < s.heap.objs.size := by
        rcases hb2 with rfl | rfl
        · exact lte
        · exact lti
      rw [upd_ne (Nat.ne_of_lt lb)]
      exact (fps b hb).1
  done := by
    intro X hP hw hK hc i pins s σ H E I fps st go
    subst hP hw hK
    obtain ⟨⟨old, en⟩, ti, ne⟩ := st
    obtain ⟨vs, sq, hv⟩ := go
    obtain ⟨its, rv, pt, hz⟩ := I.tuple sq
    obtain ⟨f0, f1, f2, f3, f4, f5⟩ := fps it (by simp)
    have ani : a ≠ it := fun z => by
      obtain ⟨o, q1, q2, _⟩ := ti
      obtain ⟨o', q3, q4, _⟩ := pt
      rw [z, q1] at q3
      cases q3
      rw [q2] at q4
      exact absurd q4 (by decide)
    have hl := rv.length
    have hn : its.toArray.size = i := by simp; omega
    subst hn
    refine wpAny_pyNext_enum_endD (Draws.tuple (show X.A.in1.handled = none from I.ok.hd hc) it a ani its.toArray) en ⟨ti, pt⟩ fun h' eb => ⟨rfl, I.turned (t' := s.toks) (fun b o hb q => eb b o hb q) f0 f1 f3 f4 f5⟩
  self := fun A i s Q E q h => by
    obtain ⟨⟨_, en⟩, _⟩ := q
    exact wpAny_pyIter_enum en h
def iEnT (K : PySem.W.Frag) (ta : TA) : TI := fun σ H R => ta σ H fun vs H1 => ∃ a xs, vs = [.ref a] ∧ SqT K H1 a xs ∧ R (EnT K a) H1
theorem pi_enT {X : Cx} {e : Expr} {ta : TA} {p pos tpos : Pos} {elts : List Expr} {kk : Nat} (hg : Gl X "enumerate") (hm : X.mg "enumerate" = none) (ha : PA X [e] ta) (hs : starEach [e] X.env = [(false, eval e X.env)] := by rfl) :
    PI X (.Tuple elts kk tpos) (.Call (.Name "enumerate" p) [e] [] pos) (iEnT X.K ta) := by
  refine ⟨fun pins z σ H R I h => ?_⟩
  refine Call_ (ld_blt I hg hm boot_enumerate (PyProof.Rows.callWith_type1 (thn (ha.run pos pins z σ H _ I h) fun us z1 ⟨vs, H1, I1, r1, q1⟩ => ?_) hs rfl))
  obtain ⟨a, xs, rfl, sq, q⟩ := q1
  cases r1 with
  | cons r rr =>
    cases rr
    cases r
    obtain ⟨its, rv, pt, _⟩ := I1.tuple sq
    refine enu_call (begins_tuple a its.toArray) pt fun h' en iv keep => wpAny_pyIter_enum en ?_
    have I2 : Inv X pins σ H1 { z1 with heap := h' } := I1.kept (t' := z1.toks) keep
    refine ⟨z1.heap.objs.size + 1, [z1.heap.objs.size + 1, z1.heap.objs.size], _, _, H1, rfl, I2, turn_en a (z1.heap.objs.size + 1) z1.heap.objs.size, ⟨⟨.none, en⟩, ⟨_, iv, rfl, rfl⟩, Nat.succ_ne_self _⟩, fun b hb => ?_, q⟩
    have hb2 : b = z1.heap.objs.size + 1 ∨ b = z1.heap.objs.size := by simpa using hb
    have le : z1.heap.objs.size ≤ b := by
      rcases hb2 with rfl | rfl
      · exact Nat.le_add_right _ _
      · exact Nat.le_refl _
    exact I1.fpOk le (I1.hok.fresh le)
section
variable {K : PySem.W.Frag} {a : Addr} {xs : List V}
theorem walk_enT : Walk (EnT K a) xs.length (fun H => SqT K H a xs) (YPair (fun i => some (.int (i : Nat))) fun i => xs[i]?) := by
  refine ⟨fun i _ hi q => ⟨xs, xs[i], q, by simp [hi]⟩, fun _ q => ⟨xs, q, rfl⟩, fun i H v H' _ q y => ?_⟩
  obtain ⟨p, u, y1, y2, y3, y4⟩ := y
  exact ⟨p, _, u, y1, y2, y3, rfl, y4 xs q⟩
end
end TL

namespace TL
open PySem PySem.Spec PyProof.Rows L2
section
variable {X : Cx} {g : G} {env env' : List Sl} {Ψ : Exc → Prop} {P : Po} {pos p p2 p3 : Pos} {a b c e : Expr} {es : List Expr} {rest body : List Stmt} {K : Frag} {F F' H H' : Hp} {σ σ' : SS}
/-! ### isinstance -/
def tyN : PyData → String
  | .none => "NoneType"
  | .bool _ => "bool"
  | .int _ => "int"
  | .str _ => "str"
  | .list _ => "list"
  | .tuple _ => "tuple"
  | .dict _ => "dict"
theorem tyx_of {z : Bool} {v : V} {d : PyData} (st : Sk K F H σ env) (h : Rd K F env z v d) : TyX K H v (.type (tyN d)) := by
  have h := rd_now st h
  cases h with
  | non => exact .base .non
  | bl b => exact .base (.bl b)
  | int i => exact .base (.int i)
  | str s => exact .base (.str s)
  | lst s _ =>
    rcases s with s | ⟨o, _, _, s, q, _⟩
    · rcases s with s | ⟨o, s⟩
      · exact .base (.lst s)
      · exact .base (.frz s)
    · exact .kList s q
  | tup s _ => exact .base (.tup s)
  | dct s _ => exact .base (.dT s)
  | dck s _ => exact .base (.dK s)
def isTyB (T : String) (d : PyData) : Bool := (kitB (tyN d) T).getD false
theorem kitB_some (T : String) (d : PyData) (h : ([("NoneType" : String), "bool", "int", "str", "list", "tuple", "dict"].all fun t => (kitB t T).isSome) = true) : kitB (tyN d) T = some (isTyB T d) := by
  have m : tyN d ∈ [("NoneType" : String), "bool", "int", "str", "list", "tuple", "dict"] := by cases d <;> simp [tyN]
  have q := List.all_eq_true.mp h _ m
  unfold isTyB
  cases e : kitB (tyN d) T with
  | none => rw [e] at q; cases q
  | some r => rfl
theorem pa_ty {T : String} {y : Str} (hm : X.mg y = none) (hv : bootBuiltins y = some (.type T)) (hg : Gl X y) (hn : y ≠ "__name__" := by decide) (hd : (y == ("__debug__" : Str)) = false := by decide) : PE X (.Name y p) (tC (.ty T)) := pe_bltn hg hm hv rfl hn hd
theorem we_isi (T : String) {y : Str} {Φ : PyData → Bool → Prop} (hm : X.mg "isinstance" = none) (hy : X.mg y = none) (h : WE X g a env (fun d _ => Φ (.bool (isTyB T d)) true) Ψ) (hv : bootBuiltins y = some (.type T) := by decide +kernel) (hg2 : Gl X y := by rfl)
    (hk : ([("NoneType" : String), "bool", "int", "str", "list", "tuple", "dict"].all fun t => (kitB t T).isSome) = true := by decide +kernel) (hn : y ≠ "__name__" := by decide) (hd : (y == ("__debug__" : Str)) = false := by decide) (hg : Gl X "isinstance" := by rfl)
    (he : starEach [a, .Name y p2] X.env = (false, eval a X.env) :: starEach [.Name y p2] X.env := by rfl) (he2 : starEach [.Name y p2] X.env = (false, eval (.Name y p2) X.env) :: starEach [] X.env := by rfl) (hpl : (backTo pos (starEach [.Name y p2] X.env)).any (·.1) = false := by rfl) :
    WE X g (.Call (.Name "isinstance" p) [a, .Name y p2] [] pos) env Φ Ψ := fun W tk σ F H st hx Q hQ => by
  refine semE_of (pe_callB call_isi hg hm boot_isinstance (pa_cons (peS a) (pa_cons (pa_ty hy hv hg2 hn hd) pa_nil he2) he) (by decide) (by decide) he hpl) ?_
  refine h W tk σ F H st hx _ fun d1 z1 v1 F1 H1 h1 st1 e1 r1 => ?_
  exact ⟨v1, .ty T, .type (tyN d1), .type T, isTyB T d1, rfl, .ty T, tyx_of st1.toSk r1, kit_ty (kitB_some T d1 hk), hQ _ true _ F1 H1 h1 st1 e1 (.bl _)⟩
/-- isinstance(x, (list, tuple)) -/
theorem we_isiLT {Φ : PyData → Bool → Prop} {p4 : Pos} {x1 : Nat} (hm : X.mg "isinstance" = none) (hl : X.mg "list" = none) (ht : X.mg "tuple" = none) (h : WE X g a env (fun d _ => Φ (.bool (isTyB "list" d || isTyB "tuple" d)) true) Ψ)
    (hg : Gl X "isinstance" := by rfl) (hgl : Gl X "list" := by rfl) (hgt : Gl X "tuple" := by rfl)
    (he : starEach [a, .Tuple [.Name "list" p2, .Name "tuple" p3] x1 p4] X.env = (false, eval a X.env) :: starEach [.Tuple [.Name "list" p2, .Name "tuple" p3] x1 p4] X.env := by rfl)
    (he2 : starEach [.Tuple [.Name "list" p2, .Name "tuple" p3] x1 p4] X.env = (false, eval (.Tuple [.Name "list" p2, .Name "tuple" p3] x1 p4) X.env) :: starEach [] X.env := by rfl)
    (hpl : (backTo pos (starEach [.Tuple [.Name "list" p2, .Name "tuple" p3] x1 p4] X.env)).any (·.1) = false := by rfl)
    (he3 : starEach [.Name "list" p2, .Name "tuple" p3] X.env = (false, eval (.Name "list" p2) X.env) :: starEach [.Name "tuple" p3] X.env := by rfl) (he4 : starEach [.Name "tuple" p3] X.env = (false, eval (.Name "tuple" p3) X.env) :: starEach [] X.env := by rfl) :
    WE X g (.Call (.Name "isinstance" p) [a, .Tuple [.Name "list" p2, .Name "tuple" p3] x1 p4] [] pos) env Φ Ψ := fun W tk σ F H st hx Q hQ => by
  refine semE_of (pe_callB call_isiT hg hm boot_isinstance (pa_cons (peS a) (pa_cons (pe_tup (pa_cons (pa_ty (T := "list") hl (by decide +kernel) hgl) (pa_cons (pa_ty (T := "tuple") ht (by decide +kernel) hgt) pa_nil he4) he3)) pa_nil he2) he) (by decide) (by decide) he hpl) ?_
  refine h W tk σ F H st hx _ fun d1 z1 v1 F1 H1 h1 st1 e1 r1 => ?_
  refine ⟨by decide, fun tp hn => ?_⟩
  have st2 := st1.allocF (o := .tup [.ty "list", .ty "tuple"]) hn
  have hF : F1 tp = none := st1.ex.none hn
  refine ⟨v1, tp, [.ty "list", .ty "tuple"], .type (tyN d1), [.type "list", .type "tuple"], isTyB "list" d1 || isTyB "tuple" d1, rfl, upd_same, .cons (.ty _) (.cons (.ty _) .nil), tyx_of st2.toSk (rd_mono (Ex.new hF) r1), ?_, hQ _ true _ _ _ h1 st2 (e1.trans (Ex.new hF)) (.bl _)⟩
  refine kitAny_cons (kit_ty (kitB_some "list" d1 (by decide +kernel))) (fun q => ?_) fun q => by rw [q]; rfl
  rw [q, Bool.false_or]
  refine kitAny_cons (kit_ty (kitB_some "tuple" d1 (by decide +kernel))) (fun q => ?_) fun q => q
  rw [q]
  rfl
/-! ### slices of tuples and texts -/
theorem cut_whole {α : Type} {xs : List α} {lo hi : Option Int} (h : HT.sIx xs.length 0 lo = 0 ∧ HT.sIx xs.length xs.length hi = xs.length) : cut xs lo hi = xs := by
  unfold cut
  rw [h.1, h.2, List.drop_zero, Nat.sub_zero, List.take_length]
theorem we_sliceT {lo hi : Option Expr} {Φ : PyData → Bool → Prop} (h : WE X g a env (fun d1 _ => ∃ xs, d1 = .tuple xs ∧ WP X g lo env (fun l => WP X g hi env (fun u => Φ (.tuple (cut xs l u)) true) Ψ) Ψ) Ψ) : WE X g (.Subscript a (.Slice lo hi none p2) pos) env Φ Ψ := fun W tk σ F H st hx Q hQ => by
  refine semE_of (pe_slice sl_tupA (peS a) (poS lo) (poS hi)) ?_
  refine h W tk σ F H st hx _ fun d1 z1 v1 F1 H1 ⟨xs, hd, h1⟩ st1 e1 r1 => ?_
  subst hd
  refine wp_run h1 tk st1 hx fun l F2 H2 h2 st2 e2 => wp_run h2 tk st2 hx fun u F3 H3 h3 st3 e3 => ?_
  obtain ⟨a1, vs1, rfl, s1, p1⟩ := rd_tup st3.toSk (rd_mono (e2.trans e3) r1)
  refine ⟨a1, vs1, rfl, s1, fun hw => ?_, fun hw q hq => ?_⟩
  · have hw' : HT.sIx xs.length 0 l = 0 ∧ HT.sIx xs.length xs.length u = xs.length := by rw [← dpa_len p1]; exact hw
    rw [cut_whole hw'] at h3
    refine hQ _ true _ F3 H3 h3 st3 ((e1.trans e2).trans e3) ?_
    have := rd_mono (e2.trans e3) r1
    cases z1 with
    | true => exact this
    | false => obtain ⟨_, _, _, _, e⟩ := this; cases e
  · exact put_tup st3 hq (dpa_cut p1 l u) h3 fun d z v F' H' hp s e r => hQ d z v F' H' hp s (((e1.trans e2).trans e3).trans e) r
theorem we_sliceS {lo hi : Option Expr} {Φ : PyData → Bool → Prop} (h : WE X g a env (fun d1 _ => ∃ z, d1 = .str z ∧ z.length ≤ sizeLine ∧ WP X g lo env (fun l => WP X g hi env (fun u => Φ (.str (cutS z l u)) true) Ψ) Ψ) Ψ) : WE X g (.Subscript a (.Slice lo hi none p2) pos) env Φ Ψ := fun W tk σ F H st hx Q hQ => by
  refine semE_of (pe_slice sl_str (peS a) (poS lo) (poS hi)) ?_
  refine h W tk σ F H st hx _ fun d1 z1 v1 F1 H1 ⟨z, hd, hz, h1⟩ st1 e1 r1 => ?_
  subst hd
  refine wp_run h1 tk st1 hx fun l F2 H2 h2 st2 e2 => wp_run h2 tk st2 hx fun u F3 H3 h3 st3 e3 => ?_
  exact ⟨z, rd_str r1, hz, hQ _ true _ F3 H3 h3 st3 ((e1.trans e2).trans e3) (.str _)⟩
/-! ### for i, x in enumerate(..) -/
theorem for_turn2 {t : TG} {A : PyData → Option (List (Nat × PyData))} {F1 F : Hp} {Pv : Nat → List Sl → Prop} {i : Nat} {x : PyData} {v : V} {D : Ends} {W : WX} (tk : Takes X W) (hx2 : XOk X g P W) (hD : DOk X g F1 P D) (htd : TGd X.K t A) (hv : Dq X.K F v x) (s1 : St X.K g F H σ env) (e1 : Ex F1 F) (hp : Pv i env) (h : FT X g body A P Pv i x) :
    t v σ H fun σ2 H2 => semS X body { D with nx := FJ X.K g F1 Pv (i + 1), ct := FJ X.K g F1 Pv (i + 1), bk := D.nx } σ2 H2 := by
  obtain ⟨l, hA, hl, hw⟩ := h env hp
  refine htd x l σ F H v _ hA s1.ex hv fun r sr => ?_
  have s2 := s1.sets sr fun q hq => ltB (List.all_eq_true.mp hl q hq)
  exact hw W tk hx2 _ F H s2 _ ⟨fun e2 σ' F' H' q s' ex => ⟨F', e2, s', e1.trans ex, q⟩, hD.rt, fun e2 σ' F' H' q s' ex => hD.nx e2 σ' F' H' q s' (e1.trans ex), fun e2 σ' F' H' q s' ex => ⟨F', e2, s', e1.trans ex, q⟩⟩
theorem w1_forE {elts : List Expr} {kk : Nat} {tpos p1 : Pos} {t : TG} {A : PyData → Option (List (Nat × PyData))} (hm : X.mg "enumerate" = none) (hp : PassesOwn (model X.prog X.w) X.A X.env X.xe) (hc : X.calm = true) (hpg : PG X (.Tuple elts kk tpos) t) (htd : TGd X.K t A)
    (hi : WE X g a env (fun d z => z = true ∧ ∃ (xs : List PyData) (Pv : Nat → List Sl → Prop), d = .tuple xs ∧ Pv 0 env ∧ (∀ i x, xs[i]? = some x → FT X g body A P Pv i (.tuple [.int i, x])) ∧ ∀ e, Pv xs.length e → P.nx e) (fun c => P.ex c env))
    (hs : ∀ x, foldedSetIterable (.Call (.Name "enumerate" p1) [a] [] p2) X.env x = pure x := by intro _; rfl) (hg : Gl X "enumerate" := by rfl) (he : starEach [a] X.env = [(false, eval a X.env)] := by rfl) : W1 X g (.For (.Tuple elts kk tpos) (.Call (.Name "enumerate" p1) [a] [] p2) body [] pos) env P := fun W tk hx2 σ F H s0 D hD => by
  refine semP_of (ps_for hp hc (pi_enT hg hm (pa_cons (peS a) pa_nil (by rw [he]; rfl)) he) hpg (pssS body) hs) ?_
  refine hi W tk σ F H s0 (hx2.hx env σ) _ fun d z v F1 H1 ⟨hz, xs, Pv, hd, p0, pt, pe⟩ s1 e1 rd => ?_
  subst hz hd
  obtain ⟨al, vs, rfl, hsq, hda⟩ := dp_tup rd
  refine ⟨al, vs, rfl, ex_t s1.ex hsq, ?_⟩
  refine for_it walk_enT (FJ X.K g F1 Pv) ⟨F1, env, s1, Ex.refl F1, p0⟩ (fun i σ' H' _ ⟨F2, e2, s2, ex2, _⟩ => ex_t s2.ex (ex_t ex2 hsq)) (fun i u σ' H2 H3 hlt hJ hy => ?_) (fun σ' H' ⟨F2, e2, s2, ex2, hp2⟩ => ?_)
  · obtain ⟨T, x, y, rfl, hn, rfl, hx, hy⟩ := hy
    have hx' := Option.some.inj hx
    subst hx'
    obtain ⟨d, hd1, hd2⟩ := dpa_of hda hy
    obtain ⟨F2, e2, s2, ex2, hp2⟩ := hJ
    have hF : F2 T = none := s2.ex.none hn
    exact for_turn2 tk hx2 (hD.mono e1) htd (.tup upd_same (.cons (.int _) (.cons (dp_mono (ex2.trans (Ex.new hF)) _ _ hd2) .nil))) (s2.allocF hn) (ex2.trans (Ex.new hF)) hp2 (pt i d hd1)
  · rw [dpa_len hda] at hp2
    exact hD.nx e2 σ' F2 H' (pe e2 hp2) s2 (e1.trans ex2)
end
end TL

namespace TL
open PySem PySem.Spec PyProof.Rows L2
/-! calls that change what they are handed; calls with a new empty list as the last argument -/
def backE (env : List Sl) : List Ar → List Sl → List Sl
  | .s i :: as, s :: ss => (backE env as ss).set i s
  | .d _ :: as, _ :: ss => backE env as ss
  | _, _ => env
section
variable {X : Cx} {g : G} {env env' : List Sl} {Ψ : Exc → Prop} {P : Po} {pos p lp : Pos} {a b c e : Expr} {es : List Expr} {rest body : List Stmt} {K : Frag} {F F' H H' : Hp} {σ σ' : SS}
theorem backE_len : ∀ (as : List Ar) (ss : List Sl), (backE env as ss).length = env.length
  | .s i :: as, s :: ss => by rw [backE, List.length_set, backE_len as ss]
  | .d _ :: as, _ :: ss => backE_len as ss
  | [], _ => rfl
  | .s _ :: _, [] => rfl
  | .d _ :: _, [] => rfl
theorem backE_out : ∀ {as : List Ar} {ss : List Sl} {i : Nat}, i ∉ arIx as → (backE env as ss)[i]? = env[i]?
  | .s j :: as, s :: ss, i, h => by
    have h1 : i ≠ j := fun z => h (by rw [z]; exact List.mem_cons_self ..)
    rw [backE, List.getElem?_set, if_neg (Ne.symm h1)]
    exact backE_out fun z => h (List.mem_cons_of_mem _ z)
  | .d _ :: as, _ :: ss, i, h => backE_out (as := as) h
  | [], _, _, _ => rfl
  | .s _ :: _, [], _, _ => rfl
  | .d _ :: _, [], _, _ => rfl
theorem backE_in : ∀ {as : List Ar} {ss : List Sl} {i j : Nat} {s : Sl}, (arIx as).Nodup → ss.length = as.length → as[j]? = some (.s i) → (backE env as ss)[i]? = some s → ss[j]? = some s
  | .s k :: as, t :: ss, i, 0, s, nd, hl, h1, h2 => by
    have e := Option.some.inj h1
    injection e with e
    subst e
    rw [backE, List.getElem?_set, if_pos rfl] at h2
    split at h2
    · exact h2
    · cases h2
  | .s k :: as, t :: ss, i, j + 1, s, nd, hl, h1, h2 => by
    have nd2 := List.nodup_cons.mp nd
    have hm : i ∈ arIx as := arix_mem (as := as) (j := j) h1
    have ne : k ≠ i := fun z => nd2.1 (z ▸ hm)
    rw [backE, List.getElem?_set, if_neg ne] at h2
    exact backE_in (as := as) (j := j) nd2.2 (Nat.succ.inj hl) h1 h2
  | .d _ :: as, t :: ss, i, 0, s, nd, hl, h1, h2 => by
    have e := Option.some.inj h1
    cases e
  | .d _ :: as, t :: ss, i, j + 1, s, nd, hl, h1, h2 => backE_in (as := as) (j := j) (ss := ss) nd (Nat.succ.inj hl) h1 h2
  | [], _, _, _, _, _, _, h1, _ => by simp at h1
  | _ :: _, [], _, _, _, _, hl, _, _ => by cases hl
theorem ix_of : ∀ {as : List Ar} {i : Nat}, i ∈ arIx as → ∃ j : Nat, as[j]? = some (Ar.s i)
  | .d z :: r, i, h => by
    obtain ⟨j, hj⟩ := ix_of (as := r) h
    exact ⟨j + 1, hj⟩
  | .s l :: r, i, h => by
    rcases List.mem_cons.mp (show i ∈ l :: arIx r from h) with e | h
    · subst e; exact ⟨0, rfl⟩
    · obtain ⟨j, hj⟩ := ix_of h; exact ⟨j + 1, hj⟩
theorem st_back {as : List Ar} {vs : List V} {args' : List Sl} (st : St K g F H σ env) (ha : ArAll K F σ vs as) (nd : (arIx as).Nodup) (hs : ∀ i ∈ arIx as, i < env.length) (sk : Sk K F' H' (vs.map some) args') (hst : Step F H (as.map (slOf env)) F' H')
    (hf : args'.map Sl.fp = (as.map (slOf env)).map Sl.fp) : St K g F' H' σ (backE env as args') := by
  have hl : args'.length = as.length := by have := congrArg List.length hf; simpa using this
  refine st.called ha sk hst (backE_len _ _) (fun i s h1 h2 => by rw [backE_out h1] at h2; exact h2) (fun j i s h1 h2 => backE_in nd hl h1 h2) (fun i s s' h1 h2 a h3 => ?_)
  by_cases hi : i ∈ arIx as
  · obtain ⟨j, hj⟩ := ix_of hi
    have q := backE_in nd hl hj h2
    have q2 : (args'.map Sl.fp)[j]? = some s'.fp := by rw [List.getElem?_map, q]; rfl
    rw [hf, List.getElem?_map, List.getElem?_map, hj] at q2
    have e : slOf env (.s i) = s := by show env[i]?.getD .un = _; rw [h1]; rfl
    have q3 : some (slOf env (.s i)).fp = some s'.fp := q2
    rw [e] at q3
    rw [Option.some.inj q3]
    exact h3
  · rw [backE_out hi, h1] at h2
    cases h2
    exact h3
/-- f(..) as a statement, what it was handed changed -/
theorem w1_callM {j k : Nat} {x : Str} {ps : List Str} {S : CT} (hf : Has X.prog X.w X.K X.mg X.base j x ps S) (hr : Room k X.A)
    (h : WAs X g (e :: es) env (fun as => callOk as ps.length env.length = true ∧ S (as.map (slOf env)) (fun _ args' => args'.map Sl.fp = (as.map (slOf env)).map Sl.fp ∧ P.nx (backE env as args')) (fun c args' => args' = as.map (slOf env) ∧ P.ex c env)) (fun c => P.ex c env))
    (hj : j ≤ k := by omega) (hg : Gl X x := by rfl) (hdb : (x == ("__debug__" : Str)) = false := by decide)
    (he : starEach (e :: es) X.env = (false, eval e X.env) :: starEach es X.env := by rfl) (hpl : (backTo p (starEach es X.env)).any (·.1) = false := by rfl) {p1 : Pos}
    (hs : swapsWith (.Call (.Name x p1) (e :: es) [] p) none pos.line X.env = pure false := by rfl) : W1 X g (.Expr (.Call (.Name x p1) (e :: es) [] p) pos) env P := fun W tk hx2 σ F H s0 D hD => by
  obtain ⟨f, fd, hm, hk, hb, F0⟩ := hf.ex
  refine semP_of (ps_expr (pe_callS F0 (hr.mono hj) hg hm hk hb (fun σ => passAt tk σ) (paS (e :: es)) hdb he hpl) hs) ?_
  refine h W tk σ F H s0 (hx2.hx env σ) _ fun as vs F1 H1 ⟨hok, hS⟩ s1 e1 ra => ?_
  obtain ⟨h1, h2, h3⟩ := callOk_ok hok
  refine ⟨by rw [arall_len ra, h1], F1, as.map (slOf env), _, _, hS, s1.toSk.callee ra h2 h3, fun r v args' F' H' ⟨ea, hp⟩ sk hst _ pr => ?_, fun c args' F' H' ⟨ea, hp⟩ sk hst _ => ?_⟩
  · exact hD.nx _ _ F' H' hp (st_back s1 ra h2 h3 sk hst ea) (e1.trans hst.1)
  · have := hx2 c env σ F' H' hp (st_same s1 ra sk hst ea)
    cases c
    exact this
/-! a new empty list handed on -/
def WAn (X : Cx) (g : G) (es : List Expr) (env : List Sl) (Φ : List Ar → Prop) (Ψ : Exc → Prop) : Prop :=
  ∀ (W : WX), Takes X W → ∀ (σ : SS) (F H : Hp), St X.K g F H σ env → HX X g env Ψ W σ →
    ∀ Q : List V → Hp → Prop, (∀ as vs q F' H', Φ as → St X.K g F' H' σ env → Ex F F' → ArAll X.K F' σ vs as → H' q = some (.lst []) → F' q = none → ¬ Own env q → g.H0 q = none → Q (vs ++ [.ref q]) H') → semA X es σ H Q
section
variable {Φ : List Ar → Prop}
theorem wan_l (h : Φ []) (hs : starEach [.List [] lp] X.env = (false, eval (.List [] lp) X.env) :: starEach [] X.env := by rfl) : WAn X g [.List [] lp] env Φ Ψ := fun W tk σ F H st hx Q hQ => by
  refine semA_of (pa_cons (pe_lst pa_nil) pa_nil hs) ?_
  refine ⟨Nat.zero_le _, fun q hn => ?_⟩
  exact hQ [] [] q F _ h (st.alloc hn) (Ex.refl F) trivial upd_same (st.ex.none hn) (st.toSk.notown hn) (st.h0 hn)
theorem wan_d (he : WE X g e env (fun d z => z = true ∧ WAn X g es env (fun as => Φ (.d d :: as)) Ψ) Ψ) (hs : starEach (e :: es) X.env = (false, eval e X.env) :: starEach es X.env := by rfl) : WAn X g (e :: es) env Φ Ψ := fun W tk σ F H st hx Q hQ => by
  refine semA_of (pa_cons (peS e) (paS es) hs) ?_
  refine he W tk σ F H st hx _ fun d z v F1 H1 ⟨hz, hp⟩ s1 e1 r1 => ?_
  subst hz
  exact hp W tk σ F1 H1 s1 hx _ fun as vs q F2 H2 hp2 s2 e2 r2 => hQ (.d d :: as) (v :: vs) q F2 H2 hp2 s2 (e1.trans e2) ⟨dp_mono e2 _ _ r1, r2⟩
theorem wan_s (i : Nat) {x : Str} {s : Sl} (h : WAn X g es env (fun as => Φ (.s i :: as)) Ψ) (he : env[i]? = some s := by rfl) (hne : s.fp ≠ [] := by (intro h; cases h)) (hN : X.N[i]? = some x := by rfl)
    (hv : Vis X.env.scope x := by first | exact Or.inl rfl | exact Or.inr (Or.inl rfl) | exact Or.inr (Or.inr rfl)) (hd : (x == ("__debug__" : Str)) = false := by decide)
    (hcd : (x == ("__classdict__" : Str)) = false := by decide) (hs : starEach ((.Name x pos) :: es) X.env = (false, eval (.Name x pos) X.env) :: starEach es X.env := by rfl) : WAn X g (.Name x pos :: es) env Φ Ψ := fun W tk σ F H st hx Q hQ => by
  refine semA_of (pa_cons (pe_var hN hv hd hcd) (paS es) hs) ?_
  have q := st.sl i s he
  obtain ⟨v, hv⟩ : ∃ v, σ[i]?.getD none = some v := by
    cases s with
    | un => exact absurd rfl hne
    | d x => exact absurd rfl hne
    | v x => exact ⟨_, q⟩
    | ol a ds => exact ⟨_, q.1⟩
    | bg a => exact ⟨_, q.1⟩
    | dt a ds => exact ⟨_, q.1⟩
    | dk a ds => exact ⟨_, q.1⟩
    | oo a ds => exact ⟨_, q.1⟩
  exact ⟨v, getD_some hv, h W tk σ F H st hx _ fun as vs q F2 H2 hp2 s2 e2 r2 => hQ (.s i :: as) (v :: vs) q F2 H2 hp2 s2 e2 ⟨getD_some hv, r2⟩⟩
end
theorem snoc_get {α : Type} {l : List α} {x y : α} {i : Nat} (h : (l ++ [x])[i]? = some y) : l[i]? = some y ∨ (i = l.length ∧ y = x) := by
  by_cases hi : i < l.length
  · rw [List.getElem?_append_left hi] at h; exact .inl h
  · by_cases e : i = l.length
    · subst e
      rw [List.getElem?_append_right (Nat.le_refl _), Nat.sub_self] at h
      exact .inr ⟨rfl, (Option.some.inj h).symm⟩
    · rw [List.getElem?_append_right (by omega)] at h
      have := (List.getElem?_eq_some_iff.mp h).1
      simp at this
      omega
theorem own_snoc {q a : Addr} {ds : List PyData} (h : Own (env ++ [.ol q ds]) a) : Own env a ∨ a = q := by
  obtain ⟨i, s, h1, h2⟩ := h
  rcases snoc_get h1 with h3 | ⟨_, rfl⟩
  · exact .inl ⟨i, s, h3, h2⟩
  · exact .inr (by simpa [Sl.fp] using h2)
theorem Sk.snoc {q : Addr} {xs : List V} {ds : List PyData} (st : Sk K F H σ env) (h1 : H q = some (.lst xs)) (h2 : DqAll K F xs ds) (h3 : F q = none) (h4 : ¬ Own env q) : Sk K F H (σ ++ [some (.ref q)]) (env ++ [.ol q ds]) where
  len := by rw [List.length_append, List.length_append, st.len]; rfl
  sl := fun i s h => by
    rcases snoc_get h with h | ⟨rfl, rfl⟩
    · have hi : i < σ.length := by rw [st.len]; exact (List.getElem?_eq_some_iff.mp h).1
      rw [List.getElem?_append_left hi]
      exact st.sl i s h
    · rw [← st.len, List.getElem?_append_right (Nat.le_refl _), Nat.sub_self]
      exact ⟨rfl, xs, h1, h2⟩
  nd := fun i j s t a hi hj m1 m2 => by
    rcases snoc_get hi with hi | ⟨rfl, rfl⟩
    · rcases snoc_get hj with hj | ⟨rfl, rfl⟩
      · exact st.nd i j s t a hi hj m1 m2
      · have e : a = q := by simpa [Sl.fp] using m2
        exact absurd ⟨i, s, hi, e ▸ m1⟩ h4
    · rcases snoc_get hj with hj | ⟨rfl, rfl⟩
      · have e : a = q := by simpa [Sl.fp] using m1
        exact absurd ⟨j, t, hj, e ▸ m2⟩ h4
      · rfl
  fr := fun a h => by
    rcases own_snoc h with h | rfl
    · exact st.fr a h
    · exact h3
  ex := st.ex
  tf := st.tf
theorem St.snoc {q : Addr} {xs : List V} {ds : List PyData} (st : St K g F H σ env) (h1 : H q = some (.lst xs)) (h2 : DqAll K F xs ds) (h3 : F q = none) (h4 : ¬ Own env q) (h5 : g.H0 q = none) : St K g F H (σ ++ [some (.ref q)]) (env ++ [.ol q ds]) :=
  { st.toSk.snoc h1 h2 h3 h4 with
    g1 := st.g1, g3 := st.g3, g4 := st.g4, g5 := st.g5, g6 := st.g6
    g2 := fun a h => by
      rcases own_snoc h with h | rfl
      · exact st.g2 a h
      · exact .inl h5 }
theorem own_l {s : Sl} {a : Addr} (h : Own env a) : Own (env ++ [s]) a := by
  obtain ⟨i, t, h1, h2⟩ := h
  exact ⟨i, t, by rw [List.getElem?_append_left (List.getElem?_eq_some_iff.mp h1).1]; exact h1, h2⟩
theorem St.unsnoc {x : Option V} {s : Sl} (st : St K g F H (σ ++ [x]) (env ++ [s])) : St K g F H σ env where
  len := by have := st.len; rw [List.length_append, List.length_append] at this; exact Nat.add_right_cancel this
  sl := fun i t h => by
    have hi := (List.getElem?_eq_some_iff.mp h).1
    have hl := st.len
    rw [List.length_append, List.length_append] at hl
    have hl : σ.length = env.length := Nat.add_right_cancel hl
    have q := st.sl i t (by rw [List.getElem?_append_left hi]; exact h)
    rw [List.getElem?_append_left (by omega)] at q
    exact q
  nd := fun i j t u a h1 h2 => st.nd i j t u a (by rw [List.getElem?_append_left (List.getElem?_eq_some_iff.mp h1).1]; exact h1) (by rw [List.getElem?_append_left (List.getElem?_eq_some_iff.mp h2).1]; exact h2)
  fr := fun a h => st.fr a (own_l h)
  ex := st.ex
  tf := st.tf
  g1 := st.g1
  g2 := fun a h => st.g2 a (own_l h)
  g3 := st.g3
  g4 := st.g4
  g5 := st.g5
  g6 := st.g6
theorem arall_snoc {x : Option V} {q : Addr} (hx : x = some (.ref q)) {n : Nat} (hn : n = σ.length) : ∀ {vs : List V} {as : List Ar}, ArAll K F σ vs as → ArAll K F (σ ++ [x]) (vs ++ [.ref q]) (as ++ [.s n])
  | [], [], _ => ⟨by
      show (σ ++ [x])[n]? = some (some (.ref q))
      rw [hn, List.getElem?_append_right (Nat.le_refl _), Nat.sub_self, hx]
      rfl, trivial⟩
  | v :: vs, .d d :: as, ⟨h1, h2⟩ => ⟨h1, arall_snoc hx hn h2⟩
  | v :: vs, .s i :: as, ⟨h1, h2⟩ => ⟨by
      have h1' : σ[i]? = some (some v) := h1
      show (σ ++ [x])[i]? = some (some v)
      rw [List.getElem?_append_left (List.getElem?_eq_some_iff.mp h1').1]
      exact h1', arall_snoc hx hn h2⟩
theorem arix_snoc {n : Nat} : ∀ (as : List Ar), arIx (as ++ [Ar.s n]) = arIx as ++ [n]
  | [] => rfl
  | .d _ :: as => arix_snoc as
  | .s i :: as => congrArg (i :: ·) (arix_snoc as)
theorem map_snoc {s : Sl} : ∀ {as : List Ar}, (∀ i ∈ arIx as, i < env.length) → (as ++ [Ar.s env.length]).map (slOf (env ++ [s])) = as.map (slOf env) ++ [s]
  | [], _ => by
    show [(env ++ [s])[env.length]?.getD .un] = [s]
    rw [List.getElem?_append_right (Nat.le_refl _), Nat.sub_self]
    rfl
  | .d d :: as, h => congrArg (Sl.d d :: ·) (map_snoc (as := as) h)
  | .s i :: as, h => by
    have hi := h i (List.mem_cons_self ..)
    show (env ++ [s])[i]?.getD .un :: _ = env[i]?.getD .un :: _
    rw [List.getElem?_append_left hi]
    exact congrArg (_ :: ·) (map_snoc (as := as) fun j hj => h j (List.mem_cons_of_mem _ hj))
theorem backE_same : ∀ (as : List Ar) (env : List Sl), (∀ i ∈ arIx as, i < env.length) → backE env as (as.map (slOf env)) = env
  | [], _, _ => rfl
  | .d _ :: as, env, h => backE_same as env h
  | .s i :: as, env, h => by
    show (backE env as (as.map (slOf env))).set i (env[i]?.getD .un) = env
    rw [backE_same as env fun j hj => h j (List.mem_cons_of_mem _ hj)]
    have hi := h i (List.mem_cons_self ..)
    rw [List.getElem?_eq_getElem hi]
    exact List.set_getElem_self hi
theorem wn_callN {j k : Nat} {x : Str} {ps : List Str} {S : CT} {Φ : List PyData → Prop} (hf : Has X.prog X.w X.K X.mg X.base j x ps S) (hr : Room k X.A)
    (h : WAn X g (e :: es) env (fun as => callOk as (ps.length - 1) env.length = true ∧ 1 ≤ ps.length ∧ ∀ q, S (as.map (slOf env) ++ [.ol q []]) (fun r args' => ∃ ds, args' = as.map (slOf env) ++ [.ol q ds] ∧ r = .ar as.length ∧ Φ ds) (fun _ _ => False)) Ψ)
    (hj : j ≤ k := by omega) (hg : Gl X x := by rfl) (hdb : (x == ("__debug__" : Str)) = false := by decide)
    (he : starEach (e :: es) X.env = (false, eval e X.env) :: starEach es X.env := by rfl) (hpl : (backTo pos (starEach es X.env)).any (·.1) = false := by rfl) : WN X g (.Call (.Name x p) (e :: es) [] pos) env Φ Ψ := fun W tk σ F H st hx Q hQ => by
  obtain ⟨f, fd, hm, hk, hb, F0⟩ := hf.ex
  refine semE_of (pe_callS F0 (hr.mono hj) hg hm hk hb (fun σ => passAt tk σ) (paS (e :: es)) hdb he hpl) ?_
  refine h W tk σ F H st hx _ fun as vs q F1 H1 ⟨hok, hn1, hS⟩ s1 e1 ra g1 g2 g3 g4 => ?_
  obtain ⟨h1, h2, h3⟩ := callOk_ok hok
  have s2 := s1.snoc g1 .nil g2 g3 g4
  have ra2 := arall_snoc (x := some (.ref q)) (q := q) rfl (n := env.length) s1.len.symm ra
  have nd2 : (arIx (as ++ [Ar.s env.length])).Nodup := by
    rw [arix_snoc]
    refine List.nodup_append.mpr ⟨h2, by simp, fun a ha b hb z => ?_⟩
    have : b = env.length := by simpa using hb
    have := h3 a ha
    omega
  have hs2 : ∀ i ∈ arIx (as ++ [Ar.s env.length]), i < (env ++ [Sl.ol q []]).length := fun i hi => by
    rw [arix_snoc] at hi
    rw [List.length_append]
    rcases List.mem_append.mp hi with hi | hi
    · have := h3 i hi; simp; omega
    · have : i = env.length := by simpa using hi
      simp; omega
  have sk2 := s2.toSk.callee ra2 nd2 hs2
  rw [map_snoc h3] at sk2
  refine ⟨by rw [List.length_append, arall_len ra, h1]; simp; omega, F1, as.map (slOf env) ++ [.ol q []], _, _, hS q, sk2, fun r v args' F' H' ⟨ds, ea, hr2, hp⟩ sk hst _ pr => ?_, fun c args' F' H' hp _ _ _ => hp.elim⟩
  subst ea hr2
  have hst2 : Step F1 H1 ((as ++ [Ar.s env.length]).map (slOf (env ++ [Sl.ol q []]))) F' H' := by rw [map_snoc h3]; exact hst
  have s3 := st_back s2 ra2 nd2 hs2 sk hst2 (by rw [map_snoc h3, List.map_append, List.map_append]; rfl)
  have eb : ∀ (as : List Ar) (env : List Sl) (n : Nat), n = env.length → (∀ i ∈ arIx as, i < env.length) → backE (env ++ [Sl.ol q []]) (as ++ [Ar.s n]) (as.map (slOf env) ++ [Sl.ol q ds]) = env ++ [Sl.ol q ds] := fun as env n hn => by
    subst hn
    induction as with
    | nil =>
      intro _
      show (env ++ [Sl.ol q []]).set env.length (.ol q ds) = _
      rw [List.set_append_right _ _ (Nat.le_refl _), Nat.sub_self]
      rfl
    | cons a as ih =>
      intro hh
      cases a with
      | d d => exact ih hh
      | s i =>
        have hi := hh i (List.mem_cons_self ..)
        show (backE (env ++ [.ol q []]) (as ++ [.s env.length]) (as.map (slOf env) ++ [.ol q ds])).set i (env[i]?.getD .un) = _
        rw [ih fun j hj => hh j (List.mem_cons_of_mem _ hj), List.getElem?_eq_getElem hi, List.set_append_left _ _ hi]
        show env.set i env[i] ++ _ = _
        rw [List.set_getElem_self hi]
  rw [eb as env _ rfl h3] at s3
  have hv : v = .ref q := by
    have pr' : (vs ++ [V.ref q])[as.length]? = some v := pr
    rw [← arall_len ra, List.getElem?_append_right (Nat.le_refl _), Nat.sub_self] at pr'
    exact (Option.some.inj pr').symm
  subst hv
  have hl : (env ++ [Sl.ol q ds])[env.length]? = some (Sl.ol q ds) := by rw [List.getElem?_append_right (Nat.le_refl _), Nat.sub_self]; rfl
  obtain ⟨_, xs, y1, y2⟩ := s3.sl env.length _ hl
  refine hQ ds (.ref q) F' H' hp s3.unsnoc (e1.trans hst.1) ⟨q, xs, rfl, y1, y2, s3.fr q ⟨_, _, hl, by simp [Sl.fp]⟩, fun ⟨i, s, z1, z2⟩ => ?_, g4⟩
  have hi := (List.getElem?_eq_some_iff.mp z1).1
  have := s3.nd i env.length s _ q (by rw [List.getElem?_append_left hi]; exact z1) hl z2 (by simp [Sl.fp])
  omega
end

/-! comprehensions with a test -/
theorem tkf_t {α : Type} {ns : List α} {i : Nat} {n : α} {f : α → Bool} (h : α → PyData) (e : ns[i]? = some n) (hf : f n = true) : ((ns.take i).filter f).map h ++ [h n] = ((ns.take (i + 1)).filter f).map h := by
  rw [List.take_succ, e]
  simp [List.filter_append, hf]
theorem tkf_f {α : Type} {ns : List α} {i : Nat} {n : α} {f : α → Bool} (h : α → PyData) (e : ns[i]? = some n) (hf : f n = false) : ((ns.take i).filter f).map h = ((ns.take (i + 1)).filter f).map h := by
  rw [List.take_succ, e]
  simp [List.filter_append, hf]
section
variable {Φ : PyData → Bool → Prop} {k : Int} {z1 z2 : Bool}
theorem ix_mem (n : Nat) (h0 : 0 ≤ k) (h1 : k < n) {xs : List PyData} (hp : ∀ x ∈ xs, Φ x true) (hn : xs.length = n := by rfl) : IxP Φ (.list xs) z1 (.int k) z2 := by
  have hl : k.toNat < xs.length := by omega
  exact .lst (hp _ (List.getElem_mem hl)) (at_nat h0 (by simp [hl]))
end
theorem ne_b (b : Bool) : (!decide (b = b)) = false := by simp
end TL

namespace TL
open PySem PySem.Spec PyProof.Rows L2
/-! dicts with tuples of atoms as keys -/
theorem dp_key {K : Frag} {F : Hp} (k : Key) : Dq K F (kV k) (kD k) := by
  cases k with
  | inl i => exact .int i
  | inr s => exact .str s
theorem dpa_key {K : Frag} {F : Hp} : ∀ k : List Key, DqAll K F (k.map kV) (k.map kD)
  | [] => .nil
  | x :: r => .cons (dp_key x) (dpa_key r)
theorem key_eq {K : Frag} {F : Hp} {v : V} {k : Key} (h : Dq K F v (kD k)) : v = kV k := by
  cases k with
  | inl i => exact dp_int h
  | inr s => exact dp_str h
theorem keys_eq {K : Frag} {F : Hp} : ∀ {k : List Key} {vs : List V}, DqAll K F vs (k.map kD) → vs = k.map kV
  | [], _, h => by
    have h' : DqAll K F _ [] := h
    cases h'; rfl
  | x :: r, _, h => by
    have h' : DqAll K F _ (kD x :: r.map kD) := h
    cases h' with
    | cons h1 h2 => rw [key_eq h1, keys_eq h2]; rfl
section
variable {κ : Type} [DecidableEq κ]
def putP (kvs : List (κ × PyData)) (k : κ) (d : PyData) : List (κ × PyData) := if (kvs.any fun kv => decide (kv.1 = k)) = true then kvs.map (fun kv => if kv.1 = k then (kv.1, d) else kv) else kvs ++ [(k, d)]
def valP (kvs : List (κ × PyData)) (k : κ) : Option PyData := (kvs.find? fun kv => decide (kv.1 = k)).map (·.2)
variable {K : Frag} {F : Hp}
theorem kvp_any {k : κ} : ∀ {xs : List (κ × V)} {kvs : List (κ × PyData)}, KVp K F xs kvs → (xs.any fun kv => decide (kv.1 = k)) = kvs.any fun kv => decide (kv.1 = k)
  | _, _, .nil => rfl
  | _, _, .cons h t => by
    rw [List.any_cons, List.any_cons, kvp_any t, h.1]
theorem kvp_map {k : κ} {v : V} {d : PyData} (hd : Dq K F v d) : ∀ {xs : List (κ × V)} {kvs : List (κ × PyData)}, KVp K F xs kvs → KVp K F (xs.map fun kv => if kv.1 = k then (kv.1, v) else kv) (kvs.map fun kv => if kv.1 = k then (kv.1, d) else kv)
  | _, _, .nil => .nil
  | (k1, v1) :: _, (k2, d2) :: _, .cons h t => by
    obtain ⟨h1, h2⟩ := h
    have h1 : k1 = k2 := h1
    subst h1
    refine .cons ?_ (kvp_map hd t)
    show (if k1 = k then (k1, v) else (k1, v1)).1 = (if k1 = k then (k1, d) else (k1, d2)).1 ∧ Dq K F (if k1 = k then (k1, v) else (k1, v1)).2 (if k1 = k then (k1, d) else (k1, d2)).2
    by_cases e : k1 = k
    · rw [if_pos e, if_pos e]; exact ⟨rfl, hd⟩
    · rw [if_neg e, if_neg e]; exact ⟨rfl, h2⟩
theorem kvp_app {v : V} {k : κ} {d : PyData} (hd : Dq K F v d) : ∀ {xs : List (κ × V)} {kvs : List (κ × PyData)}, KVp K F xs kvs → KVp K F (xs ++ [(k, v)]) (kvs ++ [(k, d)])
  | _, _, .nil => .cons ⟨rfl, hd⟩ .nil
  | _, _, .cons h t => .cons h (kvp_app hd t)
theorem kvp_put {xs : List (κ × V)} {kvs : List (κ × PyData)} {k : κ} {v : V} {d : PyData} (h : KVp K F xs kvs) (hd : Dq K F v d) : KVp K F (putK xs k v) (putP kvs k d) := by
  unfold putK putP
  rw [kvp_any h]
  by_cases e : (kvs.any fun kv => decide (kv.1 = k)) = true
  · rw [if_pos e, if_pos e]; exact kvp_map hd h
  · rw [if_neg e, if_neg e]; exact kvp_app hd h
theorem kvp_len : ∀ {xs : List (κ × V)} {kvs : List (κ × PyData)}, KVp K F xs kvs → xs.length = kvs.length
  | _, _, .nil => rfl
  | _, _, .cons _ t => congrArg Nat.succ (kvp_len t)
theorem putP_new {kvs : List (κ × PyData)} {k : κ} {d : PyData} (h : ∀ kv ∈ kvs, kv.1 ≠ k) : putP kvs k d = kvs ++ [(k, d)] := by
  unfold putP
  rw [if_neg]
  intro z
  obtain ⟨kv, h1, h2⟩ := List.any_eq_true.mp z
  exact h kv h1 (of_decide_eq_true h2)
end
section
variable {X : Cx} {g : G} {env env' : List Sl} {Ψ : Exc → Prop} {P : Po} {pos p lp : Pos} {a b c e : Expr} {es : List Expr} {rest body : List Stmt} {K : Frag} {F F' H H' : Hp} {σ σ' : SS}
theorem St.setT {i : Nat} {q : Addr} {xs : List (List Key × V)} {kvs : List (List Key × PyData)} (st : St K g F H σ env) (hi : i < env.length) (hH : H q = some (.dT xs)) (hd : KVp K F xs kvs) (hF : F q = none) (hn : ¬ Own env q) (h0 : g.H0 q = none) :
    St K g F H (σ.set i (some (.ref q))) (env.set i (.dt q kvs)) := by
  have one : ∀ b ∈ (Sl.dt q kvs).fp, b = q := fun b hb => by simpa [Sl.fp] using hb
  exact st.set (s := .dt q kvs) hi ⟨rfl, xs, hH, hd⟩ (fun b hb => by rw [one b hb]; exact hF) (fun b hb j t _ e ht => hn ⟨j, t, e, by rw [← one b hb]; exact ht⟩) (fun b hb => by rw [one b hb]; exact .inl h0)
/-- x = {} -/
theorem w1_newT (i : Nat) {x : Str} {pos' dp : Pos} (hN : X.N.Nodup) (h : ∀ q, q ∉ g.M → P.nx (env.set i (.dt q []))) (hi : X.N[i]? = some x := by rfl) (hx : Loc X.env.scope x := by first | exact Or.inl rfl | exact Or.inr rfl) (hl : Nat.blt i env.length = true := by rfl)
    (hs : swapsWith (.Dict [] [] dp) (some (.Name x pos')) pos.line X.env = pure false := by rfl) (hf : X.fn x = true ∨ X.env.scope.names.lookup x = some .local := by first | exact .inl rfl | exact .inr rfl) : W1 X g (.Assign [.Name x pos'] (.Dict [] [] dp) pos) env P := fun W tk hx2 σ F H s0 D hD => by
  refine semP_of (ps_set hN hi hx pe_dnewT hs hf) fun q hn => ?_
  have s1 := s0.alloc (o := .dT []) hn
  exact hD.nx _ _ F _ (h q fun m => s1.g6 q m (s0.h0 hn)) (s1.setT (ltB hl) upd_same .nil (s0.ex.none hn) (s0.toSk.notown hn) (s0.h0 hn)) (Ex.refl F)
/-- x[e1, ..] = e -/
theorem w1_storeT (i : Nat) {k0 : Nat} {x : Str} {q tp tpos : Pos} {xk : Nat} {al : Addr} {kvs : List (List Key × PyData)} (hr : Room k0 X.A) (he : env[i]? = some (.dt al kvs))
    (h : WE X g e env (fun d z => z = true ∧ WAs X g es env (fun as => ∃ k, datas as = some (k.map kD) ∧ k.length ≤ sizeLine ∧ kvs.length < sizeLine ∧ P.nx (env.set i (.dt al (putP kvs k d)))) (fun c => P.ex c env)) (fun c => P.ex c env)) (hN : X.N[i]? = some x := by rfl)
    (hv : Vis X.env.scope x := by first | exact Or.inl rfl | exact Or.inr (Or.inl rfl) | exact Or.inr (Or.inr rfl)) (hd : (x == ("__debug__" : Str)) = false := by decide)
    (hcd : (x == ("__classdict__" : Str)) = false := by decide)
    (hs : swapsWith e (some (.Subscript (.Name x q) (.Tuple es xk tp) tpos)) pos.line X.env = pure false := by rfl) : W1 X g (.Assign [.Subscript (.Name x q) (.Tuple es xk tp) tpos] e pos) env P := fun W tk hx2 σ F H s0 D hD => by
  refine semP_of (ps_dput (by have := hr.units; omega) (pe_var hN hv hd hcd) (pe_tup (paS es)) (peS e) hs) ?_
  refine h W tk σ F H s0 (hx2.hx env σ) _ fun d z v F1 H1 ⟨hz, hw⟩ s1 e1 r1 => ?_
  subst hz
  obtain ⟨h1, vs, h2, h3⟩ := s1.sl i _ he
  refine ⟨_, getD_some h1, ?_⟩
  refine hw W tk σ F1 H1 s1 (hx2.hx env σ) _ fun as us F2 H2 ⟨k, hk, hkl, hlen, hp⟩ s2 e2 r2 => ?_
  have hus := keys_eq (dpa_datas hk r2)
  subst hus
  refine ⟨by rw [List.length_map]; exact hkl, fun pn hn => ?_⟩
  have s3 := s2.allocF (o := .tup (k.map kV)) hn
  have ef := Ex.new (o := .tup (k.map kV)) (s2.ex.none hn)
  obtain ⟨h1', vs', h2', h3'⟩ := s3.sl i _ he
  refine ⟨al, _, rfl, DPut.t h2' upd_same (by rw [kvp_len h3']; exact hlen), ?_⟩
  exact hD.nx _ _ _ _ hp (s3.write he rfl rfl ⟨h1', _, upd_same, kvp_put h3' (dp_mono (e2.trans ef) _ _ r1)⟩) ((e1.trans e2).trans ef)
/-- return x, x a dict made here -/
theorem w1_retT (i : Nat) {x : Str} {q : Pos} {al : Addr} {kvs : List (List Key × PyData)} (he : env[i]? = some (.dt al kvs)) (ha : al ∉ g.M) (h : P.rt (.nt kvs) (env.set i .un)) (hN : X.N[i]? = some x := by rfl)
    (hv : Vis X.env.scope x := by first | exact Or.inl rfl | exact Or.inr (Or.inl rfl) | exact Or.inr (Or.inr rfl)) (hd : (x == ("__debug__" : Str)) = false := by decide)
    (hcd : (x == ("__classdict__" : Str)) = false := by decide) : W1 X g (.Return (some (.Name x q)) pos) env P := fun W tk hx2 σ F H s0 D hD => by
  refine semP_of (ps_ret (pe_var hN hv hd hcd)) ?_
  obtain ⟨h1, vs, h2, h3⟩ := s0.sl i _ he
  have own : Own env al := ⟨i, _, he, by simp [Sl.fp]⟩
  refine ⟨_, getD_some h1, hD.rt _ _ _ σ F H h (s0.weak he (fun _ h => by cases h) fun _ => trivial) ⟨al, vs, rfl, h2, h3, s0.fr al own, fun z => ?_, ?_⟩⟩
  · obtain ⟨j, t, ej, ht⟩ := z
    rcases set_get ej with ⟨_, rfl⟩ | ⟨ne, ej⟩
    · cases ht
    · exact ne (s0.nd i j _ t al he ej (by simp [Sl.fp]) ht)
  · rcases s0.g2 al own with z | z
    · exact z
    · exact absurd z ha
/-- a new dict as an expression -/
def WDt (X : Cx) (g : G) (e : Expr) (env : List Sl) (Φ : List (List Key × PyData) → Prop) (Ψ : Exc → Prop) : Prop :=
  ∀ (W : WX), Takes X W → ∀ (σ : SS) (F H : Hp), St X.K g F H σ env → HX X g env Ψ W σ →
    ∀ Q : VK, (∀ kvs v F' H', Φ kvs → St X.K g F' H' σ env → Ex F F' → NewT X.K g F' H' env v kvs → Q v H') → semE X e σ H Q
theorem wd_call {j k : Nat} {x : Str} {ps : List Str} {S : CT} {Φ : List (List Key × PyData) → Prop} (hf : Has X.prog X.w X.K X.mg X.base j x ps S) (hr : Room k X.A)
    (h : WAs X g (e :: es) env (fun as => callOk as ps.length env.length = true ∧ S (as.map (slOf env)) (fun r args' => args' = as.map (slOf env) ∧ ∃ kvs, r = .nt kvs ∧ Φ kvs) (fun c args' => args' = as.map (slOf env) ∧ Ψ c)) Ψ)
    (hj : j ≤ k := by omega) (hg : Gl X x := by rfl) (hdb : (x == ("__debug__" : Str)) = false := by decide)
    (he : starEach (e :: es) X.env = (false, eval e X.env) :: starEach es X.env := by rfl) (hpl : (backTo pos (starEach es X.env)).any (·.1) = false := by rfl) : WDt X g (.Call (.Name x p) (e :: es) [] pos) env Φ Ψ := fun W tk σ F H st hx Q hQ => by
  refine call_run (Φ := fun r => ∃ kvs, r = .nt kvs ∧ Φ kvs) hf hr h hj hg hdb he hpl tk st hx fun r vs v F1 H1 F' H' args' ⟨kvs, hd, hp⟩ s' e' s1 pr => ?_
  subst hd
  obtain ⟨q, xs, rfl, h1, h2, h3, h4, h5⟩ := pr
  exact hQ kvs (.ref q) F' H' hp s' e' ⟨q, xs, rfl, h1, h2, h3, fun z => s1.there z h4, s1.h0 h4⟩
/-- x = a new dict -/
theorem w1_setT (i : Nat) {x : Str} {pos' : Pos} (hN : X.N.Nodup) (h : WDt X g e env (fun kvs => ∀ q, q ∉ g.M → P.nx (env.set i (.dt q kvs))) (fun c => P.ex c env)) (hi : X.N[i]? = some x := by rfl) (hx : Loc X.env.scope x := by first | exact Or.inl rfl | exact Or.inr rfl) (hl : Nat.blt i env.length = true := by rfl)
    (hs : swapsWith e (some (.Name x pos')) pos.line X.env = pure false := by rfl) (hf : X.fn x = true ∨ X.env.scope.names.lookup x = some .local := by first | exact .inl rfl | exact .inr rfl) : W1 X g (.Assign [.Name x pos'] e pos) env P := fun W tk hx2 σ F H s0 D hD => by
  refine semP_of (ps_set hN hi hx (peS e) hs hf) ?_
  refine h W tk σ F H s0 (hx2.hx env σ) _ fun kvs v F' H' hp s' e' ⟨q, xs, hv, h1, h2, h3, h4, h5⟩ => ?_
  subst hv
  exact hD.nx _ _ F' H' (hp q fun m => s'.g6 q m h5) (s'.setT (ltB hl) h1 h2 h3 h4 h5) e'
theorem keys_dpa {kvs : List (List Key × PyData)} (tf : ∀ (a : Addr) (vs : List V), H a = some (.tup vs) → F a = some (.tup vs)) : ∀ {xs : List (List Key × V)} {kvs : List (List Key × PyData)} {bs : List Addr}, KVp K F xs kvs → IsKeys H xs bs → DqAll K F (bs.map V.ref) (kvs.map fun kv => .tuple (kv.1.map kD))
  | _, _, _, .nil, h => by cases h; exact .nil
  | (k1, v1) :: _, (k2, d2) :: _, _, .cons h t, h2 => by
    cases h2 with
    | cons h3 h4 =>
      obtain ⟨h5, _⟩ := h
      have h5 : k1 = k2 := h5
      subst h5
      exact .cons (.tup (tf _ _ h3) (dpa_key k1)) (keys_dpa (kvs := kvs) tf t h4)
/-- list(..) of a new dict: its keys -/
theorem wn_listT {Φ : List PyData → Prop} (hm : X.mg "list" = none) (hc : X.calm = true) (h : WDt X g a env (fun kvs => Φ (kvs.map fun kv => .tuple (kv.1.map kD))) Ψ) (hg : Gl X "list" := by rfl) (he : starEach [a] X.env = (false, eval a X.env) :: starEach [] X.env := by rfl) (hpl : (backTo pos (starEach ([] : List Expr) X.env)).any (·.1) = false := by rfl) : WN X g (.Call (.Name "list" p) [a] [] pos) env Φ Ψ := fun W tk σ F H st hx Q hQ => by
  refine semE_of (pe_callTy (call_list_dT hc) hg hm (by decide +kernel) (pa_cons (peS a) pa_nil he) (by decide) (by decide) he hpl) ?_
  refine h W tk σ F H st hx _ fun kvs v F1 H1 hp s1 e1 ⟨q, xs, hv, h1, h2, h3, h4, h5⟩ => ?_
  subst hv
  refine ⟨q, xs, rfl, .inl h1, fun pn bs hn hb => ?_⟩
  exact put_new s1 hn (keys_dpa (kvs := kvs) s1.tf h2 hb) hp fun ds v F' H' hp s e r => hQ ds v F' H' hp s (e1.trans e) r
end
end TL

namespace TL
open PySem PySem.Spec PyProof.Rows L2
/-! an owned list seen as data, by an expression whose answer is an atom -/
def viewS (i : Nat) (ds : List PyData) : Nat → Sl → Sl := fun j s => if j = i then .d (.list ds) else if s.fp.isEmpty then s else .un
def viewE (i : Nat) (ds : List PyData) (env : List Sl) : List Sl := env.mapIdx (viewS i ds)
def isAt : PyData → Bool
  | .none => true
  | .bool _ => true
  | .int _ => true
  | .str _ => true
  | _ => false
section
variable {X : Cx} {g : G} {env env' : List Sl} {Ψ : Exc → Prop} {P : Po} {pos p lp : Pos} {a b c e : Expr} {K : Frag} {F F' H H' : Hp} {σ σ' : SS}
theorem view_get {i j : Nat} {ds : List PyData} {s : Sl} (h : (viewE i ds env)[j]? = some s) : ∃ t, env[j]? = some t ∧ s = viewS i ds j t := by
  unfold viewE at h
  rw [List.getElem?_mapIdx] at h
  obtain ⟨t, h1, h2⟩ := Option.map_eq_some_iff.mp h
  exact ⟨t, h1, h2.symm⟩
theorem view_fp {i j : Nat} {ds : List PyData} {t : Sl} : (viewS i ds j t).fp = [] := by
  unfold viewS
  by_cases h : j = i
  · rw [if_pos h]; rfl
  · rw [if_neg h]
    by_cases h2 : t.fp.isEmpty = true
    · rw [if_pos h2]; exact List.isEmpty_iff.mp h2
    · rw [if_neg h2]; rfl
theorem view_own {i : Nat} {ds : List PyData} {q : Addr} (h : Own (viewE i ds env) q) : False := by
  obtain ⟨j, s, h1, h2⟩ := h
  obtain ⟨t, _, rfl⟩ := view_get h1
  rw [view_fp] at h2
  cases h2
theorem view_in {i : Nat} {q : Addr} {vs : List V} {ds : List PyData} (st : St K g F H σ env) (he : env[i]? = some (.ol q ds)) (hv : σ[i]?.getD none = some (.ref q)) (hH : H q = some (.lst vs)) (hd : DqAll K F vs ds) :
    St K ⟨upd F q (.lst vs), H, []⟩ (upd F q (.lst vs)) H σ (viewE i ds env) := by
  have hF : F q = none := st.fr q ⟨i, _, he, by simp [Sl.fp]⟩
  have ef := Ex.new (o := .lst vs) hF
  refine { len := by unfold viewE; rw [List.length_mapIdx]; exact st.len, sl := fun j s h => ?_, nd := fun j k s t b h1 h2 h3 _ => ?_, fr := fun b h => (view_own h).elim, ex := fun b u z => ?_, tf := fun b us z => ?_, g1 := fun _ _ h _ => h, g2 := fun b h => (view_own h).elim, g3 := Ex.refl _, g4 := fun _ h => .inl h, g5 := fun _ h => (List.not_mem_nil h).elim, g6 := fun _ h => (List.not_mem_nil h).elim }
  · obtain ⟨t, h1, rfl⟩ := view_get h
    unfold viewS
    by_cases hj : j = i
    · rw [if_pos hj, hj, hv]
      exact ⟨_, rfl, .lst (SqL.of upd_same) (dpa_mono ef _ _ hd)⟩
    · rw [if_neg hj]
      by_cases h2 : t.fp.isEmpty = true
      · rw [if_pos h2]
        exact slok_mono ef (fun _ _ _ z => z) (st.sl j t h1)
      · rw [if_neg h2]; trivial
  · obtain ⟨u, _, rfl⟩ := view_get h1
    rw [view_fp] at h3
    cases h3
  · by_cases e : b = q
    · subst e; rw [upd_same] at z; cases z; exact hH
    · rw [upd_ne e] at z; exact st.ex b u z
  · by_cases e : b = q
    · subst e; rw [hH] at z; cases z
    · rw [upd_ne e]; exact st.tf b us z
def cutF (F : Hp) (q : Addr) : Hp := fun b => if b = q then none else F b
theorem view_out {i : Nat} {q : Addr} {vs : List V} {ds : List PyData} (st : St K g F H σ env) (he : env[i]? = some (.ol q ds)) (hv : σ[i]?.getD none = some (.ref q)) (hH : H q = some (.lst vs)) (hd : DqAll K F vs ds)
    (s2 : St K ⟨upd F q (.lst vs), H, []⟩ F' H' σ (viewE i ds env)) (ex : Ex (upd F q (.lst vs)) F') : St K g (cutF F' q) H' σ env ∧ Ex F (cutF F' q) := by
  have hF : F q = none := st.fr q ⟨i, _, he, by simp [Sl.fp]⟩
  have hx : Ex H H' := fun b u z => s2.g1 b u z (List.not_mem_nil)
  have ef : Ex F (cutF F' q) := fun b u z => by
    have hne : b ≠ q := fun e => by rw [e, hF] at z; cases z
    unfold cutF
    rw [if_neg hne]
    exact ex b u (by rw [upd_ne hne]; exact z)
  refine ⟨{ len := st.len, sl := fun j s h => slok_mono ef (fun b _ u z => hx b u z) (st.sl j s h), nd := st.nd, fr := fun b hb => ?_, ex := fun b u z => ?_, tf := fun b us z => ?_, g1 := fun b u z m => hx b u (st.g1 b u z m), g2 := st.g2, g3 := st.g3.trans ef, g4 := fun b hb => ?_, g5 := fun b m z => ?_, g6 := st.g6 }, ef⟩
  · unfold cutF
    by_cases e : b = q
    · rw [if_pos e]
    · rw [if_neg e]
      cases z : F' b with
      | none => rfl
      | some u =>
        rcases s2.g4 b (by rw [z]; intro y; cases y) with y | y
        · have y' : upd F q (.lst vs) b ≠ none := y
          rw [upd_ne e, st.fr b hb] at y'
          exact absurd rfl y'
        · exact absurd y (st.there hb)
  · unfold cutF at z
    by_cases e : b = q
    · rw [if_pos e] at z; cases z
    · rw [if_neg e] at z; exact s2.ex b u z
  · have hne : b ≠ q := fun e => by
      have y := hx q _ hH
      rw [← e, z] at y
      cases y
    unfold cutF
    rw [if_neg hne]
    exact s2.tf b us z
  · unfold cutF at hb
    by_cases e : b = q
    · rw [if_pos e] at hb; exact absurd rfl hb
    · rw [if_neg e] at hb
      rcases s2.g4 b hb with y | y
      · have y' : upd F q (.lst vs) b ≠ none := y
        rw [upd_ne e] at y'
        exact st.g4 b y'
      · exact .inr (st.h0 y)
  · cases y : H b with
    | none => exact st.g5 b m y
    | some u => rw [hx b u y] at z; cases z
/-- an owned list as data, for an expression whose answer is an atom -/
theorem we_view (i : Nat) {q : Addr} {ds : List PyData} {Φ : PyData → Bool → Prop} (he : env[i]? = some (.ol q ds)) (h : ∀ g' : G, WE X g' e (viewE i ds env) (fun d z => isAt d = true ∧ Φ d true) Ψ) : WE X g e env Φ Ψ := fun W tk σ F H st hx Q hQ => by
  obtain ⟨hv, vs, hH, hd⟩ := st.sl i _ he
  refine h _ W tk σ _ H (view_in st he hv hH hd) (fun c F' H' hc s2 => ?_) Q fun d z v F' H' ⟨ha, hp⟩ s2 ex r => ?_
  · obtain ⟨s3, _⟩ := view_out st he hv hH hd s2 s2.g3
    exact hx c _ H' hc s3
  · obtain ⟨s3, ef⟩ := view_out st he hv hH hd s2 ex
    refine hQ d true v _ H' hp s3 ef ?_
    cases d with
    | none => rw [rd_non r]; exact .non
    | bool b => rw [rd_bl r]; exact .bl b
    | int n => rw [rd_int r]; exact .int n
    | str n => rw [rd_str r]; exact .str n
    | list _ => cases ha
    | tuple _ => cases ha
    | dict _ => cases ha
end
end TL

/-! iteration over anything, told as data -/
namespace TL
open PySem PySem.Spec PyProof.Rows L2
structure SemI (X : Cx) (tg iter : Expr) (σ : SS) (H : Hp) (R : It → Hp → Prop) : Prop where
  run : ∀ (pins : List (Addr × Obj)) (s : Shared), Inv X pins σ H s →
    wpAny (model X.prog X.w) X.A (eval iter X.env) (fun v s1 => wpAny (model X.prog X.w) X.A (pyIter v) (PIE X pins σ tg R) X.xe s1) X.xe s
def semI (X : Cx) (tg iter : Expr) : TI := fun σ H R => SemI X tg iter σ H R
def ItOk (K : Frag) (J : It) (xs : List PyData) (F : Hp) : Prop := ∃ (G : Hp → Prop) (Y : Nat → Hp → V → Hp → Prop), Walk J xs.length G Y ∧ (∀ H, Ex F H → G H) ∧
  ∀ i d, xs[i]? = some d → ∀ H v H', Y i H v H' → ∀ g F1 σ env, St K g F1 H σ env → Ex F F1 → ∃ F2, St K g F2 H' σ env ∧ Ex F1 F2 ∧ Dq K F2 v d ∧ Ex H H' ∧ ∀ a, F2 a ≠ none → F1 a ≠ none ∨ H a = none
def WI (X : Cx) (g : G) (tg iter : Expr) (env : List Sl) (Φ : List PyData → Prop) (Ψ : Exc → Prop) : Prop :=
  ∀ (W : WX), Takes X W → ∀ (σ : SS) (F H : Hp), St X.K g F H σ env → HX X g env Ψ W σ →
    ∀ R : It → Hp → Prop, (∀ xs J F' H', Φ xs → xs.length ≤ sizeLine → St X.K g F' H' σ env → Ex F F' → ItOk X.K J xs F' → R J H') → semI X tg iter σ H R
section
variable {X : Cx} {g : G} {env env' : List Sl} {Ψ : Exc → Prop} {P : Po} {pos p lp : Pos} {a b c e tg iter : Expr} {es : List Expr} {rest body : List Stmt} {K : Frag} {F F' H H' : Hp} {σ σ' : SS}
theorem piS : PI X tg iter (semI X tg iter) := ⟨fun pins s σ H R I h => h.run pins s I⟩
theorem semI_of {wi : TI} (h : PI X tg iter wi) {R : It → Hp → Prop} (q : wi σ H R) : semI X tg iter σ H R := ⟨fun pins s I => h.run pins s σ H R I q⟩
def iAny (K : Frag) (tl : TE) : TI := fun σ H R => tl σ H fun x H1 => (∃ a xs, x = .ref a ∧ SqL K H1 a xs ∧ (xs.length ≤ sizeLine → R (Itl K a) H1)) ∨ (∃ a xs, x = .ref a ∧ SqT K H1 a xs ∧ (xs.length ≤ sizeLine → R (Itt K a) H1)) ∨ ∃ z, x = .str z ∧ R (Its z) H1
theorem pi_any {l : Expr} {tl : TE} (hl : PE X l tl) : PI X tg l (iAny X.K tl) := by
  refine ⟨fun pins s σ H R I h => ?_⟩
  refine thn (hl.run pins s σ H _ I h) fun v s1 ⟨x, H1, I1, r1, q1⟩ => ?_
  rcases q1 with ⟨a, xs, e, hq, q⟩ | ⟨a, xs, e, hq, q⟩ | ⟨z, e, q⟩
  · subst e
    cases r1
    obtain ⟨its, rv, p, hz⟩ := I1.list hq
    refine wpAny_pyIter_list p.isList ?_
    refine ⟨s1.heap.objs.size, [s1.heap.objs.size], _, _, H1, rfl, I1.kept (t' := s1.toks) fun b o e => Heap.get?_push_of_some _ e, turn_list a _, ⟨_, Heap.get?_push_size _ rfl, rfl, rfl⟩, fun b hb => ?_, q hz⟩
    have e : b = s1.heap.objs.size := by simpa using hb
    subst e
    exact I1.fpOk (Nat.le_refl _) (I1.hok.fresh (Nat.le_refl _))
  · subst e
    cases r1
    obtain ⟨its, rv, p, hz⟩ := I1.tuple hq
    refine wpAny_pyIter_tuple (show s1.heap.IsTuple a its.toArray from p) ?_
    refine ⟨s1.heap.objs.size, [s1.heap.objs.size], _, _, H1, rfl, I1.kept (t' := s1.toks) fun b o e => Heap.get?_push_of_some _ e, turn_tuple a _, ⟨_, Heap.get?_push_size _ rfl, rfl, rfl⟩, fun b hb => ?_, q hz⟩
    have e : b = s1.heap.objs.size := by simpa using hb
    subst e
    exact I1.fpOk (Nat.le_refl _) (I1.hok.fresh (Nat.le_refl _))
  · subst e
    obtain ⟨t, rfl⟩ := r1
    cases ha : z.cps.all (· < 128)
    · exact wpAny_pyIter_wide ha (pi_one (tk := s1.toks) I1 _ (turn_str _ z t "str_iterator" (.inr rfl)) ⟨_, Heap.get?_push_size _ rfl, rfl, rfl⟩ q)
    · exact wpAny_pyIter_ascii ha (pi_one (tk := s1.toks) I1 _ (turn_str _ z t "str_ascii_iterator" (.inl rfl)) ⟨_, Heap.get?_push_size _ rfl, rfl, rfl⟩ q)
def sgn (c : Nat) : PyData := .str ⟨#[c]⟩
/-- the items of data -/
def itM : PyData → (List PyData → Prop) → Prop
  | .list xs, K => K xs
  | .tuple xs, K => K xs
  | .str s, K => s.cps.size ≤ sizeLine ∧ K (s.cps.toList.map sgn)
  | _, _ => False
theorem itok_at {xs : List PyData} {vs : List V} {J : It} {G : Hp → Prop} (w : Walk J vs.length G (YAt vs)) (hG : ∀ H, Ex F H → G H) (h : DqAll K F vs xs) : ItOk K J xs F := by
  refine ⟨G, YAt vs, by rw [← dpa_len h]; exact w, hG, fun i d hd H v H' ⟨y1, y2⟩ g F1 σ env st e1 => ?_⟩
  subst y1
  obtain ⟨v', h1, h2⟩ := dpa_get h hd
  rw [y2] at h1
  cases h1
  exact ⟨F1, st, Ex.refl F1, dp_mono e1 _ _ h2, Ex.refl _, fun a h => .inl h⟩
theorem itok_str {z : Str} : ItOk K (Its z) (z.cps.toList.map sgn) F := by
  refine ⟨_, _, by rw [List.length_map, Array.length_toList]; exact walk_str, fun _ _ => trivial, fun i d hd H v H' hy g F1 σ env st e1 => ?_⟩
  obtain ⟨y1, c, y2, y3⟩ := hy
  subst y1 y3
  obtain ⟨c', h1, rfl⟩ := map_get hd
  rw [Array.getElem?_toList, y2] at h1
  cases h1
  exact ⟨F1, st, Ex.refl F1, .str _, Ex.refl _, fun a h => .inl h⟩
theorem wi_d {Φ : List PyData → Prop} (h : WE X g iter env (fun d z => z = true ∧ itM d Φ) Ψ) : WI X g tg iter env Φ Ψ := fun W tk σ F H st hx R hR => by
  refine semI_of (pi_any (peS iter)) ?_
  refine h W tk σ F H st hx _ fun d z v F1 H1 ⟨hz, hi⟩ s1 e1 rd => ?_
  subst hz
  cases d with
  | list xs =>
    obtain ⟨a, vs, rfl, hsq, hda⟩ := dp_lst rd
    have hi : Φ xs := hi
    exact .inl ⟨a, vs, rfl, ex_l s1.ex hsq, fun hl => hR xs _ F1 H1 hi (by rw [← dpa_len hda]; exact hl) s1 e1 (itok_at walk_list (fun H eH => ex_l eH hsq) hda)⟩
  | tuple xs =>
    obtain ⟨a, vs, rfl, hsq, hda⟩ := dp_tup rd
    have hi : Φ xs := hi
    exact .inr (.inl ⟨a, vs, rfl, ex_t s1.ex hsq, fun hl => hR xs _ F1 H1 hi (by rw [← dpa_len hda]; exact hl) s1 e1 (itok_at walk_tup (fun H eH => ex_t eH hsq) hda)⟩)
  | str s =>
    obtain ⟨hl, hi⟩ : s.cps.size ≤ sizeLine ∧ Φ (s.cps.toList.map sgn) := hi
    have e := dp_str rd
    subst e
    exact .inr (.inr ⟨s, rfl, hR _ _ F1 H1 hi (by rw [List.length_map, Array.length_toList]; exact hl) s1 e1 itok_str⟩)
  | none => exact hi.elim
  | bool b => exact hi.elim
  | int i => exact hi.elim
  | dict k => exact hi.elim
/-! ranges -/
def rangeL (lo hi : Int) : List PyData := (List.range (hi - lo).toNat).map fun i => .int (lo + (i : Nat))
theorem itok_rng {lo hi : Int} : ItOk K (Itr lo (hi - lo).toNat) (rangeL lo hi) F := by
  refine ⟨_, _, by unfold rangeL; rw [List.length_map, List.length_range]; exact walk_range, fun _ _ => trivial, fun i d hd H v H' hy g F1 σ env st e1 => ?_⟩
  obtain ⟨y1, y2⟩ := hy
  subst y1 y2
  obtain ⟨j, h1, rfl⟩ := map_get hd
  have hj := (List.getElem?_eq_some_iff.mp h1)
  have hj : i = j := by
    obtain ⟨h3, h4⟩ := hj
    simpa using h4
  subst hj
  exact ⟨F1, st, Ex.refl F1, .int _, Ex.refl _, fun a h => .inl h⟩
def rngM : PyData → PyData → (List PyData → Prop) → Prop
  | .int lo, .int hi, K => (-1000000 ≤ lo ∧ lo ≤ 1000000 ∧ -1000000 ≤ hi ∧ hi ≤ 1000000) ∧ K (rangeL lo hi)
  | _, _, _ => False
theorem range_len {lo hi : Int} (h : -1000000 ≤ lo ∧ lo ≤ 1000000 ∧ -1000000 ≤ hi ∧ hi ≤ 1000000) : (rangeL lo hi).length ≤ sizeLine := by
  unfold rangeL
  rw [List.length_map, List.length_range, sizeLine_eq]
  omega
theorem wi_r2 {Φ : List PyData → Prop} {p1 p2 : Pos} (hm : X.mg "range" = none) (h : WE X g a env (fun d1 _ => WE X g b env (fun d2 _ => rngM d1 d2 Φ) Ψ) Ψ) (hg : Gl X "range" := by rfl)
    (he : starEach [a, b] X.env = [(false, eval a X.env), (false, eval b X.env)] := by rfl) (he2 : starEach [b] X.env = [(false, eval b X.env)] := by rfl) : WI X g tg (.Call (.Name "range" p1) [a, b] [] p2) env Φ Ψ := fun W tk σ F H st hx R hR => by
  refine semI_of (pi_range2 hg hm (pa_cons (peS a) (pa_cons (peS b) pa_nil (by rw [he2]; rfl)) (by rw [he, he2])) he he2) ?_
  refine h W tk σ F H st hx _ fun d1 z1 v1 F1 H1 h1 s1 e1 r1 => ?_
  refine h1 W tk σ F1 H1 s1 hx _ fun d2 z2 v2 F2 H2 h2 s2 e2 r2 => ?_
  cases d1 with
  | int i =>
    cases d2 with
    | int j =>
      obtain ⟨hb, hi⟩ : (-1000000 ≤ i ∧ i ≤ 1000000 ∧ -1000000 ≤ j ∧ j ≤ 1000000) ∧ Φ (rangeL i j) := h2
      rw [rd_int r1, rd_int r2]
      exact ⟨i, j, rfl, by omega, hR _ _ F2 H2 hi (range_len hb) s2 (e1.trans e2) itok_rng⟩
    | _ => exact h2.elim
  | _ => cases d2 <;> exact h2.elim
theorem wi_r1 {Φ : List PyData → Prop} {p1 p2 : Pos} (hm : X.mg "range" = none) (h : WE X g a env (fun d1 _ => rngM (.int 0) d1 Φ) Ψ) (hg : Gl X "range" := by rfl)
    (he : starEach [a] X.env = [(false, eval a X.env)] := by rfl) : WI X g tg (.Call (.Name "range" p1) [a] [] p2) env Φ Ψ := fun W tk σ F H st hx R hR => by
  refine semI_of (pi_range1 hg hm (pa_cons (peS a) pa_nil (by rw [he]; rfl)) he) ?_
  refine h W tk σ F H st hx _ fun d2 z2 v2 F2 H2 h2 s2 e2 r2 => ?_
  cases d2 with
  | int j =>
    obtain ⟨hb, hi⟩ : (-1000000 ≤ (0 : Int) ∧ (0 : Int) ≤ 1000000 ∧ -1000000 ≤ j ∧ j ≤ 1000000) ∧ Φ (rangeL 0 j) := h2
    rw [rd_int r2]
    have := itok_rng (K := X.K) (F := F2) (lo := 0) (hi := j)
    rw [Int.sub_zero] at this
    exact ⟨j, rfl, by omega, by omega, hR _ _ F2 H2 hi (range_len hb) s2 e2 this⟩
  | _ => exact h2.elim
/-! enumerate over a list or a tuple -/
def enumL (xs : List PyData) : List PyData := xs.mapIdx fun i x => .tuple [.int (i : Nat), x]
def iEnA (K : Frag) (ta : TA) : TI := fun σ H R => ta σ H fun vs H1 => ∃ a xs, vs = [.ref a] ∧ ((SqL K H1 a xs ∧ (xs.length ≤ sizeLine → R (Ite K a) H1)) ∨ (SqT K H1 a xs ∧ (xs.length ≤ sizeLine → R (EnT K a) H1)))
theorem pi_enA {ta : TA} {tpos : Pos} {elts : List Expr} {kk : Nat} (hg : Gl X "enumerate") (hm : X.mg "enumerate" = none) (ha : PA X [e] ta) (hs : starEach [e] X.env = [(false, eval e X.env)] := by rfl) :
    PI X (.Tuple elts kk tpos) (.Call (.Name "enumerate" p) [e] [] pos) (iEnA X.K ta) := by
  refine ⟨fun pins s σ H R I h => ?_⟩
  refine Call_ (ld_blt I hg hm boot_enumerate (PyProof.Rows.callWith_type1 (thn (ha.run pos pins s σ H _ I h) fun us s1 ⟨vs, H1, I1, r1, q1⟩ => ?_) hs rfl))
  obtain ⟨a, xs, ex, hq | hq⟩ := q1
  · subst ex
    obtain ⟨hq, q⟩ := hq
    cases r1 with
    | cons r rr =>
      cases rr
      cases r
      obtain ⟨its, rv, p', hz⟩ := I1.list hq
      refine call_enumerate_list p'.isList fun h' he hit hsz hk => wpAny_pyIter_enum he ?_
      have I2 : Inv X pins σ H1 { s1 with heap := h' } := I1.kept (t' := s1.toks) hk
      refine ⟨s1.heap.objs.size + 1, [s1.heap.objs.size + 1, s1.heap.objs.size], _, _, H1, rfl, I2, turn_enum a (s1.heap.objs.size + 1) s1.heap.objs.size, ⟨⟨.none, he⟩, hit, Nat.succ_ne_self _⟩, fun b hb => ?_, q hz⟩
      have e' : b = s1.heap.objs.size + 1 ∨ b = s1.heap.objs.size := by simpa using hb
      have hle : s1.heap.objs.size ≤ b := by
        rcases e' with z | z
        · rw [z]; exact Nat.le_succ _
        · rw [z]; exact Nat.le_refl _
      exact I1.fpOk hle (I1.hok.fresh hle)
  · subst ex
    obtain ⟨sq, q⟩ := hq
    cases r1 with
    | cons r rr =>
      cases rr
      cases r
      obtain ⟨its, rv, pt, hz⟩ := I1.tuple sq
      refine enu_call (begins_tuple a its.toArray) pt fun h' en iv keep => wpAny_pyIter_enum en ?_
      have I2 : Inv X pins σ H1 { s1 with heap := h' } := I1.kept (t' := s1.toks) keep
      refine ⟨s1.heap.objs.size + 1, [s1.heap.objs.size + 1, s1.heap.objs.size], _, _, H1, rfl, I2, turn_en a (s1.heap.objs.size + 1) s1.heap.objs.size, ⟨⟨.none, en⟩, ⟨_, iv, rfl, rfl⟩, Nat.succ_ne_self _⟩, fun b hb => ?_, q hz⟩
      have hb2 : b = s1.heap.objs.size + 1 ∨ b = s1.heap.objs.size := by simpa using hb
      have le : s1.heap.objs.size ≤ b := by
        rcases hb2 with rfl | rfl
        · exact Nat.le_add_right _ _
        · exact Nat.le_refl _
      exact I1.fpOk le (I1.hok.fresh le)
theorem itok_pair {xs : List PyData} {vs : List V} {J : It} {G : Hp → Prop} (w : Walk J vs.length G (YPair (fun i => some (.int (i : Nat))) fun i => vs[i]?)) (hG : ∀ H, Ex F H → G H) (h : DqAll K F vs xs) : ItOk K J (enumL xs) F := by
  refine ⟨G, _, by unfold enumL; rw [List.length_mapIdx, ← dpa_len h]; exact w, hG, fun i d hd H v H' hy g F1 σ env st e1 => ?_⟩
  obtain ⟨T, x, y, y1, y2, y3, y4, y5⟩ := hy
  unfold enumL at hd
  rw [List.getElem?_mapIdx] at hd
  obtain ⟨d', hd', rfl⟩ := Option.map_eq_some_iff.mp hd
  obtain ⟨v', h1, h2⟩ := dpa_get h hd'
  have y5 : vs[i]? = some y := y5
  rw [y5] at h1
  cases h1
  cases y4
  subst y1 y3
  have hF := st.ex.none y2
  refine ⟨_, st.allocF (o := .tup [.int (i : Nat), y]) y2, Ex.new hF, .tup upd_same (.cons (.int _) (.cons (dp_mono (e1.trans (Ex.new hF)) _ _ h2) .nil)), Ex.new y2, fun a ha => ?_⟩
  by_cases ea : a = T
  · subst ea; exact .inr y2
  · rw [upd_ne ea] at ha; exact .inl ha
def enuM : PyData → (List PyData → Prop) → Prop
  | .list xs, K => K (enumL xs)
  | .tuple xs, K => K (enumL xs)
  | _, _ => False
theorem enum_len (xs : List PyData) : (enumL xs).length = xs.length := by unfold enumL; rw [List.length_mapIdx]
theorem wi_en {Φ : List PyData → Prop} {elts : List Expr} {kk : Nat} {tpos p1 : Pos} (hm : X.mg "enumerate" = none) (h : WE X g a env (fun d z => z = true ∧ enuM d Φ) Ψ) (hg : Gl X "enumerate" := by rfl)
    (he : starEach [a] X.env = [(false, eval a X.env)] := by rfl) : WI X g (.Tuple elts kk tpos) (.Call (.Name "enumerate" p1) [a] [] pos) env Φ Ψ := fun W tk σ F H st hx R hR => by
  refine semI_of (pi_enA hg hm (pa_cons (peS a) pa_nil (by rw [he]; rfl)) he) ?_
  refine h W tk σ F H st hx _ fun d z v F1 H1 ⟨hz, hi⟩ s1 e1 rd => ?_
  subst hz
  cases d with
  | list xs =>
    obtain ⟨a, vs, rfl, hsq, hda⟩ := dp_lst rd
    have hi : Φ (enumL xs) := hi
    exact ⟨a, vs, rfl, .inl ⟨ex_l s1.ex hsq, fun hl => hR _ _ F1 H1 hi (by rw [enum_len, ← dpa_len hda]; exact hl) s1 e1 (itok_pair walk_enum (fun H eH => ex_l eH hsq) hda)⟩⟩
  | tuple xs =>
    obtain ⟨a, vs, rfl, hsq, hda⟩ := dp_tup rd
    have hi : Φ (enumL xs) := hi
    exact ⟨a, vs, rfl, .inr ⟨ex_t s1.ex hsq, fun hl => hR _ _ F1 H1 hi (by rw [enum_len, ← dpa_len hda]; exact hl) s1 e1 (itok_pair walk_enT (fun H eH => ex_t eH hsq) hda)⟩⟩
  | _ => exact hi.elim
/-! for, by any iteration -/
theorem w1_for {t : TG} {A : PyData → Option (List (Nat × PyData))} (hp : PassesOwn (model X.prog X.w) X.A X.env X.xe) (hc : X.calm = true) (hpg : PG X tg t) (htd : TGd X.K t A)
    (hi : WI X g tg iter env (fun xs => ∃ Pv : Nat → List Sl → Prop, Pv 0 env ∧ (∀ i x, xs[i]? = some x → FT X g body A P Pv i x) ∧ ∀ e, Pv xs.length e → P.nx e) (fun c => P.ex c env))
    (hs : ∀ x, foldedSetIterable iter X.env x = pure x := by intro _; rfl) : W1 X g (.For tg iter body [] pos) env P := fun W tk hx2 σ F H s0 D hD => by
  refine semP_of (ps_for hp hc piS hpg (pssS body) hs) ?_
  refine hi W tk σ F H s0 (hx2.hx env σ) _ fun xs J F1 H1 ⟨Pv, p0, pt, pe⟩ hlen s1 e1 ⟨GG, Y, hw, hG, hy⟩ => ?_
  refine for_it hw (FJ X.K g F1 Pv) ⟨F1, env, s1, Ex.refl F1, p0⟩ (fun i σ' H' _ ⟨F2, e2, s2, ex2, _⟩ => hG _ (ex2.trans s2.ex)) (fun i x σ' H2 H3 hi2 hJ hY => ?_) (fun σ' H' ⟨F2, e2, s2, ex2, hp2⟩ => ?_)
  · obtain ⟨F2, e2, s2, ex2, hp2⟩ := hJ
    obtain ⟨d, hd⟩ : ∃ d, xs[i]? = some d := ⟨xs[i], by simp [hi2]⟩
    obtain ⟨F3, s3, ex3, hv, _, _⟩ := hy i d hd _ _ _ hY _ _ _ _ s2 ex2
    exact for_turn2 tk hx2 (hD.mono e1) htd hv s3 (ex2.trans ex3) hp2 (pt i d hd)
  · exact hD.nx e2 σ' F2 H' (pe e2 hp2) s2 (e1.trans ex2)
theorem lc_turn2 {scope : Scope} {ifs : List Expr} {elt : Expr} {t : TG} {A : PyData → Option (List (Nat × PyData))} {F1 : Hp} {vs : List Nat} {Pv : Nat → List PyData → Prop} {D : Addr} {i : Nat} {x : PyData} {v : V} {l : List (Nat × PyData)}
    (htd : TGd X.K t A) (hA : A x = some l) (hl : ∀ q ∈ l, q.1 ∈ vs ∧ q.1 < env.length) (hsz : i < sizeLine) {F : Hp} {acc : List PyData} {avs : List V} (st : St X.K g F H (wipe σ vs) (wipeE env vs)) (eF : Ex F1 F) (hv : Dq X.K F v x) (hD : H D = some (.lst avs)) (hd : DqAll X.K F avs acc) (fD : F D = none) (oD : ¬ Own (wipeE env vs) D) (gD : g.H0 D = none) (hp : Pv i acc) (hlen : acc.length ≤ i)
    (hb : ∀ (g' : G) s H0 C cl fp, WTs (BX X scope s H0 C cl fp) g' ifs (putsE (wipeE env vs) l) (fun b => (b = true → ∀ s H0 C cl fp, WE (BX X scope s H0 C cl fp) g' elt (putsE (wipeE env vs) l) (fun y z => z = true ∧ Pv (i + 1) (acc ++ [y])) (fun _ => False)) ∧ (b = false → Pv (i + 1) acc))) :
    t v (wipe σ vs) H fun σ2 H2 => wipe σ2 vs = wipe σ vs ∧ semTB X scope ifs σ2 H2 fun b H3 =>
      if b = true then semEB X scope elt σ2 H3 fun y H4 => ∃ acc, H4 D = some (.lst acc) ∧ acc.length < sizeLine ∧ LJ X.K g F1 (wipe σ vs) (wipeE env vs) Pv D (i + 1) (upd H4 D (.lst (acc ++ [y]))) else LJ X.K g F1 (wipe σ vs) (wipeE env vs) Pv D (i + 1) H3 := by
  refine htd x l (wipe σ vs) F H v _ hA st.ex hv fun r sr => ?_
  have hidx : ∀ q ∈ r, q.1 ∈ vs := setsP_idx sr fun q hq => (hl q hq).1
  refine ⟨by rw [wipe_putsV hidx]; exact wipe_wipe σ vs, ?_⟩
  -- the state within the turn, over a ground of its own
  have st1 : St X.K ⟨F, H, fps (wipeE env vs)⟩ F H (putsV (wipe σ vs) r) (putsE (wipeE env vs) l) := St.sets st.toSk.base sr fun q hq => by rw [wipeE_len]; exact (hl q hq).2
  have back : ∀ {F' H'}, St X.K ⟨F, H, fps (wipeE env vs)⟩ F' H' (putsV (wipe σ vs) r) (putsE (wipeE env vs) l) → Ex F F' → St X.K ⟨F, H, fps (wipeE env vs)⟩ F' H' (wipe σ vs) (wipeE env vs) := fun {F' H'} s' e' =>
    { len := by rw [wipe_length, wipeE_len]; have := s'.len; rw [putsE_len, wipeE_len] at this; rw [← this, putsV_len, wipe_length]
      sl := fun k s e => by
        by_cases hm : k ∈ vs
        · rw [wipeE_get, if_pos hm] at e
          obtain ⟨_, _, e⟩ := Option.map_eq_some_iff.mp e
          subst e
          trivial
        · have e2 : (putsE (wipeE env vs) l)[k]? = some s := by rw [putsE_get (i := k) fun q hq (z : q.1 = k) => hm (by rw [← z]; exact (hl q hq).1)]; exact e
          have q := s'.sl k s e2
          rw [putsV_get (i := k) fun q hq (z : q.1 = k) => hm (by rw [← z]; exact hidx q hq)] at q
          exact q
      nd := st.nd
      fr := fun a h => by
        obtain ⟨k, s, h1, h2⟩ := h
        by_cases hm : k ∈ vs
        · rw [wipeE_get, if_pos hm] at h1
          obtain ⟨_, _, e⟩ := Option.map_eq_some_iff.mp h1
          subst e
          cases h2
        · exact s'.fr a ⟨k, s, by rw [putsE_get (i := k) fun q hq (z : q.1 = k) => hm (by rw [← z]; exact (hl q hq).1)]; exact h1, h2⟩
      ex := s'.ex
      tf := s'.tf
      g1 := s'.g1
      g2 := fun a h => .inr (own_fps.mp h)
      g3 := s'.g3
      g4 := s'.g4
      g5 := s'.g5
      g6 := s'.g6 }
  have keepD : ∀ {F' H'}, St X.K ⟨F, H, fps (wipeE env vs)⟩ F' H' (putsV (wipe σ vs) r) (putsE (wipeE env vs) l) → H' D = some (.lst avs) ∧ F' D = none := fun {F' H'} s' => by
    refine ⟨s'.g1 D _ hD fun z => oD (own_fps.mpr z), ?_⟩
    cases q : F' D with
    | none => rfl
    | some u =>
      rcases s'.g4 D (by rw [q]; intro z; cases z) with z | z
      · exact absurd fD z
      · have z' : H D = none := z
        rw [hD] at z'; cases z'
  have tests : ∀ (Q : Bool → Hp → Prop), (∀ b F' H', ((b = true → ∀ s H0 C cl fp, WE (BX X scope s H0 C cl fp) ⟨F, H, fps (wipeE env vs)⟩ elt (putsE (wipeE env vs) l) (fun y z => z = true ∧ Pv (i + 1) (acc ++ [y])) (fun _ => False)) ∧ (b = false → Pv (i + 1) acc)) →
      St X.K ⟨F, H, fps (wipeE env vs)⟩ F' H' (putsV (wipe σ vs) r) (putsE (wipeE env vs) l) → Ex F F' → Q b H') → semTB X scope ifs (putsV (wipe σ vs) r) H Q := fun Q hQ => by
    cases ifs with
    | nil =>
      exact hQ true F H ⟨fun _ s H0 C cl fp => (hb _ (X.s_0) H0 C cl fp).1 rfl s H0 C cl fp, fun z => by cases z⟩ st1 (Ex.refl F)
    | cons c cs =>
      intro s H0 C cl fp
      refine hb _ s H0 C cl fp _ takesB _ F H st1 hxF Q fun b F' H' hbb s' e' => hQ b F' H' hbb s' e'
  refine tests _ fun b F' H' ⟨h1, h2⟩ s' e' => ?_
  cases b with
  | true =>
    rw [if_pos rfl]
    intro s H0 C cl fp
    refine h1 rfl s H0 C cl fp _ takesB _ F' H' s' hxF _ fun y z w F2 H2 ⟨hz, hp2⟩ s2 e2 rd => ?_
    subst hz
    obtain ⟨hD2, fD2⟩ := keepD s2
    refine ⟨avs, hD2, by rw [dpa_len hd]; omega, F2, acc ++ [y], avs ++ [w], ?_, eF.trans (e'.trans e2), upd_same, ?_, fD2, oD, gD, hp2, by rw [List.length_append, List.length_singleton]; omega⟩
    · have s3 := st.rebase (back s2 (e'.trans e2)) fun a h => h
      exact s3.untracked fD2 oD gD
    · exact dpa_app (dpa_mono (e'.trans e2) _ _ hd) (dpa_one rd)
  | false =>
    rw [if_neg Bool.false_ne_true]
    obtain ⟨hD2, fD2⟩ := keepD s'
    exact ⟨F', acc, avs, st.rebase (back s' e') fun a h => h, eF.trans e', hD2, dpa_mono e' _ _ hd, fD2, oD, gD, h2 rfl, by omega⟩

def LT2 (X : Cx) (env : List Sl) (scope : Scope) (ifs : List Expr) (elt : Expr) (vs : List Nat) (A : PyData → Option (List (Nat × PyData))) (Pv : Nat → List PyData → Prop) (i : Nat) (x : PyData) : Prop :=
  ∀ acc, Pv i acc → ∃ l, A x = some l ∧ (l.all fun q => vs.elem q.1 && Nat.blt q.1 env.length) = true ∧ ∀ (g' : G) s H0 C cl fp, WTs (BX X scope s H0 C cl fp) g' ifs (putsE (wipeE env vs) l) (fun b =>
    (b = true → ∀ s H0 C cl fp, WE (BX X scope s H0 C cl fp) g' elt (putsE (wipeE env vs) l) (fun y z => z = true ∧ Pv (i + 1) (acc ++ [y])) (fun _ => False)) ∧ (b = false → Pv (i + 1) acc))
section
variable {elt : Expr} {ifs : List Expr} {scope : Scope} {own : List (Str × Nat)} {t : TG} {A : PyData → Option (List (Nat × PyData))} {Φ : List PyData → Prop}
theorem nt_lc (htd : TGd X.K t A) (hwo : wipeOk env (own.map (·.2)) = true)
    (hi : WI X g tg iter env (fun xs => ∃ Pv : Nat → List PyData → Prop, Pv 0 [] ∧ (∀ i x, xs[i]? = some x → LT2 X env scope ifs elt (own.map (·.2)) A Pv i x) ∧ ∀ acc, Pv xs.length acc → Φ acc) Ψ) : WNt X g (tLc (semI X tg iter) t (semTB X scope ifs) (semEB X scope elt) (own.map (·.2))) env Φ Ψ := fun W tk σ F H st hx Q hQ => by
  refine hi W tk σ F H st hx _ fun xs J F1 H1 ⟨Pv, p0, pt, pe⟩ hlen s1 e1 ⟨GG, Y, hw, hG, hy⟩ => fun D hD => ?_
  have st2 : St X.K g F1 (upd H1 D (.lst [])) (wipe σ (own.map (·.2))) (wipeE env (own.map (·.2))) := (s1.alloc hD).wiped _
  refine lc_it hw (LJ X.K g F1 (wipe σ (own.map (·.2))) (wipeE env (own.map (·.2))) Pv D) ⟨F1, [], [], st2, Ex.refl F1, upd_same, .nil, s1.ex.none hD, fun z => s1.there (own_wipe z) hD, s1.h0 hD, p0, Nat.le_refl 0⟩ (fun i H2 _ ⟨F2, _, _, s3, e3, _⟩ => hG _ (e3.trans s3.ex)) (fun i x H2 H3 hi2 hJ hY => ?_) (fun H2 ⟨F2, acc, avs, s3, e3, hD3, hd3, fD, oD, gD, hp, _⟩ => ?_)
  · obtain ⟨F2, acc, avs, s3, e3, hD3, hd3, fD, oD, gD, hp, hl2⟩ := hJ
    obtain ⟨d, hd⟩ : ∃ d, xs[i]? = some d := ⟨xs[i], by simp [hi2]⟩
    obtain ⟨F3, s4, ex4, hv, exH, hF⟩ := hy i d hd _ _ _ hY _ _ _ _ s3 e3
    obtain ⟨l, hA, hl, hb⟩ := pt i d hd acc hp
    have fD3 : F3 D = none := by
      cases q : F3 D with
      | none => rfl
      | some u =>
        rcases hF D (by rw [q]; intro z; cases z) with z | z
        · exact absurd fD z
        · rw [hD3] at z; cases z
    exact lc_turn2 htd hA (lt_idx hl) (by omega) s4 (e3.trans ex4) hv (exH _ _ hD3) (dpa_mono ex4 _ _ hd3) fD3 oD gD hp hl2 hb
  · exact hQ acc (.ref D) F2 H2 (pe acc hp) (s1.unwiped hwo s3 e3) (e1.trans e3) ⟨D, avs, rfl, hD3, hd3, fD, fun z => s1.there z hD, gD⟩
theorem wn_lc (hc : X.calm = true) (hN : X.N.Nodup) (ok : BlkOk X.N X.env.scope scope own) (hpg : ∀ s H C cl fp, PG (BX X scope s H C cl fp) tg t) (htd : TGd X.K t A) (h1 : ifs.length ≤ 1) (hwo : wipeOk env (own.map (·.2)) = true)
    (hi : WI X g tg iter env (fun xs => ∃ Pv : Nat → List PyData → Prop, Pv 0 [] ∧ (∀ i x, xs[i]? = some x → LT2 X env scope ifs elt (own.map (·.2)) A Pv i x) ∧ ∀ acc, Pv xs.length acc → Φ acc) Ψ)
    (hs : ∀ x, foldedSetIterable iter X.env x = pure x := by intro _; rfl) : WN X g (.ListComp elt [⟨tg, iter, ifs, 0⟩] scope pos) env Φ Ψ := fun W tk σ F H st hx Q hQ =>
  semE_of (pe_lc hc hN piS ok hpg (ptsB h1) peB hs) (nt_lc htd hwo hi W tk σ F H st hx Q hQ)
end
end
end TL

/-! a program told as a plain predicate transformer over data -/
namespace TL
open PySem PySem.Spec PyProof.Rows L2
abbrev KD := PyData → Prop
abbrev KL := List PyData → Prop
abbrev KB := Bool → Prop
abbrev KX := Exc → Prop
def addM : PyData → PyData → KD → Prop
  | .int i, .int j, K => K (.int (i + j))
  | .str i, .str j, K => i.length + j.length ≤ sizeLine ∧ K (.str (i ++ j))
  | .list xs, .list ys, K => xs.length + ys.length ≤ sizeLine ∧ K (.list (xs ++ ys))
  | .tuple xs, .tuple ys, K => xs.length + ys.length ≤ sizeLine ∧ K (.tuple (xs ++ ys))
  | _, _, _ => False
def addLM : PyData → PyData → KL → Prop
  | .list xs, .list ys, K => xs.length + ys.length ≤ sizeLine ∧ K (xs ++ ys)
  | _, _, _ => False
def subM : PyData → PyData → KD → Prop
  | .int i, .int j, K => K (.int (i - j))
  | _, _, _ => False
def mulM : PyData → PyData → KD → Prop
  | .int i, .int j, K => (CMul i j ∨ CMulW i j) ∧ K (.int (i * j))
  | _, _, _ => False
def divM : PyData → PyData → KD → Prop
  | .int i, .int j, K => CDivW i j ∧ K (.int (i / j))
  | _, _, _ => False
def modM : PyData → PyData → KD → Prop
  | .int i, .int j, K => 0 < j ∧ K (.int (i % j))
  | _, _, _ => False
def negM : PyData → KD → Prop
  | .int i, K => K (.int (-i))
  | _, _ => False
def boolM : PyData → KB → Prop
  | .bool b, K => K b
  | _, _ => False
def eqM : PyData → PyData → KB → Prop
  | .int i, .int j, K => K (decide (i = j))
  | .str i, .str j, K => K (decide (i = j))
  | .bool i, .bool j, K => K (decide (i = j))
  | x, y, K => SeqAt.shaped x = true ∧ SeqAt.shaped y = true ∧ K (PyData.eqv x y)
def neM : PyData → PyData → KB → Prop
  | .int i, .int j, K => K (!decide (i = j))
  | .str i, .str j, K => K (!decide (i = j))
  | .bool i, .bool j, K => K (!decide (i = j))
  | x, y, K => SeqAt.shaped x = true ∧ SeqAt.shaped y = true ∧ K (!PyData.eqv x y)
def intsOf : List PyData → Option (List Int)
  | [] => some []
  | .int i :: r => match intsOf r with
    | some l => some (i :: l)
    | none => none
  | _ :: _ => none
def ltM : PyData → PyData → KB → Prop
  | .int i, .int j, K => K (decide (i < j))
  | .tuple xs, .tuple ys, K => match intsOf xs, intsOf ys with
    | some ns, some ms => K (HT.lexLt ns ms)
    | _, _ => False
  | _, _, _ => False
def leTup (ns ms : List Int) : Bool := Ob.lexAt (fun j => decide (ns.getD j 0 = ms.getD j 0)) (fun j => decide (ns.getD j 0 ≤ ms.getD j 0)) (decide (ns.length ≤ ms.length)) 0 (min ns.length ms.length)
def leM : PyData → PyData → KB → Prop
  | .int i, .int j, K => K (decide (i ≤ j))
  | .tuple xs, .tuple ys, K => match intsOf xs, intsOf ys with
    | some ns, some ms => K (leTup ns ms)
    | _, _ => False
  | _, _, _ => False
def gtM : PyData → PyData → KB → Prop
  | .int i, .int j, K => K (decide (j < i))
  | _, _, _ => False
def geM : PyData → PyData → KB → Prop
  | .int i, .int j, K => K (decide (j ≤ i))
  | _, _, _ => False
def flAll : List PyData → Option (List V)
  | [] => some []
  | d :: r => match fl d, flAll r with
    | some v, some l => some (v :: l)
    | _, _ => none
def inLstM (x : PyData) (ds : List PyData) (K : KB) : Prop := match fl x, flAll ds with
  | some v, some vs => K (inV v vs)
  | _, _ => SeqAt.shaped x = true ∧ SeqAt.shaped (.list ds) = true ∧ K (ds.any fun z => PyData.eqv z x)
def inTupM (x : PyData) (ds : List PyData) (K : KB) : Prop := match fl x, flAll ds with
  | some v, some vs => K (inV v vs)
  | _, _ => False
def inM (x : PyData) : PyData → KB → Prop
  | .list ds, K => inLstM x ds K
  | .tuple ds, K => inTupM x ds K
  | .str t, K => match x with
    | .str s => K (!(Builtin.Str.occurrences t s 0 t.length 1).isEmpty)
    | _ => False
  | _, _ => False
def notInM (x c : PyData) (K : KB) : Prop := inM x c fun b => K (!b)
def ixM : PyData → PyData → KD → Prop
  | .list xs, .int i, K => match atI xs i with
    | some y => K y
    | none => False
  | .tuple xs, .int i, K => match atI xs i with
    | some y => K y
    | none => False
  | .str s, .int i, K => s.length ≤ sizeLine ∧ match atI s.cps.toList i with
    | some c => K (sgn c)
    | none => False
  | _, _, _ => False
def intO : PyData → (Int → Prop) → Prop
  | .int i, K => K i
  | _, _ => False
def slM : PyData → Option Int → Option Int → KD → Prop
  | .list xs, lo, hi, K => K (.list (cut xs lo hi))
  | .tuple xs, lo, hi, K => K (.tuple (cut xs lo hi))
  | .str z, lo, hi, K => z.length ≤ sizeLine ∧ K (.str (cutS z lo hi))
  | _, _, _, _ => False
def slLM : PyData → Option Int → Option Int → KL → Prop
  | .list xs, lo, hi, K => K (cut xs lo hi)
  | _, _, _, _ => False
def revM : PyData → KL → Prop
  | .list xs, K => K xs.reverse
  | _, _ => False
def lenM : PyData → KD → Prop
  | .list xs, K => K (.int xs.length)
  | .tuple xs, K => K (.int xs.length)
  | .str s, K => s.length ≤ sizeLine ∧ K (.int s.length)
  | _, _ => False
def absM : PyData → KD → Prop
  | .int i, K => K (.int (if i < 0 then -i else i))
  | _, _ => False
def sumM : PyData → KD → Prop
  | .list xs, K => match intsOf xs with
    | some ns => K (.int ns.sum)
    | none => False
  | _, _ => False
def boolsOf : List PyData → Option (List Bool)
  | [] => some []
  | .bool i :: r => match boolsOf r with
    | some l => some (i :: l)
    | none => none
  | _ :: _ => none
def allM : PyData → KD → Prop
  | .list xs, K => match boolsOf xs with
    | some ns => K (.bool (ns.all id))
    | none => False
  | _, _ => False
def anyM : PyData → KD → Prop
  | .list xs, K => match boolsOf xs with
    | some ns => K (.bool (ns.any id))
    | none => False
  | _, _ => False
def intM : PyData → KD → Prop
  | .int i, K => K (.int i)
  | .bool b, K => K (.int (if b then 1 else 0))
  | _, _ => False
def tupM : PyData → KD → Prop
  | .list xs, K => K (.tuple xs)
  | .tuple xs, K => K (.tuple xs)
  | _, _ => False
def listM : PyData → KL → Prop
  | .list xs, K => K xs
  | .tuple xs, K => K xs
  | _, _ => False
def sortM : PyData → KL → Prop
  | .list ds, K => (PySem.W.AllAlike ds ∧ PySem.W.Sortable ds ∧ ∀ d ∈ ds, SeqAt.shaped d = true) ∧ K (srt ds)
  | _, _ => False
def min2M : PyData → PyData → KD → Prop
  | .int i, .int j, K => K (.int (if j < i then j else i))
  | _, _, _ => False
def max2M : PyData → PyData → KD → Prop
  | .int i, .int j, K => K (.int (if j > i then j else i))
  | _, _, _ => False
def andM (ma mb : KB → Prop) (K : KB) : Prop := ma fun b => (b = true → mb K) ∧ (b = false → K false)
def orM (ma mb : KB → Prop) (K : KB) : Prop := ma fun b => (b = true → K true) ∧ (b = false → mb K)
def ifM {α : Type} (mt : KB → Prop) (ma mb : (α → Prop) → Prop) (K : α → Prop) : Prop := mt fun b => (b = true → ma K) ∧ (b = false → mb K)
/-- unpacking -/
def unp : List Nat → PyData → KL → Prop := fun n d K => match d with
  | .tuple xs => if xs.length = n.length then K xs else False
  | _ => False
def un2 : PyData → (PyData → PyData → Prop) → Prop
  | .tuple [a, b], K => K a b
  | _, _ => False
def un3 : PyData → (PyData → PyData → PyData → Prop) → Prop
  | .tuple [a, b, c], K => K a b c
  | _, _ => False
def un4 : PyData → (PyData → PyData → PyData → PyData → Prop) → Prop
  | .tuple [a, b, c, d], K => K a b c d
  | _, _ => False
def un5 : PyData → (PyData → PyData → PyData → PyData → PyData → Prop) → Prop
  | .tuple [a, b, c, d, e], K => K a b c d e
  | _, _ => False
theorem un2_sh {d : PyData} {K} (h : un2 d K) : ∃ a b, d = .tuple [a, b] ∧ K a b := by
  unfold un2 at h
  split at h
  · exact ⟨_, _, rfl, h⟩
  · exact h.elim
theorem un3_sh {d : PyData} {K} (h : un3 d K) : ∃ a b c, d = .tuple [a, b, c] ∧ K a b c := by
  unfold un3 at h
  split at h
  · exact ⟨_, _, _, rfl, h⟩
  · exact h.elim
theorem un4_sh {d : PyData} {K} (h : un4 d K) : ∃ a b c e, d = .tuple [a, b, c, e] ∧ K a b c e := by
  unfold un4 at h
  split at h
  · exact ⟨_, _, _, _, rfl, h⟩
  · exact h.elim
theorem un5_sh {d : PyData} {K} (h : un5 d K) : ∃ a b c e f, d = .tuple [a, b, c, e, f] ∧ K a b c e f := by
  unfold un5 at h
  split at h
  · exact ⟨_, _, _, _, _, rfl, h⟩
  · exact h.elim
/-! loops -/
def forM {σ : Type} (bd : PyData → σ → (σ → Prop) → (σ → Prop) → Prop) (K : σ → Prop) : List PyData → σ → Prop
  | [], s => K s
  | x :: xs, s => bd x s (fun s' => forM bd K xs s') K
def whileM {σ : Type} (st : σ → (σ → Prop) → (σ → Prop) → Prop) (K : σ → Prop) : Nat → σ → Prop
  | 0, _ => False
  | n + 1, s => st s (fun s' => whileM st K n s') K
def lcM {β : Type} (bd : PyData → (β → Prop) → Prop → Prop) (K : List β → Prop) : List PyData → List β → Prop
  | [], acc => K acc
  | x :: xs, acc => bd x (fun y => lcM bd K xs (acc ++ [y])) (lcM bd K xs acc)
/-- ways that come together -/
def joinM {σ : Type} (bd : (σ → Prop) → Prop) (K : σ → Prop) : Prop := bd K

section
variable {X : Cx} {g : G} {env env' : List Sl} {Ψ : Exc → Prop} {P : Po} {pos p lp : Pos} {a b c e tg iter : Expr} {es : List Expr} {rest body : List Stmt} {K : Frag} {F F' H H' : Hp} {σ σ' : SS} {x y : PyData} {z1 z2 : Bool}
theorem ws_env {env' : List Sl} (h : env = env') (k : WS X g rest env' P) : WS X g rest env P := h ▸ k
/-! operators -/
section
variable {Q : KD} {Φ : PyData → Bool → Prop}
theorem add_sh (h : addM x y Q) (k : ∀ r, Q r → Φ r true) : AddP Φ x z1 y z2 := by
  unfold addM at h
  split at h
  · exact .int (k _ h)
  · exact .str (k _ h.2) h.1
  · exact .lst (k _ h.2) h.1
  · exact .tup (k _ h.2) h.1
  · exact h.elim
theorem sub_sh (h : subM x y Q) (k : ∀ r, Q r → Φ r true) : IntP (fun _ _ => True) (fun i j => i - j) Φ x z1 y z2 := by
  unfold subM at h
  split at h
  · exact ⟨k _ h, trivial⟩
  · exact h.elim
inductive MulP (Φ : PyData → Bool → Prop) : PyData → Bool → PyData → Bool → Prop
  | mk {i j : Int} {z1 z2 : Bool} : Φ (.int (i * j)) true → CMul i j ∨ CMulW i j → MulP Φ (.int i) z1 (.int j) z2
theorem we_mulA (h : WE X g a env (fun d1 z1 => WE X g b env (fun d2 z2 => MulP Φ d1 z1 d2 z2) Ψ) Ψ) : WE X g (.BinOp a .Mult b pos) env Φ Ψ :=
  we_op (pe_op (op_mul.or op_mulW) (peS a) (peS b)) (fun _ _ _ _ ⟨h, hc⟩ => by
    rcases hc with hc | hc
    · exact dop_l (dop_I hc h fun F => .int _)
    · exact dop_r (dop_I hc h fun F => .int _)) h
theorem mul_sh (h : mulM x y Q) (k : ∀ r, Q r → Φ r true) : MulP Φ x z1 y z2 := by
  unfold mulM at h
  split at h
  · exact ⟨k _ h.2, h.1⟩
  · exact h.elim
theorem div_sh (h : divM x y Q) (k : ∀ r, Q r → Φ r true) : IntP CDivW (fun i j => i / j) Φ x z1 y z2 := by
  unfold divM at h
  split at h
  · exact ⟨k _ h.2, h.1⟩
  · exact h.elim
theorem mod_sh (h : modM x y Q) (k : ∀ r, Q r → Φ r true) : IntP (fun _ j => 0 < j) (fun i j => i % j) Φ x z1 y z2 := by
  unfold modM at h
  split at h
  · exact ⟨k _ h.2, h.1⟩
  · exact h.elim
theorem neg_sh (h : negM x Q) (k : ∀ r, Q r → Φ r true) : ∃ i, x = .int i ∧ Φ (.int (-i)) true := by
  unfold negM at h
  split at h
  · exact ⟨_, rfl, k _ h⟩
  · exact h.elim
theorem ix_sh (h : ixM x y Q) (k : ∀ r, Q r → Φ r true) : IxP Φ x z1 y z2 := by
  unfold ixM at h
  split at h
  · split at h
    · rename_i e; exact .lst (k _ h) e
    · exact h.elim
  · split at h
    · rename_i e; exact .tup (k _ h) e
    · exact h.elim
  · obtain ⟨h1, h⟩ := h
    split at h
    · rename_i e; exact .str (k _ h) h1 e
    · exact h.elim
  · exact h.elim
theorem len_sh (h : lenM x Q) (k : ∀ r, Q r → Φ r true) : LenP Φ x z1 := by
  unfold lenM at h
  split at h
  · exact .lst (k _ h)
  · exact .tup (k _ h)
  · exact .str (k _ h.2) h.1
  · exact h.elim
theorem abs_sh (h : absM x Q) (k : ∀ r, Q r → Φ r true) : ∃ i, x = .int i ∧ Φ (.int (if i < 0 then -i else i)) true := by
  unfold absM at h
  split at h
  · exact ⟨_, rfl, k _ h⟩
  · exact h.elim
theorem intsOf_eq : ∀ {xs : List PyData} {ns : List Int}, intsOf xs = some ns → xs = ns.map .int
  | [], _, h => by cases h; rfl
  | d :: r, ns, h => by
    cases d with
    | int i =>
      unfold intsOf at h
      split at h
      · rename_i l e; cases h; rw [intsOf_eq e]; rfl
      · cases h
    | _ => cases h
theorem ints_of (ns : List Int) : intsOf (ns.map .int) = some ns := by
  induction ns with
  | nil => rfl
  | cons n ns ih => show (match intsOf (ns.map .int) with | some l => some (n :: l) | none => none) = _; rw [ih]
theorem boolsOf_eq : ∀ {xs : List PyData} {ns : List Bool}, boolsOf xs = some ns → xs = ns.map .bool
  | [], _, h => by cases h; rfl
  | d :: r, ns, h => by
    cases d with
    | bool i =>
      unfold boolsOf at h
      split at h
      · rename_i l e; cases h; rw [boolsOf_eq e]; rfl
      · cases h
    | _ => cases h
theorem bools_of (ns : List Bool) : boolsOf (ns.map .bool) = some ns := by
  induction ns with
  | nil => rfl
  | cons n ns ih => show (match boolsOf (ns.map .bool) with | some l => some (n :: l) | none => none) = _; rw [ih]
theorem sum_sh (h : sumM x Q) (k : ∀ r, Q r → Φ r true) : ∃ ns : List Int, x = .list (ns.map .int) ∧ Φ (.int ns.sum) true := by
  unfold sumM at h
  split at h
  · split at h
    · rename_i e; exact ⟨_, by rw [intsOf_eq e], k _ h⟩
    · exact h.elim
  · exact h.elim
theorem all_sh (h : allM x Q) (k : ∀ r, Q r → Φ r true) : ∃ ns : List Bool, x = .list (ns.map .bool) ∧ Φ (.bool (ns.all id)) true := by
  unfold allM at h
  split at h
  · split at h
    · rename_i e; exact ⟨_, by rw [boolsOf_eq e], k _ h⟩
    · exact h.elim
  · exact h.elim
theorem any_sh (h : anyM x Q) (k : ∀ r, Q r → Φ r true) : ∃ ns : List Bool, x = .list (ns.map .bool) ∧ Φ (.bool (ns.any id)) true := by
  unfold anyM at h
  split at h
  · split at h
    · rename_i e; exact ⟨_, by rw [boolsOf_eq e], k _ h⟩
    · exact h.elim
  · exact h.elim
theorem int_sh (h : intM x Q) (k : ∀ r, Q r → Φ r true) : IntOfP Φ x z1 := by
  unfold intM at h
  split at h
  · exact .int (k _ h)
  · exact .bool (k _ h)
  · exact h.elim
theorem tup_sh (h : tupM x Q) (k : ∀ r, Q r → Φ r true) (hz : z1 = true ∨ isTyB "tuple" x = false := by exact Or.inl rfl) : TupP Φ x z1 := by
  unfold tupM at h
  split at h
  · exact .lst (k _ h)
  · rcases hz with hz | hz
    · subst hz; exact .tup (k _ h)
    · rename_i xs
      have e : isTyB "tuple" (.tuple xs) = true := by show (L2.kitB "tuple" "tuple").getD false = true; decide +kernel
      rw [e] at hz; cases hz
  · exact h.elim
theorem min2_sh (h : min2M x y Q) (k : ∀ r, Q r → Φ r true) : ∃ i j, x = .int i ∧ y = .int j ∧ Φ (.int (if j < i then j else i)) true := by
  unfold min2M at h
  split at h
  · exact ⟨_, _, rfl, rfl, k _ h⟩
  · exact h.elim
theorem max2_sh (h : max2M x y Q) (k : ∀ r, Q r → Φ r true) : ∃ i j, x = .int i ∧ y = .int j ∧ Φ (.int (if j > i then j else i)) true := by
  unfold max2M at h
  split at h
  · exact ⟨_, _, rfl, rfl, k _ h⟩
  · exact h.elim
end
theorem bool_sh {Q : KB} {Φ : Bool → Prop} (h : boolM x Q) (k : ∀ r, Q r → Φ r) : ∃ b, x = .bool b ∧ Φ b := by
  unfold boolM at h
  split at h
  · exact ⟨_, rfl, k _ h⟩
  · exact h.elim
/-! new lists -/
section
variable {Q : KL} {Φ : List PyData → Prop}
theorem addL_sh (h : addLM x y Q) (k : ∀ r, Q r → Φ r) : ∃ xs, x = .list xs ∧ ∃ ys, y = .list ys ∧ xs.length + ys.length ≤ sizeLine ∧ Φ (xs ++ ys) := by
  unfold addLM at h
  split at h
  · exact ⟨_, rfl, _, rfl, h.1, k _ h.2⟩
  · exact h.elim
theorem wn_addA (h : WE X g a env (fun d1 _ => WE X g b env (fun d2 _ => ∃ xs, d1 = .list xs ∧ ∃ ys, d2 = .list ys ∧ xs.length + ys.length ≤ sizeLine ∧ Φ (xs ++ ys)) Ψ) Ψ) : WN X g (.BinOp a .Add b pos) env Φ Ψ := fun W tk σ F H st hx Q hQ => by
  refine semE_of (pe_op op_catL (peS a) (peS b)) ?_
  refine h W tk σ F H st hx _ fun d1 z1 v1 F1 H1 h1 st1 e1 r1 => ?_
  refine h1 W tk σ F1 H1 st1 hx _ fun d2 z2 v2 F2 H2 ⟨xs, hx1, ys, hy1, hl, hp⟩ st2 e2 r2 => ?_
  subst hx1 hy1
  obtain ⟨a1, vs1, rfl, s1, p1⟩ := rd_lst st2.toSk (rd_mono e2 r1)
  obtain ⟨a2, vs2, rfl, s2, p2⟩ := rd_lst st2.toSk r2
  exact ⟨a1, a2, vs1, vs2, rfl, rfl, s1, s2, by rw [dpa_len p1, dpa_len p2]; exact hl, fun p hp' => put_new st2 hp' (dpa_app p1 p2) hp fun ds v F' H' q1 q2 q3 q4 => hQ ds v F' H' q1 q2 ((e1.trans e2).trans q3) q4⟩
theorem list_sh (h : listM x Q) (k : ∀ r, Q r → Φ r) : LstP Φ x z1 := by
  unfold listM at h
  split at h
  · exact .lst (k _ h)
  · exact .tup (k _ h)
  · exact h.elim
theorem sort_sh (h : sortM x Q) (k : ∀ r, Q r → Φ r) : ∃ ds, x = .list ds ∧ PySem.W.AllAlike ds ∧ PySem.W.Sortable ds ∧ (∀ d ∈ ds, SeqAt.shaped d = true) ∧ Φ (srt ds) := by
  unfold sortM at h
  split at h
  · exact ⟨_, rfl, h.1.1, h.1.2.1, h.1.2.2, k _ h.2⟩
  · exact h.elim
theorem wn_revA {j : Nat} {p1 p2 p3 : Pos} (h : WE X g a env (fun d _ => revM d Φ) Ψ) : WN X g (.Subscript a (.Slice none none (some (.UnaryOp .USub (.Constant (.int 1) j p1) p2)) p3) pos) env Φ Ψ := fun W tk σ F H st hx Q hQ => by
  refine semE_of (pe_revL (peS a)) ?_
  refine h W tk σ F H st hx _ fun d1 z1 v1 F1 H1 h1 st1 e1 r1 => ?_
  cases d1 with
  | list xs =>
    have h1 : Φ xs.reverse := h1
    obtain ⟨a1, vs1, rfl, s1, p1⟩ := rd_lst st1.toSk r1
    exact ⟨a1, vs1, rfl, s1, fun p hp => put_new st1 hp (dpa_rev p1) h1 fun ds v F' H' q1 q2 q3 q4 => hQ ds v F' H' q1 q2 (e1.trans q3) q4⟩
  | _ => exact h1.elim
theorem rev_sh (h : revM x Q) (k : ∀ r, Q r → Φ r) : revM x Φ := by
  unfold revM at *
  split at h
  · exact k _ h
  · exact h.elim
end
theorem slL_sh {Q : KL} {Φ : List PyData → Prop} {lo hi : Option Int} (h : slLM x lo hi Q) (k : ∀ r, Q r → Φ r) : slLM x lo hi Φ := by
  unfold slLM at *
  split at h
  · exact k _ h
  · exact h.elim
theorem wn_slA {lo hi : Option Expr} {p2 : Pos} {Φ : List PyData → Prop} (h : WE X g a env (fun d1 _ => WP X g lo env (fun l => WP X g hi env (fun u => slLM d1 l u Φ) Ψ) Ψ) Ψ) : WN X g (.Subscript a (.Slice lo hi none p2) pos) env Φ Ψ := fun W tk σ F H st hx Q hQ => by
  refine semE_of (pe_slice sl_list (peS a) (poS lo) (poS hi)) ?_
  refine h W tk σ F H st hx _ fun d1 z1 v1 F1 H1 h1 st1 e1 r1 => ?_
  refine wp_run h1 tk st1 hx fun l F2 H2 h2 st2 e2 => wp_run h2 tk st2 hx fun u F3 H3 h3 st3 e3 => ?_
  cases d1 with
  | list xs =>
    have h3 : Φ (cut xs l u) := h3
    obtain ⟨a1, vs1, rfl, s1, p1⟩ := rd_lst st3.toSk (rd_mono (e2.trans e3) r1)
    exact ⟨a1, vs1, rfl, s1, fun p hp => put_new st3 hp (dpa_cut p1 l u) h3 fun ds v F' H' hp s e r => hQ ds v F' H' hp s (((e1.trans e2).trans e3).trans e) r⟩
  | _ => exact h3.elim
theorem sl_sh {Q : KD} {Φ : KD} {lo hi : Option Int} (h : slM x lo hi Q) (k : ∀ r, Q r → Φ r) : slM x lo hi Φ := by
  unfold slM at *
  split at h
  · exact k _ h
  · exact k _ h
  · exact ⟨h.1, k _ h.2⟩
  · exact h.elim
theorem we_slA {lo hi : Option Expr} {p2 : Pos} {Φ : PyData → Bool → Prop} (h : WE X g a env (fun d1 z => z = true ∧ WP X g lo env (fun l => WP X g hi env (fun u => slM d1 l u fun r => Φ r true) Ψ) Ψ) Ψ) : WE X g (.Subscript a (.Slice lo hi none p2) pos) env Φ Ψ := fun W tk σ F H st hx Q hQ => by
  refine semE_of (pe_slice (sl_list.or (sl_tupA.or sl_str)) (peS a) (poS lo) (poS hi)) ?_
  refine h W tk σ F H st hx _ fun d1 z1 v1 F1 H1 ⟨hz, h1⟩ st1 e1 r1 => ?_
  subst hz
  refine wp_run h1 tk st1 hx fun l F2 H2 h2 st2 e2 => wp_run h2 tk st2 hx fun u F3 H3 h3 st3 e3 => ?_
  have E := (e1.trans e2).trans e3
  have r3 := rd_mono (e2.trans e3) r1
  cases d1 with
  | list xs =>
    have h3 : Φ (.list (cut xs l u)) true := h3
    obtain ⟨a1, vs1, rfl, s1, p1⟩ := rd_lst st3.toSk r3
    exact .inl ⟨a1, vs1, rfl, s1, fun p hp => put_lst st3 hp (dpa_cut p1 l u) h3 fun d z v F' H' q1 q2 q3 q4 => hQ d z v F' H' q1 q2 (E.trans q3) q4⟩
  | tuple xs =>
    have h3 : Φ (.tuple (cut xs l u)) true := h3
    obtain ⟨a1, vs1, rfl, s1, p1⟩ := rd_tup st3.toSk r3
    refine .inr (.inl ⟨a1, vs1, rfl, s1, fun hw => ?_, fun _ p hp => put_tup st3 hp (dpa_cut p1 l u) h3 fun d z v F' H' q1 q2 q3 q4 => hQ d z v F' H' q1 q2 (E.trans q3) q4⟩)
    rw [dpa_len p1] at hw
    rw [cut_whole hw] at h3
    exact hQ _ true _ F3 H3 h3 st3 E r3
  | str s =>
    obtain ⟨hl, h3⟩ : s.length ≤ sizeLine ∧ Φ (.str (cutS s l u)) true := h3
    rw [rd_str r3]
    exact .inr (.inr ⟨s, rfl, hl, hQ _ true _ F3 H3 h3 st3 E (.str _)⟩)
  | _ => exact h3.elim
theorem into_sh {Q : Int → Prop} {Φ : Int → Prop} (h : intO x Q) (k : ∀ r, Q r → Φ r) : ∃ i, x = .int i ∧ Φ i := by
  unfold intO at h
  split at h
  · exact ⟨_, rfl, k _ h⟩
  · exact h.elim
/-! comparisons -/
section
variable {Q : KB} {Φ : KB}
theorem eq_sh (h : eqM x y Q) (k : ∀ b, Q b → Φ b) : ∃ b, CP K g env (rEqA K) x z1 y z2 b ∧ Φ b := by
  unfold eqM at h
  split at h
  · exact ⟨_, cp_eqI, k _ h⟩
  · exact ⟨_, cp_eqS, k _ h⟩
  · exact ⟨_, cp_eqB, k _ h⟩
  · exact ⟨_, cp_eqD h.1 h.2.1, k _ h.2.2⟩
theorem ne_sh (h : neM x y Q) (k : ∀ b, Q b → Φ b) : ∃ b, CP K g env (rNeA K) x z1 y z2 b ∧ Φ b := by
  unfold neM at h
  split at h
  · exact ⟨_, cp_neI, k _ h⟩
  · exact ⟨_, cp_neS, k _ h⟩
  · exact ⟨_, cp_neB, k _ h⟩
  · exact ⟨_, cp_neD h.1 h.2.1, k _ h.2.2⟩
theorem lt_sh (h : ltM x y Q) (k : ∀ b, Q b → Φ b) : ∃ b, CP K g env (rLtA K) x z1 y z2 b ∧ Φ b := by
  unfold ltM at h
  split at h
  · exact ⟨_, cp_lt, k _ h⟩
  · split at h
    · rename_i e1 e2
      rw [intsOf_eq e1, intsOf_eq e2]
      exact ⟨_, cp_ltT, k _ h⟩
    · exact h.elim
  · exact h.elim
abbrev rLeA (K : Frag) : R2 := fun x y H Q => (rI0 fun i j => .bl (decide (i ≤ j))) x y H Q ∨ rLeT K x y H Q
theorem op_leA {k : Nat} (hr : Room k X.A) : OpR X (compareOp .LtE) (rLeA X.K) := op_le.or (op_leT hr.units0)
theorem cp_leA {i j : Int} : CP K g env (rLeA K) (.int i) z1 (.int j) z2 (decide (i ≤ j)) := cp_l cp_le
theorem cp_leTA (ns ms : List Int) : CP K g env (rLeA K) (.tuple (ns.map .int)) z1 (.tuple (ms.map .int)) z2 (leTup ns ms) := cp_r fun σ F H v1 v2 st r1 r2 Q q => by
  obtain ⟨a1, vs1, rfl, s1, p1⟩ := rd_tup st.toSk r1
  obtain ⟨a2, vs2, rfl, s2, p2⟩ := rd_tup st.toSk r2
  rw [dpa_ints_eq p1] at s1
  rw [dpa_ints_eq p2] at s2
  exact ⟨a1, a2, ns, ms, rfl, rfl, s1, s2, q⟩
theorem le_sh (h : leM x y Q) (k : ∀ b, Q b → Φ b) : ∃ b, CP K g env (rLeA K) x z1 y z2 b ∧ Φ b := by
  unfold leM at h
  split at h
  · exact ⟨_, cp_leA, k _ h⟩
  · split at h
    · rename_i e1 e2
      rw [intsOf_eq e1, intsOf_eq e2]
      exact ⟨_, cp_leTA _ _, k _ h⟩
    · exact h.elim
  · exact h.elim
theorem gt_sh (h : gtM x y Q) (k : ∀ b, Q b → Φ b) : ∃ b, CP K g env (rI0 fun i j => .bl (decide (j < i))) x z1 y z2 b ∧ Φ b := by
  unfold gtM at h
  split at h
  · exact ⟨_, cp_gt, k _ h⟩
  · exact h.elim
theorem ge_sh (h : geM x y Q) (k : ∀ b, Q b → Φ b) : ∃ b, CP K g env (rI0 fun i j => .bl (decide (j ≤ i))) x z1 y z2 b ∧ Φ b := by
  unfold geM at h
  split at h
  · exact ⟨_, cp_ge, k _ h⟩
  · exact h.elim
theorem flAll_dp : ∀ {ds : List PyData} {vs xs : List V}, flAll ds = some xs → DqAll K F vs ds → vs = xs
  | [], _, _, h, q => by cases q; cases h; rfl
  | d :: r, _, _, h, q => by
    cases q with
    | cons q1 q2 =>
      unfold flAll at h
      split at h
      · rename_i e1 e2
        cases h
        rw [fl_dp q1 e1, flAll_dp e2 q2]
      · cases h
theorem flAll_flat : ∀ {ds : List PyData} {xs : List V}, flAll ds = some xs → xs.all flatV = true
  | [], _, h => by cases h; rfl
  | d :: r, _, h => by
    unfold flAll at h
    split at h
    · rename_i e1 e2
      cases h
      rw [List.all_cons, fl_flat e1, flAll_flat e2]; rfl
    · cases h
theorem in_sh (h : inM x y Q) (k : ∀ b, Q b → Φ b) : ∃ b, CP K g env (rInA K) x z1 y z2 b ∧ Φ b := by
  cases y with
  | list ds =>
    have h : inLstM x ds Q := h
    unfold inLstM at h
    split at h
    · rename_i v vs e1 e2
      refine ⟨_, cp_l fun σ F H v1 v2 st r1 r2 Q q => ?_, k _ h⟩
      obtain ⟨a2, vs2, rfl, s2, p2⟩ := rd_lst st.toSk r2
      have e3 := fl_dp (rd_now st.toSk r1) e1
      have e4 := flAll_dp e2 p2
      subst e3 e4
      exact ⟨a2, vs2, rfl, .inl s2, fl_flat e1, flAll_flat e2, q⟩
    · exact ⟨_, cp_inD h.1 h.2.1, k _ h.2.2⟩
  | tuple ds =>
    have h : inTupM x ds Q := h
    unfold inTupM at h
    split at h
    · rename_i v vs e1 e2
      refine ⟨_, cp_l fun σ F H v1 v2 st r1 r2 Q q => ?_, k _ h⟩
      obtain ⟨a2, vs2, rfl, s2, p2⟩ := rd_tup st.toSk r2
      have e3 := fl_dp (rd_now st.toSk r1) e1
      have e4 := flAll_dp e2 p2
      subst e3 e4
      exact ⟨a2, vs2, rfl, .inr s2, fl_flat e1, flAll_flat e2, q⟩
    · exact h.elim
  | str t =>
    cases x with
    | str s => exact ⟨_, cp_inS, k _ h⟩
    | _ => exact (show False from h).elim
  | _ => exact (show False from h).elim
theorem notIn_sh (h : notInM x y Q) (k : ∀ b, Q b → Φ b) : ∃ b, CP K g env (rNotInA K) x z1 y z2 b ∧ Φ b := by
  cases y with
  | list ds =>
    have h : inLstM x ds (fun b => Q (!b)) := h
    unfold inLstM at h
    split at h
    · rename_i v vs e1 e2
      refine ⟨_, cp_l fun σ F H v1 v2 st r1 r2 Q q => ?_, k _ h⟩
      obtain ⟨a2, vs2, rfl, s2, p2⟩ := rd_lst st.toSk r2
      have e3 := fl_dp (rd_now st.toSk r1) e1
      have e4 := flAll_dp e2 p2
      subst e3 e4
      exact ⟨a2, vs2, rfl, .inl s2, fl_flat e1, flAll_flat e2, q⟩
    · exact ⟨_, cp_notInD h.1 h.2.1, k _ h.2.2⟩
  | tuple ds =>
    have h : inTupM x ds (fun b => Q (!b)) := h
    unfold inTupM at h
    split at h
    · rename_i v vs e1 e2
      refine ⟨_, cp_l fun σ F H v1 v2 st r1 r2 Q q => ?_, k _ h⟩
      obtain ⟨a2, vs2, rfl, s2, p2⟩ := rd_tup st.toSk r2
      have e3 := fl_dp (rd_now st.toSk r1) e1
      have e4 := flAll_dp e2 p2
      subst e3 e4
      exact ⟨a2, vs2, rfl, .inr s2, fl_flat e1, flAll_flat e2, q⟩
    · exact h.elim
  | str t =>
    cases x with
    | str s => exact ⟨_, cp_notInS, k _ h⟩
    | _ => exact (show False from h).elim
  | _ => exact (show False from h).elim
theorem isN_sh (k : Φ (isNone x)) : ∃ b, CP K g env rIsN x z1 .none z2 b ∧ Φ b := ⟨_, cp_isN, k⟩
theorem notN_sh (k : Φ (!isNone x)) : ∃ b, CP K g env rNotN x z1 .none z2 b ∧ Φ b := ⟨_, cp_notN, k⟩
end
/-! and, or, if .. else, chains: by ways -/
section
variable {ma mb mt : KB → Prop} {Q : KB} {Φ : KB}
theorem WW.mono {Φ' : Bool → Prop} (h : WW X g e env Φ Ψ) (k : ∀ d, Φ d → Φ' d) : WW X g e env Φ' Ψ :=
  fun W tk σ F H st hx Q hQ => h W tk σ F H st hx Q fun b F' H' p => hQ b F' H' (k b p)
theorem ww_andS {re : List Expr} (h : andM ma mb Q) (ha : ∀ Q, ma Q → WT X g a env Q Ψ) (hb : ∀ Q, mb Q → WW X g (.BoolOp .And (b :: re) pos) env Q Ψ) (k : ∀ r, Q r → Φ r) : WW X g (.BoolOp .And (a :: b :: re) pos) env Φ Ψ :=
  ww_and ((ha _ h).mono fun r ⟨h1, h2⟩ => ⟨fun e => (hb _ (h1 e)).mono k, fun e => k _ (h2 e)⟩)
theorem ww_orS {re : List Expr} (h : orM ma mb Q) (ha : ∀ Q, ma Q → WT X g a env Q Ψ) (hb : ∀ Q, mb Q → WW X g (.BoolOp .Or (b :: re) pos) env Q Ψ) (k : ∀ r, Q r → Φ r) : WW X g (.BoolOp .Or (a :: b :: re) pos) env Φ Ψ :=
  ww_or ((ha _ h).mono fun r ⟨h1, h2⟩ => ⟨fun e => k _ (h1 e), fun e => (hb _ (h2 e)).mono k⟩)
theorem we_andS {re : List Expr} {Φ : PyData → Bool → Prop} (h : andM ma mb Q) (ha : ∀ Q, ma Q → WE X g a env (fun d _ => ∃ k, d = .bool k ∧ Q k) Ψ) (hb : ∀ Q, mb Q → WE X g (.BoolOp .And (b :: re) pos) env (fun d _ => ∃ k, d = .bool k ∧ Q k) Ψ) (k : ∀ r, Q r → Φ (.bool r) true) : WE X g (.BoolOp .And (a :: b :: re) pos) env Φ Ψ :=
  we_and ((ha _ h).mono fun d z ⟨r, hd, h1, h2⟩ => ⟨r, hd, fun e => by
    intro W tk σ F H st hx Q' hQ'
    refine hb _ (h1 e) W tk σ F H st hx Q' fun d z v F' H' ⟨r2, hd2, h3⟩ s1 e1 r1 => ?_
    subst hd2
    have := rd_bl r1
    subst this
    exact hQ' _ true _ F' H' (k _ h3) s1 e1 (.bl _), fun e => k _ (h2 e)⟩)
theorem we_orS {re : List Expr} {Φ : PyData → Bool → Prop} (h : orM ma mb Q) (ha : ∀ Q, ma Q → WE X g a env (fun d _ => ∃ k, d = .bool k ∧ Q k) Ψ) (hb : ∀ Q, mb Q → WE X g (.BoolOp .Or (b :: re) pos) env (fun d _ => ∃ k, d = .bool k ∧ Q k) Ψ) (k : ∀ r, Q r → Φ (.bool r) true) : WE X g (.BoolOp .Or (a :: b :: re) pos) env Φ Ψ :=
  we_or ((ha _ h).mono fun d z ⟨r, hd, h1, h2⟩ => ⟨r, hd, fun e => k _ (h1 e), fun e => by
    intro W tk σ F H st hx Q' hQ'
    refine hb _ (h2 e) W tk σ F H st hx Q' fun d z v F' H' ⟨r2, hd2, h3⟩ s1 e1 r1 => ?_
    subst hd2
    have := rd_bl r1
    subst this
    exact hQ' _ true _ F' H' (k _ h3) s1 e1 (.bl _)⟩)
theorem we_ifS {m1 m2 : KD → Prop} {Q : KD} {Φ : PyData → Bool → Prop} (h : ifM mt m1 m2 Q) (ht : ∀ Q, mt Q → WT X g c env Q Ψ) (h1 : ∀ Q, m1 Q → WE X g a env (fun d z => z = true ∧ Q d) Ψ) (h2 : ∀ Q, m2 Q → WE X g b env (fun d z => z = true ∧ Q d) Ψ) (k : ∀ d, Q d → Φ d true) : WE X g (.IfExp c a b pos) env Φ Ψ :=
  we_if ((ht _ h).mono fun r ⟨q1, q2⟩ => ⟨fun e => (h1 _ (q1 e)).mono fun d z ⟨hz, hd⟩ => hz ▸ k d hd, fun e => (h2 _ (q2 e)).mono fun d z ⟨hz, hd⟩ => hz ▸ k d hd⟩)
theorem ch_sh {r : R2} {d1 : PyData} {z1 : Bool} {G : Bool → Prop → Prop → Prop} {cond : Bool → Prop} {rest : Prop} (h : andM ma mb Q) (h1 : ∀ Q, ma Q → ∃ k, cond k ∧ Q k) (h2 : mb Q → rest) (h3 : Q false → Φ false) : ∃ k, cond k ∧ (k = true → rest) ∧ (k = false → Φ false) := by
  obtain ⟨k, hk, q1, q2⟩ := h1 _ h
  exact ⟨k, hk, fun e => h2 (q1 e), fun e => h3 (q2 e)⟩
end
/-! loops -/
section
variable {t : TG} {A : PyData → Option (List (Nat × PyData))} {τ υ : Type}
theorem forS {bd : PyData → τ → (τ → Prop) → (τ → Prop) → Prop} {Q : τ → Prop} {xs : List PyData} {s0 : τ} (h : forM bd Q xs s0) (mk : τ → υ → List Sl) (u0 : υ) (h0 : env = mk s0 u0) (hend : ∀ s u, Q s → P.nx (mk s u))
    (hturn : (∀ s u, Q s → P.nx (mk s u)) → ∀ x s u (N : τ → Prop), bd x s N Q → ∃ l, A x = some l ∧ (l.all fun q => Nat.blt q.1 (mk s u).length) = true ∧ WS X g body (putsE (mk s u) l) (P.turn fun e => ∃ s' u', N s' ∧ e = mk s' u')) :
    ∃ Pv : Nat → List Sl → Prop, Pv 0 env ∧ (∀ i x, xs[i]? = some x → FT X g body A P Pv i x) ∧ ∀ e, Pv xs.length e → P.nx e := by
  refine ⟨fun i e => ∃ s u, forM bd Q (xs.drop i) s ∧ e = mk s u, ⟨s0, u0, h, h0⟩, fun i x hx e ⟨s, u, hf, he⟩ => ?_, fun e ⟨s, u, hf, he⟩ => ?_⟩
  · subst he
    have hi := (List.getElem?_eq_some_iff.mp hx).1
    have ed : xs.drop i = x :: xs.drop (i + 1) := by
      rw [List.drop_eq_getElem_cons hi]
      congr 1
      exact (List.getElem?_eq_some_iff.mp hx).2
    rw [ed] at hf
    obtain ⟨l, h1, h2, h3⟩ := hturn hend x s u _ hf
    exact ⟨l, h1, h2, h3⟩
  · subst he
    rw [List.drop_length] at hf
    exact hend s u hf
theorem whileS {st : τ → (τ → Prop) → (τ → Prop) → Prop} {Q : τ → Prop} {s0 : τ} (h : ∃ n, whileM st Q n s0) (hp : PassesOwn (model X.prog X.w) X.A X.env X.xe) (mk : τ → υ → List Sl) (u0 : υ) (h0 : env = mk s0 u0) (hend : ∀ s u, Q s → P.nx (mk s u))
    (hturn : (∀ s u, Q s → P.nx (mk s u)) → ∀ s u (N : τ → Prop), st s N Q → WT X g c (mk s u) (fun k => (k = true → WS X g body (mk s u) (P.turn fun e => ∃ s' u', N s' ∧ e = mk s' u')) ∧ (k = false → P.nx (mk s u))) (fun c => P.ex c (mk s u))) : W1 X g (.While c body [] pos) env P := by
  obtain ⟨n, h⟩ := h
  refine w1_while hp (fun m e => ∃ s u, whileM st Q m s ∧ e = mk s u) n ⟨s0, u0, h, h0⟩ fun m e ⟨s, u, hw, he⟩ => ?_
  subst he
  cases m with
  | zero => exact hw.elim
  | succ m =>
    refine (hturn hend s u _ hw).mono fun k ⟨h1, h2⟩ => ⟨fun e => ?_, h2⟩
    exact (h1 e).mono (fun e ⟨s', u', h3, h4⟩ => ⟨m, Nat.lt_succ_self _, s', u', h3, h4⟩) (fun _ _ h => h) (fun _ h => h) (fun e ⟨s', u', h3, h4⟩ => ⟨m, Nat.lt_succ_self _, s', u', h3, h4⟩) (fun _ _ h => h)
theorem lcS {bd : PyData → KD → Prop → Prop} {Q : KL} {xs : List PyData} {scope : Scope} {ifs : List Expr} {elt : Expr} {vs : List Nat} {Φ : List PyData → Prop} (h : lcM bd Q xs []) 
    (ht : ∀ x (kp : KD) (sk : Prop), bd x kp sk → ∃ l, A x = some l ∧ (l.all fun q => vs.elem q.1 && Nat.blt q.1 env.length) = true ∧ ∀ (g' : G) s H0 C cl fp, WTs (BX X scope s H0 C cl fp) g' ifs (putsE (wipeE env vs) l) (fun b =>
      (b = true → ∀ s H0 C cl fp, WE (BX X scope s H0 C cl fp) g' elt (putsE (wipeE env vs) l) (fun y z => z = true ∧ kp y) (fun _ => False)) ∧ (b = false → sk))) (k : ∀ acc, Q acc → Φ acc) :
    ∃ Pv : Nat → List PyData → Prop, Pv 0 [] ∧ (∀ i x, xs[i]? = some x → LT2 X env scope ifs elt vs A Pv i x) ∧ ∀ acc, Pv xs.length acc → Φ acc := by
  refine ⟨fun i acc => lcM bd Q (xs.drop i) acc, h, fun i x hx acc hq => ?_, fun acc hq => k acc (by
    have hq : lcM bd Q (xs.drop xs.length) acc := hq
    rw [List.drop_length] at hq; exact hq)⟩
  have hi := (List.getElem?_eq_some_iff.mp hx).1
  have ed : xs.drop i = x :: xs.drop (i + 1) := by
    rw [List.drop_eq_getElem_cons hi]
    congr 1
    exact (List.getElem?_eq_some_iff.mp hx).2
  have hq : lcM bd Q (xs.drop i) acc := hq
  rw [ed] at hq
  exact ht x _ _ hq
end
/-- behind ways that come together -/
theorem ws_joinS {τ υ : Type} {st : Stmt} {bd : (τ → Prop) → Prop} {Q : τ → Prop} (h : joinM bd Q) (mk : τ → υ → List Sl) (h1 : ∀ Q, bd Q → W1 X g st env (P.thn fun e => ∃ s u, Q s ∧ e = mk s u)) (h2 : ∀ s u, Q s → WS X g rest (mk s u) P) : WS X g (st :: rest) env P :=
  ws_mid (fun e => ∃ s u, Q s ∧ e = mk s u) (h1 Q h) fun e ⟨s, u, hq, he⟩ => he ▸ h2 s u hq
end
end TL

namespace TL
open PySem PySem.Spec PyProof.Rows L2
def setM (ds : List PyData) : PyData → PyData → KL → Prop
  | .int n, v, K => match ixN ds.length n with
    | some j => K (ds.set j v)
    | none => False
  | _, _, _ => False
def keyA : PyData → Option Key
  | .int i => some (.inl i)
  | .str s => some (.inr s)
  | _ => none
def keyAs : List PyData → Option (List Key)
  | [] => some []
  | d :: r => match keyA d, keyAs r with
    | some k, some l => some (k :: l)
    | _, _ => none
def keyT : PyData → Option (List Key)
  | .tuple xs => keyAs xs
  | _ => none
def getTM (kvs : List (List Key × PyData)) (key : PyData) (K : KD) : Prop := match keyT key with
  | some k => match valP kvs k with
    | some d => K d
    | none => False
  | none => False
def getKM (kvs : List (Key × PyData)) (key : PyData) (K : KD) : Prop := match keyA key with
  | some k => match valP kvs k with
    | some d => K d
    | none => False
  | none => False
def inTM (kvs : List (List Key × PyData)) (key : PyData) (K : KB) : Prop := match keyT key with
  | some k => K (valP kvs k).isSome
  | none => False
def inKM (kvs : List (Key × PyData)) (key : PyData) (K : KB) : Prop := match keyA key with
  | some k => K (valP kvs k).isSome
  | none => False
def putTM (kvs : List (List Key × PyData)) (key v : PyData) (K : List (List Key × PyData) → Prop) : Prop := match keyT key with
  | some k => kvs.length < sizeLine ∧ K (putP kvs k v)
  | none => False
def putKM (kvs : List (Key × PyData)) (key v : PyData) (K : List (Key × PyData) → Prop) : Prop := match keyA key with
  | some k => kvs.length < sizeLine ∧ K (putP kvs k v)
  | none => False
def keysT (kvs : List (List Key × PyData)) : List PyData := kvs.map fun kv => .tuple (kv.1.map kD)
theorem keyA_eq {d : PyData} {k : Key} (h : keyA d = some k) : d = kD k := by
  unfold keyA at h
  split at h
  · cases h; rfl
  · cases h; rfl
  · cases h
theorem keyAs_eq : ∀ {ds : List PyData} {k : List Key}, keyAs ds = some k → ds = k.map kD
  | [], _, h => by cases h; rfl
  | d :: r, _, h => by
    unfold keyAs at h
    split at h
    · rename_i e1 e2
      cases h
      rw [keyA_eq e1, keyAs_eq e2]; rfl
    · cases h
theorem keyT_eq {d : PyData} {k : List Key} (h : keyT d = some k) : d = .tuple (k.map kD) := by
  unfold keyT at h
  split at h
  · rw [keyAs_eq h]
  · cases h
section
variable {X : Cx} {g : G} {env env' : List Sl} {Ψ : Exc → Prop} {P : Po} {pos p lp : Pos} {a b c e tg iter : Expr} {es : List Expr} {rest body : List Stmt} {K : Frag} {F F' H H' : Hp} {σ σ' : SS} {x y : PyData} {z1 z2 : Bool}
theorem into_ob {Q : Int → Prop} (h : intO x Q) : ∃ i, x = .int i ∧ Q i := into_sh h fun _ h => h
theorem bool_ob {Q : KB} (h : boolM x Q) : ∃ b, x = .bool b ∧ Q b := bool_sh h fun _ h => h
theorem rng_sh {lo hi : PyData} {Q Φ : KL} (h : rngM lo hi Q) (k : ∀ r, Q r → Φ r) : rngM lo hi Φ := by
  unfold rngM at *
  split at h
  · exact ⟨h.1, k _ h.2⟩
  · exact h.elim
theorem enu_sh {Q Φ : KL} (h : enuM x Q) (k : ∀ r, Q r → Φ r) : enuM x Φ := by
  unfold enuM at *
  split at h
  · exact k _ h
  · exact k _ h
  · exact h.elim
theorem it_sh {Q Φ : KL} (h : itM x Q) (k : ∀ r, Q r → Φ r) : itM x Φ := by
  unfold itM at *
  split at h
  · exact k _ h
  · exact k _ h
  · exact ⟨h.1, k _ h.2⟩
  · exact h.elim
theorem setix_sh {ds : List PyData} {Q Φ : KL} (h : setM ds x y Q) (k : ∀ r, Q r → Φ r) : ∃ n j, x = .int n ∧ ixN ds.length n = some j ∧ Φ (ds.set j y) := by
  unfold setM at h
  split at h
  · split at h
    · rename_i e; exact ⟨_, _, rfl, e, k _ h⟩
    · exact h.elim
  · exact h.elim
theorem ch_sh2 {ma mb : KB → Prop} {Q Φ : KB} {r r' : R2} (h : andM ma mb Q) (h1 : ∀ Q, ma Q → ∃ k, CP X.K g env r x z1 y z2 k ∧ Q k) (h2 : ∀ Q, mb Q → WE X g c env (fun d3 z3 => ∃ k', CP X.K g env r' y z2 d3 z3 k' ∧ Q k') Ψ) (k : ∀ b, Q b → Φ b) :
    ∃ k, CP X.K g env r x z1 y z2 k ∧ (k = true → WE X g c env (fun d3 z3 => ∃ k', CP X.K g env r' y z2 d3 z3 k' ∧ Φ k') Ψ) ∧ (k = false → Φ false) := by
  obtain ⟨b, hb, q1, q2⟩ := h1 _ h
  exact ⟨b, hb, fun e => (h2 _ (q1 e)).mono fun d z ⟨k', c1, c2⟩ => ⟨k', c1, k _ c2⟩, fun e => k _ (q2 e)⟩
/-! dicts -/
theorem kvp_val {κ : Type} [DecidableEq κ] {k : κ} : ∀ {xs : List (κ × V)} {kvs : List (κ × PyData)}, KVp K F xs kvs → (∀ d, valP kvs k = some d → ∃ v, valV xs k = some v ∧ Dq K F v d) ∧ (valV xs k).isSome = (valP kvs k).isSome
  | _, _, .nil => ⟨fun d h => (by cases h), rfl⟩
  | p :: xs, q :: kvs, .cons r t => by
    obtain ⟨i1, i2⟩ := kvp_val (k := k) t
    unfold valV valP
    rw [List.find?_cons, List.find?_cons, r.1]
    by_cases h : q.1 = k
    · rw [decide_eq_true h]
      refine ⟨fun d hd => ?_, rfl⟩
      have e : q.2 = d := Option.some.inj hd
      exact ⟨p.2, rfl, e ▸ r.2⟩
    · rw [decide_eq_false h]
      exact ⟨i1, i2⟩
section
variable {kT : List (List Key × PyData)} {kA : List (Key × PyData)} {key v : PyData}
theorem getT_sh {Q : KD} {Φ : PyData → Bool → Prop} (h : getTM kT key Q) (k : ∀ r, Q r → Φ r true) : ∃ q, keyT key = some q ∧ ∃ d, valP kT q = some d ∧ Φ d true := by
  unfold getTM at h
  split at h
  · rename_i e1
    split at h
    · rename_i e2; exact ⟨_, e1, _, e2, k _ h⟩
    · exact h.elim
  · exact h.elim
theorem getK_sh {Q : KD} {Φ : PyData → Bool → Prop} (h : getKM kA key Q) (k : ∀ r, Q r → Φ r true) : ∃ q, keyA key = some q ∧ ∃ d, valP kA q = some d ∧ Φ d true := by
  unfold getKM at h
  split at h
  · rename_i e1
    split at h
    · rename_i e2; exact ⟨_, e1, _, e2, k _ h⟩
    · exact h.elim
  · exact h.elim
theorem inT_sh {Q Φ : KB} (h : inTM kT key Q) (k : ∀ r, Q r → Φ r) : ∃ q, keyT key = some q ∧ Φ (valP kT q).isSome := by
  unfold inTM at h
  split at h
  · rename_i e1; exact ⟨_, e1, k _ h⟩
  · exact h.elim
theorem inK_sh {Q Φ : KB} (h : inKM kA key Q) (k : ∀ r, Q r → Φ r) : ∃ q, keyA key = some q ∧ Φ (valP kA q).isSome := by
  unfold inKM at h
  split at h
  · rename_i e1; exact ⟨_, e1, k _ h⟩
  · exact h.elim
theorem notInT_sh {Q Φ : KB} (h : inTM kT key Q) (k : ∀ r, Q r → Φ (!r)) : ∃ q, keyT key = some q ∧ Φ (!(valP kT q).isSome) := inT_sh (Φ := fun r => Φ (!r)) h k
theorem notInK_sh {Q Φ : KB} (h : inKM kA key Q) (k : ∀ r, Q r → Φ (!r)) : ∃ q, keyA key = some q ∧ Φ (!(valP kA q).isSome) := inK_sh (Φ := fun r => Φ (!r)) h k
theorem putT_sh {Q Φ : List (List Key × PyData) → Prop} (h : putTM kT key v Q) (k : ∀ r, Q r → Φ r) : ∃ q, keyT key = some q ∧ kT.length < sizeLine ∧ Φ (putP kT q v) := by
  unfold putTM at h
  split at h
  · rename_i e1; exact ⟨_, e1, h.1, k _ h.2⟩
  · exact h.elim
theorem putK_sh {Q Φ : List (Key × PyData) → Prop} (h : putKM kA key v Q) (k : ∀ r, Q r → Φ r) : ∃ q, keyA key = some q ∧ kA.length < sizeLine ∧ Φ (putP kA q v) := by
  unfold putKM at h
  split at h
  · rename_i e1; exact ⟨_, e1, h.1, k _ h.2⟩
  · exact h.elim
end
section
variable {k0 : Nat} {xn : Str} {q tpos : Pos} {al : Addr}
theorem keyT_dp {v : V} {k : List Key} {d : PyData} (h : Dq K F v d) (e : keyT d = some k) : ∃ t, v = .ref t ∧ F t = some (.tup (k.map kV)) := by
  rw [keyT_eq e] at h
  obtain ⟨t, xs, rfl, h1, h2⟩ := dp_tup' h
  rw [keys_eq h2] at h1
  exact ⟨t, rfl, h1⟩
theorem keyA_dp {v : V} {k : Key} {d : PyData} (h : Dq K F v d) (e : keyA d = some k) : v = kV k := key_eq (keyA_eq e ▸ h)
theorem we_getT (i : Nat) {kvs : List (List Key × PyData)} {Φ : PyData → Bool → Prop} (hr : Room k0 X.A) (he : env[i]? = some (.dt al kvs) := by rfl) (h : WE X g a env (fun kd z => z = true ∧ ∃ k, keyT kd = some k ∧ ∃ d, valP kvs k = some d ∧ Φ d true) Ψ) (hN : X.N[i]? = some xn := by rfl)
    (hv : Vis X.env.scope xn := by first | exact Or.inl rfl | exact Or.inr (Or.inl rfl) | exact Or.inr (Or.inr rfl)) (hd : (xn == ("__debug__" : Str)) = false := by decide)
    (hcd : (xn == ("__classdict__" : Str)) = false := by decide) (hs : NoSl a := by exact fun _ _ => rfl) : WE X g (.Subscript (.Name xn q) a pos) env Φ Ψ := fun W tk σ F H st hx Q hQ => by
  refine semE_of (pe_dget (by have := hr.units; omega) (pe_var hN hv hd hcd) (peS a) hs) ?_
  obtain ⟨h1, vs, h2, h3⟩ := st.sl i _ he
  refine ⟨_, getD_some h1, ?_⟩
  refine h W tk σ F H st hx _ fun kd z v F1 H1 ⟨hz, k, hk, d, hd, hp⟩ s1 e1 r1 => ?_
  subst hz
  obtain ⟨t, rfl, ht⟩ := keyT_dp r1 hk
  obtain ⟨_, vs', h2', h3'⟩ := s1.sl i _ he
  obtain ⟨w, hw, dw⟩ := (kvp_val h3').1 d hd
  exact ⟨al, w, rfl, hw ▸ DGet.t h2' (s1.ex _ _ ht), hQ d true w F1 H1 hp s1 e1 dw⟩
theorem we_getK (i : Nat) {kvs : List (Key × PyData)} {Φ : PyData → Bool → Prop} (hr : Room k0 X.A) (he : env[i]? = some (.dk al kvs) := by rfl) (h : WE X g a env (fun kd z => z = true ∧ ∃ k, keyA kd = some k ∧ ∃ d, valP kvs k = some d ∧ Φ d true) Ψ) (hN : X.N[i]? = some xn := by rfl)
    (hv : Vis X.env.scope xn := by first | exact Or.inl rfl | exact Or.inr (Or.inl rfl) | exact Or.inr (Or.inr rfl)) (hd : (xn == ("__debug__" : Str)) = false := by decide)
    (hcd : (xn == ("__classdict__" : Str)) = false := by decide) (hs : NoSl a := by exact fun _ _ => rfl) : WE X g (.Subscript (.Name xn q) a pos) env Φ Ψ := fun W tk σ F H st hx Q hQ => by
  refine semE_of (pe_dget (by have := hr.units; omega) (pe_var hN hv hd hcd) (peS a) hs) ?_
  obtain ⟨h1, vs, h2, h3⟩ := st.sl i _ he
  refine ⟨_, getD_some h1, ?_⟩
  refine h W tk σ F H st hx _ fun kd z v F1 H1 ⟨hz, k, hk, d, hd, hp⟩ s1 e1 r1 => ?_
  subst hz
  have hv := keyA_dp r1 hk
  subst hv
  obtain ⟨_, vs', h2', h3'⟩ := s1.sl i _ he
  obtain ⟨w, hw, dw⟩ := (kvp_val h3').1 d hd
  exact ⟨al, w, rfl, hw ▸ DGet.k h2', hQ d true w F1 H1 hp s1 e1 dw⟩
theorem wt_inT (i : Nat) {kvs : List (List Key × PyData)} {Φ : KB} (hr : Room k0 X.A) (he : env[i]? = some (.dt al kvs) := by rfl) (h : WE X g a env (fun kd z => z = true ∧ ∃ k, keyT kd = some k ∧ Φ (valP kvs k).isSome) Ψ) (hN : X.N[i]? = some xn := by rfl)
    (hv : Vis X.env.scope xn := by first | exact Or.inl rfl | exact Or.inr (Or.inl rfl) | exact Or.inr (Or.inr rfl)) (hd : (xn == ("__debug__" : Str)) = false := by decide)
    (hcd : (xn == ("__classdict__" : Str)) = false := by decide) (hm : behindInMarks .In (.Name xn q) = false := by first | exact nomark _ | rfl) : WT X g (.Compare a [.In] [.Name xn q] pos) env Φ Ψ := fun W tk σ F H st hx Q hQ => by
  refine semT_of (pt_cmp (pc_din (by have := hr.units; omega) (peS a) (pe_var hN hv hd hcd)) hm) ?_
  refine h W tk σ F H st hx _ fun kd z v F1 H1 ⟨hz, k, hk, hp⟩ s1 e1 r1 => ?_
  subst hz
  obtain ⟨t, rfl, ht⟩ := keyT_dp r1 hk
  obtain ⟨h1, vs', h2', h3'⟩ := s1.sl i _ he
  refine ⟨_, getD_some h1, al, valV vs' k, rfl, DGet.t h2' (s1.ex _ _ ht), _, rfl, ?_⟩
  rw [(kvp_val h3').2]
  exact hQ _ F1 H1 hp s1 e1
theorem wt_notInT (i : Nat) {kvs : List (List Key × PyData)} {Φ : KB} (hr : Room k0 X.A) (he : env[i]? = some (.dt al kvs) := by rfl) (h : WE X g a env (fun kd z => z = true ∧ ∃ k, keyT kd = some k ∧ Φ (!(valP kvs k).isSome)) Ψ) (hN : X.N[i]? = some xn := by rfl)
    (hv : Vis X.env.scope xn := by first | exact Or.inl rfl | exact Or.inr (Or.inl rfl) | exact Or.inr (Or.inr rfl)) (hd : (xn == ("__debug__" : Str)) = false := by decide)
    (hcd : (xn == ("__classdict__" : Str)) = false := by decide) (hm : behindInMarks .NotIn (.Name xn q) = false := by first | exact nomark _ | rfl) : WT X g (.Compare a [.NotIn] [.Name xn q] pos) env Φ Ψ := fun W tk σ F H st hx Q hQ => by
  refine semT_of (pt_cmp (pc_dnotin (by have := hr.units; omega) (peS a) (pe_var hN hv hd hcd)) hm) ?_
  refine h W tk σ F H st hx _ fun kd z v F1 H1 ⟨hz, k, hk, hp⟩ s1 e1 r1 => ?_
  subst hz
  obtain ⟨t, rfl, ht⟩ := keyT_dp r1 hk
  obtain ⟨h1, vs', h2', h3'⟩ := s1.sl i _ he
  refine ⟨_, getD_some h1, al, valV vs' k, rfl, DGet.t h2' (s1.ex _ _ ht), _, rfl, ?_⟩
  rw [(kvp_val h3').2]
  exact hQ _ F1 H1 hp s1 e1
theorem wt_inK (i : Nat) {kvs : List (Key × PyData)} {Φ : KB} (hr : Room k0 X.A) (he : env[i]? = some (.dk al kvs) := by rfl) (h : WE X g a env (fun kd z => z = true ∧ ∃ k, keyA kd = some k ∧ Φ (valP kvs k).isSome) Ψ) (hN : X.N[i]? = some xn := by rfl)
    (hv : Vis X.env.scope xn := by first | exact Or.inl rfl | exact Or.inr (Or.inl rfl) | exact Or.inr (Or.inr rfl)) (hd : (xn == ("__debug__" : Str)) = false := by decide)
    (hcd : (xn == ("__classdict__" : Str)) = false := by decide) (hm : behindInMarks .In (.Name xn q) = false := by first | exact nomark _ | rfl) : WT X g (.Compare a [.In] [.Name xn q] pos) env Φ Ψ := fun W tk σ F H st hx Q hQ => by
  refine semT_of (pt_cmp (pc_din (by have := hr.units; omega) (peS a) (pe_var hN hv hd hcd)) hm) ?_
  refine h W tk σ F H st hx _ fun kd z v F1 H1 ⟨hz, k, hk, hp⟩ s1 e1 r1 => ?_
  subst hz
  have hv := keyA_dp r1 hk
  subst hv
  obtain ⟨h1, vs', h2', h3'⟩ := s1.sl i _ he
  refine ⟨_, getD_some h1, al, valV vs' k, rfl, DGet.k h2', _, rfl, ?_⟩
  rw [(kvp_val h3').2]
  exact hQ _ F1 H1 hp s1 e1
theorem wt_notInK (i : Nat) {kvs : List (Key × PyData)} {Φ : KB} (hr : Room k0 X.A) (he : env[i]? = some (.dk al kvs) := by rfl) (h : WE X g a env (fun kd z => z = true ∧ ∃ k, keyA kd = some k ∧ Φ (!(valP kvs k).isSome)) Ψ) (hN : X.N[i]? = some xn := by rfl)
    (hv : Vis X.env.scope xn := by first | exact Or.inl rfl | exact Or.inr (Or.inl rfl) | exact Or.inr (Or.inr rfl)) (hd : (xn == ("__debug__" : Str)) = false := by decide)
    (hcd : (xn == ("__classdict__" : Str)) = false := by decide) (hm : behindInMarks .NotIn (.Name xn q) = false := by first | exact nomark _ | rfl) : WT X g (.Compare a [.NotIn] [.Name xn q] pos) env Φ Ψ := fun W tk σ F H st hx Q hQ => by
  refine semT_of (pt_cmp (pc_dnotin (by have := hr.units; omega) (peS a) (pe_var hN hv hd hcd)) hm) ?_
  refine h W tk σ F H st hx _ fun kd z v F1 H1 ⟨hz, k, hk, hp⟩ s1 e1 r1 => ?_
  subst hz
  have hv := keyA_dp r1 hk
  subst hv
  obtain ⟨h1, vs', h2', h3'⟩ := s1.sl i _ he
  refine ⟨_, getD_some h1, al, valV vs' k, rfl, DGet.k h2', _, rfl, ?_⟩
  rw [(kvp_val h3').2]
  exact hQ _ F1 H1 hp s1 e1
theorem w1_storeTA (i : Nat) {kvs : List (List Key × PyData)} (hr : Room k0 X.A) (he : env[i]? = some (.dt al kvs) := by rfl)
    (h : WE X g e env (fun d z => z = true ∧ WE X g a env (fun kd z => z = true ∧ ∃ k, keyT kd = some k ∧ kvs.length < sizeLine ∧ P.nx (env.set i (.dt al (putP kvs k d)))) (fun c => P.ex c env)) (fun c => P.ex c env)) (hN : X.N[i]? = some xn := by rfl)
    (hv : Vis X.env.scope xn := by first | exact Or.inl rfl | exact Or.inr (Or.inl rfl) | exact Or.inr (Or.inr rfl)) (hd : (xn == ("__debug__" : Str)) = false := by decide)
    (hcd : (xn == ("__classdict__" : Str)) = false := by decide)
    (hs : swapsWith e (some (.Subscript (.Name xn q) a tpos)) pos.line X.env = pure false := by rfl) : W1 X g (.Assign [.Subscript (.Name xn q) a tpos] e pos) env P := fun W tk hx2 σ F H s0 D hD => by
  refine semP_of (ps_dput (by have := hr.units; omega) (pe_var hN hv hd hcd) (peS a) (peS e) hs) ?_
  refine h W tk σ F H s0 (hx2.hx env σ) _ fun d z v F1 H1 ⟨hz, hw⟩ s1 e1 r1 => ?_
  subst hz
  obtain ⟨h1, vs, h2, h3⟩ := s1.sl i _ he
  refine ⟨_, getD_some h1, ?_⟩
  refine hw W tk σ F1 H1 s1 (hx2.hx env σ) _ fun kd z w F2 H2 ⟨hz, k, hk, hlen, hp⟩ s2 e2 r2 => ?_
  subst hz
  obtain ⟨t, rfl, ht⟩ := keyT_dp r2 hk
  obtain ⟨h1', vs', h2', h3'⟩ := s2.sl i _ he
  refine ⟨al, _, rfl, DPut.t h2' (s2.ex _ _ ht) (by rw [kvp_len h3']; exact hlen), ?_⟩
  exact hD.nx _ _ _ _ hp (s2.write he rfl rfl ⟨h1', _, upd_same, kvp_put h3' (dp_mono e2 _ _ r1)⟩) (e1.trans e2)
theorem w1_storeKA (i : Nat) {kvs : List (Key × PyData)} (hr : Room k0 X.A) (he : env[i]? = some (.dk al kvs) := by rfl)
    (h : WE X g e env (fun d z => z = true ∧ WE X g a env (fun kd z => z = true ∧ ∃ k, keyA kd = some k ∧ kvs.length < sizeLine ∧ P.nx (env.set i (.dk al (putP kvs k d)))) (fun c => P.ex c env)) (fun c => P.ex c env)) (hN : X.N[i]? = some xn := by rfl)
    (hv : Vis X.env.scope xn := by first | exact Or.inl rfl | exact Or.inr (Or.inl rfl) | exact Or.inr (Or.inr rfl)) (hd : (xn == ("__debug__" : Str)) = false := by decide)
    (hcd : (xn == ("__classdict__" : Str)) = false := by decide)
    (hs : swapsWith e (some (.Subscript (.Name xn q) a tpos)) pos.line X.env = pure false := by rfl) : W1 X g (.Assign [.Subscript (.Name xn q) a tpos] e pos) env P := fun W tk hx2 σ F H s0 D hD => by
  refine semP_of (ps_dput (by have := hr.units; omega) (pe_var hN hv hd hcd) (peS a) (peS e) hs) ?_
  refine h W tk σ F H s0 (hx2.hx env σ) _ fun d z v F1 H1 ⟨hz, hw⟩ s1 e1 r1 => ?_
  subst hz
  obtain ⟨h1, vs, h2, h3⟩ := s1.sl i _ he
  refine ⟨_, getD_some h1, ?_⟩
  refine hw W tk σ F1 H1 s1 (hx2.hx env σ) _ fun kd z w F2 H2 ⟨hz, k, hk, hlen, hp⟩ s2 e2 r2 => ?_
  subst hz
  have hv := keyA_dp r2 hk
  subst hv
  obtain ⟨h1', vs', h2', h3'⟩ := s2.sl i _ he
  refine ⟨al, _, rfl, DPut.k h2' (by rw [kvp_len h3']; exact hlen), ?_⟩
  exact hD.nx _ _ _ _ hp (s2.write he rfl rfl ⟨h1', _, upd_same, kvp_put h3' (dp_mono e2 _ _ r1)⟩) (e1.trans e2)
end
/-- list(d), d a local dict -/
theorem wn_listTv (i : Nat) {kvs : List (List Key × PyData)} {al : Addr} {xn : Str} {q : Pos} {Φ : List PyData → Prop} (hm : X.mg "list" = none) (hc : X.calm = true) (h : Φ (keysT kvs)) (he : env[i]? = some (.dt al kvs) := by rfl) (hN : X.N[i]? = some xn := by rfl)
    (hv : Vis X.env.scope xn := by first | exact Or.inl rfl | exact Or.inr (Or.inl rfl) | exact Or.inr (Or.inr rfl)) (hd : (xn == ("__debug__" : Str)) = false := by decide)
    (hcd : (xn == ("__classdict__" : Str)) = false := by decide) (hg : Gl X "list" := by rfl) (hes : starEach [Expr.Name xn q] X.env = (false, eval (.Name xn q) X.env) :: starEach [] X.env := by rfl) (hpl : (backTo pos (starEach ([] : List Expr) X.env)).any (·.1) = false := by rfl) : WN X g (.Call (.Name "list" p) [.Name xn q] [] pos) env Φ Ψ := fun W tk σ F H st hx Q hQ => by
  refine semE_of (pe_callTy (call_list_dT hc) hg hm (by decide +kernel) (pa_cons (pe_var hN hv hd hcd) pa_nil hes) (by decide) (by decide) hes hpl) ?_
  obtain ⟨h1, vs, h2, h3⟩ := st.sl i _ he
  refine ⟨_, getD_some h1, al, vs, rfl, .inl h2, fun pn bs hn hb => ?_⟩
  exact put_new st hn (keys_dpa (kvs := kvs) st.tf h3 hb) h hQ
/-! a list of one's own from now on read alone -/
theorem ws_freeze (i : Nat) {al : Addr} {ds : List PyData} (ha : al ∉ g.M) (h : WS X g rest (env.set i (.d (.list ds))) P) (he : env[i]? = some (.ol al ds) := by rfl) : WS X g rest env P := fun W tk hx2 σ F H st D hD => by
  obtain ⟨h1, vs, h2, h3⟩ := st.sl i _ he
  have own : Own env al := ⟨i, _, he, by simp [Sl.fp]⟩
  have hi := (List.getElem?_eq_some_iff.mp he).1
  have s1 := st.weak (s' := .un) he (fun _ h => by cases h) fun _ => trivial
  have no : ¬ Own (env.set i .un) al := fun z => by
    obtain ⟨j, t, ej, ht⟩ := z
    rcases set_get ej with ⟨_, rfl⟩ | ⟨ne, ej⟩
    · cases ht
    · exact ne (st.nd i j _ t al he ej (by simp [Sl.fp]) ht)
  have h0 : g.H0 al = none := by
    rcases st.g2 al own with z | z
    · exact z
    · exact absurd z ha
  have e2 := Ex.new (o := .lst vs) (st.fr al own)
  have s2 := s1.freeze h2 (st.fr al own) no h0
  have hσ : σ.set i (some (.ref al)) = σ := by
    have hl : i < σ.length := by rw [st.len]; exact hi
    have e := getD_some h1
    obtain ⟨_, e'⟩ := List.getElem?_eq_some_iff.mp e
    rw [← e']
    exact List.set_getElem_self hl
  have s3 := s2.setD (i := i) (v := .ref al) (x := .list ds) (by rw [List.length_set]; exact hi) (.lst (SqL.of upd_same) (dpa_mono e2 _ _ h3))
  rw [hσ, List.set_set] at s3
  exact h W tk hx2 σ _ H s3 D (hD.mono e2)
/-! tuples of the module -/
structure GTup (K : Frag) (mg : Str → Option Value) (x : Str) (ds : List PyData) : Prop where
  ex : ∃ a vs, mg x = some (.ref a) ∧ flAll ds = some vs ∧ ∀ H, SqT K H a vs
theorem flAll_dq : ∀ {ds : List PyData} {vs : List V}, flAll ds = some vs → DqAll K F vs ds
  | [], _, h => by cases h; exact .nil
  | d :: r, _, h => by
    unfold flAll at h
    split at h
    · rename_i e1 e2
      cases h
      refine .cons ?_ (flAll_dq e2)
      cases d with
      | int i => cases e1; exact .int i
      | str s => cases e1; exact .str s
      | none => cases e1; exact .non
      | _ => cases e1
    · cases h
theorem wi_g {xn : Str} {q : Pos} {ds : List PyData} {Φ : List PyData → Prop} (hG : GTup X.K X.mg xn ds) (h : Φ ds) (hg : Gl X xn := by rfl) (hd : (xn == ("__debug__" : Str)) = false := by decide) : WI X g tg (.Name xn q) env Φ Ψ := fun W tk σ F H st hx R hR => by
  obtain ⟨a, vs, hm, hf, hs⟩ := hG.ex
  refine semI_of (pi_any (pe_glob hg hm (v := .ref a) rfl hd)) ?_
  exact .inr (.inl ⟨a, vs, rfl, hs H, fun hl => hR ds _ F H h (by rw [← dpa_len (flAll_dq (K := X.K) (F := F) hf)]; exact hl) st (Ex.refl F) (itok_at walk_tup (fun H _ => hs H) (flAll_dq hf))⟩)
theorem inG_run {neg : Bool} {op : CmpOp} {xn : Str} {q : Pos} {ds : List PyData} {Φ : KB} (hop : OpR X (compareOp op) (rIn X.K neg)) (hm' : behindInMarks op (.Name xn q) = false) (hG : GTup X.K X.mg xn ds) (h : WE X g a env (fun d z => inTupM d ds fun b => Φ (if neg then !b else b)) Ψ) (hg : Gl X xn) (hd : (xn == ("__debug__" : Str)) = false) : WT X g (.Compare a [op] [.Name xn q] pos) env Φ Ψ := fun W tk σ F H st hx Q hQ => by
  obtain ⟨ad, vs, hm, hf, hs⟩ := hG.ex
  refine semT_of (pt_cmpR hop (peS a) (pe_glob hg hm (v := .ref ad) rfl hd) hm') ?_
  refine h W tk σ F H st hx _ fun d z v F1 H1 hp s1 e1 r1 => ?_
  unfold inTupM at hp
  rw [hf] at hp
  cases e2 : fl d with
  | none => rw [e2] at hp; exact hp.elim
  | some v' =>
    rw [e2] at hp
    have hv := fl_dp (rd_now s1.toSk r1) e2
    subst hv
    refine ⟨ad, vs, rfl, .inr (hs H1), fl_flat e2, flAll_flat hf, _, ?_, hQ _ F1 H1 hp s1 e1⟩
    cases neg <;> rfl
theorem wt_inG {xn : Str} {q : Pos} {ds : List PyData} {Φ : KB} (hG : GTup X.K X.mg xn ds) (h : WE X g a env (fun d z => inTupM d ds Φ) Ψ) (hg : Gl X xn := by rfl) (hd : (xn == ("__debug__" : Str)) = false := by decide) (hm' : behindInMarks .In (.Name xn q) = false := by first | exact nomark _ | rfl) : WT X g (.Compare a [.In] [.Name xn q] pos) env Φ Ψ :=
  inG_run (neg := false) op_in_seq hm' hG h hg hd
theorem wt_notInG {xn : Str} {q : Pos} {ds : List PyData} {Φ : KB} (hG : GTup X.K X.mg xn ds) (h : WE X g a env (fun d z => inTupM d ds fun b => Φ (!b)) Ψ) (hg : Gl X xn := by rfl) (hd : (xn == ("__debug__" : Str)) = false := by decide) (hm' : behindInMarks .NotIn (.Name xn q) = false := by first | exact nomark _ | rfl) : WT X g (.Compare a [.NotIn] [.Name xn q] pos) env Φ Ψ :=
  inG_run (neg := true) op_notIn_seq hm' hG h hg hd
theorem inG_sh {ds : List PyData} {Q Φ : KB} (h : inTupM x ds Q) (k : ∀ r, Q r → Φ r) : inTupM x ds Φ := by
  unfold inTupM at *
  split at h
  · exact k _ h
  · exact h.elim
end
/-! contracts -/
theorem Has.imp {P : Program} {w : World} {K : Frag} {mg : Str → Option Value} {base : Heap} {j : Nat} {x : Str} {ps : List Str} {S S' : CT} (h : Has P w K mg base j x ps S) (i : ∀ args Φ Ψ, S' args Φ Ψ → S args Φ Ψ) : Has P w K mg base j x ps S' := by
  obtain ⟨f, fd, h1, h2, h3, h4⟩ := h.ex
  have up : ∀ vs H Q E, spOf K ps.length S' vs H Q E → spOf K ps.length S vs H Q E := fun vs H Q E ⟨q1, F, args, Φ, Ψ, q2, q3⟩ => ⟨q1, F, args, Φ, Ψ, i _ _ _ q2, q3⟩
  exact ⟨f, fd, h1, h2, h3, ⟨fun vs H Q E q => h4.len vs H Q E (up _ _ _ _ q), fun A outer s H args us vs Q E r e b v q => h4.run A outer s H args us vs Q E r e b v (up _ _ _ _ q)⟩⟩
/-! for the plain side -/
theorem lcM_map {α β : Type} {bd : PyData → (β → Prop) → Prop → Prop} {K : List β → Prop} (L : List α) (d : α → PyData) (f : α → β) (h : ∀ a ∈ L, ∀ k s, k (f a) → bd (d a) k s) (acc : List β) (hK : K (acc ++ L.map f)) : lcM bd K (L.map d) acc := by
  induction L generalizing acc with
  | nil => rw [List.map_nil, List.append_nil] at hK; exact hK
  | cons a L ih =>
    refine h a (by simp) _ _ (ih (fun b hb => h b (List.mem_cons_of_mem _ hb)) _ ?_)
    simpa using hK
theorem lcM_filter {α β : Type} {bd : PyData → (β → Prop) → Prop → Prop} {K : List β → Prop} (L : List α) (d : α → PyData) (p : α → Bool) (f : α → β) (h : ∀ a ∈ L, ∀ (k : β → Prop) (s : Prop), (p a = true → k (f a)) → (p a = false → s) → bd (d a) k s) (acc : List β) (hK : K (acc ++ (L.filter p).map f)) : lcM bd K (L.map d) acc := by
  induction L generalizing acc with
  | nil => rw [List.filter_nil, List.map_nil, List.append_nil] at hK; exact hK
  | cons a L ih =>
    refine h a (by simp) _ _ (fun e => ih (fun b hb => h b (List.mem_cons_of_mem _ hb)) _ ?_) (fun e => ih (fun b hb => h b (List.mem_cons_of_mem _ hb)) _ ?_)
    · simpa [e] using hK
    · simpa [e] using hK
theorem forM_inv {α τ : Type} {bd : PyData → τ → (τ → Prop) → (τ → Prop) → Prop} {K : τ → Prop} (L : List α) (d : α → PyData) (I : Nat → τ → Prop) (h : ∀ i a, L[i]? = some a → ∀ s, I i s → ∀ N : τ → Prop, (∀ s', I (i + 1) s' → N s') → bd (d a) s N K) (hK : ∀ s, I L.length s → K s) (s0 : τ) (h0 : I 0 s0) : forM bd K (L.map d) s0 := by
  have go : ∀ (M : List α) (i : Nat), (∀ j a, M[j]? = some a → L[i + j]? = some a) → i + M.length = L.length → ∀ s, I i s → forM bd K (M.map d) s := by
    intro M
    induction M with
    | nil => intro i _ hl s hs; exact hK s (by rw [← hl]; exact hs)
    | cons a M ih =>
      intro i hM hl s hs
      refine h i a (hM 0 a rfl) s hs _ fun s' hs' => ih (i + 1) (fun j b hj => ?_) (by simp only [List.length_cons] at hl; omega) s' hs'
      have := hM (j + 1) b hj
      rwa [show i + (j + 1) = i + 1 + j by omega] at this
  exact go L 0 (fun j a hj => by rwa [Nat.zero_add]) (by simp) s0 h0
/-- by a function of the turns gone -/
theorem forM_fold {α τ : Type} {bd : PyData → τ → (τ → Prop) → (τ → Prop) → Prop} {K : τ → Prop} (L : List α) (d : α → PyData) (f : τ → α → τ) (h : ∀ a ∈ L, ∀ s (N : τ → Prop), N (f s a) → bd (d a) s N K) (s0 : τ) (hK : K (L.foldl f s0)) : forM bd K (L.map d) s0 := by
  induction L generalizing s0 with
  | nil => exact hK
  | cons a L ih => exact h a (by simp) s0 _ (ih (fun b hb => h b (List.mem_cons_of_mem _ hb)) _ hK)
theorem whileM_inv {τ : Type} {st : τ → (τ → Prop) → (τ → Prop) → Prop} {K : τ → Prop} (I : Nat → τ → Prop) (h : ∀ m s, I m s → ∀ N : τ → Prop, (∀ m' s', m' < m → I m' s' → N s') → st s N K) (m : Nat) (s0 : τ) (h0 : I m s0) (mono : ∀ s (N N' B : τ → Prop), (∀ s, N s → N' s) → st s N B → st s N' B) : ∃ n, whileM st K n s0 := by
  have up : ∀ n s, whileM st K n s → ∀ n', n ≤ n' → whileM st K n' s := by
    intro n
    induction n with
    | zero => intro s h; exact h.elim
    | succ n ih =>
      intro s h n' hn
      obtain ⟨k, rfl⟩ : ∃ k, n' = k + 1 := ⟨n' - 1, by omega⟩
      exact mono s _ _ _ (fun s' q => ih s' q k (by omega)) h
  refine ⟨m + 1, ?_⟩
  induction m using Nat.strongRecOn generalizing s0 with
  | _ m ih =>
    exact h m s0 h0 _ fun m' s' hm hs => up (m' + 1) s' (ih m' hm s' hs) m (by omega)
theorem and_p {b1 b2 : Bool} {K : KB} (h : K (b1 && b2)) : andM (fun Q => Q b1) (fun Q => Q b2) K := by
  unfold andM
  cases b1 <;> exact ⟨fun e => (by first | exact h | cases e), fun e => (by first | exact h | cases e)⟩
theorem or_p {b1 b2 : Bool} {K : KB} (h : K (b1 || b2)) : orM (fun Q => Q b1) (fun Q => Q b2) K := by
  unfold orM
  cases b1 <;> exact ⟨fun e => (by first | exact h | cases e), fun e => (by first | exact h | cases e)⟩
theorem if_t {b : Bool} {A B : Prop} (e : b = true) (h : A) : (b = true → A) ∧ (b = false → B) := ⟨fun _ => h, fun e' => (by rw [e] at e'; cases e')⟩
theorem if_f {b : Bool} {A B : Prop} (e : b = false) (h : B) : (b = true → A) ∧ (b = false → B) := ⟨fun e' => (by rw [e] at e'; cases e'), fun _ => h⟩
end TL

/-! rules whose question is the plain transformer itself -/
namespace TL
open PySem PySem.Spec PyProof.Rows L2
section
variable {X : Cx} {g : G} {env env' : List Sl} {Ψ : Exc → Prop} {P : Po} {pos p lp : Pos} {a b c e tg iter : Expr} {es : List Expr} {rest body : List Stmt} {K : Frag} {F F' H H' : Hp} {σ σ' : SS} {x y : PyData} {z1 z2 : Bool} {Φ : PyData → Bool → Prop}
theorem neg_m {Q Q' : KD} (h : negM x Q) (k : ∀ r, Q r → Q' r) : negM x Q' := by
  unfold negM at *
  split at h
  · exact k _ h
  · exact h.elim
theorem abs_m {Q Q' : KD} (h : absM x Q) (k : ∀ r, Q r → Q' r) : absM x Q' := by
  unfold absM at *
  split at h
  · exact k _ h
  · exact h.elim
theorem sum_m {Q Q' : KD} (h : sumM x Q) (k : ∀ r, Q r → Q' r) : sumM x Q' := by
  unfold sumM at *
  split at h
  · split at h
    · exact k _ h
    · exact h.elim
  · exact h.elim
theorem all_m {Q Q' : KD} (h : allM x Q) (k : ∀ r, Q r → Q' r) : allM x Q' := by
  unfold allM at *
  split at h
  · split at h
    · exact k _ h
    · exact h.elim
  · exact h.elim
theorem any_m {Q Q' : KD} (h : anyM x Q) (k : ∀ r, Q r → Q' r) : anyM x Q' := by
  unfold anyM at *
  split at h
  · split at h
    · exact k _ h
    · exact h.elim
  · exact h.elim
theorem min2_m {Q Q' : KD} (h : min2M x y Q) (k : ∀ r, Q r → Q' r) : min2M x y Q' := by
  unfold min2M at *
  split at h
  · exact k _ h
  · exact h.elim
theorem max2_m {Q Q' : KD} (h : max2M x y Q) (k : ∀ r, Q r → Q' r) : max2M x y Q' := by
  unfold max2M at *
  split at h
  · exact k _ h
  · exact h.elim
theorem sort_m {Q Q' : KL} (h : sortM x Q) (k : ∀ r, Q r → Q' r) : sortM x Q' := by
  unfold sortM at *
  split at h
  · exact ⟨h.1, k _ h.2⟩
  · exact h.elim
theorem addL_m {Q Q' : KL} (h : addLM x y Q) (k : ∀ r, Q r → Q' r) : addLM x y Q' := by
  unfold addLM at *
  split at h
  · exact ⟨h.1, k _ h.2⟩
  · exact h.elim
theorem setix_m {ds : List PyData} {Q Q' : KL} (h : setM ds x y Q) (k : ∀ r, Q r → Q' r) : setM ds x y Q' := by
  unfold setM at *
  split at h
  · split at h
    · exact k _ h
    · exact h.elim
  · exact h.elim
section
variable {kT : List (List Key × PyData)} {kA : List (Key × PyData)} {key v : PyData}
theorem inT_m {Q Q' : KB} (h : inTM kT key Q) (k : ∀ r, Q r → Q' r) : inTM kT key Q' := by
  unfold inTM at *
  split at h
  · exact k _ h
  · exact h.elim
theorem inK_m {Q Q' : KB} (h : inKM kA key Q) (k : ∀ r, Q r → Q' r) : inKM kA key Q' := by
  unfold inKM at *
  split at h
  · exact k _ h
  · exact h.elim
theorem putT_m {Q Q' : List (List Key × PyData) → Prop} (h : putTM kT key v Q) (k : ∀ r, Q r → Q' r) : putTM kT key v Q' := by
  unfold putTM at *
  split at h
  · exact ⟨h.1, k _ h.2⟩
  · exact h.elim
theorem putK_m {Q Q' : List (Key × PyData) → Prop} (h : putKM kA key v Q) (k : ∀ r, Q r → Q' r) : putKM kA key v Q' := by
  unfold putKM at *
  split at h
  · exact ⟨h.1, k _ h.2⟩
  · exact h.elim
end
theorem we_negA (h : WE X g a env (fun d _ => negM d fun r => Φ r true) Ψ) : WE X g (.UnaryOp .USub a pos) env Φ Ψ := we_neg (h.mono fun d z h => neg_sh (Φ := Φ) h fun _ h => h)
theorem we_absA (hm : X.mg "abs" = none) (h : WE X g a env (fun d _ => absM d fun r => Φ r true) Ψ) (hg : Gl X "abs" := by rfl) (he : starEach [a] X.env = (false, eval a X.env) :: starEach [] X.env := by rfl) (hpl : (backTo pos (starEach ([] : List Expr) X.env)).any (·.1) = false := by rfl) : WE X g (.Call (.Name "abs" p) [a] [] pos) env Φ Ψ :=
  we_abs hm (h.mono fun d z h => abs_sh (Φ := Φ) h fun _ h => h) hg he
theorem we_sumA (hm : X.mg "sum" = none) (hc : X.calm = true) (h : WE X g a env (fun d _ => sumM d fun r => Φ r true) Ψ) (hg : Gl X "sum" := by rfl) (he : starEach [a] X.env = (false, eval a X.env) :: starEach [] X.env := by rfl) (hpl : (backTo pos (starEach ([] : List Expr) X.env)).any (·.1) = false := by rfl) : WE X g (.Call (.Name "sum" p) [a] [] pos) env Φ Ψ :=
  we_sum hm hc (h.mono fun d z h => sum_sh (Φ := Φ) h fun _ h => h) hg he
theorem we_allA (hm : X.mg "all" = none) (hc : X.calm = true) (h : WE X g a env (fun d _ => allM d fun r => Φ r true) Ψ) (hg : Gl X "all" := by rfl) (he : starEach [a] X.env = (false, eval a X.env) :: starEach [] X.env := by rfl) (hpl : (backTo pos (starEach ([] : List Expr) X.env)).any (·.1) = false := by rfl) : WE X g (.Call (.Name "all" p) [a] [] pos) env Φ Ψ :=
  we_all hm hc (h.mono fun d z h => all_sh (Φ := Φ) h fun _ h => h) hg he
theorem we_anyA (hm : X.mg "any" = none) (hc : X.calm = true) (h : WE X g a env (fun d _ => anyM d fun r => Φ r true) Ψ) (hg : Gl X "any" := by rfl) (he : starEach [a] X.env = (false, eval a X.env) :: starEach [] X.env := by rfl) (hpl : (backTo pos (starEach ([] : List Expr) X.env)).any (·.1) = false := by rfl) : WE X g (.Call (.Name "any" p) [a] [] pos) env Φ Ψ :=
  we_any hm hc (h.mono fun d z h => any_sh (Φ := Φ) h fun _ h => h) hg he
theorem we_min2A (hm : X.mg "min" = none) (hc : X.calm = true) (h : WE X g a env (fun d1 _ => WE X g b env (fun d2 _ => min2M d1 d2 fun r => Φ r true) Ψ) Ψ) (hg : Gl X "min" := by rfl) (he : starEach [a, b] X.env = (false, eval a X.env) :: starEach [b] X.env := by rfl) (he2 : starEach [b] X.env = (false, eval b X.env) :: starEach [] X.env := by rfl) (hpl : (backTo pos (starEach [b] X.env)).any (·.1) = false := by rfl) : WE X g (.Call (.Name "min" p) [a, b] [] pos) env Φ Ψ :=
  we_min2 hm hc (h.mono fun d z h => h.mono fun d z h => min2_sh (Φ := Φ) h fun _ h => h) hg he he2 hpl
theorem we_max2A (hm : X.mg "max" = none) (hc : X.calm = true) (h : WE X g a env (fun d1 _ => WE X g b env (fun d2 _ => max2M d1 d2 fun r => Φ r true) Ψ) Ψ) (hg : Gl X "max" := by rfl) (he : starEach [a, b] X.env = (false, eval a X.env) :: starEach [b] X.env := by rfl) (he2 : starEach [b] X.env = (false, eval b X.env) :: starEach [] X.env := by rfl) (hpl : (backTo pos (starEach [b] X.env)).any (·.1) = false := by rfl) : WE X g (.Call (.Name "max" p) [a, b] [] pos) env Φ Ψ :=
  we_max2 hm hc (h.mono fun d z h => h.mono fun d z h => max2_sh (Φ := Φ) h fun _ h => h) hg he he2 hpl
theorem wn_sortedA {k : Nat} {Φ : List PyData → Prop} (hm : X.mg "sorted" = none) (hr : Room k X.A) (h : WE X g a env (fun d _ => sortM d Φ) Ψ) (hg : Gl X "sorted" := by rfl) (he : starEach [a] X.env = (false, eval a X.env) :: starEach [] X.env := by rfl) : WN X g (.Call (.Name "sorted" p) [a] [] pos) env Φ Ψ :=
  wn_sorted hm hr (h.mono fun d z h => sort_sh (Φ := Φ) h fun _ h => h) hg he
theorem wn_addB {Φ : List PyData → Prop} (h : WE X g a env (fun d1 _ => WE X g b env (fun d2 _ => addLM d1 d2 Φ) Ψ) Ψ) : WN X g (.BinOp a .Add b pos) env Φ Ψ :=
  wn_addA (h.mono fun d z h => h.mono fun d z h => addL_sh (Φ := Φ) h fun _ h => h)
section
variable {k0 : Nat} {xn : Str} {q tpos : Pos} {al : Addr}
theorem wt_inTA (i : Nat) {kvs : List (List Key × PyData)} {Φ : KB} (hr : Room k0 X.A) (h : WE X g a env (fun kd z => z = true ∧ inTM kvs kd Φ) Ψ) (he : env[i]? = some (.dt al kvs) := by rfl) (hN : X.N[i]? = some xn := by rfl)
    (hv : Vis X.env.scope xn := by first | exact Or.inl rfl | exact Or.inr (Or.inl rfl) | exact Or.inr (Or.inr rfl)) (hd : (xn == ("__debug__" : Str)) = false := by decide)
    (hcd : (xn == ("__classdict__" : Str)) = false := by decide) (hm : behindInMarks .In (.Name xn q) = false := by first | exact nomark _ | rfl) : WT X g (.Compare a [.In] [.Name xn q] pos) env Φ Ψ :=
  wt_inT i hr he (h.mono fun d z ⟨hz, h⟩ => ⟨hz, inT_sh (Φ := Φ) h fun _ h => h⟩) hN hv hd hcd hm
theorem wt_notInTA (i : Nat) {kvs : List (List Key × PyData)} {Φ : KB} (hr : Room k0 X.A) (h : WE X g a env (fun kd z => z = true ∧ inTM kvs kd fun r => Φ (!r)) Ψ) (he : env[i]? = some (.dt al kvs) := by rfl) (hN : X.N[i]? = some xn := by rfl)
    (hv : Vis X.env.scope xn := by first | exact Or.inl rfl | exact Or.inr (Or.inl rfl) | exact Or.inr (Or.inr rfl)) (hd : (xn == ("__debug__" : Str)) = false := by decide)
    (hcd : (xn == ("__classdict__" : Str)) = false := by decide) (hm : behindInMarks .NotIn (.Name xn q) = false := by first | exact nomark _ | rfl) : WT X g (.Compare a [.NotIn] [.Name xn q] pos) env Φ Ψ :=
  wt_notInT i hr he (h.mono fun d z ⟨hz, h⟩ => ⟨hz, notInT_sh (Φ := Φ) h fun _ h => h⟩) hN hv hd hcd hm
theorem wt_inKA (i : Nat) {kvs : List (Key × PyData)} {Φ : KB} (hr : Room k0 X.A) (h : WE X g a env (fun kd z => z = true ∧ inKM kvs kd Φ) Ψ) (he : env[i]? = some (.dk al kvs) := by rfl) (hN : X.N[i]? = some xn := by rfl)
    (hv : Vis X.env.scope xn := by first | exact Or.inl rfl | exact Or.inr (Or.inl rfl) | exact Or.inr (Or.inr rfl)) (hd : (xn == ("__debug__" : Str)) = false := by decide)
    (hcd : (xn == ("__classdict__" : Str)) = false := by decide) (hm : behindInMarks .In (.Name xn q) = false := by first | exact nomark _ | rfl) : WT X g (.Compare a [.In] [.Name xn q] pos) env Φ Ψ :=
  wt_inK i hr he (h.mono fun d z ⟨hz, h⟩ => ⟨hz, inK_sh (Φ := Φ) h fun _ h => h⟩) hN hv hd hcd hm
theorem wt_notInKA (i : Nat) {kvs : List (Key × PyData)} {Φ : KB} (hr : Room k0 X.A) (h : WE X g a env (fun kd z => z = true ∧ inKM kvs kd fun r => Φ (!r)) Ψ) (he : env[i]? = some (.dk al kvs) := by rfl) (hN : X.N[i]? = some xn := by rfl)
    (hv : Vis X.env.scope xn := by first | exact Or.inl rfl | exact Or.inr (Or.inl rfl) | exact Or.inr (Or.inr rfl)) (hd : (xn == ("__debug__" : Str)) = false := by decide)
    (hcd : (xn == ("__classdict__" : Str)) = false := by decide) (hm : behindInMarks .NotIn (.Name xn q) = false := by first | exact nomark _ | rfl) : WT X g (.Compare a [.NotIn] [.Name xn q] pos) env Φ Ψ :=
  wt_notInK i hr he (h.mono fun d z ⟨hz, h⟩ => ⟨hz, notInK_sh (Φ := Φ) h fun _ h => h⟩) hN hv hd hcd hm
theorem we_wt {op : CmpOp} {Φ : PyData → Bool → Prop} (h : WT X g (.Compare a [op] [b] pos) env (fun k => Φ (.bool k) true) Ψ) (hs : ∀ {σ H} {Q : VK}, semT X (.Compare a [op] [b] pos) σ H (fun k H' => Q (.bl k) H') → semE X (.Compare a [op] [b] pos) σ H Q) : WE X g (.Compare a [op] [b] pos) env Φ Ψ := fun W tk σ F H st hx Q hQ =>
  hs (h W tk σ F H st hx _ fun k F' H' hp s e => hQ _ true _ F' H' hp s e (.bl k))
theorem w1_storeTB (i : Nat) {kvs : List (List Key × PyData)} (hr : Room k0 X.A)
    (h : WE X g e env (fun d z => z = true ∧ WE X g a env (fun kd z => z = true ∧ putTM kvs kd d fun r => P.nx (env.set i (.dt al r))) (fun c => P.ex c env)) (fun c => P.ex c env)) (he : env[i]? = some (.dt al kvs) := by rfl) (hN : X.N[i]? = some xn := by rfl)
    (hv : Vis X.env.scope xn := by first | exact Or.inl rfl | exact Or.inr (Or.inl rfl) | exact Or.inr (Or.inr rfl)) (hd : (xn == ("__debug__" : Str)) = false := by decide)
    (hcd : (xn == ("__classdict__" : Str)) = false := by decide)
    (hs : swapsWith e (some (.Subscript (.Name xn q) a tpos)) pos.line X.env = pure false := by rfl) : W1 X g (.Assign [.Subscript (.Name xn q) a tpos] e pos) env P :=
  w1_storeTA i hr he (h.mono fun d z ⟨hz, h⟩ => ⟨hz, h.mono fun d z ⟨hz, h⟩ => ⟨hz, putT_sh (Φ := fun r => P.nx (env.set i (.dt al r))) h fun _ h => h⟩⟩) hN hv hd hcd hs
theorem w1_storeKB (i : Nat) {kvs : List (Key × PyData)} (hr : Room k0 X.A)
    (h : WE X g e env (fun d z => z = true ∧ WE X g a env (fun kd z => z = true ∧ putKM kvs kd d fun r => P.nx (env.set i (.dk al r))) (fun c => P.ex c env)) (fun c => P.ex c env)) (he : env[i]? = some (.dk al kvs) := by rfl) (hN : X.N[i]? = some xn := by rfl)
    (hv : Vis X.env.scope xn := by first | exact Or.inl rfl | exact Or.inr (Or.inl rfl) | exact Or.inr (Or.inr rfl)) (hd : (xn == ("__debug__" : Str)) = false := by decide)
    (hcd : (xn == ("__classdict__" : Str)) = false := by decide)
    (hs : swapsWith e (some (.Subscript (.Name xn q) a tpos)) pos.line X.env = pure false := by rfl) : W1 X g (.Assign [.Subscript (.Name xn q) a tpos] e pos) env P :=
  w1_storeKA i hr he (h.mono fun d z ⟨hz, h⟩ => ⟨hz, h.mono fun d z ⟨hz, h⟩ => ⟨hz, putK_sh (Φ := fun r => P.nx (env.set i (.dk al r))) h fun _ h => h⟩⟩) hN hv hd hcd hs
/-- x[k] = e, a list of one's own -/
theorem w1_setixB (i : Nat) {ds : List PyData} (h : WE X g e env (fun d z => z = true ∧ WE X g a env (fun k _ => setM ds k d fun r => P.nx (env.set i (.ol al r))) (fun c => P.ex c env)) (fun c => P.ex c env)) (he : env[i]? = some (.ol al ds) := by rfl) (hN : X.N[i]? = some xn := by rfl)
    (hv : Vis X.env.scope xn := by first | exact Or.inl rfl | exact Or.inr (Or.inl rfl) | exact Or.inr (Or.inr rfl)) (hd : (xn == ("__debug__" : Str)) = false := by decide)
    (hcd : (xn == ("__classdict__" : Str)) = false := by decide)
    (ha : ∀ v, assign (.Subscript (.Name xn q) a tpos) X.env v = (do
      let ov ← holding [v] (eval (.Name xn q) X.env)
      let iv ← holding [v, ov] (eval a X.env)
      standAt tpos
      holding [v, ov, iv] (setItem ov iv v)
      release [v, ov, iv] []) := by intro _; rfl)
    (hs : swapsWithSole [.Subscript (.Name xn q) a tpos] e pos.line X.env = pure false := by rfl) (hw : swappedStores [.Subscript (.Name xn q) a tpos] e X.env = pure none := by rfl)
    (h1 : (assignEach [.Subscript (.Name xn q) a tpos] X.env).map (·.2) = [assign (.Subscript (.Name xn q) a tpos) X.env] := by rfl) : W1 X g (.Assign [.Subscript (.Name xn q) a tpos] e pos) env P :=
  w1_setix i he (h.mono fun d z ⟨hz, h⟩ => ⟨hz, h.mono fun d z h => setix_sh (Φ := fun r => P.nx (env.set i (.ol al r))) h fun _ h => h⟩) hN hv hd hcd ha hs hw h1
end
end
end TL

/-! equations for the plain side -/
namespace TL
open PySem PySem.Spec PyProof.Rows L2
section
variable {i j : Int} {s t : Str} {b c : Bool} {xs ys : List PyData} {x y z u : PyData} {K : KD} {KL' : KL} {KB' : KB} {E : KX}
theorem q_add_ii : addM (.int i) (.int j) K = K (.int (i + j)) := rfl
theorem q_add_ss : addM (.str s) (.str t) K = (s.length + t.length ≤ sizeLine ∧ K (.str (s ++ t))) := rfl
theorem q_add_ll : addM (.list xs) (.list ys) K = (xs.length + ys.length ≤ sizeLine ∧ K (.list (xs ++ ys))) := rfl
theorem q_add_tt : addM (.tuple xs) (.tuple ys) K = (xs.length + ys.length ≤ sizeLine ∧ K (.tuple (xs ++ ys))) := rfl
theorem q_addL : addLM (.list xs) (.list ys) KL' = (xs.length + ys.length ≤ sizeLine ∧ KL' (xs ++ ys)) := rfl
theorem q_sub : subM (.int i) (.int j) K = K (.int (i - j)) := rfl
theorem q_mul : mulM (.int i) (.int j) K = ((CMul i j ∨ CMulW i j) ∧ K (.int (i * j))) := rfl
theorem q_div : divM (.int i) (.int j) K = (CDivW i j ∧ K (.int (i / j))) := rfl
theorem q_mod : modM (.int i) (.int j) K = (0 < j ∧ K (.int (i % j))) := rfl
theorem q_neg : negM (.int i) K = K (.int (-i)) := rfl
theorem q_bool : boolM (.bool b) KB' = KB' b := rfl
theorem q_eq_ii : eqM (.int i) (.int j) KB' = KB' (decide (i = j)) := rfl
theorem q_eq_ss : eqM (.str s) (.str t) KB' = KB' (decide (s = t)) := rfl
theorem q_eq_bb : eqM (.bool b) (.bool c) KB' = KB' (decide (b = c)) := rfl
theorem q_eq_tt : eqM (.tuple xs) (.tuple ys) KB' = (SeqAt.shaped (.tuple xs) = true ∧ SeqAt.shaped (.tuple ys) = true ∧ KB' (PyData.eqv (.tuple xs) (.tuple ys))) := rfl
theorem q_eq_ll : eqM (.list xs) (.list ys) KB' = (SeqAt.shaped (.list xs) = true ∧ SeqAt.shaped (.list ys) = true ∧ KB' (PyData.eqv (.list xs) (.list ys))) := rfl
theorem q_ne_ii : neM (.int i) (.int j) KB' = KB' (!decide (i = j)) := rfl
theorem q_ne_ss : neM (.str s) (.str t) KB' = KB' (!decide (s = t)) := rfl
theorem q_ne_bb : neM (.bool b) (.bool c) KB' = KB' (!decide (b = c)) := rfl
theorem q_ne_tt : neM (.tuple xs) (.tuple ys) KB' = (SeqAt.shaped (.tuple xs) = true ∧ SeqAt.shaped (.tuple ys) = true ∧ KB' (!PyData.eqv (.tuple xs) (.tuple ys))) := rfl
theorem q_ne_ll : neM (.list xs) (.list ys) KB' = (SeqAt.shaped (.list xs) = true ∧ SeqAt.shaped (.list ys) = true ∧ KB' (!PyData.eqv (.list xs) (.list ys))) := rfl
theorem q_lt : ltM (.int i) (.int j) KB' = KB' (decide (i < j)) := rfl
theorem q_le : leM (.int i) (.int j) KB' = KB' (decide (i ≤ j)) := rfl
theorem q_gt : gtM (.int i) (.int j) KB' = KB' (decide (j < i)) := rfl
theorem q_ge : geM (.int i) (.int j) KB' = KB' (decide (j ≤ i)) := rfl
theorem q_lt_t : ltM (.tuple xs) (.tuple ys) KB' = (match intsOf xs, intsOf ys with
    | some ns, some ms => KB' (HT.lexLt ns ms)
    | _, _ => False) := rfl
theorem q_un2 {K : PyData → PyData → Prop} : un2 (.tuple [x, y]) K = K x y := rfl
theorem q_un3 {K : PyData → PyData → PyData → Prop} : un3 (.tuple [x, y, z]) K = K x y z := rfl
theorem q_un4 {K : PyData → PyData → PyData → PyData → Prop} : un4 (.tuple [x, y, z, u]) K = K x y z u := rfl
theorem q_intO {K : Int → Prop} : intO (.int i) K = K i := rfl
theorem q_ix_l : ixM (.list xs) (.int i) K = (match atI xs i with
    | some y => K y
    | none => False) := rfl
theorem q_ix_t : ixM (.tuple xs) (.int i) K = (match atI xs i with
    | some y => K y
    | none => False) := rfl
theorem q_ix_s : ixM (.str s) (.int i) K = (s.length ≤ sizeLine ∧ match atI s.cps.toList i with
    | some c => K (sgn c)
    | none => False) := rfl
theorem q_len_l : lenM (.list xs) K = K (.int xs.length) := rfl
theorem q_len_t : lenM (.tuple xs) K = K (.int xs.length) := rfl
theorem q_len_s : lenM (.str s) K = (s.length ≤ sizeLine ∧ K (.int s.length)) := rfl
theorem q_abs : absM (.int i) K = K (.int (if i < 0 then -i else i)) := rfl
theorem q_int_i : intM (.int i) K = K (.int i) := rfl
theorem q_int_b : intM (.bool b) K = K (.int (if b then 1 else 0)) := rfl
theorem q_tup_l : tupM (.list xs) K = K (.tuple xs) := rfl
theorem q_tup_t : tupM (.tuple xs) K = K (.tuple xs) := rfl
theorem q_list_l : listM (.list xs) KL' = KL' xs := rfl
theorem q_list_t : listM (.tuple xs) KL' = KL' xs := rfl
theorem q_min : min2M (.int i) (.int j) K = K (.int (if j < i then j else i)) := rfl
theorem q_max : max2M (.int i) (.int j) K = K (.int (if j > i then j else i)) := rfl
theorem q_it_l : itM (.list xs) KL' = KL' xs := rfl
theorem q_it_t : itM (.tuple xs) KL' = KL' xs := rfl
theorem q_rng : rngM (.int i) (.int j) KL' = ((-1000000 ≤ i ∧ i ≤ 1000000 ∧ -1000000 ≤ j ∧ j ≤ 1000000) ∧ KL' (rangeL i j)) := rfl
theorem q_enu_l : enuM (.list xs) KL' = KL' (enumL xs) := rfl
theorem q_enu_t : enuM (.tuple xs) KL' = KL' (enumL xs) := rfl
theorem q_rev : revM (.list xs) KL' = KL' xs.reverse := rfl
theorem q_sl_l {lo hi : Option Int} : slM (.list xs) lo hi K = K (.list (cut xs lo hi)) := rfl
theorem q_sl_t {lo hi : Option Int} : slM (.tuple xs) lo hi K = K (.tuple (cut xs lo hi)) := rfl
theorem q_sl_s {lo hi : Option Int} : slM (.str s) lo hi K = (s.length ≤ sizeLine ∧ K (.str (cutS s lo hi))) := rfl
theorem q_slL {lo hi : Option Int} : slLM (.list xs) lo hi KL' = KL' (cut xs lo hi) := rfl
theorem q_all (ns : List Bool) : allM (.list (ns.map .bool)) K = K (.bool (ns.all id)) := by
  show (match boolsOf (ns.map .bool) with | some ns => K (.bool (ns.all id)) | none => False) = _
  rw [bools_of]
theorem q_any (ns : List Bool) : anyM (.list (ns.map .bool)) K = K (.bool (ns.any id)) := by
  show (match boolsOf (ns.map .bool) with | some ns => K (.bool (ns.any id)) | none => False) = _
  rw [bools_of]
theorem q_sum (ns : List Int) : sumM (.list (ns.map .int)) K = K (.int ns.sum) := by
  show (match intsOf (ns.map .int) with | some ns => K (.int ns.sum) | none => False) = _
  rw [ints_of]
theorem q_sort_pp (L : List (Int × Int)) : sortM (.list (L.map ppD)) KL' = KL' (srt (L.map ppD)) := by
  unfold sortM
  exact propext ⟨fun h => h.2, fun h => ⟨⟨pairs_alike _, pairs_sortable _, pairs_depth _⟩, h⟩⟩
theorem q_and {b1 b2 : Bool} : andM (fun Q => Q b1) (fun Q => Q b2) KB' = KB' (b1 && b2) := by
  unfold andM; cases b1 <;> simp
theorem q_or {b1 b2 : Bool} : orM (fun Q => Q b1) (fun Q => Q b2) KB' = KB' (b1 || b2) := by
  unfold orM; cases b1 <;> simp
theorem q_and' {ma mb : KB → Prop} {b1 : Bool} (h : ∀ Q, ma Q = Q b1) {b2 : Bool} (h2 : b1 = true → ∀ Q, mb Q = Q b2) : andM ma mb KB' = KB' (b1 && b2) := by
  unfold andM; rw [h]; cases b1
  · simp
  · rw [h2 rfl]; simp
theorem q_or' {ma mb : KB → Prop} {b1 : Bool} (h : ∀ Q, ma Q = Q b1) {b2 : Bool} (h2 : b1 = false → ∀ Q, mb Q = Q b2) : orM ma mb KB' = KB' (b1 || b2) := by
  unfold orM; rw [h]; cases b1
  · rw [h2 rfl]; simp
  · simp
theorem q_ite {b : Bool} {A B : Prop} : ((b = true → A) ∧ (b = false → B)) = cond b A B := by cases b <;> simp
theorem q_join {σ : Type} {bd : (σ → Prop) → Prop} {K : σ → Prop} : joinM bd K = bd K := rfl
theorem q_lc_nil {β : Type} {bd : PyData → (β → Prop) → Prop → Prop} {K : List β → Prop} {acc : List β} : lcM bd K [] acc = K acc := rfl
theorem q_lc_cons {β : Type} {bd : PyData → (β → Prop) → Prop → Prop} {K : List β → Prop} {acc : List β} : lcM bd K (x :: xs) acc = bd x (fun y => lcM bd K xs (acc ++ [y])) (lcM bd K xs acc) := rfl
theorem q_for_nil {σ : Type} {bd : PyData → σ → (σ → Prop) → (σ → Prop) → Prop} {K : σ → Prop} {s : σ} : forM bd K [] s = K s := rfl
theorem q_for_cons {σ : Type} {bd : PyData → σ → (σ → Prop) → (σ → Prop) → Prop} {K : σ → Prop} {s : σ} : forM bd K (x :: xs) s = bd x s (fun s' => forM bd K xs s') K := rfl
/-- a comprehension told at once -/
theorem q_lc_map {α β : Type} {bd : PyData → (β → Prop) → Prop → Prop} {K : List β → Prop} (L : List α) (d : α → PyData) (f : α → β) (h : ∀ a ∈ L, ∀ k s, bd (d a) k s = k (f a)) (acc : List β) : lcM bd K (L.map d) acc = K (acc ++ L.map f) := by
  induction L generalizing acc with
  | nil => rw [List.map_nil, List.map_nil, List.append_nil]; rfl
  | cons a L ih =>
    rw [List.map_cons, q_lc_cons, h a (by simp), ih fun b hb => h b (List.mem_cons_of_mem _ hb)]
    simp
theorem q_lc_fil {α β : Type} {bd : PyData → (β → Prop) → Prop → Prop} {K : List β → Prop} (L : List α) (d : α → PyData) (p : α → Bool) (f : α → β) (h : ∀ a ∈ L, ∀ (k : β → Prop) (s : Prop), bd (d a) k s = cond (p a) (k (f a)) s) (acc : List β) : lcM bd K (L.map d) acc = K (acc ++ (L.filter p).map f) := by
  induction L generalizing acc with
  | nil => rw [List.map_nil, List.filter_nil, List.map_nil, List.append_nil]; rfl
  | cons a L ih =>
    rw [List.map_cons, q_lc_cons, h a (by simp), ih fun b hb => h b (List.mem_cons_of_mem _ hb), ih fun b hb => h b (List.mem_cons_of_mem _ hb)]
    cases e : p a <;> simp [e]
theorem q_for_fold {α τ : Type} {bd : PyData → τ → (τ → Prop) → (τ → Prop) → Prop} {K : τ → Prop} (L : List α) (d : α → PyData) (f : τ → α → τ) (h : ∀ a ∈ L, ∀ s (N : τ → Prop), bd (d a) s N K = N (f s a)) (s0 : τ) : forM bd K (L.map d) s0 = K (L.foldl f s0) := by
  induction L generalizing s0 with
  | nil => rfl
  | cons a L ih => rw [List.map_cons, q_for_cons, h a (by simp), ih fun b hb => h b (List.mem_cons_of_mem _ hb)]; rfl
/-- a loop whose states are known, one after the other -/
theorem q_for_seq {α τ : Type} {bd : PyData → τ → (τ → Prop) → (τ → Prop) → Prop} {K : τ → Prop} (L : List α) (d : α → PyData) (S : Nat → τ) (h : ∀ i a, L[i]? = some a → ∀ N : τ → Prop, bd (d a) (S i) N K = N (S (i + 1))) : forM bd K (L.map d) (S 0) = K (S L.length) := by
  have go : ∀ (M : List α) (i : Nat), (∀ j a, M[j]? = some a → L[i + j]? = some a) → i + M.length = L.length → forM bd K (M.map d) (S i) = K (S L.length) := by
    intro M
    induction M with
    | nil => intro i _ hl; rw [← hl]; rfl
    | cons a M ih =>
      intro i hM hl
      rw [List.map_cons, q_for_cons, h i a (hM 0 a rfl)]
      refine ih (i + 1) (fun j b hj => ?_) (by simp only [List.length_cons] at hl; omega)
      have := hM (j + 1) b hj
      rwa [show i + (j + 1) = i + 1 + j by omega] at this
  exact go L 0 (fun j a hj => by rwa [Nat.zero_add]) (by simp)
/-- a loop that goes on while p holds, else ends in r -/
theorem q_for_all {α : Type} {bd : PyData → Unit → (Unit → Prop) → (Unit → Prop) → Prop} {K : Unit → Prop} {R : Prop} (L : List α) (d : α → PyData) (p : α → Bool) (h : ∀ a ∈ L, ∀ (N : Unit → Prop), bd (d a) () N K = cond (p a) (N ()) R) : forM bd K (L.map d) () = cond (L.all p) (K ()) R := by
  induction L with
  | nil => simp [q_for_nil]
  | cons a L ih =>
    rw [List.map_cons, q_for_cons, h a (by simp)]
    cases e : p a
    · simp [e]
    · simp only [e, cond_true, List.all_cons, Bool.true_and]
      exact ih fun b hb => h b (List.mem_cons_of_mem _ hb)
theorem range_map (lo hi : Int) : rangeL lo hi = (List.range (hi - lo).toNat).map fun (i : Nat) => PyData.int (lo + (i : Nat)) := rfl
theorem range0 (n : Int) : rangeL 0 n = (List.range n.toNat).map fun (i : Nat) => PyData.int i := by unfold rangeL; simp
theorem enum_map {α : Type} (L : List α) (d : α → PyData) : enumL (L.map d) = (L.mapIdx fun i a => (i, a)).map fun q => PyData.tuple [.int (q.1 : Nat), d q.2] := by
  unfold enumL
  refine List.ext_getElem? fun i => ?_
  rw [List.getElem?_mapIdx, List.getElem?_map, List.getElem?_map, List.getElem?_mapIdx]
  cases L[i]? <;> rfl
end
end TL

/-! the head's facts and further ones -/
namespace TL
open PySem PySem.Spec PyProof.Rows L2 He
abbrev XF := PySem.W.Frag → Bool
def obsX (ex : List XF) (fa : List Fa) (fn : List DefD) (K : PySem.W.Frag) : AlD := ((obsD fa fn K).1 && ex.all fun e => e K, (obsD fa fn K).2)
def SaysX (ex : List XF) (fa : List Fa) (fn : List DefD) (K : PySem.W.Frag) : Prop := obsX ex fa fn K = valD fn
def obsXG (n : Nat) (ex : List XF) (fa : List Fa) (fn : List DefD) (g : Addr → Option Obj) : AlD := obsX ex fa fn (frG g (asD g n))
def hookX (n : Nat) (ex : List XF) (fa : List Fa) (fn : List DefD) : PySem.W.Hook where
  α := AlD
  obs := fun s => obsXG n ex fa fn s.heap.get?
  val := fun _ => valD fn
  says := fun _ h => ∃ K : PySem.W.Frag, K.In h ∧ SaysX ex fa fn K
  of := fun _ _ e => ⟨_, frG_in, e⟩
  keeps := fun _ _ _ ⟨K, hK, c⟩ k => ⟨K, PySem.W.Frag.In.keeps hK k, c⟩
theorem obsXG_eq {n : Nat} {ex : List XF} {fa : List Fa} {fn : List DefD} {g : Addr → Option Obj} {s : Shared} (h : ∀ a, g a = s.heap.get? a) : obsXG n ex fa fn g = (hookX n ex fa fn).obs s := by
  have e : g = s.heap.get? := funext h
  rw [e] <;> rfl
section
variable {ex : List XF} {fa : List Fa} {fn : List DefD} {K : PySem.W.Frag} {mg : Str → Option Value} {h : Heap}
theorem SaysX.d (c : SaysX ex fa fn K) : SaysD fa fn K := by
  have c1 : ((obsD fa fn K).1 && ex.all fun e => e K) = true := congrArg (fun z : AlD => z.1) c
  have c2 : (obsD fa fn K).2 = fn.map DefD.val := congrArg (fun z : AlD => z.2) c
  exact Prod.ext (ba c1).1 c2
theorem SaysX.xf (c : SaysX ex fa fn K) (i : Nat) {e : XF} (h : ex[i]? = some e := by rfl) : e K = true := by
  have c1 : ((obsD fa fn K).1 && ex.all fun e => e K) = true := congrArg (fun z : AlD => z.1) c
  exact List.all_eq_true.mp (ba c1).2 e (List.mem_of_getElem? h)
theorem gtup_ok (X : K.In h) (G : h.Ns mainGlobals mg) {x : Str} {vs : List Dv} {ds : List PyData} (c : (Fa.glo x).ok K = true) (t : tupB K x vs = true) (hd : flAll ds = some (vs.map (Dv.v K)) := by rfl) : GTup K mg x ds :=
  ⟨ga K x, _, glo_ok X G c, hd, fun H => tupB_ok t H⟩
end
end TL

/-! lists of lists of one's own -/
namespace TL
open PySem PySem.Spec PyProof.Rows L2
abbrev ooS (a : Addr) (as : List Addr) (ds : List (List PyData)) : Sl := .oo a (as.zip ds)
def rowM (ds : List (List PyData)) : PyData → KL → Prop
  | .int n, K => match atI ds n with
    | some l => K l
    | none => False
  | _, _ => False
def rowAppM (ds : List (List PyData)) : PyData → PyData → (List (List PyData) → Prop) → Prop
  | .int n, y, K => match ixN ds.length n with
    | some j => match ds[j]? with
      | some l => l.length < sizeLine ∧ K (ds.set j (l ++ [y]))
      | none => False
    | none => False
  | _, _, _ => False
section
variable {X : Cx} {g : G} {env env' : List Sl} {Ψ : Exc → Prop} {P : Po} {pos p lp : Pos} {a b c e tg iter : Expr} {es : List Expr} {rest body : List Stmt} {K : Frag} {F F' H H' : Hp} {σ σ' : SS} {x y : PyData} {z1 z2 : Bool} {Φ : PyData → Bool → Prop}
theorem rowApp_m {ds : List (List PyData)} {Q Q' : List (List PyData) → Prop} (h : rowAppM ds x y Q) (k : ∀ r, r.length = ds.length → Q r → Q' r) : rowAppM ds x y Q' := by
  unfold rowAppM at *
  split at h
  · split at h
    · split at h
      · exact ⟨h.1, k _ (by rw [List.length_set]) h.2⟩
      · exact h.elim
    · exact h.elim
  · exact h.elim
theorem row_m {ds : List (List PyData)} {Q Q' : KL} (h : rowM ds x Q) (k : ∀ r, Q r → Q' r) : rowM ds x Q' := by
  unfold rowM at *
  split at h
  · split at h
    · exact k _ h
    · exact h.elim
  · exact h.elim
theorem row_ob {ds : List (List PyData)} {Q : KL} (h : rowM ds x Q) : ∃ n l, x = .int n ∧ atI ds n = some l ∧ Q l := by
  unfold rowM at h
  split at h
  · split at h
    · rename_i e; exact ⟨_, _, rfl, e, h⟩
    · exact h.elim
  · exact h.elim
theorem atI_map {α β : Type} {f : α → β} {l : List α} {n : Int} {x : α} (h : atI l n = some x) : atI (l.map f) n = some (f x) := by
  unfold atI at *
  rw [List.length_map]
  obtain ⟨j, h1, h2⟩ := Option.bind_eq_some_iff.mp h
  rw [h1]
  show (l.map f)[j]? = _
  rw [List.getElem?_map, h2]; rfl
/-- for, with a side word about state and objects -/
theorem forSC {A : PyData → Option (List (Nat × PyData))} {τ υ : Type} {bd : PyData → τ → (τ → Prop) → (τ → Prop) → Prop} {Q : τ → Prop} {xs : List PyData} {s0 : τ} (h : forM bd Q xs s0) (mk : τ → υ → List Sl) (C : τ → υ → Prop) (u0 : υ) (h0 : env = mk s0 u0) (c0 : C s0 u0) (hend : ∀ s u, C s u → Q s → P.nx (mk s u))
    (hturn : (∀ s u, C s u → Q s → P.nx (mk s u)) → ∀ x s u (N : τ → Prop), C s u → bd x s N Q → ∃ l, A x = some l ∧ (l.all fun q => Nat.blt q.1 (mk s u).length) = true ∧ WS X g body (putsE (mk s u) l) (P.turn fun e => ∃ s' u', N s' ∧ C s' u' ∧ e = mk s' u')) :
    ∃ Pv : Nat → List Sl → Prop, Pv 0 env ∧ (∀ i x, xs[i]? = some x → FT X g body A P Pv i x) ∧ ∀ e, Pv xs.length e → P.nx e := by
  refine ⟨fun i e => ∃ s u, forM bd Q (xs.drop i) s ∧ C s u ∧ e = mk s u, ⟨s0, u0, h, c0, h0⟩, fun i x hx e ⟨s, u, hf, hc, he⟩ => ?_, fun e ⟨s, u, hf, hc, he⟩ => ?_⟩
  · subst he
    have hi := (List.getElem?_eq_some_iff.mp hx).1
    have ed : xs.drop i = x :: xs.drop (i + 1) := by
      rw [List.drop_eq_getElem_cons hi]
      congr 1
      exact (List.getElem?_eq_some_iff.mp hx).2
    rw [ed] at hf
    obtain ⟨l, h1, h2, h3⟩ := hturn hend x s u _ hc hf
    exact ⟨l, h1, h2, h3⟩
  · subst he
    rw [List.drop_length] at hf
    exact hend s u hc hf
/-- x[k], a row -/
theorem we_ixOO (i : Nat) {al : Addr} {as : List Addr} {ds : List (List PyData)} {xn : Str} {q : Pos} (hl : as.length = ds.length) (h : WE X g a env (fun d _ => rowM ds d fun l => Φ (.list l) false) Ψ) (he : env[i]? = some (ooS al as ds) := by rfl) (hN : X.N[i]? = some xn := by rfl)
    (hv : Vis X.env.scope xn := by first | exact Or.inl rfl | exact Or.inr (Or.inl rfl) | exact Or.inr (Or.inr rfl)) (hd : (xn == ("__debug__" : Str)) = false := by decide)
    (hcd : (xn == ("__classdict__" : Str)) = false := by decide) (hs : PlainIx a := by exact fun _ _ => rfl) : WE X g (.Subscript (.Name xn q) a pos) env Φ Ψ := fun W tk σ F H st hx Q hQ => by
  refine semE_of (pe_ix ix_list (pe_var hN hv hd hcd) (peS a) hs) ?_
  obtain ⟨h1, _⟩ := st.sl i _ he
  refine ⟨_, getD_some h1, ?_⟩
  refine h W tk σ F H st hx _ fun d z v F1 H1 hr s1 e1 r1 => ?_
  have hr : rowM ds d fun l => Φ (.list l) false := hr
  obtain ⟨n, l, rfl, hat, hr⟩ := row_ob hr
  obtain ⟨_, h2, h3, h4⟩ := s1.sl i _ he
  obtain ⟨j, hj, hjl⟩ : ∃ j, ixN ds.length n = some j ∧ ds[j]? = some l := by
    unfold atI at hat
    obtain ⟨j, h5, h6⟩ := Option.bind_eq_some_iff.mp hat
    exact ⟨j, h5, h6⟩
  obtain ⟨hj1, hj2⟩ := List.getElem?_eq_some_iff.mp hjl
  have hz : (as.zip ds)[j]? = some (as[j]'(by omega), l) := by
    rw [List.getElem?_eq_getElem (by rw [List.length_zip]; omega), List.getElem_zip, hj2]
  have hat2 : atI ((as.zip ds).map fun r => V.ref r.1) n = some (.ref (as[j]'(by omega))) := by
    have e1 : ((as.zip ds).map fun r => V.ref r.1).length = ds.length := by rw [List.length_map, List.length_zip]; omega
    unfold atI
    rw [e1, hj]
    show ((as.zip ds).map fun r => V.ref r.1)[j]? = _
    rw [List.getElem?_map, hz]; rfl
  exact ⟨al, _, n, _, rfl, rd_int r1, SqL.of h2, hat2, hQ _ false _ F1 H1 hr s1 e1 ⟨_, l, .inr ⟨i, al, _, he, List.mem_of_getElem? hz⟩, rfl, rfl⟩⟩
/-- an object of a slot, one of several, is changed in place -/
theorem St.writeIn {i : Nat} {q : Addr} {s s' : Sl} {o' : HO} (st : St K g F H σ env) (hs : env[i]? = some s) (ha : q ∈ s.fp) (ha' : s'.fp = s.fp) (h : SlOk K F (upd H q o') (σ[i]?.getD none) s') (ht : ∀ vs, o' ≠ .tup vs := by intro _ z; cases z) : St K g F (upd H q o') σ (env.set i s') := by
  have own : Own env q := ⟨i, s, hs, ha⟩
  have hF : F q = none := st.fr q own
  have sub : ∀ b, Own (env.set i s') b → Own env b := fun b hb => by
    rcases own_set hb with h1 | h1
    · rw [ha'] at h1; exact ⟨i, s, hs, h1⟩
    · exact h1
  have oth : ∀ (j : Nat) (t : Sl), i ≠ j → env[j]? = some t → q ∉ t.fp := fun j t ne e ht => ne (st.nd i j s t q hs e ha ht)
  refine { len := by rw [List.length_set]; exact st.len, sl := fun j t e => ?_, nd := fun j k t u b ej ek ht hu => ?_, fr := fun b hb => st.fr b (sub b hb), ex := st.ex.mut hF, tf := fun b vs z => by
             by_cases e : b = q
             · subst e; rw [upd_same] at z; exact absurd (Option.some.inj z) (ht vs)
             · rw [upd_ne e] at z; exact st.tf b vs z, g1 := fun b u z m => ?_, g2 := fun b hb => st.g2 b (sub b hb), g3 := st.g3, g4 := st.g4, g5 := fun b m z => ?_, g6 := st.g6 }
  · rcases set_get e with ⟨rfl, rfl⟩ | ⟨ne, e⟩
    · exact h
    · refine slok_mono (Ex.refl F) (fun b hb u z => ?_) (st.sl j t e)
      have hne : b ≠ q := fun z => oth j t ne e (z ▸ hb)
      rw [upd_ne hne]; exact z
  · rcases set_get ej with ⟨rfl, rfl⟩ | ⟨ne, ej2⟩
    · rcases set_get ek with ⟨rfl, rfl⟩ | ⟨ne2, ek⟩
      · rfl
      · rw [ha'] at ht; exact st.nd _ k s u b hs ek ht hu
    · rcases set_get ek with ⟨rfl, rfl⟩ | ⟨ne2, ek⟩
      · rw [ha'] at hu; exact st.nd j _ t s b ej2 hs ht hu
      · exact st.nd j k t u b ej2 ek ht hu
  · have hne : b ≠ q := fun e => by
      subst e
      rcases st.g2 b own with h1 | h1
      · rw [h1] at z; cases z
      · exact m h1
    rw [upd_ne hne]; exact st.g1 b u z m
  · by_cases hb : b = q
    · subst hb; rw [upd_same] at z; cases z
    · rw [upd_ne hb] at z; exact st.g5 b m z
theorem zip_set {α β : Type} : ∀ {as : List α} {bs : List β} {j : Nat} {y : β}, (as.zip (bs.set j y)).map Prod.fst = (as.zip bs).map Prod.fst
  | [], _, _, _ => rfl
  | _ :: _, [], _, _ => rfl
  | a :: as, b :: bs, 0, y => rfl
  | a :: as, b :: bs, j + 1, y => by
    show a :: (as.zip (bs.set j y)).map Prod.fst = a :: (as.zip bs).map Prod.fst
    rw [zip_set]
/-- x[k].append(e) -/
theorem w1_appendOO (i : Nat) {al : Addr} {as : List Addr} {ds : List (List PyData)} {xn : Str} {q apos cpos spos : Pos} (hl : as.length = ds.length)
    (h : WE X g a env (fun kd _ => rowM ds kd fun _ => WE X g e env (fun d z => z = true ∧ rowAppM ds kd d fun r => P.nx (env.set i (ooS al as r))) (fun c => P.ex c env)) (fun c => P.ex c env)) (he : env[i]? = some (ooS al as ds) := by rfl) (hN : X.N[i]? = some xn := by rfl)
    (hv : Vis X.env.scope xn := by first | exact Or.inl rfl | exact Or.inr (Or.inl rfl) | exact Or.inr (Or.inr rfl)) (hd : (xn == ("__debug__" : Str)) = false := by decide)
    (hcd : (xn == ("__classdict__" : Str)) = false := by decide) (hpx : PlainIx a := by exact fun _ _ => rfl)
    (hbase : attributeBase (.Subscript (.Name xn q) a spos) "append" X.env (eval (.Subscript (.Name xn q) a spos) X.env) = eval (.Subscript (.Name xn q) a spos) X.env := by rfl)
    (hfew : ((backTo cpos (starEach [e] X.env)).all (fun x => !x.1) && (backToKw cpos (keywordEach [] X.env)).all (fun x => x.1.isSome)
      && decide ([e].length + ([] : List Keyword).length + (if ([] : List Keyword).isEmpty then 0 else 1) < 30)) = true := by rfl)
    (hline : (apos.endLine == cpos.line) = true := by rfl) (hs1 : starEach [e] X.env = (false, eval e X.env) :: starEach [] X.env := by rfl) (hplain : (backTo cpos (starEach ([] : List Expr) X.env)).any (·.1) = false := by rfl)
    (hs : swapsWith (.Call (.Attribute (.Subscript (.Name xn q) a spos) "append" apos) [e] [] cpos) none pos.line X.env = pure false := by rfl) :
    W1 X g (.Expr (.Call (.Attribute (.Subscript (.Name xn q) a spos) "append" apos) [e] [] cpos) pos) env P := fun W tk hx2 σ F H s0 D hD => by
  refine semP_of (ps_expr (pe_bm PySem.F.plainAttrs_list PySem.F.slot_list_append PySem.F.type_list_append mt_append (pe_ix ix_list (pe_var hN hv hd hcd) (peS a) hpx) (pa_cons (peS e) pa_nil hs1) hbase hfew hline hs1 hplain) hs) ?_
  obtain ⟨h1, _⟩ := s0.sl i _ he
  refine ⟨_, getD_some h1, ?_⟩
  refine h W tk σ F H s0 (hx2.hx env σ) _ fun kd z v F1 H1 hr s1 e1 r1 => ?_
  have hr : rowM ds kd fun _ => WE X g e env (fun d z => z = true ∧ rowAppM ds kd d fun r => P.nx (env.set i (ooS al as r))) (fun c => P.ex c env) := hr
  obtain ⟨n, l, rfl, hat, hr⟩ := row_ob hr
  obtain ⟨j, hj, hjl⟩ : ∃ j, ixN ds.length n = some j ∧ ds[j]? = some l := by
    unfold atI at hat
    obtain ⟨j, h5, h6⟩ := Option.bind_eq_some_iff.mp hat
    exact ⟨j, h5, h6⟩
  obtain ⟨hj1, hj2⟩ := List.getElem?_eq_some_iff.mp hjl
  have hz : (as.zip ds)[j]? = some (as[j]'(by omega), l) := by
    rw [List.getElem?_eq_getElem (by rw [List.length_zip]; omega), List.getElem_zip, hj2]
  have hat2 : atI ((as.zip ds).map fun r => V.ref r.1) n = some (.ref (as[j]'(by omega))) := by
    have e1 : ((as.zip ds).map fun r => V.ref r.1).length = ds.length := by rw [List.length_map, List.length_zip]; omega
    unfold atI
    rw [e1, hj]
    show ((as.zip ds).map fun r => V.ref r.1)[j]? = _
    rw [List.getElem?_map, hz]; rfl
  obtain ⟨_, h2, h3, h4⟩ := s1.sl i _ he
  refine ⟨al, _, n, _, rfl, rd_int r1, SqL.of h2, hat2, ?_⟩
  obtain ⟨vs, h5, _⟩ := h4 _ (List.mem_of_getElem? hz)
  refine ⟨.inl ⟨rfl, vs, SqL.of h5⟩, ?_⟩
  refine hr W tk σ F1 H1 s1 (hx2.hx env σ) _ fun d z w F2 H2 ⟨hz2, hp⟩ s2 e2 r2 => ?_
  subst hz2
  unfold rowAppM at hp
  simp only [hj, hjl] at hp
  obtain ⟨hlen, hp⟩ := hp
  obtain ⟨q1, q2, q3, q4⟩ := s2.sl i _ he
  obtain ⟨us, q5, q6⟩ := q4 _ (List.mem_of_getElem? hz)
  refine ⟨_, us, w, rfl, rfl, q5, by rw [dpa_len q6]; exact hlen, ?_⟩
  have hmem : as[j]'(by omega) ∈ (as.zip ds).map (·.1) := List.mem_map.mpr ⟨_, List.mem_of_getElem? hz, rfl⟩
  have fpe : (ooS al as (ds.set j (l ++ [d]))).fp = (ooS al as ds).fp := by
    show al :: (as.zip (ds.set j (l ++ [d]))).map Prod.fst = al :: (as.zip ds).map Prod.fst
    rw [zip_set]
  have nd := List.nodup_cons.mp q3
  have hne : as[j]'(by omega) ≠ al := fun z => nd.1 (z ▸ hmem)
  refine hD.nx _ _ F2 _ hp (s2.writeIn he (List.mem_cons_of_mem _ hmem) fpe ?_) (e1.trans e2)
  refine ⟨q1, ?_, ?_, fun r hr => ?_⟩
  · rw [upd_ne (Ne.symm hne), q2]
    congr 2
    have : ∀ L : List (Addr × List PyData), (L.map fun r => V.ref r.1) = (L.map Prod.fst).map V.ref := fun L => by rw [List.map_map]; rfl
    rw [this, this, zip_set]
  · show (al :: (as.zip (ds.set j (l ++ [d]))).map Prod.fst).Nodup
    rw [zip_set]; exact q3
  · obtain ⟨k, hk⟩ := List.mem_iff_getElem?.mp hr
    have hk2 := List.getElem?_zip_eq_some.mp hk
    by_cases ek : k = j
    · subst ek
      have ea : as[k]'(by omega) = r.1 := by
        have := hk2.1
        rw [List.getElem?_eq_getElem (by omega)] at this
        exact Option.some.inj this
      have ed : r.2 = l ++ [d] := by
        have := hk2.2
        rw [List.getElem?_set_self hj1] at this
        exact (Option.some.inj this).symm
      rw [← ea, ed, upd_same]
      exact ⟨us ++ [w], rfl, dpa_app q6 (dpa_one r2)⟩
    · have hr2 : r ∈ as.zip ds := by
        refine List.mem_of_getElem? (i := k) (List.getElem?_zip_eq_some.mpr ⟨hk2.1, ?_⟩)
        have := hk2.2
        rwa [List.getElem?_set_ne (Ne.symm ek)] at this
      obtain ⟨us', z1, z2⟩ := q4 _ hr2
      have hne2 : r.1 ≠ as[j]'(by omega) := fun z => by
        have hlt : k < as.length := (List.getElem?_eq_some_iff.mp hk2.1).1
        have hnd : ((as.zip ds).map Prod.fst).Nodup := nd.2
        have hk3 : ((as.zip ds).map Prod.fst)[k]? = some r.1 := by
          rw [List.getElem?_map, List.getElem?_zip_eq_some.mpr ⟨hk2.1, by have := hk2.2; rwa [List.getElem?_set_ne (Ne.symm ek)] at this⟩]; rfl
        have hj3 : ((as.zip ds).map Prod.fst)[j]? = some r.1 := by
          rw [List.getElem?_map, hz, z]; rfl
        obtain ⟨i1, i2⟩ := List.getElem?_eq_some_iff.mp hk3
        obtain ⟨i3, i4⟩ := List.getElem?_eq_some_iff.mp hj3
        exact ek ((List.getElem_inj hnd).mp (i2.trans i4.symm))
      exact ⟨us', by rw [upd_ne hne2]; exact z1, z2⟩
/-- name = [[] for .. in ..] -/
def LJo (K : Frag) (g : G) (F1 : Hp) (σ : SS) (env : List Sl) (D : Addr) (i : Nat) (H : Hp) : Prop :=
  ∃ F as, St K g F H σ env ∧ Ex F1 F ∧ H D = some (.lst (as.map .ref)) ∧ F D = none ∧ ¬ Own env D ∧ g.H0 D = none ∧ (D :: as).Nodup ∧ as.length = i ∧ ∀ b ∈ as, H b = some (.lst []) ∧ F b = none ∧ ¬ Own env b ∧ g.H0 b = none
theorem w1_newOO (i : Nat) {y : Str} {py elp : Pos} {scope : Scope} {own : List (Str × Nat)} {t : TG} {A : PyData → Option (List (Nat × PyData))} (hc : X.calm = true) (hN : X.N.Nodup) (ok : BlkOk X.N X.env.scope scope own) (hpg : ∀ s H C cl fp, PG (BX X scope s H C cl fp) tg t) (htd : TGd X.K t A) (hwo : wipeOk env (own.map (·.2)) = true)
    (h : WI X g tg iter env (fun xs => (∀ x ∈ xs, ∃ l, A x = some l ∧ (l.all fun q => (own.map (·.2)).elem q.1 && Nat.blt q.1 env.length) = true) ∧ ∀ q as, q ∉ g.M → as.length = xs.length → P.nx (env.set i (ooS q as (List.replicate xs.length [])))) (fun c => P.ex c env))
    (hy : X.N[i]? = some y := by rfl) (hyl : X.env.scope.names.lookup y = some .local := by rfl) (hl : Nat.blt i env.length = true := by rfl)
    (hsw : swapsWith (.ListComp (.List [] elp) [⟨tg, iter, [], 0⟩] scope pos) (some (.Name y py)) p.line X.env = pure true := by exact sw_true rfl rfl rfl (by decide +kernel)) (hs : ∀ x, foldedSetIterable iter X.env x = pure x := by intro _; rfl) :
    W1 X g (.Assign [.Name y py] (.ListComp (.List [] elp) [⟨tg, iter, [], 0⟩] scope pos) p) env P := fun W tk hx2 σ F H s0 D hD => by
  refine semP_of (ps_setLc hc hN hy hyl hsw piS ok hpg (ptsB (by decide)) peB hs) ?_
  refine h W tk σ F H s0 (hx2.hx env σ) _ fun xs J F1 H1 ⟨hA, hp⟩ hlen s1 e1 ⟨GG, Y, hw, hG, hyy⟩ => fun D' hD' => ?_
  have st2 : St X.K g F1 (upd H1 D' (.lst [])) (wipe σ (own.map (·.2))) (wipeE env (own.map (·.2))) := (s1.alloc hD').wiped _
  refine lc_it hw (LJo X.K g F1 (wipe σ (own.map (·.2))) (wipeE env (own.map (·.2))) D') ⟨F1, [], st2, Ex.refl F1, upd_same, s1.ex.none hD', fun z => s1.there (own_wipe z) hD', s1.h0 hD', by simp, rfl, fun b hb => by cases hb⟩ (fun i H2 _ ⟨F2, _, s3, e3, _⟩ => hG _ (e3.trans s3.ex)) (fun i x H2 H3 hi2 hJ hY => ?_) (fun H2 ⟨F2, as, s3, e3, q1, q2, q3, q4, q5, q6, q7⟩ => ?_)
  · obtain ⟨F2, as, s3, e3, q1, q2, q3, q4, q5, q6, q7⟩ := hJ
    obtain ⟨d, hd⟩ : ∃ d, xs[i]? = some d := ⟨xs[i], by simp [hi2]⟩
    obtain ⟨F3, s4, ex4, hv, exH, hF⟩ := hyy i d hd _ _ _ hY _ _ _ _ s3 e3
    obtain ⟨l, hAl, hl2⟩ := hA d (List.mem_of_getElem? hd)
    have keep : ∀ b o, H2 b = some o → F2 b = none → F3 b = none := fun b o h1 h2 => by
      cases z : F3 b with
      | none => rfl
      | some u =>
        rcases hF b (by rw [z]; intro z; cases z) with w | w
        · exact absurd h2 w
        · rw [h1] at w; cases w
    refine htd d l (wipe σ (own.map (·.2))) F3 H3 x _ hAl s4.ex hv fun r sr => ?_
    have hidx : ∀ q ∈ r, q.1 ∈ own.map (·.2) := setsP_idx sr fun q hq => (lt_idx hl2 q hq).1
    refine ⟨by rw [wipe_putsV hidx]; exact wipe_wipe σ _, ?_⟩
    unfold semTB tYes
    dsimp only
    rw [if_pos rfl]
    intro sh H0 C cl fp
    refine semE_of (pe_lst pa_nil) ?_
    refine ⟨Nat.zero_le _, fun b hb => ?_⟩
    have nD : b ≠ D' := fun z => by subst z; rw [exH _ _ q1] at hb; cases hb
    have nas : b ∉ as := fun z => by rw [exH _ _ (q7 b z).1] at hb; cases hb
    have s5 := s4.alloc (o := .lst []) hb
    refine ⟨as.map .ref, by rw [upd_ne (Ne.symm nD)]; exact exH _ _ q1, by rw [List.length_map]; omega, F3, as ++ [b], ?_, e3.trans ex4, by rw [upd_same, List.map_append]; rfl, keep D' _ q1 q2, q3, q4, ?_, by rw [List.length_append, List.length_singleton, q6], fun c hc => ?_⟩
    · exact s5.untracked (keep D' _ q1 q2) q3 q4
    · rw [← List.cons_append, List.nodup_append]
      refine ⟨q5, by simp, fun c hc e he => ?_⟩
      have he : e = b := by simpa using he
      subst he
      rcases List.mem_cons.mp hc with rfl | hc
      · exact Ne.symm nD
      · exact fun z => nas (z ▸ hc)
    · rcases List.mem_append.mp hc with hc | hc
      · obtain ⟨z1, z2, z3, z4⟩ := q7 c hc
        have h1 : c ≠ D' := fun z => (List.nodup_cons.mp q5).1 (z ▸ hc)
        have h2 : c ≠ b := fun z => nas (z ▸ hc)
        exact ⟨by rw [upd_ne h1, upd_ne h2]; exact exH _ _ z1, keep c _ z1 z2, z3, z4⟩
      · have hc : c = b := by simpa using hc
        subst hc
        exact ⟨by rw [upd_ne nD, upd_same], s4.ex.none hb, fun z => s4.there z hb, s4.h0 hb⟩
  · have s5 := s1.unwiped hwo s3 e3
    have no : ∀ b, ¬ Own (wipeE env (own.map (·.2))) b → ¬ Own env b := fun b h z => h (own_wipe' hwo z)
    have hzf : ∀ n, as.length = n → (as.zip (List.replicate n ([] : List PyData))).map Prod.fst = as := fun n hn => by
      rw [List.map_fst_zip]; rw [List.length_replicate]; omega
    refine hD.nx _ _ F2 H2 (hp D' as (fun m => s1.g6 D' m q4) q6) (s5.set (ltB hl) ?_ ?_ ?_ ?_) (e1.trans e3)
    · refine ⟨rfl, ?_, ?_, fun r hr => ?_⟩
      · rw [q1]
        congr 2
        have : ∀ L : List (Addr × List PyData), (L.map fun r => V.ref r.1) = (L.map Prod.fst).map V.ref := fun L => by rw [List.map_map]; rfl
        rw [this, hzf _ q6]
      · show (D' :: (as.zip (List.replicate xs.length [])).map Prod.fst).Nodup
        rw [hzf _ q6]; exact q5
      · obtain ⟨m1, m2⟩ := List.of_mem_zip (a := r.1) (b := r.2) hr
        rw [(List.mem_replicate.mp m2).2]
        exact ⟨[], (q7 _ m1).1, .nil⟩
    all_goals
      intro b hb
      have hb : b = D' ∨ b ∈ as := by
        have hb : b ∈ D' :: (as.zip (List.replicate xs.length [])).map Prod.fst := hb
        rw [hzf _ q6] at hb
        exact List.mem_cons.mp hb
    · rcases hb with rfl | hb
      · exact q2
      · exact (q7 b hb).2.1
    · intro j u hj hu hbu
      rcases hb with rfl | hb
      · exact no _ q3 ⟨j, u, hu, hbu⟩
      · exact no _ (q7 b hb).2.2.1 ⟨j, u, hu, hbu⟩
    · rcases hb with rfl | hb
      · exact .inl q4
      · exact .inl (q7 b hb).2.2.2
theorem w1_newOOc (i : Nat) {y : Str} {py elp : Pos} {scope : Scope} {own : List (Str × Nat)} {t : TG} {A : PyData → Option (List (Nat × PyData))} (hc : X.calm = true) (hN : X.N.Nodup) (ok : BlkOk X.N X.env.scope scope own) (hpg : ∀ s H C cl fp, PG (BX X scope s H C cl fp) tg t) (htd : TGd X.K t A) (hwo : wipeOk env (own.map (·.2)) = true)
    (h : WI X g tg iter env (fun xs => (∀ x ∈ xs, ∃ l, A x = some l ∧ (l.all fun q => (own.map (·.2)).elem q.1 && Nat.blt q.1 env.length) = true) ∧ ∀ q as, q ∉ g.M → as.length = xs.length → P.nx (env.set i (ooS q as (List.replicate xs.length [])))) (fun c => P.ex c env))
    (hy : X.N[i]? = some y := by rfl) (hx : Loc X.env.scope y := by first | exact Or.inl rfl | exact Or.inr rfl) (hl : Nat.blt i env.length = true := by rfl)
    (hsw : swapsWith (.ListComp (.List [] elp) [⟨tg, iter, [], 0⟩] scope pos) (some (.Name y py)) p.line X.env = pure false := by rfl) (hf : X.fn y = true ∨ X.env.scope.names.lookup y = some .local := by first | exact .inl rfl | exact .inr rfl) (hs : ∀ x, foldedSetIterable iter X.env x = pure x := by intro _; rfl) :
    W1 X g (.Assign [.Name y py] (.ListComp (.List [] elp) [⟨tg, iter, [], 0⟩] scope pos) p) env P := fun W tk hx2 σ F H s0 D hD => by
  refine semP_of (ps_set hN hy hx (pe_lc hc hN piS ok hpg (ptsB (by decide)) peB hs) hsw hf) ?_
  refine h W tk σ F H s0 (hx2.hx env σ) _ fun xs J F1 H1 ⟨hA, hp⟩ hlen s1 e1 ⟨GG, Y, hw, hG, hyy⟩ => fun D' hD' => ?_
  have st2 : St X.K g F1 (upd H1 D' (.lst [])) (wipe σ (own.map (·.2))) (wipeE env (own.map (·.2))) := (s1.alloc hD').wiped _
  refine lc_it hw (LJo X.K g F1 (wipe σ (own.map (·.2))) (wipeE env (own.map (·.2))) D') ⟨F1, [], st2, Ex.refl F1, upd_same, s1.ex.none hD', fun z => s1.there (own_wipe z) hD', s1.h0 hD', by simp, rfl, fun b hb => by cases hb⟩ (fun i H2 _ ⟨F2, _, s3, e3, _⟩ => hG _ (e3.trans s3.ex)) (fun i x H2 H3 hi2 hJ hY => ?_) (fun H2 ⟨F2, as, s3, e3, q1, q2, q3, q4, q5, q6, q7⟩ => ?_)
  · obtain ⟨F2, as, s3, e3, q1, q2, q3, q4, q5, q6, q7⟩ := hJ
    obtain ⟨d, hd⟩ : ∃ d, xs[i]? = some d := ⟨xs[i], by simp [hi2]⟩
    obtain ⟨F3, s4, ex4, hv, exH, hF⟩ := hyy i d hd _ _ _ hY _ _ _ _ s3 e3
    obtain ⟨l, hAl, hl2⟩ := hA d (List.mem_of_getElem? hd)
    have keep : ∀ b o, H2 b = some o → F2 b = none → F3 b = none := fun b o h1 h2 => by
      cases z : F3 b with
      | none => rfl
      | some u =>
        rcases hF b (by rw [z]; intro z; cases z) with w | w
        · exact absurd h2 w
        · rw [h1] at w; cases w
    refine htd d l (wipe σ (own.map (·.2))) F3 H3 x _ hAl s4.ex hv fun r sr => ?_
    have hidx : ∀ q ∈ r, q.1 ∈ own.map (·.2) := setsP_idx sr fun q hq => (lt_idx hl2 q hq).1
    refine ⟨by rw [wipe_putsV hidx]; exact wipe_wipe σ _, ?_⟩
    unfold semTB tYes
    dsimp only
    rw [if_pos rfl]
    intro sh H0 C cl fp
    refine semE_of (pe_lst pa_nil) ?_
    refine ⟨Nat.zero_le _, fun b hb => ?_⟩
    have nD : b ≠ D' := fun z => by subst z; rw [exH _ _ q1] at hb; cases hb
    have nas : b ∉ as := fun z => by rw [exH _ _ (q7 b z).1] at hb; cases hb
    have s5 := s4.alloc (o := .lst []) hb
    refine ⟨as.map .ref, by rw [upd_ne (Ne.symm nD)]; exact exH _ _ q1, by rw [List.length_map]; omega, F3, as ++ [b], ?_, e3.trans ex4, by rw [upd_same, List.map_append]; rfl, keep D' _ q1 q2, q3, q4, ?_, by rw [List.length_append, List.length_singleton, q6], fun c hc => ?_⟩
    · exact s5.untracked (keep D' _ q1 q2) q3 q4
    · rw [← List.cons_append, List.nodup_append]
      refine ⟨q5, by simp, fun c hc e he => ?_⟩
      have he : e = b := by simpa using he
      subst he
      rcases List.mem_cons.mp hc with rfl | hc
      · exact Ne.symm nD
      · exact fun z => nas (z ▸ hc)
    · rcases List.mem_append.mp hc with hc | hc
      · obtain ⟨z1, z2, z3, z4⟩ := q7 c hc
        have h1 : c ≠ D' := fun z => (List.nodup_cons.mp q5).1 (z ▸ hc)
        have h2 : c ≠ b := fun z => nas (z ▸ hc)
        exact ⟨by rw [upd_ne h1, upd_ne h2]; exact exH _ _ z1, keep c _ z1 z2, z3, z4⟩
      · have hc : c = b := by simpa using hc
        subst hc
        exact ⟨by rw [upd_ne nD, upd_same], s4.ex.none hb, fun z => s4.there z hb, s4.h0 hb⟩
  · have s5 := s1.unwiped hwo s3 e3
    have no : ∀ b, ¬ Own (wipeE env (own.map (·.2))) b → ¬ Own env b := fun b h z => h (own_wipe' hwo z)
    have hzf : ∀ n, as.length = n → (as.zip (List.replicate n ([] : List PyData))).map Prod.fst = as := fun n hn => by
      rw [List.map_fst_zip]; rw [List.length_replicate]; omega
    refine hD.nx _ _ F2 H2 (hp D' as (fun m => s1.g6 D' m q4) q6) (s5.set (ltB hl) ?_ ?_ ?_ ?_) (e1.trans e3)
    · refine ⟨rfl, ?_, ?_, fun r hr => ?_⟩
      · rw [q1]
        congr 2
        have : ∀ L : List (Addr × List PyData), (L.map fun r => V.ref r.1) = (L.map Prod.fst).map V.ref := fun L => by rw [List.map_map]; rfl
        rw [this, hzf _ q6]
      · show (D' :: (as.zip (List.replicate xs.length [])).map Prod.fst).Nodup
        rw [hzf _ q6]; exact q5
      · obtain ⟨m1, m2⟩ := List.of_mem_zip (a := r.1) (b := r.2) hr
        rw [(List.mem_replicate.mp m2).2]
        exact ⟨[], (q7 _ m1).1, .nil⟩
    all_goals
      intro b hb
      have hb : b = D' ∨ b ∈ as := by
        have hb : b ∈ D' :: (as.zip (List.replicate xs.length [])).map Prod.fst := hb
        rw [hzf _ q6] at hb
        exact List.mem_cons.mp hb
    · rcases hb with rfl | hb
      · exact q2
      · exact (q7 b hb).2.1
    · intro j u hj hu hbu
      rcases hb with rfl | hb
      · exact no _ q3 ⟨j, u, hu, hbu⟩
      · exact no _ (q7 b hb).2.2.1 ⟨j, u, hu, hbu⟩
    · rcases hb with rfl | hb
      · exact .inl q4
      · exact .inl (q7 b hb).2.2.2
end
theorem getT_s {kT : List (List Key × PyData)} {key : PyData} {Q : KD} {Φ : PyData → Prop} (h : getTM kT key Q) (k : ∀ r, Q r → Φ r) : ∃ q, keyT key = some q ∧ ∃ d, valP kT q = some d ∧ Φ d := by
  unfold getTM at h
  split at h
  · rename_i e1
    split at h
    · rename_i e2; exact ⟨_, e1, _, e2, k _ h⟩
    · exact h.elim
  · exact h.elim
theorem getK_s {kA : List (Key × PyData)} {key : PyData} {Q : KD} {Φ : PyData → Prop} (h : getKM kA key Q) (k : ∀ r, Q r → Φ r) : ∃ q, keyA key = some q ∧ ∃ d, valP kA q = some d ∧ Φ d := by
  unfold getKM at h
  split at h
  · rename_i e1
    split at h
    · rename_i e2; exact ⟨_, e1, _, e2, k _ h⟩
    · exact h.elim
  · exact h.elim
/-! xs.index(x), xs.reverse() -/
def lstO : PyData → KL → Prop
  | .list ds, K => K ds
  | _, _ => False
theorem lstO_sh {x : PyData} {Q Φ : KL} (h : lstO x Q) (k : ∀ r, Q r → Φ r) : ∃ ds, x = .list ds ∧ Φ ds := by
  unfold lstO at h
  split at h
  · exact ⟨_, rfl, k _ h⟩
  · exact h.elim
def indexM (ds : List PyData) (d : PyData) (K : KD) : Prop := (SeqAt.shaped (.list ds) = true ∧ SeqAt.shaped d = true) ∧ match ds.findIdx? (fun z => PyData.eqv z d) with
    | some j => K (.int (j : Nat))
    | none => False
def IndexP (Φ : PyData → Prop) (ds : List PyData) (d2 : PyData) : Prop := ∃ (j : Nat) (z : PyData), SeqAt.shaped (.list ds) = true ∧ SeqAt.shaped d2 = true ∧ ds[j]? = some z ∧ PyData.eqv z d2 = true ∧
  (∀ (m : Nat) (z' : PyData), m < j → ds[m]? = some z' → PyData.eqv z' d2 = false) ∧ Φ (.int (j : Nat))
theorem index_sh {ds : List PyData} {y : PyData} {Q : KD} {Φ : PyData → Prop} (h : indexM ds y Q) (k : ∀ r, Q r → Φ r) : IndexP Φ ds y := by
  unfold indexM at h
  obtain ⟨⟨h1, h2⟩, h⟩ := h
  split at h
  · rename_i j e
    obtain ⟨h3, h4, h5⟩ := List.findIdx?_eq_some_iff_getElem.mp e
    refine ⟨j, ds[j], h1, h2, List.getElem?_eq_getElem h3, h4, fun m z' hm hz => ?_, k _ h⟩
    obtain ⟨h6, rfl⟩ := List.getElem?_eq_some_iff.mp hz
    exact Bool.eq_false_iff.mpr (h5 m hm)
  · exact h.elim
section
variable {X : Cx} {g : G} {env : List Sl} {Ψ : Exc → Prop} {P : Po} {o e : Expr} {k0 : Nat}
theorem we_index {apos cpos : Pos} {Φ : PyData → Bool → Prop} (hr : Room k0 X.A) (h : WE X g o env (fun d1 z1 => z1 = true ∧ ∃ ds, d1 = .list ds ∧ WE X g e env (fun d2 z2 => z2 = true ∧ IndexP (fun d => Φ d true) ds d2) Ψ) Ψ)
    (hbase : attributeBase o "index" X.env (eval o X.env) = eval o X.env := by rfl)
    (hfew : ((backTo cpos (starEach [e] X.env)).all (fun x => !x.1) && (backToKw cpos (keywordEach [] X.env)).all (fun x => x.1.isSome)
      && decide ([e].length + ([] : List Keyword).length + (if ([] : List Keyword).isEmpty then 0 else 1) < 30)) = true := by rfl)
    (hline : (apos.endLine == cpos.line) = true := by rfl) (hs1 : starEach [e] X.env = (false, eval e X.env) :: starEach [] X.env := by rfl) (hplain : (backTo cpos (starEach ([] : List Expr) X.env)).any (·.1) = false := by rfl) :
    WE X g (.Call (.Attribute o "index" apos) [e] [] cpos) env Φ Ψ := fun W tk σ F H st hx Q hQ => by
  refine semE_of (pe_bm PySem.F.plainAttrs_list PySem.F.slot_list_index PySem.F.type_list_index (mt_indexD (units65 hr)) (peS o) (pa_cons (peS e) pa_nil hs1) hbase hfew hline hs1 hplain) ?_
  refine h W tk σ F H st hx _ fun d1 z1 v1 F1 H1 ⟨hz, ds, hd, hw⟩ s1 e1 r1 => ?_
  subst hz hd
  refine ⟨?_, ?_⟩
  · obtain ⟨a, vs, rfl, hl, hds⟩ := rd_lst (z := true) s1.toSk r1
    exact .inl ⟨rfl, vs, hl⟩
  refine hw W tk σ F1 H1 s1 hx _ fun d2 z2 v2 F2 H2 ⟨hz, j, z, g1, g2, g3, g4, g5, hp⟩ s2 e2 r2 => ?_
  subst hz
  have q1 := dp_mono e2 _ _ r1
  obtain ⟨a, vs, rfl, hl, hds⟩ := dp_lst q1
  exact ⟨a, v2, d2, ds, j, z, rfl, rfl, rd_nowP (z := true) s2.toSk q1 g1, rd_nowP (z := true) s2.toSk r2 g2, g1, g2, g3, g4, g5, hQ _ true _ F2 H2 hp s2 (e1.trans e2) (.int _)⟩
/-- x.reverse(), x.clear() -/
theorem w1_reverse (i : Nat) {x : Str} {q apos cpos pos : Pos} {al : Addr} {ds : List PyData} (he : env[i]? = some (.ol al ds)) (h : P.nx (env.set i (.ol al ds.reverse))) (hN : X.N[i]? = some x := by rfl)
    (hv : Vis X.env.scope x := by first | exact Or.inl rfl | exact Or.inr (Or.inl rfl) | exact Or.inr (Or.inr rfl)) (hd : (x == ("__debug__" : Str)) = false := by decide)
    (hcd : (x == ("__classdict__" : Str)) = false := by decide)
    (hbase : attributeBase (.Name x q) "reverse" X.env (eval (.Name x q) X.env) = eval (.Name x q) X.env := by rfl) (hline : (apos.endLine == cpos.line) = true := by rfl)
    (hs : swapsWith (.Call (.Attribute (.Name x q) "reverse" apos) [] [] cpos) none pos.line X.env = pure false := by rfl) :
    W1 X g (.Expr (.Call (.Attribute (.Name x q) "reverse" apos) [] [] cpos) pos) env P := fun W tk hx2 σ F H s0 D hD => by
  refine semP_of (ps_expr (pe_bm0 PySem.F.plainAttrs_list PySem.F.slot_list_reverse PySem.F.type_list_reverse mt_reverse (pe_var hN hv hd hcd) hbase hline) hs) ?_
  obtain ⟨h1, vs, h2, h3⟩ := s0.sl i _ he
  refine ⟨_, getD_some h1, .inl ⟨rfl, vs, SqL.of h2⟩, ?_⟩
  refine ⟨al, vs, rfl, rfl, h2, ?_⟩
  exact hD.nx _ _ F _ h (s0.write he rfl rfl ⟨h1, vs.reverse, upd_same, dpa_rev h3⟩) (Ex.refl F)
theorem w1_clear (i : Nat) {x : Str} {q apos cpos pos : Pos} {al : Addr} {ds : List PyData} (he : env[i]? = some (.ol al ds)) (h : P.nx (env.set i (.ol al []))) (hN : X.N[i]? = some x := by rfl)
    (hv : Vis X.env.scope x := by first | exact Or.inl rfl | exact Or.inr (Or.inl rfl) | exact Or.inr (Or.inr rfl)) (hd : (x == ("__debug__" : Str)) = false := by decide)
    (hcd : (x == ("__classdict__" : Str)) = false := by decide)
    (hbase : attributeBase (.Name x q) "clear" X.env (eval (.Name x q) X.env) = eval (.Name x q) X.env := by rfl) (hline : (apos.endLine == cpos.line) = true := by rfl)
    (hs : swapsWith (.Call (.Attribute (.Name x q) "clear" apos) [] [] cpos) none pos.line X.env = pure false := by rfl) :
    W1 X g (.Expr (.Call (.Attribute (.Name x q) "clear" apos) [] [] cpos) pos) env P := fun W tk hx2 σ F H s0 D hD => by
  refine semP_of (ps_expr (pe_bm0 PySem.F.plainAttrs_list PySem.F.slot_list_clear PySem.F.type_list_clear mt_clear (pe_var hN hv hd hcd) hbase hline) hs) ?_
  obtain ⟨h1, vs, h2, h3⟩ := s0.sl i _ he
  refine ⟨_, getD_some h1, .inl ⟨rfl, vs, SqL.of h2⟩, ?_⟩
  refine ⟨al, vs, rfl, rfl, h2, ?_⟩
  exact hD.nx _ _ F _ h (s0.write he rfl rfl ⟨h1, [], upd_same, .nil⟩) (Ex.refl F)
end
end TL

namespace TL
open PySem PySem.Spec PyProof.Rows L2
/-! try: clauses by class name; the named classes stand right under PinchError -/
def isE (m n : Str) : Bool := decide (m = n) || decide (n = "PinchError")
def hdC : List (Str × Prop) → Str → Prop → Prop
  | [], _, K => K
  | (n, H) :: r, m, K => (isE m n = true → H) ∧ (isE m n = false → hdC r m K)
def hdM (kn : List Str) (hs : List (Str × Prop)) (E : Exc → Prop) : Exc → Prop
  | .own m => m ∈ kn ∧ hdC hs m (E (.own m))
def tryM (bd : (Exc → Prop) → Prop) (kn : List Str) (hs : List (Str × Prop)) (E : Exc → Prop) : Prop := bd (hdM kn hs E)
theorem exm_nil {K : Frag} {n : Str} : ∀ m ∈ ([] : List Str), ExM K (.own m) n = some (isE m n) := fun _ h => by cases h
theorem exm_cons {K : Frag} {n a : Str} {l : List Str} {b : Bool} (h : ExM K (.own a) n = some b) (r : ∀ m ∈ l, ExM K (.own m) n = some (isE m n)) (e : isE a n = b := by rfl) : ∀ m ∈ a :: l, ExM K (.own m) n = some (isE m n) := fun m hm => by
  rcases List.mem_cons.mp hm with rfl | hm
  · rw [h, e]
  · exact r m hm
section
variable {X : Cx} {g : G} {env : List Sl} {P : Po} {pos : Pos} {body : List Stmt}
theorem w1_tryS {h₀ : ExceptHandler} {hds : List ExceptHandler} {l : List (Str × List Stmt)} {bd : (Exc → Prop) → Prop} {kn : List Str} {hs : List (Str × Prop)} {E : Exc → Prop} (hm : tryM bd kn hs E) (hr : HdR X (h₀ :: hds) l)
    (hH : ∀ m, m ∈ kn → hdC hs m (E (.own m)) → TryH X g P l (.own m) env)
    (hb : bd (hdM kn hs E) → ∀ (pn : List (Addr × Obj)) (xe : Value → Shared → Prop) (F : Hp), PassesOwn (model X.prog X.w) X.A X.env xe → WS (X.tr pn xe) { g with F0 := F } body env (P.exn fun c e => hdM kn hs E c ∧ e = env))
    (hst : X.stack = X.env :: X.outer := by rfl) (hf : X.env.frame = some X.env.locals := by rfl) : W1 X g (.Try body (h₀ :: hds) [] [] pos) env P := by
  refine w1_try hr (fun pn xe F hp => ?_) hst hf
  refine (hb hm pn xe F hp).mono (fun _ q => q) (fun _ _ q => q) (fun _ q => q) (fun _ q => q) fun c e ⟨h1, h2⟩ => ?_
  subst h2
  cases c with
  | own m => exact hH m h1.1 h1.2
end
end TL

namespace TL
open PySem PySem.Spec PyProof.Rows L2
/-! dicts that are read alone: data; a dict by tuples bears a mark ahead -/
def dTd (m : List (List Key × PyData)) : PyData := .dict ((.none, .none) :: m.map fun kv => (.tuple (kv.1.map kD), kv.2))
def dKd (m : List (Key × PyData)) : PyData := .dict (m.map fun kv => (kD kv.1, kv.2))
def asT : List (PyData × PyData) → Option (List (List Key × PyData))
  | [] => some []
  | (k, d) :: r => match keyT k, asT r with
    | some q, some l => some ((q, d) :: l)
    | _, _ => none
def asK : List (PyData × PyData) → Option (List (Key × PyData))
  | [] => some []
  | (k, d) :: r => match keyA k, asK r with
    | some q, some l => some ((q, d) :: l)
    | _, _ => none
theorem keyA_kD (k : Key) : keyA (kD k) = some k := by cases k <;> rfl
theorem keyAs_kD : ∀ k : List Key, keyAs (k.map kD) = some k
  | [] => rfl
  | x :: r => by
    show (match keyA (kD x), keyAs (r.map kD) with | some k, some l => some (k :: l) | _, _ => none) = _
    rw [keyA_kD, keyAs_kD r]
theorem keyT_kD (k : List Key) : keyT (.tuple (k.map kD)) = some k := keyAs_kD k
theorem keyT_at (k : Key) : keyT (kD k) = none := by cases k <;> rfl
theorem asT_of : ∀ m : List (List Key × PyData), asT (m.map fun kv => (.tuple (kv.1.map kD), kv.2)) = some m
  | [] => rfl
  | (k, d) :: r => by
    show (match keyT (.tuple (k.map kD)), asT (r.map fun kv => (.tuple (kv.1.map kD), kv.2)) with | some q, some l => some ((q, d) :: l) | _, _ => none) = _
    rw [keyT_kD, asT_of r]
theorem asK_of : ∀ m : List (Key × PyData), asK (m.map fun kv => (kD kv.1, kv.2)) = some m
  | [] => rfl
  | (k, d) :: r => by
    show (match keyA (kD k), asK (r.map fun kv => (kD kv.1, kv.2)) with | some q, some l => some ((q, d) :: l) | _, _ => none) = _
    rw [keyA_kD, asK_of r]
theorem asT_eq : ∀ {l : List (PyData × PyData)} {m : List (List Key × PyData)}, asT l = some m → l = m.map fun kv => (.tuple (kv.1.map kD), kv.2)
  | [], _, h => by cases h; rfl
  | (k, d) :: r, _, h => by
    unfold asT at h
    split at h
    · rename_i e1 e2
      cases h
      rw [keyT_eq e1, asT_eq e2]; rfl
    · cases h
theorem asK_eq : ∀ {l : List (PyData × PyData)} {m : List (Key × PyData)}, asK l = some m → l = m.map fun kv => (kD kv.1, kv.2)
  | [], _, h => by cases h; rfl
  | (k, d) :: r, _, h => by
    unfold asK at h
    split at h
    · rename_i e1 e2
      cases h
      rw [keyA_eq e1, asK_eq e2]; rfl
    · cases h
/-- a dict as data: by tuples, by atoms -/
def dictO : PyData → Option (List (List Key × PyData) ⊕ List (Key × PyData))
  | .dict l => match asK l with
    | some m => some (.inr m)
    | none => match l with
      | (.none, .none) :: r => match asT r with
        | some m => some (.inl m)
        | none => none
      | _ => none
  | _ => none
theorem dictO_T (m : List (List Key × PyData)) : dictO (dTd m) = some (.inl m) := by
  show (match asT (m.map fun kv => (.tuple (kv.1.map kD), kv.2)) with | some m => some (Sum.inl m) | none => none) = _
  rw [asT_of]
theorem dictO_K (m : List (Key × PyData)) : dictO (dKd m) = some (.inr m) := by
  unfold dictO dKd
  dsimp only
  rw [asK_of]
theorem dictO_t {d : PyData} {m : List (List Key × PyData)} (h : dictO d = some (.inl m)) : d = dTd m := by
  unfold dictO at h
  split at h
  · split at h
    · cases h
    · split at h
      · split at h
        · rename_i e; cases h; rw [asT_eq e]; rfl
        · cases h
      · cases h
  · cases h
theorem dictO_k {d : PyData} {m : List (Key × PyData)} (h : dictO d = some (.inr m)) : d = dKd m := by
  unfold dictO at h
  split at h
  · split at h
    · rename_i e; cases h; rw [asK_eq e]; rfl
    · split at h
      · split at h <;> cases h
      · cases h
  · cases h
/-- d[k], k in d -/
def getDM (d key : PyData) (K : KD) : Prop := match dictO d with
  | some (.inl m) => getTM m key K
  | some (.inr m) => getKM m key K
  | none => False
def inDM (d key : PyData) (K : KB) : Prop := match dictO d with
  | some (.inl m) => inTM m key K
  | some (.inr m) => inKM m key K
  | none => False
theorem q_getD' {m : List (List Key × PyData)} {key : PyData} {K : KD} : getDM (dTd m) key K = getTM m key K := by unfold getDM; rw [dictO_T]
theorem q_inD' {m : List (List Key × PyData)} {key : PyData} {K : KB} : inDM (dTd m) key K = inTM m key K := by unfold inDM; rw [dictO_T]
theorem q_getDK {m : List (Key × PyData)} {key : PyData} {K : KD} : getDM (dKd m) key K = getKM m key K := by unfold getDM; rw [dictO_K]
theorem q_inDK {m : List (Key × PyData)} {key : PyData} {K : KB} : inDM (dKd m) key K = inKM m key K := by unfold inDM; rw [dictO_K]
theorem q_getD {m : List (List Key × PyData)} {key : PyData} {K : KD} (_ : m ≠ []) : getDM (dTd m) key K = getTM m key K := q_getD'
theorem q_inD {m : List (List Key × PyData)} {key : PyData} {K : KB} (_ : m ≠ []) : inDM (dTd m) key K = inTM m key K := q_inD'
section
variable {K : Frag} {F : Hp}
theorem kvp_dqt : ∀ {xs : List (List Key × V)} {m : List (List Key × PyData)}, KVp K F xs m → DqT K F xs (m.map fun kv => (.tuple (kv.1.map kD), kv.2))
  | _, _, .nil => .nil
  | (k1, v1) :: _, (k2, d2) :: _, .cons h t => by
    obtain ⟨h1, h2⟩ := h
    have h1 : k1 = k2 := h1
    subst h1
    exact .cons h2 (kvp_dqt t)
theorem kvp_dqk : ∀ {xs : List (Key × V)} {m : List (Key × PyData)}, KVp K F xs m → DqK K F xs (m.map fun kv => (kD kv.1, kv.2))
  | _, _, .nil => .nil
  | (k1, v1) :: _, (k2, d2) :: _, .cons h t => by
    obtain ⟨h1, h2⟩ := h
    have h1 : k1 = k2 := h1
    subst h1
    exact .cons h2 (kvp_dqk t)
theorem dqt_as : ∀ {xs : List (List Key × V)} {kvs : List (PyData × PyData)}, DqT K F xs kvs → ∃ m, asT kvs = some m ∧ KVp K F xs m
  | _, _, .nil => ⟨[], rfl, .nil⟩
  | _, _, .cons (k := k) (d := d) (ds := ds) h t => by
    obtain ⟨m, e, r⟩ := dqt_as t
    refine ⟨(k, d) :: m, ?_, .cons ⟨rfl, h⟩ r⟩
    show (match keyT (.tuple (k.map kD)), asT ds with | some q, some l => some ((q, d) :: l) | _, _ => none) = _
    rw [keyT_kD, e]
theorem dqk_as : ∀ {xs : List (Key × V)} {kvs : List (PyData × PyData)}, DqK K F xs kvs → ∃ m, asK kvs = some m ∧ KVp K F xs m
  | _, _, .nil => ⟨[], rfl, .nil⟩
  | _, _, .cons (k := k) (d := d) (ds := ds) h t => by
    obtain ⟨m, e, r⟩ := dqk_as t
    refine ⟨(k, d) :: m, ?_, .cons ⟨rfl, h⟩ r⟩
    show (match keyA (kD k), asK ds with | some q, some l => some ((q, d) :: l) | _, _ => none) = _
    rw [keyA_kD, e]
theorem dq_dT {v : V} {m : List (List Key × PyData)} (h : Dq K F v (dTd m)) : ∃ a xs, v = .ref a ∧ F a = some (.dT xs) ∧ KVp K F xs m := by
  unfold dTd at h
  cases h with
  | dct hs ht =>
    obtain ⟨m', e1, e2⟩ := dqt_as ht
    rw [asT_of] at e1
    cases e1
    exact ⟨_, _, rfl, hs, e2⟩
  | dck hs ht =>
    generalize hk : ((PyData.none, PyData.none) :: m.map fun kv => (PyData.tuple (kv.1.map kD), kv.2)) = kvs at ht
    cases ht with
    | nil => cases hk
    | cons h t => rename_i k _ _ _ _; injection hk with e1 _; injection e1 with e1 _; cases k <;> cases e1
theorem dq_dK {v : V} {m : List (Key × PyData)} (h : Dq K F v (dKd m)) : ∃ a xs, v = .ref a ∧ F a = some (.dK xs) ∧ KVp K F xs m := by
  unfold dKd at h
  generalize hk : (m.map fun kv => (kD kv.1, kv.2)) = kvs at h
  cases h with
  | dct hs ht =>
    cases m with
    | nil => cases hk
    | cons a m => injection hk with e1 _; injection e1 with e1 _; obtain ⟨k, _⟩ := a; cases k <;> cases e1
  | dck hs ht =>
    obtain ⟨m', e1, e2⟩ := dqk_as ht
    rw [← hk, asK_of] at e1
    cases e1
    exact ⟨_, _, rfl, hs, e2⟩
end
/-- what a look tells: the walk's side -/
def GetD (d key : PyData) (o : Option PyData) : Prop := (∃ m q, d = dTd m ∧ keyT key = some q ∧ valP m q = o) ∨ ∃ m q, d = dKd m ∧ keyA key = some q ∧ valP m q = o
theorem getD_s {d key : PyData} {Q : KD} {Φ : PyData → Prop} (h : getDM d key Q) (k : ∀ r, Q r → Φ r) : ∃ x, GetD d key (some x) ∧ Φ x := by
  unfold getDM at h
  split at h
  · rename_i m e
    obtain ⟨q, e1, x, e2, h⟩ := getT_s h k
    exact ⟨x, .inl ⟨m, q, dictO_t e, e1, e2⟩, h⟩
  · rename_i m e
    obtain ⟨q, e1, x, e2, h⟩ := getK_s h k
    exact ⟨x, .inr ⟨m, q, dictO_k e, e1, e2⟩, h⟩
  · exact h.elim
theorem inD_s {d key : PyData} {Q Φ : KB} (h : inDM d key Q) (k : ∀ r, Q r → Φ r) : ∃ o, GetD d key o ∧ Φ o.isSome := by
  unfold inDM at h
  split at h
  · rename_i m e
    obtain ⟨q, e1, h⟩ := inT_sh h k
    exact ⟨_, .inl ⟨m, q, dictO_t e, e1, rfl⟩, h⟩
  · rename_i m e
    obtain ⟨q, e1, h⟩ := inK_sh h k
    exact ⟨_, .inr ⟨m, q, dictO_k e, e1, rfl⟩, h⟩
  · exact h.elim
theorem inD_sn {d key : PyData} {Q Φ : KB} (h : inDM d key Q) (k : ∀ r, Q r → Φ (!r)) : ∃ o, GetD d key o ∧ Φ (!o.isSome) := inD_s (Φ := fun r => Φ (!r)) h k
theorem isD_of {K : Frag} {F H : Hp} {v : V} {d key : PyData} {o : Option PyData} (h : GetD d key o) (hd : Dq K F v d) (ex : Ex F H) : ∃ a, v = .ref a ∧ IsD H a := by
  rcases h with ⟨m, q, rfl, _⟩ | ⟨m, q, rfl, _⟩
  · obtain ⟨a, xs, rfl, hs, _⟩ := dq_dT hd
    exact ⟨a, rfl, .inr ⟨xs, .inl (ex _ _ hs)⟩⟩
  · obtain ⟨a, xs, rfl, hs, _⟩ := dq_dK hd
    exact ⟨a, rfl, .inl ⟨xs, .inl (ex _ _ hs)⟩⟩
theorem getD_run {K : Frag} {F H : Hp} {v kv : V} {d key : PyData} {o : Option PyData} (h : GetD d key o) (hd : Dq K F v d) (hk : Dq K F kv key) (ex : Ex F H) : ∃ (a : Addr) (ov : Option V), v = .ref a ∧ DGet H a kv ov ∧ ov.isSome = o.isSome ∧ ∀ x, o = some x → ∃ w, ov = some w ∧ Dq K F w x := by
  rcases h with ⟨m, q, rfl, e4, e5⟩ | ⟨m, q, rfl, e4, e5⟩
  · obtain ⟨a, vs, rfl, hs, e2⟩ := dq_dT hd
    obtain ⟨t, rfl, ht⟩ := keyT_dp hk e4
    obtain ⟨w1, w2⟩ := kvp_val (k := q) e2
    exact ⟨a, valV vs q, rfl, DGet.t (ex _ _ hs) (ex _ _ ht), by rw [w2, e5], fun x hx => w1 x (e5.trans hx)⟩
  · obtain ⟨a, vs, rfl, hs, e2⟩ := dq_dK hd
    have hv := keyA_dp hk e4
    subst hv
    obtain ⟨w1, w2⟩ := kvp_val (k := q) e2
    exact ⟨a, valV vs q, rfl, DGet.k (ex _ _ hs), by rw [w2, e5], fun x hx => w1 x (e5.trans hx)⟩
section
variable {X : Cx} {g : G} {env env' : List Sl} {Ψ : Exc → Prop} {P : Po} {pos p : Pos} {a b c e : Expr} {es : List Expr} {rest body : List Stmt} {k0 : Nat}
theorem we_getD {Φ : PyData → Bool → Prop} (hr : Room k0 X.A) (h : WE X g a env (fun d z => z = true ∧ WE X g b env (fun kd z => z = true ∧ ∃ x, GetD d kd (some x) ∧ Φ x true) Ψ) Ψ) (hs : NoSl b := by exact fun _ _ => rfl) : WE X g (.Subscript a b pos) env Φ Ψ := fun W tk σ F H st hx Q hQ => by
  refine semE_of (pe_dget (by have := hr.units; omega) (peS a) (peS b) hs) ?_
  refine h W tk σ F H st hx _ fun d z v F1 H1 ⟨hz, h2⟩ s1 e1 r1 => ?_
  subst hz
  refine h2 W tk σ F1 H1 s1 hx _ fun kd z w F2 H2 ⟨hz, x, hg, hp⟩ s2 e2 r2 => ?_
  subst hz
  obtain ⟨al, ov, rfl, g1, g2, g3⟩ := getD_run hg (dp_mono e2 _ _ r1) r2 s2.ex
  obtain ⟨u, rfl, g4⟩ := g3 x rfl
  exact ⟨al, u, rfl, g1, hQ x true u F2 H2 hp s2 (e1.trans e2) g4⟩
theorem wt_inD {Φ : KB} (hr : Room k0 X.A) (h : WE X g a env (fun kd z => z = true ∧ WE X g b env (fun d z => z = true ∧ ∃ o, GetD d kd o ∧ Φ o.isSome) Ψ) Ψ) (hm : behindInMarks .In b = false := by first | exact nomark _ | rfl) : WT X g (.Compare a [.In] [b] pos) env Φ Ψ := fun W tk σ F H st hx Q hQ => by
  refine semT_of (pt_cmp (pc_din (by have := hr.units; omega) (peS a) (peS b)) hm) ?_
  refine h W tk σ F H st hx _ fun kd z w F1 H1 ⟨hz, h2⟩ s1 e1 r1 => ?_
  subst hz
  refine h2 W tk σ F1 H1 s1 hx _ fun d z v F2 H2 ⟨hz, o, hg, hp⟩ s2 e2 r2 => ?_
  subst hz
  obtain ⟨al, ov, rfl, g1, g2, g3⟩ := getD_run hg r2 (dp_mono e2 _ _ r1) s2.ex
  refine ⟨al, ov, rfl, g1, _, rfl, ?_⟩
  rw [g2]
  exact hQ _ F2 H2 hp s2 (e1.trans e2)
theorem wt_notInD {Φ : KB} (hr : Room k0 X.A) (h : WE X g a env (fun kd z => z = true ∧ WE X g b env (fun d z => z = true ∧ ∃ o, GetD d kd o ∧ Φ (!o.isSome)) Ψ) Ψ) (hm : behindInMarks .NotIn b = false := by first | exact nomark _ | rfl) : WT X g (.Compare a [.NotIn] [b] pos) env Φ Ψ := fun W tk σ F H st hx Q hQ => by
  refine semT_of (pt_cmp (pc_dnotin (by have := hr.units; omega) (peS a) (peS b)) hm) ?_
  refine h W tk σ F H st hx _ fun kd z w F1 H1 ⟨hz, h2⟩ s1 e1 r1 => ?_
  subst hz
  refine h2 W tk σ F1 H1 s1 hx _ fun d z v F2 H2 ⟨hz, o, hg, hp⟩ s2 e2 r2 => ?_
  subst hz
  obtain ⟨al, ov, rfl, g1, g2, g3⟩ := getD_run hg r2 (dp_mono e2 _ _ r1) s2.ex
  refine ⟨al, ov, rfl, g1, _, rfl, ?_⟩
  rw [g2]
  exact hQ _ F2 H2 hp s2 (e1.trans e2)
/-- a new dict, read alone from here on -/
theorem we_dict {Φ : PyData → Bool → Prop} (h : WDt X g e env (fun kvs => Φ (dTd kvs) true) Ψ) : WE X g e env Φ Ψ := fun W tk σ F H st hx Q hQ => by
  refine h W tk σ F H st hx _ fun kvs v F' H' hp s' e' ⟨q, xs, hv, h1, h2, h3, h4, h5⟩ => ?_
  subst hv
  have e2 := Ex.new (o := .dT xs) h3
  exact hQ _ true (.ref q) (upd F' q (.dT xs)) H' hp (s'.freeze h1 h3 h4 h5) (e'.trans e2) (.dct upd_same (dqt_mono e2 _ _ (kvp_dqt h2)))
theorem ws_freezeT (i : Nat) {al : Addr} {kvs : List (List Key × PyData)} (ha : al ∉ g.M) (h : WS X g rest (env.set i (.d (dTd kvs))) P) (he : env[i]? = some (.dt al kvs) := by rfl) : WS X g rest env P := fun W tk hx2 σ F H st D hD => by
  obtain ⟨h1, vs, h2, h3⟩ := st.sl i _ he
  have own : Own env al := ⟨i, _, he, by simp [Sl.fp]⟩
  have hi := (List.getElem?_eq_some_iff.mp he).1
  have s1 := st.weak (s' := .un) he (fun _ h => by cases h) fun _ => trivial
  have no : ¬ Own (env.set i .un) al := fun z => by
    obtain ⟨j, t, ej, ht⟩ := z
    rcases set_get ej with ⟨_, rfl⟩ | ⟨ne, ej⟩
    · cases ht
    · exact ne (st.nd i j _ t al he ej (by simp [Sl.fp]) ht)
  have h0 : g.H0 al = none := by
    rcases st.g2 al own with z | z
    · exact z
    · exact absurd z ha
  have e2 := Ex.new (o := .dT vs) (st.fr al own)
  have s2 := s1.freeze h2 (st.fr al own) no h0
  have hσ : σ.set i (some (.ref al)) = σ := by
    have hl : i < σ.length := by rw [st.len]; exact hi
    have e := getD_some h1
    obtain ⟨_, e'⟩ := List.getElem?_eq_some_iff.mp e
    rw [← e']
    exact List.set_getElem_self hl
  have s3 := s2.setD (i := i) (v := .ref al) (x := dTd kvs) (by rw [List.length_set]; exact hi) (.dct upd_same (dqt_mono e2 _ _ (kvp_dqt h3)))
  rw [hσ, List.set_set] at s3
  exact h W tk hx2 σ _ H s3 D (hD.mono e2)
theorem ws_freezeK (i : Nat) {al : Addr} {kvs : List (Key × PyData)} (ha : al ∉ g.M) (h : WS X g rest (env.set i (.d (dKd kvs))) P) (he : env[i]? = some (.dk al kvs) := by rfl) : WS X g rest env P := fun W tk hx2 σ F H st D hD => by
  obtain ⟨h1, vs, h2, h3⟩ := st.sl i _ he
  have own : Own env al := ⟨i, _, he, by simp [Sl.fp]⟩
  have hi := (List.getElem?_eq_some_iff.mp he).1
  have s1 := st.weak (s' := .un) he (fun _ h => by cases h) fun _ => trivial
  have no : ¬ Own (env.set i .un) al := fun z => by
    obtain ⟨j, t, ej, ht⟩ := z
    rcases set_get ej with ⟨_, rfl⟩ | ⟨ne, ej⟩
    · cases ht
    · exact ne (st.nd i j _ t al he ej (by simp [Sl.fp]) ht)
  have h0 : g.H0 al = none := by
    rcases st.g2 al own with z | z
    · exact z
    · exact absurd z ha
  have e2 := Ex.new (o := .dK vs) (st.fr al own)
  have s2 := s1.freeze h2 (st.fr al own) no h0
  have hσ : σ.set i (some (.ref al)) = σ := by
    have hl : i < σ.length := by rw [st.len]; exact hi
    have e := getD_some h1
    obtain ⟨_, e'⟩ := List.getElem?_eq_some_iff.mp e
    rw [← e']
    exact List.set_getElem_self hl
  have s3 := s2.setD (i := i) (v := .ref al) (x := dKd kvs) (by rw [List.length_set]; exact hi) (.dck upd_same (dqk_mono e2 _ _ (kvp_dqk h3)))
  rw [hσ, List.set_set] at s3
  exact h W tk hx2 σ _ H s3 D (hD.mono e2)
end
/-! list(range(..)) -/
theorem dqa_map {α : Type} {K : Frag} {F : Hp} (f : α → V) (d : α → PyData) (h : ∀ a, Dq K F (f a) (d a)) : ∀ L : List α, DqAll K F (L.map f) (L.map d)
  | [] => .nil
  | a :: r => .cons (h a) (dqa_map f d h r)
theorem dqa_rg {K : Frag} {F : Hp} (a b : Int) : DqAll K F (rgV a b) (rangeL a b) := dqa_map _ _ (fun i => .int _) _
section
variable {X : Cx} {g : G} {env : List Sl} {Ψ : Exc → Prop} {pos p p1 p2 : Pos} {a b : Expr} {Φ : List PyData → Prop}
theorem wn_lrg1 (hc : X.calm = true) (hl : X.mg "list" = none) (hm : X.mg "range" = none) (h : WE X g a env (fun d1 _ => rngM (.int 0) d1 Φ) Ψ) (hg : Gl X "list" := by rfl) (hg2 : Gl X "range" := by rfl)
    (he : starEach [a] X.env = (false, eval a X.env) :: starEach [] X.env := by rfl) (he2 : starEach [Expr.Call (.Name "range" p1) [a] [] p2] X.env = (false, eval (.Call (.Name "range" p1) [a] [] p2) X.env) :: starEach [] X.env := by rfl) : WN X g (.Call (.Name "list" p) [.Call (.Name "range" p1) [a] [] p2] [] pos) env Φ Ψ := fun W tk σ F H st hx Q hQ => by
  refine semE_of (pe_listRg hc hg hl (prg_1 hg2 hm (peS a) he) he2) ?_
  refine h W tk σ F H st hx _ fun d z v F1 H1 h1 s1 e1 r1 => ?_
  cases d with
  | int j =>
    obtain ⟨hb, hi⟩ : (-1000000 ≤ (0 : Int) ∧ (0 : Int) ≤ 1000000 ∧ -1000000 ≤ j ∧ j ≤ 1000000) ∧ Φ (rangeL 0 j) := h1
    rw [rd_int r1]
    exact ⟨j, rfl, ⟨by omega, by omega, by omega, by omega, by omega⟩, fun q hn => put_new s1 hn (dqa_rg 0 j) hi fun ds v F' H' hp s e r => hQ ds v F' H' hp s (e1.trans e) r⟩
  | _ => exact h1.elim
theorem wn_lrg2 (hc : X.calm = true) (hl : X.mg "list" = none) (hm : X.mg "range" = none) (h : WE X g a env (fun d1 _ => WE X g b env (fun d2 _ => rngM d1 d2 Φ) Ψ) Ψ) (hg : Gl X "list" := by rfl) (hg2 : Gl X "range" := by rfl)
    (he : starEach [a, b] X.env = (false, eval a X.env) :: starEach [b] X.env := by rfl) (he3 : starEach [b] X.env = (false, eval b X.env) :: starEach [] X.env := by rfl) (hpl : (backTo p2 (starEach [b] X.env)).any (·.1) = false := by rfl) (he2 : starEach [Expr.Call (.Name "range" p1) [a, b] [] p2] X.env = (false, eval (.Call (.Name "range" p1) [a, b] [] p2) X.env) :: starEach [] X.env := by rfl) : WN X g (.Call (.Name "list" p) [.Call (.Name "range" p1) [a, b] [] p2] [] pos) env Φ Ψ := fun W tk σ F H st hx Q hQ => by
  refine semE_of (pe_listRg hc hg hl (prg_2 hg2 hm (peS a) (peS b) he he3 hpl) he2) ?_
  refine h W tk σ F H st hx _ fun d0 z0 v0 F0 H0 h0 s0 e0 r0 => ?_
  refine h0 W tk σ F0 H0 s0 hx _ fun d z v F1 H1 h1 s1 e1 r1 => ?_
  cases d0 with
  | int i =>
    cases d with
    | int j =>
      obtain ⟨hb, hi⟩ : (-1000000 ≤ i ∧ i ≤ 1000000 ∧ -1000000 ≤ j ∧ j ≤ 1000000) ∧ Φ (rangeL i j) := h1
      rw [rd_int r1, rd_int r0]
      exact ⟨i, j, rfl, rfl, ⟨by omega, by omega, by omega, by omega, by omega⟩, fun q hn => put_new s1 hn (dqa_rg i j) hi fun ds v F' H' hp s e r => hQ ds v F' H' hp s ((e0.trans e1).trans e) r⟩
    | _ => exact h1.elim
  | _ => exact h1.elim
end
/-! a chain of three comparisons -/
section
variable {X : Cx} {ta tb tc td : TE} {a b c d : Expr} {pos : Pos}
def tChain3 (r r' r2 : R2) (ta tb tc td : TE) : TE := fun σ H Q => ta σ H fun x H1 => tb σ H1 fun y H2 => r x y H2 fun z H3 => ∃ k, z = .bl k ∧
  (if k = true then tc σ H3 fun w' H4 => r' y w' H4 fun z2 H5 => ∃ k2, z2 = .bl k2 ∧ (if k2 = true then td σ H5 fun v' H6 => r2 w' v' H6 Q else Q (.bl false) H5) else Q (.bl false) H3)
theorem pe_chain3 {op op' op2 : CmpOp} {r r' r2 : R2} (ho : OpR X (compareOp op) r) (ho' : OpR X (compareOp op') r') (ho2 : OpR X (compareOp op2) r2) (ha : PE X a ta) (hb : PE X b tb) (hc : PE X c tc) (hd : PE X d td)
    (hm : lastMarks [op, op', op2] [b, c, d] = false) : PE X (.Compare a [op, op', op2] [b, c, d] pos) (tChain3 r r' r2 ta tb tc td) := by
  refine ⟨fun pins s σ H Q I h => ?_⟩
  refine Compare_chain (thn (ha.run pins s σ H _ I h) fun v s1 ⟨x, H1, I1, r1, q1⟩ => chain_link (thn (hb.run pins s1 σ H1 _ I1 q1) fun u s2 ⟨y, H2, I2, rr2, q2⟩ =>
    thn (ho pins s2 σ H2 x y v u _ I2 r1 rr2 q2) fun d s3 ⟨z, H3, I3, r3, k, e, q3⟩ => ?_)) hm
  subst e
  cases r3
  refine wpAny_truthy_bool ?_
  cases k with
  | false => exact ite_ff ⟨.bl false, H3, I3, rfl, q3⟩
  | true =>
    refine ite_tt (chain_link (thn (hc.run pins s3 σ H3 _ I3 q3) fun w' s4 ⟨z', H4, I4, r4, q4⟩ => thn (ho' pins s4 σ H4 y z' u w' _ I4 rr2 r4 q4) fun d' s5 ⟨z5, H5, I5, r5, k2, e2, q5⟩ => ?_))
    subst e2
    cases r5
    refine wpAny_truthy_bool ?_
    cases k2 with
    | false => exact ite_ff ⟨.bl false, H5, I5, rfl, q5⟩
    | true => exact ite_tt (chain_last (thn (hd.run pins s5 σ H5 _ I5 q5) fun v' s6 ⟨z6, H6, I6, r6, q6⟩ => ho2 pins s6 σ H6 z' z6 w' v' Q I6 r4 r6 q6))
variable {g : G} {env : List Sl} {Ψ : Exc → Prop}
theorem we_ch3 {Φ : PyData → Bool → Prop} {op op' op2 : CmpOp} {r r' r2 : R2} (ho : OpR X (compareOp op) r) (ho' : OpR X (compareOp op') r') (ho2 : OpR X (compareOp op2) r2)
    (h : WE X g a env (fun d1 z1 => WE X g b env (fun d2 z2 => ∃ k, CP X.K g env r d1 z1 d2 z2 k ∧ (k = true → WE X g c env (fun d3 z3 => ∃ k', CP X.K g env r' d2 z2 d3 z3 k' ∧ (k' = true → WE X g d env (fun d4 z4 => ∃ k2, CP X.K g env r2 d3 z3 d4 z4 k2 ∧ Φ (.bool k2) true) Ψ) ∧ (k' = false → Φ (.bool false) true)) Ψ) ∧ (k = false → Φ (.bool false) true)) Ψ) Ψ)
    (hm : lastMarks [op, op', op2] [b, c, d] = false := by with_unfolding_all rfl) : WE X g (.Compare a [op, op', op2] [b, c, d] pos) env Φ Ψ := fun W tk σ F H st hx Q hQ => by
  refine semE_of (pe_chain3 ho ho' ho2 (peS a) (peS b) (peS c) (peS d) hm) ?_
  refine h W tk σ F H st hx _ fun d1 z1 v1 F1 H1 h1 st1 e1 r1 => ?_
  refine h1 W tk σ F1 H1 st1 hx _ fun d2 z2 v2 F2 H2 h2 st2 e2 rr2 => ?_
  obtain ⟨k, hc, ht, hf⟩ := h2
  refine hc σ F2 H2 v1 v2 st2 (rd_mono e2 r1) rr2 _ ⟨k, rfl, ?_⟩
  cases k with
  | true =>
    rw [if_pos rfl]
    refine ht rfl W tk σ F2 H2 st2 hx _ fun d3 z3 v3 F3 H3 h3 st3 e3 r3 => ?_
    obtain ⟨k', hc', ht', hf'⟩ := h3
    refine hc' σ F3 H3 v2 v3 st3 (rd_mono e3 rr2) r3 _ ⟨k', rfl, ?_⟩
    cases k' with
    | true =>
      rw [if_pos rfl]
      refine ht' rfl W tk σ F3 H3 st3 hx _ fun d4 z4 v4 F4 H4 h4 st4 e4 r4 => ?_
      obtain ⟨k2, hc2, hp⟩ := h4
      exact hc2 σ F4 H4 v3 v4 st4 (rd_mono e4 r3) r4 Q (hQ _ true _ F4 H4 hp st4 (((e1.trans e2).trans e3).trans e4) (.bl k2))
    | false =>
      rw [if_neg Bool.false_ne_true]
      exact hQ _ true _ F3 H3 (hf' rfl) st3 ((e1.trans e2).trans e3) (.bl false)
  | false =>
    rw [if_neg Bool.false_ne_true]
    exact hQ _ true _ F2 H2 (hf rfl) st2 (e1.trans e2) (.bl false)
theorem ch_sh3 {x y : PyData} {z1 z2 : Bool} {e3 e4 : Expr} {ma mb : KB → Prop} {Q Φ : KB} {r r' r2 : R2} (h : andM ma (fun Q => mb Q) Q) (h1 : ∀ Q, ma Q → ∃ k, CP X.K g env r x z1 y z2 k ∧ Q k)
    (h2 : ∀ Q : KB, mb Q → WE X g e3 env (fun d3 z3 => ∃ k', CP X.K g env r' y z2 d3 z3 k' ∧ (k' = true → WE X g e4 env (fun d4 z4 => ∃ k2, CP X.K g env r2 d3 z3 d4 z4 k2 ∧ Q k2) Ψ) ∧ (k' = false → Q false)) Ψ) (k : ∀ b, Q b → Φ b) :
    ∃ k, CP X.K g env r x z1 y z2 k ∧ (k = true → WE X g e3 env (fun d3 z3 => ∃ k', CP X.K g env r' y z2 d3 z3 k' ∧ (k' = true → WE X g e4 env (fun d4 z4 => ∃ k2, CP X.K g env r2 d3 z3 d4 z4 k2 ∧ Φ k2) Ψ) ∧ (k' = false → Φ false)) Ψ) ∧ (k = false → Φ false) := by
  obtain ⟨b, hb, q1, q2⟩ := h1 _ h
  exact ⟨b, hb, fun e => (h2 _ (q1 e)).mono fun d z ⟨k', c1, c2, c3⟩ => ⟨k', c1, fun e => (c2 e).mono fun d z ⟨k2, c4, c5⟩ => ⟨k2, c4, k _ c5⟩, fun e => k _ (c3 e)⟩, fun e => k _ (q2 e)⟩
end
end TL

namespace TL
open PySem PySem.Spec PyProof.Rows L2 HT
/-! a tuple backwards -/
section
variable {prog : Program} {w : World} {A : Around} {E : Value → Shared → Prop} {s : Shared}
theorem sliceApplied_rev {sl : Addr} {vl vu vs : Value} {n : Nat} {Q : Int × Int × Nat → Shared → Prop} (hs : s.heap.IsSliceOf sl vl vu vs) (pl : IsPart vl none) (pu : IsPart vu none) (ps : IsPart vs (some (-1)))
    (h : Q ((n : Int) - 1, -1, n) s) : wpAny (model prog w) A (Builtin.Slice.sliceApplied (.ref sl) (pure (n : Int))) Q E s := by
  obtain ⟨os, hos, hcs, hds⟩ := id hs
  unfold Builtin.Slice.sliceApplied Builtin.Slice.sliceFields
  refine wpAny_bind (wpAny_bind (wpAny_field hos hds (x := vl) rfl (wpAny_bind (wpAny_field hos hds (x := vu) rfl (wpAny_bind (wpAny_field hos hds (x := vs) rfl (wpAny_pure ?_)))))))
  refine wpAny_bind (slicePart_ ps ?_)
  show wpAny _ _ (if ((-1 : Int) == 0) = true then _ else _) _ _ s
  rw [if_neg (by decide)]
  refine wpAny_bind (slicePart_ pl (wpAny_bind (slicePart_ pu (wpAny_bind (wpAny_pure ?_)))))
  show wpAny _ _ (pure ((n : Int) - 1, (-1 : Int), Builtin.Slice.slicePlaces ((n : Int) - 1) (-1) (-1))) _ _ s
  have e : Builtin.Slice.slicePlaces ((n : Int) - 1) (-1) (-1) = n := by
    unfold Builtin.Slice.slicePlaces
    rw [if_neg (by decide)]
    split
    · simp
    · omega
  rw [e]
  exact wpAny_pure h
theorem fm_some {α β : Type} {f : α → Option β} {g : α → β} : ∀ (L : List α), (∀ k ∈ L, f k = some (g k)) → L.filterMap f = L.map g
  | [], _ => rfl
  | a :: L, h => by rw [List.filterMap_cons, h a (List.mem_cons_self ..), List.map_cons, fm_some L fun b hb => h b (List.mem_cons_of_mem _ hb)]
theorem pick_rev (xs : Array Value) : ((List.range xs.size).filterMap fun (k : Nat) => xs[((xs.size : Int) - 1 + (k : Int) * -1).toNat]?).toArray = xs.toList.reverse.toArray := by
  congr 1
  refine List.ext_getElem? fun i => ?_
  have hh : ∀ k ∈ List.range xs.size, (fun (k : Nat) => xs[((xs.size : Int) - 1 + (k : Int) * -1).toNat]?) k = some (xs.toList.reverse.getD k .none) := fun k hk => by
    have hk := List.mem_range.mp hk
    have e1 : ((xs.size : Int) - 1 + (k : Int) * -1).toNat = xs.size - 1 - k := by omega
    show xs[_]? = _
    rw [e1, List.getD_eq_getElem?_getD, List.getElem?_reverse (by simpa using hk), Array.length_toList, Array.getElem?_toList, Array.getElem?_eq_getElem (by omega)]
    rfl
  have e2 : (List.range xs.size).filterMap (fun (k : Nat) => xs[((xs.size : Int) - 1 + (k : Int) * -1).toNat]?) = (List.range xs.size).map fun k => xs.toList.reverse.getD k .none := fm_some _ hh
  rw [e2, List.getElem?_map]
  by_cases hi : i < xs.size
  · rw [List.getElem?_range hi]
    show some (xs.toList.reverse.getD i .none) = _
    rw [List.getD_eq_getElem?_getD, List.getElem?_eq_getElem (by simpa using hi)]; rfl
  · rw [List.getElem?_eq_none (by simpa using hi), List.getElem?_eq_none (by simpa using hi)]; rfl
theorem getItem_tuple_rev {t sl : Addr} {items : Array Value} {vl vu vs : Value} {Q : Value → Shared → Prop} (ht : IsTup s.heap t items) (hs : s.heap.IsSliceOf sl vl vu vs) (pl : IsPart vl none) (pu : IsPart vu none) (ps : IsPart vs (some (-1)))
    (h : Q (.ref s.heap.objs.size) { s with heap := s.heap.push { cls := .type "tuple", data := .seq items.toList.reverse.toArray } })
    (hsz : items.size ≤ sizeLine) : wpAny (model prog w) A (getItem (.ref t) (.ref sl)) Q E s := by
  have htake : sizeOk (.seq items.toList.reverse.toArray) := by
    show items.toList.reverse.toArray.size ≤ sizeLine
    rw [List.size_toArray, List.length_reverse, Array.length_toList]
    omega
  obtain ⟨os, hos, hcs, hds⟩ := id hs
  have hTs : s.TypeIs (.ref sl) "slice" := ⟨os, hos, hcs⟩
  unfold getItem
  try with_reducible refine wpAny_holding ?_
  first | refine wpAny_bind (wpAny_pure ?_) | skip
  refine wpAny_bind (wpAny_sequenceKey ht.typeIs (by decide) ?_)
  refine wpAny_bind (wpAny_callSpecial?_slot (name := Str.ofString "__getitem__") ht.typeIs PyProof.Rows.slot_tuple_getitem
    (wpAny_call_entry PyProof.Rows.slot_tuple_getitem ht.typeIs entry_tuple_getitem ?_ (args_tuple_getitem _ _)))
  show wpAny _ _ (Builtin.Tuple.tupleItemsOf (.ref t) >>= _) _ _ s
  refine wpAny_bind (tupleItemsOf_ ht ?_)
  refine wpAny_bind (wpAny_typeOf hTs ?_)
  rw [if_pos (by decide)]
  refine wpAny_bind (sliceApplied_rev hs pl pu ps ?_)
  have hno : ¬ ((((items.size : Int) - 1) == 0 && (-1 : Int) == 1 && items.size == items.size) = true) := by simp
  show wpAny _ _ (if (((items.size : Int) - 1) == 0 && (-1 : Int) == 1 && items.size == items.size) = true then _ else _) _ _ s
  rw [if_neg hno, pick_rev]
  first
    | exact wpAny_bind (m := Builtin.Tuple.tupleExact _) (wpAny_newObj_type (wpAny_pure ⟨_, rfl, wpAny_pure h⟩) htake)
    | exact wpAny_bind (m := Builtin.Tuple.tupleExact _) (wpAny_newObj_type (wpAny_bind (wpAny_pure (wpAny_pure ⟨_, rfl, wpAny_pure h⟩))) htake)
    | exact wpAny_bind (wpAny_bind (m := Builtin.Tuple.tupleExact _) (wpAny_newObj_type (wpAny_pure (wpAny_pure ⟨_, rfl, wpAny_pure h⟩)) htake))
    | exact wpAny_bind (wpAny_bind (m := Builtin.Tuple.tupleExact _) (wpAny_newObj_type (wpAny_pure ⟨_, rfl, wpAny_pure h⟩) htake))
end
section
variable {X : Cx}
def tRevT (K : PySem.W.Frag) (te : TE) : TE := fun σ H Q => te σ H fun x H1 => ∃ a xs, x = .ref a ∧ ((SqL K H1 a xs ∧ ∀ p, H1 p = none → Q (.ref p) (upd H1 p (.lst xs.reverse))) ∨ (SqT K H1 a xs ∧ ∀ p, H1 p = none → Q (.ref p) (upd H1 p (.tup xs.reverse))))
theorem pe_revT {e : Expr} {te : TE} {k : Nat} {p1 p2 p3 pos : Pos} (he : PE X e te) : PE X (.Subscript e (.Slice none none (some (.UnaryOp .USub (.Constant (.int 1) k p1) p2)) p3) pos) (tRevT X.K te) := by
  refine ⟨fun pins s σ H Q I h => ?_⟩
  refine Subscript_ (thn (he.run pins s σ H _ I h) fun v s1 ⟨x, H1, I1, r1, q1⟩ => ?_)
  obtain ⟨a, xs, ex, q⟩ := q1
  subst ex
  cases r1
  have hst : PO X (some (.UnaryOp .USub (.Constant (.int 1) k p1) p2)) (tPart (tUn (rU fun i => .int (-i)) (tC (.int 1)))) := po_some (pe_un un_neg pe_int)
  refine wpAny_Slice (thn (po_none.run pins s1 σ H1 (fun o H2 => o = none ∧ H2 = H1) I1 ⟨rfl, rfl⟩) fun vl s2 ⟨l, H2, I2, pl, el, e2⟩ => ?_)
  subst el e2
  refine thn (po_none.run pins s2 σ H2 (fun o H3 => o = none ∧ H3 = H2) I2 ⟨rfl, rfl⟩) fun vu s3 ⟨u, H3, I3, pu, eu, e3⟩ => ?_
  subst eu e3
  refine thn (hst.run pins s3 σ H3 (fun o H4 => o = some (-1) ∧ H4 = H3) I3 ⟨1, rfl, -1, rfl, rfl, rfl⟩) fun vs s4 ⟨o, H4, I4, ps, eo, e4⟩ => ?_
  subst eo e4
  have I5 : Inv X pins σ H4 { s4 with heap := s4.heap.push { cls := .type "slice", data := .fields #[vl, vu, vs] } } := I4.kept (t' := s4.toks) fun b ob q => Heap.get?_push_of_some _ q
  show wpAny (model X.prog X.w) X.A (subscriptTail e (.Slice none none (some (.UnaryOp .USub (.Constant (.int 1) k p1) p2)) p3) (.ref a) (.ref s4.heap.objs.size)) (EP X pins σ Q) X.xe { s4 with heap := s4.heap.push { cls := .type "slice", data := .fields #[vl, vu, vs] } }
  rcases q with ⟨hx, q⟩ | ⟨hx, q⟩
  · obtain ⟨its, r, ht, hz⟩ := I5.list hx
    have hlen := r.length
    refine tail_any (ops := [.ref a, .ref s4.heap.objs.size]) ht.isList.typeIs (PySem.slot_list_getitem.lookup) ?_ (by with_unfolding_all rfl)
    refine wpAny_getItem_list_slice ht.isList (Heap.IsSliceOf.new _ vl vu vs) pl pu ps (by decide) ?_ (by rw [List.size_toArray]; omega)
    rw [PySem.W.krv_pick]
    refine ⟨.ref _, _, I5.laid (t' := s4.toks) (o := .lst xs.reverse) (fun b ob q => Heap.get?_push_of_some _ q) (Nat.le_refl _) ?_, rfl, q _ (I5.hok.fresh (Nat.le_refl _))⟩
    exact ⟨by rw [List.length_reverse]; exact hz, _, 0, r.reverse, Heap.get?_push_size _ rfl⟩
  · obtain ⟨its, r, ht, hz⟩ := I5.tuple hx
    have hlen := r.length
    refine tail_any (ops := [.ref a, .ref s4.heap.objs.size]) ht.typeIs (PyProof.Rows.slot_tuple_getitem.lookup) ?_ (by with_unfolding_all rfl)
    refine getItem_tuple_rev ht (Heap.IsSliceOf.new _ vl vu vs) pl pu ps ?_ (by rw [List.size_toArray]; omega)
    refine ⟨.ref _, _, I5.laid (t' := s4.toks) (o := .tup xs.reverse) (fun b ob q => Heap.get?_push_of_some _ q) (Nat.le_refl _) ?_, rfl, q _ (I5.hok.fresh (Nat.le_refl _))⟩
    exact ⟨by rw [List.length_reverse]; exact hz, _, r.reverse, ⟨_, Heap.get?_push_size _ rfl, rfl, _, rfl⟩⟩
end
/-- x[::-1], a list or a tuple -/
def revDM : PyData → KD → Prop
  | .list xs, K => K (.list xs.reverse)
  | .tuple xs, K => K (.tuple xs.reverse)
  | _, _ => False
section
variable {X : Cx} {g : G} {env env' : List Sl} {Ψ : Exc → Prop} {P : Po} {pos p lp : Pos} {a b c e o tg iter : Expr} {es : List Expr} {rest body : List Stmt} {K : Frag} {F F' H H' : Hp} {σ σ' : SS} {x y : PyData} {z1 z2 : Bool} {k0 : Nat} {al : Addr} {xn : Str}
theorem we_revD {j : Nat} {p1 p2 p3 : Pos} {Φ : PyData → Bool → Prop} (h : WE X g a env (fun d _ => revDM d fun r => Φ r true) Ψ) : WE X g (.Subscript a (.Slice none none (some (.UnaryOp .USub (.Constant (.int 1) j p1) p2)) p3) pos) env Φ Ψ := fun W tk σ F H st hx Q hQ => by
  refine semE_of (pe_revT (peS a)) ?_
  refine h W tk σ F H st hx _ fun d1 z1 v1 F1 H1 h1 st1 e1 r1 => ?_
  cases d1 with
  | list xs =>
    have h1 : Φ (.list xs.reverse) true := h1
    obtain ⟨a1, vs1, rfl, s1, p1⟩ := rd_lst st1.toSk r1
    exact ⟨a1, vs1, rfl, .inl ⟨s1, fun p hp => put_lst st1 hp (dpa_rev p1) h1 fun d z v F' H' q1 q2 q3 q4 => hQ d z v F' H' q1 q2 (e1.trans q3) q4⟩⟩
  | tuple xs =>
    have h1 : Φ (.tuple xs.reverse) true := h1
    obtain ⟨a1, vs1, rfl, s1, p1⟩ := rd_tup st1.toSk r1
    exact ⟨a1, vs1, rfl, .inr ⟨s1, fun p hp => put_tup st1 hp (dpa_rev p1) h1 fun d z v F' H' q1 q2 q3 q4 => hQ d z v F' H' q1 q2 (e1.trans q3) q4⟩⟩
  | _ => exact h1.elim
theorem revD_m {Q Q' : KD} (h : revDM x Q) (k : ∀ r, Q r → Q' r) : revDM x Q' := by
  unfold revDM at *
  split at h
  · exact k _ h
  · exact k _ h
  · exact h.elim
end
end TL

namespace TL
open PySem PySem.Spec PyProof.Rows L2
section
variable {X : Cx} {g : G} {env env' : List Sl} {Ψ : Exc → Prop} {P : Po} {pos p lp : Pos} {a b c e o tg iter : Expr} {es : List Expr} {rest body : List Stmt} {K : Frag} {F F' H H' : Hp} {σ σ' : SS} {x y : PyData} {z1 z2 : Bool} {k0 : Nat} {al : Addr} {xn : Str}
/-! x.pop() -/
def popM (ds : List PyData) (K : List PyData → PyData → Prop) : Prop := ∃ ds' d, ds = ds' ++ [d] ∧ K ds' d
theorem q_pop {ds : List PyData} {d : PyData} {K : List PyData → PyData → Prop} : popM (ds ++ [d]) K = K ds d := by
  refine propext ⟨fun ⟨ds', d', e, h⟩ => ?_, fun h => ⟨ds, d, rfl, h⟩⟩
  obtain ⟨e1, e2⟩ := List.append_inj' e rfl
  cases e2
  rw [e1]; exact h
theorem dpa_snoc {ds : List PyData} {d : PyData} {vs : List V} (h : DqAll K F vs (ds ++ [d])) : ∃ us u, vs = us ++ [u] ∧ DqAll K F us ds ∧ Dq K F u d := by
  induction ds generalizing vs with
  | nil =>
    have h' : DqAll K F vs [d] := h
    cases h' with
    | cons h1 h2 => cases h2; exact ⟨[], _, rfl, .nil, h1⟩
  | cons x ds ih =>
    have h' : DqAll K F vs (x :: (ds ++ [d])) := h
    cases h' with
    | cons h1 h2 =>
      obtain ⟨us, u, e, q1, q2⟩ := ih h2
      exact ⟨_ :: us, u, by rw [e]; rfl, .cons h1 q1, q2⟩
theorem w1_popU (i : Nat) {q apos cpos : Pos} {ds : List PyData} {t : TG} {A : PyData → Option (List (Nat × PyData))} (hpg : PG X tg t) (htd : TGd X.K t A) (h : popM ds fun ds' d => ∃ l, A d = some l ∧ (l.all fun q => Nat.blt q.1 env.length) = true ∧ P.nx (putsE (env.set i (.ol al ds')) l)) (he : env[i]? = some (.ol al ds) := by rfl) (hN : X.N[i]? = some xn := by rfl)
    (hv : Vis X.env.scope xn := by first | exact Or.inl rfl | exact Or.inr (Or.inl rfl) | exact Or.inr (Or.inr rfl)) (hd : (xn == ("__debug__" : Str)) = false := by decide)
    (hcd : (xn == ("__classdict__" : Str)) = false := by decide)
    (hbase : attributeBase (.Name xn q) "pop" X.env (eval (.Name xn q) X.env) = eval (.Name xn q) X.env := by rfl) (hline : (apos.endLine == cpos.line) = true := by rfl)
    (hs : swapsWithSole [tg] (.Call (.Attribute (.Name xn q) "pop" apos) [] [] cpos) pos.line X.env = pure false := by rfl) (hw : swappedStores [tg] (.Call (.Attribute (.Name xn q) "pop" apos) [] [] cpos) X.env = pure none := by rfl) (ha : (assignEach [tg] X.env).map (·.2) = [assign tg X.env] := by rfl) :
    W1 X g (.Assign [tg] (.Call (.Attribute (.Name xn q) "pop" apos) [] [] cpos) pos) env P := fun W tk hx2 σ F H s0 D hD => by
  refine semP_of (ps_asg (pe_bm0 PySem.F.plainAttrs_list PySem.F.slot_list_pop PySem.F.type_list_pop mt_pop (pe_var hN hv hd hcd) hbase hline) hpg hs hw ha) ?_
  obtain ⟨h1, vs, h2, h3⟩ := s0.sl i _ he
  obtain ⟨ds', d, rfl, l, hA, hl, hp⟩ := h
  obtain ⟨us, u, rfl, q1, q2⟩ := dpa_snoc h3
  refine ⟨_, getD_some h1, .inl ⟨rfl, _, SqL.of h2⟩, ?_⟩
  refine ⟨al, _, u, rfl, rfl, h2, by simp, ?_⟩
  have s1 := s0.write (o' := .lst (us ++ [u]).dropLast) (s' := .ol al ds') he rfl rfl ⟨h1, us, by rw [upd_same, List.dropLast_concat], q1⟩
  refine htd d l σ F _ u _ hA s1.ex q2 fun r sr => ?_
  exact hD.nx _ _ F _ hp (s1.sets sr fun q hq => by rw [List.length_set]; exact ltB (List.all_eq_true.mp hl q hq)) (Ex.refl F)
theorem w1_popS (i : Nat) {q apos cpos : Pos} {ds : List PyData} (h : popM ds fun ds' _ => P.nx (env.set i (.ol al ds'))) (he : env[i]? = some (.ol al ds) := by rfl) (hN : X.N[i]? = some xn := by rfl)
    (hv : Vis X.env.scope xn := by first | exact Or.inl rfl | exact Or.inr (Or.inl rfl) | exact Or.inr (Or.inr rfl)) (hd : (xn == ("__debug__" : Str)) = false := by decide)
    (hcd : (xn == ("__classdict__" : Str)) = false := by decide)
    (hbase : attributeBase (.Name xn q) "pop" X.env (eval (.Name xn q) X.env) = eval (.Name xn q) X.env := by rfl) (hline : (apos.endLine == cpos.line) = true := by rfl)
    (hs : swapsWith (.Call (.Attribute (.Name xn q) "pop" apos) [] [] cpos) none pos.line X.env = pure false := by rfl) :
    W1 X g (.Expr (.Call (.Attribute (.Name xn q) "pop" apos) [] [] cpos) pos) env P := fun W tk hx2 σ F H s0 D hD => by
  refine semP_of (ps_expr (pe_bm0 PySem.F.plainAttrs_list PySem.F.slot_list_pop PySem.F.type_list_pop mt_pop (pe_var hN hv hd hcd) hbase hline) hs) ?_
  obtain ⟨h1, vs, h2, h3⟩ := s0.sl i _ he
  obtain ⟨ds', d, rfl, hp⟩ := h
  obtain ⟨us, u, rfl, q1, q2⟩ := dpa_snoc h3
  refine ⟨_, getD_some h1, .inl ⟨rfl, _, SqL.of h2⟩, ?_⟩
  refine ⟨al, _, u, rfl, rfl, h2, by simp, ?_⟩
  have s1 := s0.write (o' := .lst (us ++ [u]).dropLast) (s' := .ol al ds') he rfl rfl ⟨h1, us, by rw [upd_same, List.dropLast_concat], q1⟩
  exact hD.nx _ _ F _ hp s1 (Ex.refl F)
/-! texts -/
def strsOf : List PyData → Option (List Str)
  | [] => some []
  | .str i :: r => match strsOf r with
    | some l => some (i :: l)
    | none => none
  | _ :: _ => none
theorem strsOf_eq : ∀ {xs : List PyData} {ns : List Str}, strsOf xs = some ns → xs = ns.map .str
  | [], _, h => by cases h; rfl
  | d :: r, ns, h => by
    cases d with
    | str i =>
      unfold strsOf at h
      split at h
      · rename_i l e; cases h; rw [strsOf_eq e]; rfl
      · cases h
    | _ => cases h
theorem strs_of (ns : List Str) : strsOf (ns.map .str) = some ns := by
  induction ns with
  | nil => rfl
  | cons n ns ih => show (match strsOf (ns.map .str) with | some l => some (n :: l) | none => none) = _; rw [ih]
def tjoinM : PyData → PyData → KD → Prop
  | .str a, .list xs, K => match strsOf xs with
    | some ys => (ys.map (·.length)).sum + ys.length * a.length ≤ 16777216 ∧ K (.str (Txt.join a ys))
    | none => False
  | _, _, _ => False
def countM : PyData → PyData → KD → Prop
  | .str a, .str b, K => K (.int (Txt.count a b))
  | _, _, _ => False
def splitM : PyData → PyData → KL → Prop
  | .str a, .str b, K => (b.length == 0) = false ∧ a.length + 2 ≤ sizeLine ∧ K ((Txt.split a b).map .str)
  | _, _, _ => False
def lowerM : PyData → KD → Prop
  | .str a, K => a.length ≤ 5592405 ∧ K (.str (Txt.lower a))
  | _, _ => False
def upperM : PyData → KD → Prop
  | .str a, K => a.length ≤ 5592405 ∧ K (.str (Txt.upper a))
  | _, _ => False
def strO : PyData → (Str → Prop) → Prop
  | .str a, K => K a
  | _, _ => False
theorem strO_ob {Q : Str → Prop} (h : strO x Q) : ∃ s, x = .str s ∧ Q s := by
  unfold strO at h
  split at h
  · exact ⟨_, rfl, h⟩
  · exact h.elim
section
variable {Φ : PyData → Bool → Prop} {apos : Pos}
theorem tjoin_m {Q Q' : KD} (h : tjoinM x y Q) (k : ∀ r, Q r → Q' r) : tjoinM x y Q' := by
  unfold tjoinM at *
  split at h
  · split at h
    · exact ⟨h.1, k _ h.2⟩
    · exact h.elim
  · exact h.elim
theorem count_m {Q Q' : KD} (h : countM x y Q) (k : ∀ r, Q r → Q' r) : countM x y Q' := by
  unfold countM at *
  split at h
  · exact k _ h
  · exact h.elim
theorem split_m {Q Q' : KL} (h : splitM x y Q) (k : ∀ r, Q r → Q' r) : splitM x y Q' := by
  unfold splitM at *
  split at h
  · exact ⟨h.1, h.2.1, k _ h.2.2⟩
  · exact h.elim
theorem lower_m {Q Q' : KD} (h : lowerM x Q) (k : ∀ r, Q r → Q' r) : lowerM x Q' := by
  unfold lowerM at *
  split at h
  · exact ⟨h.1, k _ h.2⟩
  · exact h.elim
theorem upper_m {Q Q' : KD} (h : upperM x Q) (k : ∀ r, Q r → Q' r) : upperM x Q' := by
  unfold upperM at *
  split at h
  · exact ⟨h.1, k _ h.2⟩
  · exact h.elim
theorem we_join (h : WE X g o env (fun d1 _ => ∃ s, d1 = .str s ∧ WE X g e env (fun d2 _ => tjoinM (.str s) d2 fun r => Φ r true) Ψ) Ψ) (hs : starEach [e] X.env = [(false, eval e X.env)] := by rfl)
    (hbase : attributeBase o "join" X.env (eval o X.env) = eval o X.env := by rfl) (hline : (apos.endLine == pos.line) = true := by rfl) : WE X g (.Call (.Attribute o "join" apos) [e] [] pos) env Φ Ψ := fun W tk σ F H st hx Q hQ => by
  refine semE_of (pe_join (peS o) (peS e) hs hbase hline) ?_
  refine h W tk σ F H st hx _ fun d1 z1 v1 F1 H1 ⟨s, hd, hw⟩ s1 e1 r1 => ?_
  subst hd
  refine ⟨⟨s, rd_str r1⟩, ?_⟩
  refine hw W tk σ F1 H1 s1 hx _ fun d2 z2 v2 F2 H2 hj s2 e2 r2 => ?_
  rw [rd_str r1]
  cases d2 with
  | list xs =>
    unfold tjoinM at hj
    dsimp only at hj
    split at hj
    · rename_i ys ey
      obtain ⟨p, vs, rfl, hl, hds⟩ := rd_lst s2.toSk r2
      rw [strsOf_eq ey] at hds
      rw [dpa_strs_eq hds] at hl
      exact ⟨s, p, ys, rfl, rfl, .inl hl, hj.1, hQ _ true _ F2 H2 hj.2 s2 (e1.trans e2) (.str _)⟩
    · exact hj.elim
  | _ => exact hj.elim
theorem we_count (h : WE X g o env (fun d1 _ => ∃ s, d1 = .str s ∧ WE X g e env (fun d2 _ => countM (.str s) d2 fun r => Φ r true) Ψ) Ψ) (hs : starEach [e] X.env = [(false, eval e X.env)] := by rfl)
    (hbase : attributeBase o "count" X.env (eval o X.env) = eval o X.env := by rfl) (hline : (apos.endLine == pos.line) = true := by rfl) : WE X g (.Call (.Attribute o "count" apos) [e] [] pos) env Φ Ψ := fun W tk σ F H st hx Q hQ => by
  refine semE_of (pe_m1 PySem.F.slot_str_count PySem.F.type_str_count mt_count (peS o) (peS e) hs hbase hline) ?_
  refine h W tk σ F H st hx _ fun d1 z1 v1 F1 H1 ⟨s, hd, hw⟩ s1 e1 r1 => ?_
  subst hd
  refine ⟨⟨s, rd_str r1⟩, ?_⟩
  refine hw W tk σ F1 H1 s1 hx _ fun d2 z2 v2 F2 H2 hj s2 e2 r2 => ?_
  rw [rd_str r1]
  cases d2 with
  | str t => exact ⟨s, t, rfl, by rw [rd_str r2], hQ _ true _ F2 H2 hj s2 (e1.trans e2) (.int _)⟩
  | _ => exact hj.elim
theorem dpa_strs : ∀ (ns : List Str), DqAll K H (ns.map V.str) (ns.map PyData.str)
  | [] => .nil
  | n :: ns => .cons (.str n) (dpa_strs ns)
theorem wn_split {Φ : KL} (h : WE X g o env (fun d1 _ => ∃ s, d1 = .str s ∧ WE X g e env (fun d2 _ => splitM (.str s) d2 Φ) Ψ) Ψ) (hs : starEach [e] X.env = [(false, eval e X.env)] := by rfl)
    (hbase : attributeBase o "split" X.env (eval o X.env) = eval o X.env := by rfl) (hline : (apos.endLine == pos.line) = true := by rfl) : WN X g (.Call (.Attribute o "split" apos) [e] [] pos) env Φ Ψ := fun W tk σ F H st hx Q hQ => by
  refine semE_of (pe_split (peS o) (peS e) hs hbase hline) ?_
  refine h W tk σ F H st hx _ fun d1 z1 v1 F1 H1 ⟨s, hd, hw⟩ s1 e1 r1 => ?_
  subst hd
  refine ⟨⟨s, rd_str r1⟩, ?_⟩
  refine hw W tk σ F1 H1 s1 hx _ fun d2 z2 v2 F2 H2 hj s2 e2 r2 => ?_
  rw [rd_str r1]
  cases d2 with
  | str t =>
    exact ⟨s, t, rfl, by rw [rd_str r2], hj.1, hj.2.1, fun p hp => put_new s2 hp (dpa_strs _) hj.2.2 fun ds v F' H' q1 q2 q3 q4 => hQ ds v F' H' q1 q2 ((e1.trans e2).trans q3) q4⟩
  | _ => exact hj.elim
theorem we_lower (h : WE X g o env (fun d1 _ => lowerM d1 fun r => Φ r true) Ψ) (hbase : attributeBase o "lower" X.env (eval o X.env) = eval o X.env := by rfl) (hline : (apos.endLine == pos.line) = true := by rfl) : WE X g (.Call (.Attribute o "lower" apos) [] [] pos) env Φ Ψ := fun W tk σ F H st hx Q hQ => by
  refine semE_of (pe_lower (peS o) hbase hline) ?_
  refine h W tk σ F H st hx _ fun d1 z1 v1 F1 H1 hj s1 e1 r1 => ?_
  cases d1 with
  | str t => exact ⟨⟨t, rd_str r1⟩, t, rd_str r1, rfl, hj.1, hQ _ true _ F1 H1 hj.2 s1 e1 (.str _)⟩
  | _ => exact hj.elim
theorem we_upper (h : WE X g o env (fun d1 _ => upperM d1 fun r => Φ r true) Ψ) (hbase : attributeBase o "upper" X.env (eval o X.env) = eval o X.env := by rfl) (hline : (apos.endLine == pos.line) = true := by rfl) : WE X g (.Call (.Attribute o "upper" apos) [] [] pos) env Φ Ψ := fun W tk σ F H st hx Q hQ => by
  refine semE_of (pe_upper (peS o) hbase hline) ?_
  refine h W tk σ F H st hx _ fun d1 z1 v1 F1 H1 hj s1 e1 r1 => ?_
  cases d1 with
  | str t => exact ⟨⟨t, rd_str r1⟩, t, rd_str r1, rfl, hj.1, hQ _ true _ F1 H1 hj.2 s1 e1 (.str _)⟩
  | _ => exact hj.elim
/-- str(x) -/
def strM : PyData → KD → Prop
  | .int i, K => i.natAbs.log2 < 1920 ∧ K (.str (toString i))
  | .str s, K => K (.str s)
  | _, _ => False
theorem str_m {Q Q' : KD} (h : strM x Q) (k : ∀ r, Q r → Q' r) : strM x Q' := by
  unfold strM at *
  split at h
  · exact ⟨h.1, k _ h.2⟩
  · exact k _ h
  · exact h.elim
end
/-! text * int -/
def repS (s : Str) (n : Nat) : Str := ⟨((List.replicate n s.cps.toList).flatten).toArray⟩
theorem foldl_app (s : Array Nat) : ∀ (n : Nat) (acc : Array Nat), ((List.replicate n s).foldl (· ++ ·) acc).toList = acc.toList ++ (List.replicate n s.toList).flatten
  | 0, acc => by simp
  | n + 1, acc => by
    rw [List.replicate_succ, List.foldl_cons, foldl_app s n, List.replicate_succ, List.flatten_cons]
    simp
theorem op_repS : OpR X (binaryOp .Mult) (fun x y H Q => ∃ (s : Str) (n : Int), x = .str s ∧ y = .int n ∧ -(2 ^ 63) ≤ n ∧ n < 2 ^ 63 ∧ s.length * n.toNat ≤ 16777216 ∧ Q (.str (repS s n.toNat)) H) := by
  intro pins s σ H x y v u Q I rx ry h
  obtain ⟨t, n, rfl, rfl, h1, h2, hz, q⟩ := h
  obtain ⟨t1, rfl⟩ := rx
  obtain ⟨t2, rfl⟩ := ry
  have key : ∀ (z : Str), z.cps.toList = (repS t n.toNat).cps.toList → z = repS t n.toNat := fun z e => by
    cases z with
    | mk c =>
      have : c = (repS t n.toNat).cps := Array.toList_inj.mp e
      rw [this]
  refine PySem.P.mul_str (by rw [decide_eq_false (by omega), decide_eq_false (by omega)] <;> rfl) (fun h3 h4 => ?_) (fun h3 h4 => ?_) ?_
  · obtain ⟨m, rfl⟩ : ∃ m : Nat, n = m := ⟨n.toNat, by omega⟩
    have hm : 0 < (m : Int) := by omega
    have e : (m : Int).toNat = m := by omega
    rw [e] at hz
    intro hc
    have h5 : ((t.length * m : Nat) : Int) ≤ 16777216 := Int.ofNat_le.mpr hz
    have h6 : ((2 ^ 63 - 1) / (m : Int) + 1) * m ≤ (t.length : Int) * m := Int.mul_le_mul_of_nonneg_right (by omega) (by omega)
    have h7 : (2 ^ 63 - 1 : Int) < ((2 ^ 63 - 1) / (m : Int) + 1) * m := Int.lt_ediv_add_one_mul_self _ hm
    have h8 : ((t.length * m : Nat) : Int) = (t.length : Int) * m := Int.natCast_mul ..
    rw [h8] at h5
    have : (16777216 : Int) < 2 ^ 63 - 1 := by decide
    omega
  · have hsl := sizeLine_eq
    exact decide_eq_false (by omega)
  · by_cases h3 : n < 1
    · rw [if_pos h3]
      refine ⟨by decide, .str _, H, I.tok _, ⟨_, rfl⟩, ?_⟩
      have : repS t n.toNat = Str.empty := by
        rw [show n.toNat = 0 by omega]; rfl
      rw [this] at q
      exact q
    · rw [if_neg h3]
      by_cases h4 : (n == 1 || t.length == 0) = true
      · rw [if_pos h4]
        refine ⟨.str t, H, I, ⟨_, rfl⟩, ?_⟩
        have : repS t n.toNat = t := by
          refine (key t ?_).symm
          unfold repS
          rcases Bool.or_eq_true_iff.mp h4 with h5 | h5
          · have : n = 1 := by simpa using h5
            subst this; simp
          · have h5 : t.cps.toList = [] := by
              have : t.length = 0 := by simpa using h5
              have : t.cps.size = 0 := this
              rw [← Array.length_toList] at this
              exact List.eq_nil_of_length_eq_zero this
            simp [h5]
        rw [this] at q
        exact q
      · rw [if_neg h4]
        have e : (⟨(List.replicate n.toNat t.cps).foldl (· ++ ·) #[]⟩ : Str) = repS t n.toNat := key _ (by
          show ((List.replicate n.toNat t.cps).foldl (· ++ ·) #[]).toList = _
          rw [foldl_app]; rfl)
        rw [e]
        refine ⟨?_, .str _, H, I.tok _, ⟨_, rfl⟩, q⟩
        have hsl := sizeLine_eq
        show ((List.replicate n.toNat t.cps.toList).flatten).toArray.size ≤ sizeLine
        rw [List.size_toArray, List.length_flatten]
        have : ((List.replicate n.toNat t.cps.toList).map List.length).sum = n.toNat * t.length := by
          rw [List.map_replicate, List.sum_replicate_nat]; rfl
        rw [this, Nat.mul_comm]
        omega
def repSM : PyData → PyData → KD → Prop
  | .str s, .int n, K => (-(2 ^ 63) ≤ n ∧ n < 2 ^ 63 ∧ s.length * n.toNat ≤ 16777216) ∧ K (.str (repS s n.toNat))
  | _, _, _ => False
theorem repS_m {Q Q' : KD} (h : repSM x y Q) (k : ∀ r, Q r → Q' r) : repSM x y Q' := by
  unfold repSM at *
  split at h
  · exact ⟨h.1, k _ h.2⟩
  · exact h.elim
theorem we_repS {Φ : PyData → Bool → Prop} (h : WE X g a env (fun d1 _ => WE X g b env (fun d2 _ => repSM d1 d2 fun r => Φ r true) Ψ) Ψ) : WE X g (.BinOp a .Mult b pos) env Φ Ψ :=
  we_op (pe_op op_repS (peS a) (peS b)) (fun d1 z1 d2 z2 h => by
    unfold repSM at h
    split at h
    · exact dop_of h.2 fun σ F H v1 v2 Q st r1 r2 q => ⟨_, _, rd_str r1, rd_int r2, h.1.1, h.1.2.1, h.1.2.2, q _ (.str _)⟩
    · exact h.elim) h
end
end TL

namespace TL
open PySem PySem.Spec PyProof.Rows L2
/-! d.get(k, e) -/
def getdTM (kvs : List (List Key × PyData)) (key dflt : PyData) (K : KD) : Prop := match keyT key with
  | some k => K ((valP kvs k).getD dflt)
  | none => False
def getdKM (kvs : List (Key × PyData)) (key dflt : PyData) (K : KD) : Prop := match keyA key with
  | some k => K ((valP kvs k).getD dflt)
  | none => False
def getdDM (d key dflt : PyData) (K : KD) : Prop := match dictO d with
  | some (.inl m) => getdTM m key dflt K
  | some (.inr m) => getdKM m key dflt K
  | none => False
section
variable {kT : List (List Key × PyData)} {kA : List (Key × PyData)} {key d dflt : PyData}
theorem q_getdD_T {K : KD} : getdDM (dTd kT) key dflt K = getdTM kT key dflt K := by unfold getdDM; rw [dictO_T]
theorem q_getdD_K {K : KD} : getdDM (dKd kA) key dflt K = getdKM kA key dflt K := by unfold getdDM; rw [dictO_K]
theorem getdT_m {Q Q' : KD} (h : getdTM kT key dflt Q) (k : ∀ r, Q r → Q' r) : getdTM kT key dflt Q' := by
  unfold getdTM at *
  split at h
  · exact k _ h
  · exact h.elim
theorem getdK_m {Q Q' : KD} (h : getdKM kA key dflt Q) (k : ∀ r, Q r → Q' r) : getdKM kA key dflt Q' := by
  unfold getdKM at *
  split at h
  · exact k _ h
  · exact h.elim
theorem getdD_s {Q : KD} {Φ : PyData → Prop} (h : getdDM d key dflt Q) (k : ∀ r, Q r → Φ r) : ∃ o, GetD d key o ∧ Φ (o.getD dflt) := by
  unfold getdDM at h
  split at h
  · rename_i m e
    unfold getdTM at h
    split at h
    · rename_i q e1; exact ⟨_, .inl ⟨m, q, dictO_t e, e1, rfl⟩, k _ h⟩
    · exact h.elim
  · rename_i m e
    unfold getdKM at h
    split at h
    · rename_i q e1; exact ⟨_, .inr ⟨m, q, dictO_k e, e1, rfl⟩, k _ h⟩
    · exact h.elim
  · exact h.elim
end
section
variable {X : Cx} {g : G} {env env' : List Sl} {Ψ : Exc → Prop} {P : Po} {pos p lp : Pos} {a b c e f o tg iter : Expr} {es : List Expr} {rest body : List Stmt} {K : Frag} {F F' H H' : Hp} {σ σ' : SS} {x y : PyData} {z1 z2 : Bool} {k0 : Nat} {al : Addr} {xn : Str} {apos : Pos}
section
variable {Φ : PyData → Bool → Prop}
theorem we_getdD (hr : Room k0 X.A) (h : WE X g o env (fun d z => z = true ∧ (∃ m, dictO d = some m) ∧ WE X g e env (fun kd z => z = true ∧ WE X g f env (fun fd z => z = true ∧ ∃ r, GetD d kd r ∧ Φ (r.getD fd) true) Ψ) Ψ) Ψ)
    (m : M2 X o "get" apos e f pos := by exact ⟨by rfl, by rfl, by rfl, by rfl⟩) : WE X g (.Call (.Attribute o "get" apos) [e, f] [] pos) env Φ Ψ := fun W tk σ F H st hx Q hQ => by
  refine semE_of (pe_dget2 (by have := hr.units; omega) (peS o) (peS e) (peS f) m) ?_
  refine h W tk σ F H st hx _ fun d z v F1 H1 ⟨hz, ⟨m, hm⟩, h2⟩ s1 e1 r1 => ?_
  subst hz
  have isd : ∃ a, v = .ref a ∧ IsD H1 a := by
    cases m with
    | inl m =>
      have r1' : Dq X.K F1 v d := r1
      rw [dictO_t hm] at r1'
      obtain ⟨a, xs, rfl, hs, _⟩ := dq_dT r1'
      exact ⟨a, rfl, .inr ⟨xs, .inl (s1.ex _ _ hs)⟩⟩
    | inr m =>
      have r1' : Dq X.K F1 v d := r1
      rw [dictO_k hm] at r1'
      obtain ⟨a, xs, rfl, hs, _⟩ := dq_dK r1'
      exact ⟨a, rfl, .inl ⟨xs, .inl (s1.ex _ _ hs)⟩⟩
  obtain ⟨a, rfl, isd⟩ := isd
  refine ⟨a, rfl, isd, ?_⟩
  refine h2 W tk σ F1 H1 s1 hx _ fun kd z w F2 H2 ⟨hz, h3⟩ s2 e2 r2 => ?_
  subst hz
  refine h3 W tk σ F2 H2 s2 hx _ fun fd z u F3 H3 ⟨hz, r, hg, hp⟩ s3 e3 r3 => ?_
  subst hz
  obtain ⟨al, ov, ea, g1, g2, g3⟩ := getD_run hg (dp_mono (e2.trans e3) _ _ r1) (dp_mono e3 _ _ r2) s3.ex
  cases ea
  refine ⟨ov, g1, hQ _ true _ F3 H3 hp s3 ((e1.trans e2).trans e3) ?_⟩
  cases r with
  | some x =>
    obtain ⟨w', rfl, dw⟩ := g3 x rfl
    exact dw
  | none =>
    cases ov with
    | some _ => cases g2
    | none => exact r3
theorem we_getdT (i : Nat) {kvs : List (List Key × PyData)} {q : Pos} (hr : Room k0 X.A) (h : WE X g e env (fun kd z => z = true ∧ WE X g f env (fun fd z => z = true ∧ getdTM kvs kd fd fun r => Φ r true) Ψ) Ψ) (he : env[i]? = some (.dt al kvs) := by rfl) (hN : X.N[i]? = some xn := by rfl)
    (hv : Vis X.env.scope xn := by first | exact Or.inl rfl | exact Or.inr (Or.inl rfl) | exact Or.inr (Or.inr rfl)) (hd : (xn == ("__debug__" : Str)) = false := by decide)
    (hcd : (xn == ("__classdict__" : Str)) = false := by decide)
    (m : M2 X (.Name xn q) "get" apos e f pos := by exact ⟨by rfl, by rfl, by rfl, by rfl⟩) : WE X g (.Call (.Attribute (.Name xn q) "get" apos) [e, f] [] pos) env Φ Ψ := fun W tk σ F H st hx Q hQ => by
  refine semE_of (pe_dget2 (by have := hr.units; omega) (pe_var hN hv hd hcd) (peS e) (peS f) m) ?_
  obtain ⟨h1, vs, h2, h3⟩ := st.sl i _ he
  refine ⟨_, getD_some h1, al, rfl, .inr ⟨vs, .inl h2⟩, ?_⟩
  refine h W tk σ F H st hx _ fun kd z v F1 H1 ⟨hz, hw⟩ s1 e1 r1 => ?_
  subst hz
  refine hw W tk σ F1 H1 s1 hx _ fun fd z u F2 H2 ⟨hz, hp⟩ s2 e2 r2 => ?_
  subst hz
  unfold getdTM at hp
  split at hp
  · rename_i k hk
    obtain ⟨t, rfl, ht⟩ := keyT_dp (dp_mono e2 _ _ r1) hk
    obtain ⟨_, vs', h2', h3'⟩ := s2.sl i _ he
    refine ⟨_, DGet.t h2' (s2.ex _ _ ht), hQ _ true _ F2 H2 hp s2 (e1.trans e2) ?_⟩
    obtain ⟨w1, w2⟩ := kvp_val (k := k) h3'
    cases hq : valP kvs k with
    | some x =>
      obtain ⟨w', e', dw⟩ := w1 x hq
      rw [e']; exact dw
    | none =>
      rw [hq] at w2
      cases e' : valV vs' k with
      | some _ => rw [e'] at w2; cases w2
      | none => exact r2
  · exact hp.elim
theorem we_getdK (i : Nat) {kvs : List (Key × PyData)} {q : Pos} (hr : Room k0 X.A) (h : WE X g e env (fun kd z => z = true ∧ WE X g f env (fun fd z => z = true ∧ getdKM kvs kd fd fun r => Φ r true) Ψ) Ψ) (he : env[i]? = some (.dk al kvs) := by rfl) (hN : X.N[i]? = some xn := by rfl)
    (hv : Vis X.env.scope xn := by first | exact Or.inl rfl | exact Or.inr (Or.inl rfl) | exact Or.inr (Or.inr rfl)) (hd : (xn == ("__debug__" : Str)) = false := by decide)
    (hcd : (xn == ("__classdict__" : Str)) = false := by decide)
    (m : M2 X (.Name xn q) "get" apos e f pos := by exact ⟨by rfl, by rfl, by rfl, by rfl⟩) : WE X g (.Call (.Attribute (.Name xn q) "get" apos) [e, f] [] pos) env Φ Ψ := fun W tk σ F H st hx Q hQ => by
  refine semE_of (pe_dget2 (by have := hr.units; omega) (pe_var hN hv hd hcd) (peS e) (peS f) m) ?_
  obtain ⟨h1, vs, h2, h3⟩ := st.sl i _ he
  refine ⟨_, getD_some h1, al, rfl, .inl ⟨vs, .inl h2⟩, ?_⟩
  refine h W tk σ F H st hx _ fun kd z v F1 H1 ⟨hz, hw⟩ s1 e1 r1 => ?_
  subst hz
  refine hw W tk σ F1 H1 s1 hx _ fun fd z u F2 H2 ⟨hz, hp⟩ s2 e2 r2 => ?_
  subst hz
  unfold getdKM at hp
  split at hp
  · rename_i k hk
    have hv := keyA_dp (dp_mono e2 _ _ r1) hk
    subst hv
    obtain ⟨_, vs', h2', h3'⟩ := s2.sl i _ he
    refine ⟨_, DGet.k h2', hQ _ true _ F2 H2 hp s2 (e1.trans e2) ?_⟩
    obtain ⟨w1, w2⟩ := kvp_val (k := k) h3'
    cases hq : valP kvs k with
    | some x =>
      obtain ⟨w', e', dw⟩ := w1 x hq
      rw [e']; exact dw
    | none =>
      rw [hq] at w2
      cases e' : valV vs' k with
      | some _ => rw [e'] at w2; cases w2
      | none => exact r2
  · exact hp.elim
end
/-! {k: v, ..} -/
def zipE : List (Option Expr) → List Expr → List (Expr × Expr)
  | some k :: ks, v :: vs => (k, v) :: zipE ks vs
  | _, _ => []
def DqPs (K : Frag) (F : Hp) : List (V × V) → List (PyData × PyData) → Prop
  | [], [] => True
  | (v, w) :: r, (d, c) :: s => (Dq K F v d ∧ Dq K F w c) ∧ DqPs K F r s
  | _, _ => False
theorem dqps_mono (e : Ex F F') : ∀ {r : List (V × V)} {s : List (PyData × PyData)}, DqPs K F r s → DqPs K F' r s
  | [], [], _ => trivial
  | (v, w) :: r, (d, c) :: s, ⟨⟨h1, h2⟩, h3⟩ => ⟨⟨dp_mono e _ _ h1, dp_mono e _ _ h2⟩, dqps_mono e h3⟩
def WPs (X : Cx) (g : G) (ps : List (Expr × Expr)) (env : List Sl) (Φ : List (PyData × PyData) → Prop) (Ψ : Exc → Prop) : Prop :=
  ∀ (W : WX), Takes X W → ∀ (σ : SS) (F H : Hp), St X.K g F H σ env → HX X g env Ψ W σ →
    ∀ Q : List (V × V) → Hp → Prop, (∀ ds vs F' H', Φ ds → St X.K g F' H' σ env → Ex F F' → DqPs X.K F' vs ds → Q vs H') → tPairs (ps.map fun q => (semE X q.1, semE X q.2)) σ H Q
theorem wps_nil {Φ : List (PyData × PyData) → Prop} (h : Φ []) : WPs X g [] env Φ Ψ := fun W tk σ F H st hx Q hQ => hQ [] [] F H h st (Ex.refl F) trivial
theorem wps_cons {ps : List (Expr × Expr)} {Φ : List (PyData × PyData) → Prop} (h : WE X g a env (fun d1 z1 => z1 = true ∧ WE X g b env (fun d2 z2 => z2 = true ∧ WPs X g ps env (fun l => Φ ((d1, d2) :: l)) Ψ) Ψ) Ψ) : WPs X g ((a, b) :: ps) env Φ Ψ := fun W tk σ F H st hx Q hQ => by
  show semE X a σ H _
  refine h W tk σ F H st hx _ fun d1 z1 v1 F1 H1 ⟨hz, h2⟩ s1 e1 r1 => ?_
  subst hz
  refine h2 W tk σ F1 H1 s1 hx _ fun d2 z2 v2 F2 H2 ⟨hz, h3⟩ s2 e2 r2 => ?_
  subst hz
  refine h3 W tk σ F2 H2 s2 hx _ fun ds vs F3 H3 hp s3 e3 r3 => ?_
  exact hQ _ _ F3 H3 hp s3 ((e1.trans e2).trans e3) ⟨⟨dp_mono (e2.trans e3) _ _ r1, dp_mono e3 _ _ r2⟩, r3⟩
theorem pps_zip : ∀ {ks : List (Option Expr)} {vs : List Expr}, ks.all (·.isSome) = true → ks.length = vs.length → PPs X pos ks vs ((zipE ks vs).map fun q => (semE X q.1, semE X q.2))
  | [], [], _, _ => pps_nil
  | some k :: ks, v :: vs, h, hl => pps_cons (peS k) (peS v) (pps_zip (by simpa using h) (by simpa using hl))
  | [], _ :: _, _, hl => by cases hl
  | none :: _, _, h, _ => by simp at h
  | some _ :: _, [], _, hl => by cases hl
/-- the dict that pairs make: later ones win -/
def mergeP (kvs : List (Key × PyData)) : List (Key × PyData) := kvs.foldl (fun acc kv => putP acc kv.1 kv.2) []
theorem kvp_merge {xs : List (Key × V)} {kvs : List (Key × PyData)} (h : KVp K F xs kvs) : KVp K F (mergeK [] xs) (mergeP kvs) := by
  unfold mergeK mergeP
  have go : ∀ {xs : List (Key × V)} {kvs : List (Key × PyData)} {a : List (Key × V)} {b : List (Key × PyData)}, KVp K F xs kvs → KVp K F a b → KVp K F (xs.foldl (fun acc kv => putK acc kv.1 kv.2) a) (kvs.foldl (fun acc kv => putP acc kv.1 kv.2) b) := by
    intro xs kvs a b h
    induction h generalizing a b with
    | nil => exact id
    | cons r t ih =>
      intro hab
      refine ih ?_
      show KVp K F (putK _ _ _) (putP _ _ _)
      rw [r.1]
      exact kvp_put hab r.2
  exact go h .nil
theorem dqps_kv : ∀ {kvs : List (Key × PyData)} {vs : List (V × V)}, DqPs K F vs (kvs.map fun kv => (kD kv.1, kv.2)) → ∃ xs : List (Key × V), vs = xs.map (fun kv => (kV kv.1, kv.2)) ∧ KVp K F xs kvs
  | [], [], _ => ⟨[], rfl, .nil⟩
  | [], _ :: _, h => h.elim
  | _ :: _, [], h => h.elim
  | (k, d) :: kvs, (v, w) :: vs, ⟨⟨h1, h2⟩, h3⟩ => by
    obtain ⟨xs, e, h4⟩ := dqps_kv h3
    have hv := key_eq h1
    subst hv
    exact ⟨(k, w) :: xs, by rw [e]; rfl, .cons ⟨rfl, h2⟩ h4⟩
def WDk (X : Cx) (g : G) (e : Expr) (env : List Sl) (Φ : List (Key × PyData) → Prop) (Ψ : Exc → Prop) : Prop :=
  ∀ (W : WX), Takes X W → ∀ (σ : SS) (F H : Hp), St X.K g F H σ env → HX X g env Ψ W σ →
    ∀ Q : VK, (∀ kvs v F' H', Φ kvs → St X.K g F' H' σ env → Ex F F' → NewK X.K g F' H' env v kvs → Q v H') → semE X e σ H Q
def dispM (ps : List (PyData × PyData)) (K : List (Key × PyData) → Prop) : Prop := match asK ps with
  | some m => K (mergeP m)
  | none => False
theorem wdk_disp {ks : List (Option Expr)} {vs : List Expr} {Φ : List (Key × PyData) → Prop} (h : ∀ g' : G, WPs X g' (zipE ks vs) env (fun ps => ps.length ≤ 15 ∧ dispM ps Φ) Ψ) (hall : ks.all (·.isSome) = true := by rfl) (hl : ks.length = vs.length := by rfl)
    (h0 : ks ≠ [] := by (intro z; cases z)) (h15 : ks.length ≤ 15 := by decide) : WDk X g (.Dict ks vs pos) env Φ Ψ := fun W tk σ F H st hx Q hQ => by
  refine semE_of (pe_disp (pps_zip hall hl) hall hl h0 h15) fun p hn => ?_
  have s1 := st.alloc (o := .dK []) hn
  have no : ¬ Own env p := st.toSk.notown hn
  have hF : F p = none := st.ex.none hn
  have hpM : p ∉ fps env := fun z => no (own_fps.mpr z)
  refine h ⟨F, upd H p (.dK []), fps env⟩ W tk σ F _ s1.toSk.base (fun c F' H' hc s2 => hx c F' H' hc (s1.rebase s2 fun _ q => q)) _ fun ds vs' F2 H2 ⟨hlen, hd⟩ s2 e2 r2 => ?_
  have hp2 : H2 p = some (.dK []) := s2.g1 p _ upd_same hpM
  unfold dispM at hd
  split at hd
  · rename_i m em
    rw [asK_eq em] at r2 hlen
    obtain ⟨xs, ex, hkv⟩ := dqps_kv r2
    refine ⟨hp2, xs, ex, by rw [kvp_len hkv]; simpa using hlen, ?_⟩
    have s3 := s1.rebase s2 fun _ q => q
    have hF2 : F2 p = none := by
      cases z : F2 p with
      | none => rfl
      | some u =>
        rcases s2.g4 p (by rw [z]; intro y; cases y) with y | y
        · exact absurd hF y
        · have y : upd H p (.dK []) p = none := y
          rw [upd_same] at y; cases y
    have h0' : g.H0 p = none := st.h0 hn
    have s4 := s3.untracked (D := p) (o' := .dK (mergeK [] xs)) hF2 no h0'
    exact hQ _ (.ref p) F2 _ hd s4 e2 ⟨p, _, rfl, upd_same, kvp_merge hkv, hF2, no, h0'⟩
  · exact hd.elim
theorem wdk_new {Φ : List (Key × PyData) → Prop} (h : Φ []) : WDk X g (.Dict [] [] pos) env Φ Ψ := fun W tk σ F H st hx Q hQ => by
  refine semE_of pe_dnewK fun p hn => ?_
  exact hQ _ (.ref p) F _ h (st.alloc hn) (Ex.refl F) ⟨p, [], rfl, upd_same, .nil, st.ex.none hn, st.toSk.notown hn, st.h0 hn⟩
theorem wdt_new {Φ : List (List Key × PyData) → Prop} (h : Φ []) : WDt X g (.Dict [] [] pos) env Φ Ψ := fun W tk σ F H st hx Q hQ => by
  refine semE_of pe_dnewT fun p hn => ?_
  exact hQ _ (.ref p) F _ h (st.alloc hn) (Ex.refl F) ⟨p, [], rfl, upd_same, .nil, st.ex.none hn, st.toSk.notown hn, st.h0 hn⟩
theorem we_dictK {Φ : PyData → Bool → Prop} (h : WDk X g e env (fun kvs => Φ (dKd kvs) true) Ψ) : WE X g e env Φ Ψ := fun W tk σ F H st hx Q hQ => by
  refine h W tk σ F H st hx _ fun kvs v F' H' hp s' e' ⟨q, xs, hv, h1, h2, h3, h4, h5⟩ => ?_
  subst hv
  have e2 := Ex.new (o := .dK xs) h3
  exact hQ _ true (.ref q) (upd F' q (.dK xs)) H' hp (s'.freeze h1 h3 h4 h5) (e'.trans e2) (.dck upd_same (dqk_mono e2 _ _ (kvp_dqk h2)))
theorem St.setK {i : Nat} {q : Addr} {xs : List (Key × V)} {kvs : List (Key × PyData)} (st : St K g F H σ env) (hi : i < env.length) (hH : H q = some (.dK xs)) (hd : KVp K F xs kvs) (hF : F q = none) (hn : ¬ Own env q) (h0 : g.H0 q = none) :
    St K g F H (σ.set i (some (.ref q))) (env.set i (.dk q kvs)) := by
  have one : ∀ b ∈ (Sl.dk q kvs).fp, b = q := fun b hb => by simpa [Sl.fp] using hb
  exact st.set (s := .dk q kvs) hi ⟨rfl, xs, hH, hd⟩ (fun b hb => by rw [one b hb]; exact hF) (fun b hb j t _ e ht => hn ⟨j, t, e, by rw [← one b hb]; exact ht⟩) (fun b hb => by rw [one b hb]; exact .inl h0)
theorem w1_setKd (i : Nat) {x : Str} {pos' : Pos} (hN : X.N.Nodup) (h : WDk X g e env (fun kvs => ∀ q, q ∉ g.M → P.nx (env.set i (.dk q kvs))) (fun c => P.ex c env)) (hi : X.N[i]? = some x := by rfl) (hx : Loc X.env.scope x := by first | exact Or.inl rfl | exact Or.inr rfl) (hl : Nat.blt i env.length = true := by rfl)
    (hs : swapsWith e (some (.Name x pos')) pos.line X.env = pure false := by rfl) (hf : X.fn x = true ∨ X.env.scope.names.lookup x = some .local := by first | exact .inl rfl | exact .inr rfl) : W1 X g (.Assign [.Name x pos'] e pos) env P := fun W tk hx2 σ F H s0 D hD => by
  refine semP_of (ps_set hN hi hx (peS e) hs hf) ?_
  refine h W tk σ F H s0 (hx2.hx env σ) _ fun kvs v F' H' hp s' e' ⟨q, xs, hv, h1, h2, h3, h4, h5⟩ => ?_
  subst hv
  exact hD.nx _ _ F' _ (hp q fun m => s'.g6 q m h5) (s'.setK (ltB hl) h1 h2 h3 h4 h5) e'
theorem into_m {Q Q' : Int → Prop} (h : intO x Q) (k : ∀ r, Q r → Q' r) : intO x Q' := by
  obtain ⟨i, rfl, h⟩ := into_ob h
  exact k _ h
theorem getK_m {kvs : List (Key × PyData)} {Q Q' : KD} (h : getKM kvs x Q) (k : ∀ r, Q r → Q' r) : getKM kvs x Q' := by
  unfold getKM at *
  split at h
  · split at h
    · exact k _ h
    · exact h.elim
  · exact h.elim
theorem disp_m {ps : List (PyData × PyData)} {Q Q' : List (Key × PyData) → Prop} (h : dispM ps Q) (k : ∀ r, Q r → Q' r) : dispM ps Q' := by
  unfold dispM at *
  split at h
  · exact k _ h
  · exact h.elim
def dictIs (d : PyData) (Q : Prop) : Prop := (∃ m, dictO d = some m) ∧ Q
theorem dictIs_ob {Q : Prop} (h : dictIs x Q) : ∃ m, dictO x = some m ∧ Q := by
  obtain ⟨⟨m, e⟩, q⟩ := h
  exact ⟨m, e, q⟩
theorem q_dictIs_T {m : List (List Key × PyData)} {Q : Prop} : dictIs (dTd m) Q = Q := propext (and_iff_right ⟨_, dictO_T m⟩)
theorem q_dictIs_K {m : List (Key × PyData)} {Q : Prop} : dictIs (dKd m) Q = Q := propext (and_iff_right ⟨_, dictO_K m⟩)
/-! [..] * n -/
def repLM (ds : List PyData) : PyData → KD → Prop
  | .int n, K => (-(2 ^ 63) ≤ n ∧ n < 2 ^ 63 ∧ ds.length * n.toNat ≤ sizeLine) ∧ K (.list (List.replicate n.toNat ds).flatten)
  | _, _ => False
theorem repL_m {ds : List PyData} {Q Q' : KD} (h : repLM ds x Q) (k : ∀ r, Q r → Q' r) : repLM ds x Q' := by
  unfold repLM at *
  split at h
  · exact ⟨h.1, k _ h.2⟩
  · exact h.elim
theorem dpa_rep {vs : List V} {ds : List PyData} (h : DqAll K F vs ds) : ∀ n : Nat, DqAll K F (List.replicate n vs).flatten (List.replicate n ds).flatten
  | 0 => .nil
  | n + 1 => by
    rw [List.replicate_succ, List.replicate_succ, List.flatten_cons, List.flatten_cons]
    exact dpa_app h (dpa_rep h n)
theorem we_repL {Φ : PyData → Bool → Prop} (h : WN X g a env (fun ds => WE X g b env (fun d _ => repLM ds d fun r => Φ r true) Ψ) Ψ) : WE X g (.BinOp a .Mult b pos) env Φ Ψ := fun W tk σ F H st hx Q hQ => by
  refine semE_of (pe_op op_rep (peS a) (peS b)) ?_
  refine h W tk σ F H st hx _ fun ds v F1 H1 hw s1 e1 ⟨q, vs, hv, h1, h2, h3, h4, h5⟩ => ?_
  subst hv
  have e2 := Ex.new (o := .lst vs) h3
  refine hw W tk σ _ H1 (s1.freeze h1 h3 h4 h5) hx _ fun d z w F2 H2 hr s2 e3 r2 => ?_
  have hr : repLM ds d (fun r => Φ r true) := hr
  unfold repLM at hr
  split at hr
  · rename_i n _
    have hq : H2 q = some (.lst vs) := s2.ex _ _ (e3 _ _ upd_same)
    refine ⟨q, n, vs, rfl, rd_int r2, hq, hr.1.1, hr.1.2.1, by rw [dpa_len h2]; exact hr.1.2.2, fun p hp => ?_⟩
    exact put_lst s2 hp (dpa_rep (dpa_mono (e2.trans e3) _ _ h2) _) hr.2 fun d z v F' H' q1 q2 q3 q4 => hQ d z v F' H' q1 q2 (((e1.trans e2).trans e3).trans q3) q4
  · exact hr.elim
/-! d[k] += e, a dict of one's own -/
theorem w1_augK (i : Nat) {kvs : List (Key × PyData)} {q tpos : Pos} (hr : Room k0 X.A)
    (h : WE X g a env (fun kd z => z = true ∧ getKM kvs kd fun old => intO old fun u => WE X g e env (fun d _ => intO d fun m => putKM kvs kd (.int (u + m)) fun r => P.nx (env.set i (.dk al r))) (fun c => P.ex c env)) (fun c => P.ex c env)) (he : env[i]? = some (.dk al kvs) := by rfl) (hN : X.N[i]? = some xn := by rfl)
    (hv : Vis X.env.scope xn := by first | exact Or.inl rfl | exact Or.inr (Or.inl rfl) | exact Or.inr (Or.inr rfl)) (hd : (xn == ("__debug__" : Str)) = false := by decide)
    (hcd : (xn == ("__classdict__" : Str)) = false := by decide) (hs : ∀ ov iv new, augStore a ov iv new = (do holding [new, ov, iv] (setItem ov iv new); release [new, ov, iv] []; pure .next) := by exact fun _ _ _ => rfl) : W1 X g (.AugAssign (.Subscript (.Name xn q) a tpos) .Add e pos) env P := fun W tk hx2 σ F H s0 D hD => by
  refine semP_of (ps_daug (by have := hr.units; omega) (pe_var hN hv hd hcd) (peS a) (peS e) in_add hs) ?_
  obtain ⟨h1, vs, h2, h3⟩ := s0.sl i _ he
  refine ⟨_, getD_some h1, ?_⟩
  refine h W tk σ F H s0 (hx2.hx env σ) _ fun kd z v F1 H1 ⟨hz, hg⟩ s1 e1 r1 => ?_
  subst hz
  unfold getKM at hg
  split at hg
  · rename_i k hk
    split at hg
    · rename_i d hd'
      obtain ⟨u, rfl, hg⟩ := into_ob hg
      have hv' := keyA_dp r1 hk
      subst hv'
      obtain ⟨_, vs', h2', h3'⟩ := s1.sl i _ he
      obtain ⟨w, hw, dw⟩ := (kvp_val h3').1 _ hd'
      refine ⟨al, w, rfl, hw ▸ DGet.k h2', ?_⟩
      refine hg W tk σ F1 H1 s1 (hx2.hx env σ) _ fun d2 z2 v2 F2 H2 hi s2 e2 r2 => ?_
      obtain ⟨m, rfl, hp⟩ := into_ob hi
      unfold putKM at hp
      rw [hk] at hp
      dsimp only at hp
      obtain ⟨hlen, hp⟩ := hp
      refine ⟨u, m, dp_int dw, rd_int r2, ?_⟩
      obtain ⟨q1, vs2, q2, q3⟩ := s2.sl i _ he
      refine ⟨_, DPut.k q2 (by rw [kvp_len q3]; exact hlen), ?_⟩
      exact hD.nx _ _ F2 _ hp (s2.write (s' := .dk al (putP kvs k (.int (u + m)))) he rfl rfl ⟨q1, _, upd_same, kvp_put q3 (.int _)⟩) (e1.trans e2)
    · exact hg.elim
  · exact hg.elim
/-! str(x), f'..' -/
section
variable {Φ : PyData → Bool → Prop}
theorem call_strA : CallR X (.type "str") (fun xs H Q => (∃ i : Int, xs = [.int i] ∧ i.natAbs.log2 < 1920 ∧ Q (.str (toString i)) H) ∨ ∃ a, xs = [.str a] ∧ Q (.str a) H) := by
  intro pins s σ H xs us Q I r h
  rcases h with h | h
  · exact call_str_int pins s σ H xs us Q I r h
  · exact SkE.call_str_str pins s σ H xs us Q I r h
theorem we_str1 (hm : X.mg "str" = none) (h : WE X g a env (fun d _ => strM d fun r => Φ r true) Ψ) (hg : Gl X "str" := by rfl) (he : starEach [a] X.env = (false, eval a X.env) :: starEach [] X.env := by rfl) : WE X g (.Call (.Name "str" p) [a] [] pos) env Φ Ψ :=
  we_t1 call_strA hm (by decide +kernel) (fun d1 z1 h σ F H v1 st r1 Q hQ => by
    unfold strM at h
    split at h
    · exact .inl ⟨_, by rw [rd_int r1], h.1, hQ _ true _ F H h.2 st (Ex.refl F) (.str _)⟩
    · exact .inr ⟨_, by rw [rd_str r1], hQ _ true _ F H h st (Ex.refl F) (.str _)⟩
    · exact h.elim) h hg (he := he)
end
end
end TL

namespace TL
open PySem PySem.Spec PyProof.Rows L2
/-! list(d) of a dict -/
def keysK (kvs : List (Key × PyData)) : List PyData := kvs.map fun kv => kD kv.1
def keysDM (d : PyData) (K : KL) : Prop := match dictO d with
  | some (.inl m) => K (keysT m)
  | some (.inr m) => K (keysK m)
  | none => False
theorem q_keysD_T {m : List (List Key × PyData)} {K : KL} : keysDM (dTd m) K = K (keysT m) := by unfold keysDM; rw [dictO_T]
theorem q_keysD_K {m : List (Key × PyData)} {K : KL} : keysDM (dKd m) K = K (keysK m) := by unfold keysDM; rw [dictO_K]
section
variable {X : Cx} {g : G} {env env' : List Sl} {Ψ : Exc → Prop} {P : Po} {pos p lp : Pos} {a b c e f o tg iter : Expr} {es : List Expr} {rest body : List Stmt} {K : Frag} {F F' H H' : Hp} {σ σ' : SS} {x y : PyData} {z1 z2 : Bool} {k0 : Nat} {al : Addr} {xn : Str} {apos : Pos}
theorem keysD_m {Q Q' : KL} (h : keysDM x Q) (k : ∀ r, Q r → Q' r) : keysDM x Q' := by
  unfold keysDM at *
  split at h
  · exact k _ h
  · exact k _ h
  · exact h.elim
theorem keysK_dpa : ∀ {xs : List (Key × V)} {kvs : List (Key × PyData)}, KVp K F xs kvs → DqAll K F (xs.map fun kv => kV kv.1) (keysK kvs)
  | _, _, .nil => .nil
  | (k1, _) :: _, (k2, _) :: _, .cons h t => by
    obtain ⟨h1, _⟩ := h
    have h1 : k1 = k2 := h1
    subst h1
    exact .cons (dp_key k1) (keysK_dpa t)
def rListDT : List V → Hp → VK → Prop := fun xs H Q => rListD xs H Q ∨ ∃ d kvs, xs = [V.ref d] ∧ L2.Rd H d (.dT kvs) ∧ ∀ p bs, H p = none → IsKeys H kvs bs → Q (.ref p) (upd H p (.lst (bs.map V.ref)))
theorem call_listDT (hc : X.calm = true) : CallR X (.type "list") rListDT := by
  intro pins s σ H xs us Q I r h
  rcases h with h | h
  · exact call_list_dK hc pins s σ H xs us Q I r h
  · exact call_list_dT hc pins s σ H xs us Q I r h
theorem wn_listD {Φ : KL} (hm : X.mg "list" = none) (hc : X.calm = true) (h : WE X g a env (fun d z => z = true ∧ keysDM d Φ) Ψ) (hg : Gl X "list" := by rfl) (he : starEach [a] X.env = (false, eval a X.env) :: starEach [] X.env := by rfl) (hpl : (backTo pos (starEach ([] : List Expr) X.env)).any (·.1) = false := by rfl) : WN X g (.Call (.Name "list" p) [a] [] pos) env Φ Ψ := fun W tk σ F H st hx Q hQ => by
  refine semE_of (pe_callTy (call_listDT hc) hg hm (by decide +kernel) (pa_cons (peS a) pa_nil he) (by decide) (by decide) he hpl) ?_
  refine h W tk σ F H st hx _ fun d z v F1 H1 ⟨hz, hp⟩ s1 e1 r1 => ?_
  subst hz
  have r1' : Dq X.K F1 v d := r1
  unfold keysDM at hp
  split at hp
  · rename_i m em
    rw [dictO_t em] at r1'
    obtain ⟨q, xs, rfl, hs, hkv⟩ := dq_dT r1'
    exact .inr ⟨q, xs, rfl, .inl (s1.ex _ _ hs), fun pn bs hn hb => put_new s1 hn (keys_dpa (kvs := m) s1.tf hkv hb) hp fun ds v F' H' q1 q2 q3 q4 => hQ ds v F' H' q1 q2 (e1.trans q3) q4⟩
  · rename_i m em
    rw [dictO_k em] at r1'
    obtain ⟨q, xs, rfl, hs, hkv⟩ := dq_dK r1'
    exact .inl ⟨q, xs, rfl, s1.ex _ _ hs, fun pn hn => put_new s1 hn (keysK_dpa hkv) hp fun ds v F' H' q1 q2 q3 q4 => hQ ds v F' H' q1 q2 (e1.trans q3) q4⟩
  · exact hp.elim
theorem wn_listKv (i : Nat) {kvs : List (Key × PyData)} {q : Pos} {Φ : List PyData → Prop} (hm : X.mg "list" = none) (hc : X.calm = true) (h : Φ (keysK kvs)) (he : env[i]? = some (.dk al kvs) := by rfl) (hN : X.N[i]? = some xn := by rfl)
    (hv : Vis X.env.scope xn := by first | exact Or.inl rfl | exact Or.inr (Or.inl rfl) | exact Or.inr (Or.inr rfl)) (hd : (xn == ("__debug__" : Str)) = false := by decide)
    (hcd : (xn == ("__classdict__" : Str)) = false := by decide) (hg : Gl X "list" := by rfl) (hes : starEach [Expr.Name xn q] X.env = (false, eval (.Name xn q) X.env) :: starEach [] X.env := by rfl) (hpl : (backTo pos (starEach ([] : List Expr) X.env)).any (·.1) = false := by rfl) : WN X g (.Call (.Name "list" p) [.Name xn q] [] pos) env Φ Ψ := fun W tk σ F H st hx Q hQ => by
  refine semE_of (pe_callTy (call_list_dK hc) hg hm (by decide +kernel) (pa_cons (pe_var hN hv hd hcd) pa_nil hes) (by decide) (by decide) hes hpl) ?_
  obtain ⟨h1, vs, h2, h3⟩ := st.sl i _ he
  refine ⟨_, getD_some h1, al, vs, rfl, h2, fun pn hn => ?_⟩
  exact put_new st hn (keysK_dpa h3) h hQ
end
end TL

namespace TL
open PySem PySem.Spec PyProof.Rows L2
section
variable {X : Cx} {g : G} {env env' : List Sl} {Ψ : Exc → Prop} {P : Po} {pos p lp : Pos} {a b c e f o tg iter : Expr} {es : List Expr} {rest body : List Stmt} {K : Frag} {F F' H H' : Hp} {σ σ' : SS} {x y : PyData} {z1 z2 : Bool} {k0 : Nat} {al : Addr} {xn : Str} {apos : Pos}
/-! a slot forgotten -/
theorem ws_forget (i : Nat) (h : WS X g rest (env.set i .un) P) (hi : env[i]?.isSome = true := by rfl) : WS X g rest env P := fun W tk hx σ F H st D hD => by
  obtain ⟨s, hs⟩ := Option.isSome_iff_exists.mp hi
  exact h W tk hx σ F H (st.weak hs (fun a m => by cases m) fun _ => trivial) D hD
end
end TL

namespace Tx
open PySem PySem.Spec PyProof.Rows L2 TL
/-! the row of products -/
def catl : List Int := [0, 1, 1, 2, 5, 14, 42, 132, 429, 1430, 4862, 16796, 58786, 208012, 742900, 2674440, 9694845, 35357670, 129644790, 477638700, 1767263190, 6564120420, 24466267020, 91482563640, 343059613650, 1289904147324, 4861946401452, 18367353072152, 69533550916004, 263747951750360, 1002242216651368, 3814986502092304, 14544636039226909, 55534064877048198, 212336130412243110, 812944042149730764, 3116285494907301262, 11959798385860453492, 45950804324621742364, 176733862787006701400, 680425371729975800390, 2622127042276492108820]
def cc (i : Nat) : Int := catl.getD i 0
abbrev ccD (i : Nat) : PyData := .int (cc i)
theorem cc_rec : ∀ m < 41, 2 ≤ m → ((List.range (m - 1)).map fun (j : Nat) => cc (1 + (j : Int)).toNat * cc ((m : Int) - (1 + (j : Int))).toNat).sum = cc m := by decide +kernel
theorem cc_lt : ∀ m < 42, (cc m).natAbs < 2 ^ 80 := by decide +kernel
theorem cc_pos : ∀ m < 42, 1 ≤ m → 0 < cc m := by decide +kernel
theorem cc_wide (i j : Int) (h : i.toNat < 42) (h2 : j.toNat < 42) : CMulW (cc i.toNat) (cc j.toNat) := wide_mul (cc_lt _ h) (cc_lt _ h2) (by decide) (by decide) (by decide)
theorem cc_div (i : Int) (m : Nat) (h0 : 1 ≤ m) (h : m < 42) : CDivW i (cc m) := wide_div (cc_pos m h h0) (cc_lt m h) (by decide) (by decide)
theorem cc_cat : ∀ m < 40, 1 ≤ m → cc m * 2 * (2 * (m : Int) - 1) / ((m : Int) + 1) = cc (m + 1) := by decide +kernel
/-! plans: numbers of faces and cuts -/
def lePP (p q : Int × Int) : Bool := decide (p.1 < q.1 ∨ (p.1 = q.1 ∧ p.2 ≤ q.2))
def ltPP (p q : Int × Int) : Bool := decide (p.1 < q.1 ∨ (p.1 = q.1 ∧ p.2 < q.2))
def sortPP (ps : List (Int × Int)) : List (Int × Int) := ps.mergeSort lePP
theorem srt_pp (ps : List (Int × Int)) : srt (ps.map ppD) = (sortPP ps).map ppD := by
  unfold srt sortPP
  have e := PySem.W.dataLe_ii (β := Int × Int) (fun p => p.1) (fun p => p.2)
  refine (List.map_mergeSort (r := lePP) (s := PySem.W.dataLe false id) fun a _ b _ => ?_).symm
  have e2 := congrFun (congrFun e a) b
  exact e2.symm
def planD (n : Int) (cs : List PyData) : PyData := .tuple [.int n, .tuple cs]
abbrev plD (n : Int) (cs : List (Int × Int)) : PyData := planD n (cs.map ppD)
def nrm (n : Int) (p : Int × Int) : Int × Int := (if p.2 % n < p.1 then p.2 % n else p.1, if p.2 % n > p.1 then p.2 % n else p.1)
def inF (p : Int × Int) (c : Int) : Bool := !decide (c = p.1) && !decide (c = p.2)
def inG (p : Int × Int) (c : Int) : Bool := decide (p.1 < c) && decide (c < p.2)
def two : List Bool → Bool
  | [a, b] => !decide (a = b)
  | _ => false
def crossB (p q : Int × Int) : Bool := two (([q.1, q.2].filter (inF p)).map (inG p))
def cutB (n : Int) (p : Int × Int) : Bool := decide (0 ≤ p.1) && (decide (p.1 + 1 < p.2) && decide (p.2 < n)) && !decide (p.1 = 0 ∧ p.2 = n - 1)
theorem eqv_ii (a b c d : Int) : PyData.eqv (.tuple [.int a, .int b]) (.tuple [.int c, .int d]) = decide (a = c ∧ b = d) := by
  simp only [PyData.eqv, PyData.eqvAll, Bool.and_true]
  by_cases h1 : a = c
  · by_cases h2 : b = d
    · simp [h1, h2]
    · simp [h1, h2]
  · simp [h1]
/-! pair_of -/
def o_pair_of : CT := fun args Φ Ψ => ∃ i j : Int, args = [.d (.int i), .d (.int j)] ∧ Φ (.rd (ppD (if j < i then j else i, if j > i then j else i))) args
/-! crossing -/
def o_crossing : CT := fun args Φ Ψ => ∃ p q : Int × Int, args = [.d (ppD p), .d (ppD q)] ∧ Φ (.rd (.bool (crossB p q))) args
/-! is_cut -/
def o_is_cut : CT := fun args Φ Ψ => ∃ (n : Int) (p : Int × Int), args = [.d (.int n), .d (ppD p)] ∧ Φ (.rd (.bool (cutB n p))) args
/-! is_plan -/
def adjB (cs : List (Int × Int)) : Bool := (List.range (cs.length - 1)).all fun i => ltPP (cs.getD i (0, 0)) (cs.getD (i + 1) (0, 0))
def nocB (cs : List (Int × Int)) : Bool := (List.range cs.length).all fun i => !((cs.take i).any fun d => crossB (cs.getD i (0, 0)) d)
def planB (n : Int) (cs : List (Int × Int)) : Bool := decide (3 ≤ n) && decide (n ≤ 40) && decide ((cs.length : Int) = n - 3) && cs.all (cutB n) && adjB cs && nocB cs
theorem ltPP_lex (p q : Int × Int) : HT.lexLt [p.1, p.2] [q.1, q.2] = ltPP p q := by
  unfold ltPP
  rw [HT.lexLt_cons, HT.lexLt_cons, HT.lexLt_nil_nil]
  by_cases h : p.1 = q.1
  · rw [if_pos h]
    by_cases h2 : p.2 = q.2
    · rw [if_pos h2]; symm; apply decide_eq_false; omega
    · rw [if_neg h2]; apply decide_eq_decide.mpr; omega
  · rw [if_neg h]; apply decide_eq_decide.mpr; omega
def o_is_plan : CT := fun args Φ Ψ => ∃ (n : Int) (cs : List (Int × Int)), args = [.d (plD n cs)] ∧ cs.length ≤ 1000 ∧ Φ (.rd (.bool (planB n cs))) args
/-! need_plan -/
def o_need_plan : CT := fun args Φ Ψ => ∃ (n : Int) (cs : List (Int × Int)), args = [.d (plD n cs)] ∧ cs.length ≤ 1000 ∧ (planB n cs = true → Φ (.rd .none) args) ∧ (planB n cs = false → Ψ (.own "BadPlan") args)
/-! what a good plan is -/
structure IsPlan (n : Int) (cs : List (Int × Int)) : Prop where
  lo : 3 ≤ n
  hi : n ≤ 40
  len : (cs.length : Int) = n - 3
  cut : ∀ c ∈ cs, 0 ≤ c.1 ∧ c.1 + 1 < c.2 ∧ c.2 < n ∧ ¬ (c.1 = 0 ∧ c.2 = n - 1)
  srt : cs.Pairwise fun p q => ltPP p q = true
  noc : ∀ c ∈ cs, ∀ d ∈ cs, crossB c d = false
theorem inF_t {p : Int × Int} {c : Int} (h1 : c ≠ p.1) (h2 : c ≠ p.2) : inF p c = true := by unfold inF; simp [h1, h2]
theorem inF_1 {p : Int × Int} {c : Int} (h1 : c = p.1) : inF p c = false := by unfold inF; simp [h1]
theorem inF_2 {p : Int × Int} {c : Int} (h1 : c = p.2) : inF p c = false := by unfold inF; simp [h1]
theorem cross_eq (p q : Int × Int) : crossB p q = decide (q.1 ≠ p.1 ∧ q.1 ≠ p.2 ∧ q.2 ≠ p.1 ∧ q.2 ≠ p.2 ∧ ¬ ((p.1 < q.1 ∧ q.1 < p.2) ↔ (p.1 < q.2 ∧ q.2 < p.2))) := by
  unfold crossB
  have k1 : ∀ x y : Bool, inF p q.1 = x → inF p q.2 = y → two (([q.1, q.2].filter (inF p)).map (inG p)) = (x && y && !decide (inG p q.1 = inG p q.2)) := fun x y h1 h2 => by
    cases x <;> cases y <;> simp [List.filter, h1, h2, two]
  have g : ∀ c, inG p c = decide (p.1 < c ∧ c < p.2) := fun c => by unfold inG; simp
  have key : (!decide (inG p q.1 = inG p q.2)) = decide (¬ ((p.1 < q.1 ∧ q.1 < p.2) ↔ (p.1 < q.2 ∧ q.2 < p.2))) := by
    rw [g, g]
    by_cases a : p.1 < q.1 ∧ q.1 < p.2 <;> by_cases b : p.1 < q.2 ∧ q.2 < p.2 <;> simp [a, b]
  by_cases h1 : q.1 = p.1
  · rw [k1 _ _ (inF_1 h1) rfl]; simp [h1]
  · by_cases h2 : q.1 = p.2
    · rw [k1 _ _ (inF_2 h2) rfl]; simp [h2]
    · by_cases h3 : q.2 = p.1
      · rw [k1 _ _ rfl (inF_1 h3)]; simp [h3]
      · by_cases h4 : q.2 = p.2
        · rw [k1 _ _ rfl (inF_2 h4)]; simp [h4]
        · rw [k1 _ _ (inF_t h1 h2) (inF_t h3 h4), key]
          apply decide_eq_decide.mpr
          constructor
          · exact fun h => ⟨h1, h2, h3, h4, h⟩
          · exact fun h => h.2.2.2.2
theorem cutB_iff (n : Int) (c : Int × Int) : cutB n c = true ↔ (0 ≤ c.1 ∧ c.1 + 1 < c.2 ∧ c.2 < n ∧ ¬ (c.1 = 0 ∧ c.2 = n - 1)) := by
  unfold cutB
  simp only [Bool.and_eq_true, decide_eq_true_eq, Bool.not_eq_true', decide_eq_false_iff_not]
  constructor
  · rintro ⟨⟨h1, h2, h3⟩, h4⟩; exact ⟨h1, h2, h3, h4⟩
  · rintro ⟨h1, h2, h3, h4⟩; exact ⟨⟨h1, h2, h3⟩, h4⟩
theorem ltPP_trans {p q r : Int × Int} (h1 : ltPP p q = true) (h2 : ltPP q r = true) : ltPP p r = true := by
  unfold ltPP at *
  have h1 := of_decide_eq_true h1
  have h2 := of_decide_eq_true h2
  apply decide_eq_true
  omega
theorem getD_at {cs : List (Int × Int)} {i : Nat} (h : i < cs.length) : cs.getD i (0, 0) = cs[i] := by rw [List.getD_eq_getElem?_getD, List.getElem?_eq_getElem h]; rfl
theorem planB_of {n : Int} {cs : List (Int × Int)} (h : IsPlan n cs) : planB n cs = true := by
  unfold planB
  rw [decide_eq_true h.lo, decide_eq_true h.hi, decide_eq_true h.len]
  have h4 : cs.all (cutB n) = true := List.all_eq_true.mpr fun c hc => (cutB_iff n c).mpr (h.cut c hc)
  have h5 : adjB cs = true := by
    unfold adjB
    refine List.all_eq_true.mpr fun i hi => ?_
    have hi := List.mem_range.mp hi
    rw [getD_at (by omega), getD_at (by omega)]
    exact List.pairwise_iff_getElem.mp h.srt i (i + 1) (by omega) (by omega) (by omega)
  have h6 : nocB cs = true := by
    unfold nocB
    refine List.all_eq_true.mpr fun i hi => ?_
    have hi := List.mem_range.mp hi
    rw [getD_at hi]
    have : (cs.take i).any (fun d => crossB cs[i] d) = false := List.any_eq_false.mpr fun d hd => by
      rw [h.noc _ (List.getElem_mem hi) d (List.mem_of_mem_take hd)]
      decide
    rw [this]
    rfl
  rw [h4, h5, h6]
  rfl
theorem cross_comm (p q : Int × Int) (hp : p.1 < p.2) (hq : q.1 < q.2) : crossB p q = crossB q p := by
  rw [cross_eq, cross_eq]
  apply decide_eq_decide.mpr
  omega
theorem cross_self (p : Int × Int) : crossB p p = false := by
  rw [cross_eq]
  apply decide_eq_false
  exact fun h => h.1 rfl
theorem planB_ok {n : Int} {cs : List (Int × Int)} (h : planB n cs = true) : IsPlan n cs := by
  unfold planB at h
  simp only [Bool.and_eq_true, decide_eq_true_eq] at h
  obtain ⟨⟨⟨⟨⟨h1, h2⟩, h3⟩, h4⟩, h5⟩, h6⟩ := h
  have hcut : ∀ c ∈ cs, 0 ≤ c.1 ∧ c.1 + 1 < c.2 ∧ c.2 < n ∧ ¬ (c.1 = 0 ∧ c.2 = n - 1) := fun c hc => (cutB_iff n c).mp (List.all_eq_true.mp h4 c hc)
  have adj : ∀ i, i + 1 < cs.length → ltPP (cs.getD i (0, 0)) (cs.getD (i + 1) (0, 0)) = true := fun i hi => List.all_eq_true.mp h5 i (List.mem_range.mpr (by omega))
  have far : ∀ d i, i + d + 1 < cs.length → ltPP (cs.getD i (0, 0)) (cs.getD (i + d + 1) (0, 0)) = true := fun d => by
    induction d with
    | zero => exact fun i hi => adj i hi
    | succ d ih => exact fun i hi => ltPP_trans (ih i (by omega)) (adj (i + d + 1) (by omega))
  have noc : ∀ i j, (hi : i < cs.length) → (hj : j < cs.length) → j < i → crossB cs[i] cs[j] = false := fun i j hi hj hji => by
    have q := List.all_eq_true.mp h6 i (List.mem_range.mpr hi)
    rw [getD_at hi] at q
    have q2 : (cs.take i).any (fun d => crossB cs[i] d) = false := by simpa using q
    have q3 := List.any_eq_false.mp q2 cs[j] (List.mem_take_iff_getElem.mpr ⟨j, by omega, rfl⟩)
    simpa using q3
  refine ⟨h1, h2, h3, hcut, List.pairwise_iff_getElem.mpr fun i j hi hj hij => ?_, fun c hc d hd => ?_⟩
  · have q := far (j - i - 1) i (by omega)
    rw [show i + (j - i - 1) + 1 = j by omega, getD_at hi, getD_at hj] at q
    exact q
  · obtain ⟨i, hi, rfl⟩ := List.getElem_of_mem hc
    obtain ⟨j, hj, rfl⟩ := List.getElem_of_mem hd
    have c1 := hcut _ (List.getElem_mem hi)
    have c2 := hcut _ (List.getElem_mem hj)
    rcases Nat.lt_trichotomy j i with z | z | z
    · exact noc i j hi hj z
    · subst z; exact cross_self _
    · rw [cross_comm _ _ (by omega) (by omega)]
      exact noc j i hj hi z
theorem lePP_total (p q : Int × Int) : (lePP p q || lePP q p) = true := by
  unfold lePP
  by_cases h : p.1 < q.1 ∨ (p.1 = q.1 ∧ p.2 ≤ q.2)
  · rw [decide_eq_true h]; rfl
  · rw [decide_eq_true (show q.1 < p.1 ∨ (q.1 = p.1 ∧ q.2 ≤ p.2) by omega), Bool.or_true]
theorem lePP_trans (p q r : Int × Int) (h1 : lePP p q = true) (h2 : lePP q r = true) : lePP p r = true := by
  unfold lePP at *
  have h1 := of_decide_eq_true h1
  have h2 := of_decide_eq_true h2
  apply decide_eq_true
  omega
theorem sortPP_perm (ps : List (Int × Int)) : (sortPP ps).Perm ps := List.mergeSort_perm ps lePP
theorem sortPP_lt {ps : List (Int × Int)} (nd : ps.Nodup) : (sortPP ps).Pairwise fun p q => ltPP p q = true := by
  have h1 : (sortPP ps).Pairwise fun p q => lePP p q = true := List.pairwise_mergeSort lePP_trans lePP_total ps
  have h2 : (sortPP ps).Nodup := (sortPP_perm ps).nodup_iff.mpr nd
  refine (h1.and h2).imp fun {p q} h => ?_
  have h3 := of_decide_eq_true h.1
  have h4 : p ≠ q := h.2
  apply decide_eq_true
  have : ¬ (p.1 = q.1 ∧ p.2 = q.2) := fun z => h4 (Prod.ext z.1 z.2)
  omega
/-! arcs as they are drawn -/
inductive Arcs : Int → Int → List (Int × Int) → Prop
  | leaf {s e : Int} : e - s ≤ 1 → Arcs s e []
  | node {s m e : Int} {a b : List (Int × Int)} : s < m → m < e → Arcs s m a → Arcs m e b → Arcs s e ((s, m) :: (m, e) :: (a ++ b))
theorem Arcs.len {s e : Int} {l : List (Int × Int)} (h : Arcs s e l) (hs : s < e) : (l.length : Int) ≤ 2 * (e - s) - 2 := by
  induction h with
  | leaf h => simp; omega
  | node h1 h2 _ _ ia ib =>
    have := ia h1
    have := ib h2
    simp only [List.length_cons, List.length_append]
    omega
def wide (p : Int × Int) : Bool := decide (p.2 - p.1 > 1)
def lam (p q : Int × Int) : Prop := p.2 ≤ q.1 ∨ q.2 ≤ p.1 ∨ (p.1 ≤ q.1 ∧ q.2 ≤ p.2) ∨ (q.1 ≤ p.1 ∧ p.2 ≤ q.2)
theorem Arcs.within {s e : Int} {l : List (Int × Int)} (h : Arcs s e l) (hs : s < e) : ∀ p ∈ l, s ≤ p.1 ∧ p.1 < p.2 ∧ p.2 ≤ e ∧ ¬ (p.1 = s ∧ p.2 = e) := by
  induction h with
  | leaf h => intro p hp; cases hp
  | node h1 h2 _ _ ia ib =>
    intro p hp
    rcases List.mem_cons.mp hp with rfl | hp
    · exact ⟨Int.le_refl _, h1, by omega, by omega⟩
    · rcases List.mem_cons.mp hp with rfl | hp
      · exact ⟨by omega, h2, Int.le_refl _, by omega⟩
      · rcases List.mem_append.mp hp with hp | hp
        · have := ia h1 p hp; omega
        · have := ib h2 p hp; omega
theorem Arcs.lams {s e : Int} {l : List (Int × Int)} (h : Arcs s e l) (hs : s < e) : ∀ p ∈ l, ∀ q ∈ l, lam p q := by
  induction h with
  | leaf h => intro p hp; cases hp
  | @node s m e a b h1 h2 ha hb ia ib =>
    have wa := ha.within h1
    have wb := hb.within h2
    have cases4 : ∀ p ∈ (s, m) :: (m, e) :: (a ++ b), p = (s, m) ∨ p = (m, e) ∨ p ∈ a ∨ p ∈ b := fun p hp => by
      rcases List.mem_cons.mp hp with h | hp
      · exact .inl h
      · rcases List.mem_cons.mp hp with h | hp
        · exact .inr (.inl h)
        · rcases List.mem_append.mp hp with h | h
          · exact .inr (.inr (.inl h))
          · exact .inr (.inr (.inr h))
    intro p hp q hq
    rcases cases4 p hp with rfl | rfl | hp | hp <;> rcases cases4 q hq with rfl | rfl | hq | hq
    all_goals first
      | exact ia h1 p hp q hq
      | exact ib h2 p hp q hq
      | (unfold lam; (try have x1 := wa p hp); (try have x2 := wb p hp); (try have x3 := wa q hq); (try have x4 := wb q hq); (try simp only at *); omega)
theorem Arcs.nodup {s e : Int} {l : List (Int × Int)} (h : Arcs s e l) (hs : s < e) : l.Nodup := by
  induction h with
  | leaf h => exact List.nodup_nil
  | @node s m e a b h1 h2 ha hb ia ib =>
    have wa := ha.within h1
    have wb := hb.within h2
    refine List.nodup_cons.mpr ⟨fun hm => ?_, List.nodup_cons.mpr ⟨fun hm => ?_, List.nodup_append.mpr ⟨ia h1, ib h2, fun x hx y hy z => ?_⟩⟩⟩
    · rcases List.mem_cons.mp hm with h | hm
      · have := congrArg Prod.fst h; simp only at this; omega
      · rcases List.mem_append.mp hm with h | h
        · exact (wa _ h).2.2.2 ⟨rfl, rfl⟩
        · exact absurd (show m ≤ s from (wb _ h).1) (by omega)
    · rcases List.mem_append.mp hm with h | h
      · exact absurd (show e ≤ m from (wa _ h).2.2.1) (by omega)
      · exact (wb _ h).2.2.2 ⟨rfl, rfl⟩
    · subst z
      have := wa _ hx
      have := wb _ hy
      omega
theorem Arcs.wides {s e : Int} {l : List (Int × Int)} (h : Arcs s e l) (hs : s < e) : ((l.filter wide).length : Int) = if e - s ≤ 1 then 0 else e - s - 2 := by
  induction h with
  | leaf h => rw [if_pos h]; rfl
  | @node s m e a b h1 h2 ha hb ia ib =>
    have x := ia h1
    have y := ib h2
    rw [if_neg (by omega)]
    have w1 : wide (s, m) = decide (m - s > 1) := rfl
    have w2 : wide (m, e) = decide (e - m > 1) := rfl
    by_cases c1 : m - s ≤ 1 <;> by_cases c2 : e - m ≤ 1
    all_goals
      (first | rw [if_pos c1] at x | rw [if_neg c1] at x)
      (first | rw [if_pos c2] at y | rw [if_neg c2] at y)
      have d1 : decide (m - s > 1) = !decide (m - s ≤ 1) := by by_cases h : m - s ≤ 1 <;> simp [h] <;> omega
      have d2 : decide (e - m > 1) = !decide (e - m ≤ 1) := by by_cases h : e - m ≤ 1 <;> simp [h] <;> omega
      simp only [List.filter_cons, List.filter_append, w1, w2, d1, d2, c1, c2, decide_true, decide_false, Bool.not_true, Bool.not_false, if_true, if_false, List.length_cons, List.length_append, Bool.false_eq_true]
      omega
/-- what a drawn row of arcs gives is a good plan -/
theorem arcs_plan {n : Int} {l : List (Int × Int)} (h3 : 3 ≤ n) (h40 : n ≤ 40) (h : Arcs 1 n l) : IsPlan n (sortPP ((l.filter wide).map (nrm n))) := by
  have hn : (1 : Int) < n := by omega
  have hw := h.within hn
  have hlm := h.lams hn
  have hlen := h.wides hn
  rw [if_neg (by omega)] at hlen
  have val : ∀ p ∈ l.filter wide, (p.2 < n ∧ nrm n p = p) ∨ (p.2 = n ∧ nrm n p = (0, p.1)) := fun p hp => by
    have hp1 := (List.mem_filter.mp hp).1
    have w := hw p hp1
    by_cases e : p.2 = n
    · right
      refine ⟨e, ?_⟩
      unfold nrm
      rw [e, Int.emod_self, if_pos (by omega), if_neg (by omega)]
    · left
      refine ⟨by omega, ?_⟩
      unfold nrm
      rw [Int.emod_eq_of_lt (by omega) (by omega), if_neg (by omega), if_pos (by omega)]
  have facts : ∀ p ∈ l.filter wide, 1 ≤ p.1 ∧ p.1 + 1 < p.2 ∧ p.2 ≤ n ∧ ¬ (p.1 = 1 ∧ p.2 = n) := fun p hp => by
    obtain ⟨hp1, hp2⟩ := List.mem_filter.mp hp
    have w := hw p hp1
    have w2 : p.2 - p.1 > 1 := of_decide_eq_true hp2
    omega
  have nd : ((l.filter wide).map (nrm n)).Nodup := by
    have nd0 : (l.filter wide).Nodup := (h.nodup hn).filter _
    refine List.pairwise_map.mpr (nd0.imp_of_mem fun {p q} hp hq hne z => hne ?_)
    have f1 := facts p hp
    have f2 := facts q hq
    rcases val p hp with ⟨a1, a2⟩ | ⟨a1, a2⟩ <;> rcases val q hq with ⟨b1, b2⟩ | ⟨b1, b2⟩
    · rw [a2, b2] at z; exact z
    · rw [a2, b2] at z
      have := congrArg Prod.fst z; simp only at this; omega
    · rw [a2, b2] at z
      have := congrArg Prod.fst z; simp only at this; omega
    · rw [a2, b2] at z
      have := congrArg Prod.snd z; simp only at this
      exact Prod.ext this (by omega)
  have mem : ∀ c ∈ sortPP ((l.filter wide).map (nrm n)), ∃ p ∈ l.filter wide, nrm n p = c := fun c hc => List.mem_map.mp ((sortPP_perm _).mem_iff.mp hc)
  refine ⟨h3, h40, ?_, fun c hc => ?_, sortPP_lt nd, fun c hc d hd => ?_⟩
  · rw [(sortPP_perm _).length_eq, List.length_map]; omega
  · obtain ⟨p, hp, rfl⟩ := mem c hc
    have f1 := facts p hp
    rcases val p hp with ⟨a1, a2⟩ | ⟨a1, a2⟩
    · rw [a2]; omega
    · rw [a2]; simp only; omega
  · obtain ⟨p, hp, rfl⟩ := mem c hc
    obtain ⟨q, hq, rfl⟩ := mem d hd
    have f1 := facts p hp
    have f2 := facts q hq
    have L := hlm p (List.mem_filter.mp hp).1 q (List.mem_filter.mp hq).1
    unfold lam at L
    rw [cross_eq]
    apply decide_eq_false
    rcases val p hp with ⟨a1, a2⟩ | ⟨a1, a2⟩ <;> rcases val q hq with ⟨b1, b2⟩ | ⟨b1, b2⟩ <;> rw [a2, b2] <;> (try simp only) <;> omega
/-! _law_pair -/
def o__law_pair : CT := fun args Φ Ψ => ∃ i j : Int, args = [.d (.int i), .d (.int j)] ∧ Φ (.rd (ppD (if j < i then j else i, if j > i then j else i))) args
/-! _law_bag -/
def absI (c : Int) : Int := if c < 0 then -c else c
theorem absI_nn (c : Int) : 0 ≤ absI c := by unfold absI; split <;> omega
def o__law_bag : CT := fun args Φ Ψ => ∃ ns : List Int, args = [.d (.list (ns.map .int))] ∧ ns.length ≤ 63 ∧ ∀ ds, BagD ds → Φ (.nl ds) args
/-! _law_pull -/
def o__law_pull : CT := fun args Φ Ψ => ∃ (b : Addr) (many : Int), args = [.bg b, .d (.int many)] ∧ 0 < many ∧ many.natAbs < 2 ^ 8000 ∧ ∀ r : Int, 0 ≤ r → r < many → Φ (.rd (.int r)) args
/-! _law_cut_arc -/
def o__law_cut_arc (N : Nat) : CT := fun args Φ Ψ => ∃ (b : Addr) (st en : Int) (f : Addr) (ds : List PyData), args = [.bg b, .d (.int st), .d (.int en), .ol f ds] ∧ st < en ∧ en - st ≤ N ∧ (ds.length : Int) + 2 * (en - st) ≤ 10000 ∧ ∀ l, Arcs st en l → Φ (.ar 3) [.bg b, .d (.int st), .d (.int en), .ol f (ds ++ l.map ppD)]
/-- the plan of the lines within the arc 1 .. n -/
def planOf (n : Int) (l : List (Int × Int)) : List (Int × Int) := sortPP ((l.filter wide).map (nrm n))
/-! _law_drawn_plan -/
def o__law_drawn_plan : CT := fun args Φ Ψ => ∃ (b : Addr) (n : Int), args = [.bg b, .d (.int n)] ∧ 3 ≤ n ∧ n ≤ 40 ∧ ∀ l, Arcs 1 n l → Φ (.rd (plD n (planOf n l))) args
/-! _law_plan -/
def o__law_plan : CT := fun args Φ Ψ => ∃ (b : Addr) (m : Int), args = [.bg b, .d (.int m)] ∧ 3 ≤ m ∧ m ≤ 40 ∧ ∀ n cs, IsPlan n cs → n ≤ m → Φ (.rd (plD n cs)) args
/-! follows -/
def o_follows : CT := fun args Φ Ψ => ∃ n i : Int, args = [.d (.int n), .d (.int i)] ∧ 0 < n ∧ Φ (.rd (.int ((i + 1) % n))) args
/-! all_lines: the sides and the cuts -/
def sides (n : Int) : List (Int × Int) := ((List.range (n.toNat - 1)).map fun (i : Nat) => ((i : Int), (i : Int) + 1)) ++ [(0, n - 1)]
def linesOf (n : Int) (cs : List (Int × Int)) : List (Int × Int) := sortPP (sides n ++ cs)
def sideAt (n i : Int) : Int × Int := (if (i + 1) % n < i then (i + 1) % n else i, if (i + 1) % n > i then (i + 1) % n else i)
theorem sides_eq {n : Int} (h : 2 ≤ n) : ((List.range n.toNat).map fun (i : Nat) => sideAt n i) = sides n := by
  unfold sides
  rw [show n.toNat = (n.toNat - 1) + 1 by omega, List.range_succ, List.map_append, Nat.add_sub_cancel]
  congr 1
  · refine List.map_congr_left fun i hi => ?_
    have hi := List.mem_range.mp hi
    unfold sideAt
    rw [Int.emod_eq_of_lt (by omega) (by omega), if_neg (by omega), if_pos (by omega)]
  · show [sideAt n ((n.toNat - 1 : Nat) : Int)] = _
    have e : (((n.toNat - 1 : Nat) : Int) + 1) % n = 0 := by
      rw [show ((n.toNat - 1 : Nat) : Int) + 1 = n by omega]; exact Int.emod_self
    unfold sideAt
    rw [e, if_pos (by omega), if_neg (by omega)]
    congr 2
    omega
theorem sides_len {n : Int} (h : 2 ≤ n) : ((sides n).length : Int) = n := by
  unfold sides
  simp only [List.length_append, List.length_map, List.length_range, List.length_cons, List.length_nil]
  omega
def o_all_lines : CT := fun args Φ Ψ => ∃ (n : Int) (cs : List (Int × Int)), args = [.d (plD n cs)] ∧ 2 ≤ n ∧ n ≤ 1000 ∧ cs.length ≤ 1000 ∧ Φ (.nl ((linesOf n cs).map ppD)) args
/-! _law_all_lines -/
def o__law_all_lines : CT := fun args Φ Ψ => ∃ (n : Int) (cs : List (Int × Int)), args = [.d (plD n cs)] ∧ 2 ≤ n ∧ n ≤ 1000 ∧ cs.length ≤ 1000 ∧ Φ (.nl ((linesOf n cs).map ppD)) args
/-! lines of a good plan -/
theorem pp_unique : ∀ {l m : List (Int × Int)}, l.Perm m → l.Pairwise (fun p q => ltPP p q = true) → m.Pairwise (fun p q => ltPP p q = true) → l = m
  | [], m, h, _, _ => (List.nil_perm.mp h).symm
  | a :: l, [], h, _, _ => absurd h.length_eq (by simp)
  | a :: l, b :: m, h, h1, h2 => by
    have no : ∀ {p q : Int × Int}, ltPP p q = true → ltPP q p = true → False := fun {p q} x y => by
      have x := of_decide_eq_true x
      have y := of_decide_eq_true y
      omega
    have e : a = b := by
      have ha : a ∈ b :: m := h.mem_iff.mp (List.mem_cons_self ..)
      have hb : b ∈ a :: l := h.mem_iff.mpr (List.mem_cons_self ..)
      rcases List.mem_cons.mp ha with e | ha
      · exact e
      · rcases List.mem_cons.mp hb with e | hb
        · exact e.symm
        · exact (no ((List.pairwise_cons.mp h1).1 b hb) ((List.pairwise_cons.mp h2).1 a ha)).elim
    subst e
    rw [pp_unique (List.perm_cons a |>.mp h) (List.pairwise_cons.mp h1).2 (List.pairwise_cons.mp h2).2]
theorem sortPP_eq {l m : List (Int × Int)} (h : l.Perm m) (nd : l.Nodup) : sortPP l = sortPP m :=
  pp_unique ((sortPP_perm l).trans (h.trans (sortPP_perm m).symm)) (sortPP_lt nd) (sortPP_lt (h.nodup_iff.mp nd))
structure LinesOk (n : Int) (L : List (Int × Int)) : Prop where
  nd : L.Nodup
  lt : ∀ p ∈ L, 0 ≤ p.1 ∧ p.1 < p.2 ∧ p.2 < n
theorem sides_mem {n : Int} (h : 2 ≤ n) {p : Int × Int} (hp : p ∈ sides n) : (0 ≤ p.1 ∧ p.2 = p.1 + 1 ∧ p.2 < n) ∨ (p.1 = 0 ∧ p.2 = n - 1) := by
  unfold sides at hp
  rcases List.mem_append.mp hp with hp | hp
  · obtain ⟨i, hi, rfl⟩ := List.mem_map.mp hp
    have hi := List.mem_range.mp hi
    exact .inl ⟨Int.natCast_nonneg i, rfl, show (i : Int) + 1 < n by omega⟩
  · have e : p = (0, n - 1) := by simpa using hp
    subst e
    right
    exact ⟨rfl, rfl⟩
theorem sides_nodup {n : Int} (h : 3 ≤ n) : (sides n).Nodup := by
  unfold sides
  refine List.nodup_append.mpr ⟨?_, by simp, fun a ha b hb z => ?_⟩
  · exact List.pairwise_map.mpr (List.nodup_range.imp fun hne z => hne (by have := congrArg Prod.fst z; simp only at this; omega))
  · obtain ⟨i, hi, rfl⟩ := List.mem_map.mp ha
    have hi := List.mem_range.mp hi
    have e : b = (0, n - 1) := by simpa using hb
    rw [e] at z
    have z1 := congrArg Prod.fst z
    have z2 := congrArg Prod.snd z
    simp only at z1 z2
    omega
theorem lines_nodup {n : Int} {cs : List (Int × Int)} (h : IsPlan n cs) : (sides n ++ cs).Nodup := by
  refine List.nodup_append.mpr ⟨sides_nodup h.lo, ?_, fun a ha b hb z => ?_⟩
  · exact h.srt.imp fun {p q} hl z => by
      subst z
      have := of_decide_eq_true hl
      omega
  · subst z
    have c := h.cut a hb
    have := h.lo
    rcases sides_mem (by omega) ha with s | s <;> omega
theorem lines_ok {n : Int} {cs : List (Int × Int)} (h : IsPlan n cs) : LinesOk n (linesOf n cs) where
  nd := (sortPP_perm _).nodup_iff.mpr (lines_nodup h)
  lt := fun p hp => by
    have hp := (sortPP_perm _).mem_iff.mp hp
    have := h.lo
    rcases List.mem_append.mp hp with s | s
    · rcases sides_mem (by omega) s with s | s <;> omega
    · have := h.cut p s
      omega
theorem lines_len {n : Int} {cs : List (Int × Int)} (h : IsPlan n cs) : ((linesOf n cs).length : Int) = 2 * n - 3 := by
  unfold linesOf
  rw [(sortPP_perm _).length_eq, List.length_append]
  have := sides_len (n := n) (by have := h.lo; omega)
  have := h.len
  omega
def swp (p : Int × Int) : Int × Int := (p.2, p.1)
def both (L : List (Int × Int)) : List (Int × Int) := L.flatMap fun p => [p, swp p]
theorem both_perm : ∀ L : List (Int × Int), (L ++ L.map swp).Perm (both L)
  | [] => .refl _
  | p :: L => by
    show (p :: (L ++ swp p :: L.map swp)).Perm (p :: swp p :: both L)
    exact .cons p ((List.perm_middle).trans (.cons _ (both_perm L)))
theorem both_nodup {n : Int} {L : List (Int × Int)} (h : LinesOk n L) : (L ++ L.map swp).Nodup := by
  have h2 : (L.map swp).Nodup := List.pairwise_map.mpr (h.nd.imp fun {p q} hne z => hne (Prod.ext (show p.1 = q.1 from congrArg Prod.snd z) (show p.2 = q.2 from congrArg Prod.fst z)))
  refine List.nodup_append.mpr ⟨h.nd, h2, fun a ha b hb z => ?_⟩
  obtain ⟨p, hp, rfl⟩ := List.mem_map.mp hb
  subst z
  have x := h.lt p hp
  have y := h.lt _ ha
  unfold swp at y
  simp only at y
  omega
def spots (n : Int) (cs : List (Int × Int)) : List (Int × Int) := sortPP (both (linesOf n cs))
def keyP (p : Int × Int) : List Key := [.inl p.1, .inl p.2]
def tied (L : List (Int × Int)) : List (List Key × PyData) := (both L).map fun p => (keyP p, .bool true)
theorem keyP_inj {p q : Int × Int} (h : keyP p = keyP q) : p = q := by
  unfold keyP at h
  injection h with h1 h2
  injection h2 with h2 _
  injection h1 with h1
  injection h2 with h2
  exact Prod.ext h1 h2
theorem both_app (L M : List (Int × Int)) : both (L ++ M) = both L ++ both M := List.flatMap_append ..
theorem tied_keys (L : List (Int × Int)) : (tied L).map (fun kv => PyData.tuple (kv.1.map kD)) = (both L).map ppD := by
  unfold tied
  rw [List.map_map]
  rfl
theorem shp_pp (L : List (Int × Int)) : SeqAt.shaped (.list (L.map ppD)) = true := by
  have h1 : ∀ M : List (Int × Int), PyData.canLayAll0 (M.map ppD) = true ∧ PyData.depthAll (M.map ppD) ≤ 1 := fun M => by
    induction M with
    | nil => exact ⟨rfl, Nat.zero_le _⟩
    | cons a M ih =>
      refine ⟨?_, ?_⟩
      · show (PyData.canLay0 (ppD a) && PyData.canLayAll0 (M.map ppD)) = true
        rw [ih.1]; rfl
      · show max (PyData.depth (ppD a)) (PyData.depthAll (M.map ppD)) ≤ 1
        exact Nat.max_le.mpr ⟨Nat.le_of_ble_eq_true rfl, ih.2⟩
  unfold SeqAt.shaped
  have e1 : PyData.canLay0 (.list (L.map ppD)) = true := (h1 L).1
  have e2 : PyData.depth (.list (L.map ppD)) ≤ 64 := by
    show PyData.depthAll (L.map ppD) + 1 ≤ 64
    have := (h1 L).2
    omega
  rw [e1, decide_eq_true e2]
  rfl
theorem any_pp (L : List (Int × Int)) (p : Int × Int) : ((L.map ppD).any fun z => PyData.eqv z (ppD p)) = decide (p ∈ L) := by
  have e : ∀ q : Int × Int, PyData.eqv (ppD q) (ppD p) = decide (q = p) := fun q => by
    have h := eqv_ii q.1 q.2 p.1 p.2
    refine h.trans (decide_eq_decide.mpr ⟨fun z => Prod.ext z.1 z.2, fun z => by subst z; exact ⟨rfl, rfl⟩⟩)
  induction L with
  | nil => rfl
  | cons a L ih =>
    show (PyData.eqv (ppD a) (ppD p) || (L.map ppD).any fun z => PyData.eqv z (ppD p)) = _
    rw [e, ih]
    by_cases h1 : a = p
    · simp [h1]
    · by_cases h2 : p ∈ L
      · simp [h2]
      · have h3 : ¬ p = a := fun z => h1 z.symm
        simp [h1, h2, h3]
theorem both_iff {n : Int} {L : List (Int × Int)} (h : LinesOk n L) (p : Int × Int) : p ∈ both L ↔ ((0 ≤ p.1 ∧ p.1 < n) ∧ (0 ≤ p.2 ∧ p.2 < n) ∧ ((if p.2 < p.1 then p.2 else p.1, if p.2 > p.1 then p.2 else p.1) : Int × Int) ∈ L) := by
  constructor
  · intro hm
    obtain ⟨t, ht, hp⟩ := List.mem_flatMap.mp hm
    have tl := h.lt t ht
    have hp : p = t ∨ p = swp t := by simpa using hp
    rcases hp with rfl | rfl
    · rw [if_neg (by omega), if_pos (by omega)]
      exact ⟨by omega, by omega, ht⟩
    · show (0 ≤ t.2 ∧ t.2 < n) ∧ (0 ≤ t.1 ∧ t.1 < n) ∧ ((if t.1 < t.2 then t.1 else t.2, if t.1 > t.2 then t.1 else t.2) : Int × Int) ∈ L
      rw [if_pos (by omega), if_neg (by omega)]
      exact ⟨by omega, by omega, ht⟩
  · rintro ⟨_, _, hm⟩
    have tl := h.lt _ hm
    simp only at tl
    by_cases c : p.1 < p.2
    · rw [if_neg (by omega), if_pos (by omega)] at hm
      exact List.mem_flatMap.mpr ⟨p, hm, List.mem_cons_self ..⟩
    · by_cases c2 : p.2 < p.1
      · rw [if_pos c2, if_neg (by omega)] at hm
        exact List.mem_flatMap.mpr ⟨(p.2, p.1), hm, by simp [swp]⟩
      · rw [if_neg c2, if_neg (by omega)] at tl
        omega
/-! _law_tied -/
def o__law_tied : CT := fun args Φ Ψ => ∃ (n : Int) (cs : List (Int × Int)), args = [.d (plD n cs)] ∧ IsPlan n cs ∧ Φ (.nt (tied (linesOf n cs))) args
/-! _law_spots -/
def o__law_spots : CT := fun args Φ Ψ => ∃ (n : Int) (cs : List (Int × Int)), args = [.d (plD n cs)] ∧ IsPlan n cs ∧ Φ (.nl ((spots n cs).map ppD)) args
/-! places -/
def o_places : CT := fun args Φ Ψ => ∃ (n : Int) (cs : List (Int × Int)), args = [.d (plD n cs)] ∧ IsPlan n cs ∧ Φ (.nl ((spots n cs).map ppD)) args
/-! _law_whole -/
def o__law_whole : CT := fun args Φ Ψ => ∃ d, args = [.d d] ∧ Φ (.rd (.bool (isTyB "int" d && !isTyB "bool" d))) args
/-! _law_alike -/
theorem ti_bool_bool (v : Bool) : isTyB "bool" (.bool v) = true := by show (L2.kitB "bool" "bool").getD false = true; decide +kernel
theorem ti_bool_int (v : Bool) : isTyB "int" (.bool v) = true := by show (L2.kitB "bool" "int").getD false = true; decide +kernel
theorem ti_bool_str (v : Bool) : isTyB "str" (.bool v) = false := by show (L2.kitB "bool" "str").getD false = false; decide +kernel
theorem ti_bool_list (v : Bool) : isTyB "list" (.bool v) = false := by show (L2.kitB "bool" "list").getD false = false; decide +kernel
theorem ti_bool_tuple (v : Bool) : isTyB "tuple" (.bool v) = false := by show (L2.kitB "bool" "tuple").getD false = false; decide +kernel
theorem ti_int_bool (v : Int) : isTyB "bool" (.int v) = false := by show (L2.kitB "int" "bool").getD false = false; decide +kernel
theorem ti_int_int (v : Int) : isTyB "int" (.int v) = true := by show (L2.kitB "int" "int").getD false = true; decide +kernel
theorem ti_int_str (v : Int) : isTyB "str" (.int v) = false := by show (L2.kitB "int" "str").getD false = false; decide +kernel
theorem ti_int_list (v : Int) : isTyB "list" (.int v) = false := by show (L2.kitB "int" "list").getD false = false; decide +kernel
theorem ti_int_tuple (v : Int) : isTyB "tuple" (.int v) = false := by show (L2.kitB "int" "tuple").getD false = false; decide +kernel
theorem ti_str_bool (v : Str) : isTyB "bool" (.str v) = false := by show (L2.kitB "str" "bool").getD false = false; decide +kernel
theorem ti_str_int (v : Str) : isTyB "int" (.str v) = false := by show (L2.kitB "str" "int").getD false = false; decide +kernel
theorem ti_str_str (v : Str) : isTyB "str" (.str v) = true := by show (L2.kitB "str" "str").getD false = true; decide +kernel
theorem ti_str_list (v : Str) : isTyB "list" (.str v) = false := by show (L2.kitB "str" "list").getD false = false; decide +kernel
theorem ti_str_tuple (v : Str) : isTyB "tuple" (.str v) = false := by show (L2.kitB "str" "tuple").getD false = false; decide +kernel
theorem ti_list_bool (v : List PyData) : isTyB "bool" (.list v) = false := by show (L2.kitB "list" "bool").getD false = false; decide +kernel
theorem ti_list_int (v : List PyData) : isTyB "int" (.list v) = false := by show (L2.kitB "list" "int").getD false = false; decide +kernel
theorem ti_list_str (v : List PyData) : isTyB "str" (.list v) = false := by show (L2.kitB "list" "str").getD false = false; decide +kernel
theorem ti_list_list (v : List PyData) : isTyB "list" (.list v) = true := by show (L2.kitB "list" "list").getD false = true; decide +kernel
theorem ti_list_tuple (v : List PyData) : isTyB "tuple" (.list v) = false := by show (L2.kitB "list" "tuple").getD false = false; decide +kernel
theorem ti_tuple_bool (v : List PyData) : isTyB "bool" (.tuple v) = false := by show (L2.kitB "tuple" "bool").getD false = false; decide +kernel
theorem ti_tuple_int (v : List PyData) : isTyB "int" (.tuple v) = false := by show (L2.kitB "tuple" "int").getD false = false; decide +kernel
theorem ti_tuple_str (v : List PyData) : isTyB "str" (.tuple v) = false := by show (L2.kitB "tuple" "str").getD false = false; decide +kernel
theorem ti_tuple_list (v : List PyData) : isTyB "list" (.tuple v) = false := by show (L2.kitB "tuple" "list").getD false = false; decide +kernel
theorem ti_tuple_tuple (v : List PyData) : isTyB "tuple" (.tuple v) = true := by show (L2.kitB "tuple" "tuple").getD false = true; decide +kernel
def okD : Nat → PyData → Bool
  | _, .none => true
  | _, .bool _ => true
  | _, .int _ => true
  | _, .str _ => true
  | N + 1, .list xs => decide (xs.length ≤ 10000000) && xs.all (okD N)
  | N + 1, .tuple xs => decide (xs.length ≤ 10000000) && xs.all (okD N)
  | _, _ => false
def o__law_alike (N : Nat) : CT := fun args Φ Ψ => ∃ x, args = [.d x, .d x] ∧ okD N x = true ∧ Φ (.rd (.bool true)) args
/-! need_place -/
def o_need_place : CT := fun args Φ Ψ => ∃ (n : Int) (cs : List (Int × Int)) (p : Int × Int), args = [.d (plD n cs), .d (ppD p)] ∧ IsPlan n cs ∧ (p ∈ both (linesOf n cs) → Φ (.rd .none) args) ∧ (p ∉ both (linesOf n cs) → Ψ (.own "BadPlace") args)
/-! over -/
def o_over : CT := fun args Φ Ψ => ∃ (n : Int) (cs : List (Int × Int)) (p : Int × Int), args = [.d (plD n cs), .d (ppD p)] ∧ IsPlan n cs ∧ (p ∈ both (linesOf n cs) → Φ (.rd (ppD (swp p))) args) ∧ (p ∉ both (linesOf n cs) → Ψ (.own "BadPlace") args)
end Tx

namespace Tx
open PySem PySem.Spec PyProof.Rows L2 TL
/-! the law's own draws, as plain transformers -/
def f__law_pull : PyData → KD → KX → Prop
  | .int m, K, _ => (0 < m ∧ m.natAbs < 2 ^ 8000) ∧ ∀ r : Int, 0 ≤ r → r < m → K (.int r)
  | _, _, _ => False
def c__law_pull : CT := fun args Φ Ψ => ∃ (b : Addr) (m : PyData) (K : KD) (E : KX), args = [.bg b, .d m] ∧ f__law_pull m K E ∧ (∀ r, K r → Φ (.rd r) args) ∧ ∀ c, E c → Ψ c args
def f__law_drawn_plan : PyData → KD → KX → Prop
  | .int n, K, _ => (3 ≤ n ∧ n ≤ 40) ∧ ∀ l, Arcs 1 n l → K (plD n (planOf n l))
  | _, _, _ => False
def c__law_drawn_plan : CT := fun args Φ Ψ => ∃ (b : Addr) (m : PyData) (K : KD) (E : KX), args = [.bg b, .d m] ∧ f__law_drawn_plan m K E ∧ (∀ r, K r → Φ (.rd r) args) ∧ ∀ c, E c → Ψ c args
def f__law_alike (x y : PyData) (K : KD) (_ : KX) : Prop := x = y ∧ okD 8 x = true ∧ K (.bool true)
def c__law_alike : CT := fun args Φ Ψ => ∃ (x y : PyData) (K : KD) (E : KX), args = [.d x, .d y] ∧ f__law_alike x y K E ∧ (∀ r, K r → Φ (.rd r) args) ∧ ∀ c, E c → Ψ c args
section
variable {n : Int} {cs : List (Int × Int)} {p q : Int × Int} {K : KD} {K2 : PyData → PyData → Prop} {Kb : KB} {m : Int} {E : KX} {x y : PyData}
theorem p_un_pl : un2 (plD n cs) K2 = K2 (.int n) (.tuple (cs.map ppD)) := rfl
theorem p_ix_pl0 : ixM (plD n cs) (.int 0) K = K (.int n) := rfl
theorem p_ix_pl1 : ixM (plD n cs) (.int 1) K = K (.tuple (cs.map ppD)) := rfl
theorem p_un_pp : un2 (ppD p) K2 = K2 (.int p.1) (.int p.2) := rfl
theorem p_ix_pp0 : ixM (ppD p) (.int 0) K = K (.int p.1) := rfl
theorem p_ix_pp1 : ixM (ppD p) (.int 1) K = K (.int p.2) := rfl
theorem p_mk {i j : Int} : PyData.tuple [.int i, .int j] = ppD (i, j) := rfl
theorem p_fold : ppD (p.1, p.2) = ppD p := rfl
theorem p_it_pp {Kl : KL} : itM (ppD p) Kl = Kl [.int p.1, .int p.2] := rfl
theorem shp_p (p : Int × Int) : SeqAt.shaped (ppD p) = true := rfl
theorem p_eq : eqM (ppD p) (ppD q) Kb = Kb (decide (p = q)) := by
  show (SeqAt.shaped (ppD p) = true ∧ SeqAt.shaped (ppD q) = true ∧ Kb (PyData.eqv (ppD p) (ppD q))) = _
  rw [show PyData.eqv (ppD p) (ppD q) = decide (p = q) by unfold ppD; rw [eqv_ii]; congr 1; exact propext ⟨fun h => Prod.ext h.1 h.2, fun h => by rw [h]; exact ⟨rfl, rfl⟩⟩]
  simp [shp_p]
theorem p_ne : neM (ppD p) (ppD q) Kb = Kb (!decide (p = q)) := by
  show (SeqAt.shaped (ppD p) = true ∧ SeqAt.shaped (ppD q) = true ∧ Kb (!PyData.eqv (ppD p) (ppD q))) = _
  rw [show PyData.eqv (ppD p) (ppD q) = decide (p = q) by unfold ppD; rw [eqv_ii]; congr 1; exact propext ⟨fun h => Prod.ext h.1 h.2, fun h => by rw [h]; exact ⟨rfl, rfl⟩⟩]
  simp [shp_p]
theorem p_in {L : List (Int × Int)} : inM (ppD p) (.list (L.map ppD)) Kb = Kb (decide (p ∈ L)) := by
  show inLstM (ppD p) (L.map ppD) Kb = _
  unfold inLstM
  rw [show fl (ppD p) = none from rfl]
  rw [any_pp]
  simp [shp_p, shp_pp]
theorem p_notIn {L : List (Int × Int)} : notInM (ppD p) (.list (L.map ppD)) Kb = Kb (!decide (p ∈ L)) := by unfold notInM; rw [p_in]
theorem p_lt : ltM (ppD p) (ppD q) Kb = Kb (ltPP p q) := by
  show Kb (HT.lexLt [p.1, p.2] [q.1, q.2]) = _
  rw [ltPP_lex]
theorem e__law_pull (h : 0 < m) (h2 : m < 1000000) : f__law_pull (.int m) K E = ∀ r : Int, 0 ≤ r → r < m → K (.int r) := by
  show ((0 < m ∧ m.natAbs < 2 ^ 8000) ∧ _) = _
  have e : m.natAbs < 2 ^ 8000 := nb (Nat.lt_of_lt_of_le (show m.natAbs < 2 ^ 20 by omega) (Nat.pow_le_pow_right (by decide) (by decide)))
  simp [h, e]
theorem e__law_drawn_plan (h : 3 ≤ m) (h2 : m ≤ 40) : f__law_drawn_plan (.int m) K E = ∀ l, Arcs 1 m l → K (plD m (planOf m l)) := by
  show ((3 ≤ m ∧ m ≤ 40) ∧ _) = _
  simp [h, h2]
theorem e__law_alike (h : okD 8 x = true) : f__law_alike x x K E = K (.bool true) := by unfold f__law_alike; simp [h]
end
end Tx

namespace Tx
open PySem PySem.Spec PyProof.Rows L2 TL
@[irreducible] def f_pair_of (one : PyData) (other : PyData) (K : KD) (E : KX) : Prop :=
  min2M one other fun r1 =>
  max2M one other fun r2 =>
  K (.tuple [r1, r2])
def c_pair_of : CT := fun args Φ Ψ => ∃ (one : PyData) (other : PyData) (K : KD) (E : KX), args = [.d one, .d other] ∧ f_pair_of one other K E ∧ (∀ r, K r → Φ (.rd r) args) ∧ ∀ c, E c → Ψ c args
@[irreducible] def f_crossing (one : PyData) (other : PyData) (K : KD) (E : KX) : Prop :=
  un2 one fun low1 high2 =>
  itM other fun xs4 =>
  lcM (fun corner5 kp sk => andM (fun Q => neM corner5 low1 fun b8 =>
  Q b8) (fun Q => neM corner5 high2 fun b9 =>
  Q b9) fun b7 =>
  (b7 = true → (andM (fun Q => ltM low1 corner5 Q) (fun Q => ltM corner5 high2 Q) fun b10 =>
  kp (.bool b10))) ∧ (b7 = false → sk)) (fun l6 =>
  andM (fun Q => lenM (.list l6) fun r13 =>
  eqM r13 (.int 2) fun b14 =>
  Q b14) (fun Q => ixM (.list l6) (.int 0) fun r15 =>
  ixM (.list l6) (.int 1) fun r16 =>
  neM r15 r16 fun b17 =>
  Q b17) fun b12 =>
  K (.bool b12)) xs4 []
def c_crossing : CT := fun args Φ Ψ => ∃ (one : PyData) (other : PyData) (K : KD) (E : KX), args = [.d one, .d other] ∧ f_crossing one other K E ∧ (∀ r, K r → Φ (.rd r) args) ∧ ∀ c, E c → Ψ c args
@[irreducible] def f_is_cut (faces : PyData) (cut : PyData) (K : KD) (E : KX) : Prop :=
  un2 cut fun low1 high2 =>
  andM (fun Q => leM (.int 0) low1 fun b5 =>
  Q b5) (fun Q => andM (fun Q => addM low1 (.int 1) fun r7 =>
  andM (fun Q => ltM r7 high2 Q) (fun Q => ltM high2 faces Q) fun b8 =>
  Q b8) (fun Q => subM faces (.int 1) fun r10 =>
  neM (.tuple [low1, high2]) (.tuple [(.int 0), r10]) fun b11 =>
  Q b11) fun b6 =>
  Q b6) fun b4 =>
  K (.bool b4)
def c_is_cut : CT := fun args Φ Ψ => ∃ (faces : PyData) (cut : PyData) (K : KD) (E : KX), args = [.d faces, .d cut] ∧ f_is_cut faces cut K E ∧ (∀ r, K r → Φ (.rd r) args) ∧ ∀ c, E c → Ψ c args
@[irreducible] def f_is_plan (plan : PyData) (K : KD) (E : KX) : Prop :=
  un2 plan fun faces1 cuts2 =>
  orM (fun Q => andM (fun Q => leM (.int 3) faces1 Q) (fun Q => leM faces1 (.int 40) Q) fun b5 =>
  Q (!b5)) (fun Q => lenM cuts2 fun r7 =>
  subM faces1 (.int 3) fun r8 =>
  neM r7 r8 fun b9 =>
  Q b9) fun b4 =>
  (b4 = true → (K (.bool false))) ∧ (b4 = false → (itM cuts2 fun xs13 =>
  lcM (fun cut14 kp sk => f_is_cut faces1 cut14 (fun r16 =>
  kp r16) (fun _ => False)) (fun l15 =>
  allM (.list l15) fun r17 =>
  boolM r17 fun b18 =>
  ((!b18) = true → (K (.bool false))) ∧ ((!b18) = false → (lenM cuts2 fun r23 =>
  rngM (.int 1) r23 fun xs22 =>
  forM (fun at_47 (_ : Unit) N48 B49 => subM at_47 (.int 1) fun r51 =>
  ixM cuts2 r51 fun r52 =>
  ixM cuts2 at_47 fun r53 =>
  ltM r52 r53 fun b54 =>
  ((!b54) = true → (K (.bool false))) ∧ ((!b54) = false → (N48 ()))) (fun (_ : Unit) =>
  enuM cuts2 fun xs25 =>
  forM (fun p28 (_ : Unit) N29 B30 => un2 p28 fun at_33 cut34 =>
  intO at_33 fun i37 =>
  slM cuts2 none (some i37) fun r38 =>
  itM r38 fun xs36 =>
  lcM (fun other39 kp sk => f_crossing cut34 other39 (fun r41 =>
  kp r41) (fun _ => False)) (fun l40 =>
  anyM (.list l40) fun r42 =>
  boolM r42 fun b43 =>
  (b43 = true → (K (.bool false))) ∧ (b43 = false → (N29 ()))) xs36 []) (fun (_ : Unit) =>
  K (.bool true)) xs25 ()) xs22 ()))) xs13 []))
def c_is_plan : CT := fun args Φ Ψ => ∃ (plan : PyData) (K : KD) (E : KX), args = [.d plan] ∧ f_is_plan plan K E ∧ (∀ r, K r → Φ (.rd r) args) ∧ ∀ c, E c → Ψ c args
@[irreducible] def f_need_plan (plan : PyData) (K : KD) (E : KX) : Prop :=
  f_is_plan plan (fun r1 =>
  boolM r1 fun b2 =>
  ((!b2) = true → (E (.own "BadPlan"))) ∧ ((!b2) = false → (K .none))) E
def c_need_plan : CT := fun args Φ Ψ => ∃ (plan : PyData) (K : KD) (E : KX), args = [.d plan] ∧ f_need_plan plan K E ∧ (∀ r, K r → Φ (.rd r) args) ∧ ∀ c, E c → Ψ c args
@[irreducible] def f_follows (faces : PyData) (face : PyData) (K : KD) (E : KX) : Prop :=
  addM face (.int 1) fun r1 =>
  modM r1 faces fun r2 =>
  K r2
def c_follows : CT := fun args Φ Ψ => ∃ (faces : PyData) (face : PyData) (K : KD) (E : KX), args = [.d faces, .d face] ∧ f_follows faces face K E ∧ (∀ r, K r → Φ (.rd r) args) ∧ ∀ c, E c → Ψ c args
@[irreducible] def f_all_lines (plan : PyData) (K : KL) (E : KX) : Prop :=
  un2 plan fun faces1 cuts2 =>
  rngM (.int 0) faces1 fun xs4 =>
  lcM (fun face5 kp sk => f_follows faces1 face5 (fun r7 =>
  f_pair_of face5 r7 (fun r8 =>
  kp r8) (fun _ => False)) (fun _ => False)) (fun l6 =>
  listM cuts2 fun l9 =>
  addM (.list l6) (.list l9) fun r10 =>
  sortM r10 fun l11 =>
  K l11) xs4 []
def c_all_lines : CT := fun args Φ Ψ => ∃ (plan : PyData) (K : KL) (E : KX), args = [.d plan] ∧ f_all_lines plan K E ∧ (∀ r, K r → Φ (.nl r) args) ∧ ∀ c, E c → Ψ c args
@[irreducible] def f_places (plan : PyData) (K : KL) (E : KX) : Prop :=
  f_need_plan plan (fun r1 =>
  f_all_lines plan (fun r2 =>
  itM (.list r2) fun xs3 =>
  lcM (fun p4 kp sk => un2 p4 fun low6 high7 =>
  kp (.tuple [high7, low6])) (fun l5 =>
  addM (.list r2) (.list l5) fun r9 =>
  sortM r9 fun l10 =>
  K l10) xs3 []) E) E
def c_places : CT := fun args Φ Ψ => ∃ (plan : PyData) (K : KL) (E : KX), args = [.d plan] ∧ f_places plan K E ∧ (∀ r, K r → Φ (.nl r) args) ∧ ∀ c, E c → Ψ c args
@[irreducible] def f_need_place (plan : PyData) (place : PyData) (K : KD) (E : KX) : Prop :=
  f_need_plan plan (fun r1 =>
  un2 place fun top2 under3 =>
  orM (fun Q => andM (fun Q => leM (.int 0) top2 Q) (fun Q => ixM plan (.int 0) fun r8 =>
  ltM top2 r8 Q) fun b6 =>
  Q (!b6)) (fun Q => orM (fun Q => andM (fun Q => leM (.int 0) under3 Q) (fun Q => ixM plan (.int 0) fun r12 =>
  ltM under3 r12 Q) fun b10 =>
  Q (!b10)) (fun Q => f_pair_of top2 under3 (fun r13 =>
  f_all_lines plan (fun r14 =>
  notInM r13 (.list r14) fun b15 =>
  Q b15) E) E) fun b9 =>
  Q b9) fun b5 =>
  (b5 = true → (E (.own "BadPlace"))) ∧ (b5 = false → (K .none))) E
def c_need_place : CT := fun args Φ Ψ => ∃ (plan : PyData) (place : PyData) (K : KD) (E : KX), args = [.d plan, .d place] ∧ f_need_place plan place K E ∧ (∀ r, K r → Φ (.rd r) args) ∧ ∀ c, E c → Ψ c args
@[irreducible] def f_over (plan : PyData) (place : PyData) (K : KD) (E : KX) : Prop :=
  f_need_place plan place (fun r1 =>
  ixM place (.int 1) fun r2 =>
  ixM place (.int 0) fun r3 =>
  K (.tuple [r2, r3])) E
def c_over : CT := fun args Φ Ψ => ∃ (plan : PyData) (place : PyData) (K : KD) (E : KX), args = [.d plan, .d place] ∧ f_over plan place K E ∧ (∀ r, K r → Φ (.rd r) args) ∧ ∀ c, E c → Ψ c args
@[irreducible] def f__law_all_lines (l_plan_here : PyData) (K : KL) (E : KX) : Prop :=
  un2 l_plan_here fun l_faces1 l_cuts2 =>
  subM l_faces1 (.int 1) fun r5 =>
  rngM (.int 0) r5 fun xs4 =>
  lcM (fun l_low6 kp sk => addM l_low6 (.int 1) fun r8 =>
  kp (.tuple [l_low6, r8])) (fun l7 =>
  subM l_faces1 (.int 1) fun r9 =>
  addM (.list l7) (.list [(.tuple [(.int 0), r9])]) fun r10 =>
  listM l_cuts2 fun l11 =>
  addM r10 (.list l11) fun r12 =>
  sortM r12 fun l13 =>
  K l13) xs4 []
def c__law_all_lines : CT := fun args Φ Ψ => ∃ (l_plan_here : PyData) (K : KL) (E : KX), args = [.d l_plan_here] ∧ f__law_all_lines l_plan_here K E ∧ (∀ r, K r → Φ (.nl r) args) ∧ ∀ c, E c → Ψ c args
@[irreducible] def f__law_pair (l_one : PyData) (l_other : PyData) (K : KD) (E : KX) : Prop :=
  min2M l_one l_other fun r1 =>
  max2M l_one l_other fun r2 =>
  K (.tuple [r1, r2])
def c__law_pair : CT := fun args Φ Ψ => ∃ (l_one : PyData) (l_other : PyData) (K : KD) (E : KX), args = [.d l_one, .d l_other] ∧ f__law_pair l_one l_other K E ∧ (∀ r, K r → Φ (.rd r) args) ∧ ∀ c, E c → Ψ c args
@[irreducible] def f__law_plan (l_most : PyData) (K : KD) (E : KX) : Prop :=
  subM l_most (.int 2) fun r1 =>
  f__law_pull r1 (fun r2 =>
  addM (.int 3) r2 fun r3 =>
  f__law_drawn_plan r3 (fun r4 =>
  K r4) E) E
def c__law_plan : CT := fun args Φ Ψ => ∃ (a_l_bag_here : Addr) (l_most : PyData) (K : KD) (E : KX), args = [.bg a_l_bag_here, .d l_most] ∧ f__law_plan l_most K E ∧ (∀ r, K r → Φ (.rd r) args) ∧ ∀ c, E c → Ψ c args
@[irreducible] def f__law_tied (l_plan_here : PyData) (K : (List (List Key × PyData) → Prop)) (E : KX) : Prop :=
  f__law_all_lines l_plan_here (fun r3 =>
  itM (.list r3) fun xs2 =>
  forM (fun p8 l_held11 N9 B10 => un2 p8 fun l_low15 l_high16 =>
  putTM l_held11 (.tuple [l_low15, l_high16]) (.bool true) fun kv18 =>
  putTM kv18 (.tuple [l_high16, l_low15]) (.bool true) fun kv19 =>
  N9 kv19) (fun l_held4 =>
  K l_held4) xs2 []) E
def c__law_tied : CT := fun args Φ Ψ => ∃ (l_plan_here : PyData) (K : (List (List Key × PyData) → Prop)) (E : KX), args = [.d l_plan_here] ∧ f__law_tied l_plan_here K E ∧ (∀ r, K r → Φ (.nt r) args) ∧ ∀ c, E c → Ψ c args
@[irreducible] def f__law_spots (l_plan_here : PyData) (K : KL) (E : KX) : Prop :=
  f__law_tied l_plan_here (fun r1 =>
  sortM (.list (keysT r1)) fun l2 =>
  K l2) E
def c__law_spots : CT := fun args Φ Ψ => ∃ (l_plan_here : PyData) (K : KL) (E : KX), args = [.d l_plan_here] ∧ f__law_spots l_plan_here K E ∧ (∀ r, K r → Φ (.nl r) args) ∧ ∀ c, E c → Ψ c args
@[irreducible] def f__law_whole (l_found : PyData) (K : KD) (E : KX) : Prop :=
  andM (fun Q => Q (isTyB "int" l_found)) (fun Q => Q (!(isTyB "bool" l_found))) fun b1 =>
  K (.bool b1)
def c__law_whole : CT := fun args Φ Ψ => ∃ (l_found : PyData) (K : KD) (E : KX), args = [.d l_found] ∧ f__law_whole l_found K E ∧ (∀ r, K r → Φ (.rd r) args) ∧ ∀ c, E c → Ψ c args
@[irreducible] def f_law_k11 (script : PyData) (K : KD) (E : KX) : Prop :=
  f__law_pull (.int 3) (fun r1 =>
  ixM (.list [(.int 6), (.int 12), (.int 40)]) r1 fun r2 =>
  f__law_plan r2 (fun r3 =>
  f__law_spots r3 (fun r4 =>
  rngM (.int 0) (.int 2) fun xs5 =>
  forM (fun l_turn16 (_ : Unit) N17 B18 => f_places r3 (fun r21 =>
  orM (fun Q => f__law_alike (.list r21) (.list r4) (fun r24 =>
  boolM r24 fun b25 =>
  Q (!b25)) E) (fun Q => lenM (.list r21) fun r27 =>
  ixM r3 (.int 0) fun r28 =>
  mulM (.int 4) r28 fun r29 =>
  subM r29 (.int 6) fun r30 =>
  neM r27 r30 fun b31 =>
  Q b31) fun b23 =>
  (b23 = true → (K (.bool false))) ∧ (b23 = false → (r21.length < sizeLine ∧ (N17 ())))) E) (fun (_ : Unit) =>
  itM (.list r4) fun xs8 =>
  lcM (fun l_spot9 kp sk => f_over r3 l_spot9 (fun r11 =>
  ixM l_spot9 (.int 1) fun r12 =>
  ixM l_spot9 (.int 0) fun r13 =>
  f__law_alike r11 (.tuple [r12, r13]) (fun r14 =>
  kp r14) (fun _ => False)) (fun _ => False)) (fun l10 =>
  allM (.list l10) fun r15 =>
  K r15) xs8 []) xs5 ()) E) E) E
section
variable {K : KD} {Kl : KL} {E : KX} {n i j : Int} {cs : List (Int × Int)} {p q : Int × Int}
def nrmP (i j : Int) : Int × Int := (if j < i then j else i, if j > i then j else i)
theorem e_pair_of : f_pair_of (.int i) (.int j) K E = K (ppD (nrmP i j)) := by
  unfold f_pair_of; simp only [q_add_ii, q_add_ss, q_add_ll, q_add_tt, q_addL, q_sub, q_mul, q_div, q_mod, q_neg, q_bool, q_eq_ii, q_eq_ss, q_eq_bb, q_ne_ii, q_ne_ss, q_ne_bb, q_lt, q_le, q_gt, q_ge, q_un2, q_un3, q_un4, q_intO, q_len_l, q_len_t, q_len_s, q_abs, q_int_i, q_int_b, q_tup_l, q_tup_t, q_list_l, q_list_t, q_min, q_max, q_it_l, q_it_t, q_rng, q_enu_l, q_enu_t, q_rev, q_sl_l, q_sl_t, q_sl_s, q_slL, q_all, q_any, q_sum, q_sort_pp, q_and, q_or, q_ite, q_join, cond_true, cond_false, true_and, and_true, decide_eq_true_eq, decide_true, decide_false, p_un_pl, p_ix_pl0, p_ix_pl1, p_un_pp, p_ix_pp0, p_ix_pp1, p_mk, p_eq, p_ne, p_in, p_notIn, p_lt]; rfl
theorem e__law_pair : f__law_pair (.int i) (.int j) K E = K (ppD (nrmP i j)) := by
  unfold f__law_pair; simp only [q_add_ii, q_add_ss, q_add_ll, q_add_tt, q_addL, q_sub, q_mul, q_div, q_mod, q_neg, q_bool, q_eq_ii, q_eq_ss, q_eq_bb, q_ne_ii, q_ne_ss, q_ne_bb, q_lt, q_le, q_gt, q_ge, q_un2, q_un3, q_un4, q_intO, q_len_l, q_len_t, q_len_s, q_abs, q_int_i, q_int_b, q_tup_l, q_tup_t, q_list_l, q_list_t, q_min, q_max, q_it_l, q_it_t, q_rng, q_enu_l, q_enu_t, q_rev, q_sl_l, q_sl_t, q_sl_s, q_slL, q_all, q_any, q_sum, q_sort_pp, q_and, q_or, q_ite, q_join, cond_true, cond_false, true_and, and_true, decide_eq_true_eq, decide_true, decide_false, p_un_pl, p_ix_pl0, p_ix_pl1, p_un_pp, p_ix_pp0, p_ix_pp1, p_mk, p_eq, p_ne, p_in, p_notIn, p_lt]; rfl
theorem e_follows (h : 0 < n) : f_follows (.int n) (.int i) K E = K (.int ((i + 1) % n)) := by
  unfold f_follows; simp only [q_add_ii, q_add_ss, q_add_ll, q_add_tt, q_addL, q_sub, q_mul, q_div, q_mod, q_neg, q_bool, q_eq_ii, q_eq_ss, q_eq_bb, q_ne_ii, q_ne_ss, q_ne_bb, q_lt, q_le, q_gt, q_ge, q_un2, q_un3, q_un4, q_intO, q_len_l, q_len_t, q_len_s, q_abs, q_int_i, q_int_b, q_tup_l, q_tup_t, q_list_l, q_list_t, q_min, q_max, q_it_l, q_it_t, q_rng, q_enu_l, q_enu_t, q_rev, q_sl_l, q_sl_t, q_sl_s, q_slL, q_all, q_any, q_sum, q_sort_pp, q_and, q_or, q_ite, q_join, cond_true, cond_false, true_and, and_true, decide_eq_true_eq, decide_true, decide_false, p_un_pl, p_ix_pl0, p_ix_pl1, p_un_pp, p_ix_pp0, p_ix_pp1, p_mk, p_eq, p_ne, p_in, p_notIn, p_lt, h]
theorem e_all_lines (h2 : 2 ≤ n) (hn : n ≤ 1000) (hc : cs.length ≤ 1000) : f_all_lines (plD n cs) Kl E = Kl ((linesOf n cs).map ppD) := by
  unfold f_all_lines
  have hsd := sides_len h2
  have hsl := sizeLine_eq
  have g1 : -1000000 ≤ n ∧ n ≤ 1000000 := by omega
  simp only [q_add_ii, q_add_ss, q_add_ll, q_add_tt, q_addL, q_sub, q_mul, q_div, q_mod, q_neg, q_bool, q_eq_ii, q_eq_ss, q_eq_bb, q_ne_ii, q_ne_ss, q_ne_bb, q_lt, q_le, q_gt, q_ge, q_un2, q_un3, q_un4, q_intO, q_len_l, q_len_t, q_len_s, q_abs, q_int_i, q_int_b, q_tup_l, q_tup_t, q_list_l, q_list_t, q_min, q_max, q_it_l, q_it_t, q_rng, q_enu_l, q_enu_t, q_rev, q_sl_l, q_sl_t, q_sl_s, q_slL, q_all, q_any, q_sum, q_sort_pp, q_and, q_or, q_ite, q_join, cond_true, cond_false, true_and, and_true, decide_eq_true_eq, decide_true, decide_false, p_un_pl, p_ix_pl0, p_ix_pl1, p_un_pp, p_ix_pp0, p_ix_pp1, p_mk, p_eq, p_ne, p_in, p_notIn, p_lt, range0]
  rw [q_lc_map _ _ (fun i : Nat => ppD (sideAt n i)) fun a ha k s => by
    simp only [e_follows (n := n) (by omega : 0 < n), e_pair_of]; rfl]
  have em : ((List.range n.toNat).map fun (j : Nat) => ppD (sideAt n j)) = (sides n).map ppD := by rw [← sides_eq h2, List.map_map]; rfl
  rw [List.nil_append, em]
  have g2 : ((sides n).map ppD).length + (cs.map ppD).length ≤ sizeLine := by simp only [List.length_map]; omega
  simp only [g1, g2, true_and, ← List.map_append, q_sort_pp, srt_pp, linesOf]
  simp
theorem e_crossing : f_crossing (ppD p) (ppD q) K E = K (.bool (crossB p q)) := by
  unfold f_crossing
  simp only [q_add_ii, q_add_ss, q_add_ll, q_add_tt, q_addL, q_sub, q_mul, q_div, q_mod, q_neg, q_bool, q_eq_ii, q_eq_ss, q_eq_bb, q_ne_ii, q_ne_ss, q_ne_bb, q_lt, q_le, q_gt, q_ge, q_un2, q_un3, q_un4, q_intO, q_len_l, q_len_t, q_len_s, q_abs, q_int_i, q_int_b, q_tup_l, q_tup_t, q_list_l, q_list_t, q_min, q_max, q_it_l, q_it_t, q_rng, q_enu_l, q_enu_t, q_rev, q_sl_l, q_sl_t, q_sl_s, q_slL, q_all, q_any, q_sum, q_sort_pp, q_and, q_or, q_ite, q_join, cond_true, cond_false, true_and, and_true, decide_eq_true_eq, decide_true, decide_false, p_un_pl, p_ix_pl0, p_ix_pl1, p_un_pp, p_ix_pp0, p_ix_pp1, p_mk, p_eq, p_ne, p_in, p_notIn, p_lt, p_it_pp]
  rw [show [PyData.int q.1, .int q.2] = [q.1, q.2].map .int from rfl]
  rw [q_lc_fil _ _ (inF p) (fun c => .bool (inG p c)) fun c hc k s => by
    simp only [q_add_ii, q_add_ss, q_add_ll, q_add_tt, q_addL, q_sub, q_mul, q_div, q_mod, q_neg, q_bool, q_eq_ii, q_eq_ss, q_eq_bb, q_ne_ii, q_ne_ss, q_ne_bb, q_lt, q_le, q_gt, q_ge, q_un2, q_un3, q_un4, q_intO, q_len_l, q_len_t, q_len_s, q_abs, q_int_i, q_int_b, q_tup_l, q_tup_t, q_list_l, q_list_t, q_min, q_max, q_it_l, q_it_t, q_rng, q_enu_l, q_enu_t, q_rev, q_sl_l, q_sl_t, q_sl_s, q_slL, q_all, q_any, q_sum, q_sort_pp, q_and, q_or, q_ite, q_join, cond_true, cond_false, true_and, and_true, decide_eq_true_eq, decide_true, decide_false, p_un_pl, p_ix_pl0, p_ix_pl1, p_un_pp, p_ix_pp0, p_ix_pp1, p_mk, p_eq, p_ne, p_in, p_notIn, p_lt, inF, inG]]
  rw [List.nil_append, show (([q.1, q.2].filter (inF p)).map fun c => PyData.bool (inG p c)) = (([q.1, q.2].filter (inF p)).map (inG p)).map .bool by rw [List.map_map]; rfl]
  unfold crossB
  generalize (([q.1, q.2].filter (inF p)).map (inG p)) = bs
  match bs with
  | [] => exact q_and' (b1 := false) (fun Q => rfl) (b2 := false) (fun e => by cases e)
  | [a] => exact q_and' (b1 := false) (fun Q => rfl) (b2 := false) (fun e => by cases e)
  | [a, b] => exact q_and' (b1 := true) (fun Q => rfl) (fun e Q => rfl)
  | a :: b :: c :: r =>
    refine q_and' (b1 := false) (fun Q => ?_) (b2 := false) (fun e => by cases e)
    show Q (decide (((List.length (PyData.bool a :: PyData.bool b :: PyData.bool c :: r.map PyData.bool) : Nat) : Int) = 2)) = _
    rw [decide_eq_false (by simp only [List.length_cons]; omega)]
theorem dec_pair {a b c d : Int} : decide ((a, b) = (c, d)) = decide (a = c ∧ b = d) := by
  congr 1; exact propext (Prod.ext_iff (x := (a, b)) (y := (c, d)))
theorem e_is_cut : f_is_cut (.int n) (ppD p) K E = K (.bool (cutB n p)) := by
  unfold f_is_cut
  simp only [q_add_ii, q_add_ss, q_add_ll, q_add_tt, q_addL, q_sub, q_mul, q_div, q_mod, q_neg, q_bool, q_eq_ii, q_eq_ss, q_eq_bb, q_ne_ii, q_ne_ss, q_ne_bb, q_lt, q_le, q_gt, q_ge, q_un2, q_un3, q_un4, q_intO, q_len_l, q_len_t, q_len_s, q_abs, q_int_i, q_int_b, q_tup_l, q_tup_t, q_list_l, q_list_t, q_min, q_max, q_it_l, q_it_t, q_rng, q_enu_l, q_enu_t, q_rev, q_sl_l, q_sl_t, q_sl_s, q_slL, q_all, q_any, q_sum, q_sort_pp, q_and, q_or, q_ite, q_join, cond_true, cond_false, true_and, and_true, decide_eq_true_eq, decide_true, decide_false, p_un_pl, p_ix_pl0, p_ix_pl1, p_un_pp, p_ix_pp0, p_ix_pp1, p_mk, p_eq, p_ne, p_in, p_notIn, p_lt, dec_pair]
  simp only [cutB, Bool.and_assoc]
theorem at_cs {i : Int} (h0 : 0 ≤ i) (h : i < cs.length) : ixM (.tuple (cs.map ppD)) (.int i) K = K (ppD (cs.getD i.toNat (0, 0))) := by
  show (match atI (cs.map ppD) i with | some y => K y | none => False) = _
  have e : (cs.map ppD)[i.toNat]? = some (ppD (cs.getD i.toNat (0, 0))) := by
    rw [List.getElem?_map, List.getD_eq_getElem?_getD]
    rw [List.getElem?_eq_getElem (show i.toNat < cs.length by omega)]
    rfl
  rw [at_nat h0 e]
theorem cut_pp {j : Int} (h0 : 0 ≤ j) (h : j ≤ cs.length) : cut (cs.map ppD) none (some j) = (cs.take j.toNat).map ppD := by
  obtain ⟨k, rfl⟩ : ∃ k : Nat, j = k := ⟨j.toNat, by omega⟩
  unfold cut
  rw [HT.sIx_none, HT.sIx_nat, List.drop_zero, Nat.sub_zero, List.length_map, Nat.min_eq_left (by omega), List.map_take, Int.toNat_natCast]
theorem e_is_plan (hc : cs.length ≤ 1000) : f_is_plan (plD n cs) K E = K (.bool (planB n cs)) := by
  have hsl := sizeLine_eq
  unfold f_is_plan
  simp only [q_add_ii, q_add_ss, q_add_ll, q_add_tt, q_addL, q_sub, q_mul, q_div, q_mod, q_neg, q_bool, q_eq_ii, q_eq_ss, q_eq_bb, q_ne_ii, q_ne_ss, q_ne_bb, q_lt, q_le, q_gt, q_ge, q_un2, q_un3, q_un4, q_intO, q_len_l, q_len_t, q_len_s, q_abs, q_int_i, q_int_b, q_tup_l, q_tup_t, q_list_l, q_list_t, q_min, q_max, q_it_l, q_it_t, q_rng, q_enu_l, q_enu_t, q_rev, q_sl_l, q_sl_t, q_sl_s, q_slL, q_all, q_any, q_sum, q_sort_pp, q_and, q_or, q_ite, q_join, cond_true, cond_false, true_and, and_true, decide_eq_true_eq, decide_true, decide_false, p_un_pl, p_ix_pl0, p_ix_pl1, p_un_pp, p_ix_pp0, p_ix_pp1, p_mk, p_eq, p_ne, p_in, p_notIn, p_lt, List.length_map]
  unfold planB
  have e0 : (!(decide (3 ≤ n) && decide (n ≤ 40)) || !decide ((cs.length : Int) = n - 3)) = !(decide (3 ≤ n) && decide (n ≤ 40) && decide ((cs.length : Int) = n - 3)) := by
    cases decide (3 ≤ n) <;> cases decide (n ≤ 40) <;> cases decide ((cs.length : Int) = n - 3) <;> rfl
  rw [e0]
  cases e : (decide (3 ≤ n) && decide (n ≤ 40) && decide ((cs.length : Int) = n - 3))
  · rfl
  rw [Bool.true_and]
  show lcM _ _ _ _ = _
  rw [q_lc_map _ _ (fun c => PyData.bool (cutB n c)) fun c hc k s => by simp only [e_is_cut]]
  rw [List.nil_append, show (cs.map fun c => PyData.bool (cutB n c)) = (cs.map (cutB n)).map .bool by rw [List.map_map]; rfl, q_all]
  simp only [q_add_ii, q_add_ss, q_add_ll, q_add_tt, q_addL, q_sub, q_mul, q_div, q_mod, q_neg, q_bool, q_eq_ii, q_eq_ss, q_eq_bb, q_ne_ii, q_ne_ss, q_ne_bb, q_lt, q_le, q_gt, q_ge, q_un2, q_un3, q_un4, q_intO, q_len_l, q_len_t, q_len_s, q_abs, q_int_i, q_int_b, q_tup_l, q_tup_t, q_list_l, q_list_t, q_min, q_max, q_it_l, q_it_t, q_rng, q_enu_l, q_enu_t, q_rev, q_sl_l, q_sl_t, q_sl_s, q_slL, q_all, q_any, q_sum, q_sort_pp, q_and, q_or, q_ite, q_join, cond_true, cond_false, true_and, and_true, decide_eq_true_eq, decide_true, decide_false, p_un_pl, p_ix_pl0, p_ix_pl1, p_un_pp, p_ix_pp0, p_ix_pp1, p_mk, p_eq, p_ne, p_in, p_notIn, p_lt]
  have e2 : (cs.map (cutB n)).all id = cs.all (cutB n) := by rw [List.all_map]; rfl
  rw [e2]
  cases cs.all (cutB n)
  · rfl
  rw [Bool.true_and]
  show ((_ ∧ _) : Prop) = _
  refine Eq.trans (propext (and_iff_right (by omega))) ?_
  rw [range_map, show ((cs.length : Int) - 1).toNat = cs.length - 1 by omega]
  rw [q_for_all _ _ (fun i => ltPP (cs.getD i (0, 0)) (cs.getD (i + 1) (0, 0))) (R := K (.bool false)) fun i hi N => ?_]
  · show cond (adjB cs) _ _ = _
    cases adjB cs
    · rfl
    show forM _ _ _ _ = _
    rw [enum_map, q_for_all _ _ (fun q => !((cs.take q.1).any fun d => crossB q.2 d)) (R := K (.bool false)) fun q hq N => ?_]
    · have e3 : (cs.mapIdx fun i a => (i, a)).all (fun q => !((cs.take q.1).any fun d => crossB q.2 d)) = nocB cs := by
        unfold nocB
        rw [Bool.eq_iff_iff, List.all_eq_true, List.all_eq_true]
        refine ⟨fun h i hi => ?_, fun h q hq => ?_⟩
        · have hi := List.mem_range.mp hi
          rw [getD_at hi]
          exact h (i, cs[i]) (List.mem_iff_getElem?.mpr ⟨i, by rw [List.getElem?_mapIdx, List.getElem?_eq_getElem hi]; rfl⟩)
        · obtain ⟨j, hj⟩ := List.mem_iff_getElem?.mp hq
          rw [List.getElem?_mapIdx] at hj
          obtain ⟨c, hc, rfl⟩ := Option.map_eq_some_iff.mp hj
          obtain ⟨hjl, hjc⟩ := List.getElem?_eq_some_iff.mp hc
          have := h j (List.mem_range.mpr hjl)
          rw [getD_at hjl, hjc] at this
          exact this
      rw [e3]
      cases nocB cs <;> rfl
    · obtain ⟨i, c⟩ := q
      have hi : i < cs.length := by
        obtain ⟨j, hj⟩ := List.mem_iff_getElem?.mp hq
        rw [List.getElem?_mapIdx] at hj
        obtain ⟨c, hc, e⟩ := Option.map_eq_some_iff.mp hj
        cases e
        exact (List.getElem?_eq_some_iff.mp hc).1
      simp only [q_add_ii, q_add_ss, q_add_ll, q_add_tt, q_addL, q_sub, q_mul, q_div, q_mod, q_neg, q_bool, q_eq_ii, q_eq_ss, q_eq_bb, q_ne_ii, q_ne_ss, q_ne_bb, q_lt, q_le, q_gt, q_ge, q_un2, q_un3, q_un4, q_intO, q_len_l, q_len_t, q_len_s, q_abs, q_int_i, q_int_b, q_tup_l, q_tup_t, q_list_l, q_list_t, q_min, q_max, q_it_l, q_it_t, q_rng, q_enu_l, q_enu_t, q_rev, q_sl_l, q_sl_t, q_sl_s, q_slL, q_all, q_any, q_sum, q_sort_pp, q_and, q_or, q_ite, q_join, cond_true, cond_false, true_and, and_true, decide_eq_true_eq, decide_true, decide_false, p_un_pl, p_ix_pl0, p_ix_pl1, p_un_pp, p_ix_pp0, p_ix_pp1, p_mk, p_eq, p_ne, p_in, p_notIn, p_lt]
      rw [cut_pp (by omega) (by omega)]
      rw [q_lc_map _ _ (fun d => PyData.bool (crossB c d)) fun d hd k s => by simp only [e_crossing]]
      rw [List.nil_append, show ∀ L : List (Int × Int), (L.map fun d => PyData.bool (crossB c d)) = (L.map (crossB c)).map .bool from fun L => by rw [List.map_map]; rfl, q_any]
      simp only [q_add_ii, q_add_ss, q_add_ll, q_add_tt, q_addL, q_sub, q_mul, q_div, q_mod, q_neg, q_bool, q_eq_ii, q_eq_ss, q_eq_bb, q_ne_ii, q_ne_ss, q_ne_bb, q_lt, q_le, q_gt, q_ge, q_un2, q_un3, q_un4, q_intO, q_len_l, q_len_t, q_len_s, q_abs, q_int_i, q_int_b, q_tup_l, q_tup_t, q_list_l, q_list_t, q_min, q_max, q_it_l, q_it_t, q_rng, q_enu_l, q_enu_t, q_rev, q_sl_l, q_sl_t, q_sl_s, q_slL, q_all, q_any, q_sum, q_sort_pp, q_and, q_or, q_ite, q_join, cond_true, cond_false, true_and, and_true, decide_eq_true_eq, decide_true, decide_false, p_un_pl, p_ix_pl0, p_ix_pl1, p_un_pp, p_ix_pp0, p_ix_pp1, p_mk, p_eq, p_ne, p_in, p_notIn, p_lt]
      rw [show ∀ L : List (Int × Int), (L.map (crossB c)).any id = L.any (crossB c) from fun L => by rw [List.any_map]; rfl, Int.toNat_natCast]
      show cond ((cs.take i).any (crossB c)) _ _ = cond (!(cs.take i).any (crossB c)) _ _
      cases (cs.take i).any (crossB c) <;> rfl
  · have hi := List.mem_range.mp hi
    simp only [q_add_ii, q_add_ss, q_add_ll, q_add_tt, q_addL, q_sub, q_mul, q_div, q_mod, q_neg, q_bool, q_eq_ii, q_eq_ss, q_eq_bb, q_ne_ii, q_ne_ss, q_ne_bb, q_lt, q_le, q_gt, q_ge, q_un2, q_un3, q_un4, q_intO, q_len_l, q_len_t, q_len_s, q_abs, q_int_i, q_int_b, q_tup_l, q_tup_t, q_list_l, q_list_t, q_min, q_max, q_it_l, q_it_t, q_rng, q_enu_l, q_enu_t, q_rev, q_sl_l, q_sl_t, q_sl_s, q_slL, q_all, q_any, q_sum, q_sort_pp, q_and, q_or, q_ite, q_join, cond_true, cond_false, true_and, and_true, decide_eq_true_eq, decide_true, decide_false, p_un_pl, p_ix_pl0, p_ix_pl1, p_un_pp, p_ix_pp0, p_ix_pp1, p_mk, p_eq, p_ne, p_in, p_notIn, p_lt]
    rw [at_cs (by omega) (by omega), at_cs (by omega) (by omega)]
    simp only [q_add_ii, q_add_ss, q_add_ll, q_add_tt, q_addL, q_sub, q_mul, q_div, q_mod, q_neg, q_bool, q_eq_ii, q_eq_ss, q_eq_bb, q_ne_ii, q_ne_ss, q_ne_bb, q_lt, q_le, q_gt, q_ge, q_un2, q_un3, q_un4, q_intO, q_len_l, q_len_t, q_len_s, q_abs, q_int_i, q_int_b, q_tup_l, q_tup_t, q_list_l, q_list_t, q_min, q_max, q_it_l, q_it_t, q_rng, q_enu_l, q_enu_t, q_rev, q_sl_l, q_sl_t, q_sl_s, q_slL, q_all, q_any, q_sum, q_sort_pp, q_and, q_or, q_ite, q_join, cond_true, cond_false, true_and, and_true, decide_eq_true_eq, decide_true, decide_false, p_un_pl, p_ix_pl0, p_ix_pl1, p_un_pp, p_ix_pp0, p_ix_pp1, p_mk, p_eq, p_ne, p_in, p_notIn, p_lt]
    rw [show ((1 : Int) + (i : Nat) - 1).toNat = i by omega, show ((1 : Int) + (i : Nat)).toNat = i + 1 by omega]
    cases ltPP (cs.getD i (0, 0)) (cs.getD (i + 1) (0, 0)) <;> rfl
theorem e_need_plan (hc : cs.length ≤ 1000) : f_need_plan (plD n cs) K E = cond (planB n cs) (K .none) (E (.own "BadPlan")) := by
  unfold f_need_plan
  simp only [q_add_ii, q_add_ss, q_add_ll, q_add_tt, q_addL, q_sub, q_mul, q_div, q_mod, q_neg, q_bool, q_eq_ii, q_eq_ss, q_eq_bb, q_ne_ii, q_ne_ss, q_ne_bb, q_lt, q_le, q_gt, q_ge, q_un2, q_un3, q_un4, q_intO, q_len_l, q_len_t, q_len_s, q_abs, q_int_i, q_int_b, q_tup_l, q_tup_t, q_list_l, q_list_t, q_min, q_max, q_it_l, q_it_t, q_rng, q_enu_l, q_enu_t, q_rev, q_sl_l, q_sl_t, q_sl_s, q_slL, q_all, q_any, q_sum, q_sort_pp, q_and, q_or, q_ite, q_join, cond_true, cond_false, true_and, and_true, decide_eq_true_eq, decide_true, decide_false, p_un_pl, p_ix_pl0, p_ix_pl1, p_un_pp, p_ix_pp0, p_ix_pp1, p_mk, p_eq, p_ne, p_in, p_notIn, p_lt, e_is_plan hc]
  cases planB n cs <;> rfl
theorem e_need_ok (h : IsPlan n cs) : f_need_plan (plD n cs) K E = K .none := by
  rw [e_need_plan (by have := h.len; have := h.hi; omega), planB_of h]; rfl
section
variable (hp : IsPlan n cs)
include hp
theorem e_all_lines' : f_all_lines (plD n cs) Kl E = Kl ((linesOf n cs).map ppD) := by
  have := hp.len; have := hp.hi; have := hp.lo
  exact e_all_lines (by omega) (by omega) (by omega)
theorem e_places : f_places (plD n cs) Kl E = Kl ((spots n cs).map ppD) := by
  have hsl := sizeLine_eq
  have lok := lines_ok hp
  have llen := lines_len hp
  have h40 := hp.hi
  unfold f_places
  simp only [q_add_ii, q_add_ss, q_add_ll, q_add_tt, q_addL, q_sub, q_mul, q_div, q_mod, q_neg, q_bool, q_eq_ii, q_eq_ss, q_eq_bb, q_ne_ii, q_ne_ss, q_ne_bb, q_lt, q_le, q_gt, q_ge, q_un2, q_un3, q_un4, q_intO, q_len_l, q_len_t, q_len_s, q_abs, q_int_i, q_int_b, q_tup_l, q_tup_t, q_list_l, q_list_t, q_min, q_max, q_it_l, q_it_t, q_rng, q_enu_l, q_enu_t, q_rev, q_sl_l, q_sl_t, q_sl_s, q_slL, q_all, q_any, q_sum, q_sort_pp, q_and, q_or, q_ite, q_join, cond_true, cond_false, true_and, and_true, decide_eq_true_eq, decide_true, decide_false, p_un_pl, p_ix_pl0, p_ix_pl1, p_un_pp, p_ix_pp0, p_ix_pp1, p_mk, p_eq, p_ne, p_in, p_notIn, p_lt, e_need_ok hp, e_all_lines' hp]
  rw [q_lc_map _ _ (fun p => ppD (swp p)) fun p _ k s => rfl]
  rw [List.nil_append, show ((linesOf n cs).map fun p => ppD (swp p)) = ((linesOf n cs).map swp).map ppD by rw [List.map_map]; rfl]
  simp only [List.length_map, ← List.map_append, q_sort_pp, srt_pp]
  rw [sortPP_eq (both_perm _) (both_nodup lok)]
  exact propext (and_iff_right (by omega))
theorem e_need_place : f_need_place (plD n cs) (ppD p) K E = cond (decide (p ∈ both (linesOf n cs))) (K .none) (E (.own "BadPlace")) := by
  have lok := lines_ok hp
  unfold f_need_place
  simp only [q_add_ii, q_add_ss, q_add_ll, q_add_tt, q_addL, q_sub, q_mul, q_div, q_mod, q_neg, q_bool, q_eq_ii, q_eq_ss, q_eq_bb, q_ne_ii, q_ne_ss, q_ne_bb, q_lt, q_le, q_gt, q_ge, q_un2, q_un3, q_un4, q_intO, q_len_l, q_len_t, q_len_s, q_abs, q_int_i, q_int_b, q_tup_l, q_tup_t, q_list_l, q_list_t, q_min, q_max, q_it_l, q_it_t, q_rng, q_enu_l, q_enu_t, q_rev, q_sl_l, q_sl_t, q_sl_s, q_slL, q_all, q_any, q_sum, q_sort_pp, q_and, q_or, q_ite, q_join, cond_true, cond_false, true_and, and_true, decide_eq_true_eq, decide_true, decide_false, p_un_pl, p_ix_pl0, p_ix_pl1, p_un_pp, p_ix_pp0, p_ix_pp1, p_mk, p_eq, p_ne, p_in, p_notIn, p_lt, e_need_ok hp, e_all_lines' hp, e_pair_of]
  have e : decide (p ∈ both (linesOf n cs)) = !(!(decide (0 ≤ p.1) && decide (p.1 < n)) || (!(decide (0 ≤ p.2) && decide (p.2 < n)) || !decide (nrmP p.1 p.2 ∈ linesOf n cs))) := by
    rw [Bool.eq_iff_iff]
    simp only [decide_eq_true_eq, both_iff lok, Bool.not_or, Bool.not_not, Bool.and_eq_true]
    rfl
  rw [e]
  generalize (!(decide (0 ≤ p.1) && decide (p.1 < n)) || (!(decide (0 ≤ p.2) && decide (p.2 < n)) || !decide (nrmP p.1 p.2 ∈ linesOf n cs))) = b
  cases b <;> rfl
theorem e_over : f_over (plD n cs) (ppD p) K E = cond (decide (p ∈ both (linesOf n cs))) (K (ppD (swp p))) (E (.own "BadPlace")) := by
  unfold f_over
  simp only [q_add_ii, q_add_ss, q_add_ll, q_add_tt, q_addL, q_sub, q_mul, q_div, q_mod, q_neg, q_bool, q_eq_ii, q_eq_ss, q_eq_bb, q_ne_ii, q_ne_ss, q_ne_bb, q_lt, q_le, q_gt, q_ge, q_un2, q_un3, q_un4, q_intO, q_len_l, q_len_t, q_len_s, q_abs, q_int_i, q_int_b, q_tup_l, q_tup_t, q_list_l, q_list_t, q_min, q_max, q_it_l, q_it_t, q_rng, q_enu_l, q_enu_t, q_rev, q_sl_l, q_sl_t, q_sl_s, q_slL, q_all, q_any, q_sum, q_sort_pp, q_and, q_or, q_ite, q_join, cond_true, cond_false, true_and, and_true, decide_eq_true_eq, decide_true, decide_false, p_un_pl, p_ix_pl0, p_ix_pl1, p_un_pp, p_ix_pp0, p_ix_pp1, p_mk, p_eq, p_ne, p_in, p_notIn, p_lt, e_need_place hp]
  rfl
theorem e__law_all_lines : f__law_all_lines (plD n cs) Kl E = Kl ((linesOf n cs).map ppD) := by
  have h1 := hp.len; have h2 := hp.hi; have h3 := hp.lo
  have hsl := sizeLine_eq
  unfold f__law_all_lines
  simp only [q_add_ii, q_add_ss, q_add_ll, q_add_tt, q_addL, q_sub, q_mul, q_div, q_mod, q_neg, q_bool, q_eq_ii, q_eq_ss, q_eq_bb, q_ne_ii, q_ne_ss, q_ne_bb, q_lt, q_le, q_gt, q_ge, q_un2, q_un3, q_un4, q_intO, q_len_l, q_len_t, q_len_s, q_abs, q_int_i, q_int_b, q_tup_l, q_tup_t, q_list_l, q_list_t, q_min, q_max, q_it_l, q_it_t, q_rng, q_enu_l, q_enu_t, q_rev, q_sl_l, q_sl_t, q_sl_s, q_slL, q_all, q_any, q_sum, q_sort_pp, q_and, q_or, q_ite, q_join, cond_true, cond_false, true_and, and_true, decide_eq_true_eq, decide_true, decide_false, p_un_pl, p_ix_pl0, p_ix_pl1, p_un_pp, p_ix_pp0, p_ix_pp1, p_mk, p_eq, p_ne, p_in, p_notIn, p_lt, range0]
  rw [q_lc_map _ _ (fun i : Nat => ppD ((i : Int), (i : Int) + 1)) fun a ha k s => by simp only [q_add_ii, q_add_ss, q_add_ll, q_add_tt, q_addL, q_sub, q_mul, q_div, q_mod, q_neg, q_bool, q_eq_ii, q_eq_ss, q_eq_bb, q_ne_ii, q_ne_ss, q_ne_bb, q_lt, q_le, q_gt, q_ge, q_un2, q_un3, q_un4, q_intO, q_len_l, q_len_t, q_len_s, q_abs, q_int_i, q_int_b, q_tup_l, q_tup_t, q_list_l, q_list_t, q_min, q_max, q_it_l, q_it_t, q_rng, q_enu_l, q_enu_t, q_rev, q_sl_l, q_sl_t, q_sl_s, q_slL, q_all, q_any, q_sum, q_sort_pp, q_and, q_or, q_ite, q_join, cond_true, cond_false, true_and, and_true, decide_eq_true_eq, decide_true, decide_false, p_un_pl, p_ix_pl0, p_ix_pl1, p_un_pp, p_ix_pp0, p_ix_pp1, p_mk, p_eq, p_ne, p_in, p_notIn, p_lt]]
  have em : ((List.range (n - 1).toNat).map fun (j : Nat) => ppD ((j : Int), (j : Int) + 1)) ++ [ppD (0, n - 1)] = (sides n).map ppD := by
    unfold sides
    rw [List.map_append, List.map_map, show (n - 1).toNat = n.toNat - 1 by omega]
    rfl
  have hsd := sides_len (by omega : 2 ≤ n)
  simp only [q_add_ii, q_add_ss, q_add_ll, q_add_tt, q_addL, q_sub, q_mul, q_div, q_mod, q_neg, q_bool, q_eq_ii, q_eq_ss, q_eq_bb, q_ne_ii, q_ne_ss, q_ne_bb, q_lt, q_le, q_gt, q_ge, q_un2, q_un3, q_un4, q_intO, q_len_l, q_len_t, q_len_s, q_abs, q_int_i, q_int_b, q_tup_l, q_tup_t, q_list_l, q_list_t, q_min, q_max, q_it_l, q_it_t, q_rng, q_enu_l, q_enu_t, q_rev, q_sl_l, q_sl_t, q_sl_s, q_slL, q_all, q_any, q_sum, q_sort_pp, q_and, q_or, q_ite, q_join, cond_true, cond_false, true_and, and_true, decide_eq_true_eq, decide_true, decide_false, p_un_pl, p_ix_pl0, p_ix_pl1, p_un_pp, p_ix_pp0, p_ix_pp1, p_mk, p_eq, p_ne, p_in, p_notIn, p_lt, List.nil_append, em, ← List.map_append, srt_pp, List.length_map, List.length_range, List.length_append, List.length_cons, List.length_nil]
  refine Eq.trans (propext (and_iff_right (by omega))) (Eq.trans (propext (and_iff_right (by omega))) (Eq.trans (propext (and_iff_right (by omega))) rfl))
theorem e__law_tied {Kt : List (List Key × PyData) → Prop} : f__law_tied (plD n cs) Kt E = Kt (tied (linesOf n cs)) := by
  have hsl := sizeLine_eq
  have lok := lines_ok hp
  have llen := lines_len hp
  have h40 := hp.hi
  unfold f__law_tied
  simp only [q_add_ii, q_add_ss, q_add_ll, q_add_tt, q_addL, q_sub, q_mul, q_div, q_mod, q_neg, q_bool, q_eq_ii, q_eq_ss, q_eq_bb, q_ne_ii, q_ne_ss, q_ne_bb, q_lt, q_le, q_gt, q_ge, q_un2, q_un3, q_un4, q_intO, q_len_l, q_len_t, q_len_s, q_abs, q_int_i, q_int_b, q_tup_l, q_tup_t, q_list_l, q_list_t, q_min, q_max, q_it_l, q_it_t, q_rng, q_enu_l, q_enu_t, q_rev, q_sl_l, q_sl_t, q_sl_s, q_slL, q_all, q_any, q_sum, q_sort_pp, q_and, q_or, q_ite, q_join, cond_true, cond_false, true_and, and_true, decide_eq_true_eq, decide_true, decide_false, p_un_pl, p_ix_pl0, p_ix_pl1, p_un_pp, p_ix_pp0, p_ix_pp1, p_mk, p_eq, p_ne, p_in, p_notIn, p_lt, e__law_all_lines hp]
  generalize hL : linesOf n cs = L at *
  have tl : ∀ i, (tied (L.take i)).length ≤ 2 * i := fun i => by
    have e : ∀ M : List (Int × Int), (both M).length = 2 * M.length := fun M => by
      induction M with
      | nil => rfl
      | cons a M ih => show (a :: swp a :: both M).length = _; simp only [List.length_cons, ih]; omega
    unfold tied
    rw [List.length_map, e, List.length_take]
    omega
  rw [show ([] : List (List Key × PyData)) = (fun i => tied (L.take i)) 0 from rfl, q_for_seq L ppD (fun i => tied (L.take i)) fun i p hp1 N => ?_]
  · simp only [List.take_length]
  have hi := (List.getElem?_eq_some_iff.mp hp1).1
  have pl := lok.lt p (List.mem_of_getElem? hp1)
  have fresh : p ∉ L.take i := fun hm => by
    obtain ⟨j, hj, e⟩ := List.mem_take_iff_getElem.mp hm
    have e2 := (List.getElem?_eq_some_iff.mp hp1).2
    have := (List.getElem_inj lok.nd).mp (e.trans e2.symm)
    omega
  have key1 : ∀ kv ∈ tied (L.take i), kv.1 ≠ keyP p ∧ kv.1 ≠ keyP (swp p) := fun kv hkv => by
    obtain ⟨r, hr1, rfl⟩ := List.mem_map.mp hkv
    obtain ⟨t, ht, hr2⟩ := List.mem_flatMap.mp hr1
    have htL := List.mem_of_mem_take ht
    have tl := lok.lt t htL
    have hne : t ≠ p := fun z => fresh (z ▸ ht)
    have hr3 : r = t ∨ r = swp t := by simpa using hr2
    refine ⟨fun z => ?_, fun z => ?_⟩
    · have z := keyP_inj z
      rcases hr3 with rfl | rfl
      · exact hne z
      · rw [← z] at pl; unfold swp at pl; simp only at pl; omega
    · have z := keyP_inj z
      rcases hr3 with rfl | rfl
      · rw [z] at tl; unfold swp at tl; simp only at tl; omega
      · have z1 : t.2 = p.2 := congrArg Prod.fst z
        have z2 : t.1 = p.1 := congrArg Prod.snd z
        exact hne (Prod.ext z2 z1)
  have et : tied (L.take (i + 1)) = tied (L.take i) ++ [(keyP p, .bool true)] ++ [(keyP (swp p), .bool true)] := by
    unfold tied
    rw [List.take_succ, hp1, both_app, List.map_append]
    simp [both]
  have tli := tl i
  simp only [p_un_pp]
  refine Eq.trans (propext (and_iff_right (by omega))) ?_
  show putTM (putP (tied (L.take i)) (keyP p) (.bool true)) (ppD (swp p)) _ _ = _
  rw [putP_new fun kv hkv => (key1 kv hkv).1]
  refine Eq.trans (propext (and_iff_right (by simp only [List.length_append, List.length_cons, List.length_nil]; omega))) ?_
  show N (putP _ (keyP (swp p)) _) = _
  rw [putP_new fun kv hkv => by
      rcases List.mem_append.mp hkv with h | h
      · exact (key1 kv h).2
      · have e : kv = (keyP p, .bool true) := by simpa using h
        rw [e]
        intro z
        have z1 : p.1 = p.2 := congrArg Prod.fst (keyP_inj z)
        omega]
  rw [et]
theorem e__law_spots : f__law_spots (plD n cs) Kl E = Kl ((spots n cs).map ppD) := by
  unfold f__law_spots
  simp only [q_add_ii, q_add_ss, q_add_ll, q_add_tt, q_addL, q_sub, q_mul, q_div, q_mod, q_neg, q_bool, q_eq_ii, q_eq_ss, q_eq_bb, q_ne_ii, q_ne_ss, q_ne_bb, q_lt, q_le, q_gt, q_ge, q_un2, q_un3, q_un4, q_intO, q_len_l, q_len_t, q_len_s, q_abs, q_int_i, q_int_b, q_tup_l, q_tup_t, q_list_l, q_list_t, q_min, q_max, q_it_l, q_it_t, q_rng, q_enu_l, q_enu_t, q_rev, q_sl_l, q_sl_t, q_sl_s, q_slL, q_all, q_any, q_sum, q_sort_pp, q_and, q_or, q_ite, q_join, cond_true, cond_false, true_and, and_true, decide_eq_true_eq, decide_true, decide_false, p_un_pl, p_ix_pl0, p_ix_pl1, p_un_pp, p_ix_pp0, p_ix_pp1, p_mk, p_eq, p_ne, p_in, p_notIn, p_lt, e__law_tied hp, keysT, tied_keys, srt_pp]
  rfl
end
theorem e__law_plan {m : Int} (h : 3 ≤ m) (h2 : m ≤ 40) : f__law_plan (.int m) K E = ∀ n, 3 ≤ n → n ≤ m → ∀ l, Arcs 1 n l → K (plD n (planOf n l)) := by
  unfold f__law_plan
  simp only [q_add_ii, q_add_ss, q_add_ll, q_add_tt, q_addL, q_sub, q_mul, q_div, q_mod, q_neg, q_bool, q_eq_ii, q_eq_ss, q_eq_bb, q_ne_ii, q_ne_ss, q_ne_bb, q_lt, q_le, q_gt, q_ge, q_un2, q_un3, q_un4, q_intO, q_len_l, q_len_t, q_len_s, q_abs, q_int_i, q_int_b, q_tup_l, q_tup_t, q_list_l, q_list_t, q_min, q_max, q_it_l, q_it_t, q_rng, q_enu_l, q_enu_t, q_rev, q_sl_l, q_sl_t, q_sl_s, q_slL, q_all, q_any, q_sum, q_sort_pp, q_and, q_or, q_ite, q_join, cond_true, cond_false, true_and, and_true, decide_eq_true_eq, decide_true, decide_false, p_un_pl, p_ix_pl0, p_ix_pl1, p_un_pp, p_ix_pp0, p_ix_pp1, p_mk, p_eq, p_ne, p_in, p_notIn, p_lt]
  rw [e__law_pull (by omega) (by omega)]
  simp only [q_add_ii]
  refine propext ⟨fun hh n hn hn2 l hl => ?_, fun hh r r0 r1 => ?_⟩
  · have := hh (n - 3) (by omega) (by omega)
    rw [show 3 + (n - 3) = n by omega, e__law_drawn_plan hn (by omega)] at this
    exact this l hl
  · rw [e__law_drawn_plan (by omega) (by omega)]
    exact hh _ (by omega) (by omega)
theorem okD_int (N : Nat) (i : Int) : okD N (.int i) = true := by cases N <;> rfl
theorem okD_p (N : Nat) (p : Int × Int) : okD (N + 1) (ppD p) = true := by
  show (decide (2 ≤ 10000000) && (okD N (.int p.1) && (okD N (.int p.2) && true))) = true
  rw [okD_int, okD_int]
  rfl
theorem okD_pp (N : Nat) (L : List (Int × Int)) (h : L.length ≤ 10000) : okD (N + 2) (.list (L.map ppD)) = true := by
  show (decide ((L.map ppD).length ≤ 10000000) && (L.map ppD).all (okD (N + 1))) = true
  rw [decide_eq_true (by rw [List.length_map]; omega), Bool.true_and]
  refine List.all_eq_true.mpr fun d hd => ?_
  obtain ⟨p, _, rfl⟩ := List.mem_map.mp hd
  exact okD_p N p
theorem both_len : ∀ M : List (Int × Int), (both M).length = 2 * M.length
  | [] => rfl
  | a :: M => by show (a :: swp a :: both M).length = _; simp only [List.length_cons, both_len M]; omega
theorem spots_len {n : Int} {cs : List (Int × Int)} (h : IsPlan n cs) : ((spots n cs).length : Int) = 4 * n - 6 := by
  unfold spots
  rw [(sortPP_perm _).length_eq, both_len]
  have := lines_len h
  omega
theorem e_law_k11 (ns : List Int) (h : ns.length ≤ 63) : f_law_k11 (.list (ns.map .int)) (fun r => r = .bool true) (fun _ => False) := by
  have hsl := sizeLine_eq
  unfold f_law_k11
  rw [e__law_pull (by decide) (by decide)]
  intro r r0 r1
  have er : r = 0 ∨ r = 1 ∨ r = 2 := by omega
  have main : ∀ m : Int, 3 ≤ m → m ≤ 40 → ∀ K' : KD, (∀ n cs, IsPlan n cs → K' (plD n cs)) → f__law_plan (.int m) K' (fun _ => False) := fun m h3 h40 K' hK' => by
    rw [e__law_plan h3 h40]
    exact fun n hn hnm l hl => hK' _ _ (arcs_plan hn (by omega) hl)
  rcases er with rfl | rfl | rfl <;> refine main _ (by decide) (by decide) _ fun n cs hp => ?_
  all_goals
    rw [e__law_spots hp]
    have hl := spots_len hp
    have h40 := hp.hi
    have ok := okD_pp 6 (spots n cs) (by omega)
    have cm : CMul 4 n := by unfold CMul; omega
    have ne : (!decide (((spots n cs).length : Int) = 4 * n - 6)) = false := by rw [hl]; simp
    have al : lcM (fun l_spot9 (kp : PyData → Prop) sk => f_over (plD n cs) l_spot9 (fun r11 => ixM l_spot9 (.int 1) fun r12 => ixM l_spot9 (.int 0) fun r13 => f__law_alike r11 (.tuple [r12, r13]) (fun r14 => kp r14) (fun _ => False)) (fun _ => False)) (fun l10 => allM (.list l10) fun r15 => r15 = .bool true) ((spots n cs).map ppD) [] := by
      rw [q_lc_map _ _ (fun _ => PyData.bool true) fun p hp1 k s => by
        have hm : p ∈ both (linesOf n cs) := (sortPP_perm _).mem_iff.mp hp1
        simp only [q_add_ii, q_add_ss, q_add_ll, q_add_tt, q_addL, q_sub, q_mul, q_div, q_mod, q_neg, q_bool, q_eq_ii, q_eq_ss, q_eq_bb, q_ne_ii, q_ne_ss, q_ne_bb, q_lt, q_le, q_gt, q_ge, q_un2, q_un3, q_un4, q_intO, q_len_l, q_len_t, q_len_s, q_abs, q_int_i, q_int_b, q_tup_l, q_tup_t, q_list_l, q_list_t, q_min, q_max, q_it_l, q_it_t, q_rng, q_enu_l, q_enu_t, q_rev, q_sl_l, q_sl_t, q_sl_s, q_slL, q_all, q_any, q_sum, q_sort_pp, q_and, q_or, q_ite, q_join, cond_true, cond_false, true_and, and_true, decide_eq_true_eq, decide_true, decide_false, p_un_pl, p_ix_pl0, p_ix_pl1, p_un_pp, p_ix_pp0, p_ix_pp1, p_mk, p_eq, p_ne, p_in, p_notIn, p_lt, e_over hp, hm, show PyData.tuple [.int p.2, .int p.1] = ppD (swp p) from rfl]
        rw [e__law_alike (okD_p 7 _)]]
      rw [List.nil_append, show ((spots n cs).map fun _ => PyData.bool true) = ((spots n cs).map fun _ => true).map .bool by rw [List.map_map]; rfl, q_all]
      simp
    simp only [q_add_ii, q_add_ss, q_add_ll, q_add_tt, q_addL, q_sub, q_mul, q_div, q_mod, q_neg, q_bool, q_eq_ii, q_eq_ss, q_eq_bb, q_ne_ii, q_ne_ss, q_ne_bb, q_lt, q_le, q_gt, q_ge, q_un2, q_un3, q_un4, q_intO, q_len_l, q_len_t, q_len_s, q_abs, q_int_i, q_int_b, q_tup_l, q_tup_t, q_list_l, q_list_t, q_min, q_max, q_it_l, q_it_t, q_rng, q_enu_l, q_enu_t, q_rev, q_sl_l, q_sl_t, q_sl_s, q_slL, q_all, q_any, q_sum, q_sort_pp, q_and, q_or, q_ite, q_join, cond_true, cond_false, true_and, and_true, decide_eq_true_eq, decide_true, decide_false, p_un_pl, p_ix_pl0, p_ix_pl1, p_un_pp, p_ix_pp0, p_ix_pp1, p_mk, p_eq, p_ne, p_in, p_notIn, p_lt, e_places hp, e__law_alike ok, List.length_map, cm, true_or, ne, Bool.not_true, Bool.or_false]
    refine ⟨by decide, ?_⟩
    show (spots n cs).length < sizeLine ∧ (spots n cs).length < sizeLine ∧ _
    exact ⟨by omega, by omega, al⟩
end
end Tx

namespace Tx
open PySem PySem.Spec PyProof.Rows L2 TL
@[irreducible] def f_neighbours (plan : PyData) (K : KL) (E : KX) : Prop :=
  un2 plan fun faces1 cuts2 =>
  rngM (.int 0) faces1 fun xs4 =>
  f_all_lines plan (fun r10 =>
  itM (.list r10) fun xs9 =>
  forM (fun p24 found27 N25 B26 => un2 p24 fun low30 high31 =>
  rowM found27 low30 fun l33 =>
  subM high31 low30 fun r34 =>
  modM r34 faces1 fun r35 =>
  rowAppM found27 low30 r35 fun rows36 =>
  rowM rows36 high31 fun l39 =>
  subM low30 high31 fun r40 =>
  modM r40 faces1 fun r41 =>
  rowAppM rows36 high31 r41 fun rows42 =>
  N25 rows42) (fun found11 =>
  rngM (.int 0) faces1 fun xs14 =>
  lcM (fun face15 kp sk => rowM found11 face15 fun l18 =>
  sortM (.list l18) fun l19 =>
  itM (.list l19) fun xs17 =>
  lcM (fun step20 kp sk => addM face15 step20 fun r22 =>
  modM r22 faces1 fun r23 =>
  kp r23) (fun l21 =>
  kp (.list l21)) xs17 []) (fun l16 =>
  K l16) xs14 []) xs9 (List.replicate xs4.length ([] : List PyData))) E
def c_neighbours : CT := fun args Φ Ψ => ∃ (plan : PyData) (K : KL) (E : KX), args = [.d plan] ∧ f_neighbours plan K E ∧ (∀ r, K r → Φ (.nl r) args) ∧ ∀ c, E c → Ψ c args
@[irreducible] def f_parts (plan : PyData) (K : KL) (E : KX) : Prop :=
  f_need_plan plan (fun r1 =>
  f_neighbours plan (fun r2 =>
  f_all_lines plan (fun r4 =>
  itM (.list r4) fun xs3 =>
  forM (fun p9 found12 N10 B11 => un2 p9 fun low15 high16 =>
  ixM (.list r2) low15 fun r19 =>
  itM r19 fun xs18 =>
  lcM (fun other20 kp sk => andM (fun Q => gtM other20 high16 fun b23 =>
  Q b23) (fun Q => ixM (.list r2) high16 fun r24 =>
  inM other20 r24 fun b25 =>
  Q b25) fun b22 =>
  (b22 = true → (kp (.tuple [low15, high16, other20]))) ∧ (b22 = false → sk)) (fun l21 =>
  addM found12 (.list l21) fun r26 =>
  N10 r26) xs18 []) (fun found5 =>
  sortM found5 fun l8 =>
  K l8) xs3 (.list [])) E) E) E
def c_parts : CT := fun args Φ Ψ => ∃ (plan : PyData) (K : KL) (E : KX), args = [.d plan] ∧ f_parts plan K E ∧ (∀ r, K r → Φ (.nl r) args) ∧ ∀ c, E c → Ψ c args
@[irreducible] def f_lines (plan : PyData) (K : KL) (E : KX) : Prop :=
  f_need_plan plan (fun r1 =>
  f_all_lines plan (fun r2 =>
  K r2) E) E
def c_lines : CT := fun args Φ Ψ => ∃ (plan : PyData) (K : KL) (E : KX), args = [.d plan] ∧ f_lines plan K E ∧ (∀ r, K r → Φ (.nl r) args) ∧ ∀ c, E c → Ψ c args
@[irreducible] def f__law_all_parts (l_plan_here : PyData) (K : KL) (E : KX) : Prop :=
  f__law_tied l_plan_here (fun r2 =>
  f__law_all_lines l_plan_here (fun r5 =>
  itM (.list r5) fun xs4 =>
  forM (fun p12 l_found15 N13 B14 => un2 p12 fun l_low20 l_high21 =>
  addM l_high21 (.int 1) fun r24 =>
  ixM l_plan_here (.int 0) fun r25 =>
  rngM r24 r25 fun xs23 =>
  forM (fun l_corner29 l_found32 N30 B31 => andM (fun Q => inTM r2 (.tuple [l_low20, l_corner29]) fun b36 =>
  Q b36) (fun Q => inTM r2 (.tuple [l_high21, l_corner29]) fun b37 =>
  Q b37) fun b35 =>
  (b35 = true → (l_found32.length < sizeLine ∧ (N30 (l_found32 ++ ([(.tuple [l_low20, l_high21, l_corner29])] : List PyData))))) ∧ (b35 = false → (N30 l_found32))) (fun l_found26 =>
  N13 l_found26) xs23 l_found15) (fun l_found6 =>
  sortM (.list l_found6) fun l11 =>
  K l11) xs4 []) E) E
def c__law_all_parts : CT := fun args Φ Ψ => ∃ (l_plan_here : PyData) (K : KL) (E : KX), args = [.d l_plan_here] ∧ f__law_all_parts l_plan_here K E ∧ (∀ r, K r → Φ (.nl r) args) ∧ ∀ c, E c → Ψ c args
/-! ints in order -/
abbrev sortI (ns : List Int) : List Int := ns.mergeSort fun a b => decide (a ≤ b)
theorem srt_ints (ns : List Int) : srt (ns.map .int) = (sortI ns).map .int := by
  unfold srt sortI
  have e := PySem.W.dataLe_int (β := Int) (fun p => p)
  exact (List.map_mergeSort (r := fun a b => decide (a ≤ b)) (s := PySem.W.dataLe false id) fun a _ b _ => (congrFun (congrFun e a) b).symm).symm
theorem q_sort_ints (ns : List Int) {Kl : KL} : sortM (.list (ns.map .int)) Kl = Kl ((sortI ns).map .int) := by
  rw [← srt_ints]
  show ((_ ∧ _) : Prop) = _
  refine propext (and_iff_right ⟨.of fun _ _ => by simp [PySem.W.alike], .others fun b => ⟨(by intro z; cases z), fun xs z => (by cases z)⟩, fun d hd => ?_⟩)
  obtain ⟨p, _, rfl⟩ := List.mem_map.mp hd
  rfl
theorem lt_unique : ∀ {l m : List Int}, l.Perm m → l.Pairwise (· < ·) → m.Pairwise (· < ·) → l = m
  | [], m, h, _, _ => (List.nil_perm.mp h).symm
  | a :: l, [], h, _, _ => absurd h.length_eq (by simp)
  | a :: l, b :: m, h, h1, h2 => by
    have e : a = b := by
      have ha : a ∈ b :: m := h.mem_iff.mp (List.mem_cons_self ..)
      have hb : b ∈ a :: l := h.mem_iff.mpr (List.mem_cons_self ..)
      rcases List.mem_cons.mp ha with e | ha
      · exact e
      · rcases List.mem_cons.mp hb with e | hb
        · exact e.symm
        · have := (List.pairwise_cons.mp h1).1 b hb
          have := (List.pairwise_cons.mp h2).1 a ha
          omega
    subst e
    rw [lt_unique (List.perm_cons a |>.mp h) (List.pairwise_cons.mp h1).2 (List.pairwise_cons.mp h2).2]
theorem sortI_lt {ns : List Int} (nd : ns.Nodup) : (sortI ns).Pairwise (· < ·) := by
  have h1 : (sortI ns).Pairwise fun a b => decide (a ≤ b) = true := List.pairwise_mergeSort (fun a b c h1 h2 => by have := of_decide_eq_true h1; have := of_decide_eq_true h2; exact decide_eq_true (by omega)) (fun a b => by
    rcases Int.le_total a b with h | h <;> simp [h]) ns
  have h2 : (sortI ns).Nodup := (List.mergeSort_perm ns _).nodup_iff.mpr nd
  have h3 := h1.and h2
  exact h3.imp fun ⟨a, b⟩ => by have := of_decide_eq_true a; omega
/-- sorted of items without doubles: any rising list with the same items -/
theorem sortI_eq {ns ms : List Int} (nd : ns.Nodup) (h : ms.Pairwise (· < ·)) (m : ∀ x, x ∈ ns ↔ x ∈ ms) : sortI ns = ms := by
  have nd2 : ms.Nodup := h.imp fun h => Int.ne_of_lt h
  refine lt_unique (((List.mergeSort_perm ns _)).trans ?_) (sortI_lt nd) h
  exact (List.perm_ext_iff_of_nodup nd nd2).mpr m
/-! neighbours -/
def tieB (n : Int) (cs : List (Int × Int)) (a b : Int) : Bool := decide ((a, b) ∈ both (linesOf n cs))
/-- the corners that have a line with f, from the one that follows it on -/
def near (n : Int) (cs : List (Int × Int)) (f : Int) : List Int := ((List.range (n.toNat - 1)).filter fun (k : Nat) => tieB n cs f ((f + k + 1) % n)).map fun (k : Nat) => (f + k + 1) % n
def stp (n : Int) (L : List (Int × Int)) (f : Int) : List Int := L.flatMap fun p => (if p.1 = f then [(p.2 - p.1) % n] else []) ++ (if p.2 = f then [(p.1 - p.2) % n] else [])
theorem set_rg {β : Type} (m : Nat) (f : Nat → β) (j : Nat) (y : β) : ((List.range m).map f).set j y = (List.range m).map fun x => if x = j then y else f x := by
  refine List.ext_getElem? fun i => ?_
  rw [List.getElem?_set, List.getElem?_map, List.getElem?_map, List.length_map, List.length_range]
  by_cases h : j = i
  · subst h
    rw [if_pos rfl]
    by_cases h2 : j < m
    · rw [if_pos h2, List.getElem?_range h2]; simp
    · rw [if_neg h2, List.getElem?_eq_none (by simpa using h2)]; rfl
  · rw [if_neg h]
    by_cases h2 : i < m
    · rw [List.getElem?_range h2]
      show some (f i) = some (if i = j then y else f i)
      rw [if_neg fun z => h z.symm]
    · rw [List.getElem?_eq_none (by simpa using h2)]; rfl
section
variable {K : KD} {Kl : KL} {E : KX} {n i j : Int} {cs : List (Int × Int)} {p q : Int × Int}
theorem rg_at {β : Type} {m : Nat} {f : Nat → β} {a : Int} (h0 : 0 ≤ a) (h : a < m) : atI ((List.range m).map f) a = some (f a.toNat) := by
  refine at_nat h0 ?_
  rw [List.getElem?_map, List.getElem?_range (by omega)]; rfl
theorem rg_ixN {m : Nat} {a : Int} (h0 : 0 ≤ a) (h : a < m) : ixN m a = some a.toNat := by
  have := rg_at (β := Nat) (f := fun x => x) h0 h
  unfold atI at this
  obtain ⟨j, h1, h2⟩ := Option.bind_eq_some_iff.mp this
  rw [List.length_map, List.length_range] at h1
  rw [h1]
  rw [List.getElem?_map] at h2
  obtain ⟨k, h3, h4⟩ := Option.map_eq_some_iff.mp h2
  obtain ⟨h5, h6⟩ := List.getElem?_eq_some_iff.mp h3
  rw [List.getElem_range] at h6
  have h4 : k = a.toNat := h4
  congr 1
  omega
theorem row_rg {m : Nat} {f : Nat → List PyData} {a : Int} (h0 : 0 ≤ a) (h : a < m) : rowM ((List.range m).map f) (.int a) Kl = Kl (f a.toNat) := by
  show (match atI _ a with | some l => Kl l | none => False) = _
  rw [rg_at h0 h]
theorem rowApp_rg {m : Nat} {f : Nat → List PyData} {a : Int} {y : PyData} {Kr : List (List PyData) → Prop} (h0 : 0 ≤ a) (h : a < m) (hl : (f a.toNat).length < sizeLine) : rowAppM ((List.range m).map f) (.int a) y Kr = Kr ((List.range m).map fun x => if x = a.toNat then f x ++ [y] else f x) := by
  show (match ixN ((List.range m).map f).length a with | some j => (match ((List.range m).map f)[j]? with | some l => l.length < sizeLine ∧ Kr (((List.range m).map f).set j (l ++ [y])) | none => False) | none => False) = _
  rw [List.length_map, List.length_range, rg_ixN h0 h]
  simp only [List.getElem?_map, List.getElem?_range (show a.toNat < m by omega), Option.map_some]
  rw [set_rg]
  refine Eq.trans (propext (and_iff_right hl)) ?_
  congr 1
  refine List.map_congr_left fun x _ => ?_
  by_cases e : x = a.toNat
  · subst e; simp
  · simp [e]
variable (hp : IsPlan n cs)
include hp
theorem stp_len (L : List (Int × Int)) (f : Int) : (stp n L f).length ≤ 2 * L.length := by
  unfold stp
  induction L with
  | nil => simp
  | cons a L ih =>
    rw [List.flatMap_cons, List.length_append, List.length_append, List.length_cons]
    have e1 : (if a.1 = f then [(a.2 - a.1) % n] else []).length ≤ 1 := by split <;> simp
    have e2 : (if a.2 = f then [(a.1 - a.2) % n] else []).length ≤ 1 := by split <;> simp
    omega
theorem mem_both {L : List (Int × Int)} {a b : Int} : (a, b) ∈ both L ↔ (a, b) ∈ L ∨ (b, a) ∈ L := by
  unfold both
  rw [List.mem_flatMap]
  refine ⟨fun ⟨p, h1, h2⟩ => ?_, fun h => ?_⟩
  · have h2 : (a, b) = p ∨ (a, b) = swp p := by simpa using h2
    rcases h2 with h | h
    · exact .inl (h ▸ h1)
    · have : p = (b, a) := by
        unfold swp at h
        exact Prod.ext (congrArg Prod.snd h).symm (congrArg Prod.fst h).symm
      exact .inr (this ▸ h1)
  · rcases h with h | h
    · exact ⟨_, h, by simp⟩
    · exact ⟨_, h, by simp [swp]⟩
theorem tie_lt {a b : Int} (h : tieB n cs a b = true) : 0 ≤ a ∧ a < n ∧ 0 ≤ b ∧ b < n ∧ a ≠ b := by
  have lok := lines_ok hp
  rcases (mem_both hp).mp (of_decide_eq_true h) with h | h
  · have := lok.lt _ h; simp only at this; omega
  · have := lok.lt _ h; simp only at this; omega
theorem emod_ab {a b : Int} (h1 : 0 ≤ a) (h2 : a < b) (h3 : b < n) : (b - a) % n = b - a ∧ (a - b) % n = a - b + n := by
  refine ⟨Int.emod_eq_of_lt (by omega) (by omega), ?_⟩
  rw [← Int.add_emod_right, Int.emod_eq_of_lt (by omega) (by omega)]
theorem stp_near (f : Nat) (hf : (f : Int) < n) : (sortI (stp n (linesOf n cs) f)).map (fun s => ((f : Int) + s) % n) = near n cs f := by
  have lok := lines_ok hp
  have h3 := hp.lo
  have el : ∀ p ∈ linesOf n cs, ∀ x, x ∈ ((if p.1 = (f : Int) then [(p.2 - p.1) % n] else []) ++ (if p.2 = (f : Int) then [(p.1 - p.2) % n] else [])) ↔ (p.1 = f ∧ x = p.2 - p.1) ∨ (p.2 = f ∧ x = p.1 - p.2 + n) := fun p hm x => by
    have pl := lok.lt p hm
    obtain ⟨e1, e2⟩ := emod_ab hp pl.1 pl.2.1 pl.2.2
    rw [List.mem_append, e1, e2]
    by_cases h1 : p.1 = (f : Int) <;> by_cases h2 : p.2 = (f : Int) <;> simp [h1, h2]
  have nd : (stp n (linesOf n cs) f).Nodup := by
    unfold stp
    refine List.pairwise_flatMap.mpr ⟨fun p hm => ?_, ?_⟩
    · have pl := lok.lt p hm
      by_cases h1 : p.1 = (f : Int)
      · rw [if_pos h1, if_neg (by omega)]; simp
      · rw [if_neg h1]; split <;> simp
    · refine List.Pairwise.imp_of_mem (fun {p q} hm hq hne x hx y hy e => ?_) lok.nd
      subst e
      have pl := lok.lt p hm
      have ql := lok.lt q hq
      have hx := (el p hm x).mp hx
      have hy := (el q hq x).mp hy
      exact hne (Prod.ext (by omega) (by omega))
  have e : sortI (stp n (linesOf n cs) f) = ((List.range (n.toNat - 1)).filter fun (k : Nat) => tieB n cs f (((f : Int) + k + 1) % n)).map fun (k : Nat) => (k : Int) + 1 := by
    refine sortI_eq nd ?_ fun x => ?_
    · refine List.pairwise_map.mpr ((List.pairwise_lt_range.filter _).imp fun h => by omega)
    · unfold stp
      rw [List.mem_flatMap, List.mem_map]
      refine ⟨fun ⟨p, hm, hx⟩ => ?_, fun ⟨k, hk, hx⟩ => ?_⟩
      · have pl := lok.lt p hm
        have hx := (el p hm x).mp hx
        refine ⟨(x - 1).toNat, List.mem_filter.mpr ⟨List.mem_range.mpr (by omega), ?_⟩, by omega⟩
        have ex : ((f : Int) + ((x - 1).toNat : Nat) + 1) = f + x := by omega
        rw [ex]
        unfold tieB
        refine decide_eq_true ((mem_both hp).mpr ?_)
        rcases hx with ⟨h1, h2⟩ | ⟨h1, h2⟩
        · rw [Int.emod_eq_of_lt (by omega) (by omega), show (f : Int) + x = p.2 by omega, ← h1]
          exact .inl hm
        · rw [show (f : Int) + x = p.1 + n by omega, Int.add_emod_right, Int.emod_eq_of_lt (by omega) (by omega), ← h1]
          exact .inr hm
      · obtain ⟨hk1, hk2⟩ := List.mem_filter.mp hk
        have hk1 := List.mem_range.mp hk1
        have hb := (mem_both hp).mp (of_decide_eq_true hk2)
        have eg : ((f : Int) + k + 1) % n = if (f : Int) + k + 1 < n then (f : Int) + k + 1 else (f : Int) + k + 1 - n := by
          split
          · exact Int.emod_eq_of_lt (by omega) (by omega)
          · rw [← Int.sub_emod_right, Int.emod_eq_of_lt (by omega) (by omega)]
        rw [eg] at hb
        rcases hb with hb | hb
        · have pl := lok.lt _ hb
          simp only at pl
          refine ⟨_, hb, (el _ hb x).mpr (.inl ⟨rfl, ?_⟩)⟩
          simp only
          split at pl <;> rename_i h9 <;> simp only [h9, if_true, if_false] <;> omega
        · have pl := lok.lt _ hb
          simp only at pl
          refine ⟨_, hb, (el _ hb x).mpr (.inr ⟨rfl, ?_⟩)⟩
          simp only
          split at pl <;> rename_i h9 <;> simp only [h9, if_true, if_false] <;> omega
  rw [e, List.map_map]
  unfold near
  refine List.map_congr_left fun k _ => ?_
  show ((f : Int) + ((k : Int) + 1)) % n = _
  rw [Int.add_assoc]
theorem e_neighbours : f_neighbours (plD n cs) Kl E = Kl ((List.range n.toNat).map fun (i : Nat) => .list ((near n cs i).map .int)) := by
  have hsl := sizeLine_eq
  have lok := lines_ok hp
  have llen := lines_len hp
  have h3 := hp.lo
  have h40 := hp.hi
  unfold f_neighbours
  simp only [q_add_ii, q_add_ss, q_add_ll, q_add_tt, q_addL, q_sub, q_mul, q_div, q_mod, q_neg, q_bool, q_eq_ii, q_eq_ss, q_eq_bb, q_ne_ii, q_ne_ss, q_ne_bb, q_lt, q_le, q_gt, q_ge, q_un2, q_un3, q_un4, q_intO, q_len_l, q_len_t, q_len_s, q_abs, q_int_i, q_int_b, q_tup_l, q_tup_t, q_list_l, q_list_t, q_min, q_max, q_it_l, q_it_t, q_rng, q_enu_l, q_enu_t, q_rev, q_sl_l, q_sl_t, q_sl_s, q_slL, q_all, q_any, q_sum, q_sort_pp, q_and, q_or, q_ite, q_join, cond_true, cond_false, true_and, and_true, decide_eq_true_eq, decide_true, decide_false, p_un_pl, p_ix_pl0, p_ix_pl1, p_un_pp, p_ix_pp0, p_ix_pp1, p_mk, p_eq, p_ne, p_in, p_notIn, p_lt, e_all_lines' hp, range0]
  refine Eq.trans (propext (and_iff_right (by omega))) ?_
  have base : List.replicate ((List.range n.toNat).map fun (i : Nat) => PyData.int i).length ([] : List PyData) = (fun i => (List.range n.toNat).map fun (f : Nat) => (stp n ((linesOf n cs).take i) f).map PyData.int) 0 := by
    refine List.ext_getElem? fun i => ?_
    rw [List.length_map, List.length_range]
    by_cases h : i < n.toNat
    · rw [List.getElem?_replicate, if_pos h, List.getElem?_map, List.getElem?_range h]; rfl
    · rw [List.getElem?_replicate, if_neg h, List.getElem?_eq_none (by simpa using h)]
  rw [base, q_for_seq (linesOf n cs) ppD (fun i => (List.range n.toNat).map fun (f : Nat) => (stp n ((linesOf n cs).take i) f).map PyData.int) fun i p hp1 N => ?_]
  · simp only [q_add_ii, q_add_ss, q_add_ll, q_add_tt, q_addL, q_sub, q_mul, q_div, q_mod, q_neg, q_bool, q_eq_ii, q_eq_ss, q_eq_bb, q_ne_ii, q_ne_ss, q_ne_bb, q_lt, q_le, q_gt, q_ge, q_un2, q_un3, q_un4, q_intO, q_len_l, q_len_t, q_len_s, q_abs, q_int_i, q_int_b, q_tup_l, q_tup_t, q_list_l, q_list_t, q_min, q_max, q_it_l, q_it_t, q_rng, q_enu_l, q_enu_t, q_rev, q_sl_l, q_sl_t, q_sl_s, q_slL, q_all, q_any, q_sum, q_sort_pp, q_and, q_or, q_ite, q_join, cond_true, cond_false, true_and, and_true, decide_eq_true_eq, decide_true, decide_false, p_un_pl, p_ix_pl0, p_ix_pl1, p_un_pp, p_ix_pp0, p_ix_pp1, p_mk, p_eq, p_ne, p_in, p_notIn, p_lt, List.take_length]
    refine Eq.trans (propext (and_iff_right (by omega))) ?_
    rw [q_lc_map _ _ (fun (i : Nat) => PyData.list ((near n cs i).map .int)) fun f hf k s => ?_]
    · rfl
    · have hf := List.mem_range.mp hf
      rw [row_rg (by omega) (by omega), Int.toNat_natCast, q_sort_ints]
      rw [q_lc_map _ _ (fun s => PyData.int (((f : Int) + s) % n)) fun s _ k s => by simp only [q_add_ii, q_add_ss, q_add_ll, q_add_tt, q_addL, q_sub, q_mul, q_div, q_mod, q_neg, q_bool, q_eq_ii, q_eq_ss, q_eq_bb, q_ne_ii, q_ne_ss, q_ne_bb, q_lt, q_le, q_gt, q_ge, q_un2, q_un3, q_un4, q_intO, q_len_l, q_len_t, q_len_s, q_abs, q_int_i, q_int_b, q_tup_l, q_tup_t, q_list_l, q_list_t, q_min, q_max, q_it_l, q_it_t, q_rng, q_enu_l, q_enu_t, q_rev, q_sl_l, q_sl_t, q_sl_s, q_slL, q_all, q_any, q_sum, q_sort_pp, q_and, q_or, q_ite, q_join, cond_true, cond_false, true_and, and_true, decide_eq_true_eq, decide_true, decide_false, p_un_pl, p_ix_pl0, p_ix_pl1, p_un_pp, p_ix_pp0, p_ix_pp1, p_mk, p_eq, p_ne, p_in, p_notIn, p_lt, show 0 < n by omega]]
      rw [List.nil_append, ← stp_near hp f (by omega), List.map_map]
      rfl
  · have hi := (List.getElem?_eq_some_iff.mp hp1).1
    have pl := lok.lt p (List.mem_of_getElem? hp1)
    have b1 : ∀ f : Int, (stp n ((linesOf n cs).take i) f).length ≤ 2 * i := fun f => by
      have := stp_len hp ((linesOf n cs).take i) f
      rw [List.length_take] at this
      omega
    have c1 := b1 p.1
    have c2 := b1 p.2
    simp only [q_add_ii, q_add_ss, q_add_ll, q_add_tt, q_addL, q_sub, q_mul, q_div, q_mod, q_neg, q_bool, q_eq_ii, q_eq_ss, q_eq_bb, q_ne_ii, q_ne_ss, q_ne_bb, q_lt, q_le, q_gt, q_ge, q_un2, q_un3, q_un4, q_intO, q_len_l, q_len_t, q_len_s, q_abs, q_int_i, q_int_b, q_tup_l, q_tup_t, q_list_l, q_list_t, q_min, q_max, q_it_l, q_it_t, q_rng, q_enu_l, q_enu_t, q_rev, q_sl_l, q_sl_t, q_sl_s, q_slL, q_all, q_any, q_sum, q_sort_pp, q_and, q_or, q_ite, q_join, cond_true, cond_false, true_and, and_true, decide_eq_true_eq, decide_true, decide_false, p_un_pl, p_ix_pl0, p_ix_pl1, p_un_pp, p_ix_pp0, p_ix_pp1, p_mk, p_eq, p_ne, p_in, p_notIn, p_lt, show 0 < n by omega]
    rw [row_rg (by omega) (by omega), rowApp_rg (by omega) (by omega) (by rw [List.length_map, show ((p.1.toNat : Nat) : Int) = p.1 by omega]; omega)]
    have ne : p.2.toNat ≠ p.1.toNat := by omega
    rw [row_rg (by omega) (by omega), rowApp_rg (by omega) (by omega) (by
      rw [if_neg ne, List.length_map, show ((p.2.toNat : Nat) : Int) = p.2 by omega]; omega)]
    refine congrArg N (List.map_congr_left fun x hx => ?_)
    have et : stp n ((linesOf n cs).take (i + 1)) x = stp n ((linesOf n cs).take i) x ++ ((if p.1 = (x : Int) then [(p.2 - p.1) % n] else []) ++ (if p.2 = (x : Int) then [(p.1 - p.2) % n] else [])) := by
      unfold stp
      rw [List.take_succ, hp1, List.flatMap_append]
      simp
    rw [et, List.map_append]
    by_cases h1 : x = p.1.toNat
    · have h2 : x ≠ p.2.toNat := by omega
      rw [if_neg h2, if_pos h1, if_pos (by omega), if_neg (by omega)]
      simp
    · rw [if_neg h1, if_neg (show ¬ p.1 = (x : Int) by omega)]
      by_cases h2 : x = p.2.toNat
      · rw [if_pos h2, if_pos (by omega)]; simp
      · rw [if_neg h2, if_neg (by omega)]; simp
end
end Tx

namespace Tx
open PySem PySem.Spec PyProof.Rows L2 TL
@[irreducible] def f_middle_corners (plan : PyData) (place : PyData) (K : KD) (E : KX) : Prop :=
  un2 place fun top1 under2 =>
  f_neighbours plan (fun r4 =>
  ixM (.list r4) top1 fun r5 =>
  lstO r5 fun l6 =>
  indexM l6 under2 fun r7 =>
  modM r7 (.int 3) fun r8 =>
  lenM r5 fun r9 =>
  subM r7 r9 fun r10 =>
  addM r10 (.int 1) fun r11 =>
  modM r11 (.int 3) fun r12 =>
  K (.tuple [r8, r12])) E
def c_middle_corners : CT := fun args Φ Ψ => ∃ (plan : PyData) (place : PyData) (K : KD) (E : KX), args = [.d plan, .d place] ∧ f_middle_corners plan place K E ∧ (∀ r, K r → Φ (.rd r) args) ∧ ∀ c, E c → Ψ c args
@[irreducible] def f_middles (plan : PyData) (place : PyData) (K : KD) (E : KX) : Prop :=
  f_need_place plan place (fun r1 =>
  f_middle_corners plan place (fun r2 =>
  K r2) E) E
def c_middles : CT := fun args Φ Ψ => ∃ (plan : PyData) (place : PyData) (K : KD) (E : KX), args = [.d plan, .d place] ∧ f_middles plan place K E ∧ (∀ r, K r → Φ (.rd r) args) ∧ ∀ c, E c → Ψ c args
@[irreducible] def f__law_fan (l_plan_here : PyData) (l_face : PyData) (K : KL) (E : KX) : Prop :=
  f__law_tied l_plan_here (fun r2 =>
  ixM l_plan_here (.int 0) fun r3 =>
  rngM (.int 1) r3 fun xs4 =>
  lcM (fun l_step5 kp sk => addM l_face l_step5 fun r7 =>
  modM r7 r3 fun r8 =>
  inTM r2 (.tuple [l_face, r8]) fun b9 =>
  (b9 = true → (addM l_face l_step5 fun r10 =>
  modM r10 r3 fun r11 =>
  kp r11)) ∧ (b9 = false → sk)) (fun l6 =>
  K l6) xs4 []) E
def c__law_fan : CT := fun args Φ Ψ => ∃ (l_plan_here : PyData) (l_face : PyData) (K : KL) (E : KX), args = [.d l_plan_here, .d l_face] ∧ f__law_fan l_plan_here l_face K E ∧ (∀ r, K r → Φ (.nl r) args) ∧ ∀ c, E c → Ψ c args
@[irreducible] def f__law_middles (l_plan_here : PyData) (l_spot_here : PyData) (K : KD) (E : KX) : Prop :=
  ixM l_spot_here (.int 0) fun r1 =>
  f__law_fan l_plan_here r1 (fun r2 =>
  lstO (.list r2) fun l3 =>
  ixM l_spot_here (.int 1) fun r4 =>
  indexM l3 r4 fun r5 =>
  lenM (.list r2) fun r6 =>
  subM r6 (.int 1) fun r7 =>
  subM r7 r5 fun r8 =>
  modM r5 (.int 3) fun r9 =>
  mulM (.int 2) r8 fun r10 =>
  modM r10 (.int 3) fun r11 =>
  K (.tuple [r9, r11])) E
def c__law_middles : CT := fun args Φ Ψ => ∃ (l_plan_here : PyData) (l_spot_here : PyData) (K : KD) (E : KX), args = [.d l_plan_here, .d l_spot_here] ∧ f__law_middles l_plan_here l_spot_here K E ∧ (∀ r, K r → Φ (.rd r) args) ∧ ∀ c, E c → Ψ c args
@[irreducible] def f__law_spot (l_plan_here : PyData) (K : KD) (E : KX) : Prop :=
  f__law_spots l_plan_here (fun r1 =>
  lenM (.list r1) fun r2 =>
  f__law_pull r2 (fun r3 =>
  ixM (.list r1) r3 fun r4 =>
  K r4) E) E
def c__law_spot : CT := fun args Φ Ψ => ∃ (a_l_bag_here : Addr) (l_plan_here : PyData) (K : KD) (E : KX), args = [.bg a_l_bag_here, .d l_plan_here] ∧ f__law_spot l_plan_here K E ∧ (∀ r, K r → Φ (.rd r) args) ∧ ∀ c, E c → Ψ c args
@[irreducible] def f_law_k30 (script : PyData) (K : KD) (E : KX) : Prop :=
  f__law_pull (.int 3) (fun r1 =>
  ixM (.list [(.int 6), (.int 12), (.int 40)]) r1 fun r2 =>
  f__law_plan r2 (fun r3 =>
  f__law_spots r3 (fun r4 =>
  joinM (fun (Q : PyData → Prop) => lenM (.list r4) fun r5 =>
  gtM r5 (.int 42) fun b6 =>
  (b6 = true → (rngM (.int 0) (.int 30) fun xs10 =>
  lcM (fun l_turn11 kp sk => f__law_spot r3 (fun r13 =>
  kp r13) (fun _ => False)) (fun l12 =>
  Q (.list l12)) xs10 [])) ∧ (b6 = false → (Q (.list r4)))) (fun l_rows14 =>
  itM l_rows14 fun xs15 =>
  forM (fun l_spot_here17 (_ : Unit) N18 B19 => f_middles r3 l_spot_here17 (fun r21 =>
  f__law_middles r3 l_spot_here17 (fun r22 =>
  f__law_alike r21 r22 (fun r23 =>
  boolM r23 fun b24 =>
  ((!b24) = true → (K (.bool false))) ∧ ((!b24) = false → (andM (fun Q => ixM l_spot_here17 (.int 0) fun r29 =>
  addM r29 (.int 1) fun r30 =>
  ixM r3 (.int 0) fun r31 =>
  modM r30 r31 fun r32 =>
  ixM l_spot_here17 (.int 1) fun r33 =>
  eqM r32 r33 fun b34 =>
  Q b34) (fun Q => f_middles r3 l_spot_here17 (fun r35 =>
  ixM r35 (.int 0) fun r36 =>
  neM r36 (.int 0) fun b37 =>
  Q b37) E) fun b28 =>
  (b28 = true → (K (.bool false))) ∧ (b28 = false → (andM (fun Q => ixM l_spot_here17 (.int 1) fun r42 =>
  addM r42 (.int 1) fun r43 =>
  ixM r3 (.int 0) fun r44 =>
  modM r43 r44 fun r45 =>
  ixM l_spot_here17 (.int 0) fun r46 =>
  eqM r45 r46 fun b47 =>
  Q b47) (fun Q => f_middles r3 l_spot_here17 (fun r48 =>
  ixM r48 (.int 1) fun r49 =>
  neM r49 (.int 0) fun b50 =>
  Q b50) E) fun b41 =>
  (b41 = true → (K (.bool false))) ∧ (b41 = false → (N18 ()))))))) E) E) E) (fun (_ : Unit) =>
  K (.bool true)) xs15 ())) E) E) E
section
variable {K : KD} {Kl : KL} {E : KX} {Kb : KB} {n i j : Int} {cs : List (Int × Int)} {p q : Int × Int}
theorem q_ixr {m : Nat} {f : Nat → PyData} {a : Int} (h0 : 0 ≤ a) (h : a < m) : ixM (.list ((List.range m).map f)) (.int a) K = K (f a.toNat) := by
  show (match atI ((List.range m).map f) a with | some y => K y | none => False) = _
  rw [rg_at h0 h]
theorem shp_ints (L : List Int) : SeqAt.shaped (.list (L.map .int)) = true := by
  have h1 : ∀ M : List Int, PyData.canLayAll0 (M.map .int) = true ∧ PyData.depthAll (M.map .int) ≤ 0 := fun M => by
    induction M with
    | nil => exact ⟨rfl, Nat.zero_le _⟩
    | cons a M ih =>
      refine ⟨?_, ?_⟩
      · show (PyData.canLay0 (.int a) && PyData.canLayAll0 (M.map .int)) = true
        rw [ih.1]; rfl
      · show max (PyData.depth (.int a)) (PyData.depthAll (M.map .int)) ≤ 0
        exact Nat.max_le.mpr ⟨Nat.le_of_ble_eq_true rfl, ih.2⟩
  unfold SeqAt.shaped
  have e1 : PyData.canLay0 (.list (L.map .int)) = true := (h1 L).1
  have e2 : PyData.depth (.list (L.map .int)) ≤ 64 := by
    show PyData.depthAll (L.map .int) + 1 ≤ 64
    have := (h1 L).2
    omega
  rw [e1, decide_eq_true e2]
  rfl
theorem find_ints {L : List Int} (h : i ∈ L) : (L.map PyData.int).findIdx? (fun z => PyData.eqv z (.int i)) = some (L.idxOf i) := by
  have e : ∀ a b : Int, PyData.eqv (.int a) (.int b) = decide (a = b) := fun a b => rfl
  induction L with
  | nil => cases h
  | cons a L ih =>
    rw [List.map_cons, List.findIdx?_cons, e, List.idxOf_cons]
    by_cases z : a = i
    · subst z; simp
    · rw [ih ((List.mem_cons.mp h).resolve_left fun z2 => z z2.symm)]
      have z' : (a == i) = false := by simpa using z
      simp [z, z']
theorem q_lstO {xs : List PyData} : lstO (.list xs) Kl = Kl xs := rfl
theorem q_index {L : List Int} (h : i ∈ L) : indexM (L.map .int) (.int i) K = K (.int (L.idxOf i : Nat)) := by
  unfold indexM
  rw [find_ints h]
  exact propext (and_iff_right ⟨shp_ints L, rfl⟩)
theorem q_inT : inTM (tied (linesOf n cs)) (ppD p) Kb = Kb (tieB n cs p.1 p.2) := by
  show Kb (valP (tied (linesOf n cs)) (keyP p)).isSome = _
  refine congrArg Kb ?_
  unfold valP tied tieB
  generalize both (linesOf n cs) = L
  induction L with
  | nil => simp
  | cons a L ih =>
    rw [List.map_cons, List.find?_cons]
    by_cases e : a = p
    · subst e; simp
    · have : ¬ keyP a = keyP p := fun z => e (keyP_inj z)
      simp only [this, decide_false]
      rw [ih]
      have e' : ¬ (p.1, p.2) = a := fun z => e z.symm
      simp [e']
variable (hp : IsPlan n cs)
include hp
theorem mem_near {a b : Int} (h : tieB n cs a b = true) : b ∈ near n cs a := by
  obtain ⟨h1, h2, h3, h4, h5⟩ := tie_lt hp h
  unfold near
  have eg : ∃ k : Nat, k < n.toNat - 1 ∧ (a + k + 1) % n = b := by
    by_cases hab : a < b
    · exact ⟨(b - a - 1).toNat, by omega, by rw [show a + ((b - a - 1).toNat : Nat) + 1 = b by omega]; exact Int.emod_eq_of_lt h3 h4⟩
    · exact ⟨(b - a - 1 + n).toNat, by omega, by rw [show a + ((b - a - 1 + n).toNat : Nat) + 1 = b + n by omega, Int.add_emod_right]; exact Int.emod_eq_of_lt h3 h4⟩
  obtain ⟨k, k1, k2⟩ := eg
  exact List.mem_map.mpr ⟨k, List.mem_filter.mpr ⟨List.mem_range.mpr k1, by rw [k2]; exact h⟩, k2⟩
theorem near_len (a : Int) : (near n cs a).length ≤ 40 := by
  unfold near
  rw [List.length_map]
  have := List.length_filter_le (fun (k : Nat) => tieB n cs a ((a + k + 1) % n)) (List.range (n.toNat - 1))
  rw [List.length_range] at this
  have := hp.hi
  omega
theorem near_first {a b : Int} (h : tieB n cs a b = true) (e : (a + 1) % n = b) : (near n cs a).idxOf b = 0 := by
  have h3 := hp.lo
  unfold near
  obtain ⟨m, hm⟩ : ∃ m, n.toNat - 1 = m + 1 := ⟨n.toNat - 2, by omega⟩
  rw [hm, List.range_succ_eq_map, List.filter_cons]
  have e0 : (a + ((0 : Nat) : Int) + 1) % n = b := by rw [show a + ((0 : Nat) : Int) + 1 = a + 1 by omega]; exact e
  rw [if_pos (by rw [e0]; exact h), List.map_cons, e0, List.idxOf_cons]
  simp
theorem near_last {a b : Int} (h : tieB n cs a b = true) (e : (b + 1) % n = a) : (near n cs a).idxOf b + 1 = (near n cs a).length := by
  have h3 := hp.lo
  obtain ⟨h1, h2, h3', h4, h5⟩ := tie_lt hp h
  unfold near
  obtain ⟨m, hm⟩ : ∃ m, n.toNat - 1 = m + 1 := ⟨n.toNat - 2, by omega⟩
  have ev : ∀ k : Nat, k ≤ m → (a + k + 1) % n = if a + k + 1 < n then a + k + 1 else a + k + 1 - n := fun k hk => by
    split
    · exact Int.emod_eq_of_lt (by omega) (by omega)
    · rw [← Int.sub_emod_right, Int.emod_eq_of_lt (by omega) (by omega)]
  have eb : (b + 1) % n = if b + 1 < n then b + 1 else b + 1 - n := by
    split
    · exact Int.emod_eq_of_lt (by omega) (by omega)
    · rw [← Int.sub_emod_right, Int.emod_eq_of_lt (by omega) (by omega)]
  have em : (a + (m : Nat) + 1) % n = b := by
    rw [ev m (Nat.le_refl _)]
    rw [eb] at e
    split at e <;> split <;> omega
  rw [hm, List.range_succ, List.filter_append, List.filter_cons, em, if_pos h, List.filter_nil, List.map_append, List.map_cons, List.map_nil, em]
  have nb : ¬ b ∈ ((List.range m).filter fun (k : Nat) => tieB n cs a ((a + k + 1) % n)).map fun (k : Nat) => (a + k + 1) % n := by
    intro hb
    obtain ⟨k, hk, hkb⟩ := List.mem_map.mp hb
    have hk := List.mem_range.mp (List.mem_filter.mp hk).1
    rw [ev k (by omega)] at hkb
    rw [ev m (Nat.le_refl _)] at em
    split at hkb <;> split at em <;> omega
  rw [List.idxOf_append, if_neg nb, List.length_append]
  simp
theorem e__law_fan {f : Int} (h0 : 0 ≤ f) (h : f < n) : f__law_fan (plD n cs) (.int f) Kl E = Kl ((near n cs f).map .int) := by
  have h3 := hp.lo
  have h40 := hp.hi
  unfold f__law_fan
  simp only [q_add_ii, q_add_ss, q_add_ll, q_add_tt, q_addL, q_sub, q_mul, q_div, q_mod, q_neg, q_bool, q_eq_ii, q_eq_ss, q_eq_bb, q_ne_ii, q_ne_ss, q_ne_bb, q_lt, q_le, q_gt, q_ge, q_un2, q_un3, q_un4, q_intO, q_len_l, q_len_t, q_len_s, q_abs, q_int_i, q_int_b, q_tup_l, q_tup_t, q_list_l, q_list_t, q_min, q_max, q_it_l, q_it_t, q_rng, q_enu_l, q_enu_t, q_rev, q_sl_l, q_sl_t, q_sl_s, q_slL, q_all, q_any, q_sum, q_sort_pp, q_and, q_or, q_ite, q_join, cond_true, cond_false, true_and, and_true, decide_eq_true_eq, decide_true, decide_false, p_un_pl, p_ix_pl0, p_ix_pl1, p_un_pp, p_ix_pp0, p_ix_pp1, p_mk, p_eq, p_ne, p_in, p_notIn, p_lt, e__law_tied hp]
  refine Eq.trans (propext (and_iff_right (by omega))) ?_
  rw [range_map]
  rw [q_lc_fil _ _ (fun (k : Nat) => tieB n cs f ((f + k + 1) % n)) (fun (k : Nat) => PyData.int ((f + k + 1) % n)) fun k hk kp sk => ?_]
  · rw [List.nil_append]
    unfold near
    rw [List.map_map, show (n - 1).toNat = n.toNat - 1 by omega]
    rfl
  · simp only [q_add_ii, q_add_ss, q_add_ll, q_add_tt, q_addL, q_sub, q_mul, q_div, q_mod, q_neg, q_bool, q_eq_ii, q_eq_ss, q_eq_bb, q_ne_ii, q_ne_ss, q_ne_bb, q_lt, q_le, q_gt, q_ge, q_un2, q_un3, q_un4, q_intO, q_len_l, q_len_t, q_len_s, q_abs, q_int_i, q_int_b, q_tup_l, q_tup_t, q_list_l, q_list_t, q_min, q_max, q_it_l, q_it_t, q_rng, q_enu_l, q_enu_t, q_rev, q_sl_l, q_sl_t, q_sl_s, q_slL, q_all, q_any, q_sum, q_sort_pp, q_and, q_or, q_ite, q_join, cond_true, cond_false, true_and, and_true, decide_eq_true_eq, decide_true, decide_false, p_un_pl, p_ix_pl0, p_ix_pl1, p_un_pp, p_ix_pp0, p_ix_pp1, p_mk, p_eq, p_ne, p_in, p_notIn, p_lt, q_inT, show 0 < n by omega]
    rw [show f + (1 + (k : Int)) = f + k + 1 by omega]
/-- the rests of the counts ahead and behind -/
def mid (n : Int) (cs : List (Int × Int)) (p : Int × Int) : Int × Int := ((((near n cs p.1).idxOf p.2 : Nat) : Int) % 3, (((near n cs p.1).idxOf p.2 : Nat) - ((near n cs p.1).length : Int) + 1) % 3)
theorem e_middle_corners (h : tieB n cs p.1 p.2 = true) : f_middle_corners (plD n cs) (ppD p) K E = K (ppD (mid n cs p)) := by
  obtain ⟨h1, h2, h3', h4, h5⟩ := tie_lt hp h
  unfold f_middle_corners
  simp only [q_add_ii, q_add_ss, q_add_ll, q_add_tt, q_addL, q_sub, q_mul, q_div, q_mod, q_neg, q_bool, q_eq_ii, q_eq_ss, q_eq_bb, q_ne_ii, q_ne_ss, q_ne_bb, q_lt, q_le, q_gt, q_ge, q_un2, q_un3, q_un4, q_intO, q_len_l, q_len_t, q_len_s, q_abs, q_int_i, q_int_b, q_tup_l, q_tup_t, q_list_l, q_list_t, q_min, q_max, q_it_l, q_it_t, q_rng, q_enu_l, q_enu_t, q_rev, q_sl_l, q_sl_t, q_sl_s, q_slL, q_all, q_any, q_sum, q_sort_pp, q_and, q_or, q_ite, q_join, cond_true, cond_false, true_and, and_true, decide_eq_true_eq, decide_true, decide_false, p_un_pl, p_ix_pl0, p_ix_pl1, p_un_pp, p_ix_pp0, p_ix_pp1, p_mk, p_eq, p_ne, p_in, p_notIn, p_lt, e_neighbours hp]
  rw [q_ixr (by omega) (by omega), show ((p.1.toNat : Nat) : Int) = p.1 by omega]
  simp only [q_add_ii, q_add_ss, q_add_ll, q_add_tt, q_addL, q_sub, q_mul, q_div, q_mod, q_neg, q_bool, q_eq_ii, q_eq_ss, q_eq_bb, q_ne_ii, q_ne_ss, q_ne_bb, q_lt, q_le, q_gt, q_ge, q_un2, q_un3, q_un4, q_intO, q_len_l, q_len_t, q_len_s, q_abs, q_int_i, q_int_b, q_tup_l, q_tup_t, q_list_l, q_list_t, q_min, q_max, q_it_l, q_it_t, q_rng, q_enu_l, q_enu_t, q_rev, q_sl_l, q_sl_t, q_sl_s, q_slL, q_all, q_any, q_sum, q_sort_pp, q_and, q_or, q_ite, q_join, cond_true, cond_false, true_and, and_true, decide_eq_true_eq, decide_true, decide_false, p_un_pl, p_ix_pl0, p_ix_pl1, p_un_pp, p_ix_pp0, p_ix_pp1, p_mk, p_eq, p_ne, p_in, p_notIn, p_lt, q_lstO, q_index (mem_near hp h), List.length_map, show (0 : Int) < 3 by decide]
  rfl
theorem e_middles (h : tieB n cs p.1 p.2 = true) : f_middles (plD n cs) (ppD p) K E = K (ppD (mid n cs p)) := by
  unfold f_middles
  simp only [e_need_place hp, show p ∈ both (linesOf n cs) from of_decide_eq_true h, e_middle_corners hp h, decide_true, cond_true]
theorem e__law_middles (h : tieB n cs p.1 p.2 = true) : f__law_middles (plD n cs) (ppD p) K E = K (ppD (mid n cs p)) := by
  obtain ⟨h1, h2, h3', h4, h5⟩ := tie_lt hp h
  have hi : (near n cs p.1).idxOf p.2 < (near n cs p.1).length := List.idxOf_lt_length_of_mem (mem_near hp h)
  have hl := near_len hp p.1
  unfold f__law_middles
  simp only [q_add_ii, q_add_ss, q_add_ll, q_add_tt, q_addL, q_sub, q_mul, q_div, q_mod, q_neg, q_bool, q_eq_ii, q_eq_ss, q_eq_bb, q_ne_ii, q_ne_ss, q_ne_bb, q_lt, q_le, q_gt, q_ge, q_un2, q_un3, q_un4, q_intO, q_len_l, q_len_t, q_len_s, q_abs, q_int_i, q_int_b, q_tup_l, q_tup_t, q_list_l, q_list_t, q_min, q_max, q_it_l, q_it_t, q_rng, q_enu_l, q_enu_t, q_rev, q_sl_l, q_sl_t, q_sl_s, q_slL, q_all, q_any, q_sum, q_sort_pp, q_and, q_or, q_ite, q_join, cond_true, cond_false, true_and, and_true, decide_eq_true_eq, decide_true, decide_false, p_un_pl, p_ix_pl0, p_ix_pl1, p_un_pp, p_ix_pp0, p_ix_pp1, p_mk, p_eq, p_ne, p_in, p_notIn, p_lt, e__law_fan hp h1 h2, q_lstO, q_index (mem_near hp h), List.length_map, show (0 : Int) < 3 by decide]
  refine Eq.trans (propext (and_iff_right (by unfold CMul; omega))) ?_
  refine congrArg K (congrArg ppD (Prod.ext rfl ?_))
  show 2 * (((near n cs p.1).length : Int) - 1 - (((near n cs p.1).idxOf p.2 : Nat) : Int)) % 3 = _
  unfold mid
  simp only
  omega
theorem i__law_spot (hK : ∀ p, p ∈ both (linesOf n cs) → K (ppD p)) : f__law_spot (plD n cs) K E := by
  unfold f__law_spot
  have hl := spots_len hp
  have h3 := hp.lo
  have h40 := hp.hi
  simp only [q_add_ii, q_add_ss, q_add_ll, q_add_tt, q_addL, q_sub, q_mul, q_div, q_mod, q_neg, q_bool, q_eq_ii, q_eq_ss, q_eq_bb, q_ne_ii, q_ne_ss, q_ne_bb, q_lt, q_le, q_gt, q_ge, q_un2, q_un3, q_un4, q_intO, q_len_l, q_len_t, q_len_s, q_abs, q_int_i, q_int_b, q_tup_l, q_tup_t, q_list_l, q_list_t, q_min, q_max, q_it_l, q_it_t, q_rng, q_enu_l, q_enu_t, q_rev, q_sl_l, q_sl_t, q_sl_s, q_slL, q_all, q_any, q_sum, q_sort_pp, q_and, q_or, q_ite, q_join, cond_true, cond_false, true_and, and_true, decide_eq_true_eq, decide_true, decide_false, p_un_pl, p_ix_pl0, p_ix_pl1, p_un_pp, p_ix_pp0, p_ix_pp1, p_mk, p_eq, p_ne, p_in, p_notIn, p_lt, e__law_spots hp, List.length_map]
  rw [e__law_pull (by omega) (by omega)]
  intro r r0 r1
  obtain ⟨x, hx⟩ : ∃ x, (spots n cs)[r.toNat]? = some x := ⟨_, List.getElem?_eq_getElem (show r.toNat < (spots n cs).length by omega)⟩
  show (match atI ((spots n cs).map ppD) r with | some y => K y | none => False)
  rw [at_nat r0 (by rw [List.getElem?_map, hx]; rfl)]
  exact hK x ((sortPP_perm _).mem_iff.mp (List.mem_of_getElem? hx))
omit hp in
theorem lc_any {bd : PyData → (PyData → Prop) → Prop → Prop} {K : List PyData → Prop} (S : Int × Int → Prop) : ∀ (xs : List PyData) (h : ∀ a ∈ xs, ∀ (k : PyData → Prop) (s : Prop), (∀ p, S p → k (ppD p)) → bd a k s) (acc : List PyData) (hK : ∀ L : List (Int × Int), (∀ p ∈ L, S p) → L.length ≤ xs.length → K (acc ++ L.map ppD)), lcM bd K xs acc
  | [], _, acc, hK => by have := hK [] (fun _ h => by cases h) (Nat.le_refl _); rw [List.map_nil, List.append_nil] at this; exact this
  | x :: xs, h, acc, hK => by
    show bd x _ _
    refine h x (List.mem_cons_self ..) _ _ fun p hp => ?_
    refine lc_any S xs (fun a ha => h a (List.mem_cons_of_mem _ ha)) _ fun L hL hl => ?_
    have := hK (p :: L) (fun q hq => by rcases List.mem_cons.mp hq with rfl | hq; exact hp; exact hL q hq) (by simp; omega)
    rwa [List.map_cons, List.append_cons] at this
omit hp in
theorem joinM_of {bd : (PyData → Prop) → Prop} {K : PyData → Prop} (S : List (Int × Int) → Prop) (h1 : ∀ Q : PyData → Prop, (∀ L, S L → Q (.list (L.map ppD))) → bd Q) (h2 : ∀ L, S L → K (.list (L.map ppD))) : joinM bd K := h1 K h2
end
theorem e_law_k30 (ns : List Int) (h : ns.length ≤ 63) : f_law_k30 (.list (ns.map .int)) (fun r => r = .bool true) (fun _ => False) := by
  have hsl := sizeLine_eq
  unfold f_law_k30
  rw [e__law_pull (by decide) (by decide)]
  intro r r0 r1
  have er : r = 0 ∨ r = 1 ∨ r = 2 := by omega
  have main : ∀ m : Int, 3 ≤ m → m ≤ 40 → ∀ K' : KD, (∀ n cs, IsPlan n cs → K' (plD n cs)) → f__law_plan (.int m) K' (fun _ => False) := fun m h3 h40 K' hK' => by
    rw [e__law_plan h3 h40]
    exact fun n hn hnm l hl => hK' _ _ (arcs_plan hn (by omega) hl)
  have pull : ∀ K' : KD, (∀ n cs, IsPlan n cs → K' (plD n cs)) → ixM (.list [(.int 6), (.int 12), (.int 40)]) (.int r) fun r2 => f__law_plan r2 K' (fun _ => False) := fun K' hK' => by
    rcases er with rfl | rfl | rfl <;> exact main _ (by decide) (by decide) _ hK'
  refine pull _ fun n cs hp => ?_
  have h3 := hp.lo
  have h40 := hp.hi
  rw [e__law_spots hp]
  have sm : ∀ p, p ∈ spots n cs → p ∈ both (linesOf n cs) := fun p hp1 => (sortPP_perm _).mem_iff.mp hp1
  have ok := fun p : Int × Int => okD_p 7 p
  refine joinM_of (fun L => ∀ p ∈ L, p ∈ both (linesOf n cs)) (fun Q hQ => ?_) fun L hL => ?_
  · simp only [q_add_ii, q_add_ss, q_add_ll, q_add_tt, q_addL, q_sub, q_mul, q_div, q_mod, q_neg, q_bool, q_eq_ii, q_eq_ss, q_eq_bb, q_ne_ii, q_ne_ss, q_ne_bb, q_lt, q_le, q_gt, q_ge, q_un2, q_un3, q_un4, q_intO, q_len_l, q_len_t, q_len_s, q_abs, q_int_i, q_int_b, q_tup_l, q_tup_t, q_list_l, q_list_t, q_min, q_max, q_it_l, q_it_t, q_rng, q_enu_l, q_enu_t, q_rev, q_sl_l, q_sl_t, q_sl_s, q_slL, q_all, q_any, q_sum, q_sort_pp, q_and, q_or, q_ite, q_join, cond_true, cond_false, true_and, and_true, decide_eq_true_eq, decide_true, decide_false, p_un_pl, p_ix_pl0, p_ix_pl1, p_un_pp, p_ix_pp0, p_ix_pp1, p_mk, p_eq, p_ne, p_in, p_notIn, p_lt, List.length_map]
    cases decide (42 < ((spots n cs).length : Int)) with
    | false => exact hQ _ sm
    | true =>
      refine ⟨by decide, lc_any (fun p => p ∈ both (linesOf n cs)) _ (fun a ha k s hk => ?_) [] fun L hL hl => hQ L hL⟩
      exact i__law_spot hp hk
  · simp only [q_add_ii, q_add_ss, q_add_ll, q_add_tt, q_addL, q_sub, q_mul, q_div, q_mod, q_neg, q_bool, q_eq_ii, q_eq_ss, q_eq_bb, q_ne_ii, q_ne_ss, q_ne_bb, q_lt, q_le, q_gt, q_ge, q_un2, q_un3, q_un4, q_intO, q_len_l, q_len_t, q_len_s, q_abs, q_int_i, q_int_b, q_tup_l, q_tup_t, q_list_l, q_list_t, q_min, q_max, q_it_l, q_it_t, q_rng, q_enu_l, q_enu_t, q_rev, q_sl_l, q_sl_t, q_sl_s, q_slL, q_all, q_any, q_sum, q_sort_pp, q_and, q_or, q_ite, q_join, cond_true, cond_false, true_and, and_true, decide_eq_true_eq, decide_true, decide_false, p_un_pl, p_ix_pl0, p_ix_pl1, p_un_pp, p_ix_pp0, p_ix_pp1, p_mk, p_eq, p_ne, p_in, p_notIn, p_lt]
    rw [q_for_all (R := True) _ _ (fun _ => true) fun p hp1 N => ?_]
    · simp
    · have hm := hL p hp1
      have ht : tieB n cs p.1 p.2 = true := decide_eq_true hm
      obtain ⟨h1, h2, h3', h4, h5⟩ := tie_lt hp ht
      have f1 : (decide ((p.1 + 1) % n = p.2) && !decide ((mid n cs p).1 = 0)) = false := by
        by_cases e : (p.1 + 1) % n = p.2
        · have := near_first hp ht e
          simp [mid, this]
        · simp [e]
      have f2 : (decide ((p.2 + 1) % n = p.1) && !decide ((mid n cs p).2 = 0)) = false := by
        by_cases e : (p.2 + 1) % n = p.1
        · have := near_last hp ht e
          have e2 : (mid n cs p).2 = 0 := by
            unfold mid
            simp only
            omega
          simp [e2]
        · simp [e]
      simp only [q_add_ii, q_add_ss, q_add_ll, q_add_tt, q_addL, q_sub, q_mul, q_div, q_mod, q_neg, q_bool, q_eq_ii, q_eq_ss, q_eq_bb, q_ne_ii, q_ne_ss, q_ne_bb, q_lt, q_le, q_gt, q_ge, q_un2, q_un3, q_un4, q_intO, q_len_l, q_len_t, q_len_s, q_abs, q_int_i, q_int_b, q_tup_l, q_tup_t, q_list_l, q_list_t, q_min, q_max, q_it_l, q_it_t, q_rng, q_enu_l, q_enu_t, q_rev, q_sl_l, q_sl_t, q_sl_s, q_slL, q_all, q_any, q_sum, q_sort_pp, q_and, q_or, q_ite, q_join, cond_true, cond_false, true_and, and_true, decide_eq_true_eq, decide_true, decide_false, p_un_pl, p_ix_pl0, p_ix_pl1, p_un_pp, p_ix_pp0, p_ix_pp1, p_mk, p_eq, p_ne, p_in, p_notIn, p_lt, e_middles hp ht, e__law_middles hp ht, e__law_alike (ok _), show 0 < n by omega, Bool.not_true]
      rw [f1]
      simp only [q_add_ii, q_add_ss, q_add_ll, q_add_tt, q_addL, q_sub, q_mul, q_div, q_mod, q_neg, q_bool, q_eq_ii, q_eq_ss, q_eq_bb, q_ne_ii, q_ne_ss, q_ne_bb, q_lt, q_le, q_gt, q_ge, q_un2, q_un3, q_un4, q_intO, q_len_l, q_len_t, q_len_s, q_abs, q_int_i, q_int_b, q_tup_l, q_tup_t, q_list_l, q_list_t, q_min, q_max, q_it_l, q_it_t, q_rng, q_enu_l, q_enu_t, q_rev, q_sl_l, q_sl_t, q_sl_s, q_slL, q_all, q_any, q_sum, q_sort_pp, q_and, q_or, q_ite, q_join, cond_true, cond_false, true_and, and_true, decide_eq_true_eq, decide_true, decide_false, p_un_pl, p_ix_pl0, p_ix_pl1, p_un_pp, p_ix_pp0, p_ix_pp1, p_mk, p_eq, p_ne, p_in, p_notIn, p_lt]
      rw [f2]
      simp only [q_add_ii, q_add_ss, q_add_ll, q_add_tt, q_addL, q_sub, q_mul, q_div, q_mod, q_neg, q_bool, q_eq_ii, q_eq_ss, q_eq_bb, q_ne_ii, q_ne_ss, q_ne_bb, q_lt, q_le, q_gt, q_ge, q_un2, q_un3, q_un4, q_intO, q_len_l, q_len_t, q_len_s, q_abs, q_int_i, q_int_b, q_tup_l, q_tup_t, q_list_l, q_list_t, q_min, q_max, q_it_l, q_it_t, q_rng, q_enu_l, q_enu_t, q_rev, q_sl_l, q_sl_t, q_sl_s, q_slL, q_all, q_any, q_sum, q_sort_pp, q_and, q_or, q_ite, q_join, cond_true, cond_false, true_and, and_true, decide_eq_true_eq, decide_true, decide_false, p_un_pl, p_ix_pl0, p_ix_pl1, p_un_pp, p_ix_pp0, p_ix_pp1, p_mk, p_eq, p_ne, p_in, p_notIn, p_lt]
end Tx

namespace Tx
open PySem PySem.Spec PyProof.Rows L2 TL
/-! the tree of arcs that a drawn plan has -/
theorem Arcs.fill {s e : Int} {l : List (Int × Int)} (h : Arcs s e l) : ∀ p ∈ (s, e) :: l, 1 < p.2 - p.1 → ∃ m, p.1 < m ∧ m < p.2 ∧ (p.1, m) ∈ (s, e) :: l ∧ (m, p.2) ∈ (s, e) :: l := by
  induction h with
  | leaf h =>
    intro p hp hw
    have := List.mem_singleton.mp hp
    subst this
    simp only at hw; omega
  | @node s m e a b h1 h2 _ _ ia ib =>
    intro p hp hw
    have la : ∀ q, q ∈ (s, m) :: a → q ∈ (s, e) :: (s, m) :: (m, e) :: (a ++ b) := fun q hq => by
      rcases List.mem_cons.mp hq with rfl | hq <;> simp [*]
    have lb : ∀ q, q ∈ (m, e) :: b → q ∈ (s, e) :: (s, m) :: (m, e) :: (a ++ b) := fun q hq => by
      rcases List.mem_cons.mp hq with rfl | hq <;> simp [*]
    have go : p = (s, e) ∨ p ∈ (s, m) :: a ∨ p ∈ (m, e) :: b := by
      simp only [List.mem_cons, List.mem_append] at hp ⊢
      rcases hp with h | h | h | h | h <;> simp [h]
    rcases go with rfl | hq | hq
    · exact ⟨m, h1, h2, la _ (List.mem_cons_self ..), lb _ (List.mem_cons_self ..)⟩
    · obtain ⟨k, k1, k2, k3, k4⟩ := ia p hq hw
      exact ⟨k, k1, k2, la _ k3, la _ k4⟩
    · obtain ⟨k, k1, k2, k3, k4⟩ := ib p hq hw
      exact ⟨k, k1, k2, lb _ k3, lb _ k4⟩
theorem Arcs.unit {s e : Int} {l : List (Int × Int)} (h : Arcs s e l) (hs : s < e) : ∀ x, s ≤ x → x < e → (x, x + 1) ∈ (s, e) :: l := by
  induction h with
  | @leaf s e h =>
    intro x h1 h2
    rw [show x = s by omega, show s + 1 = e by omega]
    exact List.mem_cons_self ..
  | @node s m e a b h1 h2 _ _ ia ib =>
    intro x x1 x2
    by_cases hx : x < m
    · have := ia h1 x x1 hx
      simp only [List.mem_cons, List.mem_append] at this ⊢
      rcases this with h | h <;> simp [h]
    · have := ib h2 x (by omega) x2
      simp only [List.mem_cons, List.mem_append] at this ⊢
      rcases this with h | h <;> simp [h]
theorem mem_lines {n : Int} {cs : List (Int × Int)} {p : Int × Int} (h : 3 ≤ n) : p ∈ linesOf n cs ↔ (0 ≤ p.1 ∧ p.2 = p.1 + 1 ∧ p.2 < n) ∨ p = (0, n - 1) ∨ p ∈ cs := by
  unfold linesOf
  rw [(sortPP_perm _).mem_iff, List.mem_append]
  unfold sides
  rw [List.mem_append, List.mem_map, List.mem_singleton]
  refine ⟨fun z => ?_, fun z => ?_⟩
  · rcases z with (⟨i, hi, rfl⟩ | z) | z
    · have := List.mem_range.mp hi
      exact .inl ⟨by simp, rfl, by simp only; omega⟩
    · exact .inr (.inl z)
    · exact .inr (.inr z)
  · rcases z with ⟨z1, z2, z3⟩ | z | z
    · exact .inl (.inl ⟨p.1.toNat, List.mem_range.mpr (by omega), Prod.ext (by simp only; omega) (by simp only; omega)⟩)
    · exact .inl (.inr z)
    · exact .inr z
section
variable {n : Int} {l : List (Int × Int)}
theorem mem_plan {c : Int × Int} : c ∈ planOf n l ↔ ∃ p ∈ l, wide p = true ∧ nrm n p = c := by
  unfold planOf
  rw [(sortPP_perm _).mem_iff, List.mem_map]
  refine ⟨fun ⟨p, h1, h2⟩ => ⟨p, (List.mem_filter.mp h1).1, (List.mem_filter.mp h1).2, h2⟩, fun ⟨p, h1, h2, h3⟩ => ⟨p, List.mem_filter.mpr ⟨h1, h2⟩, h3⟩⟩
theorem nrm_in {p : Int × Int} (h1 : 1 ≤ p.1) (h2 : p.1 < p.2) (h3 : p.2 < n) : nrm n p = p := by
  unfold nrm
  rw [Int.emod_eq_of_lt (by omega) (by omega), if_neg (by omega), if_pos (by omega)]
theorem nrm_top {p : Int × Int} (h1 : 1 ≤ p.1) (h3 : p.2 = n) : nrm n p = (0, p.1) := by
  unfold nrm
  rw [h3, Int.emod_self, if_pos (by omega), if_neg (by omega)]
/-- lines of a drawn plan: the arcs, n read as 0 -/
theorem tie_arc (h3 : 3 ≤ n) (h : Arcs 1 n l) {x y : Int} (hx : 1 ≤ x) (hy : x < y) (hn : y ≤ n) : tieB n (planOf n l) x (y % n) = true ↔ (x, y) ∈ (1, n) :: l := by
  have hn1 : (1 : Int) < n := by omega
  have hw := h.within hn1
  have hu := h.unit hn1
  unfold tieB
  rw [decide_eq_true_iff]
  have mb : ∀ a b : Int, (a, b) ∈ both (linesOf n (planOf n l)) ↔ (a, b) ∈ linesOf n (planOf n l) ∨ (b, a) ∈ linesOf n (planOf n l) := fun a b => by
    unfold both
    rw [List.mem_flatMap]
    refine ⟨fun ⟨p, q1, q2⟩ => ?_, fun q => ?_⟩
    · have q2 : (a, b) = p ∨ (a, b) = swp p := by simpa using q2
      rcases q2 with z | z
      · exact .inl (z ▸ q1)
      · have : p = (b, a) := by
          unfold swp at z
          exact Prod.ext (congrArg Prod.snd z).symm (congrArg Prod.fst z).symm
        exact .inr (this ▸ q1)
    · rcases q with z | z
      · exact ⟨_, z, by simp⟩
      · exact ⟨_, z, by simp [swp]⟩
  rw [mb, mem_lines h3, mem_lines h3, mem_plan, mem_plan]
  by_cases e : y = n
  · subst e
    rw [Int.emod_self]
    refine ⟨fun z => ?_, fun z => ?_⟩
    · rcases z with (⟨z1, z2, z3⟩ | z | ⟨p, p1, p2, p3⟩) | (⟨z1, z2, z3⟩ | z | ⟨p, p1, p2, p3⟩)
      · simp only at z2; omega
      · have := congrArg Prod.fst z; simp only at this; omega
      · have w := hw p p1
        by_cases pe : p.2 = y
        · rw [nrm_top (by omega) pe] at p3
          have := congrArg Prod.fst p3; simp only at this; omega
        · rw [nrm_in (by omega) (by omega) (by omega)] at p3
          have := congrArg Prod.snd p3; simp only at this; omega
      · simp only at z2
        rw [show x = 1 by omega]
        exact List.mem_cons_self ..
      · have := congrArg Prod.snd z
        simp only at this
        have q := hu x hx hy
        rwa [show x + 1 = y by omega] at q
      · have w := hw p p1
        by_cases pe : p.2 = y
        · rw [nrm_top (by omega) pe] at p3
          have := congrArg Prod.snd p3
          simp only at this
          rw [show (x, y) = p from Prod.ext this.symm pe.symm]
          exact List.mem_cons_of_mem _ p1
        · rw [nrm_in (by omega) (by omega) (by omega)] at p3
          have := congrArg Prod.fst p3; simp only at this; omega
    · right
      rcases List.mem_cons.mp z with z | z
      · have := congrArg Prod.fst z
        simp only at this
        exact .inl ⟨Int.le_refl _, by simp only; omega, by simp only; omega⟩
      · have w := hw _ z
        simp only at w
        by_cases wd : y - x > 1
        · exact .inr (.inr ⟨_, z, decide_eq_true wd, nrm_top hx rfl⟩)
        · exact .inr (.inl (Prod.ext rfl (by simp only; omega)))
  · rw [Int.emod_eq_of_lt (by omega) (by omega)]
    refine ⟨fun z => ?_, fun z => ?_⟩
    · rcases z with (⟨z1, z2, z3⟩ | z | ⟨p, p1, p2, p3⟩) | (⟨z1, z2, z3⟩ | z | ⟨p, p1, p2, p3⟩)
      · simp only at z2
        rw [z2]
        exact hu x hx (by omega)
      · have := congrArg Prod.fst z; simp only at this; omega
      · have w := hw p p1
        by_cases pe : p.2 = n
        · rw [nrm_top (by omega) pe] at p3
          have := congrArg Prod.fst p3; simp only at this; omega
        · rw [nrm_in (by omega) (by omega) (by omega)] at p3
          rw [← p3]
          exact List.mem_cons_of_mem _ p1
      · simp only at z2; omega
      · have := congrArg Prod.fst z; simp only at this; omega
      · have w := hw p p1
        by_cases pe : p.2 = n
        · rw [nrm_top (by omega) pe] at p3
          have := congrArg Prod.fst p3; simp only at this; omega
        · rw [nrm_in (by omega) (by omega) (by omega)] at p3
          have a1 := congrArg Prod.fst p3
          have a2 := congrArg Prod.snd p3
          simp only at a1 a2; omega
    · left
      rcases List.mem_cons.mp z with z | z
      · have := congrArg Prod.snd z; simp only at this; omega
      · have w := hw _ z
        simp only at w
        by_cases wd : y - x > 1
        · exact .inr (.inr ⟨_, z, decide_eq_true wd, nrm_in hx hy (by simp only; omega)⟩)
        · exact .inl ⟨by simp only; omega, by simp only; omega, by simp only; omega⟩
theorem tie_sym {cs : List (Int × Int)} {a b : Int} : tieB n cs a b = tieB n cs b a := by
  unfold tieB
  refine decide_eq_decide.mpr ?_
  unfold both
  simp only [List.mem_flatMap, List.mem_cons, List.not_mem_nil, or_false]
  have go : ∀ a b : Int, (∃ p, p ∈ linesOf n cs ∧ ((a, b) = p ∨ (a, b) = swp p)) → ∃ p, p ∈ linesOf n cs ∧ ((b, a) = p ∨ (b, a) = swp p) := fun a b ⟨p, h1, h2⟩ => by
    refine ⟨p, h1, ?_⟩
    rcases h2 with h | h
    · right; rw [← h]; rfl
    · left; unfold swp at h; exact Prod.ext (congrArg Prod.snd h) (congrArg Prod.fst h)
  exact ⟨go a b, go b a⟩
/-- the first corner between s and e (counted from s + 1 on) that has a line with both -/
def corJ (n : Int) (cs : List (Int × Int)) (s e : Int) : Option Nat := (List.range (e - s - 1).toNat).find? fun (j : Nat) => tieB n cs s (s + j + 1) && tieB n cs (s + j + 1) (e % n)
theorem corJ_some (h3 : 3 ≤ n) (h : Arcs 1 n l) {s e : Int} (ha : (s, e) ∈ (1, n) :: l) (hw : 1 < e - s) : ∃ j : Nat, corJ n (planOf n l) s e = some j ∧ (j : Int) + 1 < e - s ∧ (s, s + j + 1) ∈ (1, n) :: l ∧ (s + j + 1, e) ∈ (1, n) :: l := by
  have hb : 1 ≤ s ∧ s < e ∧ e ≤ n := by
    rcases List.mem_cons.mp ha with z | z
    · have a1 := congrArg Prod.fst z
      have a2 := congrArg Prod.snd z
      simp only at a1 a2; omega
    · have := h.within (by omega) _ z; simp only at this; omega
  obtain ⟨m, m1, m2, m3, m4⟩ := h.fill _ ha hw
  simp only at m1 m2 m3 m4
  have key : ∀ j : Nat, (j : Int) + 1 < e - s → ((tieB n (planOf n l) s (s + j + 1) && tieB n (planOf n l) (s + j + 1) (e % n)) = true ↔ (s, s + j + 1) ∈ (1, n) :: l ∧ (s + j + 1, e) ∈ (1, n) :: l) := fun j hj => by
    rw [Bool.and_eq_true_iff, ← tie_arc h3 h (x := s) (y := s + j + 1) (by omega) (by omega) (by omega), ← tie_arc h3 h (x := s + j + 1) (y := e) (by omega) (by omega) (by omega), Int.emod_eq_of_lt (a := s + (j : Int) + 1) (by omega) (by omega)]
  cases e0 : corJ n (planOf n l) s e with
  | none =>
    unfold corJ at e0
    have := List.find?_eq_none.mp e0 (m - s - 1).toNat (List.mem_range.mpr (by omega))
    refine absurd ((key _ (by omega)).mpr ?_) this
    rw [show s + ((m - s - 1).toNat : Int) + 1 = m by omega]
    exact ⟨m3, m4⟩
  | some j =>
    unfold corJ at e0
    have h1 := List.find?_some e0
    have h2 := List.mem_range.mp (List.mem_of_find?_eq_some e0)
    exact ⟨j, rfl, by omega, (key j (by omega)).mp h1⟩
end
end Tx

namespace Tx
open PySem PySem.Spec PyProof.Rows L2 TL
@[irreducible] def f_between (faces : PyData) (start : PyData) (corner : PyData) (end_ : PyData) (K : KD) (E : KX) : Prop :=
  subM corner start fun r1 =>
  modM r1 faces fun r2 =>
  andM (fun Q => ltM (.int 0) r2 Q) (fun Q => subM end_ start fun r5 =>
  modM r5 faces fun r6 =>
  ltM r2 r6 Q) fun b3 =>
  K (.bool b3)
def c_between : CT := fun args Φ Ψ => ∃ (faces : PyData) (start : PyData) (corner : PyData) (end_ : PyData) (K : KD) (E : KX), args = [.d faces, .d start, .d corner, .d end_] ∧ f_between faces start corner end_ K E ∧ (∀ r, K r → Φ (.rd r) args) ∧ ∀ c, E c → Ψ c args
@[irreducible] def f_part_corner (faces : PyData) (near : PyData) (start : PyData) (end_ : PyData) (K : KD) (E : KX) : Prop :=
  modM start faces fun r2 =>
  ixM near r2 fun r3 =>
  itM r3 fun xs1 =>
  forM (fun corner5 (_ : Unit) N6 B7 => andM (fun Q => modM end_ faces fun r10 =>
  ixM near r10 fun r11 =>
  inM corner5 r11 fun b12 =>
  Q b12) (fun Q => modM start faces fun r13 =>
  modM end_ faces fun r14 =>
  f_between faces r13 corner5 r14 (fun r15 =>
  boolM r15 fun b16 =>
  Q b16) E) fun b9 =>
  (b9 = true → (subM corner5 start fun r20 =>
  modM r20 faces fun r21 =>
  addM start r21 fun r22 =>
  K r22)) ∧ (b9 = false → (N6 ()))) (fun (_ : Unit) =>
  K PyData.none) xs1 ()
def c_part_corner : CT := fun args Φ Ψ => ∃ (faces : PyData) (near : PyData) (start : PyData) (end_ : PyData) (K : KD) (E : KX), args = [.d faces, .d near, .d start, .d end_] ∧ f_part_corner faces near start end_ K E ∧ (∀ r, K r → Φ (.rd r) args) ∧ ∀ c, E c → Ψ c args
@[irreducible] def f_put_down_s (rec : PyData → PyData → PyData → PyData → KD → KX → Prop) (faces : PyData) (near : PyData) (arc : PyData) (crossed : PyData) (K : KD) (E : KX) : Prop :=
  un2 arc fun start1 end_2 =>
  subM end_2 start1 fun r4 =>
  eqM r4 (.int 1) fun b5 =>
  (b5 = true → (K (.list [start1]))) ∧ (b5 = false → (f_part_corner faces near start1 end_2 (fun r9 =>
  boolM crossed fun b10 =>
  rec faces near (.tuple [start1, r9]) (.bool (!b10)) (fun r11 =>
  boolM crossed fun b12 =>
  rec faces near (.tuple [r9, end_2]) (.bool (!b12)) (fun r13 =>
  boolM crossed fun b14 =>
  (b14 = true → (addM r13 r11 fun r18 =>
  K r18)) ∧ (b14 = false → (addM r11 r13 fun r19 =>
  K r19))) E) E) E))
def f_put_down : Nat → PyData → PyData → PyData → PyData → KD → KX → Prop
  | 0 => fun _ _ _ _ _ _ => False
  | n + 1 => f_put_down_s (f_put_down n)
def c_put_down (n : Nat) : CT := fun args Φ Ψ => ∃ (faces : PyData) (near : PyData) (arc : PyData) (crossed : PyData) (K : KD) (E : KX), args = [.d faces, .d near, .d arc, .d crossed] ∧ f_put_down n faces near arc crossed K E ∧ (∀ r, K r → Φ (.rd r) args) ∧ ∀ c, E c → Ψ c args
@[irreducible] def f_order_of (plan : PyData) (K : KL) (E : KX) : Prop :=
  ixM plan (.int 0) fun r1 =>
  f_neighbours plan (fun r2 =>
  f_put_down 64 r1 (.list r2) (.tuple [(.int 1), r1]) (.bool false) (fun r3 =>
  addLM (.list [(.int 0)]) r3 fun l4 =>
  K l4) E) E
def c_order_of : CT := fun args Φ Ψ => ∃ (plan : PyData) (K : KL) (E : KX), args = [.d plan] ∧ f_order_of plan K E ∧ (∀ r, K r → Φ (.nl r) args) ∧ ∀ c, E c → Ψ c args
@[irreducible] def f_strip_order (plan : PyData) (K : KL) (E : KX) : Prop :=
  f_need_plan plan (fun r1 =>
  f_order_of plan (fun r2 =>
  K r2) E) E
def c_strip_order : CT := fun args Φ Ψ => ∃ (plan : PyData) (K : KL) (E : KX), args = [.d plan] ∧ f_strip_order plan K E ∧ (∀ r, K r → Φ (.nl r) args) ∧ ∀ c, E c → Ψ c args
@[irreducible] def f__law_going (l_faces : PyData) (l_start : PyData) (l_end : PyData) (K : KL) (E : KX) : Prop :=
  addM l_start (.int 1) fun r2 =>
  modM r2 l_faces fun r3 =>
  ∃ n : Nat, whileM (fun (s : (List PyData) × PyData) N7 B8 => match s with
  | (l_found9, l_here10) => neM l_here10 l_end fun b12 =>
  (b12 = true → (l_found9.length < sizeLine ∧ (addM l_here10 (.int 1) fun r15 =>
  modM r15 l_faces fun r16 =>
  N7 ((l_found9 ++ ([l_here10] : List PyData)), r16)))) ∧ (b12 = false → B8 (l_found9, l_here10))) (fun (s : (List PyData) × PyData) =>
  match s with
  | (l_found4, l_here5) => K l_found4) n ([], r3)
def c__law_going : CT := fun args Φ Ψ => ∃ (l_faces : PyData) (l_start : PyData) (l_end : PyData) (K : KL) (E : KX), args = [.d l_faces, .d l_start, .d l_end] ∧ f__law_going l_faces l_start l_end K E ∧ (∀ r, K r → Φ (.nl r) args) ∧ ∀ c, E c → Ψ c args
@[irreducible] def f__law_down_s (rec : PyData → PyData → PyData → PyData → PyData → KD → KX → Prop) (l_plan_here : PyData) (l_held : PyData) (l_start : PyData) (l_end : PyData) (l_crossed : PyData) (K : KD) (E : KX) : Prop :=
  ixM l_plan_here (.int 0) fun r1 =>
  addM l_start (.int 1) fun r2 =>
  modM r2 r1 fun r3 =>
  modM l_end r1 fun r4 =>
  eqM r3 r4 fun b5 =>
  (b5 = true → (modM l_start r1 fun r9 =>
  K (.list [r9]))) ∧ (b5 = false → (modM l_start r1 fun r11 =>
  modM l_end r1 fun r12 =>
  f__law_going r1 r11 r12 (fun r13 =>
  itM (.list r13) fun xs10 =>
  forM (fun l_corner17 (_ : Unit) N18 B19 => andM (fun Q => modM l_start r1 fun r24 =>
  inDM l_held (.tuple [l_corner17, r24]) fun b25 =>
  Q b25) (fun Q => modM l_end r1 fun r26 =>
  inDM l_held (.tuple [l_corner17, r26]) fun b27 =>
  Q b27) fun b23 =>
  (b23 = true → (modM l_start r1 fun r31 =>
  boolM l_crossed fun b32 =>
  rec l_plan_here l_held r31 l_corner17 (.bool (!b32)) (fun r33 =>
  modM l_end r1 fun r34 =>
  boolM l_crossed fun b35 =>
  rec l_plan_here l_held l_corner17 r34 (.bool (!b35)) (fun r36 =>
  addM r33 r36 fun r37 =>
  addM r36 r33 fun r38 =>
  intM l_crossed fun r39 =>
  ixM (.list [r37, r38]) r39 fun r40 =>
  K r40) E) E)) ∧ (b23 = false → (N18 ()))) (fun (_ : Unit) =>
  K (.list [])) xs10 ()) E))
def f__law_down : Nat → PyData → PyData → PyData → PyData → PyData → KD → KX → Prop
  | 0 => fun _ _ _ _ _ _ _ => False
  | n + 1 => f__law_down_s (f__law_down n)
def c__law_down (n : Nat) : CT := fun args Φ Ψ => ∃ (l_plan_here : PyData) (l_held : PyData) (l_start : PyData) (l_end : PyData) (l_crossed : PyData) (K : KD) (E : KX), args = [.d l_plan_here, .d l_held, .d l_start, .d l_end, .d l_crossed] ∧ f__law_down n l_plan_here l_held l_start l_end l_crossed K E ∧ (∀ r, K r → Φ (.rd r) args) ∧ ∀ c, E c → Ψ c args
@[irreducible] def f__law_order (l_plan_here : PyData) (K : KL) (E : KX) : Prop :=
  f__law_tied l_plan_here (fun r1 =>
  f__law_down 64 l_plan_here (dTd r1) (.int 1) (.int 0) (.bool false) (fun r2 =>
  addLM (.list [(.int 0)]) r2 fun l3 =>
  K l3) E) E
def c__law_order : CT := fun args Φ Ψ => ∃ (l_plan_here : PyData) (K : KL) (E : KX), args = [.d l_plan_here] ∧ f__law_order l_plan_here K E ∧ (∀ r, K r → Φ (.nl r) args) ∧ ∀ c, E c → Ψ c args
@[irreducible] def f_law_k17 (script : PyData) (K : KD) (E : KX) : Prop :=
  rngM (.int 0) (.int 2) fun xs1 =>
  forM (fun l_turn7 (_ : Unit) N8 B9 => f__law_pull (.int 3) (fun r15 =>
  ixM (.list [(.int 6), (.int 12), (.int 40)]) r15 fun r16 =>
  f__law_plan r16 (fun r17 =>
  f__law_order r17 (fun r18 =>
  rngM (.int 0) (.int 2) fun xs19 =>
  forM (fun l_again22 (_ : Unit) N23 B24 => f_strip_order r17 (fun r27 =>
  orM (fun Q => f__law_alike (.list r27) (.list r18) (fun r30 =>
  boolM r30 fun b31 =>
  Q (!b31)) E) (fun Q => sortM (.list r27) fun l33 =>
  ixM r17 (.int 0) fun r35 =>
  rngM (.int 0) r35 fun l34 =>
  neM (.list l33) (.list l34) fun b36 =>
  Q b36) fun b29 =>
  (b29 = true → (K (.bool false))) ∧ (b29 = false → (N23 ()))) E) (fun (_ : Unit) =>
  N8 ()) xs19 ()) E) E) E) (fun (_ : Unit) =>
  K (.bool true)) xs1 ()
section
variable {K : KD} {Kl : KL} {Kb : KB} {E : KX} {n i j : Int} {l cs : List (Int × Int)} {p q : Int × Int}
theorem q_for_find {α : Type} {bd : PyData → Unit → (Unit → Prop) → (Unit → Prop) → Prop} {K : Unit → Prop} (L : List α) (d : α → PyData) (p : α → Bool) (R : α → Prop) (h : ∀ a ∈ L, ∀ (N : Unit → Prop), bd (d a) () N K = cond (p a) (R a) (N ())) : forM bd K (L.map d) () = (match L.find? p with | some a => R a | none => K ()) := by
  induction L with
  | nil => rfl
  | cons a L ih =>
    show bd (d a) () _ K = _
    rw [h a (List.mem_cons_self ..), List.find?_cons]
    cases p a with
    | true => rfl
    | false => exact ih fun b hb => h b (List.mem_cons_of_mem _ hb)
theorem q_in_ints {L : List Int} : inM (.int i) (.list (L.map .int)) Kb = Kb (decide (i ∈ L)) := by
  show inLstM (.int i) (L.map .int) Kb = _
  have e : flAll (L.map PyData.int) = some (L.map V.int) := by
    induction L with
    | nil => rfl
    | cons a L ih =>
      show (match fl (.int a), flAll (L.map PyData.int) with | some v, some l => some (v :: l) | _, _ => none) = _
      rw [ih]; rfl
  unfold inLstM
  rw [e]
  show Kb (inV (.int i) (L.map V.int)) = _
  rw [inV_ints]
theorem find_fil {α : Type} {L : List α} {f p : α → Bool} : (L.filter f).find? p = L.find? fun a => f a && p a := by
  induction L with
  | nil => rfl
  | cons a L ih =>
    rw [List.filter_cons, List.find?_cons]
    cases e : f a with
    | true =>
      rw [if_pos rfl, List.find?_cons, ih, Bool.true_and]
    | false =>
      rw [if_neg (by decide), ih, Bool.false_and]
theorem find_congr {α : Type} {L : List α} {P Q : α → Bool} (h : ∀ a ∈ L, P a = Q a) : L.find? P = L.find? Q := by
  induction L with
  | nil => rfl
  | cons a L ih =>
    rw [List.find?_cons, List.find?_cons, h a (List.mem_cons_self ..), ih fun b hb => h b (List.mem_cons_of_mem _ hb)]
theorem find_range {P Q : Nat → Bool} (b d : Nat) (h1 : ∀ k, k < b → P k = Q k) (h2 : ∀ k, b ≤ k → k < b + d → P k = false) : (List.range (b + d)).find? P = (List.range b).find? Q := by
  induction d with
  | zero => exact find_congr fun k hk => h1 k (List.mem_range.mp hk)
  | succ d ih =>
    rw [show b + (d + 1) = (b + d) + 1 by omega, List.range_succ, List.find?_append, ih fun k k1 k2 => h2 k k1 (by omega), List.find?_cons, h2 (b + d) (by omega) (by omega), List.find?_nil, Option.or_none]
/-- how the leaves of an arc lie -/
def ordA (n : Int) (cs : List (Int × Int)) : Nat → Int → Int → Bool → List Int
  | 0, _, _, _ => []
  | f + 1, s, e, x => if e - s = 1 then [s] else match corJ n cs s e with
    | some j => if x then ordA n cs f (s + j + 1) e (!x) ++ ordA n cs f s (s + j + 1) (!x) else ordA n cs f s (s + j + 1) (!x) ++ ordA n cs f (s + j + 1) e (!x)
    | none => []
section
variable (h3 : 3 ≤ n) (h40 : n ≤ 40) (h : Arcs 1 n l)
include h3 h40 h
theorem arc_b {s e : Int} (ha : (s, e) ∈ (1, n) :: l) : 1 ≤ s ∧ s < e ∧ e ≤ n := by
  rcases List.mem_cons.mp ha with z | z
  · have a1 := congrArg Prod.fst z
    have a2 := congrArg Prod.snd z
    simp only at a1 a2; omega
  · have := h.within (by omega) _ z; simp only at this; omega
theorem ord_mem : ∀ (f : Nat) (s e : Int) (x : Bool), (s, e) ∈ (1, n) :: l → e - s ≤ f → ((ordA n (planOf n l) f s e x).length : Int) = e - s ∧ ∀ y, y ∈ ordA n (planOf n l) f s e x ↔ s ≤ y ∧ y < e := by
  intro f
  induction f with
  | zero =>
    intro s e x ha hf
    have := arc_b h3 h40 h ha
    omega
  | succ f ih =>
    intro s e x ha hf
    have hb := arc_b h3 h40 h ha
    unfold ordA
    by_cases h1 : e - s = 1
    · rw [if_pos h1]
      exact ⟨by simp [h1], fun y => by rw [List.mem_singleton]; omega⟩
    · rw [if_neg h1]
      obtain ⟨j, hj, j1, j2, j3⟩ := corJ_some h3 h ha (by omega)
      rw [hj]
      obtain ⟨a1, a2⟩ := ih s (s + j + 1) (!x) j2 (by omega)
      obtain ⟨b1, b2⟩ := ih (s + j + 1) e (!x) j3 (by omega)
      cases x <;> simp only [if_true, if_false, Bool.false_eq_true, List.length_append, List.mem_append, a2, b2] <;> refine ⟨by omega, fun y => by omega⟩
end
variable (hp : IsPlan n cs)
include hp
theorem near_mem {a b : Int} (ha : 0 ≤ a) (ha2 : a < n) : b ∈ near n cs a ↔ tieB n cs a b = true := by
  refine ⟨fun z => ?_, mem_near hp⟩
  unfold near at z
  obtain ⟨k, k1, k2⟩ := List.mem_map.mp z
  have := (List.mem_filter.mp k1).2
  rw [k2] at this
  exact this
theorem e_between {a b c : Int} : f_between (.int n) (.int a) (.int b) (.int c) K E = K (.bool (decide (0 < (b - a) % n) && decide ((b - a) % n < (c - a) % n))) := by
  have h3 := hp.lo
  unfold f_between
  simp only [q_add_ii, q_add_ss, q_add_ll, q_add_tt, q_addL, q_sub, q_mul, q_div, q_mod, q_neg, q_bool, q_eq_ii, q_eq_ss, q_eq_bb, q_ne_ii, q_ne_ss, q_ne_bb, q_lt, q_le, q_gt, q_ge, q_un2, q_un3, q_un4, q_intO, q_len_l, q_len_t, q_len_s, q_abs, q_int_i, q_int_b, q_tup_l, q_tup_t, q_list_l, q_list_t, q_min, q_max, q_it_l, q_it_t, q_rng, q_enu_l, q_enu_t, q_rev, q_sl_l, q_sl_t, q_sl_s, q_slL, q_all, q_any, q_sum, q_sort_pp, q_and, q_or, q_ite, q_join, cond_true, cond_false, true_and, and_true, decide_eq_true_eq, decide_true, decide_false, p_un_pl, p_ix_pl0, p_ix_pl1, p_un_pp, p_ix_pp0, p_ix_pp1, p_mk, p_eq, p_ne, p_in, p_notIn, p_lt, show 0 < n by omega]
theorem e_part_corner {s e : Int} (h1 : 1 ≤ s) (h2 : s < e) (h4 : e ≤ n) : f_part_corner (.int n) (.list ((List.range n.toNat).map fun (i : Nat) => .list ((near n cs i).map .int))) (.int s) (.int e) K E = (match corJ n cs s e with | some j => K (.int (s + j + 1)) | none => K .none) := by
  have h3 := hp.lo
  have hs : s % n = s := Int.emod_eq_of_lt (by omega) (by omega)
  have he : 0 ≤ e % n ∧ e % n < n := ⟨Int.emod_nonneg _ (by omega), Int.emod_lt_of_pos _ (by omega)⟩
  unfold f_part_corner
  simp only [q_add_ii, q_add_ss, q_add_ll, q_add_tt, q_addL, q_sub, q_mul, q_div, q_mod, q_neg, q_bool, q_eq_ii, q_eq_ss, q_eq_bb, q_ne_ii, q_ne_ss, q_ne_bb, q_lt, q_le, q_gt, q_ge, q_un2, q_un3, q_un4, q_intO, q_len_l, q_len_t, q_len_s, q_abs, q_int_i, q_int_b, q_tup_l, q_tup_t, q_list_l, q_list_t, q_min, q_max, q_it_l, q_it_t, q_rng, q_enu_l, q_enu_t, q_rev, q_sl_l, q_sl_t, q_sl_s, q_slL, q_all, q_any, q_sum, q_sort_pp, q_and, q_or, q_ite, q_join, cond_true, cond_false, true_and, and_true, decide_eq_true_eq, decide_true, decide_false, p_un_pl, p_ix_pl0, p_ix_pl1, p_un_pp, p_ix_pp0, p_ix_pp1, p_mk, p_eq, p_ne, p_in, p_notIn, p_lt, show 0 < n by omega, hs, e_between hp]
  rw [q_ixr (by omega) (by omega), show ((s.toNat : Nat) : Int) = s by omega]
  simp only [q_add_ii, q_add_ss, q_add_ll, q_add_tt, q_addL, q_sub, q_mul, q_div, q_mod, q_neg, q_bool, q_eq_ii, q_eq_ss, q_eq_bb, q_ne_ii, q_ne_ss, q_ne_bb, q_lt, q_le, q_gt, q_ge, q_un2, q_un3, q_un4, q_intO, q_len_l, q_len_t, q_len_s, q_abs, q_int_i, q_int_b, q_tup_l, q_tup_t, q_list_l, q_list_t, q_min, q_max, q_it_l, q_it_t, q_rng, q_enu_l, q_enu_t, q_rev, q_sl_l, q_sl_t, q_sl_s, q_slL, q_all, q_any, q_sum, q_sort_pp, q_and, q_or, q_ite, q_join, cond_true, cond_false, true_and, and_true, decide_eq_true_eq, decide_true, decide_false, p_un_pl, p_ix_pl0, p_ix_pl1, p_un_pp, p_ix_pp0, p_ix_pp1, p_mk, p_eq, p_ne, p_in, p_notIn, p_lt]
  have en : (near n cs s).map PyData.int = ((List.range (n.toNat - 1)).filter fun (k : Nat) => tieB n cs s ((s + k + 1) % n)).map fun (k : Nat) => PyData.int ((s + k + 1) % n) := by unfold near; rw [List.map_map]; rfl
  rw [en]
  rw [q_for_find _ _ (fun (k : Nat) => decide ((s + (k : Int) + 1) % n ∈ near n cs (e % n)) && (decide (0 < ((s + (k : Int) + 1) % n - s) % n) && decide (((s + (k : Int) + 1) % n - s) % n < (e % n - s) % n))) (fun (k : Nat) => K (.int (s + ((s + (k : Int) + 1) % n - s) % n))) fun k hk N => ?_]
  · rw [find_fil]
    have ec : (List.range (n.toNat - 1)).find? (fun (k : Nat) => tieB n cs s ((s + k + 1) % n) && (decide ((s + (k : Int) + 1) % n ∈ near n cs (e % n)) && (decide (0 < ((s + (k : Int) + 1) % n - s) % n) && decide (((s + (k : Int) + 1) % n - s) % n < (e % n - s) % n)))) = corJ n cs s e := by
      unfold corJ
      rw [show n.toNat - 1 = (e - s - 1).toNat + (n.toNat - 1 - (e - s - 1).toNat) by omega]
      have d1 : ∀ k : Nat, k < n.toNat - 1 → ((s + (k : Int) + 1) % n - s) % n = k + 1 := fun k hk => by
        rw [Int.emod_sub_emod, show s + (k : Int) + 1 - s = k + 1 by omega]
        exact Int.emod_eq_of_lt (by omega) (by omega)
      have d2 : (e % n - s) % n = e - s := by
        rw [Int.emod_sub_emod]
        exact Int.emod_eq_of_lt (by omega) (by omega)
      refine find_range _ _ (fun k hk => ?_) fun k k1 k2 => ?_
      · rw [d1 k (by omega), d2, decide_eq_true (by omega : (0 : Int) < (k : Int) + 1), decide_eq_true (by omega : (k : Int) + 1 < e - s), Int.emod_eq_of_lt (a := s + (k : Int) + 1) (by omega) (by omega)]
        have e9 : decide (s + (k : Int) + 1 ∈ near n cs (e % n)) = tieB n cs (s + k + 1) (e % n) := by
          rw [tie_sym (a := s + (k : Int) + 1)]
          have q := near_mem hp (b := s + (k : Int) + 1) he.1 he.2
          cases z : tieB n cs (e % n) (s + (k : Int) + 1) with
          | true => exact decide_eq_true (q.mpr z)
          | false => exact decide_eq_false fun m => by rw [q.mp m] at z; cases z
        rw [Bool.and_self, Bool.and_true, e9]
      · rw [d1 k (by omega), d2, decide_eq_false (by omega : ¬ (k : Int) + 1 < e - s)]
        simp
    rw [ec]
    cases e0 : corJ n cs s e with
    | none => rfl
    | some j =>
      have hj := List.mem_range.mp (List.mem_of_find?_eq_some (show (List.range (e - s - 1).toNat).find? _ = some j from e0))
      show K (.int (s + ((s + (j : Int) + 1) % n - s) % n)) = _
      rw [Int.emod_sub_emod, show s + (j : Int) + 1 - s = j + 1 by omega, Int.emod_eq_of_lt (by omega) (by omega), show s + ((j : Int) + 1) = s + j + 1 by omega]
  · have ei : ∀ K : KD, ixM (.list ((List.range n.toNat).map fun (i : Nat) => PyData.list ((near n cs i).map .int))) (.int (e % n)) K = K (.list ((near n cs (e % n)).map .int)) := fun K => by
      rw [q_ixr he.1 (by omega), show (((e % n).toNat : Nat) : Int) = e % n by omega]
    simp only [q_add_ii, q_add_ss, q_add_ll, q_add_tt, q_addL, q_sub, q_mul, q_div, q_mod, q_neg, q_bool, q_eq_ii, q_eq_ss, q_eq_bb, q_ne_ii, q_ne_ss, q_ne_bb, q_lt, q_le, q_gt, q_ge, q_un2, q_un3, q_un4, q_intO, q_len_l, q_len_t, q_len_s, q_abs, q_int_i, q_int_b, q_tup_l, q_tup_t, q_list_l, q_list_t, q_min, q_max, q_it_l, q_it_t, q_rng, q_enu_l, q_enu_t, q_rev, q_sl_l, q_sl_t, q_sl_s, q_slL, q_all, q_any, q_sum, q_sort_pp, q_and, q_or, q_ite, q_join, cond_true, cond_false, true_and, and_true, decide_eq_true_eq, decide_true, decide_false, p_un_pl, p_ix_pl0, p_ix_pl1, p_un_pp, p_ix_pp0, p_ix_pp1, p_mk, p_eq, p_ne, p_in, p_notIn, p_lt, ei, q_in_ints]
    refine Eq.trans (q_and' (b1 := decide ((s + (k : Int) + 1) % n ∈ near n cs (e % n))) (b2 := (decide (0 < ((s + (k : Int) + 1) % n - s) % n) && decide (((s + (k : Int) + 1) % n - s) % n < (e % n - s) % n))) (fun Q => rfl) fun _ Q => by rw [e_between hp]; rfl) ?_
    exact congrArg (fun z => cond _ z _) (propext (and_iff_right (by omega)))
omit hp in
theorem while_seq2 {τ : Type} {st : τ → (τ → Prop) → (τ → Prop) → Prop} {K : τ → Prop} (k : Nat) (S : Nat → τ) (h : ∀ i < k, ∀ N : τ → Prop, N (S (i + 1)) → st (S i) N K) (hend : ∀ N : τ → Prop, st (S k) N K) : ∃ n, whileM st K n (S 0) := by
  refine ⟨k + 1, ?_⟩
  have go : ∀ d i, i + d = k → whileM st K (d + 1) (S i) := by
    intro d
    induction d with
    | zero => intro i e; rw [show i = k by omega]; exact hend _
    | succ d ih => intro i e; exact h i (by omega) _ (ih (i + 1) (by omega))
  exact go k 0 (by omega)
theorem i__law_going {s e : Int} (h1 : 1 ≤ s) (h2 : s < e) (h4 : e ≤ n) (hK : Kl ((List.range (e - s - 1).toNat).map fun (j : Nat) => PyData.int (s + j + 1))) : f__law_going (.int n) (.int s) (.int (e % n)) Kl E := by
  have h3 := hp.lo
  have h40 := hp.hi
  have hsl := sizeLine_eq
  unfold f__law_going
  simp only [q_add_ii, q_add_ss, q_add_ll, q_add_tt, q_addL, q_sub, q_mul, q_div, q_mod, q_neg, q_bool, q_eq_ii, q_eq_ss, q_eq_bb, q_ne_ii, q_ne_ss, q_ne_bb, q_lt, q_le, q_gt, q_ge, q_un2, q_un3, q_un4, q_intO, q_len_l, q_len_t, q_len_s, q_abs, q_int_i, q_int_b, q_tup_l, q_tup_t, q_list_l, q_list_t, q_min, q_max, q_it_l, q_it_t, q_rng, q_enu_l, q_enu_t, q_rev, q_sl_l, q_sl_t, q_sl_s, q_slL, q_all, q_any, q_sum, q_sort_pp, q_and, q_or, q_ite, q_join, cond_true, cond_false, true_and, and_true, decide_eq_true_eq, decide_true, decide_false, p_un_pl, p_ix_pl0, p_ix_pl1, p_un_pp, p_ix_pp0, p_ix_pp1, p_mk, p_eq, p_ne, p_in, p_notIn, p_lt, show 0 < n by omega]
  have he : e % n = if e = n then 0 else e := by
    split
    · rename_i z; rw [z, Int.emod_self]
    · exact Int.emod_eq_of_lt (by omega) (by omega)
  rw [show PyData.int ((s + 1) % n) = PyData.int ((s + 1 + ((0 : Nat) : Int)) % n) by simp]
  refine while_seq2 (e - s - 1).toNat (fun i => (((List.range i).map fun (j : Nat) => PyData.int (s + j + 1)), PyData.int ((s + 1 + (i : Int)) % n))) (fun i hi N hN => ?_) (fun N => ?_)
  · have e1 : (s + 1 + (i : Int)) % n = s + 1 + i := Int.emod_eq_of_lt (by omega) (by omega)
    simp only [q_add_ii, q_add_ss, q_add_ll, q_add_tt, q_addL, q_sub, q_mul, q_div, q_mod, q_neg, q_bool, q_eq_ii, q_eq_ss, q_eq_bb, q_ne_ii, q_ne_ss, q_ne_bb, q_lt, q_le, q_gt, q_ge, q_un2, q_un3, q_un4, q_intO, q_len_l, q_len_t, q_len_s, q_abs, q_int_i, q_int_b, q_tup_l, q_tup_t, q_list_l, q_list_t, q_min, q_max, q_it_l, q_it_t, q_rng, q_enu_l, q_enu_t, q_rev, q_sl_l, q_sl_t, q_sl_s, q_slL, q_all, q_any, q_sum, q_sort_pp, q_and, q_or, q_ite, q_join, cond_true, cond_false, true_and, and_true, decide_eq_true_eq, decide_true, decide_false, p_un_pl, p_ix_pl0, p_ix_pl1, p_un_pp, p_ix_pp0, p_ix_pp1, p_mk, p_eq, p_ne, p_in, p_notIn, p_lt, show 0 < n by omega, List.length_map, List.length_range, e1]
    rw [decide_eq_false (by rw [he]; split <;> omega : ¬ (s + 1 + (i : Int) = e % n)), Bool.not_false, cond_true]
    refine ⟨by omega, ?_⟩
    rw [List.range_succ, List.map_append, List.map_cons, List.map_nil] at hN
    rw [show s + 1 + (i : Int) = s + i + 1 by omega]
    rw [show s + 1 + ((i + 1 : Nat) : Int) = s + i + 1 + 1 by omega] at hN
    exact hN
  · simp only [q_add_ii, q_add_ss, q_add_ll, q_add_tt, q_addL, q_sub, q_mul, q_div, q_mod, q_neg, q_bool, q_eq_ii, q_eq_ss, q_eq_bb, q_ne_ii, q_ne_ss, q_ne_bb, q_lt, q_le, q_gt, q_ge, q_un2, q_un3, q_un4, q_intO, q_len_l, q_len_t, q_len_s, q_abs, q_int_i, q_int_b, q_tup_l, q_tup_t, q_list_l, q_list_t, q_min, q_max, q_it_l, q_it_t, q_rng, q_enu_l, q_enu_t, q_rev, q_sl_l, q_sl_t, q_sl_s, q_slL, q_all, q_any, q_sum, q_sort_pp, q_and, q_or, q_ite, q_join, cond_true, cond_false, true_and, and_true, decide_eq_true_eq, decide_true, decide_false, p_un_pl, p_ix_pl0, p_ix_pl1, p_un_pp, p_ix_pp0, p_ix_pp1, p_mk, p_eq, p_ne, p_in, p_notIn, p_lt]
    rw [show s + 1 + ((e - s - 1).toNat : Int) = e by omega, decide_eq_true rfl]
    simp only [Bool.not_true, cond_false]
    exact hK
end
section
variable (h3 : 3 ≤ n) (h40 : n ≤ 40) (h : Arcs 1 n l)
include h3 h40 h
theorem i_put_down : ∀ (f : Nat) (s e : Int) (x : Bool) (K : KD), (s, e) ∈ (1, n) :: l → e - s ≤ f → K (.list ((ordA n (planOf n l) f s e x).map .int)) → f_put_down f (.int n) (.list ((List.range n.toNat).map fun (i : Nat) => .list ((near n (planOf n l) i).map .int))) (ppD (s, e)) (.bool x) K E := by
  have hp : IsPlan n (planOf n l) := arcs_plan h3 h40 h
  have hsl := sizeLine_eq
  intro f
  induction f with
  | zero =>
    intro s e x K ha hf hK
    have := arc_b h3 h40 h ha
    omega
  | succ f ih =>
    intro s e x K ha hf hK
    have hb := arc_b h3 h40 h ha
    show f_put_down_s (f_put_down f) _ _ _ _ _ _
    unfold f_put_down_s
    simp only [q_add_ii, q_add_ss, q_add_ll, q_add_tt, q_addL, q_sub, q_mul, q_div, q_mod, q_neg, q_bool, q_eq_ii, q_eq_ss, q_eq_bb, q_ne_ii, q_ne_ss, q_ne_bb, q_lt, q_le, q_gt, q_ge, q_un2, q_un3, q_un4, q_intO, q_len_l, q_len_t, q_len_s, q_abs, q_int_i, q_int_b, q_tup_l, q_tup_t, q_list_l, q_list_t, q_min, q_max, q_it_l, q_it_t, q_rng, q_enu_l, q_enu_t, q_rev, q_sl_l, q_sl_t, q_sl_s, q_slL, q_all, q_any, q_sum, q_sort_pp, q_and, q_or, q_ite, q_join, cond_true, cond_false, true_and, and_true, decide_eq_true_eq, decide_true, decide_false, p_un_pl, p_ix_pl0, p_ix_pl1, p_un_pp, p_ix_pp0, p_ix_pp1, p_mk, p_eq, p_ne, p_in, p_notIn, p_lt, e_part_corner hp hb.1 hb.2.1 hb.2.2]
    unfold ordA at hK
    by_cases h1 : e - s = 1
    · rw [decide_eq_true h1, cond_true]
      rw [if_pos h1] at hK
      exact hK
    · rw [decide_eq_false h1, cond_false]
      rw [if_neg h1] at hK
      obtain ⟨j, hj, j1, j2, j3⟩ := corJ_some h3 h ha (by omega)
      rw [hj] at hK ⊢
      dsimp only at hK ⊢
      have a1 := (ord_mem h3 h40 h f s (s + j + 1) (!x) j2 (by omega)).1
      have b1 := (ord_mem h3 h40 h f (s + j + 1) e (!x) j3 (by omega)).1
      refine ih s (s + j + 1) (!x) _ j2 (by omega) ?_
      refine ih (s + j + 1) e (!x) _ j3 (by omega) ?_
      simp only [q_add_ii, q_add_ss, q_add_ll, q_add_tt, q_addL, q_sub, q_mul, q_div, q_mod, q_neg, q_bool, q_eq_ii, q_eq_ss, q_eq_bb, q_ne_ii, q_ne_ss, q_ne_bb, q_lt, q_le, q_gt, q_ge, q_un2, q_un3, q_un4, q_intO, q_len_l, q_len_t, q_len_s, q_abs, q_int_i, q_int_b, q_tup_l, q_tup_t, q_list_l, q_list_t, q_min, q_max, q_it_l, q_it_t, q_rng, q_enu_l, q_enu_t, q_rev, q_sl_l, q_sl_t, q_sl_s, q_slL, q_all, q_any, q_sum, q_sort_pp, q_and, q_or, q_ite, q_join, cond_true, cond_false, true_and, and_true, decide_eq_true_eq, decide_true, decide_false, p_un_pl, p_ix_pl0, p_ix_pl1, p_un_pp, p_ix_pp0, p_ix_pp1, p_mk, p_eq, p_ne, p_in, p_notIn, p_lt, List.length_map]
      cases x with
      | true =>
        rw [cond_true]
        rw [if_pos rfl, List.map_append] at hK
        exact ⟨by omega, hK⟩
      | false =>
        rw [cond_false]
        rw [if_neg (by decide), List.map_append] at hK
        exact ⟨by omega, hK⟩
theorem i__law_down : ∀ (f : Nat) (s e : Int) (x : Bool) (K : KD), (s, e) ∈ (1, n) :: l → e - s ≤ f → K (.list ((ordA n (planOf n l) f s e x).map .int)) → f__law_down f (plD n (planOf n l)) (dTd (tied (linesOf n (planOf n l)))) (.int s) (.int (e % n)) (.bool x) K E := by
  have hp : IsPlan n (planOf n l) := arcs_plan h3 h40 h
  have hsl := sizeLine_eq
  have hne : tied (linesOf n (planOf n l)) ≠ [] := fun z => by
    have q := both_len (linesOf n (planOf n l))
    have q2 := lines_len hp
    have q3 := congrArg List.length z
    unfold tied at q3
    rw [List.length_map] at q3
    simp only [List.length_nil] at q3
    omega
  intro f
  induction f with
  | zero =>
    intro s e x K ha hf hK
    have := arc_b h3 h40 h ha
    omega
  | succ f ih =>
    intro s e x K ha hf hK
    have hb := arc_b h3 h40 h ha
    have hs : s % n = s := Int.emod_eq_of_lt (by omega) (by omega)
    have he : e % n = if e = n then 0 else e := by
      split
      · rename_i z; rw [z, Int.emod_self]
      · exact Int.emod_eq_of_lt (by omega) (by omega)
    have hs1 : (s + 1) % n = if s + 1 = n then 0 else s + 1 := by
      split
      · rename_i z; rw [z, Int.emod_self]
      · exact Int.emod_eq_of_lt (by omega) (by omega)
    show f__law_down_s (f__law_down f) _ _ _ _ _ _ _
    unfold f__law_down_s
    simp only [q_add_ii, q_add_ss, q_add_ll, q_add_tt, q_addL, q_sub, q_mul, q_div, q_mod, q_neg, q_bool, q_eq_ii, q_eq_ss, q_eq_bb, q_ne_ii, q_ne_ss, q_ne_bb, q_lt, q_le, q_gt, q_ge, q_un2, q_un3, q_un4, q_intO, q_len_l, q_len_t, q_len_s, q_abs, q_int_i, q_int_b, q_tup_l, q_tup_t, q_list_l, q_list_t, q_min, q_max, q_it_l, q_it_t, q_rng, q_enu_l, q_enu_t, q_rev, q_sl_l, q_sl_t, q_sl_s, q_slL, q_all, q_any, q_sum, q_sort_pp, q_and, q_or, q_ite, q_join, cond_true, cond_false, true_and, and_true, decide_eq_true_eq, decide_true, decide_false, p_un_pl, p_ix_pl0, p_ix_pl1, p_un_pp, p_ix_pp0, p_ix_pp1, p_mk, p_eq, p_ne, p_in, p_notIn, p_lt, show 0 < n by omega, Int.emod_emod, hs]
    unfold ordA at hK
    by_cases h1 : e - s = 1
    · rw [decide_eq_true (by rw [show s + 1 = e by omega] : (s + 1) % n = e % n), cond_true]
      rw [if_pos h1] at hK
      exact hK
    · rw [decide_eq_false (by rw [he, hs1]; split <;> split <;> omega : ¬ (s + 1) % n = e % n), cond_false]
      rw [if_neg h1] at hK
      obtain ⟨j, hj, j1, j2, j3⟩ := corJ_some h3 h ha (by omega)
      rw [hj] at hK
      dsimp only at hK
      have a1 := (ord_mem h3 h40 h f s (s + j + 1) (!x) j2 (by omega)).1
      have b1 := (ord_mem h3 h40 h f (s + j + 1) e (!x) j3 (by omega)).1
      refine i__law_going hp hb.1 hb.2.1 hb.2.2 ?_
      rw [q_for_find _ _ (fun (k : Nat) => tieB n (planOf n l) s (s + k + 1) && tieB n (planOf n l) (s + k + 1) (e % n)) (fun (k : Nat) => f__law_down f (plD n (planOf n l)) (dTd (tied (linesOf n (planOf n l)))) (.int s) (.int (s + k + 1)) (.bool (!x)) (fun r33 => f__law_down f (plD n (planOf n l)) (dTd (tied (linesOf n (planOf n l)))) (.int (s + k + 1)) (.int (e % n)) (.bool (!x)) (fun r36 => addM r33 r36 fun r37 => addM r36 r33 fun r38 => ixM (.list [r37, r38]) (.int (if x then 1 else 0)) fun r40 => K r40) E) E) fun k hk N => ?_]
      · rw [show (List.range (e - s - 1).toNat).find? (fun (k : Nat) => tieB n (planOf n l) s (s + k + 1) && tieB n (planOf n l) (s + k + 1) (e % n)) = some j from hj]
        dsimp only
        have ej : (s + (j : Int) + 1) % n = s + j + 1 := Int.emod_eq_of_lt (by omega) (by omega)
        have q1 := fun K => ih s (s + j + 1) (!x) K j2 (by omega)
        rw [ej] at q1
        refine q1 _ ?_
        refine ih (s + j + 1) e (!x) _ j3 (by omega) ?_
        simp only [q_add_ii, q_add_ss, q_add_ll, q_add_tt, q_addL, q_sub, q_mul, q_div, q_mod, q_neg, q_bool, q_eq_ii, q_eq_ss, q_eq_bb, q_ne_ii, q_ne_ss, q_ne_bb, q_lt, q_le, q_gt, q_ge, q_un2, q_un3, q_un4, q_intO, q_len_l, q_len_t, q_len_s, q_abs, q_int_i, q_int_b, q_tup_l, q_tup_t, q_list_l, q_list_t, q_min, q_max, q_it_l, q_it_t, q_rng, q_enu_l, q_enu_t, q_rev, q_sl_l, q_sl_t, q_sl_s, q_slL, q_all, q_any, q_sum, q_sort_pp, q_and, q_or, q_ite, q_join, cond_true, cond_false, true_and, and_true, decide_eq_true_eq, decide_true, decide_false, p_un_pl, p_ix_pl0, p_ix_pl1, p_un_pp, p_ix_pp0, p_ix_pp1, p_mk, p_eq, p_ne, p_in, p_notIn, p_lt, List.length_map, ← List.map_append]
        cases x with
        | true => exact ⟨by omega, by omega, hK⟩
        | false => exact ⟨by omega, by omega, hK⟩
      · simp only [q_add_ii, q_add_ss, q_add_ll, q_add_tt, q_addL, q_sub, q_mul, q_div, q_mod, q_neg, q_bool, q_eq_ii, q_eq_ss, q_eq_bb, q_ne_ii, q_ne_ss, q_ne_bb, q_lt, q_le, q_gt, q_ge, q_un2, q_un3, q_un4, q_intO, q_len_l, q_len_t, q_len_s, q_abs, q_int_i, q_int_b, q_tup_l, q_tup_t, q_list_l, q_list_t, q_min, q_max, q_it_l, q_it_t, q_rng, q_enu_l, q_enu_t, q_rev, q_sl_l, q_sl_t, q_sl_s, q_slL, q_all, q_any, q_sum, q_sort_pp, q_and, q_or, q_ite, q_join, cond_true, cond_false, true_and, and_true, decide_eq_true_eq, decide_true, decide_false, p_un_pl, p_ix_pl0, p_ix_pl1, p_un_pp, p_ix_pp0, p_ix_pp1, p_mk, p_eq, p_ne, p_in, p_notIn, p_lt, q_inD hne, q_inT, show 0 < n by omega]
        rw [tie_sym (a := s + (k : Int) + 1) (b := s)]
theorem ord_nd : ∀ (f : Nat) (s e : Int) (x : Bool), (s, e) ∈ (1, n) :: l → e - s ≤ f → (ordA n (planOf n l) f s e x).Nodup := by
  intro f
  induction f with
  | zero =>
    intro s e x ha hf
    have := arc_b h3 h40 h ha
    omega
  | succ f ih =>
    intro s e x ha hf
    have hb := arc_b h3 h40 h ha
    unfold ordA
    by_cases h1 : e - s = 1
    · rw [if_pos h1]; simp
    · rw [if_neg h1]
      obtain ⟨j, hj, j1, j2, j3⟩ := corJ_some h3 h ha (by omega)
      rw [hj]
      dsimp only
      have a2 := (ord_mem h3 h40 h f s (s + j + 1) (!x) j2 (by omega)).2
      have b2 := (ord_mem h3 h40 h f (s + j + 1) e (!x) j3 (by omega)).2
      have a1 := ih s (s + j + 1) (!x) j2 (by omega)
      have b1 := ih (s + j + 1) e (!x) j3 (by omega)
      split
      · refine List.nodup_append.mpr ⟨b1, a1, fun u hu v hv => ?_⟩
        have := (b2 u).mp hu
        have := (a2 v).mp hv
        omega
      · refine List.nodup_append.mpr ⟨a1, b1, fun u hu v hv => ?_⟩
        have := (a2 u).mp hu
        have := (b2 v).mp hv
        omega
def ordP (n : Int) (l : List (Int × Int)) : List Int := 0 :: ordA n (planOf n l) 64 1 n false
theorem ordP_len : ((ordP n l).length : Int) = n := by
  have q := (ord_mem h3 h40 h 64 1 n false (List.mem_cons_self ..) (by omega)).1
  unfold ordP
  rw [List.length_cons]
  omega
theorem i_strip_order (hK : Kl ((ordP n l).map .int)) : f_strip_order (plD n (planOf n l)) Kl E := by
  have hp : IsPlan n (planOf n l) := arcs_plan h3 h40 h
  have hsl := sizeLine_eq
  have hl := ordP_len h3 h40 h
  have key : f_order_of (plD n (planOf n l)) Kl E := by
    unfold f_order_of
    simp only [q_add_ii, q_add_ss, q_add_ll, q_add_tt, q_addL, q_sub, q_mul, q_div, q_mod, q_neg, q_bool, q_eq_ii, q_eq_ss, q_eq_bb, q_ne_ii, q_ne_ss, q_ne_bb, q_lt, q_le, q_gt, q_ge, q_un2, q_un3, q_un4, q_intO, q_len_l, q_len_t, q_len_s, q_abs, q_int_i, q_int_b, q_tup_l, q_tup_t, q_list_l, q_list_t, q_min, q_max, q_it_l, q_it_t, q_rng, q_enu_l, q_enu_t, q_rev, q_sl_l, q_sl_t, q_sl_s, q_slL, q_all, q_any, q_sum, q_sort_pp, q_and, q_or, q_ite, q_join, cond_true, cond_false, true_and, and_true, decide_eq_true_eq, decide_true, decide_false, p_un_pl, p_ix_pl0, p_ix_pl1, p_un_pp, p_ix_pp0, p_ix_pp1, p_mk, p_eq, p_ne, p_in, p_notIn, p_lt, e_neighbours hp]
    refine i_put_down h3 h40 h 64 1 n false _ (List.mem_cons_self ..) (by omega) ?_
    rw [q_addL]
    unfold ordP at hK hl
    rw [List.length_cons] at hl
    simp only [List.length_map, List.length_cons, List.length_nil]
    exact ⟨by omega, hK⟩
  unfold f_strip_order
  rw [e_need_ok hp]
  exact key
theorem i__law_order (hK : Kl ((ordP n l).map .int)) : f__law_order (plD n (planOf n l)) Kl E := by
  have hp : IsPlan n (planOf n l) := arcs_plan h3 h40 h
  have hsl := sizeLine_eq
  have hl := ordP_len h3 h40 h
  unfold f__law_order
  rw [e__law_tied hp]
  have q := fun K => i__law_down (E := E) h3 h40 h 64 1 n false K (List.mem_cons_self ..) (by omega)
  rw [Int.emod_self] at q
  refine q _ ?_
  rw [q_addL]
  unfold ordP at hK hl
  rw [List.length_cons] at hl
  simp only [List.length_map, List.length_cons, List.length_nil]
  exact ⟨by omega, hK⟩
theorem ordP_sort : sortI (ordP n l) = (List.range n.toNat).map fun (i : Nat) => (i : Int) := by
  obtain ⟨q1, q2⟩ := ord_mem h3 h40 h 64 1 n false (List.mem_cons_self ..) (by omega)
  have mm : ∀ x, x ∈ ordP n l ↔ x ∈ (List.range n.toNat).map fun (i : Nat) => (i : Int) := fun x => by
    unfold ordP
    rw [List.mem_cons, q2, List.mem_map]
    refine ⟨fun z => ⟨x.toNat, List.mem_range.mpr (by omega), by omega⟩, fun ⟨i, hi, z⟩ => ?_⟩
    have := List.mem_range.mp hi
    omega
  have pw : ((List.range n.toNat).map fun (i : Nat) => (i : Int)).Pairwise (· < ·) := List.pairwise_map.mpr (List.pairwise_lt_range.imp fun h => by omega)
  have nd : (ordP n l).Nodup := by
    unfold ordP
    refine List.nodup_cons.mpr ⟨fun z => ?_, ord_nd h3 h40 h 64 1 n false (List.mem_cons_self ..) (by omega)⟩
    have := (q2 0).mp z
    omega
  exact sortI_eq nd pw mm
end
theorem eqv_ints (L : List Int) : PyData.eqv (.list (L.map .int)) (.list (L.map .int)) = true := by
  show PyData.eqvAll (L.map .int) (L.map .int) = true
  induction L with
  | nil => rfl
  | cons a L ih =>
    show (PyData.eqv (.int a) (.int a) && PyData.eqvAll (L.map .int) (L.map .int)) = true
    rw [ih, show PyData.eqv (.int a) (.int a) = (a == a) from rfl, beq_self_eq_true]
    rfl
theorem okD_ints (N : Nat) (L : List Int) (h : L.length ≤ 10000) : okD (N + 1) (.list (L.map .int)) = true := by
  show (decide ((L.map PyData.int).length ≤ 10000000) && (L.map PyData.int).all (okD N)) = true
  rw [decide_eq_true (by rw [List.length_map]; omega), Bool.true_and]
  refine List.all_eq_true.mpr fun x hx => ?_
  obtain ⟨i, _, rfl⟩ := List.mem_map.mp hx
  exact okD_int ..
theorem e_law_k17 (ns : List Int) (h : ns.length ≤ 63) : f_law_k17 (.list (ns.map .int)) (fun r => r = .bool true) (fun _ => False) := by
  have hsl := sizeLine_eq
  unfold f_law_k17
  rw [q_rng]
  refine ⟨by decide, ?_⟩
  rw [range0]
  refine forM_inv (List.range (2 : Int).toNat) (fun (i : Nat) => PyData.int i) (fun _ _ => True) (fun i a ha u hu N hN => ?_) (fun u hu => rfl) _ trivial
  rw [e__law_pull (by decide) (by decide)]
  intro r r0 r1
  have er : r = 0 ∨ r = 1 ∨ r = 2 := by omega
  have main : ∀ m : Int, 3 ≤ m → m ≤ 40 → ∀ K' : KD, (∀ n l, 3 ≤ n → n ≤ 40 → Arcs 1 n l → K' (plD n (planOf n l))) → f__law_plan (.int m) K' (fun _ => False) := fun m h3 h40 K' hK' => by
    rw [e__law_plan h3 h40]
    exact fun n hn hnm l hl => hK' n l hn (by omega) hl
  have pull : ∀ K' : KD, (∀ n l, 3 ≤ n → n ≤ 40 → Arcs 1 n l → K' (plD n (planOf n l))) → ixM (.list [(.int 6), (.int 12), (.int 40)]) (.int r) fun r2 => f__law_plan r2 K' (fun _ => False) := fun K' hK' => by
    rcases er with rfl | rfl | rfl <;> exact main _ (by decide) (by decide) _ hK'
  refine pull _ fun n l h3 h40 hl => ?_
  refine i__law_order h3 h40 hl ?_
  have hlen := ordP_len h3 h40 hl
  rw [q_rng]
  refine ⟨by decide, ?_⟩
  rw [range0]
  refine forM_inv (List.range (2 : Int).toNat) (fun (i : Nat) => PyData.int i) (fun _ _ => True) (fun i a ha u hu N2 hN2 => ?_) (fun u hu => hN _ trivial) _ trivial
  refine i_strip_order h3 h40 hl ?_
  have es : ((List.range n.toNat).map fun (i : Nat) => PyData.int i) = ((List.range n.toNat).map fun (i : Nat) => (i : Int)).map .int := by rw [List.map_map]; rfl
  have ene : neM (.list (((List.range n.toNat).map fun (i : Nat) => (i : Int)).map .int)) (.list (((List.range n.toNat).map fun (i : Nat) => (i : Int)).map .int)) = fun Q : KB => Q false := funext fun Q => by
    rw [q_ne_ll, eqv_ints]
    exact propext ((and_iff_right (shp_ints _)).trans (and_iff_right (shp_ints _)))
  simp only [q_add_ii, q_add_ss, q_add_ll, q_add_tt, q_addL, q_sub, q_mul, q_div, q_mod, q_neg, q_bool, q_eq_ii, q_eq_ss, q_eq_bb, q_ne_ii, q_ne_ss, q_ne_bb, q_lt, q_le, q_gt, q_ge, q_un2, q_un3, q_un4, q_intO, q_len_l, q_len_t, q_len_s, q_abs, q_int_i, q_int_b, q_tup_l, q_tup_t, q_list_l, q_list_t, q_min, q_max, q_it_l, q_it_t, q_rng, q_enu_l, q_enu_t, q_rev, q_sl_l, q_sl_t, q_sl_s, q_slL, q_all, q_any, q_sum, q_sort_pp, q_and, q_or, q_ite, q_join, cond_true, cond_false, true_and, and_true, decide_eq_true_eq, decide_true, decide_false, p_un_pl, p_ix_pl0, p_ix_pl1, p_un_pp, p_ix_pp0, p_ix_pp1, p_mk, p_eq, p_ne, p_in, p_notIn, p_lt, e__law_alike (okD_ints 7 (ordP n l) (by omega)), q_sort_ints, ordP_sort h3 h40 hl, range0, es, ene, Bool.not_true, Bool.or_false]
  have eb : (fun Q : KB => (-1000000 ≤ (0 : Int) ∧ (0 : Int) ≤ 1000000 ∧ -1000000 ≤ n ∧ n ≤ 1000000) ∧ Q false) = fun Q => Q false := funext fun Q => propext (and_iff_right (by omega))
  rw [eb, q_or]
  exact hN2 _ trivial
end Tx

namespace Tx
open PySem PySem.Spec PyProof.Rows L2 TL
@[irreducible] def f_need_faces (faces : PyData) (K : KD) (E : KX) : Prop :=
  andM (fun Q => leM (.int 3) faces Q) (fun Q => leM faces (.int 40) Q) fun b1 =>
  ((!b1) = true → (E (.own "BadFaces"))) ∧ ((!b1) = false → (K .none))
def c_need_faces : CT := fun args Φ Ψ => ∃ (faces : PyData) (K : KD) (E : KX), args = [.d faces] ∧ f_need_faces faces K E ∧ (∀ r, K r → Φ (.rd r) args) ∧ ∀ c, E c → Ψ c args
@[irreducible] def f_ways_row (most : PyData) (K : KL) (E : KX) : Prop :=
  ∃ n : Nat, whileM (fun row7 N5 B6 => lenM (.list row7) fun r10 =>
  leM r10 most fun b11 =>
  (b11 = true → (lenM (.list row7) fun r13 =>
  rngM (.int 1) r13 fun xs14 =>
  lcM (fun first_15 kp sk => ixM (.list row7) first_15 fun r17 =>
  subM r13 first_15 fun r18 =>
  ixM (.list row7) r18 fun r19 =>
  mulM r17 r19 fun r20 =>
  kp r20) (fun l16 =>
  sumM (.list l16) fun r21 =>
  row7.length < sizeLine ∧ (N5 (row7 ++ ([r21] : List PyData)))) xs14 [])) ∧ (b11 = false → B6 row7)) (fun row2 =>
  K row2) n [(.int 0), (.int 1)]
def c_ways_row : CT := fun args Φ Ψ => ∃ (most : PyData) (K : KL) (E : KX), args = [.d most] ∧ f_ways_row most K E ∧ (∀ r, K r → Φ (.nl r) args) ∧ ∀ c, E c → Ψ c args
@[irreducible] def f_how_many (faces : PyData) (K : KD) (E : KX) : Prop :=
  f_need_faces faces (fun r1 =>
  subM faces (.int 1) fun r2 =>
  f_ways_row r2 (fun r3 =>
  subM faces (.int 1) fun r4 =>
  ixM (.list r3) r4 fun r5 =>
  K r5) E) E
def c_how_many : CT := fun args Φ Ψ => ∃ (faces : PyData) (K : KD) (E : KX), args = [.d faces] ∧ f_how_many faces K E ∧ (∀ r, K r → Φ (.rd r) args) ∧ ∀ c, E c → Ψ c args
@[irreducible] def f__law_ways (l_most : PyData) (K : KL) (E : KX) : Prop :=
  addM l_most (.int 1) fun r3 =>
  rngM (.int 1) r3 fun xs2 =>
  forM (fun l_many7 l_row10 N8 B9 => ixM (.list l_row10) (.int (-1)) fun r13 =>
  mulM r13 (.int 2) fun r14 =>
  mulM (.int 2) l_many7 fun r15 =>
  subM r15 (.int 1) fun r16 =>
  mulM r14 r16 fun r17 =>
  addM l_many7 (.int 1) fun r18 =>
  divM r17 r18 fun r19 =>
  l_row10.length < sizeLine ∧ (N8 (l_row10 ++ ([r19] : List PyData)))) (fun l_row4 =>
  K l_row4) xs2 [(.int 1)]
def c__law_ways : CT := fun args Φ Ψ => ∃ (l_most : PyData) (K : KL) (E : KX), args = [.d l_most] ∧ f__law_ways l_most K E ∧ (∀ r, K r → Φ (.nl r) args) ∧ ∀ c, E c → Ψ c args
@[irreducible] def f__law_every_plan (l_faces : PyData) (K : KL) (E : KX) : Prop :=
  rngM (.int 1) l_faces fun xs2 =>
  forM (fun l_wide38 l_arcs41 N39 B40 => addM l_faces (.int 1) fun r50 =>
  subM r50 l_wide38 fun r51 =>
  rngM (.int 1) r51 fun xs49 =>
  forM (fun l_start59 l_arcs62 N60 B61 => joinM (fun (Q : (List (List Key × PyData)) → Prop) => eqM l_wide38 (.int 1) fun b69 =>
  (b69 = true → (addM l_start59 (.int 1) fun r73 =>
  putTM l_arcs62 (.tuple [l_start59, r73]) (.list [(.list [])]) fun kv74 =>
  Q kv74)) ∧ (b69 = false → (addM l_start59 (.int 1) fun r77 =>
  addM l_start59 l_wide38 fun r78 =>
  rngM r77 r78 fun xs76 =>
  forM (fun l_middle86 l_rows89 N87 B88 => getTM l_arcs62 (.tuple [l_start59, l_middle86]) fun r95 =>
  itM r95 fun xs94 =>
  forM (fun l_first100 l_rows103 N101 B102 => addM l_start59 l_wide38 fun r108 =>
  getTM l_arcs62 (.tuple [l_middle86, r108]) fun r109 =>
  itM r109 fun xs107 =>
  forM (fun l_second113 l_rows116 N114 B115 => addM l_first100 l_second113 fun r119 =>
  addM l_start59 l_wide38 fun r120 =>
  addM r119 (.list [(.tuple [l_start59, l_middle86]), (.tuple [l_middle86, r120])]) fun r121 =>
  l_rows116.length < sizeLine ∧ (N114 (l_rows116 ++ ([r121] : List PyData)))) (fun l_rows110 =>
  N101 l_rows110) xs107 l_rows103) (fun l_rows96 =>
  N87 l_rows96) xs94 l_rows89) (fun l_rows79 =>
  addM l_start59 l_wide38 fun r84 =>
  putTM l_arcs62 (.tuple [l_start59, r84]) (.list l_rows79) fun kv85 =>
  Q kv85) xs76 []))) (fun l_arcs123 =>
  N60 l_arcs123)) (fun l_arcs52 =>
  N39 l_arcs52) xs49 l_arcs41) (fun l_arcs3 =>
  getTM l_arcs3 (.tuple [(.int 1), l_faces]) fun r13 =>
  itM r13 fun xs12 =>
  forM (fun l_row18 l_found21 N19 B20 => itM l_row18 fun xs25 =>
  lcM (fun p26 kp sk => un2 p26 fun l_low28 l_high29 =>
  subM l_high29 l_low28 fun r31 =>
  gtM r31 (.int 1) fun b32 =>
  (b32 = true → (modM l_high29 l_faces fun r33 =>
  f__law_pair l_low28 r33 (fun r34 =>
  kp r34) (fun _ => False))) ∧ (b32 = false → sk)) (fun l27 =>
  sortM (.list l27) fun l35 =>
  tupM (.list l35) fun r36 =>
  l_found21.length < sizeLine ∧ (N19 (l_found21 ++ ([(.tuple [l_faces, r36])] : List PyData)))) xs25 []) (fun l_found14 =>
  K l_found14) xs12 []) xs2 []
def c__law_every_plan : CT := fun args Φ Ψ => ∃ (l_faces : PyData) (K : KL) (E : KX), args = [.d l_faces] ∧ f__law_every_plan l_faces K E ∧ (∀ r, K r → Φ (.nl r) args) ∧ ∀ c, E c → Ψ c args
@[irreducible] def f_law_k07 (script : PyData) (K : KD) (E : KX) : Prop :=
  f__law_ways (.int 38) (fun r1 =>
  rngM (.int 0) (.int 8) fun xs2 =>
  forM (fun l_turn11 (_ : Unit) N12 B13 => f__law_pull (.int 38) (fun r16 =>
  addM (.int 3) r16 fun r17 =>
  f_how_many r17 (fun r18 =>
  subM r17 (.int 2) fun r19 =>
  ixM (.list r1) r19 fun r20 =>
  f__law_alike r18 r20 (fun r21 =>
  boolM r21 fun b22 =>
  ((!b22) = true → (K (.bool false))) ∧ ((!b22) = false → (N12 ()))) E) E) E) (fun (_ : Unit) =>
  f__law_pull (.int 5) (fun r5 =>
  addM (.int 3) r5 fun r6 =>
  f_how_many r6 (fun r7 =>
  f__law_every_plan r6 (fun r8 =>
  lenM (.list r8) fun r9 =>
  f__law_alike r7 r9 (fun r10 =>
  K r10) E) E) E) E) xs2 ()) E
/-! counts of plans -/
section
variable {K : KD} {Kl : KL} {E : KX} {n i j : Int} {cs : List (Int × Int)} {p q : Int × Int}
theorem q_ix_rg {m : Nat} {f : Nat → PyData} {a : Int} (h0 : 0 ≤ a) (h : a < m) : ixM (.list (rg m f)) (.int a) K = K (f a.toNat) := by
  show (match atI (rg m f) a with | some y => K y | none => False) = _
  rw [at_rg h0 h]
theorem e_need_faces : f_need_faces (.int n) K E = cond (decide (3 ≤ n) && decide (n ≤ 40)) (K .none) (E (.own "BadFaces")) := by
  unfold f_need_faces
  simp only [q_add_ii, q_add_ss, q_add_ll, q_add_tt, q_addL, q_sub, q_mul, q_div, q_mod, q_neg, q_bool, q_eq_ii, q_eq_ss, q_eq_bb, q_ne_ii, q_ne_ss, q_ne_bb, q_lt, q_le, q_gt, q_ge, q_un2, q_un3, q_un4, q_intO, q_len_l, q_len_t, q_len_s, q_abs, q_int_i, q_int_b, q_tup_l, q_tup_t, q_list_l, q_list_t, q_min, q_max, q_it_l, q_it_t, q_rng, q_enu_l, q_enu_t, q_rev, q_sl_l, q_sl_t, q_sl_s, q_slL, q_all, q_any, q_sum, q_sort_pp, q_and, q_or, q_ite, q_join, cond_true, cond_false, true_and, and_true, decide_eq_true_eq, decide_true, decide_false, p_un_pl, p_ix_pl0, p_ix_pl1, p_un_pp, p_ix_pp0, p_ix_pp1, p_mk, p_eq, p_ne, p_in, p_notIn, p_lt]
  cases (decide (3 ≤ n) && decide (n ≤ 40)) <;> rfl
theorem while_seq {τ : Type} {st : τ → (τ → Prop) → (τ → Prop) → Prop} {K : τ → Prop} (k : Nat) (S : Nat → τ) (h : ∀ i < k, ∀ N : τ → Prop, N (S (i + 1)) → st (S i) N K) (hend : ∀ N : τ → Prop, st (S k) N K) : ∃ n, whileM st K n (S 0) := by
  refine ⟨k + 1, ?_⟩
  have go : ∀ d i, i + d = k → whileM st K (d + 1) (S i) := by
    intro d
    induction d with
    | zero => intro i e; rw [show i = k by omega]; exact hend _
    | succ d ih => intro i e; exact h i (by omega) _ (ih (i + 1) (by omega))
  exact go k 0 (by omega)
theorem for_app {α : Type} {bd : PyData → List PyData → (List PyData → Prop) → (List PyData → Prop) → Prop} {K : List PyData → Prop} (B : Nat) (L : List α) (d : α → PyData) (G : α → List PyData) (h : ∀ a ∈ L, ∀ s, s.length + (G a).length ≤ B → ∀ N : List PyData → Prop, N (s ++ G a) → bd (d a) s N K) (s0 : List PyData) (hB : s0.length + (L.flatMap G).length ≤ B) (hK : K (s0 ++ L.flatMap G)) : forM bd K (L.map d) s0 := by
  induction L generalizing s0 with
  | nil => rw [List.flatMap_nil, List.append_nil] at hK; exact hK
  | cons a L ih =>
    rw [List.flatMap_cons, List.length_append] at hB
    rw [List.flatMap_cons, ← List.append_assoc] at hK
    show bd (d a) s0 _ _
    refine h a (List.mem_cons_self ..) s0 (by omega) _ ?_
    exact ih (fun b hb => h b (List.mem_cons_of_mem _ hb)) _ (by rw [List.length_append]; omega) hK
theorem for_app1 {α : Type} {bd : PyData → List PyData → (List PyData → Prop) → (List PyData → Prop) → Prop} {K : List PyData → Prop} (B : Nat) (L : List α) (d : α → PyData) (f : α → PyData) (h : ∀ a ∈ L, ∀ s, s.length + 1 ≤ B → ∀ N : List PyData → Prop, N (s ++ [f a]) → bd (d a) s N K) (s0 : List PyData) (hB : s0.length + L.length ≤ B) (hK : K (s0 ++ L.map f)) : forM bd K (L.map d) s0 := by
  have e : L.flatMap (fun a => [f a]) = L.map f := by
    clear h hB hK
    induction L with
    | nil => rfl
    | cons a L ih => rw [List.flatMap_cons, List.map_cons, ih]; rfl
  exact for_app B L d (fun a => [f a]) h s0 (by rw [e, List.length_map]; exact hB) (by rw [e]; exact hK)
theorem i_ways_row {n : Nat} (h1 : 1 ≤ n) (h2 : n ≤ 39) (hK : Kl (rg (n + 1) ccD)) : f_ways_row (.int n) Kl E := by
  have hsl := sizeLine_eq
  unfold f_ways_row
  refine while_seq (n - 1) (fun i => rg (2 + i) ccD) (fun i hi N hN => ?_) (fun N => ?_)
  · obtain ⟨q, rfl⟩ : ∃ q, i + 2 = q := ⟨_, rfl⟩
    rw [show 2 + (i + 1) = 2 + i + 1 by omega] at hN
    simp only [q_add_ii, q_add_ss, q_add_ll, q_add_tt, q_addL, q_sub, q_mul, q_div, q_mod, q_neg, q_bool, q_eq_ii, q_eq_ss, q_eq_bb, q_ne_ii, q_ne_ss, q_ne_bb, q_lt, q_le, q_gt, q_ge, q_un2, q_un3, q_un4, q_intO, q_len_l, q_len_t, q_len_s, q_abs, q_int_i, q_int_b, q_tup_l, q_tup_t, q_list_l, q_list_t, q_min, q_max, q_it_l, q_it_t, q_rng, q_enu_l, q_enu_t, q_rev, q_sl_l, q_sl_t, q_sl_s, q_slL, q_all, q_any, q_sum, q_sort_pp, q_and, q_or, q_ite, q_join, cond_true, cond_false, true_and, and_true, decide_eq_true_eq, decide_true, decide_false, p_un_pl, p_ix_pl0, p_ix_pl1, p_un_pp, p_ix_pp0, p_ix_pp1, p_mk, p_eq, p_ne, p_in, p_notIn, p_lt, rg_len]
    rw [decide_eq_true (by omega : ((2 + i : Nat) : Int) ≤ n), cond_true]
    refine ⟨by omega, ?_⟩
    obtain ⟨q, e⟩ : ∃ q, q = 2 + i := ⟨_, rfl⟩
    rw [← e] at hN ⊢
    rw [range_map, show ((q : Int) - 1).toNat = q - 1 by omega]
    rw [q_lc_map _ _ (fun (j : Nat) => PyData.int (cc (1 + (j : Int)).toNat * cc ((q : Int) - (1 + (j : Int))).toNat)) fun j hj k s => by
      have hj := List.mem_range.mp hj
      rw [q_ix_rg (by omega) (by omega)]
      simp only [q_add_ii, q_add_ss, q_add_ll, q_add_tt, q_addL, q_sub, q_mul, q_div, q_mod, q_neg, q_bool, q_eq_ii, q_eq_ss, q_eq_bb, q_ne_ii, q_ne_ss, q_ne_bb, q_lt, q_le, q_gt, q_ge, q_un2, q_un3, q_un4, q_intO, q_len_l, q_len_t, q_len_s, q_abs, q_int_i, q_int_b, q_tup_l, q_tup_t, q_list_l, q_list_t, q_min, q_max, q_it_l, q_it_t, q_rng, q_enu_l, q_enu_t, q_rev, q_sl_l, q_sl_t, q_sl_s, q_slL, q_all, q_any, q_sum, q_sort_pp, q_and, q_or, q_ite, q_join, cond_true, cond_false, true_and, and_true, decide_eq_true_eq, decide_true, decide_false, p_un_pl, p_ix_pl0, p_ix_pl1, p_un_pp, p_ix_pp0, p_ix_pp1, p_mk, p_eq, p_ne, p_in, p_notIn, p_lt]
      rw [q_ix_rg (by omega) (by omega)]
      simp only [q_add_ii, q_add_ss, q_add_ll, q_add_tt, q_addL, q_sub, q_mul, q_div, q_mod, q_neg, q_bool, q_eq_ii, q_eq_ss, q_eq_bb, q_ne_ii, q_ne_ss, q_ne_bb, q_lt, q_le, q_gt, q_ge, q_un2, q_un3, q_un4, q_intO, q_len_l, q_len_t, q_len_s, q_abs, q_int_i, q_int_b, q_tup_l, q_tup_t, q_list_l, q_list_t, q_min, q_max, q_it_l, q_it_t, q_rng, q_enu_l, q_enu_t, q_rev, q_sl_l, q_sl_t, q_sl_s, q_slL, q_all, q_any, q_sum, q_sort_pp, q_and, q_or, q_ite, q_join, cond_true, cond_false, true_and, and_true, decide_eq_true_eq, decide_true, decide_false, p_un_pl, p_ix_pl0, p_ix_pl1, p_un_pp, p_ix_pp0, p_ix_pp1, p_mk, p_eq, p_ne, p_in, p_notIn, p_lt]
      exact propext (and_iff_right (.inr (cc_wide _ _ (by omega) (by omega))))]
    rw [List.nil_append]
    have e : ((List.range (q - 1)).map fun (j : Nat) => PyData.int (cc (1 + (j : Int)).toNat * cc ((q : Int) - (1 + (j : Int))).toNat)) = ((List.range (q - 1)).map fun (j : Nat) => cc (1 + (j : Int)).toNat * cc ((q : Int) - (1 + (j : Int))).toNat).map .int := by rw [List.map_map]; rfl
    rw [e, q_sum, cc_rec q (by omega) (by omega)]
    refine ⟨by omega, ?_⟩
    rw [show rg q ccD ++ [PyData.int (cc q)] = rg (q + 1) ccD from rg_succ q ccD]
    exact hN
  · simp only [q_add_ii, q_add_ss, q_add_ll, q_add_tt, q_addL, q_sub, q_mul, q_div, q_mod, q_neg, q_bool, q_eq_ii, q_eq_ss, q_eq_bb, q_ne_ii, q_ne_ss, q_ne_bb, q_lt, q_le, q_gt, q_ge, q_un2, q_un3, q_un4, q_intO, q_len_l, q_len_t, q_len_s, q_abs, q_int_i, q_int_b, q_tup_l, q_tup_t, q_list_l, q_list_t, q_min, q_max, q_it_l, q_it_t, q_rng, q_enu_l, q_enu_t, q_rev, q_sl_l, q_sl_t, q_sl_s, q_slL, q_all, q_any, q_sum, q_sort_pp, q_and, q_or, q_ite, q_join, cond_true, cond_false, true_and, and_true, decide_eq_true_eq, decide_true, decide_false, p_un_pl, p_ix_pl0, p_ix_pl1, p_un_pp, p_ix_pp0, p_ix_pp1, p_mk, p_eq, p_ne, p_in, p_notIn, p_lt, rg_len]
    rw [decide_eq_false (by omega : ¬ ((2 + (n - 1) : Nat) : Int) ≤ n), cond_false, show 2 + (n - 1) = n + 1 by omega]
    exact hK
theorem e_how_many (h1 : 3 ≤ n) (h2 : n ≤ 40) (hK : K (.int (cc (n - 1).toNat))) : f_how_many (.int n) K E := by
  unfold f_how_many
  rw [e_need_faces, decide_eq_true h1, decide_eq_true h2]
  simp only [q_add_ii, q_add_ss, q_add_ll, q_add_tt, q_addL, q_sub, q_mul, q_div, q_mod, q_neg, q_bool, q_eq_ii, q_eq_ss, q_eq_bb, q_ne_ii, q_ne_ss, q_ne_bb, q_lt, q_le, q_gt, q_ge, q_un2, q_un3, q_un4, q_intO, q_len_l, q_len_t, q_len_s, q_abs, q_int_i, q_int_b, q_tup_l, q_tup_t, q_list_l, q_list_t, q_min, q_max, q_it_l, q_it_t, q_rng, q_enu_l, q_enu_t, q_rev, q_sl_l, q_sl_t, q_sl_s, q_slL, q_all, q_any, q_sum, q_sort_pp, q_and, q_or, q_ite, q_join, cond_true, cond_false, true_and, and_true, decide_eq_true_eq, decide_true, decide_false, p_un_pl, p_ix_pl0, p_ix_pl1, p_un_pp, p_ix_pp0, p_ix_pp1, p_mk, p_eq, p_ne, p_in, p_notIn, p_lt, Bool.and_true]
  obtain ⟨m, rfl⟩ : ∃ m : Nat, n = (m : Int) + 1 := ⟨(n - 1).toNat, by omega⟩
  rw [show ((m : Int) + 1 - 1) = m by omega] at hK ⊢
  refine i_ways_row (by omega) (by omega) ?_
  rw [q_ix_rg (by omega) (by omega)]
  exact hK
theorem at_last {m : Nat} {f : Nat → PyData} : atI (rg (m + 1) f) (-1) = some (f m) := by
  have e : (rg (m + 1) f)[m]? = some (f m) := by simp
  unfold atI ixN
  rw [rg_len, if_neg (by decide), if_pos (by omega), Option.bind_some, show (-1 + ((m + 1 : Nat) : Int)).toNat = m by omega]
  exact e
theorem e__law_ways {m : Nat} (h2 : m ≤ 39) : f__law_ways (.int m) Kl E = Kl (rg (m + 1) fun i => ccD (i + 1)) := by
  have hsl := sizeLine_eq
  unfold f__law_ways
  simp only [q_add_ii, q_add_ss, q_add_ll, q_add_tt, q_addL, q_sub, q_mul, q_div, q_mod, q_neg, q_bool, q_eq_ii, q_eq_ss, q_eq_bb, q_ne_ii, q_ne_ss, q_ne_bb, q_lt, q_le, q_gt, q_ge, q_un2, q_un3, q_un4, q_intO, q_len_l, q_len_t, q_len_s, q_abs, q_int_i, q_int_b, q_tup_l, q_tup_t, q_list_l, q_list_t, q_min, q_max, q_it_l, q_it_t, q_rng, q_enu_l, q_enu_t, q_rev, q_sl_l, q_sl_t, q_sl_s, q_slL, q_all, q_any, q_sum, q_sort_pp, q_and, q_or, q_ite, q_join, cond_true, cond_false, true_and, and_true, decide_eq_true_eq, decide_true, decide_false, p_un_pl, p_ix_pl0, p_ix_pl1, p_un_pp, p_ix_pp0, p_ix_pp1, p_mk, p_eq, p_ne, p_in, p_notIn, p_lt]
  refine Eq.trans (propext (and_iff_right (by omega))) ?_
  rw [range_map, show ((m : Int) + 1 - 1).toNat = m by omega]
  rw [show [PyData.int 1] = rg (0 + 1) (fun i => ccD (i + 1)) from rfl]
  rw [q_for_seq (List.range m) (fun (i : Nat) => PyData.int (1 + (i : Nat))) (fun i => rg (i + 1) fun i => ccD (i + 1)) fun i a ha N => ?_]
  · rw [List.length_range]
  · have hi := (List.getElem?_eq_some_iff.mp ha).1
    rw [List.length_range] at hi
    rw [List.getElem?_range hi] at ha
    cases ha
    show (match atI (rg (i + 1) fun i => ccD (i + 1)) (-1) with | some y => _ | none => False) = _
    rw [at_last]
    simp only [q_add_ii, q_add_ss, q_add_ll, q_add_tt, q_addL, q_sub, q_mul, q_div, q_mod, q_neg, q_bool, q_eq_ii, q_eq_ss, q_eq_bb, q_ne_ii, q_ne_ss, q_ne_bb, q_lt, q_le, q_gt, q_ge, q_un2, q_un3, q_un4, q_intO, q_len_l, q_len_t, q_len_s, q_abs, q_int_i, q_int_b, q_tup_l, q_tup_t, q_list_l, q_list_t, q_min, q_max, q_it_l, q_it_t, q_rng, q_enu_l, q_enu_t, q_rev, q_sl_l, q_sl_t, q_sl_s, q_slL, q_all, q_any, q_sum, q_sort_pp, q_and, q_or, q_ite, q_join, cond_true, cond_false, true_and, and_true, decide_eq_true_eq, decide_true, decide_false, p_un_pl, p_ix_pl0, p_ix_pl1, p_un_pp, p_ix_pp0, p_ix_pp1, p_mk, p_eq, p_ne, p_in, p_notIn, p_lt, rg_len]
    have c1 := cc_lt (i + 1) (by omega)
    have c2 : (cc (i + 1) * 2).natAbs < 2 ^ 81 := by
      rw [Int.natAbs_mul, show (2 : Int).natAbs = 2 from rfl, show (2 : Nat) ^ 81 = 2 ^ 80 * 2 by decide]
      omega
    have e1 : cc (i + 1) * 2 * (2 * (1 + (i : Int)) - 1) / (1 + (i : Int) + 1) = cc (i + 1 + 1) := by
      rw [← cc_cat (i + 1) (by omega) (by omega)]
      rw [show (1 + (i : Int)) = ((i + 1 : Nat) : Int) by omega]
    rw [e1, show (rg (i + 1) fun i => ccD (i + 1)) ++ [PyData.int (cc (i + 1 + 1))] = rg (i + 1 + 1) fun i => ccD (i + 1) from rg_succ (i + 1) fun i => ccD (i + 1)]
    refine propext ⟨fun h => h.2.2.2.2.2, fun h => ⟨.inr (wide_mul c1 (by decide : (2 : Int).natAbs < 2 ^ 2) (by decide) (by decide) (by decide)), .inr (wide_mul (by decide : (2 : Int).natAbs < 2 ^ 2) (by omega : (1 + (i : Int)).natAbs < 2 ^ 20) (by decide) (by decide) (by decide)), .inr (wide_mul c2 (by omega : (2 * (1 + (i : Int)) - 1).natAbs < 2 ^ 20) (by decide) (by decide) (by decide)), wide_div (by omega) (by omega : (1 + (i : Int) + 1).natAbs < 2 ^ 20) (by decide) (by decide), by omega, h⟩⟩
/-! all plans of few faces -/
def wrF : Nat → Nat → Int → List (List (Int × Int))
  | 0, _, _ => [[]]
  | f + 1, w, s => if w ≤ 1 then [[]] else (List.range (w - 1)).flatMap fun j => (wrF f (1 + j) s).flatMap fun a => (wrF f (w - 1 - j) (s + 1 + (j : Int))).map fun b => a ++ b ++ [(s, s + 1 + (j : Int)), (s + 1 + (j : Int), s + (w : Int))]
theorem wrF_eq : ∀ f g w s, w ≤ f → w ≤ g → wrF f w s = wrF g w s := by
  intro f
  induction f with
  | zero =>
    intro g w s h1 h2
    cases g with
    | zero => rfl
    | succ g => unfold wrF; rw [if_pos (by omega)]
  | succ f ih =>
    intro g w s h1 h2
    cases g with
    | zero => unfold wrF; rw [if_pos (by omega)]
    | succ g =>
      unfold wrF
      by_cases h : w ≤ 1
      · rw [if_pos h, if_pos h]
      · rw [if_neg h, if_neg h]
        refine congrArg List.flatten (List.map_congr_left fun j hj => ?_)
        have hj := List.mem_range.mp hj
        rw [ih g (1 + j) s (by omega) (by omega), ih g (w - 1 - j) _ (by omega) (by omega)]
def wr (w : Nat) (s : Int) : List (List (Int × Int)) := wrF w w s
theorem wr_one (s : Int) : wr 1 s = [[]] := rfl
theorem wr_step {w : Nat} (h : 2 ≤ w) (s : Int) : wr w s = (List.range (w - 1)).flatMap fun j => (wr (1 + j) s).flatMap fun a => (wr (w - 1 - j) (s + 1 + (j : Int))).map fun b => a ++ b ++ [(s, s + 1 + (j : Int)), (s + 1 + (j : Int), s + (w : Int))] := by
  unfold wr
  obtain ⟨f, rfl⟩ : ∃ f, w = f + 1 := ⟨w - 1, by omega⟩
  conv => lhs; unfold wrF
  rw [if_neg (by omega)]
  refine congrArg List.flatten (List.map_congr_left fun j hj => ?_)
  have hj := List.mem_range.mp hj
  rw [wrF_eq f (1 + j) (1 + j) s (by omega) (by omega), wrF_eq f (f + 1 - 1 - j) (f + 1 - 1 - j) _ (by omega) (by omega)]
theorem sum_cast {α : Type} (L : List α) (f : α → Nat) : ((L.map f).sum : Int) = (L.map fun a => (f a : Int)).sum := by
  induction L with
  | nil => rfl
  | cons a L ih => simp [ih]
theorem wr_len : ∀ (w : Nat), 1 ≤ w → w < 41 → ∀ s, ((wr w s).length : Int) = cc w := by
  intro w
  induction w using Nat.strongRecOn with
  | _ w ih =>
    intro h1 h2 s
    by_cases h : w = 1
    · subst h; rfl
    · rw [wr_step (by omega), List.length_flatMap, sum_cast, ← cc_rec w h2 (by omega)]
      refine congrArg List.sum (List.map_congr_left fun j hj => ?_)
      have hj := List.mem_range.mp hj
      rw [List.length_flatMap]
      have e : ∀ (A : List (List (Int × Int))) (c : Nat), ((A.map fun _ => c).sum : Nat) = A.length * c := fun A c => by
        induction A with
        | nil => simp
        | cons a A ih => simp [ih, Nat.add_mul, Nat.add_comm]
      simp only [List.length_map]
      rw [e, Int.natCast_mul, ih (1 + j) (by omega) (by omega) (by omega), ih (w - 1 - j) (by omega) (by omega) (by omega)]
      rw [show (1 + (j : Int)).toNat = 1 + j by omega, show ((w : Int) - (1 + (j : Int))).toNat = w - 1 - j by omega]
theorem wr_row : ∀ (w : Nat) (s : Int), ∀ r ∈ wr w s, r.length ≤ 2 * (w - 1) := by
  intro w
  induction w using Nat.strongRecOn with
  | _ w ih =>
    intro s r hr
    by_cases h : w ≤ 1
    · have : wr w s = [[]] := by
        obtain rfl | rfl : w = 0 ∨ w = 1 := by omega
        all_goals rfl
      rw [this] at hr
      rw [List.mem_singleton.mp hr]; simp
    · rw [wr_step (by omega)] at hr
      obtain ⟨j, hj, hr⟩ := List.mem_flatMap.mp hr
      obtain ⟨a, ha, hr⟩ := List.mem_flatMap.mp hr
      obtain ⟨b, hb, rfl⟩ := List.mem_map.mp hr
      have hj := List.mem_range.mp hj
      have q1 := ih _ (by omega) _ a ha
      have q2 := ih _ (by omega) _ b hb
      simp only [List.length_append, List.length_cons, List.length_nil]
      omega
theorem valP_put {κ : Type} [DecidableEq κ] {kvs : List (κ × PyData)} {k k' : κ} {d : PyData} : valP (putP kvs k d) k' = if k' = k then some d else valP kvs k' := by
  unfold putP valP
  by_cases h : (kvs.any fun kv => decide (kv.1 = k)) = true
  · rw [if_pos h]
    induction kvs with
    | nil => simp at h
    | cons kv r ih =>
      rw [List.map_cons]
      by_cases e : kv.1 = k
      · rw [if_pos e]
        by_cases e2 : k' = k
        · subst e2; simp [List.find?_cons, e]
        · rw [if_neg e2]
          have ne : ¬ kv.1 = k' := fun z => e2 (z ▸ e)
          simp only [List.find?_cons, ne, decide_false]
          clear ih h
          induction r with
          | nil => rfl
          | cons kv2 r ih2 =>
            rw [List.map_cons]
            by_cases e3 : kv2.1 = k
            · rw [if_pos e3]
              have ne : ¬ kv2.1 = k' := fun z => e2 (z ▸ e3)
              simp only [List.find?_cons, ne, decide_false]
              exact ih2
            · rw [if_neg e3]
              by_cases e4 : kv2.1 = k'
              · simp [List.find?_cons, e4]
              · simp only [List.find?_cons, e4, decide_false]
                exact ih2
      · rw [if_neg e]
        have h' : (r.any fun kv => decide (kv.1 = k)) = true := by simpa [e] using h
        by_cases e4 : kv.1 = k'
        · have : ¬ k' = k := fun z => e (e4.trans z)
          simp [List.find?_cons, e4, this]
        · simp only [List.find?_cons, e4, decide_false]
          exact ih h'
  · rw [if_neg h, List.find?_append]
    by_cases e2 : k' = k
    · subst e2
      have : (kvs.find? fun kv => decide (kv.1 = k')) = none := List.find?_eq_none.mpr fun x hx z => h (List.any_eq_true.mpr ⟨x, hx, z⟩)
      rw [this]; simp
    · have : ¬ k = k' := fun z => e2 z.symm
      rw [if_neg e2]
      cases kvs.find? fun kv => decide (kv.1 = k') <;> simp [this]
theorem putP_len {κ : Type} [DecidableEq κ] {kvs : List (κ × PyData)} {k : κ} {d : PyData} : (putP kvs k d).length ≤ kvs.length + 1 := by
  unfold putP
  split <;> simp
/-! the law's own count of all plans -/
abbrev AT := List (List Key × PyData)
abbrev rowD (l : List (Int × Int)) : PyData := .list (l.map ppD)
abbrev kT (i j : Int) : List Key := [.inl i, .inl j]
theorem q_getT {kvs : AT} : getTM kvs (ppD p) K = (match valP kvs (kT p.1 p.2) with | some d => K d | none => False) := rfl
theorem q_putT {kvs : AT} {v : PyData} {Q : AT → Prop} : putTM kvs (ppD p) v Q = (kvs.length < sizeLine ∧ Q (putP kvs (kT p.1 p.2) v)) := rfl
/-- widths below w are told, and the first t starts of width w -/
structure Told (n : Int) (w t : Nat) (A : AT) : Prop where
  len : A.length ≤ 100 * w + t
  low : ∀ v : Nat, 1 ≤ v → v < w → ∀ s : Int, 1 ≤ s → s + v ≤ n → valP A (kT s (s + v)) = some (.list ((wr v s).map rowD))
  cur : ∀ s : Int, 1 ≤ s → s ≤ t → s + w ≤ n → valP A (kT s (s + w)) = some (.list ((wr w s).map rowD))
theorem Told.put {w t : Nat} {A : AT} (h : Told n w t A) {v : PyData} (hv : v = .list ((wr w (1 + (t : Int))).map rowD)) : Told n w (t + 1) (putP A (kT (1 + (t : Int)) (1 + (t : Int) + w)) v) := by
  refine ⟨?_, fun v' v1 v2 s s1 s2 => ?_, fun s s1 s2 s3 => ?_⟩
  · have := putP_len (kvs := A) (k := kT (1 + (t : Int)) (1 + (t : Int) + w)) (d := v)
    have := h.len
    omega
  · rw [valP_put, if_neg (fun e => by injection e with e1 e2; injection e1 with e1; injection e2 with e2; injection e2 with e2; omega)]
    exact h.low v' v1 v2 s s1 s2
  · rw [valP_put]
    by_cases e : s = 1 + (t : Int)
    · subst e
      rw [if_pos rfl, hv]
    · rw [if_neg (fun z => by injection z with e1 e2; injection e1 with e1; exact e e1)]
      exact h.cur s s1 (by omega) s3
theorem cc_small : ∀ w < 9, cc w ≤ 5000 := by decide +kernel
theorem e__law_every_plan (h1 : 3 ≤ n) (h2 : n ≤ 9) (hK : Kl ((wr (n - 1).toNat 1).map fun l => plD n (planOf n l))) : f__law_every_plan (.int n) Kl E := by
  have hsl := sizeLine_eq
  unfold f__law_every_plan
  simp only [q_add_ii, q_add_ss, q_add_ll, q_add_tt, q_addL, q_sub, q_mul, q_div, q_mod, q_neg, q_bool, q_eq_ii, q_eq_ss, q_eq_bb, q_ne_ii, q_ne_ss, q_ne_bb, q_lt, q_le, q_gt, q_ge, q_un2, q_un3, q_un4, q_intO, q_len_l, q_len_t, q_len_s, q_abs, q_int_i, q_int_b, q_tup_l, q_tup_t, q_list_l, q_list_t, q_min, q_max, q_it_l, q_it_t, q_rng, q_enu_l, q_enu_t, q_rev, q_sl_l, q_sl_t, q_sl_s, q_slL, q_all, q_any, q_sum, q_sort_pp, q_and, q_or, q_ite, q_join, cond_true, cond_false, true_and, and_true, decide_eq_true_eq, decide_true, decide_false, p_un_pl, p_ix_pl0, p_ix_pl1, p_un_pp, p_ix_pp0, p_ix_pp1, p_mk, p_eq, p_ne, p_in, p_notIn, p_lt]
  refine ⟨by omega, ?_⟩
  rw [range_map]
  refine forM_inv (List.range (n - 1).toNat) (fun (i : Nat) => PyData.int (1 + (i : Nat))) (fun i A => Told n (i + 1) 0 A) (fun i a ha A hA N hN => ?_) (fun A hA => ?_) _ ⟨by simp, fun v v1 v2 => by omega, fun s s1 s2 => by omega⟩
  · have hi := (List.getElem?_eq_some_iff.mp ha).1
    rw [List.length_range] at hi
    rw [List.getElem?_range hi] at ha
    cases ha
    simp only [q_add_ii, q_add_ss, q_add_ll, q_add_tt, q_addL, q_sub, q_mul, q_div, q_mod, q_neg, q_bool, q_eq_ii, q_eq_ss, q_eq_bb, q_ne_ii, q_ne_ss, q_ne_bb, q_lt, q_le, q_gt, q_ge, q_un2, q_un3, q_un4, q_intO, q_len_l, q_len_t, q_len_s, q_abs, q_int_i, q_int_b, q_tup_l, q_tup_t, q_list_l, q_list_t, q_min, q_max, q_it_l, q_it_t, q_rng, q_enu_l, q_enu_t, q_rev, q_sl_l, q_sl_t, q_sl_s, q_slL, q_all, q_any, q_sum, q_sort_pp, q_and, q_or, q_ite, q_join, cond_true, cond_false, true_and, and_true, decide_eq_true_eq, decide_true, decide_false, p_un_pl, p_ix_pl0, p_ix_pl1, p_un_pp, p_ix_pp0, p_ix_pp1, p_mk, p_eq, p_ne, p_in, p_notIn, p_lt]
    refine ⟨by omega, ?_⟩
    rw [range_map]
    refine forM_inv (List.range (n + 1 - (1 + (i : Int)) - 1).toNat) (fun (t : Nat) => PyData.int (1 + (t : Nat))) (fun t A => Told n (i + 1) t A) (fun t a ha A hA N hN => ?_) (fun A hA => ?_) _ hA
    · have ht := (List.getElem?_eq_some_iff.mp ha).1
      rw [List.length_range] at ht
      rw [List.getElem?_range ht] at ha
      cases ha
      have hlen := hA.len
      by_cases e : i = 0
      · subst e
        simp only [q_add_ii, q_add_ss, q_add_ll, q_add_tt, q_addL, q_sub, q_mul, q_div, q_mod, q_neg, q_bool, q_eq_ii, q_eq_ss, q_eq_bb, q_ne_ii, q_ne_ss, q_ne_bb, q_lt, q_le, q_gt, q_ge, q_un2, q_un3, q_un4, q_intO, q_len_l, q_len_t, q_len_s, q_abs, q_int_i, q_int_b, q_tup_l, q_tup_t, q_list_l, q_list_t, q_min, q_max, q_it_l, q_it_t, q_rng, q_enu_l, q_enu_t, q_rev, q_sl_l, q_sl_t, q_sl_s, q_slL, q_all, q_any, q_sum, q_sort_pp, q_and, q_or, q_ite, q_join, cond_true, cond_false, true_and, and_true, decide_eq_true_eq, decide_true, decide_false, p_un_pl, p_ix_pl0, p_ix_pl1, p_un_pp, p_ix_pp0, p_ix_pp1, p_mk, p_eq, p_ne, p_in, p_notIn, p_lt, q_putT]
        rw [decide_eq_true (by omega : (1 + ((0 : Nat) : Int) = 1)), cond_true]
        refine ⟨by omega, hN _ ?_⟩
        exact hA.put rfl
      · simp only [q_add_ii, q_add_ss, q_add_ll, q_add_tt, q_addL, q_sub, q_mul, q_div, q_mod, q_neg, q_bool, q_eq_ii, q_eq_ss, q_eq_bb, q_ne_ii, q_ne_ss, q_ne_bb, q_lt, q_le, q_gt, q_ge, q_un2, q_un3, q_un4, q_intO, q_len_l, q_len_t, q_len_s, q_abs, q_int_i, q_int_b, q_tup_l, q_tup_t, q_list_l, q_list_t, q_min, q_max, q_it_l, q_it_t, q_rng, q_enu_l, q_enu_t, q_rev, q_sl_l, q_sl_t, q_sl_s, q_slL, q_all, q_any, q_sum, q_sort_pp, q_and, q_or, q_ite, q_join, cond_true, cond_false, true_and, and_true, decide_eq_true_eq, decide_true, decide_false, p_un_pl, p_ix_pl0, p_ix_pl1, p_un_pp, p_ix_pp0, p_ix_pp1, p_mk, p_eq, p_ne, p_in, p_notIn, p_lt]
        rw [decide_eq_false (by omega : ¬ (1 + (i : Int) = 1)), cond_false]
        refine ⟨by omega, ?_⟩
        rw [range_map, show (1 + (t : Int) + (1 + (i : Int)) - (1 + (t : Int) + 1)).toNat = i by omega]
        have hlw := wr_len (i + 1) (by omega) (by omega) (1 + (t : Int))
        have hsm := cc_small (i + 1) (by omega)
        have ws := wr_step (w := i + 1) (by omega) (1 + (t : Int))
        have ws2 : (wr (i + 1) (1 + (t : Int))).map rowD = (List.range i).flatMap fun j => ((wr (1 + j) (1 + (t : Int))).flatMap fun a => (wr (i + 1 - 1 - j) (1 + (t : Int) + 1 + (j : Int))).map fun b => rowD (a ++ b ++ [(1 + (t : Int), 1 + (t : Int) + 1 + (j : Int)), (1 + (t : Int) + 1 + (j : Int), 1 + (t : Int) + ((i + 1 : Nat) : Int))])) := by
          rw [ws]; simp only [List.map_flatMap, List.map_map]; rfl
        have hB : ((wr (i + 1) (1 + (t : Int))).map rowD).length ≤ 5000 := by rw [List.length_map]; omega
        refine for_app ((wr (i + 1) (1 + (t : Int))).map rowD).length (List.range i) _ (fun j => ((wr (1 + j) (1 + (t : Int))).flatMap fun a => (wr (i + 1 - 1 - j) (1 + (t : Int) + 1 + (j : Int))).map fun b => rowD (a ++ b ++ [(1 + (t : Int), 1 + (t : Int) + 1 + (j : Int)), (1 + (t : Int) + 1 + (j : Int), 1 + (t : Int) + ((i + 1 : Nat) : Int))]))) (fun j hj S hS N2 hN2 => ?_) [] (by rw [← ws2]; simp) ?_
        · have hj := List.mem_range.mp hj
          have g1 := hA.low (1 + j) (by omega) (by omega) (1 + (t : Int)) (by omega) (by omega)
          have g2 := hA.low (i - j) (by omega) (by omega) (1 + (t : Int) + 1 + j) (by omega) (by omega)
          rw [show (1 + (t : Int) + ((1 + j : Nat) : Int)) = 1 + (t : Int) + 1 + (j : Int) by omega] at g1
          rw [show (1 + (t : Int) + 1 + (j : Int) + ((i - j : Nat) : Int)) = 1 + (t : Int) + (1 + (i : Int)) by omega] at g2
          simp only [q_add_ii, q_add_ss, q_add_ll, q_add_tt, q_addL, q_sub, q_mul, q_div, q_mod, q_neg, q_bool, q_eq_ii, q_eq_ss, q_eq_bb, q_ne_ii, q_ne_ss, q_ne_bb, q_lt, q_le, q_gt, q_ge, q_un2, q_un3, q_un4, q_intO, q_len_l, q_len_t, q_len_s, q_abs, q_int_i, q_int_b, q_tup_l, q_tup_t, q_list_l, q_list_t, q_min, q_max, q_it_l, q_it_t, q_rng, q_enu_l, q_enu_t, q_rev, q_sl_l, q_sl_t, q_sl_s, q_slL, q_all, q_any, q_sum, q_sort_pp, q_and, q_or, q_ite, q_join, cond_true, cond_false, true_and, and_true, decide_eq_true_eq, decide_true, decide_false, p_un_pl, p_ix_pl0, p_ix_pl1, p_un_pp, p_ix_pp0, p_ix_pp1, p_mk, p_eq, p_ne, p_in, p_notIn, p_lt, q_getT, g1]
          refine for_app (S.length + _) (wr (1 + j) (1 + (t : Int))) rowD _ (fun a ha S2 hS2 N3 hN3 => ?_) S (Nat.le_refl _) hN2
          simp only [q_add_ii, q_add_ss, q_add_ll, q_add_tt, q_addL, q_sub, q_mul, q_div, q_mod, q_neg, q_bool, q_eq_ii, q_eq_ss, q_eq_bb, q_ne_ii, q_ne_ss, q_ne_bb, q_lt, q_le, q_gt, q_ge, q_un2, q_un3, q_un4, q_intO, q_len_l, q_len_t, q_len_s, q_abs, q_int_i, q_int_b, q_tup_l, q_tup_t, q_list_l, q_list_t, q_min, q_max, q_it_l, q_it_t, q_rng, q_enu_l, q_enu_t, q_rev, q_sl_l, q_sl_t, q_sl_s, q_slL, q_all, q_any, q_sum, q_sort_pp, q_and, q_or, q_ite, q_join, cond_true, cond_false, true_and, and_true, decide_eq_true_eq, decide_true, decide_false, p_un_pl, p_ix_pl0, p_ix_pl1, p_un_pp, p_ix_pp0, p_ix_pp1, p_mk, p_eq, p_ne, p_in, p_notIn, p_lt, q_getT, g2]
          refine for_app1 (S2.length + _) (wr (i + 1 - 1 - j) (1 + (t : Int) + 1 + (j : Int))) rowD (fun b => rowD (a ++ b ++ [(1 + (t : Int), 1 + (t : Int) + 1 + (j : Int)), (1 + (t : Int) + 1 + (j : Int), 1 + (t : Int) + ((i + 1 : Nat) : Int))])) (fun b hb S3 hS3 N4 hN4 => ?_) S2 (Nat.le_refl _) ?_
          · have ra := wr_row _ _ a ha
            have rb := wr_row _ _ b hb
            simp only [q_add_ii, q_add_ss, q_add_ll, q_add_tt, q_addL, q_sub, q_mul, q_div, q_mod, q_neg, q_bool, q_eq_ii, q_eq_ss, q_eq_bb, q_ne_ii, q_ne_ss, q_ne_bb, q_lt, q_le, q_gt, q_ge, q_un2, q_un3, q_un4, q_intO, q_len_l, q_len_t, q_len_s, q_abs, q_int_i, q_int_b, q_tup_l, q_tup_t, q_list_l, q_list_t, q_min, q_max, q_it_l, q_it_t, q_rng, q_enu_l, q_enu_t, q_rev, q_sl_l, q_sl_t, q_sl_s, q_slL, q_all, q_any, q_sum, q_sort_pp, q_and, q_or, q_ite, q_join, cond_true, cond_false, true_and, and_true, decide_eq_true_eq, decide_true, decide_false, p_un_pl, p_ix_pl0, p_ix_pl1, p_un_pp, p_ix_pp0, p_ix_pp1, p_mk, p_eq, p_ne, p_in, p_notIn, p_lt, List.length_map, List.length_append, List.length_cons, List.length_nil]
            rw [List.length_map] at hS2
            refine ⟨by omega, by omega, by omega, ?_⟩
            have e4 : a.map ppD ++ b.map ppD ++ [ppD (1 + (t : Int), 1 + (t : Int) + 1 + (j : Int)), ppD (1 + (t : Int) + 1 + (j : Int), 1 + (t : Int) + (1 + (i : Int)))] = (a ++ b ++ [(1 + (t : Int), 1 + (t : Int) + 1 + (j : Int)), (1 + (t : Int) + 1 + (j : Int), 1 + (t : Int) + ((i + 1 : Nat) : Int))]).map ppD := by
              rw [List.map_append, List.map_append, show (1 + (i : Int)) = ((i + 1 : Nat) : Int) by omega]; rfl
            rw [e4]
            exact hN4
          · exact hN3
        · simp only [q_add_ii, q_add_ss, q_add_ll, q_add_tt, q_addL, q_sub, q_mul, q_div, q_mod, q_neg, q_bool, q_eq_ii, q_eq_ss, q_eq_bb, q_ne_ii, q_ne_ss, q_ne_bb, q_lt, q_le, q_gt, q_ge, q_un2, q_un3, q_un4, q_intO, q_len_l, q_len_t, q_len_s, q_abs, q_int_i, q_int_b, q_tup_l, q_tup_t, q_list_l, q_list_t, q_min, q_max, q_it_l, q_it_t, q_rng, q_enu_l, q_enu_t, q_rev, q_sl_l, q_sl_t, q_sl_s, q_slL, q_all, q_any, q_sum, q_sort_pp, q_and, q_or, q_ite, q_join, cond_true, cond_false, true_and, and_true, decide_eq_true_eq, decide_true, decide_false, p_un_pl, p_ix_pl0, p_ix_pl1, p_un_pp, p_ix_pp0, p_ix_pp1, p_mk, p_eq, p_ne, p_in, p_notIn, p_lt, q_putT]
          refine ⟨by omega, hN _ ?_⟩
          rw [show (1 + (i : Int)) = ((i + 1 : Nat) : Int) by omega]
          exact hA.put (by rw [← ws2]; rfl)
    · refine hN _ ⟨by have := hA.len; rw [List.length_range] at this; omega, fun v v1 v2 s s1 s2 => ?_, fun s s1 s2 => by omega⟩
      by_cases e : v = i + 1
      · subst e
        refine hA.cur s s1 ?_ s2
        rw [List.length_range]; omega
      · exact hA.low v v1 (by omega) s s1 s2
  · rw [List.length_range] at hA
    have g := hA.low (n - 1).toNat (by omega) (by omega) 1 (by omega) (by omega)
    rw [show (1 : Int) + ((n - 1).toNat : Int) = n by omega] at g
    simp only [q_add_ii, q_add_ss, q_add_ll, q_add_tt, q_addL, q_sub, q_mul, q_div, q_mod, q_neg, q_bool, q_eq_ii, q_eq_ss, q_eq_bb, q_ne_ii, q_ne_ss, q_ne_bb, q_lt, q_le, q_gt, q_ge, q_un2, q_un3, q_un4, q_intO, q_len_l, q_len_t, q_len_s, q_abs, q_int_i, q_int_b, q_tup_l, q_tup_t, q_list_l, q_list_t, q_min, q_max, q_it_l, q_it_t, q_rng, q_enu_l, q_enu_t, q_rev, q_sl_l, q_sl_t, q_sl_s, q_slL, q_all, q_any, q_sum, q_sort_pp, q_and, q_or, q_ite, q_join, cond_true, cond_false, true_and, and_true, decide_eq_true_eq, decide_true, decide_false, p_un_pl, p_ix_pl0, p_ix_pl1, p_un_pp, p_ix_pp0, p_ix_pp1, p_mk, p_eq, p_ne, p_in, p_notIn, p_lt, q_getT, g]
    have hlw := wr_len (n - 1).toNat (by omega) (by omega) 1
    have hsm := cc_small (n - 1).toNat (by omega)
    refine for_app1 5000 (wr (n - 1).toNat 1) rowD (fun l => plD n (planOf n l)) (fun l hl S hS N hN => ?_) [] (by simp only [List.length_nil]; omega) hK
    simp only [q_add_ii, q_add_ss, q_add_ll, q_add_tt, q_addL, q_sub, q_mul, q_div, q_mod, q_neg, q_bool, q_eq_ii, q_eq_ss, q_eq_bb, q_ne_ii, q_ne_ss, q_ne_bb, q_lt, q_le, q_gt, q_ge, q_un2, q_un3, q_un4, q_intO, q_len_l, q_len_t, q_len_s, q_abs, q_int_i, q_int_b, q_tup_l, q_tup_t, q_list_l, q_list_t, q_min, q_max, q_it_l, q_it_t, q_rng, q_enu_l, q_enu_t, q_rev, q_sl_l, q_sl_t, q_sl_s, q_slL, q_all, q_any, q_sum, q_sort_pp, q_and, q_or, q_ite, q_join, cond_true, cond_false, true_and, and_true, decide_eq_true_eq, decide_true, decide_false, p_un_pl, p_ix_pl0, p_ix_pl1, p_un_pp, p_ix_pp0, p_ix_pp1, p_mk, p_eq, p_ne, p_in, p_notIn, p_lt]
    rw [q_lc_fil _ _ wide (fun p => ppD (nrm n p)) fun p hp k s => ?_]
    · rw [List.nil_append, show ((l.filter wide).map fun p => ppD (nrm n p)) = ((l.filter wide).map (nrm n)).map ppD by rw [List.map_map]; rfl, q_sort_pp, srt_pp]
      exact ⟨by omega, hN⟩
    · simp only [q_add_ii, q_add_ss, q_add_ll, q_add_tt, q_addL, q_sub, q_mul, q_div, q_mod, q_neg, q_bool, q_eq_ii, q_eq_ss, q_eq_bb, q_ne_ii, q_ne_ss, q_ne_bb, q_lt, q_le, q_gt, q_ge, q_un2, q_un3, q_un4, q_intO, q_len_l, q_len_t, q_len_s, q_abs, q_int_i, q_int_b, q_tup_l, q_tup_t, q_list_l, q_list_t, q_min, q_max, q_it_l, q_it_t, q_rng, q_enu_l, q_enu_t, q_rev, q_sl_l, q_sl_t, q_sl_s, q_slL, q_all, q_any, q_sum, q_sort_pp, q_and, q_or, q_ite, q_join, cond_true, cond_false, true_and, and_true, decide_eq_true_eq, decide_true, decide_false, p_un_pl, p_ix_pl0, p_ix_pl1, p_un_pp, p_ix_pp0, p_ix_pp1, p_mk, p_eq, p_ne, p_in, p_notIn, p_lt, e__law_pair]
      rw [show decide (1 < p.2 - p.1) = wide p from rfl]
      refine congrArg (fun z => cond (wide p) z s) ?_
      exact propext (and_iff_right (by omega))
theorem e_law_k07 (ns : List Int) (h : ns.length ≤ 63) : f_law_k07 (.list (ns.map .int)) (fun r => r = .bool true) (fun _ => False) := by
  have hsl := sizeLine_eq
  unfold f_law_k07
  simp only [q_add_ii, q_add_ss, q_add_ll, q_add_tt, q_addL, q_sub, q_mul, q_div, q_mod, q_neg, q_bool, q_eq_ii, q_eq_ss, q_eq_bb, q_ne_ii, q_ne_ss, q_ne_bb, q_lt, q_le, q_gt, q_ge, q_un2, q_un3, q_un4, q_intO, q_len_l, q_len_t, q_len_s, q_abs, q_int_i, q_int_b, q_tup_l, q_tup_t, q_list_l, q_list_t, q_min, q_max, q_it_l, q_it_t, q_rng, q_enu_l, q_enu_t, q_rev, q_sl_l, q_sl_t, q_sl_s, q_slL, q_all, q_any, q_sum, q_sort_pp, q_and, q_or, q_ite, q_join, cond_true, cond_false, true_and, and_true, decide_eq_true_eq, decide_true, decide_false, p_un_pl, p_ix_pl0, p_ix_pl1, p_un_pp, p_ix_pp0, p_ix_pp1, p_mk, p_eq, p_ne, p_in, p_notIn, p_lt]
  rw [show (PyData.int 38) = .int ((38 : Nat) : Int) from rfl, e__law_ways (by decide)]
  refine ⟨by decide, ?_⟩
  rw [range0]
  refine forM_inv (List.range 8) (fun (i : Nat) => PyData.int i) (fun _ _ => True) (fun i a ha u hu N hN => ?_) (fun u hu => ?_) _ trivial
  · rw [e__law_pull (by decide) (by decide)]
    intro r r0 r1
    simp only [q_add_ii, q_add_ss, q_add_ll, q_add_tt, q_addL, q_sub, q_mul, q_div, q_mod, q_neg, q_bool, q_eq_ii, q_eq_ss, q_eq_bb, q_ne_ii, q_ne_ss, q_ne_bb, q_lt, q_le, q_gt, q_ge, q_un2, q_un3, q_un4, q_intO, q_len_l, q_len_t, q_len_s, q_abs, q_int_i, q_int_b, q_tup_l, q_tup_t, q_list_l, q_list_t, q_min, q_max, q_it_l, q_it_t, q_rng, q_enu_l, q_enu_t, q_rev, q_sl_l, q_sl_t, q_sl_s, q_slL, q_all, q_any, q_sum, q_sort_pp, q_and, q_or, q_ite, q_join, cond_true, cond_false, true_and, and_true, decide_eq_true_eq, decide_true, decide_false, p_un_pl, p_ix_pl0, p_ix_pl1, p_un_pp, p_ix_pp0, p_ix_pp1, p_mk, p_eq, p_ne, p_in, p_notIn, p_lt]
    refine e_how_many (by omega) (by omega) ?_
    rw [q_ix_rg (by omega) (by omega), show (3 + r - 2).toNat + 1 = (3 + r - 1).toNat by omega, e__law_alike (by rfl)]
    simp only [q_add_ii, q_add_ss, q_add_ll, q_add_tt, q_addL, q_sub, q_mul, q_div, q_mod, q_neg, q_bool, q_eq_ii, q_eq_ss, q_eq_bb, q_ne_ii, q_ne_ss, q_ne_bb, q_lt, q_le, q_gt, q_ge, q_un2, q_un3, q_un4, q_intO, q_len_l, q_len_t, q_len_s, q_abs, q_int_i, q_int_b, q_tup_l, q_tup_t, q_list_l, q_list_t, q_min, q_max, q_it_l, q_it_t, q_rng, q_enu_l, q_enu_t, q_rev, q_sl_l, q_sl_t, q_sl_s, q_slL, q_all, q_any, q_sum, q_sort_pp, q_and, q_or, q_ite, q_join, cond_true, cond_false, true_and, and_true, decide_eq_true_eq, decide_true, decide_false, p_un_pl, p_ix_pl0, p_ix_pl1, p_un_pp, p_ix_pp0, p_ix_pp1, p_mk, p_eq, p_ne, p_in, p_notIn, p_lt]
    exact hN _ trivial
  · rw [e__law_pull (by decide) (by decide)]
    intro r r0 r1
    refine e_how_many (by omega) (by omega) ?_
    refine e__law_every_plan (by omega) (by omega) ?_
    rw [List.length_map, wr_len _ (by omega) (by omega), e__law_alike (by rfl)]
end
end Tx

namespace Tx
open PySem PySem.Spec PyProof.Rows L2 TL
@[irreducible] def f_right_parts (plan : PyData) (K : (List (List Key × PyData) → Prop)) (E : KX) : Prop :=
  f_neighbours plan (fun r1 =>
  ixM plan (.int 0) fun r2 =>
  ∃ n : Nat, whileM (fun (s : (List PyData) × (List (List Key × PyData))) N13 B14 => match s with
  | (left_15, found16) => neM (.list left_15) (.list []) fun b23 =>
  (b23 = true → (popM left_15 fun l25 y26 =>
  un2 y26 fun p27 right_28 =>
  un2 p27 fun start30 end_31 =>
  ixM (.list r1) start30 fun r34 =>
  itM r34 fun xs33 =>
  forM (fun corner40 (s : (List (List Key × PyData)) × (List PyData)) N41 B42 => match s with
  | (found43, left_44) => andM (fun Q => ixM (.list r1) end_31 fun r49 =>
  inM corner40 r49 fun b50 =>
  Q b50) (fun Q => f_between r2 end_31 corner40 start30 (fun r51 =>
  boolM r51 fun b52 =>
  Q b52) E) fun b48 =>
  (b48 = true → (sortM (.list [start30, end_31, corner40]) fun l56 =>
  tupM (.list l56) fun r57 =>
  putTM found43 r57 right_28 fun kv58 =>
  boolM right_28 fun b59 =>
  left_44.length < sizeLine ∧ (boolM right_28 fun b61 =>
  (left_44 ++ ([(.tuple [(.tuple [corner40, end_31]), (.bool (!b59))])] : List PyData)).length < sizeLine ∧ (N41 (kv58, ((left_44 ++ ([(.tuple [(.tuple [corner40, end_31]), (.bool (!b59))])] : List PyData)) ++ ([(.tuple [(.tuple [start30, corner40]), (.bool (!b61))])] : List PyData))))))) ∧ (b48 = false → (N41 (found43, left_44)))) (fun (s : (List (List Key × PyData)) × (List PyData)) =>
  match s with
  | (found35, left_36) => N13 (left_36, found35)) xs33 (found16, l25))) ∧ (b23 = false → B14 (left_15, found16))) (fun (s : (List PyData) × (List (List Key × PyData))) =>
  match s with
  | (left_5, found6) => K found6) n ([(.tuple [(.tuple [(.int 0), (.int 1)]), (.bool true)])], [])) E
def c_right_parts : CT := fun args Φ Ψ => ∃ (plan : PyData) (K : (List (List Key × PyData) → Prop)) (E : KX), args = [.d plan] ∧ f_right_parts plan K E ∧ (∀ r, K r → Φ (.nt r) args) ∧ ∀ c, E c → Ψ c args
/-! trees of parts -/
inductive Tr where
  | lf
  | nd (a b : Tr)
namespace Tr
def sz : Tr → Int
  | .lf => 1
  | .nd a b => a.sz + b.sz
def cnt : Tr → Nat
  | .lf => 1
  | .nd a b => a.cnt + b.cnt + 1
def arcs : Tr → Int → List (Int × Int)
  | .lf, _ => []
  | .nd a b, s => (s, s + a.sz) :: (s + a.sz, s + a.sz + b.sz) :: (a.arcs s ++ b.arcs (s + a.sz))
/-- its own arc too -/
def arcF (t : Tr) (s : Int) : List (Int × Int) := (s, s + t.sz) :: t.arcs s
/-- the trees within it, by their starts -/
def subs : Tr → Int → List (Tr × Int)
  | .lf, s => [(.lf, s)]
  | .nd a b, s => (.nd a b, s) :: (a.subs s ++ b.subs (s + a.sz))
/-- the parts as start, middle, end, each with its hand, as they are come to -/
def pts : Tr → Int → Bool → List ((Int × Int × Int) × Bool)
  | .lf, _, _ => []
  | .nd a b, s, h => ((s, s + a.sz, s + a.sz + b.sz), h) :: (b.pts (s + a.sz) (!h) ++ a.pts s (!h))
/-- the hand of the part with the middle x -/
def hdAt : Tr → Int → Bool → Int → Bool
  | .lf, _, h, _ => h
  | .nd a b, s, h, x => if x = s + a.sz then h else if x < s + a.sz then a.hdAt s (!h) x else b.hdAt (s + a.sz) (!h) x
end Tr
open Tr
theorem sz_pos : ∀ t : Tr, 1 ≤ t.sz
  | .lf => by show (1 : Int) ≤ 1; omega
  | .nd a b => by have := sz_pos a; have := sz_pos b; show 1 ≤ a.sz + b.sz; omega
theorem Arcs.tr {s e : Int} {l : List (Int × Int)} (h : Arcs s e l) (hs : s < e) : ∃ t : Tr, t.sz = e - s ∧ l = t.arcs s := by
  induction h with
  | leaf h => exact ⟨.lf, by show (1 : Int) = _; omega, rfl⟩
  | @node s m e a b h1 h2 _ _ ia ib =>
    obtain ⟨ta, a1, rfl⟩ := ia h1
    obtain ⟨tb, b1, rfl⟩ := ib h2
    have e1 : s + ta.sz = m := by omega
    have e2 : m + tb.sz = e := by omega
    refine ⟨.nd ta tb, by show ta.sz + tb.sz = _; omega, ?_⟩
    show _ = (s, s + ta.sz) :: (s + ta.sz, s + ta.sz + tb.sz) :: (ta.arcs s ++ tb.arcs (s + ta.sz))
    rw [e1, e2]
theorem tr_arcs : ∀ (t : Tr) (s : Int), Arcs s (s + t.sz) (t.arcs s)
  | .lf, s => .leaf (by show s + 1 - s ≤ 1; omega)
  | .nd a b, s => by
    have ha := sz_pos a
    have hb := sz_pos b
    have h := Arcs.node (s := s) (m := s + a.sz) (e := s + a.sz + b.sz) (by omega) (by omega) (tr_arcs a s) (tr_arcs b (s + a.sz))
    show Arcs s (s + (a.sz + b.sz)) _
    rw [← Int.add_assoc]
    exact h
theorem mem_arcF_nd {a b : Tr} {s : Int} {p : Int × Int} : p ∈ (Tr.nd a b).arcF s ↔ p = (s, s + a.sz + b.sz) ∨ p ∈ a.arcF s ∨ p ∈ b.arcF (s + a.sz) := by
  show p ∈ (s, s + (a.sz + b.sz)) :: (s, s + a.sz) :: (s + a.sz, s + a.sz + b.sz) :: (a.arcs s ++ b.arcs (s + a.sz)) ↔ _
  rw [← Int.add_assoc]
  unfold Tr.arcF
  simp only [List.mem_cons, List.mem_append]
  constructor
  · rintro (h | h | h | h | h) <;> simp [h]
  · rintro (h | (h | h) | (h | h)) <;> simp [h]
theorem arcF_in {t : Tr} {s : Int} : ∀ {p : Int × Int}, p ∈ t.arcF s → s ≤ p.1 ∧ p.1 < p.2 ∧ p.2 ≤ s + t.sz := by
  induction t generalizing s with
  | lf =>
    intro p h
    have : p = (s, s + 1) := by simpa [Tr.arcF, Tr.arcs, Tr.sz] using h
    subst this
    show s ≤ s ∧ s < s + 1 ∧ s + 1 ≤ s + 1
    omega
  | nd a b ia ib =>
    intro p h
    have ha := sz_pos a
    have hb := sz_pos b
    show s ≤ p.1 ∧ p.1 < p.2 ∧ p.2 ≤ s + (a.sz + b.sz)
    rcases mem_arcF_nd.mp h with rfl | h | h
    · simp only; omega
    · have := ia h; omega
    · have := ib h; omega
theorem self_arcF (t : Tr) (s : Int) : (s, s + t.sz) ∈ t.arcF s := List.mem_cons_self ..
theorem self_subs : ∀ (t : Tr) (s : Int), (t, s) ∈ t.subs s
  | .lf, _ => List.mem_cons_self ..
  | .nd _ _, _ => List.mem_cons_self ..
theorem subs_arc {t : Tr} {s : Int} : ∀ {u : Tr} {x : Int}, (u, x) ∈ t.subs s → (∀ p ∈ u.arcF x, p ∈ t.arcF s) ∧ s ≤ x ∧ x + u.sz ≤ s + t.sz ∧ ∀ q ∈ u.subs x, q ∈ t.subs s := by
  induction t generalizing s with
  | lf =>
    intro u x h
    have : (u, x) = (Tr.lf, s) := by simpa [Tr.subs] using h
    cases this
    exact ⟨fun p h => h, Int.le_refl _, Int.le_refl _, fun q h => h⟩
  | nd a b ia ib =>
    intro u x h
    have ha := sz_pos a
    have hb := sz_pos b
    have h : (u, x) = (Tr.nd a b, s) ∨ (u, x) ∈ a.subs s ∨ (u, x) ∈ b.subs (s + a.sz) := by simpa [Tr.subs] using h
    have esz : (Tr.nd a b).sz = a.sz + b.sz := rfl
    rcases h with h | h | h
    · cases h
      exact ⟨fun p h => h, Int.le_refl _, Int.le_refl _, fun q h => h⟩
    · obtain ⟨h1, h2, h3, h4⟩ := ia h
      exact ⟨fun p hp => mem_arcF_nd.mpr (.inr (.inl (h1 p hp))), h2, by omega, fun q hq => by simp [Tr.subs, h4 q hq]⟩
    · obtain ⟨h1, h2, h3, h4⟩ := ib h
      exact ⟨fun p hp => mem_arcF_nd.mpr (.inr (.inr (h1 p hp))), by omega, by omega, fun q hq => by simp [Tr.subs, h4 q hq]⟩
/-- each arc is a tree's -/
theorem arc_sub {t : Tr} {s : Int} : ∀ {p : Int × Int}, p ∈ t.arcF s → ∃ u, (u, p.1) ∈ t.subs s ∧ p.2 = p.1 + u.sz := by
  induction t generalizing s with
  | lf =>
    intro p h
    have : p = (s, s + 1) := by simpa [Tr.arcF, Tr.arcs, Tr.sz] using h
    subst this
    exact ⟨.lf, List.mem_cons_self .., rfl⟩
  | nd a b ia ib =>
    intro p h
    rcases mem_arcF_nd.mp h with rfl | h | h
    · exact ⟨.nd a b, List.mem_cons_self .., by show s + a.sz + b.sz = s + (a.sz + b.sz); omega⟩
    · obtain ⟨u, h1, h2⟩ := ia h
      exact ⟨u, by simp [Tr.subs, h1], h2⟩
    · obtain ⟨u, h1, h2⟩ := ib h
      exact ⟨u, by simp [Tr.subs, h1], h2⟩
/-- arcs within a tree's bounds are the tree's -/
theorem arc_lam {t : Tr} {r : Int} : ∀ {u : Tr} {s : Int}, (u, s) ∈ t.subs r → ∀ p ∈ t.arcF r, s ≤ p.1 → p.2 ≤ s + u.sz → p ∈ u.arcF s := by
  induction t generalizing r with
  | lf =>
    intro u s h p hp _ _
    have : (u, s) = (Tr.lf, r) := by simpa [Tr.subs] using h
    cases this
    exact hp
  | nd a b ia ib =>
    intro u s h p hp h1 h2
    have ha := sz_pos a
    have hb := sz_pos b
    have hu := sz_pos u
    have h : (u, s) = (Tr.nd a b, r) ∨ (u, s) ∈ a.subs r ∨ (u, s) ∈ b.subs (r + a.sz) := by simpa [Tr.subs] using h
    rcases h with h | h | h
    · cases h; exact hp
    · obtain ⟨_, q1, q2, _⟩ := subs_arc h
      rcases mem_arcF_nd.mp hp with rfl | hp | hp
      · simp only at h1 h2; omega
      · exact ia h p hp h1 h2
      · have := arcF_in hp; omega
    · obtain ⟨_, q1, q2, _⟩ := subs_arc h
      rcases mem_arcF_nd.mp hp with rfl | hp | hp
      · simp only at h1 h2; omega
      · have := arcF_in hp; omega
      · exact ib h p hp h1 h2
/-- the third corner within -/
theorem third_in {t : Tr} {r : Int} {a b : Tr} {s c : Int} (h : (Tr.nd a b, s) ∈ t.subs r) (h1 : s < c) (h2 : c < s + a.sz + b.sz) (p : (s, c) ∈ t.arcF r) (q : (c, s + a.sz + b.sz) ∈ t.arcF r) : c = s + a.sz := by
  have ha := sz_pos a
  have hb := sz_pos b
  have esz : (Tr.nd a b).sz = a.sz + b.sz := rfl
  have p1 := arc_lam h _ p (Int.le_refl _) (by simp only; omega)
  have q1 := arc_lam h _ q (by simp only; omega) (by simp only; omega)
  rcases mem_arcF_nd.mp p1 with e | e | e
  · have := congrArg Prod.snd e; simp only at this; omega
  · have w1 := arcF_in e
    rcases mem_arcF_nd.mp q1 with e | e | e
    · have := congrArg Prod.fst e; simp only at this; omega
    · have := arcF_in e; simp only at this; omega
    · have := arcF_in e; simp only at this w1; omega
  · have := arcF_in e; simp only at this; omega
theorem leaf_in {t : Tr} {r s c : Int} (h : (Tr.lf, s) ∈ t.subs r) (h1 : s < c) (h2 : c < s + 1) : False := by omega
/-- the parts, by their middles -/
theorem pts_mid {t : Tr} {s : Int} {h : Bool} : ∀ {q : (Int × Int × Int) × Bool}, q ∈ t.pts s h → s ≤ q.1.1 ∧ q.1.1 < q.1.2.1 ∧ q.1.2.1 < q.1.2.2 ∧ q.1.2.2 ≤ s + t.sz ∧ q.2 = t.hdAt s h q.1.2.1 ∧ ∃ a b, (Tr.nd a b, q.1.1) ∈ t.subs s ∧ q.1.2.1 = q.1.1 + a.sz ∧ q.1.2.2 = q.1.1 + a.sz + b.sz := by
  induction t generalizing s h with
  | lf => intro q hq; cases hq
  | nd a b ia ib =>
    intro q hq
    have ha := sz_pos a
    have hb := sz_pos b
    have esz : (Tr.nd a b).sz = a.sz + b.sz := rfl
    have hq : q = ((s, s + a.sz, s + a.sz + b.sz), h) ∨ q ∈ b.pts (s + a.sz) (!h) ∨ q ∈ a.pts s (!h) := by simpa [Tr.pts] using hq
    rcases hq with rfl | hq | hq
    · refine ⟨Int.le_refl _, by simp only; omega, by simp only; omega, by simp only; omega, ?_, a, b, List.mem_cons_self .., rfl, rfl⟩
      simp [Tr.hdAt]
    · obtain ⟨h1, h2, h3, h4, h5, x, y, h6, h7, h8⟩ := ib hq
      refine ⟨by omega, h2, h3, by omega, ?_, x, y, by simp [Tr.subs, h6], h7, h8⟩
      show _ = if q.1.2.1 = s + a.sz then h else if q.1.2.1 < s + a.sz then a.hdAt s (!h) q.1.2.1 else b.hdAt (s + a.sz) (!h) q.1.2.1
      rw [if_neg (by omega), if_neg (by omega)]
      exact h5
    · obtain ⟨h1, h2, h3, h4, h5, x, y, h6, h7, h8⟩ := ia hq
      refine ⟨h1, h2, h3, by omega, ?_, x, y, by simp [Tr.subs, h6], h7, h8⟩
      show _ = if q.1.2.1 = s + a.sz then h else if q.1.2.1 < s + a.sz then a.hdAt s (!h) q.1.2.1 else b.hdAt (s + a.sz) (!h) q.1.2.1
      rw [if_neg (by omega), if_pos (by omega)]
      exact h5
theorem sub_pts {t : Tr} {s : Int} {h : Bool} : ∀ {a b : Tr} {x : Int}, (Tr.nd a b, x) ∈ t.subs s → ∃ g, ((x, x + a.sz, x + a.sz + b.sz), g) ∈ t.pts s h := by
  induction t generalizing s h with
  | lf => intro a b x hq; simp [Tr.subs] at hq
  | nd c d ia ib =>
    intro a b x hq
    have hq : (Tr.nd a b, x) = (Tr.nd c d, s) ∨ (Tr.nd a b, x) ∈ c.subs s ∨ (Tr.nd a b, x) ∈ d.subs (s + c.sz) := by simpa [Tr.subs] using hq
    rcases hq with hq | hq | hq
    · cases hq; exact ⟨h, List.mem_cons_self ..⟩
    · obtain ⟨g, hg⟩ := ia (h := !h) hq
      exact ⟨g, by simp [Tr.pts, hg]⟩
    · obtain ⟨g, hg⟩ := ib (h := !h) hq
      exact ⟨g, by simp [Tr.pts, hg]⟩
theorem pts_len : ∀ (t : Tr) (s : Int) (h : Bool), ((t.pts s h).length : Int) = t.sz - 1
  | .lf, _, _ => rfl
  | .nd a b, s, h => by
    have := pts_len a s (!h)
    have := pts_len b (s + a.sz) (!h)
    show (((_ :: (b.pts (s + a.sz) (!h) ++ a.pts s (!h))).length : Nat) : Int) = a.sz + b.sz - 1
    rw [List.length_cons, List.length_append]
    omega
/-! the plan of a tree -/
abbrev plT (n : Int) (T : Tr) : List (Int × Int) := planOf n (T.arcs 1)
def keyTri (n : Int) (p : Int × Int × Int) : List Key := if p.2.2 = n then [.inl 0, .inl p.1, .inl p.2.1] else [.inl p.1, .inl p.2.1, .inl p.2.2]
def triD (n : Int) (p : Int × Int × Int) : PyData := .tuple ((keyTri n p).map kD)
def putPts (n : Int) (D : List (List Key × PyData)) (L : List ((Int × Int × Int) × Bool)) : List (List Key × PyData) := L.foldl (fun d q => putP d (keyTri n q.1) (.bool q.2)) D
theorem for_none {τ : Type} {bd : PyData → τ → (τ → Prop) → (τ → Prop) → Prop} {K : τ → Prop} (L : List Int) {s : τ} (h0 : ∀ a ∈ L, ∀ N : τ → Prop, N s → bd (.int a) s N K) (hK : K s) : forM bd K (L.map .int) s := by
  induction L with
  | nil => exact hK
  | cons a L ih => exact h0 a (List.mem_cons_self ..) _ (ih fun b hb => h0 b (List.mem_cons_of_mem _ hb))
theorem for_pick {τ : Type} {bd : PyData → τ → (τ → Prop) → (τ → Prop) → Prop} {K : τ → Prop} (L : List Int) (p : Int → Bool) {m : Int} {s0 s1 : τ} (hL : L.filter p = [m]) (h0 : ∀ a ∈ L, p a = false → ∀ s (N : τ → Prop), N s → bd (.int a) s N K)
    (h1 : ∀ N : τ → Prop, N s1 → bd (.int m) s0 N K) (hK : K s1) : forM bd K (L.map .int) s0 := by
  induction L with
  | nil => cases hL
  | cons a L ih =>
    show bd (.int a) s0 _ _
    rw [List.filter_cons] at hL
    cases hp : p a with
    | true =>
      rw [if_pos hp] at hL
      injection hL with e1 e2
      subst e1
      refine h1 _ (for_none L (fun b hb N hN => h0 b (List.mem_cons_of_mem _ hb) ?_ s1 N hN) hK)
      cases hq : p b with
      | false => rfl
      | true =>
        have : b ∈ L.filter p := List.mem_filter.mpr ⟨hb, hq⟩
        rw [e2] at this; cases this
    | false =>
      rw [if_neg (by rw [hp]; decide)] at hL
      exact h0 a (List.mem_cons_self ..) hp s0 _ (ih hL fun b hb => h0 b (List.mem_cons_of_mem _ hb))
theorem filter_one {L : List Int} {p : Int → Bool} {m : Int} (nd : L.Nodup) (hm : m ∈ L) (h : ∀ c ∈ L, (p c = true ↔ c = m)) : L.filter p = [m] := by
  induction L with
  | nil => cases hm
  | cons a L ih =>
    have nd' := List.nodup_cons.mp nd
    rw [List.filter_cons]
    by_cases e : a = m
    · subst e
      rw [if_pos ((h a (List.mem_cons_self ..)).mpr rfl)]
      congr 1
      refine List.filter_eq_nil_iff.mpr fun c hc z => ?_
      have := (h c (List.mem_cons_of_mem _ hc)).mp z
      subst this
      exact nd'.1 hc
    · rw [if_neg fun z => e ((h a (List.mem_cons_self ..)).mp z)]
      refine ih nd'.2 ?_ fun c hc => h c (List.mem_cons_of_mem _ hc)
      rcases List.mem_cons.mp hm with z | z
      · exact absurd z.symm e
      · exact z
theorem shp_list {L : List PyData} (h : ∀ d ∈ L, d.canLay0 = true ∧ d.depth ≤ 50) : SeqAt.shaped (.list L) = true := by
  have h1 : PyData.canLayAll0 L = true ∧ PyData.depthAll L ≤ 50 := by
    induction L with
    | nil => exact ⟨rfl, Nat.zero_le _⟩
    | cons a L ih =>
      obtain ⟨i1, i2⟩ := ih fun d hd => h d (List.mem_cons_of_mem _ hd)
      obtain ⟨a1, a2⟩ := h a (List.mem_cons_self ..)
      refine ⟨?_, ?_⟩
      · show (PyData.canLay0 a && PyData.canLayAll0 L) = true
        rw [a1, i1]; rfl
      · show max (PyData.depth a) (PyData.depthAll L) ≤ 50
        exact Nat.max_le.mpr ⟨a2, i2⟩
  unfold SeqAt.shaped
  have e1 : PyData.canLay0 (.list L) = true := h1.1
  have e2 : PyData.depth (.list L) ≤ 64 := by
    show PyData.depthAll L + 1 ≤ 64
    omega
  rw [e1, decide_eq_true e2]
  rfl
theorem eqv_nil {L : List PyData} : PyData.eqv (.list L) (.list []) = L.isEmpty := by
  show PyData.eqvAll L [] = _
  cases L <;> rfl
theorem near_nodup {n : Int} {cs : List (Int × Int)} (h3 : 3 ≤ n) (f : Int) : (near n cs f).Nodup := by
  unfold near
  refine List.pairwise_map.mpr ((List.pairwise_lt_range.filter _).imp_of_mem fun {a b} ha hb hab e => ?_)
  have ha := List.mem_range.mp (List.mem_filter.mp ha).1
  have hb := List.mem_range.mp (List.mem_filter.mp hb).1
  have e2 : ((f + b + 1) - (f + a + 1)) % n = 0 := by
    rw [Int.sub_emod, e]; simp
  rw [show (f + (b : Int) + 1) - (f + a + 1) = ((b - a : Nat) : Int) by omega, Int.emod_eq_of_lt (by omega) (by omega)] at e2
  omega
section
variable {K : KD} {Kl : KL} {E : KX} {Kb : KB} {n : Int} {T : Tr}
variable (h3 : 3 ≤ n) (h40 : n ≤ 40) (hT : T.sz = n - 1)
include h3 h40 hT
theorem plT_arcs : Arcs 1 n (T.arcs 1) := by
  have := tr_arcs T 1
  rwa [show 1 + T.sz = n by omega] at this
theorem plT_ok : IsPlan n (plT n T) := arcs_plan h3 h40 (plT_arcs h3 h40 hT)
theorem arcF_top : T.arcF 1 = (1, n) :: T.arcs 1 := by
  unfold Tr.arcF
  rw [show 1 + T.sz = n by omega]
theorem tieT {x y : Int} (hx : 1 ≤ x) (hy : x < y) (hn : y ≤ n) : tieB n (plT n T) x (y % n) = true ↔ (x, y) ∈ T.arcF 1 := by
  rw [arcF_top h3 h40 hT]
  exact tie_arc h3 (plT_arcs h3 h40 hT) hx hy hn
theorem sub_b {u : Tr} {s : Int} (hu : (u, s) ∈ T.subs 1) : 1 ≤ s ∧ s < s + u.sz ∧ s + u.sz ≤ n := by
  obtain ⟨_, h1, h2, _⟩ := subs_arc hu
  have := sz_pos u
  omega
/-- the test for a corner between -/
def pkB (n : Int) (cs : List (Int × Int)) (s e c : Int) : Bool := decide (c ∈ near n cs s) && (decide (0 < (c - s) % n) && decide ((c - s) % n < (e % n - s) % n))
theorem pk_iff {u : Tr} {s : Int} (hu : (u, s) ∈ T.subs 1) {c : Int} (hc : c ∈ near n (plT n T) ((s + u.sz) % n)) : pkB n (plT n T) s (s + u.sz) c = true ↔ s < c ∧ c < s + u.sz ∧ (s, c) ∈ T.arcF 1 ∧ (c, s + u.sz) ∈ T.arcF 1 := by
  have hp := plT_ok h3 h40 hT
  obtain ⟨b1, b2, b3⟩ := sub_b h3 h40 hT hu
  have he : 0 ≤ (s + u.sz) % n ∧ (s + u.sz) % n < n := ⟨Int.emod_nonneg _ (by omega), Int.emod_lt_of_pos _ (by omega)⟩
  have t1 := (near_mem hp he.1 he.2).mp hc
  obtain ⟨_, _, c0, c1, _⟩ := tie_lt hp t1
  have d2 : ((s + u.sz) % n - s) % n = u.sz := by
    rw [Int.emod_sub_emod, show s + u.sz - s = u.sz by omega]
    exact Int.emod_eq_of_lt (by omega) (by omega)
  have d1 : (c - s) % n = if c < s then c - s + n else c - s := by
    split
    · rw [← Int.add_emod_right, Int.emod_eq_of_lt (by omega) (by omega)]
    · exact Int.emod_eq_of_lt (by omega) (by omega)
  unfold pkB
  rw [d1, d2]
  simp only [Bool.and_eq_true, decide_eq_true_eq]
  have ns : c ∈ near n (plT n T) s ↔ tieB n (plT n T) s c = true := near_mem hp (by omega) (by omega)
  rw [ns]
  constructor
  · rintro ⟨h1, h2, h4⟩
    have hsc : s < c ∧ c < s + u.sz := by split at h2 <;> rename_i hh <;> simp only [hh, if_true, if_false] at h4 <;> omega
    refine ⟨hsc.1, hsc.2, ?_, ?_⟩
    · rw [← tieT h3 h40 hT b1 hsc.1 (by omega), Int.emod_eq_of_lt (by omega) (by omega)]
      exact h1
    · rw [← tieT h3 h40 hT (by omega) hsc.2 b3, tie_sym]
      exact t1
  · rintro ⟨h1, h2, h4, _⟩
    refine ⟨?_, by rw [if_neg (by omega)]; omega, by rw [if_neg (by omega)]; omega⟩
    have := (tieT h3 h40 hT b1 h1 (by omega)).mpr h4
    rwa [Int.emod_eq_of_lt (by omega) (by omega)] at this
theorem pk_leaf {s : Int} (hu : (Tr.lf, s) ∈ T.subs 1) {c : Int} (hc : c ∈ near n (plT n T) ((s + 1) % n)) : pkB n (plT n T) s (s + 1) c = false := by
  cases e : pkB n (plT n T) s (s + 1) c with
  | false => rfl
  | true =>
    have := (pk_iff h3 h40 hT (u := .lf) hu hc).mp e
    have h1 := this.1
    have h2 := this.2.1
    have : (Tr.lf).sz = 1 := rfl
    omega
theorem pk_node {a b : Tr} {s : Int} (hu : (Tr.nd a b, s) ∈ T.subs 1) : (near n (plT n T) ((s + a.sz + b.sz) % n)).filter (pkB n (plT n T) s (s + a.sz + b.sz)) = [s + a.sz] := by
  have hp := plT_ok h3 h40 hT
  have ha := sz_pos a
  have hb := sz_pos b
  have esz : s + (Tr.nd a b).sz = s + a.sz + b.sz := by show s + (a.sz + b.sz) = _; omega
  obtain ⟨b1, b2, b3⟩ := sub_b h3 h40 hT hu
  rw [esz] at b2 b3
  have he : 0 ≤ (s + a.sz + b.sz) % n ∧ (s + a.sz + b.sz) % n < n := ⟨Int.emod_nonneg _ (by omega), Int.emod_lt_of_pos _ (by omega)⟩
  obtain ⟨q1, _, _, _⟩ := subs_arc hu
  have m1 : (s, s + a.sz) ∈ T.arcF 1 := q1 _ (mem_arcF_nd.mpr (.inr (.inl (self_arcF a s))))
  have m2 : (s + a.sz, s + a.sz + b.sz) ∈ T.arcF 1 := q1 _ (mem_arcF_nd.mpr (.inr (.inr (self_arcF b (s + a.sz)))))
  have hm : s + a.sz ∈ near n (plT n T) ((s + a.sz + b.sz) % n) := by
    refine (near_mem hp he.1 he.2).mpr ?_
    rw [tie_sym]
    exact (tieT h3 h40 hT (by omega) (by omega) b3).mpr m2
  refine filter_one (near_nodup h3 _) hm fun c hc => ?_
  have := pk_iff h3 h40 hT hu (c := c) (by rw [esz]; exact hc)
  rw [esz] at this
  rw [this]
  constructor
  · rintro ⟨h1, h2, h4, h5⟩
    exact third_in hu h1 h2 h4 h5
  · rintro rfl
    exact ⟨by omega, by omega, m1, m2⟩
end
theorem q_while_s {σ : Type} {st : σ → (σ → Prop) → (σ → Prop) → Prop} {K : σ → Prop} {n : Nat} {s : σ} : whileM st K (n + 1) s = st s (fun s' => whileM st K n s') K := rfl
def itD (n : Int) (i : Tr × Int × Bool) : PyData := .tuple [.tuple [.int ((i.2.1 + i.1.sz) % n), .int i.2.1], .bool i.2.2]
theorem itD_shp {n : Int} (L : List (Tr × Int × Bool)) : SeqAt.shaped (.list (L.map (itD n))) = true := shp_list fun d hd => by
  obtain ⟨i, _, rfl⟩ := List.mem_map.mp hd
  exact ⟨rfl, Nat.le_of_ble_eq_true rfl⟩
theorem cnt_pos : ∀ t : Tr, 1 ≤ t.cnt
  | .lf => Nat.le_refl _
  | .nd a b => by show 1 ≤ a.cnt + b.cnt + 1; omega
theorem cnt_sz : ∀ t : Tr, (t.cnt : Int) = 2 * t.sz - 1
  | .lf => rfl
  | .nd a b => by
    have := cnt_sz a
    have := cnt_sz b
    show (((a.cnt + b.cnt + 1 : Nat)) : Int) = 2 * (a.sz + b.sz) - 1
    omega
theorem sort3 {x y z : Int} {ms : List Int} (nd : [x, y, z].Nodup) (h : ms.Pairwise (· < ·)) (m : ∀ v, v ∈ [x, y, z] ↔ v ∈ ms) {Kl : KL} : sortM (.list [.int x, .int y, .int z]) Kl = Kl (ms.map .int) := by
  rw [show ([.int x, .int y, .int z] : List PyData) = [x, y, z].map .int from rfl, q_sort_ints, sortI_eq nd h m]
theorem q_putTri {n : Int} {kvs : AT} {p : Int × Int × Int} {v : PyData} {Q : AT → Prop} {key : PyData} (e : key = triD n p) : putTM kvs key v Q = (kvs.length < sizeLine ∧ Q (putP kvs (keyTri n p) v)) := by
  subst e
  unfold putTM triD
  rw [keyT_kD]
theorem q_getTri {n : Int} {kvs : AT} {p : Int × Int × Int} {Q : KD} {key : PyData} (e : key = triD n p) : getTM kvs key Q = (match valP kvs (keyTri n p) with | some d => Q d | none => False) := by
  subst e
  unfold getTM triD
  rw [keyT_kD]
  all_goals rfl
theorem q_inTri {n : Int} {kvs : AT} {p : Int × Int × Int} {Q : KB} {key : PyData} (e : key = triD n p) : inTM kvs key Q = Q (valP kvs (keyTri n p)).isSome := by
  subst e
  unfold inTM triD
  rw [keyT_kD]
section
variable {K : KD} {Kl : KL} {E : KX} {Kb : KB} {n : Int} {T : Tr}
variable (h3 : 3 ≤ n) (h40 : n ≤ 40) (hT : T.sz = n - 1)
include h3 h40 hT
/-- a part's corners, rising -/
theorem tri_sort {s m e : Int} (h1 : 1 ≤ s) (h2 : s < m) (h4 : m < e) (h5 : e ≤ n) : sortM (.list [.int (e % n), .int s, .int m]) Kl = Kl ((keyTri n (s, m, e)).map kD) := by
  unfold keyTri
  by_cases he : e = n
  · subst he
    rw [if_pos rfl, Int.emod_self]
    exact sort3 (ms := [0, s, m]) (by simp; omega) (by simp; omega) (fun v => Iff.rfl)
  · rw [if_neg he, Int.emod_eq_of_lt (by omega) (by omega)]
    exact sort3 (ms := [s, m, e]) (by simp; omega) (by simp; omega) (fun v => by simp only [List.mem_cons, List.not_mem_nil, or_false]; constructor <;> rintro (h | h | h) <;> simp [h])
theorem i_right_parts {Kt : AT → Prop} (hK : Kt (putPts n [] (T.pts 1 true))) : f_right_parts (plD n (plT n T)) Kt E := by
  have hp := plT_ok h3 h40 hT
  have hsl := sizeLine_eq
  unfold f_right_parts
  rw [e_neighbours hp]
  simp only [p_ix_pl0]
  have go : ∀ (m : Nat) (its : List (Tr × Int × Bool)) (found : AT), (its.map fun i => i.1.cnt).sum = m → m ≤ 200 → (∀ i ∈ its, (i.1, i.2.1) ∈ T.subs 1) → found.length + m ≤ 300 → Kt (putPts n found (its.flatMap fun i => i.1.pts i.2.1 i.2.2)) →
      ∀ st : List PyData × AT → (List PyData × AT → Prop) → (List PyData × AT → Prop) → Prop, st = (fun (s : (List PyData) × (List (List Key × PyData))) N13 B14 => match s with
  | (left_15, found16) => neM (.list left_15) (.list []) fun b23 =>
  (b23 = true → (popM left_15 fun l25 y26 =>
  un2 y26 fun p27 right_28 =>
  un2 p27 fun start30 end_31 =>
  ixM (.list ((List.range n.toNat).map fun (i : Nat) => .list ((near n (plT n T) i).map .int))) start30 fun r34 =>
  itM r34 fun xs33 =>
  forM (fun corner40 (s : (List (List Key × PyData)) × (List PyData)) N41 B42 => match s with
  | (found43, left_44) => TL.andM (fun Q => ixM (.list ((List.range n.toNat).map fun (i : Nat) => .list ((near n (plT n T) i).map .int))) end_31 fun r49 =>
  inM corner40 r49 fun b50 =>
  Q b50) (fun Q => f_between (.int n) end_31 corner40 start30 (fun r51 =>
  boolM r51 fun b52 =>
  Q b52) E) fun b48 =>
  (b48 = true → (sortM (.list [start30, end_31, corner40]) fun l56 =>
  tupM (.list l56) fun r57 =>
  putTM found43 r57 right_28 fun kv58 =>
  boolM right_28 fun b59 =>
  left_44.length < sizeLine ∧ (boolM right_28 fun b61 =>
  (left_44 ++ [(PyData.tuple [(.tuple [corner40, end_31]), (.bool (!b59))])]).length < sizeLine ∧ (N41 (kv58, ((left_44 ++ [(.tuple [(.tuple [corner40, end_31]), (.bool (!b59))])]) ++ [(.tuple [(.tuple [start30, corner40]), (.bool (!b61))])])))))) ∧ (b48 = false → (N41 (found43, left_44)))) (fun (s : (List (List Key × PyData)) × (List PyData)) =>
  match s with
  | (found35, left_36) => N13 (left_36, found35)) xs33 (found16, l25))) ∧ (b23 = false → B14 (left_15, found16))) → whileM st (fun (s : (List PyData) × (List (List Key × PyData))) =>
  match s with
  | (left_5, found6) => Kt found6) (m + 1) (its.reverse.map (itD n), found) := by
    intro m
    induction m with
    | zero =>
      intro its found h1 _ _ _ h4 st hst
      have : its = [] := by
        cases its with
        | nil => rfl
        | cons i r => have := cnt_pos i.1; simp at h1; omega
      subst this
      subst hst
      rw [q_while_s]
      dsimp only
      rw [q_ne_ll]
      rw [eqv_nil]
      refine ⟨itD_shp [], by decide +kernel, ?_⟩
      exact ⟨fun z => (by cases z), fun _ => h4⟩
    | succ m ih =>
      intro its found h1 hm2 hs hf h4 st hst
      cases its with
      | nil => simp at h1
      | cons i r =>
        obtain ⟨u, s, h⟩ := i
        have hu : (u, s) ∈ T.subs 1 := hs _ (List.mem_cons_self ..)
        obtain ⟨b1, b2, b3⟩ := sub_b h3 h40 hT hu
        have he : 0 ≤ (s + u.sz) % n ∧ (s + u.sz) % n < n := ⟨Int.emod_nonneg _ (by omega), Int.emod_lt_of_pos _ (by omega)⟩
        have hst2 := hst
        subst hst
        rw [q_while_s]
        dsimp only
        rw [q_ne_ll, eqv_nil]
        refine ⟨itD_shp _, by decide +kernel, ?_⟩
        have hl : ((((u, s, h) :: r).reverse).map (itD n)).isEmpty = false := by
          rw [List.reverse_cons, List.map_append]; simp
        rw [hl]
        refine ⟨fun _ => ?_, fun z => by cases z⟩
        rw [List.reverse_cons, List.map_append]
        show popM (_ ++ [itD n (u, s, h)]) _
        rw [q_pop]
        show un2 (itD n (u, s, h)) _
        unfold itD
        rw [q_un2, q_un2, q_ixr he.1 (by omega), show ((((s + u.sz) % n).toNat : Nat) : Int) = (s + u.sz) % n by omega]
        show forM _ _ ((near n (plT n T) ((s + u.sz) % n)).map PyData.int) (found, r.reverse.map (itD n))
        have hlr : (r.reverse.map (itD n)).length ≤ m := by
          rw [List.length_map, List.length_reverse]
          have : (r.map fun i => i.1.cnt).sum ≤ m := by
            have := cnt_pos u
            simp only [List.map_cons, List.sum_cons] at h1; omega
          have l1 : ∀ L : List (Tr × Int × Bool), L.length ≤ (L.map fun i => i.1.cnt).sum := fun L => by
            induction L with
            | nil => simp
            | cons a L ihL => have := cnt_pos a.1; simp only [List.map_cons, List.sum_cons, List.length_cons]; omega
          have := l1 r
          omega
        have test : ∀ (c : Int) (Q : KB), TL.andM (fun Q => ixM (.list ((List.range n.toNat).map fun (i : Nat) => .list ((near n (plT n T) i).map .int))) (.int s) fun r49 => inM (.int c) r49 fun b50 => Q b50) (fun Q => f_between (.int n) (.int s) (.int c) (.int ((s + u.sz) % n)) (fun r51 => boolM r51 fun b52 => Q b52) E) Q = Q (pkB n (plT n T) s (s + u.sz) c) := fun c Q => by
          refine q_and' (fun Q => ?_) fun _ Q => ?_
          · rw [q_ixr (by omega) (by omega), show ((s.toNat : Nat) : Int) = s by omega, q_in_ints]
          · rw [e_between hp]; rfl
        cases u with
        | lf =>
          have hn : (Tr.lf).sz = 1 := rfl
          refine for_none _ (fun c hc N hN => ?_) ?_
          · show TL.andM _ _ _
            rw [test, hn, pk_leaf h3 h40 hT hu (by rw [hn] at hc; exact hc)]
            exact ⟨fun z => (by cases z), fun _ => hN⟩
          · refine ih r found ?_ (by omega) (fun i hi => hs i (List.mem_cons_of_mem _ hi)) (by omega) ?_ _ hst2
            · simp only [List.map_cons, List.sum_cons] at h1
              have : (Tr.lf).cnt = 1 := rfl
              omega
            · rw [List.flatMap_cons] at h4
              exact h4
        | nd a b =>
          have ha := sz_pos a
          have hb := sz_pos b
          have esz : s + (Tr.nd a b).sz = s + a.sz + b.sz := by show s + (a.sz + b.sz) = _; omega
          rw [esz] at b2 b3 he
          obtain ⟨_, _, _, q4⟩ := subs_arc hu
          have hpk := pk_node h3 h40 hT hu
          rw [esz]
          refine for_pick _ (pkB n (plT n T) s (s + a.sz + b.sz)) hpk (s1 := (putP found (keyTri n (s, s + a.sz, s + a.sz + b.sz)) (.bool h), (((b, s + a.sz, !h) :: (a, s, !h) :: r).reverse).map (itD n))) (fun c hc hpc st2 N hN => ?_) (fun N hN => ?_) ?_
          · obtain ⟨d1, d2⟩ := st2
            show TL.andM _ _ _
            have t := test c
            rw [esz] at t
            rw [t, hpc]
            exact ⟨fun z => (by cases z), fun _ => hN⟩
          · have t := test (s + a.sz)
            rw [esz] at t
            have hmem : s + a.sz ∈ (near n (plT n T) ((s + a.sz + b.sz) % n)).filter (pkB n (plT n T) s (s + a.sz + b.sz)) := by rw [hpk]; exact List.mem_cons_self ..
            show TL.andM _ _ _
            rw [t, (List.mem_filter.mp hmem).2]
            refine ⟨fun _ => ?_, fun z => (by cases z)⟩
            rw [tri_sort h3 h40 hT b1 (by omega) (by omega) b3, q_tup_l, q_putTri (n := n) (p := (s, s + a.sz, s + a.sz + b.sz)) (key := .tuple ((keyTri n (s, s + a.sz, s + a.sz + b.sz)).map kD)) rfl]
            dsimp only
            refine ⟨by omega, ?_⟩
            simp only [q_bool]
            refine ⟨by omega, by rw [List.length_append]; simp only [List.length_singleton]; omega, ?_⟩
            have e1 : (s + a.sz) % n = s + a.sz := Int.emod_eq_of_lt (by omega) (by omega)
            have e2 : (((b, s + a.sz, !h) :: (a, s, !h) :: r).reverse).map (itD n) = r.reverse.map (itD n) ++ [(.tuple [(.tuple [.int (s + a.sz), .int s]), (.bool (!h))])] ++ [(.tuple [(.tuple [.int ((s + a.sz + b.sz) % n), .int (s + a.sz)]), (.bool (!h))])] := by
              simp only [List.reverse_cons, List.map_append, List.map_cons, List.map_nil]
              unfold itD
              simp only [e1]
            rw [e2] at hN
            exact hN
          · refine ih _ _ ?_ (by omega) (fun i hi => ?_) ?_ ?_ _ hst2
            · simp only [List.map_cons, List.sum_cons] at h1 ⊢
              have : (Tr.nd a b).cnt = a.cnt + b.cnt + 1 := rfl
              omega
            · rcases List.mem_cons.mp hi with rfl | hi
              · exact q4 _ (by simp [Tr.subs, self_subs])
              · rcases List.mem_cons.mp hi with rfl | hi
                · exact q4 _ (by simp [Tr.subs, self_subs])
                · exact hs i (List.mem_cons_of_mem _ hi)
            · have := putP_len (kvs := found) (k := keyTri n (s, s + a.sz, s + a.sz + b.sz)) (d := .bool h)
              show (putP found (keyTri n (s, s + a.sz, s + a.sz + b.sz)) (.bool h)).length + m ≤ 300
              omega
            · have e3 : (((b, s + a.sz, !h) :: (a, s, !h) :: r).flatMap fun i => i.1.pts i.2.1 i.2.2) = b.pts (s + a.sz) (!h) ++ a.pts s (!h) ++ r.flatMap fun i => i.1.pts i.2.1 i.2.2 := by
                simp only [List.flatMap_cons, List.append_assoc]
              rw [e3]
              rw [List.flatMap_cons] at h4
              exact h4
  have hc := cnt_sz T
  refine ⟨T.cnt + 1, ?_⟩
  have h0 := go T.cnt [(T, 1, true)] [] (by simp) (by omega) (fun i hi => by rw [List.mem_singleton.mp hi]; exact self_subs T 1) (by simp only [List.length_nil]; omega) (by simpa using hK) _ rfl
  have e0 : (([(T, 1, true)] : List (Tr × Int × Bool)).reverse).map (itD n) = [(.tuple [(.tuple [(.int 0), (.int 1)]), (.bool true)])] := by
    show [itD n (T, 1, true)] = _
    unfold itD
    simp only [show (1 : Int) + T.sz = n by omega, Int.emod_self]
  rw [e0] at h0
  exact h0
end
end Tx

namespace Tx
open PySem PySem.Spec PyProof.Rows L2 TL
@[irreducible] def f__law_hands (l_plan_here : PyData) (K : (List (List Key × PyData) → Prop)) (E : KX) : Prop :=
  ixM l_plan_here (.int 0) fun r1 =>
  f__law_all_parts l_plan_here (fun r2 =>
  itM (.list r2) fun xs4 =>
  forM (fun l_one61 l_found64 N62 B63 => andM (fun Q => inM (.int 0) l_one61 fun b68 =>
  Q b68) (fun Q => inM (.int 1) l_one61 fun b69 =>
  Q b69) fun b67 =>
  (b67 = true → (putTM l_found64 l_one61 (.bool true) fun kv73 =>
  N62 kv73)) ∧ (b67 = false → (N62 l_found64))) (fun l_found5 =>
  lenM (.list r2) fun r9 =>
  rngM (.int 0) r9 fun xs8 =>
  forM (fun l_turn15 l_found18 N16 B17 => itM (.list r2) fun xs23 =>
  forM (fun l_one28 l_found31 N29 B30 => itM (.list r2) fun xs35 =>
  forM (fun l_other39 l_found42 N40 B41 => andM (fun Q => inTM l_found42 l_one28 fun b46 =>
  Q b46) (fun Q => andM (fun Q => inTM l_found42 l_other39 fun b48 =>
  Q (!b48)) (fun Q => itM l_one28 fun xs49 =>
  lcM (fun l_face50 kp sk => inM l_face50 l_other39 fun b52 =>
  (b52 = true → (kp l_face50)) ∧ (b52 = false → sk)) (fun l51 =>
  lenM (.list l51) fun r53 =>
  eqM r53 (.int 2) fun b54 =>
  Q b54) xs49 []) fun b47 =>
  Q b47) fun b45 =>
  (b45 = true → (getTM l_found42 l_one28 fun r58 =>
  boolM r58 fun b59 =>
  putTM l_found42 l_other39 (.bool (!b59)) fun kv60 =>
  N40 kv60)) ∧ (b45 = false → (N40 l_found42))) (fun l_found36 =>
  N29 l_found36) xs35 l_found31) (fun l_found24 =>
  N16 l_found24) xs23 l_found18) (fun l_found10 =>
  K l_found10) xs8 l_found5) xs4 []) E
def c__law_hands : CT := fun args Φ Ψ => ∃ (l_plan_here : PyData) (K : (List (List Key × PyData) → Prop)) (E : KX), args = [.d l_plan_here] ∧ f__law_hands l_plan_here K E ∧ (∀ r, K r → Φ (.nt r) args) ∧ ∀ c, E c → Ψ c args
@[irreducible] def f__law_side_hand (l_plan_here : PyData) (l_hands_here : PyData) (l_leaf : PyData) (K : KD) (E : KX) : Prop :=
  addM l_leaf (.int 1) fun r1 =>
  ixM l_plan_here (.int 0) fun r2 =>
  modM r1 r2 fun r3 =>
  keysDM l_hands_here fun l5 =>
  itM (.list l5) fun xs4 =>
  lcM (fun l_one6 kp sk => andM (fun Q => inM l_leaf l_one6 fun b9 =>
  Q b9) (fun Q => inM r3 l_one6 fun b10 =>
  Q b10) fun b8 =>
  (b8 = true → (getDM l_hands_here l_one6 fun r11 =>
  kp r11)) ∧ (b8 = false → sk)) (fun l7 =>
  ixM (.list l7) (.int 0) fun r12 =>
  K r12) xs4 []
def c__law_side_hand : CT := fun args Φ Ψ => ∃ (l_plan_here : PyData) (l_hands_here : PyData) (l_leaf : PyData) (K : KD) (E : KX), args = [.d l_plan_here, .d l_hands_here, .d l_leaf] ∧ f__law_side_hand l_plan_here l_hands_here l_leaf K E ∧ (∀ r, K r → Φ (.rd r) args) ∧ ∀ c, E c → Ψ c args
open Tr
def t3D (p : Int × Int × Int) : PyData := .tuple [.int p.1, .int p.2.1, .int p.2.2]
/-- a part's corners, rising, the last one read as 0 -/
def tri (n : Int) (p : Int × Int × Int) : Int × Int × Int := if p.2.2 = n then (0, p.1, p.2.1) else p
theorem triD_eq (n : Int) (p : Int × Int × Int) : triD n p = t3D (tri n p) := by
  unfold triD keyTri tri t3D
  split <;> rfl
def inTri (n : Int) (x : Int) (p : Int × Int × Int) : Bool := decide (x = p.1 ∨ x = p.2.1 ∨ x = p.2.2)
/-- the triples that are tied, low, high, corner -/
def rowAP (n : Int) (cs : List (Int × Int)) (p : Int × Int) : List (Int × Int × Int) := ((List.range (n - (p.2 + 1)).toNat).filter fun (j : Nat) => tieB n cs p.1 (p.2 + 1 + j) && tieB n cs p.2 (p.2 + 1 + j)).map fun (j : Nat) => (p.1, p.2, p.2 + 1 + (j : Int))
def apL (n : Int) (cs : List (Int × Int)) : List (Int × Int × Int) := (linesOf n cs).flatMap (rowAP n cs)
theorem flat_fil {α β : Type} {L : List α} {p : α → Bool} {f : α → β} : (L.flatMap fun a => if p a then [f a] else []) = (L.filter p).map f := by
  induction L with
  | nil => rfl
  | cons a L ih =>
    rw [List.flatMap_cons, List.filter_cons, ih]
    by_cases h : p a = true <;> simp [h]
theorem sort_t3 (L : List (Int × Int × Int)) : (PySem.W.AllAlike (L.map t3D) ∧ PySem.W.Sortable (L.map t3D) ∧ ∀ d ∈ L.map t3D, SeqAt.shaped d = true) ∧ ∃ M : List (Int × Int × Int), srt (L.map t3D) = M.map t3D ∧ M.Perm L := by
  refine ⟨⟨.of fun _ _ => by simp [t3D, PySem.W.alike, PySem.W.alikeAll], .tuples fun p => ⟨_, _, rfl⟩, fun d hd => ?_⟩, ?_⟩
  · obtain ⟨p, _, rfl⟩ := List.mem_map.mp hd
    rfl
  · refine ⟨L.mergeSort fun a b => PySem.W.dataLe false id (t3D a) (t3D b), ?_, List.mergeSort_perm _ _⟩
    unfold srt
    exact (List.map_mergeSort (r := fun a b => PySem.W.dataLe false id (t3D a) (t3D b)) (s := PySem.W.dataLe false id) fun a _ b _ => rfl).symm
section
variable {K : KD} {Kl : KL} {E : KX} {Kb : KB} {n i j : Int} {cs : List (Int × Int)} {p q : Int × Int}
variable (hp : IsPlan n cs)
include hp
theorem rowAP_len (p : Int × Int) (h : p ∈ linesOf n cs) : (rowAP n cs p).length ≤ 40 := by
  have lok := lines_ok hp
  have := lok.lt p h
  have := hp.hi
  unfold rowAP
  rw [List.length_map]
  refine Nat.le_trans (List.length_filter_le _ _) ?_
  rw [List.length_range]; omega
theorem apL_len : (apL n cs).length ≤ 4000 := by
  have llen := lines_len hp
  have := hp.hi
  have go : ∀ L : List (Int × Int), (∀ p ∈ L, p ∈ linesOf n cs) → (L.flatMap (rowAP n cs)).length ≤ 40 * L.length := fun L => by
    induction L with
    | nil => intro _; simp
    | cons a L ih =>
      intro h
      have := rowAP_len hp a (h a (List.mem_cons_self ..))
      have := ih fun p hp => h p (List.mem_cons_of_mem _ hp)
      rw [List.flatMap_cons, List.length_append, List.length_cons]; omega
  have := go (linesOf n cs) fun p h => h
  unfold apL
  omega
theorem e__law_all_parts' (hK : ∀ M : List (Int × Int × Int), M.Perm (apL n cs) → srt ((apL n cs).map t3D) = M.map t3D → Kl (M.map t3D)) : f__law_all_parts (plD n cs) Kl E := by
  have hsl := sizeLine_eq
  have lok := lines_ok hp
  have llen := lines_len hp
  have h3 := hp.lo
  have h40 := hp.hi
  have hal := apL_len hp
  unfold f__law_all_parts
  simp only [q_add_ii, q_add_ss, q_add_ll, q_add_tt, q_addL, q_sub, q_mul, q_div, q_mod, q_neg, q_bool, q_eq_ii, q_eq_ss, q_eq_bb, q_ne_ii, q_ne_ss, q_ne_bb, q_lt, q_le, q_gt, q_ge, q_un2, q_un3, q_un4, q_intO, q_len_l, q_len_t, q_len_s, q_abs, q_int_i, q_int_b, q_tup_l, q_tup_t, q_list_l, q_list_t, q_min, q_max, q_it_l, q_it_t, q_rng, q_enu_l, q_enu_t, q_rev, q_sl_l, q_sl_t, q_sl_s, q_slL, q_all, q_any, q_sum, q_sort_pp, q_and, q_or, q_ite, q_join, cond_true, cond_false, true_and, and_true, decide_eq_true_eq, decide_true, decide_false, p_un_pl, p_ix_pl0, p_ix_pl1, p_un_pp, p_ix_pp0, p_ix_pp1, p_mk, p_eq, p_ne, p_in, p_notIn, p_lt, e__law_tied hp, e__law_all_lines hp]
  have ef : ((linesOf n cs).flatMap fun p => (rowAP n cs p).map t3D) = (apL n cs).map t3D := by
    unfold apL
    rw [List.map_flatMap]
  refine for_app 4000 (linesOf n cs) ppD (fun p => (rowAP n cs p).map t3D) (fun p hpm s hs N hN => ?_) [] (by rw [ef, List.length_map, List.length_nil]; omega) ?_
  · have pl := lok.lt p hpm
    simp only [q_add_ii, q_add_ss, q_add_ll, q_add_tt, q_addL, q_sub, q_mul, q_div, q_mod, q_neg, q_bool, q_eq_ii, q_eq_ss, q_eq_bb, q_ne_ii, q_ne_ss, q_ne_bb, q_lt, q_le, q_gt, q_ge, q_un2, q_un3, q_un4, q_intO, q_len_l, q_len_t, q_len_s, q_abs, q_int_i, q_int_b, q_tup_l, q_tup_t, q_list_l, q_list_t, q_min, q_max, q_it_l, q_it_t, q_rng, q_enu_l, q_enu_t, q_rev, q_sl_l, q_sl_t, q_sl_s, q_slL, q_all, q_any, q_sum, q_sort_pp, q_and, q_or, q_ite, q_join, cond_true, cond_false, true_and, and_true, decide_eq_true_eq, decide_true, decide_false, p_un_pl, p_ix_pl0, p_ix_pl1, p_un_pp, p_ix_pp0, p_ix_pp1, p_mk, p_eq, p_ne, p_in, p_notIn, p_lt]
    refine ⟨by omega, ?_⟩
    rw [range_map]
    have er : (rowAP n cs p).map t3D = (List.range (n - (p.2 + 1)).toNat).flatMap fun (j : Nat) => if (tieB n cs p.1 (p.2 + 1 + j) && tieB n cs p.2 (p.2 + 1 + j)) then [t3D (p.1, p.2, p.2 + 1 + (j : Int))] else [] := by
      unfold rowAP
      rw [flat_fil, List.map_map]; rfl
    rw [er] at hs hN
    refine for_app 4000 (List.range (n - (p.2 + 1)).toNat) (fun (j : Nat) => PyData.int (p.2 + 1 + (j : Int))) (fun (j : Nat) => if (tieB n cs p.1 (p.2 + 1 + j) && tieB n cs p.2 (p.2 + 1 + j)) then [t3D (p.1, p.2, p.2 + 1 + (j : Int))] else []) (fun j hj s2 hs2 N2 hN2 => ?_) s hs hN
    have e1 : ∀ Q : KB, inTM (tied (linesOf n cs)) (.tuple [.int p.1, .int (p.2 + 1 + (j : Int))]) (fun b => Q b) = Q (tieB n cs p.1 (p.2 + 1 + (j : Int))) := fun Q => q_inT (p := (p.1, p.2 + 1 + (j : Int)))
    have e2 : ∀ Q : KB, inTM (tied (linesOf n cs)) (.tuple [.int p.2, .int (p.2 + 1 + (j : Int))]) (fun b => Q b) = Q (tieB n cs p.2 (p.2 + 1 + (j : Int))) := fun Q => q_inT (p := (p.2, p.2 + 1 + (j : Int)))
    rw [q_and' e1 fun _ Q => e2 Q]
    cases hb : (tieB n cs p.1 (p.2 + 1 + (j : Int)) && tieB n cs p.2 (p.2 + 1 + (j : Int))) with
    | true =>
      rw [hb, if_pos rfl] at hN2 hs2
      exact ⟨by simp only [List.length_singleton] at hs2; omega, hN2⟩
    | false =>
      rw [hb, if_neg (by decide), List.append_nil] at hN2
      exact hN2
  · rw [List.nil_append, ef]
    obtain ⟨h1, M, h2, h4⟩ := sort_t3 (apL n cs)
    refine ⟨h1, ?_⟩
    rw [h2]
    exact hK M h4 h2
end
section
variable {K : KD} {Kl : KL} {E : KX} {Kb : KB} {n : Int} {T : Tr}
variable (h3 : 3 ≤ n) (h40 : n ≤ 40) (hT : T.sz = n - 1)
include h3 h40 hT
/-- triples that are tied are the parts -/
theorem mem_apL {x : Int × Int × Int} : x ∈ apL n (plT n T) ↔ ∃ q ∈ T.pts 1 true, x = tri n q.1 := by
  have hp := plT_ok h3 h40 hT
  have lok := lines_ok hp
  have tl : ∀ {a b : Int}, a < b → ((a, b) ∈ linesOf n (plT n T) ↔ tieB n (plT n T) a b = true) := fun {a b} hab => by
    unfold tieB
    rw [decide_eq_true_iff, mem_both hp]
    refine ⟨.inl, fun z => ?_⟩
    rcases z with z | z
    · exact z
    · have := lok.lt _ z; simp only at this; omega
  unfold apL
  rw [List.mem_flatMap]
  constructor
  · rintro ⟨p, hpm, hx⟩
    have pl := lok.lt p hpm
    unfold rowAP at hx
    obtain ⟨j, hj, rfl⟩ := List.mem_map.mp hx
    obtain ⟨hj1, hj2⟩ := List.mem_filter.mp hj
    have hj1 := List.mem_range.mp hj1
    obtain ⟨t1, t2⟩ := Bool.and_eq_true_iff.mp hj2
    have t0 : tieB n (plT n T) p.1 p.2 = true := (tl pl.2.1).mp hpm
    generalize hz : p.2 + 1 + (j : Int) = z at *
    have hzn : z < n := by omega
    have hyz : p.2 < z := by omega
    by_cases hx0 : p.1 = 0
    · rw [hx0] at t0 t1 pl
      have a1 : (p.2, n) ∈ T.arcF 1 := by
        rw [← tieT h3 h40 hT (by omega) (by omega) (Int.le_refl _), Int.emod_self, tie_sym]; exact t0
      have a2 : (z, n) ∈ T.arcF 1 := by
        rw [← tieT h3 h40 hT (by omega) (by omega) (Int.le_refl _), Int.emod_self, tie_sym]; exact t1
      have a3 : (p.2, z) ∈ T.arcF 1 := by
        rw [← tieT h3 h40 hT (by omega) hyz (by omega), Int.emod_eq_of_lt (by omega) (by omega)]; exact t2
      obtain ⟨u, hu, eu⟩ := arc_sub a1
      cases u with
      | lf => have : (Tr.lf).sz = 1 := rfl; simp only at eu; omega
      | nd a b =>
        have esz : (Tr.nd a b).sz = a.sz + b.sz := rfl
        simp only at eu hu
        have em : z = p.2 + a.sz := third_in hu hyz (by omega) a3 (by rw [show p.2 + a.sz + b.sz = n by omega]; exact a2)
        obtain ⟨g, hg⟩ := sub_pts (h := true) hu
        refine ⟨_, hg, ?_⟩
        unfold tri
        rw [if_pos (by simp only; omega), hx0, ← em]
    · have a1 : (p.1, z) ∈ T.arcF 1 := by
        rw [← tieT h3 h40 hT (by omega) (by omega) (by omega), Int.emod_eq_of_lt (by omega) (by omega)]; exact t1
      have a2 : (p.2, z) ∈ T.arcF 1 := by
        rw [← tieT h3 h40 hT (by omega) hyz (by omega), Int.emod_eq_of_lt (by omega) (by omega)]; exact t2
      have a3 : (p.1, p.2) ∈ T.arcF 1 := by
        rw [← tieT h3 h40 hT (by omega) pl.2.1 (by omega), Int.emod_eq_of_lt (by omega) (by omega)]; exact t0
      obtain ⟨u, hu, eu⟩ := arc_sub a1
      cases u with
      | lf => have : (Tr.lf).sz = 1 := rfl; simp only at eu; omega
      | nd a b =>
        have esz : (Tr.nd a b).sz = a.sz + b.sz := rfl
        simp only at eu hu
        have em : p.2 = p.1 + a.sz := third_in hu pl.2.1 (by omega) a3 (by rw [show p.1 + a.sz + b.sz = z by omega]; exact a2)
        obtain ⟨g, hg⟩ := sub_pts (h := true) hu
        refine ⟨_, hg, ?_⟩
        unfold tri
        rw [if_neg (by simp only; omega), ← em]
        rw [show p.2 + b.sz = z by omega]
  · rintro ⟨q, hq, rfl⟩
    obtain ⟨q1, q2, q3, q4, _, a, b, q5, q6, q7⟩ := pts_mid hq
    obtain ⟨w, _, _, _⟩ := subs_arc q5
    have ha := sz_pos a
    have hb := sz_pos b
    have m0 : (q.1.1, q.1.2.2) ∈ T.arcF 1 := w _ (mem_arcF_nd.mpr (.inl (Prod.ext rfl (by simp only; omega))))
    have m1 : (q.1.1, q.1.2.1) ∈ T.arcF 1 := w _ (mem_arcF_nd.mpr (.inr (.inl (by rw [q6]; exact self_arcF a _))))
    have m2 : (q.1.2.1, q.1.2.2) ∈ T.arcF 1 := w _ (mem_arcF_nd.mpr (.inr (.inr (by rw [q7, q6]; exact self_arcF b _))))
    unfold tri
    by_cases e : q.1.2.2 = n
    · rw [if_pos e]
      rw [e] at m0 m2
      have t0 := (tieT h3 h40 hT (by omega) (by omega) (Int.le_refl _)).mpr m0
      have t2 := (tieT h3 h40 hT (by omega) (by omega) (Int.le_refl _)).mpr m2
      rw [Int.emod_self, tie_sym] at t0 t2
      have t1 := (tieT h3 h40 hT q1 q2 (by omega)).mpr m1
      rw [Int.emod_eq_of_lt (by omega) (by omega)] at t1
      refine ⟨(0, q.1.1), (tl (by omega)).mpr t0, ?_⟩
      unfold rowAP
      refine List.mem_map.mpr ⟨(q.1.2.1 - q.1.1 - 1).toNat, List.mem_filter.mpr ⟨List.mem_range.mpr (by simp only; omega), ?_⟩, ?_⟩
      · have ez : q.1.1 + 1 + ((q.1.2.1 - q.1.1 - 1).toNat : Int) = q.1.2.1 := by omega
        simp only [ez, t2, t1, Bool.and_self]
      · simp only [show q.1.1 + 1 + ((q.1.2.1 - q.1.1 - 1).toNat : Int) = q.1.2.1 by omega]
    · rw [if_neg e]
      have t0 := (tieT h3 h40 hT q1 (by omega) (by omega)).mpr m0
      have t1 := (tieT h3 h40 hT q1 q2 (by omega)).mpr m1
      have t2 := (tieT h3 h40 hT (by omega) q3 (by omega)).mpr m2
      rw [Int.emod_eq_of_lt (by omega) (by omega)] at t0 t1 t2
      refine ⟨(q.1.1, q.1.2.1), (tl q2).mpr t1, ?_⟩
      unfold rowAP
      refine List.mem_map.mpr ⟨(q.1.2.2 - q.1.2.1 - 1).toNat, List.mem_filter.mpr ⟨List.mem_range.mpr (by simp only; omega), ?_⟩, ?_⟩
      · have ez : q.1.2.1 + 1 + ((q.1.2.2 - q.1.2.1 - 1).toNat : Int) = q.1.2.2 := by omega
        simp only [ez, t0, t2, Bool.and_self]
      · simp only [show q.1.2.1 + 1 + ((q.1.2.2 - q.1.2.1 - 1).toNat : Int) = q.1.2.2 by omega]
end
/-! the law's own hands -/
def corB (x : Int) (p : Int × Int × Int) : Bool := decide (x ∈ [p.1, p.2.1, p.2.2])
def cnt3 (p q : Int × Int × Int) : Nat := ([p.1, p.2.1, p.2.2].filter fun x => corB x q).length
theorem len_fil3 {a b c : Int} {P : Int → Bool} : ([a, b, c].filter P).length = (P a).toNat + (P b).toNat + (P c).toNat := by
  cases h1 : P a <;> cases h2 : P b <;> cases h3 : P c <;> simp [List.filter_cons, h1, h2, h3]
theorem corB_iff {x : Int} {p : Int × Int × Int} : corB x p = true ↔ x = p.1 ∨ x = p.2.1 ∨ x = p.2.2 := by
  unfold corB
  rw [decide_eq_true_iff]
  simp
theorem corB_no {x : Int} {p : Int × Int × Int} (h : ¬ (x = p.1 ∨ x = p.2.1 ∨ x = p.2.2)) : corB x p = false := by
  cases e : corB x p with
  | false => rfl
  | true => exact absurd (corB_iff.mp e) h
def tri0 (n x : Int) : Int := if x = n then 0 else x
def Tri1 (n : Int) (p : Int × Int × Int) : Prop := 1 ≤ p.1 ∧ p.1 < p.2.1 ∧ p.2.1 < p.2.2 ∧ p.2.2 ≤ n
theorem tri_cases {n : Int} {p : Int × Int × Int} (h : Tri1 n p) : (p.2.2 = n ∧ tri n p = (0, p.1, p.2.1)) ∨ (p.2.2 < n ∧ tri n p = p) := by
  unfold tri
  obtain ⟨_, _, _, h4⟩ := h
  by_cases e : p.2.2 = n
  · exact .inl ⟨e, if_pos e⟩
  · exact .inr ⟨by omega, if_neg e⟩
theorem corB_tri {n x : Int} {q : Int × Int × Int} (h : Tri1 n q) (h1 : 1 ≤ x) (h2 : x ≤ n) : corB (tri0 n x) (tri n q) = corB x q := by
  rw [Bool.eq_iff_iff, corB_iff, corB_iff]
  obtain ⟨a1, a2, a3, a4⟩ := h
  unfold tri0
  rcases tri_cases ⟨a1, a2, a3, a4⟩ with ⟨e, et⟩ | ⟨e, et⟩ <;> rw [et] <;> (try simp only) <;> split <;> omega
theorem cnt3_tri {n : Int} {p q : Int × Int × Int} (hp : Tri1 n p) (hq : Tri1 n q) : cnt3 (tri n p) (tri n q) = cnt3 p q := by
  unfold cnt3
  rw [len_fil3, len_fil3]
  have hp' := hp
  obtain ⟨a1, a2, a3, a4⟩ := hp'
  rcases tri_cases hp with ⟨e, et⟩ | ⟨e, et⟩ <;> rw [et] <;> (try simp only)
  · rw [← corB_tri hq (x := p.1) a1 (by omega), ← corB_tri hq (x := p.2.1) (by omega) (by omega), ← corB_tri hq (x := p.2.2) (by omega) a4]
    unfold tri0
    rw [if_pos e, if_neg (by omega), if_neg (by omega)]
    omega
  · rw [← corB_tri hq (x := p.1) a1 (by omega), ← corB_tri hq (x := p.2.1) (by omega) (by omega), ← corB_tri hq (x := p.2.2) (by omega) a4]
    unfold tri0
    rw [if_neg (by omega), if_neg (by omega), if_neg (by omega)]
theorem pts_b {t : Tr} {s : Int} {h : Bool} {q : (Int × Int × Int) × Bool} (hq : q ∈ t.pts s h) : s ≤ q.1.1 ∧ q.1.1 < q.1.2.1 ∧ q.1.2.1 < q.1.2.2 ∧ q.1.2.2 ≤ s + t.sz := by
  obtain ⟨a, b, c, d, _⟩ := pts_mid hq
  exact ⟨a, b, c, d⟩
theorem mem_pts_nd {a b : Tr} {s : Int} {h : Bool} {q : (Int × Int × Int) × Bool} : q ∈ (Tr.nd a b).pts s h ↔ q = ((s, s + a.sz, s + a.sz + b.sz), h) ∨ q ∈ b.pts (s + a.sz) (!h) ∨ q ∈ a.pts s (!h) := by
  simp [Tr.pts]
theorem top_pts {t : Tr} {s : Int} {h : Bool} {q : (Int × Int × Int) × Bool} (hq : q ∈ t.pts s h) (h1 : q.1.1 = s) (h2 : q.1.2.2 = s + t.sz) : q.2 = h := by
  cases t with
  | lf => cases hq
  | nd a b =>
    have ha := sz_pos a
    have hb := sz_pos b
    have esz : (Tr.nd a b).sz = a.sz + b.sz := rfl
    rcases mem_pts_nd.mp hq with rfl | hq | hq
    · rfl
    · have := pts_b hq; omega
    · have := pts_b hq; omega
theorem two_of {a b c : Bool} (h : a.toNat + b.toNat + c.toNat = 2) : (a = false → b = true ∧ c = true) ∧ (b = false → a = true ∧ c = true) ∧ (c = false → a = true ∧ b = true) := by
  revert h
  cases a <;> cases b <;> cases c <;> decide
/-- parts with two corners in common are of unlike hands -/
theorem adj_op : ∀ {t : Tr} {s : Int} {h : Bool} {p q : (Int × Int × Int) × Bool}, p ∈ t.pts s h → q ∈ t.pts s h → cnt3 p.1 q.1 = 2 → p.2 = !q.2 := by
  intro t
  induction t with
  | lf => intro s h p q hp; cases hp
  | nd a b ia ib =>
    intro s h p q hp hq hc
    have ha := sz_pos a
    have hb := sz_pos b
    unfold cnt3 at hc
    rw [len_fil3] at hc
    obtain ⟨c1, c2, c3⟩ := two_of hc
    rcases mem_pts_nd.mp hp with rfl | hp | hp <;> rcases mem_pts_nd.mp hq with rfl | hq | hq
    · simp only at c1 c2 c3 hc
      rw [corB_iff (x := s) (p := (s, s + a.sz, s + a.sz + b.sz)) |>.mpr (.inl rfl), corB_iff (x := s + a.sz) (p := (s, s + a.sz, s + a.sz + b.sz)) |>.mpr (.inr (.inl rfl)), corB_iff (x := s + a.sz + b.sz) (p := (s, s + a.sz, s + a.sz + b.sz)) |>.mpr (.inr (.inr rfl))] at hc
      exact absurd hc (by decide)
    · have w := pts_b hq
      have z : corB s q.1 = false := corB_no (by omega)
      obtain ⟨y1, y2⟩ := c1 z
      have y1 := corB_iff.mp y1
      have y2 := corB_iff.mp y2
      simp only at y1 y2
      rw [top_pts hq (by omega) (by omega), Bool.not_not]
    · have w := pts_b hq
      have z : corB (s + a.sz + b.sz) q.1 = false := corB_no (by omega)
      obtain ⟨y1, y2⟩ := c3 z
      have y1 := corB_iff.mp y1
      have y2 := corB_iff.mp y2
      simp only at y1 y2
      rw [top_pts hq (by omega) (by omega), Bool.not_not]
    · have w := pts_b hp
      have z : corB p.1.2.1 (s, s + a.sz, s + a.sz + b.sz) = false := corB_no (by simp only; omega)
      obtain ⟨y1, y2⟩ := c2 z
      have y1 := corB_iff.mp y1
      have y2 := corB_iff.mp y2
      simp only at y1 y2
      exact top_pts hp (by omega) (by omega)
    · exact ib hp hq (by unfold cnt3; rw [len_fil3]; exact hc)
    · have w := pts_b hp
      have w2 := pts_b hq
      have z1 : corB p.1.2.1 q.1 = false := corB_no (by omega)
      have z2 : corB p.1.2.2 q.1 = false := corB_no (by omega)
      have := (c2 z1).2
      rw [z2] at this; cases this
    · have w := pts_b hp
      have z : corB p.1.2.1 (s, s + a.sz, s + a.sz + b.sz) = false := corB_no (by simp only; omega)
      obtain ⟨y1, y2⟩ := c2 z
      have y1 := corB_iff.mp y1
      have y2 := corB_iff.mp y2
      simp only at y1 y2
      exact top_pts hp (by omega) (by omega)
    · have w := pts_b hp
      have w2 := pts_b hq
      have z1 : corB p.1.2.1 q.1 = false := corB_no (by omega)
      have z2 : corB p.1.1 q.1 = false := corB_no (by omega)
      have := (c2 z1).1
      rw [z2] at this; cases this
    · exact ia hp hq (by unfold cnt3; rw [len_fil3]; exact hc)
/-- parts of a depth below k -/
def Tr.dp : Tr → Int → Nat → List (Int × Int × Int)
  | _, _, 0 => []
  | .lf, _, _ => []
  | .nd a b, s, k + 1 => (s, s + a.sz, s + a.sz + b.sz) :: (b.dp (s + a.sz) k ++ a.dp s k)
theorem dp_all : ∀ (t : Tr) (s : Int) (h : Bool) (k : Nat), t.sz - 1 ≤ k → ∀ q ∈ t.pts s h, q.1 ∈ t.dp s k := by
  intro t
  induction t with
  | lf => intro s h k _ q hq; cases hq
  | nd a b ia ib =>
    intro s h k hk q hq
    have ha := sz_pos a
    have hb := sz_pos b
    have esz : (Tr.nd a b).sz = a.sz + b.sz := rfl
    obtain ⟨k, rfl⟩ : ∃ j, k = j + 1 := ⟨k - 1, by omega⟩
    rcases mem_pts_nd.mp hq with rfl | hq | hq
    · exact List.mem_cons_self ..
    · exact List.mem_cons_of_mem _ (List.mem_append_left _ (ib _ _ k (by omega) q hq))
    · exact List.mem_cons_of_mem _ (List.mem_append_right _ (ia _ _ k (by omega) q hq))
/-- one deeper: there already, or beside one that is -/
theorem dp_step : ∀ (t : Tr) (s : Int) (h : Bool) (k : Nat), ∀ x ∈ t.dp s (k + 2), x ∈ t.dp s (k + 1) ∨ ∃ p ∈ t.pts s h, ∃ q ∈ t.pts s h, p.1 ∈ t.dp s (k + 1) ∧ q.1 = x ∧ cnt3 p.1 q.1 = 2 := by
  intro t
  induction t with
  | lf => intro s h k x hx; cases hx
  | nd a b ia ib =>
    intro s h k x hx
    have ha := sz_pos a
    have hb := sz_pos b
    have hx : x = (s, s + a.sz, s + a.sz + b.sz) ∨ x ∈ b.dp (s + a.sz) (k + 1) ∨ x ∈ a.dp s (k + 1) := by simpa [Tr.dp] using hx
    have top : (s, s + a.sz, s + a.sz + b.sz) ∈ (Tr.nd a b).dp s (k + 1) := List.mem_cons_self ..
    have mk : ∀ {y : Int × Int × Int}, y = (s, s + a.sz, s + a.sz + b.sz) ∨ y ∈ b.dp (s + a.sz) k ∨ y ∈ a.dp s k → y ∈ (Tr.nd a b).dp s (k + 1) := fun {y} hy => by simpa [Tr.dp] using hy
    rcases hx with rfl | hx | hx
    · exact .inl top
    · cases k with
      | zero =>
        cases b with
        | lf => cases hx
        | nd c d =>
          have hc := sz_pos c
          have hd := sz_pos d
          have hx : x = (s + a.sz, s + a.sz + c.sz, s + a.sz + c.sz + d.sz) := by simpa [Tr.dp] using hx
          have esz : (Tr.nd c d).sz = c.sz + d.sz := rfl
          refine .inr ⟨_, mem_pts_nd.mpr (.inl rfl), (x, !h), mem_pts_nd.mpr (.inr (.inl (mem_pts_nd.mpr (.inl (by rw [hx]))))), top, rfl, ?_⟩
          unfold cnt3
          rw [len_fil3, hx]
          dsimp only
          rw [corB_no (by simp only; omega), corB_iff (x := s + a.sz) (p := (s + a.sz, s + a.sz + c.sz, s + a.sz + c.sz + d.sz)) |>.mpr (.inl rfl), corB_iff (x := s + a.sz + (Tr.nd c d).sz) (p := (s + a.sz, s + a.sz + c.sz, s + a.sz + c.sz + d.sz)) |>.mpr (.inr (.inr (by simp only; omega)))]
          rfl
      | succ k =>
        rcases ib (s + a.sz) (!h) k x hx with z | ⟨p, hp, q, hq, z1, z2, z3⟩
        · exact .inl (mk (.inr (.inl z)))
        · exact .inr ⟨p, mem_pts_nd.mpr (.inr (.inl hp)), q, mem_pts_nd.mpr (.inr (.inl hq)), mk (.inr (.inl z1)), z2, z3⟩
    · cases k with
      | zero =>
        cases a with
        | lf => cases hx
        | nd c d =>
          have hc := sz_pos c
          have hd := sz_pos d
          have hx : x = (s, s + c.sz, s + c.sz + d.sz) := by simpa [Tr.dp] using hx
          have esz : (Tr.nd c d).sz = c.sz + d.sz := rfl
          refine .inr ⟨_, mem_pts_nd.mpr (.inl rfl), (x, !h), mem_pts_nd.mpr (.inr (.inr (mem_pts_nd.mpr (.inl (by rw [hx]))))), top, rfl, ?_⟩
          unfold cnt3
          rw [len_fil3, hx]
          dsimp only
          rw [corB_iff (x := s) (p := (s, s + c.sz, s + c.sz + d.sz)) |>.mpr (.inl rfl), corB_iff (x := s + (Tr.nd c d).sz) (p := (s, s + c.sz, s + c.sz + d.sz)) |>.mpr (.inr (.inr (by simp only; omega))), corB_no (by simp only; omega)]
          rfl
      | succ k =>
        rcases ia s (!h) k x hx with z | ⟨p, hp, q, hq, z1, z2, z3⟩
        · exact .inl (mk (.inr (.inr z)))
        · exact .inr ⟨p, mem_pts_nd.mpr (.inr (.inr hp)), q, mem_pts_nd.mpr (.inr (.inr hq)), mk (.inr (.inr z1)), z2, z3⟩
theorem nodup_le {α : Type} [DecidableEq α] : ∀ {l m : List α}, l.Nodup → (∀ x ∈ l, x ∈ m) → l.length ≤ m.length
  | [], _, _, _ => Nat.zero_le _
  | a :: l, m, h, hs => by
    obtain ⟨h1, h2⟩ := List.nodup_cons.mp h
    have ha := hs a (List.mem_cons_self ..)
    have := nodup_le (m := m.erase a) h2 fun x hx => (List.mem_erase_of_ne (fun e => h1 (by rw [← e]; exact hx))).mpr (hs x (List.mem_cons_of_mem _ hx))
    rw [List.length_erase_of_mem ha] at this
    have : 0 < m.length := List.length_pos_of_mem ha
    rw [List.length_cons]; omega
def k3 (p : Int × Int × Int) : List Key := [.inl p.1, .inl p.2.1, .inl p.2.2]
theorem k3_inj {p q : Int × Int × Int} (h : k3 p = k3 q) : p = q := by
  unfold k3 at h
  injection h with h1 h2
  injection h2 with h2 h3
  injection h3 with h3 _
  exact Prod.ext (Sum.inl.inj h1) (Prod.ext (Sum.inl.inj h2) (Sum.inl.inj h3))
theorem keyTri_eq (n : Int) (p : Int × Int × Int) : keyTri n p = k3 (tri n p) := by
  unfold keyTri k3 tri
  split <;> rfl
theorem keyT_t3 (p : Int × Int × Int) : keyT (t3D p) = some (k3 p) := rfl
theorem mem_putP {κ : Type} [DecidableEq κ] {kvs : List (κ × PyData)} {k : κ} {d : PyData} {x : κ × PyData} (h : x ∈ putP kvs k d) : x = (k, d) ∨ x ∈ kvs := by
  unfold putP at h
  split at h
  · obtain ⟨y, hy, rfl⟩ := List.mem_map.mp h
    by_cases e : y.1 = k
    · rw [if_pos e]
      left
      exact Prod.ext e rfl
    · rw [if_neg e]; exact .inr hy
  · rcases List.mem_append.mp h with h | h
    · exact .inr h
    · exact .inl (List.mem_singleton.mp h)
theorem valP_mem {κ : Type} [DecidableEq κ] {kvs : List (κ × PyData)} {k : κ} {d : PyData} (h : valP kvs k = some d) : (k, d) ∈ kvs := by
  unfold valP at h
  obtain ⟨y, h1, h2⟩ := Option.map_eq_some_iff.mp h
  have h3 := List.find?_some h1
  have h4 : y.1 = k := of_decide_eq_true h3
  have h5 := List.mem_of_find?_eq_some h1
  have : y = (k, d) := Prod.ext h4 h2
  rw [← this]; exact h5
theorem valP_some {κ : Type} [DecidableEq κ] {kvs : List (κ × PyData)} {k : κ} {d : PyData} (h : (k, d) ∈ kvs) : (valP kvs k).isSome = true := by
  unfold valP
  rw [Option.isSome_map, List.find?_isSome]
  exact ⟨_, h, decide_eq_true rfl⟩
theorem q_in_t3 {x : Int} {p : Int × Int × Int} {Kb : KB} : inM (.int x) (t3D p) Kb = Kb (corB x p) := by
  show Kb (inV (.int x) ([p.1, p.2.1, p.2.2].map V.int)) = _
  rw [inV_ints]
  rfl
theorem q_put3 {kvs : AT} {p : Int × Int × Int} {v : PyData} {Q : AT → Prop} : putTM kvs (t3D p) v Q = (kvs.length < sizeLine ∧ Q (putP kvs (k3 p) v)) := rfl
theorem q_in3 {kvs : AT} {p : Int × Int × Int} {Q : KB} : inTM kvs (t3D p) Q = Q (valP kvs (k3 p)).isSome := rfl
theorem q_get3 {kvs : AT} {p : Int × Int × Int} {Q : KD} : getTM kvs (t3D p) Q = (match valP kvs (k3 p) with | some d => Q d | none => False) := rfl
theorem q_shr {p q : Int × Int × Int} {Q : KB} : itM (t3D p) (fun xs => lcM (fun f kp sk => inM f (t3D q) fun b => (b = true → kp f) ∧ (b = false → sk)) (fun l => lenM (.list l) fun r => eqM r (.int 2) fun b => Q b) xs []) = Q (decide (cnt3 p q = 2)) := by
  show itM (.tuple ([p.1, p.2.1, p.2.2].map PyData.int)) _ = _
  rw [q_it_t, q_lc_fil [p.1, p.2.1, p.2.2] PyData.int (fun x => corB x q) PyData.int fun a _ k s => by rw [q_in_t3, q_ite]]
  rw [List.nil_append, q_len_l, q_eq_ii, List.length_map]
  congr 1
  unfold cnt3
  exact decide_eq_decide.mpr (by omega)
/-- all that is told is so -/
def Snd (n : Int) (T : Tr) (D : AT) : Prop := ∀ kv ∈ D, ∃ q ∈ T.pts 1 true, kv = (k3 (tri n q.1), .bool q.2)
structure HandsOk (n : Int) (T : Tr) (D : AT) : Prop where
  snd : Snd n T D
  all : ∀ q ∈ T.pts 1 true, valP D (k3 (tri n q.1)) = some (.bool q.2)
  len : D.length ≤ 100000
def Has3 (D : AT) (x : Int × Int × Int) : Prop := (valP D (k3 x)).isSome = true
theorem has_put {D : AT} {x y : Int × Int × Int} {d : PyData} (h : Has3 D x) : Has3 (putP D (k3 y) d) x := by
  unfold Has3 at *
  rw [valP_put]
  split
  · rfl
  · exact h
theorem has_put_self {D : AT} {y : Int × Int × Int} {d : PyData} : Has3 (putP D (k3 y) d) y := by
  unfold Has3
  rw [valP_put, if_pos rfl]; rfl
section
variable {K : KD} {Kl : KL} {E : KX} {Kb : KB} {n : Int} {T : Tr}
variable (h3 : 3 ≤ n) (h40 : n ≤ 40) (hT : T.sz = n - 1)
include h3 h40 hT
theorem pts_tri1 {q : (Int × Int × Int) × Bool} (hq : q ∈ T.pts 1 true) : Tri1 n q.1 := by
  have := pts_b hq
  unfold Tri1
  omega
theorem tri_inj {p q : (Int × Int × Int) × Bool} (hp : p ∈ T.pts 1 true) (hq : q ∈ T.pts 1 true) (e : tri n p.1 = tri n q.1) : p = q := by
  obtain ⟨_, _, _, _, a5, _⟩ := pts_mid hp
  obtain ⟨_, _, _, _, b5, _⟩ := pts_mid hq
  have t1 := pts_tri1 h3 h40 hT hp
  have t2 := pts_tri1 h3 h40 hT hq
  have key : p.1 = q.1 := by
    obtain ⟨x1, x2, x3, x4⟩ := t1
    obtain ⟨y1, y2, y3, y4⟩ := t2
    rcases tri_cases (pts_tri1 h3 h40 hT hp) with ⟨e1, f1⟩ | ⟨e1, f1⟩ <;> rcases tri_cases (pts_tri1 h3 h40 hT hq) with ⟨e2, f2⟩ | ⟨e2, f2⟩ <;> rw [f1, f2] at e
    · have z1 := congrArg (fun t => t.2.1) e
      have z2 := congrArg (fun t => t.2.2) e
      simp only at z1 z2
      exact Prod.ext z1 (Prod.ext z2 (e1.trans e2.symm))
    · have z1 := congrArg (fun t => t.1) e
      simp only at z1
      omega
    · have z1 := congrArg (fun t => t.1) e
      simp only at z1
      omega
    · exact e
  exact Prod.ext key (by rw [a5, b5, key])
theorem snd_val {D : AT} (hs : Snd n T D) {q : (Int × Int × Int) × Bool} (hq : q ∈ T.pts 1 true) (h : Has3 D (tri n q.1)) : valP D (k3 (tri n q.1)) = some (.bool q.2) := by
  unfold Has3 at h
  obtain ⟨d, hd⟩ := Option.isSome_iff_exists.mp h
  obtain ⟨q', hq', e⟩ := hs _ (valP_mem hd)
  have e1 := k3_inj (congrArg Prod.fst e)
  have e2 : d = .bool q'.2 := congrArg Prod.snd e
  have := tri_inj h3 h40 hT hq hq' e1
  subst this
  rw [hd, e2]
omit h3 h40 hT in
theorem apL_nd {n : Int} {cs : List (Int × Int)} (hp : IsPlan n cs) : (apL n cs).Nodup := by
  have lok := lines_ok hp
  unfold apL
  refine List.pairwise_flatMap.mpr ⟨fun p hpm => ?_, lok.nd.imp fun {a b} hne x hx y hy e => ?_⟩
  · unfold rowAP
    refine List.pairwise_map.mpr ((List.pairwise_lt_range.filter _).imp fun {i j} hij e => ?_)
    have := congrArg (fun t => t.2.2) e
    simp only at this
    omega
  · unfold rowAP at hx hy
    obtain ⟨i, _, rfl⟩ := List.mem_map.mp hx
    obtain ⟨j, _, rfl⟩ := List.mem_map.mp hy
    have z1 := congrArg (fun t => t.1) e
    have z2 := congrArg (fun t => t.2.1) e
    simp only at z1 z2
    exact hne (Prod.ext z1 z2)
theorem i__law_hands {Kt : AT → Prop} (hK : ∀ D, HandsOk n T D → Kt D) : f__law_hands (plD n (plT n T)) Kt E := by
  have hp := plT_ok h3 h40 hT
  have hsl := sizeLine_eq
  have hal := apL_len hp
  unfold f__law_hands
  rw [p_ix_pl0]
  refine e__law_all_parts' hp fun L hperm _ => ?_
  have hL : ∀ x, x ∈ L ↔ ∃ q ∈ T.pts 1 true, x = tri n q.1 := fun x => by rw [hperm.mem_iff]; exact mem_apL h3 h40 hT
  have hlen : L.length ≤ 38 := by
    have h2 : L.length ≤ ((T.pts 1 true).map fun q => tri n q.1).length := nodup_le (hperm.nodup_iff.mpr (apL_nd hp)) fun x hx => by
      obtain ⟨q, hq, e⟩ := (hL x).mp hx
      exact List.mem_map.mpr ⟨q, hq, e.symm⟩
    have := pts_len T 1 true
    rw [List.length_map] at h2
    omega
  have hcnt : T.sz - 1 ≤ L.length := by
    have h1 : ((T.pts 1 true).map fun q => tri n q.1).Nodup := by
      have nd : ∀ (t : Tr) (s : Int) (h : Bool), ((t.pts s h).map fun q => q.1.2.1).Nodup := by
        intro t
        induction t with
        | lf => intro s h; exact List.nodup_nil
        | nd a b ia ib =>
          intro s h
          show ((s + a.sz) :: ((b.pts (s + a.sz) (!h) ++ a.pts s (!h)).map fun q => q.1.2.1)).Nodup
          rw [List.map_append, List.nodup_cons, List.nodup_append]
          refine ⟨fun z => ?_, ib _ _, ia _ _, fun x hx y hy e => ?_⟩
          · rcases List.mem_append.mp z with z | z
            · obtain ⟨q, hq, e⟩ := List.mem_map.mp z
              have := pts_b hq; omega
            · obtain ⟨q, hq, e⟩ := List.mem_map.mp z
              have := pts_b hq; omega
          · obtain ⟨q, hq, e1⟩ := List.mem_map.mp hx
            obtain ⟨q', hq', e2⟩ := List.mem_map.mp hy
            have := pts_b hq
            have := pts_b hq'
            omega
      have nd2 := List.pairwise_map.mp (nd T 1 true)
      refine List.pairwise_map.mpr (nd2.imp_of_mem fun {a b} ha hb hab e => hab ?_)
      have := tri_inj h3 h40 hT ha hb e
      rw [this]
    have h2 : ((T.pts 1 true).map fun q => tri n q.1).length ≤ L.length := nodup_le h1 fun x hx => by
      obtain ⟨q, hq, e⟩ := List.mem_map.mp hx
      exact (hL x).mpr ⟨q, hq, e.symm⟩
    have := pts_len T 1 true
    rw [List.length_map] at h2
    omega
  rw [q_it_l]
  have root : ∀ a b : Tr, T = .nd a b → ((1, 1 + a.sz, 1 + a.sz + b.sz), true) ∈ T.pts 1 true := fun a b e => by rw [e]; exact mem_pts_nd.mpr (.inl rfl)
  obtain ⟨ra, rb, hr⟩ : ∃ a b, T = .nd a b := by
    cases T with
    | lf => have : (Tr.lf).sz = 1 := rfl; omega
    | nd a b => exact ⟨a, b, rfl⟩
  have hrs : 1 + ra.sz + rb.sz = n := by
    have : T.sz = ra.sz + rb.sz := by rw [hr]; rfl
    omega
  -- the first ones
  refine forM_inv L t3D (fun i D => Snd n T D ∧ D.length ≤ i ∧ ∀ j < i, ∀ x, L[j]? = some x → x = tri n (1, 1 + ra.sz, 1 + ra.sz + rb.sz) → Has3 D x) (fun i x hx D ⟨hs, hl, hh⟩ N hN => ?_) (fun D ⟨hs, hl, hh⟩ => ?_) [] ⟨fun _ h => (by cases h), Nat.le_refl _, fun j hj => by omega⟩
  · have hi := (List.getElem?_eq_some_iff.mp hx).1
    obtain ⟨q, hq, ex⟩ := (hL x).mp (List.mem_of_getElem? hx)
    rw [q_and' (b1 := corB 0 x) (fun Q => q_in_t3) (b2 := corB 1 x) fun _ Q => q_in_t3]
    have t1 := pts_tri1 h3 h40 hT hq
    cases hb : (corB 0 x && corB 1 x) with
    | true =>
      refine ⟨fun _ => ?_, fun z => (by cases z)⟩
      obtain ⟨c0, c1⟩ := Bool.and_eq_true_iff.mp hb
      have c0 := corB_iff.mp c0
      have c1 := corB_iff.mp c1
      have hq2 : q.2 = true := by
        obtain ⟨x1, x2, x3, x4⟩ := t1
        rcases tri_cases (pts_tri1 h3 h40 hT hq) with ⟨e1, f1⟩ | ⟨e1, f1⟩
        · rw [ex, f1] at c0 c1
          simp only at c0 c1
          exact top_pts hq (by omega) (by omega)
        · rw [ex, f1] at c0 c1
          omega
      rw [q_put3]
      refine ⟨by omega, hN _ ⟨fun kv hkv => ?_, ?_, fun j hj y hy ey => ?_⟩⟩
      · rcases mem_putP hkv with e | h
        · exact ⟨q, hq, by rw [e, ex, hq2]⟩
        · exact hs kv h
      · have := putP_len (kvs := D) (k := k3 x) (d := .bool true); omega
      · by_cases e : j = i
        · subst e
          rw [hx] at hy; cases hy
          exact has_put_self
        · exact has_put (hh j (by omega) y hy ey)
    | false =>
      refine ⟨fun z => (by cases z), fun _ => hN _ ⟨hs, by omega, fun j hj y hy ey => ?_⟩⟩
      by_cases e : j = i
      · subst e
        rw [hx] at hy; cases hy
        exfalso
        rw [ey] at hb
        unfold tri at hb
        rw [if_pos (by simp only; omega)] at hb
        rw [corB_iff (p := (0, 1, 1 + ra.sz)) |>.mpr (.inl rfl), corB_iff (p := (0, 1, 1 + ra.sz)) |>.mpr (.inr (.inl rfl))] at hb
        cases hb
      · exact hh j (by omega) y hy ey
  · -- turns
    have hroot : ∀ x ∈ T.dp 1 1, Has3 D (tri n x) := fun x hx => by
      rw [hr] at hx
      have hx : x = (1, 1 + ra.sz, 1 + ra.sz + rb.sz) := by simpa [Tr.dp] using hx
      have hm : tri n x ∈ L := (hL _).mpr ⟨_, root ra rb hr, by rw [hx]⟩
      obtain ⟨j, hj⟩ := List.mem_iff_getElem?.mp hm
      exact hh j (List.getElem?_eq_some_iff.mp hj).1 _ hj (by rw [hx])
    rw [q_len_l, List.length_map, q_rng]
    refine ⟨by omega, ?_⟩
    rw [range0]
    have hD0 : D.length ≤ 38 := by omega
    have hsq : L.length * L.length ≤ 38 * 38 := Nat.mul_le_mul hlen hlen
    refine forM_inv (List.range ((L.length : Nat) : Int).toNat) (fun (i : Nat) => PyData.int i) (fun t D => Snd n T D ∧ D.length ≤ 38 + t * (38 * 38) ∧ ∀ x ∈ T.dp 1 (t + 1), Has3 D (tri n x)) (fun t _ ht D ⟨hs, hl, hh⟩ N hN => ?_) (fun D ⟨hs, hl, hh⟩ => ?_) D ⟨hs, by omega, hroot⟩
    · have ht := (List.getElem?_eq_some_iff.mp ht).1
      rw [List.length_range] at ht
      have htl : t < L.length := by omega
      rw [q_it_l]
      refine forM_inv L t3D (fun i D' => Snd n T D' ∧ D'.length ≤ D.length + i * L.length ∧ (∀ x, Has3 D x → Has3 D' x) ∧ ∀ j < i, ∀ x, L[j]? = some x → Has3 D x → ∀ y ∈ L, cnt3 x y = 2 → Has3 D' y) (fun i x hx D1 ⟨hs1, hl1, hm1, hh1⟩ N1 hN1 => ?_) (fun D' ⟨hs', hl', hm', hh'⟩ => ?_) D ⟨hs, by omega, fun _ h => h, fun j hj => by omega⟩
      · have hi := (List.getElem?_eq_some_iff.mp hx).1
        obtain ⟨p, hpp, ex⟩ := (hL x).mp (List.mem_of_getElem? hx)
        rw [q_it_l]
        refine forM_inv L t3D (fun i2 D' => Snd n T D' ∧ D'.length ≤ D1.length + i2 ∧ (∀ x, Has3 D1 x → Has3 D' x) ∧ ∀ j < i2, ∀ y, L[j]? = some y → Has3 D x → cnt3 x y = 2 → Has3 D' y) (fun i2 y hy D2 ⟨hs2, hl2, hm2, hh2⟩ N2 hN2 => ?_) (fun D2 ⟨hs2, hl2, hm2, hh2⟩ => ?_) D1 ⟨hs1, by omega, fun _ h => h, fun j hj => by omega⟩
        · have hi2 := (List.getElem?_eq_some_iff.mp hy).1
          obtain ⟨q, hqq, ey⟩ := (hL y).mp (List.mem_of_getElem? hy)
          have hsz : D2.length < sizeLine := by
            have e1 : t * (38 * 38) ≤ 38 * (38 * 38) := Nat.mul_le_mul_right _ (by omega)
            have e2 : i * L.length ≤ 38 * 38 := Nat.mul_le_mul (by omega) hlen
            omega
          rw [q_and' (b1 := (valP D2 (k3 x)).isSome) (fun Q => q_in3) (b2 := !(valP D2 (k3 y)).isSome && decide (cnt3 x y = 2)) fun _ Q => q_and' (b1 := !(valP D2 (k3 y)).isSome) (fun Q => q_in3) (b2 := decide (cnt3 x y = 2)) fun _ Q => q_shr]
          cases hb : ((valP D2 (k3 x)).isSome && (!(valP D2 (k3 y)).isSome && decide (cnt3 x y = 2))) with
          | true =>
            refine ⟨fun _ => ?_, fun z => (by cases z)⟩
            obtain ⟨b1, b2⟩ := Bool.and_eq_true_iff.mp hb
            obtain ⟨b2, b3⟩ := Bool.and_eq_true_iff.mp b2
            have b3 := of_decide_eq_true b3
            have hv := snd_val h3 h40 hT hs2 hpp (ex ▸ b1)
            rw [q_get3, ex, hv]
            dsimp only
            rw [q_bool, q_put3]
            have hop : p.2 = !q.2 := by
              refine adj_op hpp hqq ?_
              rw [← cnt3_tri (pts_tri1 h3 h40 hT hpp) (pts_tri1 h3 h40 hT hqq), ← ex, ← ey]
              exact b3
            refine ⟨hsz, hN2 _ ⟨fun kv hkv => ?_, ?_, fun z hz => has_put (hm2 z hz), fun j hj z hz hx3 hc => ?_⟩⟩
            · rcases mem_putP hkv with e | h
              · exact ⟨q, hqq, by rw [e, ey, hop, Bool.not_not]⟩
              · exact hs2 kv h
            · have := putP_len (kvs := D2) (k := k3 y) (d := .bool (!p.2)); omega
            · by_cases e : j = i2
              · subst e
                rw [hy] at hz; cases hz
                exact has_put_self
              · exact has_put (hh2 j (by omega) z hz hx3 hc)
          | false =>
            refine ⟨fun z => (by cases z), fun _ => hN2 _ ⟨hs2, by omega, hm2, fun j hj z hz hx3 hc => ?_⟩⟩
            by_cases e : j = i2
            · subst e
              rw [hy] at hz; cases hz
              rw [decide_eq_true hc, Bool.and_true] at hb
              have b1 : (valP D2 (k3 x)).isSome = true := hm2 _ (hm1 _ hx3)
              rw [b1, Bool.true_and] at hb
              unfold Has3
              simpa using hb
            · exact hh2 j (by omega) z hz hx3 hc
        · refine hN1 _ ⟨hs2, ?_, fun z hz => hm2 z (hm1 z hz), fun j hj z hz hx3 y hy hc => ?_⟩
          · rw [Nat.add_mul]; omega
          · by_cases e : j = i
            · subst e
              rw [hx] at hz; cases hz
              obtain ⟨j2, hj2⟩ := List.mem_iff_getElem?.mp hy
              exact hh2 j2 (List.getElem?_eq_some_iff.mp hj2).1 y hj2 hx3 hc
            · exact hm2 _ (hh1 j (by omega) z hz hx3 y hy hc)
      · refine hN _ ⟨hs', ?_, fun x hx => ?_⟩
        · rw [Nat.add_mul]; omega
        · rcases dp_step T 1 true t x hx with z | ⟨p, hpp, q, hqq, z1, z2, z3⟩
          · exact hm' _ (hh x z)
          · have m1 : tri n p.1 ∈ L := (hL _).mpr ⟨p, hpp, rfl⟩
            have m2 : tri n q.1 ∈ L := (hL _).mpr ⟨q, hqq, rfl⟩
            obtain ⟨j, hj⟩ := List.mem_iff_getElem?.mp m1
            rw [← z2]
            exact hh' j (List.getElem?_eq_some_iff.mp hj).1 _ hj (hh _ z1) _ m2 (by rw [cnt3_tri (pts_tri1 h3 h40 hT hpp) (pts_tri1 h3 h40 hT hqq)]; exact z3)
    · refine hK D ⟨hs, fun q hq => ?_, ?_⟩
      · refine snd_val h3 h40 hT hs hq (hh _ (dp_all T 1 true _ ?_ q hq))
        rw [List.length_range]; omega
      · rw [List.length_range] at hl
        have e1 : ((L.length : Nat) : Int).toNat * (38 * 38) ≤ 38 * (38 * 38) := Nat.mul_le_mul_right _ (by omega)
        omega
end
end Tx

namespace Tx
open PySem PySem.Spec PyProof.Rows L2 TL
@[irreducible] def f_need_row (row : PyData) (K : KD) (E : KX) : Prop :=
  orM (fun Q => lenM row fun r2 =>
  andM (fun Q => leM (.int 3) r2 Q) (fun Q => leM r2 (.int 40) Q) fun b3 =>
  Q (!b3)) (fun Q => orM (fun Q => ixM row (.int 0) fun r6 =>
  neM r6 (.str "r") fun b7 =>
  Q b7) (fun Q => itM row fun xs8 =>
  lcM (fun sign9 kp sk => inM sign9 (.str "rl") fun b11 =>
  kp (.bool b11)) (fun l10 =>
  allM (.list l10) fun r12 =>
  boolM r12 fun b13 =>
  Q (!b13)) xs8 []) fun b5 =>
  Q b5) fun b1 =>
  (b1 = true → (E (.own "BadRow"))) ∧ (b1 = false → (K .none))
def c_need_row : CT := fun args Φ Ψ => ∃ (row : PyData) (K : KD) (E : KX), args = [.d row] ∧ f_need_row row K E ∧ (∀ r, K r → Φ (.rd r) args) ∧ ∀ c, E c → Ψ c args
@[irreducible] def f_other_hand (hand : PyData) (K : KD) (E : KX) : Prop :=
  eqM hand (.str "r") fun b1 =>
  (b1 = true → (K (.str "l"))) ∧ (b1 = false → (K (.str "r")))
def c_other_hand : CT := fun args Φ Ψ => ∃ (hand : PyData) (K : KD) (E : KX), args = [.d hand] ∧ f_other_hand hand K E ∧ (∀ r, K r → Φ (.rd r) args) ∧ ∀ c, E c → Ψ c args
@[irreducible] def f_counted (row : PyData) (K : (List (List Key × PyData) → Prop)) (E : KX) : Prop :=
  lenM row fun r1 =>
  rngM (.int 0) r1 fun xs3 =>
  forM (fun at_76 found79 N77 B78 => ixM row at_76 fun r82 =>
  eqM r82 (.str "r") fun b83 =>
  intM (.bool b83) fun r84 =>
  putTM found79 (.tuple [at_76, at_76, (.str "r")]) r84 fun kv85 =>
  ixM row at_76 fun r86 =>
  eqM r86 (.str "l") fun b87 =>
  intM (.bool b87) fun r88 =>
  putTM kv85 (.tuple [at_76, at_76, (.str "l")]) r88 fun kv89 =>
  N77 kv89) (fun found4 =>
  rngM (.int 1) r1 fun xs7 =>
  forM (fun wide15 found18 N16 B17 => subM r1 wide15 fun r26 =>
  rngM (.int 0) r26 fun xs25 =>
  forM (fun at_33 found36 N34 B35 => itM (.tuple [(.str "r"), (.str "l")]) fun xs42 =>
  forM (fun hand48 found51 N49 B50 => addM at_33 wide15 fun r57 =>
  rngM at_33 r57 fun xs56 =>
  forM (fun middle63 ways66 N64 B65 => intO ways66 fun u68 =>
  getTM found51 (.tuple [at_33, middle63, hand48]) fun r71 =>
  addM middle63 (.int 1) fun r72 =>
  addM at_33 wide15 fun r73 =>
  getTM found51 (.tuple [r72, r73, hand48]) fun r74 =>
  mulM r71 r74 fun r75 =>
  intO r75 fun m69 =>
  N64 (.int (u68 + m69))) (fun ways58 =>
  addM at_33 wide15 fun r60 =>
  f_other_hand hand48 (fun r61 =>
  putTM found51 (.tuple [at_33, r60, r61]) ways58 fun kv62 =>
  N49 kv62) E) xs56 (.int 0)) (fun found43 =>
  N34 found43) xs42 found36) (fun found27 =>
  N16 found27) xs25 found18) (fun found8 =>
  K found8) xs7 found4) xs3 []
def c_counted : CT := fun args Φ Ψ => ∃ (row : PyData) (K : (List (List Key × PyData) → Prop)) (E : KX), args = [.d row] ∧ f_counted row K E ∧ (∀ r, K r → Φ (.nt r) args) ∧ ∀ c, E c → Ψ c args
@[irreducible] def f_folds (row : PyData) (K : KD) (E : KX) : Prop :=
  f_need_row row (fun r1 =>
  f_counted row (fun r2 =>
  lenM row fun r3 =>
  subM r3 (.int 1) fun r4 =>
  getDM (dTd r2) (.tuple [(.int 1), r4, (.str "l")]) fun r5 =>
  K r5) E) E
def c_folds : CT := fun args Φ Ψ => ∃ (row : PyData) (K : KD) (E : KX), args = [.d row] ∧ f_folds row K E ∧ (∀ r, K r → Φ (.rd r) args) ∧ ∀ c, E c → Ψ c args
@[irreducible] def f__law_fold_counts (l_row_here : PyData) (K : KD) (E : KX) : Prop :=
  lenM l_row_here fun r1 =>
  rngM (.int 1) r1 fun xs3 =>
  forM (fun l_wide25 l_counts28 N26 B27 => addM r1 (.int 1) fun r36 =>
  subM r36 l_wide25 fun r37 =>
  rngM (.int 1) r37 fun xs35 =>
  forM (fun l_start44 l_counts47 N45 B46 => dispM [((.str "r"), (.int 0)), ((.str "l"), (.int 0))] fun m55 =>
  addM l_start44 (.int 1) fun r57 =>
  addM l_start44 l_wide25 fun r58 =>
  rngM r57 r58 fun xs56 =>
  forM (fun l_middle79 l_sums82 N80 B81 => itM (.tuple [(.str "r"), (.str "l")]) fun xs86 =>
  forM (fun l_hand90 l_sums93 N91 B92 => getKM l_sums93 l_hand90 fun o96 =>
  intO o96 fun u97 =>
  getTM l_counts47 (.tuple [l_start44, l_middle79, l_hand90]) fun r100 =>
  addM l_start44 l_wide25 fun r101 =>
  getTM l_counts47 (.tuple [l_middle79, r101, l_hand90]) fun r102 =>
  mulM r100 r102 fun r103 =>
  intO r103 fun m98 =>
  putKM l_sums93 l_hand90 (.int (u97 + m98)) fun kv99 =>
  N91 kv99) (fun l_sums87 =>
  N80 l_sums87) xs86 l_sums82) (fun l_sums59 =>
  ifM (fun Q => gtM l_wide25 (.int 1) fun b64 =>
  Q b64) (fun Q => getKM l_sums59 (.str "l") fun r65 =>
  Q r65) (fun Q => ixM l_row_here l_start44 fun r66 =>
  eqM r66 (.str "r") fun b67 =>
  intM (.bool b67) fun r68 =>
  Q r68) fun r63 =>
  addM l_start44 l_wide25 fun r69 =>
  putTM l_counts47 (.tuple [l_start44, r69, (.str "r")]) r63 fun kv70 =>
  ifM (fun Q => gtM l_wide25 (.int 1) fun b72 =>
  Q b72) (fun Q => getKM l_sums59 (.str "r") fun r73 =>
  Q r73) (fun Q => ixM l_row_here l_start44 fun r74 =>
  eqM r74 (.str "l") fun b75 =>
  intM (.bool b75) fun r76 =>
  Q r76) fun r71 =>
  addM l_start44 l_wide25 fun r77 =>
  putTM kv70 (.tuple [l_start44, r77, (.str "l")]) r71 fun kv78 =>
  N45 kv78) xs56 m55) (fun l_counts38 =>
  N26 l_counts38) xs35 l_counts28) (fun l_counts4 =>
  rngM (.int 2) r1 fun xs11 =>
  forM (fun l_middle14 l_found17 N15 B16 => intO l_found17 fun u19 =>
  getTM l_counts4 (.tuple [(.int 1), l_middle14, (.str "r")]) fun r22 =>
  getTM l_counts4 (.tuple [l_middle14, r1, (.str "r")]) fun r23 =>
  mulM r22 r23 fun r24 =>
  intO r24 fun m20 =>
  N15 (.int (u19 + m20))) (fun l_found12 =>
  K l_found12) xs11 (.int 0)) xs3 []
def c__law_fold_counts : CT := fun args Φ Ψ => ∃ (l_row_here : PyData) (K : KD) (E : KX), args = [.d l_row_here] ∧ f__law_fold_counts l_row_here K E ∧ (∀ r, K r → Φ (.rd r) args) ∧ ∀ c, E c → Ψ c args
@[irreducible] def f__law_letters_row (l_most : PyData) (K : KD) (E : KX) : Prop :=
  subM l_most (.int 2) fun r1 =>
  f__law_pull r1 (fun r2 =>
  addM (.int 3) r2 fun r3 =>
  f__law_pull (.int 5) (fun r4 =>
  rngM (.int 1) r3 fun xs5 =>
  forM (fun l_at27 l_row_here30 N28 B29 => joinM (fun (Q : PyData → Prop) => eqM r4 (.int 0) fun b32 =>
  (b32 = true → (modM l_at27 (.int 2) fun r36 =>
  ixM (.str "rl") r36 fun r37 =>
  addM l_row_here30 r37 fun r38 =>
  Q r38)) ∧ (b32 = false → (joinM (fun (Q : PyData → Prop) => eqM r4 (.int 1) fun b39 =>
  (b39 = true → (addM l_row_here30 (.str "r") fun r43 =>
  Q r43)) ∧ (b39 = false → (f__law_pull (.int 2) (fun r44 =>
  ixM (.str "rl") r44 fun r45 =>
  addM l_row_here30 r45 fun r46 =>
  Q r46) E))) (fun l_row_here47 =>
  Q l_row_here47)))) (fun l_row_here48 =>
  N28 l_row_here48)) (fun l_row_here6 =>
  joinM (fun (Q : PyData → Prop) => andM (fun Q => eqM r4 (.int 3) fun b9 =>
  Q b9) (fun Q => andM (fun Q => strO l_row_here6 fun s11 =>
  countM (.str s11) (.str "r") fun r13 =>
  strO l_row_here6 fun s14 =>
  countM (.str s14) (.str "l") fun r16 =>
  subM r13 r16 fun r17 =>
  modM r17 (.int 3) fun r18 =>
  eqM r18 (.int 1) fun b19 =>
  Q b19) (fun Q => lenM l_row_here6 fun r20 =>
  gtM r20 (.int 3) fun b21 =>
  Q b21) fun b10 =>
  Q b10) fun b8 =>
  (b8 = true → (slM l_row_here6 none (some (-1)) fun r25 =>
  Q r25)) ∧ (b8 = false → (Q l_row_here6))) (fun l_row_here26 =>
  K l_row_here26)) xs5 (.str "r")) E) E
def c__law_letters_row : CT := fun args Φ Ψ => ∃ (a_l_bag_here : Addr) (l_most : PyData) (K : KD) (E : KX), args = [.bg a_l_bag_here, .d l_most] ∧ f__law_letters_row l_most K E ∧ (∀ r, K r → Φ (.rd r) args) ∧ ∀ c, E c → Ψ c args
/-! rows of hands as texts: true is r -/
def chB (b : Bool) : Nat := if b then 114 else 108
def rS (w : List Bool) : Str := ⟨(w.map chB).toArray⟩
theorem rS_r : ("r" : Str) = rS [true] := by decide +kernel
theorem rS_l : ("l" : Str) = rS [false] := by decide +kernel
theorem rS_rl : ("rl" : Str) = rS [true, false] := by decide +kernel
theorem rS_lr : ("lr" : Str) = rS [false, true] := by decide +kernel
theorem rS_nil : ("" : Str) = rS [] := by decide +kernel
theorem rS_tl (w : List Bool) : (rS w).cps.toList = w.map chB := rfl
theorem rS_len (w : List Bool) : (rS w).length = w.length := by
  show (w.map chB).toArray.size = _
  simp
theorem str_ext {x y : Str} (h : x.cps.toList = y.cps.toList) : x = y := Str.ext' (Array.toList_inj.mp h)
theorem rS_app (u v : List Bool) : rS u ++ rS v = rS (u ++ v) := str_ext (by
  have h : (rS u ++ rS v).cps.toList = (rS u).cps.toList ++ (rS v).cps.toList := tl_append _ _
  rw [h, rS_tl, rS_tl, rS_tl, List.map_append])
theorem chB_inj {a b : Bool} (h : chB a = chB b) : a = b := by
  cases a <;> cases b <;> first | rfl | (exact absurd h (by decide))
theorem rS_inj {u v : List Bool} (h : rS u = rS v) : u = v := by
  have h2 : u.map chB = v.map chB := by rw [← rS_tl, ← rS_tl, h]
  exact List.map_inj_right (fun _ _ => chB_inj) |>.mp h2
theorem sgn_ch (b : Bool) : sgn (chB b) = .str (rS [b]) := rfl
theorem dec_rS {u v : List Bool} : decide (rS u = rS v) = decide (u = v) := decide_eq_decide.mpr ⟨rS_inj, fun h => by rw [h]⟩
section
variable {K : KD} {Kl : KL} {E : KX} {Kb : KB} {w : List Bool}
theorem at_rS {i : Int} {b : Bool} (h0 : 0 ≤ i) (h : w[i.toNat]? = some b) : atI (rS w).cps.toList i = some (chB b) := by
  rw [rS_tl]
  exact at_nat h0 (by rw [List.getElem?_map, h]; rfl)
theorem q_ix_rS {i : Int} {b : Bool} (hl : w.length ≤ 1000) (h0 : 0 ≤ i) (h : w[i.toNat]? = some b) : ixM (.str (rS w)) (.int i) K = K (.str (rS [b])) := by
  have hsl := sizeLine_eq
  show ((rS w).length ≤ sizeLine ∧ match atI (rS w).cps.toList i with | some c => K (sgn c) | none => False) = _
  rw [at_rS h0 h, rS_len, ← sgn_ch]
  exact propext (and_iff_right (by omega))
theorem q_len_rS (hl : w.length ≤ 1000) : lenM (.str (rS w)) K = K (.int w.length) := by
  have hsl := sizeLine_eq
  show ((rS w).length ≤ sizeLine ∧ K (.int (rS w).length)) = _
  rw [rS_len]
  exact propext (and_iff_right (by omega))
theorem q_it_rS {Kl : KL} (hl : w.length ≤ 1000) : itM (.str (rS w)) Kl = Kl (w.map fun b => .str (rS [b])) := by
  have hsl := sizeLine_eq
  show ((rS w).length ≤ sizeLine ∧ Kl ((rS w).cps.toList.map sgn)) = _
  rw [rS_len, rS_tl, List.map_map]
  exact propext (and_iff_right (by omega))
end
/-! how many trees have a stretch -/
def cWf : Nat → List Bool → Bool → Int
  | 0, _, _ => 0
  | f + 1, w, h => if w.length ≤ 1 then (if w = [h] then 1 else 0) else ((List.range (w.length - 1)).map fun i => cWf f (w.take (i + 1)) (!h) * cWf f (w.drop (i + 1)) (!h)).sum
def cW (w : List Bool) (h : Bool) : Int := cWf w.length w h
theorem cWf_eq : ∀ (f g : Nat) (w : List Bool) (h : Bool), 1 ≤ w.length → w.length ≤ f → w.length ≤ g → cWf f w h = cWf g w h := by
  intro f
  induction f with
  | zero => intro g w h h0 h1 h2; omega
  | succ f ih =>
    intro g w h h0 h1 h2
    cases g with
    | zero => omega
    | succ g =>
      unfold cWf
      by_cases hl : w.length ≤ 1
      · rw [if_pos hl, if_pos hl]
      · rw [if_neg hl, if_neg hl]
        refine congrArg List.sum (List.map_congr_left fun i hi => ?_)
        have hi := List.mem_range.mp hi
        rw [ih g _ _ (by rw [List.length_take]; omega) (by rw [List.length_take]; omega) (by rw [List.length_take]; omega), ih g _ _ (by rw [List.length_drop]; omega) (by rw [List.length_drop]; omega) (by rw [List.length_drop]; omega)]
theorem cW_one (b h : Bool) : cW [b] h = if b = h then 1 else 0 := by
  cases b <;> cases h <;> decide
theorem cW_step {w : List Bool} (hl : 2 ≤ w.length) (h : Bool) : cW w h = ((List.range (w.length - 1)).map fun i => cW (w.take (i + 1)) (!h) * cW (w.drop (i + 1)) (!h)).sum := by
  obtain ⟨f, hf⟩ : ∃ f, w.length = f + 1 := ⟨w.length - 1, by omega⟩
  unfold cW
  conv => lhs; rw [hf]; unfold cWf
  rw [if_neg (by omega)]
  refine congrArg List.sum (List.map_congr_left fun i hi => ?_)
  have hi := List.mem_range.mp hi
  rw [cWf_eq f _ (w.take (i + 1)) _ (by rw [List.length_take]; omega) (by rw [List.length_take]; omega) (Nat.le_refl _), cWf_eq f _ (w.drop (i + 1)) _ (by rw [List.length_drop]; omega) (by rw [List.length_drop]; omega) (Nat.le_refl _)]
theorem sum_le {α : Type} (L : List α) (f g : α → Int) (h : ∀ a ∈ L, f a ≤ g a) : (L.map f).sum ≤ (L.map g).sum := by
  induction L with
  | nil => exact Int.le_refl _
  | cons a L ih =>
    have := h a (List.mem_cons_self ..)
    have := ih fun b hb => h b (List.mem_cons_of_mem _ hb)
    simp only [List.map_cons, List.sum_cons]; omega
theorem sum_nn {α : Type} (L : List α) (f : α → Int) (h : ∀ a ∈ L, 0 ≤ f a) : 0 ≤ (L.map f).sum := by
  induction L with
  | nil => exact Int.le_refl _
  | cons a L ih =>
    have := h a (List.mem_cons_self ..)
    have := ih fun b hb => h b (List.mem_cons_of_mem _ hb)
    simp only [List.map_cons, List.sum_cons]; omega
theorem cW_nn : ∀ (k : Nat) (w : List Bool) (h : Bool), w.length ≤ k → 1 ≤ w.length → 0 ≤ cW w h := by
  intro k
  induction k with
  | zero => intro w h h1 h2; omega
  | succ k ih =>
    intro w h h1 h2
    by_cases hl : w.length = 1
    · obtain ⟨b, rfl⟩ := List.length_eq_one_iff.mp hl
      rw [cW_one]; split <;> decide
    · rw [cW_step (by omega)]
      refine sum_nn _ _ fun i hi => ?_
      have hi := List.mem_range.mp hi
      exact Int.mul_nonneg (ih _ _ (by rw [List.length_take]; omega) (by rw [List.length_take]; omega)) (ih _ _ (by rw [List.length_drop]; omega) (by rw [List.length_drop]; omega))
theorem cW_le : ∀ (k : Nat) (w : List Bool) (h : Bool), w.length ≤ k → 1 ≤ w.length → w.length ≤ 40 → cW w h ≤ cc w.length := by
  intro k
  induction k with
  | zero => intro w h h1 h2; omega
  | succ k ih =>
    intro w h h1 h2 h4
    by_cases hl : w.length = 1
    · obtain ⟨b, rfl⟩ := List.length_eq_one_iff.mp hl
      rw [cW_one]
      have : cc ([b] : List Bool).length = 1 := rfl
      rw [this]; split <;> decide
    · rw [cW_step (by omega), ← cc_rec w.length (by omega) (by omega)]
      refine sum_le _ _ _ fun i hi => ?_
      have hi := List.mem_range.mp hi
      have l1 : (w.take (i + 1)).length = i + 1 := by rw [List.length_take]; omega
      have l2 : (w.drop (i + 1)).length = w.length - (i + 1) := by rw [List.length_drop]
      have a1 := ih (w.take (i + 1)) (!h) (by omega) (by omega) (by omega)
      have a2 := ih (w.drop (i + 1)) (!h) (by omega) (by omega) (by omega)
      have b1 := cW_nn _ (w.take (i + 1)) (!h) (Nat.le_refl _) (by omega)
      have b2 := cW_nn _ (w.drop (i + 1)) (!h) (Nat.le_refl _) (by omega)
      rw [l1] at a1
      rw [l2] at a2
      rw [show (1 + (i : Int)).toNat = i + 1 by omega, show ((w.length : Int) - (1 + (i : Int))).toNat = w.length - (i + 1) by omega]
      exact Int.mul_le_mul a1 a2 b2 (by omega)
theorem cW_lt {w : List Bool} {h : Bool} (h1 : 1 ≤ w.length) (h2 : w.length ≤ 40) : (cW w h).natAbs < 2 ^ 80 := by
  have a := cW_nn _ w h (Nat.le_refl _) h1
  have b := cW_le _ w h (Nat.le_refl _) h1 h2
  have c := cc_lt w.length (by omega)
  omega
/-- the stretch from a on, ahead of b -/
def sb (R : List Bool) (a b : Nat) : List Bool := (R.drop a).take (b - a)
theorem sb_len {R : List Bool} {a b : Nat} (h : b ≤ R.length) : (sb R a b).length = b - a := by
  unfold sb
  rw [List.length_take, List.length_drop]; omega
theorem sb_take {R : List Bool} {a b i : Nat} (h : a + i ≤ b) : (sb R a b).take i = sb R a (a + i) := by
  unfold sb
  rw [List.take_take]
  congr 1; omega
theorem sb_drop {R : List Bool} {a b i : Nat} : (sb R a b).drop i = sb R (a + i) b := by
  unfold sb
  rw [List.drop_take, List.drop_drop]
  congr 1; omega
theorem sb_one {R : List Bool} {a : Nat} {b : Bool} (h : R[a]? = some b) : sb R a (a + 1) = [b] := by
  unfold sb
  rw [show a + 1 - a = 1 by omega]
  obtain ⟨h1, h2⟩ := List.getElem?_eq_some_iff.mp h
  rw [List.drop_eq_getElem_cons h1, h2]; rfl
theorem sb_step {R : List Bool} {a b : Nat} (h : b ≤ R.length) (h2 : a + 2 ≤ b) (g : Bool) : cW (sb R a b) g = ((List.range (b - a - 1)).map fun i => cW (sb R a (a + i + 1)) (!g) * cW (sb R (a + i + 1) b) (!g)).sum := by
  rw [cW_step (by rw [sb_len h]; omega), sb_len h]
  refine congrArg List.sum (List.map_congr_left fun i hi => ?_)
  have hi := List.mem_range.mp hi
  rw [sb_take (by omega), sb_drop]
  rfl
def kW (i j : Int) (h : Bool) : List Key := [.inl i, .inl j, .inr (rS [h])]
theorem keyT_W (i j : Int) (h : Bool) : keyT (.tuple [.int i, .int j, .str (rS [h])]) = some (kW i j h) := rfl
theorem kW_eq {i j i' j' : Int} {h h' : Bool} : kW i j h = kW i' j' h' ↔ i = i' ∧ j = j' ∧ h = h' := by
  refine ⟨fun e => ?_, fun ⟨a, b, c⟩ => by rw [a, b, c]⟩
  unfold kW at e
  injection e with e1 e2
  injection e2 with e2 e3
  injection e3 with e3 _
  have := rS_inj (Sum.inr.inj e3)
  exact ⟨Sum.inl.inj e1, Sum.inl.inj e2, by injection this⟩
theorem q_getW {kvs : AT} {i j : Int} {h : Bool} {Q : KD} : getTM kvs (.tuple [.int i, .int j, .str (rS [h])]) Q = (match valP kvs (kW i j h) with | some d => Q d | none => False) := rfl
theorem q_putW {kvs : AT} {i j : Int} {h : Bool} {v : PyData} {Q : AT → Prop} : putTM kvs (.tuple [.int i, .int j, .str (rS [h])]) v Q = (kvs.length < sizeLine ∧ Q (putP kvs (kW i j h) v)) := rfl
theorem for_sum {α : Type} {bd : PyData → PyData → (PyData → Prop) → (PyData → Prop) → Prop} {K : PyData → Prop} (L : List α) (d : α → PyData) (f : α → Int) (h : ∀ a ∈ L, ∀ u (N : PyData → Prop), N (.int (u + f a)) → bd (d a) (.int u) N K) (u0 : Int) (hK : K (.int (u0 + (L.map f).sum))) : forM bd K (L.map d) (.int u0) := by
  induction L generalizing u0 with
  | nil => rw [List.map_nil, List.sum_nil, Int.add_zero] at hK; exact hK
  | cons a L ih =>
    refine h a (List.mem_cons_self ..) u0 _ ?_
    refine ih (fun b hb => h b (List.mem_cons_of_mem _ hb)) _ ?_
    simp only [List.map_cons, List.sum_cons] at hK
    rw [Int.add_assoc]; exact hK
structure CountOk (R : List Bool) (D : AT) : Prop where
  val : ∀ i j : Nat, i ≤ j → j < R.length → ∀ h, valP D (kW i j h) = some (.int (cW (sb R i (j + 1)) h))
  len : D.length ≤ 10000
/-- widths below w are told, and the first t starts of the width w -/
structure CTold (R : List Bool) (w t : Nat) (D : AT) : Prop where
  low : ∀ i j : Nat, i ≤ j → j < R.length → j - i < w → ∀ h, valP D (kW i j h) = some (.int (cW (sb R i (j + 1)) h))
  cur : ∀ i : Nat, i < t → i + w < R.length → ∀ h, valP D (kW i ((i + w : Nat) : Int) h) = some (.int (cW (sb R i (i + w + 1)) h))
  len : D.length ≤ 100 * w + 2 * t
theorem map_sum_range {f : Nat → Int} {m : Nat} : ((List.range m).map fun (j : Nat) => f j).sum = ((List.range m).map f).sum := rfl
section
variable {K : KD} {Kl : KL} {E : KX} {Kb : KB} {R : List Bool}
theorem q_in_rl (b : Bool) : inM (.str (rS [b])) (.str "rl") Kb = Kb true := by
  cases b
  · show Kb (!(Builtin.Str.occurrences ("rl" : Str) (rS [false]) 0 ("rl" : Str).length 1).isEmpty) = _
    congr 1
    decide +kernel
  · show Kb (!(Builtin.Str.occurrences ("rl" : Str) (rS [true]) 0 ("rl" : Str).length 1).isEmpty) = _
    congr 1
    decide +kernel
theorem e_need_row (hl : R.length ≤ 1000) (h0 : R ≠ []) : f_need_row (.str (rS R)) K E = cond (decide (3 ≤ R.length) && decide (R.length ≤ 40) && R.headD false) (K .none) (E (.own "BadRow")) := by
  obtain ⟨b, r, rfl⟩ : ∃ b r, R = b :: r := by
    cases R with
    | nil => exact absurd rfl h0
    | cons b r => exact ⟨b, r, rfl⟩
  unfold f_need_row
  simp only [q_len_rS hl, q_le, q_and]
  have e1 : ∀ Q : KB, (fun Q : KB => TL.orM (fun Q => ixM (.str (rS (b :: r))) (.int 0) fun r6 => neM r6 (.str "r") fun b7 => Q b7) (fun Q => itM (.str (rS (b :: r))) fun xs8 => lcM (fun sign9 kp sk => inM sign9 (.str "rl") fun b11 => kp (.bool b11)) (fun l10 => allM (.list l10) fun r12 => boolM r12 fun b13 => Q (!b13)) xs8 []) fun b5 => Q b5) Q = Q (!b) := fun Q => by
    refine Eq.trans (q_or' (b1 := !b) (fun Q => ?_) (b2 := false) fun _ Q => ?_) (by rw [Bool.or_false])
    · rw [q_ix_rS hl (Int.le_refl _) rfl, rS_r, q_ne_ss, dec_rS]
      congr 1
      cases b <;> rfl
    · rw [q_it_rS hl, q_lc_map (b :: r) (fun b => PyData.str (rS [b])) (fun _ => PyData.bool true) fun a _ k s => by rw [q_in_rl]]
      rw [List.nil_append, show ((b :: r).map fun _ => PyData.bool true) = ((b :: r).map fun _ => true).map .bool by rw [List.map_map]; rfl, q_all, q_bool]
      congr 1
      simp
  rw [q_or' (b1 := !(decide ((3 : Int) ≤ ((b :: r).length : Nat)) && decide ((((b :: r).length : Nat) : Int) ≤ 40))) (fun Q => rfl) fun _ Q => e1 Q, q_ite]
  have e2 : decide ((3 : Int) ≤ ((b :: r).length : Nat)) = decide (3 ≤ (b :: r).length) := decide_eq_decide.mpr (by omega)
  have e3 : decide ((((b :: r).length : Nat) : Int) ≤ 40) = decide ((b :: r).length ≤ 40) := decide_eq_decide.mpr (by omega)
  rw [e2, e3]
  show cond _ _ _ = cond (_ && _ && b) _ _
  cases decide (3 ≤ (b :: r).length) <;> cases decide ((b :: r).length ≤ 40) <;> cases b <;> rfl
theorem e_other_hand {h : Bool} : f_other_hand (.str (rS [h])) K E = K (.str (rS [!h])) := by
  unfold f_other_hand
  rw [rS_r, rS_l, q_eq_ss, dec_rS, q_ite]
  cases h <;> rfl
theorem int_dec (b c : Bool) : (if decide (([b] : List Bool) = [c]) = true then (1 : Int) else 0) = cW [b] c := by
  rw [cW_one]
  cases b <;> cases c <;> rfl
theorem i_counted {Kt : AT → Prop} (h1 : 1 ≤ R.length) (h40 : R.length ≤ 40) (hK : ∀ D, CountOk R D → Kt D) : f_counted (.str (rS R)) Kt E := by
  have hsl := sizeLine_eq
  unfold f_counted
  rw [q_len_rS (by omega), q_rng]
  refine ⟨by omega, ?_⟩
  rw [range0]
  refine forM_inv (List.range ((R.length : Nat) : Int).toNat) (fun (i : Nat) => PyData.int i) (fun i D => CTold R 0 i D) (fun i a ha D hD N hN => ?_) (fun D hD => ?_) [] ⟨fun i j h1 h2 h4 => by omega, fun i hi => by omega, by simp⟩
  · have hi := (List.getElem?_eq_some_iff.mp ha).1
    rw [List.length_range] at hi
    rw [List.getElem?_range hi] at ha
    cases ha
    have hi : i < R.length := by omega
    obtain ⟨b, hb⟩ : ∃ b, R[i]? = some b := ⟨_, List.getElem?_eq_getElem hi⟩
    have hlen := hD.len
    rw [q_ix_rS (b := b) (by omega) (by omega) (by simpa using hb), rS_r, rS_l, q_eq_ss, dec_rS, q_int_b, q_putW]
    refine ⟨by omega, ?_⟩
    rw [q_ix_rS (b := b) (by omega) (by omega) (by simpa using hb), q_eq_ss, dec_rS, q_int_b, q_putW]
    have l1 := putP_len (kvs := D) (k := kW (i : Int) i true) (d := .int (if decide (([b] : List Bool) = [true]) = true then 1 else 0))
    refine ⟨by omega, hN _ ⟨fun i j h1 h2 h4 => by omega, fun i' hi' hw h => ?_, ?_⟩⟩
    · rw [valP_put, valP_put]
      by_cases e : i' = i
      · subst e
        have es : sb R i' (i' + 0 + 1) = [b] := sb_one hb
        rw [es, Nat.add_zero]
        cases h
        · rw [if_pos rfl, int_dec]
        · rw [if_neg (fun z => (by have := (kW_eq.mp z).2.2; cases this)), if_pos rfl, int_dec]
      · rw [if_neg (fun z => (by have := (kW_eq.mp z).1; omega)), if_neg (fun z => (by have := (kW_eq.mp z).1; omega))]
        exact hD.cur i' (by omega) hw h
    · have l2 := putP_len (kvs := putP D (kW (i : Int) i true) (.int (if decide (([b] : List Bool) = [true]) = true then 1 else 0))) (k := kW (i : Int) i false) (d := .int (if decide (([b] : List Bool) = [false]) = true then 1 else 0))
      omega
  · rw [q_rng]
    refine ⟨by omega, ?_⟩
    rw [range_map]
    have hlen := hD.len
    rw [List.length_range] at hlen
    refine forM_inv (List.range ((R.length : Int) - 1).toNat) (fun (i : Nat) => PyData.int (1 + (i : Nat))) (fun i D => CTold R (i + 1) 0 D) (fun w a ha D hD N hN => ?_) (fun D hD => ?_) D ⟨fun i j h1 h2 h4 h => ?_, fun i hi => by omega, by omega⟩
    · have hw := (List.getElem?_eq_some_iff.mp ha).1
      rw [List.length_range] at hw
      rw [List.getElem?_range hw] at ha
      cases ha
      rw [q_sub, q_rng]
      refine ⟨by omega, ?_⟩
      rw [range0]
      refine forM_inv (List.range ((R.length : Int) - (1 + (w : Int))).toNat) (fun (i : Nat) => PyData.int i) (fun i D => CTold R (w + 1) i D) (fun i a ha D hD N hN => ?_) (fun D hD => ?_) D hD
      · have hi := (List.getElem?_eq_some_iff.mp ha).1
        rw [List.length_range] at hi
        rw [List.getElem?_range hi] at ha
        cases ha
        have hiw : i + (w + 1) < R.length := by omega
        have hlen := hD.len
        rw [q_it_t, rS_r, rS_l]
        have turn : ∀ (h : Bool) (D1 : AT) (N1 : AT → Prop), (∀ i j : Nat, i ≤ j → j < R.length → j - i < w + 1 → ∀ h, valP D1 (kW i j h) = some (.int (cW (sb R i (j + 1)) h))) → D1.length ≤ 9000 → N1 (putP D1 (kW i ((i + (w + 1) : Nat) : Int) (!h)) (.int (cW (sb R i (i + (w + 1) + 1)) (!h)))) →
            (addM (.int (i : Int)) (.int (1 + (w : Int))) fun r57 => rngM (.int (i : Int)) r57 fun xs56 => TL.forM (fun middle63 ways66 N64 B65 => intO ways66 fun u68 => getTM D1 (.tuple [(.int (i : Int)), middle63, .str (rS [h])]) fun r71 => addM middle63 (.int 1) fun r72 => addM (.int (i : Int)) (.int (1 + (w : Int))) fun r73 => getTM D1 (.tuple [r72, r73, .str (rS [h])]) fun r74 => mulM r71 r74 fun r75 => intO r75 fun m69 => N64 (.int (u68 + m69))) (fun ways58 => addM (.int (i : Int)) (.int (1 + (w : Int))) fun r60 => f_other_hand (.str (rS [h])) (fun r61 => putTM D1 (.tuple [(.int (i : Int)), r60, r61]) ways58 fun kv62 => N1 kv62) E) xs56 (.int 0)) := fun h D1 N1 hv hl hN1 => by
          rw [q_add_ii, q_rng]
          refine ⟨by omega, ?_⟩
          rw [range_map]
          refine for_sum _ _ (fun (j : Nat) => cW (sb R i (i + j + 1)) h * cW (sb R (i + j + 1) (i + (w + 1) + 1)) h) (fun j hj u N2 hN2 => ?_) 0 ?_
          · have hj := List.mem_range.mp hj
            have e1 : ((i : Int) + (j : Int)) = ((i + j : Nat) : Int) := by omega
            have e2 : ((i : Int) + (j : Int)) + 1 = ((i + j + 1 : Nat) : Int) := by omega
            have e3 : ((i : Int) + (1 + (w : Int))) = ((i + (w + 1) : Nat) : Int) := by omega
            rw [q_intO, q_getW, e1, hv i (i + j) (by omega) (by omega) (by omega)]
            dsimp only
            rw [q_add_ii, q_add_ii, ← e1, e2, e3, q_getW, hv (i + j + 1) (i + (w + 1)) (by omega) (by omega) (by omega)]
            dsimp only
            rw [q_mul]
            refine ⟨.inr (wide_mul (cW_lt ?_ ?_) (cW_lt ?_ ?_) (by decide) (by decide) (by decide)), hN2⟩ <;> rw [sb_len (by omega)] <;> omega
          · have e3 : ((i : Int) + (1 + (w : Int))) = ((i + (w + 1) : Nat) : Int) := by omega
            rw [q_add_ii, e_other_hand, e3, q_putW]
            refine ⟨by omega, ?_⟩
            rw [Int.zero_add, show (((i + (w + 1) : Nat) : Int) - i).toNat = (i + (w + 1) + 1) - i - 1 by omega]
            have es := sb_step (R := R) (a := i) (b := i + (w + 1) + 1) (by omega) (by omega) (!h)
            rw [Bool.not_not] at es
            rw [← es]
            exact hN1
        have other : ∀ {h h' : Bool} {v : PyData}, ∀ i' j' : Nat, i' ≤ j' → j' < R.length → j' - i' < w + 1 → valP (putP D (kW i ((i + (w + 1) : Nat) : Int) h) v) (kW i' j' h') = valP D (kW i' j' h') := fun i' j' a1 a2 a3 => by
          rw [valP_put, if_neg (fun z => (by have := (kW_eq.mp z).1; have := (kW_eq.mp z).2.1; omega))]
        have other2 : ∀ {h h' g : Bool} {v v' : PyData}, ∀ i' j' : Nat, i' ≤ j' → j' < R.length → j' - i' < w + 1 → valP (putP (putP D (kW i ((i + (w + 1) : Nat) : Int) h) v) (kW i ((i + (w + 1) : Nat) : Int) g) v') (kW i' j' h') = valP D (kW i' j' h') := fun i' j' a1 a2 a3 => by
          rw [valP_put, if_neg (fun z => (by have := (kW_eq.mp z).1; have := (kW_eq.mp z).2.1; omega))]
          exact other i' j' a1 a2 a3
        have l1 := putP_len (kvs := D) (k := kW i ((i + (w + 1) : Nat) : Int) (!true)) (d := .int (cW (sb R i (i + (w + 1) + 1)) (!true)))
        have l2 := putP_len (kvs := putP D (kW i ((i + (w + 1) : Nat) : Int) (!true)) (.int (cW (sb R i (i + (w + 1) + 1)) (!true)))) (k := kW i ((i + (w + 1) : Nat) : Int) (!false)) (d := .int (cW (sb R i (i + (w + 1) + 1)) (!false)))
        refine turn true D _ (fun i' j' a1 a2 a3 h => hD.low i' j' a1 a2 a3 h) (by omega) (turn false _ _ (fun i' j' a1 a2 a3 h => (other i' j' a1 a2 a3).trans (hD.low i' j' a1 a2 a3 h)) (by omega) ?_)
        refine hN _ ⟨fun i' j' a1 a2 a3 h => (other2 i' j' a1 a2 a3).trans (hD.low i' j' a1 a2 a3 h), fun i' hi' hw' h => ?_, by omega⟩
        rw [valP_put, valP_put]
        by_cases e : i' = i
        · subst e
          cases h
          · rw [if_neg (fun z => (by have := (kW_eq.mp z).2.2; cases this)), if_pos (by rfl)]; rfl
          · rw [if_pos (by rfl)]; rfl
        · rw [if_neg (fun z => (by have := (kW_eq.mp z).1; omega)), if_neg (fun z => (by have := (kW_eq.mp z).1; omega))]
          exact hD.cur i' (by omega) hw' h
      · refine hN _ ⟨fun i j h1 h2 h4 h => ?_, fun i hi => by omega, ?_⟩
        · by_cases e : j - i < w + 1
          · exact hD.low i j h1 h2 e h
          · have := hD.cur i (by rw [List.length_range]; omega) (by omega) h
            rw [show i + (w + 1) = j by omega] at this
            exact this
        · have := hD.len
          rw [List.length_range] at this
          omega
    · refine hK D ⟨fun i j h1 h2 h => hD.low i j h1 h2 (by rw [List.length_range]; omega) h, ?_⟩
      have := hD.len
      rw [List.length_range] at this
      omega
    · have e : j = i := by omega
      subst e
      exact hD.cur j (by rw [List.length_range]; omega) (by omega) h
theorem i_folds (h3 : 3 ≤ R.length) (h40 : R.length ≤ 40) (h0 : R.headD false = true) (hK : K (.int (cW (sb R 1 R.length) false))) : f_folds (.str (rS R)) K E := by
  unfold f_folds
  rw [e_need_row (by omega) (by intro z; rw [z] at h3; simp at h3), decide_eq_true h3, decide_eq_true h40, h0]
  refine i_counted (by omega) h40 fun D hD => ?_
  rw [q_len_rS (by omega), q_sub, q_getD', rS_l, q_getW, show ((R.length : Nat) : Int) - 1 = ((R.length - 1 : Nat) : Int) by omega, show (1 : Int) = ((1 : Nat) : Int) from rfl, hD.val 1 (R.length - 1) (by omega) (by omega)]
  dsimp only
  rw [show R.length - 1 + 1 = R.length by omega]
  exact hK
def sumD (a b : Int) : List (Key × PyData) := [(.inr (rS [true]), .int a), (.inr (rS [false]), .int b)]
theorem key_rl {h g : Bool} : ((Sum.inr (rS [h]) : Key) = .inr (rS [g])) ↔ h = g := by
  refine ⟨fun e => ?_, fun e => by rw [e]⟩
  have := rS_inj (Sum.inr.inj e)
  injection this
theorem q_disp_rl {Q : List (Key × PyData) → Prop} : dispM [((.str "r"), (.int 0)), ((.str "l"), (.int 0))] Q = Q (sumD 0 0) := by
  rw [rS_r, rS_l]
  show Q (mergeP (sumD 0 0)) = _
  have : mergeP (sumD 0 0) = sumD 0 0 := by
    show putP (putP ([] : List (Key × PyData)) (Sum.inr (rS [true])) (.int 0)) (Sum.inr (rS [false])) (.int 0) = _
    rw [show putP ([] : List (Key × PyData)) (Sum.inr (rS [true])) (.int 0) = [(Sum.inr (rS [true]), .int 0)] from rfl, putP_new (fun kv h => by
      rw [List.mem_singleton.mp h]
      intro z
      have := key_rl.mp z
      cases this)]
    rfl
  rw [this]
theorem q_get_sum {a b : Int} {h : Bool} {Q : KD} : getKM (sumD a b) (.str (rS [h])) Q = Q (.int (if h then a else b)) := by
  show (match valP (sumD a b) (.inr (rS [h])) with | some d => Q d | none => False) = _
  unfold sumD valP
  rw [List.find?_cons, List.find?_cons]
  cases h
  · rw [decide_eq_false (fun z => (by have := key_rl.mp z; cases this)), decide_eq_true rfl]; rfl
  · rw [decide_eq_true rfl]; rfl
theorem q_put_sum {a b : Int} {h : Bool} {v : Int} {Q : List (Key × PyData) → Prop} : putKM (sumD a b) (.str (rS [h])) (.int v) Q = Q (if h then sumD v b else sumD a v) := by
  have hsl := sizeLine_eq
  show ((sumD a b).length < sizeLine ∧ Q (putP (sumD a b) (.inr (rS [h])) (.int v))) = _
  have e : putP (sumD a b) (.inr (rS [h])) (.int v) = if h then sumD v b else sumD a v := by
    unfold putP sumD
    rw [if_pos (by cases h <;> simp [key_rl])]
    cases h
    · simp only [List.map_cons, List.map_nil]
      rw [if_neg (fun z => (by have := key_rl.mp z; cases this)), if_pos (by trivial)]; rfl
    · simp only [List.map_cons, List.map_nil]
      rw [if_pos (by trivial), if_neg (fun z => (by have := key_rl.mp z; cases this))]; rfl
  rw [e]
  exact propext (and_iff_right (by rw [hsl]; show 2 < 16777216; decide))
/-- the law's own table: widths below w are told, and the first t starts (from 1) of the width w -/
structure LTold (R : List Bool) (w t : Nat) (D : AT) : Prop where
  low : ∀ i v : Nat, 1 ≤ i → 1 ≤ v → v < w → i + v ≤ R.length → ∀ h, valP D (kW i ((i + v : Nat) : Int) h) = some (.int (cW (sb R i (i + v)) h))
  cur : ∀ i : Nat, 1 ≤ i → i ≤ t → i + w ≤ R.length → ∀ h, valP D (kW i ((i + w : Nat) : Int) h) = some (.int (cW (sb R i (i + w)) h))
  len : D.length ≤ 100 * w + 2 * t
theorem i__law_fold_counts (h3 : 3 ≤ R.length) (h40 : R.length ≤ 40) (hK : K (.int (cW (sb R 1 R.length) false))) : f__law_fold_counts (.str (rS R)) K E := by
  have hsl := sizeLine_eq
  unfold f__law_fold_counts
  rw [q_len_rS (by omega), q_rng]
  refine ⟨by omega, ?_⟩
  rw [range_map]
  refine forM_inv (List.range ((R.length : Int) - 1).toNat) (fun (i : Nat) => PyData.int (1 + (i : Nat))) (fun i D => LTold R (i + 1) 0 D) (fun w a ha D hD N hN => ?_) (fun D hD => ?_) [] ⟨fun i v h1 h2 h4 => by omega, fun i h1 h2 => by omega, by simp⟩
  · have hw := (List.getElem?_eq_some_iff.mp ha).1
    rw [List.length_range] at hw
    rw [List.getElem?_range hw] at ha
    cases ha
    rw [q_add_ii, q_sub, q_rng]
    refine ⟨by omega, ?_⟩
    rw [range_map]
    refine forM_inv (List.range ((R.length : Int) + 1 - (1 + (w : Int)) - 1).toNat) (fun (i : Nat) => PyData.int (1 + (i : Nat))) (fun i D => LTold R (w + 1) i D) (fun t a ha D hD N hN => ?_) (fun D hD => ?_) D hD
    · have ht := (List.getElem?_eq_some_iff.mp ha).1
      rw [List.length_range] at ht
      rw [List.getElem?_range ht] at ha
      cases ha
      have hlen := hD.len
      obtain ⟨i, hi⟩ : ∃ i : Nat, i = 1 + t := ⟨_, rfl⟩
      have ei : (1 + (t : Int)) = (i : Int) := by omega
      have ee : ((i : Int) + (1 + (w : Int))) = ((i + (w + 1) : Nat) : Int) := by omega
      have hiw : i + (w + 1) ≤ R.length := by omega
      rw [ei, q_disp_rl, q_add_ii, q_add_ii, q_rng]
      refine ⟨by omega, ?_⟩
      rw [range_map]
      let S : Bool → Nat → Int := fun h k => ((List.range k).map fun j => cW (sb R i (i + j + 1)) h * cW (sb R (i + j + 1) (i + (w + 1))) h).sum
      refine forM_inv (List.range (((i : Int) + (1 + (w : Int))) - ((i : Int) + 1)).toNat) (fun (j : Nat) => PyData.int ((i : Int) + 1 + (j : Nat))) (fun k m => m = sumD (S true k) (S false k)) (fun k a ha m hm N2 hN2 => ?_) (fun m hm => ?_) (sumD 0 0) rfl
      · subst hm
        have hk := (List.getElem?_eq_some_iff.mp ha).1
        rw [List.length_range] at hk
        rw [List.getElem?_range hk] at ha
        cases ha
        have e1 : ((i : Int) + 1 + (k : Int)) = ((i + (k + 1) : Nat) : Int) := by omega
        have e2 : ((i + (w + 1) : Nat) : Int) = (((i + (k + 1)) + (w - k) : Nat) : Int) := by omega
        have sS : ∀ h, S h (k + 1) = S h k + cW (sb R i (i + (k + 1))) h * cW (sb R (i + (k + 1)) (i + (w + 1))) h := fun h => by
          show ((List.range (k + 1)).map _).sum = _
          rw [List.range_succ, List.map_append, List.sum_append]
          simp [S, Nat.add_assoc]
        rw [q_it_t, rS_r, rS_l]
        have turn : ∀ (h : Bool) (a b : Int) (N1 : List (Key × PyData) → Prop), N1 (if h then sumD (a + cW (sb R i (i + (k + 1))) true * cW (sb R (i + (k + 1)) (i + (w + 1))) true) b else sumD a (b + cW (sb R i (i + (k + 1))) false * cW (sb R (i + (k + 1)) (i + (w + 1))) false)) →
            (getKM (sumD a b) (.str (rS [h])) fun o96 => intO o96 fun u97 => getTM D (.tuple [(.int (i : Int)), (.int ((i : Int) + 1 + (k : Int))), .str (rS [h])]) fun r100 => addM (.int (i : Int)) (.int (1 + (w : Int))) fun r101 => getTM D (.tuple [(.int ((i : Int) + 1 + (k : Int))), r101, .str (rS [h])]) fun r102 => mulM r100 r102 fun r103 => intO r103 fun m98 => putKM (sumD a b) (.str (rS [h])) (.int (u97 + m98)) fun kv99 => N1 kv99) := fun h a b N1 hN1 => by
          rw [q_get_sum, q_intO, q_getW, e1, hD.low i (k + 1) (by omega) (by omega) (by omega) (by omega)]
          dsimp only
          rw [q_add_ii, ee, q_getW, e2, hD.low (i + (k + 1)) (w - k) (by omega) (by omega) (by omega) (by omega)]
          dsimp only
          rw [q_mul, show i + (k + 1) + (w - k) = i + (w + 1) by omega]
          refine ⟨.inr (wide_mul (cW_lt ?_ ?_) (cW_lt ?_ ?_) (by decide) (by decide) (by decide)), ?_⟩
          · rw [sb_len (by omega)]; omega
          · rw [sb_len (by omega)]; omega
          · rw [sb_len (by omega)]; omega
          · rw [sb_len (by omega)]; omega
          · rw [q_intO, q_put_sum]
            cases h <;> exact hN1
        refine turn true _ _ _ (turn false _ _ _ ?_)
        rw [if_neg (by decide)]
        exact hN2 _ (by rw [sS, sS])
      · subst hm
        rw [List.length_range, show (((i : Int) + (1 + (w : Int))) - ((i : Int) + 1)).toNat = w by omega]
        obtain ⟨b, hb⟩ : ∃ b, R[i]? = some b := ⟨_, List.getElem?_eq_getElem (by omega)⟩
        have val : ∀ (h : Bool) (Q : KD), ifM (fun Q => gtM (.int (1 + (w : Int))) (.int 1) fun b64 => Q b64) (fun Q => getKM (sumD (S true w) (S false w)) (.str (rS [!h])) fun r65 => Q r65) (fun Q => ixM (.str (rS R)) (.int (i : Int)) fun r66 => eqM r66 (.str (rS [h])) fun b67 => intM (.bool b67) fun r68 => Q r68) Q = Q (.int (cW (sb R i (i + (w + 1))) h)) := fun h Q => by
          unfold ifM
          dsimp only
          rw [q_gt, q_ite]
          by_cases hw0 : w = 0
          · subst hw0
            rw [decide_eq_false (by omega), cond_false, q_ix_rS (b := b) (by omega) (by omega) (by simpa using hb), q_eq_ss, dec_rS, q_int_b, int_dec, show i + (0 + 1) = i + 1 by omega, sb_one hb]
          · rw [decide_eq_true (by omega), cond_true, q_get_sum, sb_step (by omega) (by omega), show i + (w + 1) - i - 1 = w by omega]
            cases h <;> rfl
        have v1 := val true
        have v2 := val false
        rw [Bool.not_true] at v1
        rw [Bool.not_false] at v2
        rw [rS_r, rS_l, v1, q_add_ii, ee, q_putW]
        refine ⟨by omega, ?_⟩
        rw [v2, q_add_ii, ee, q_putW]
        have l1 := putP_len (kvs := D) (k := kW i ((i + (w + 1) : Nat) : Int) true) (d := .int (cW (sb R i (i + (w + 1))) true))
        have l2 := putP_len (kvs := putP D (kW i ((i + (w + 1) : Nat) : Int) true) (.int (cW (sb R i (i + (w + 1))) true))) (k := kW i ((i + (w + 1) : Nat) : Int) false) (d := .int (cW (sb R i (i + (w + 1))) false))
        refine ⟨by omega, hN _ ⟨fun i' v h1 h2 h4 h5 h => ?_, fun i' h1 h2 h4 h => ?_, by omega⟩⟩
        · rw [valP_put, if_neg (fun z => (by have := (kW_eq.mp z).1; have := (kW_eq.mp z).2.1; omega)), valP_put, if_neg (fun z => (by have := (kW_eq.mp z).1; have := (kW_eq.mp z).2.1; omega))]
          exact hD.low i' v h1 h2 h4 h5 h
        · rw [valP_put, valP_put]
          by_cases e : i' = i
          · subst e
            cases h
            · rw [if_pos (by rfl)]
            · rw [if_neg (fun z => (by have := (kW_eq.mp z).2.2; cases this)), if_pos (by rfl)]
          · rw [if_neg (fun z => (by have := (kW_eq.mp z).1; omega)), if_neg (fun z => (by have := (kW_eq.mp z).1; omega))]
            exact hD.cur i' h1 (by omega) h4 h
    · refine hN _ ⟨fun i v h1 h2 h4 h5 h => ?_, fun i h1 h2 => by omega, ?_⟩
      · by_cases e : v < w + 1
        · exact hD.low i v h1 h2 e h5 h
        · have := hD.cur i h1 (by rw [List.length_range]; omega) (by omega) h
          rw [show w + 1 = v by omega] at this
          exact this
      · have := hD.len
        rw [List.length_range] at this
        omega
  · rw [q_rng]
    refine ⟨by omega, ?_⟩
    rw [range_map]
    have hlow : ∀ i v : Nat, 1 ≤ i → 1 ≤ v → i + v ≤ R.length → ∀ h, valP D (kW i ((i + v : Nat) : Int) h) = some (.int (cW (sb R i (i + v)) h)) := fun i v h1 h2 h4 h => hD.low i v h1 h2 (by rw [List.length_range]; omega) h4 h
    refine for_sum _ _ (fun (j : Nat) => cW (sb R 1 (1 + j + 1)) true * cW (sb R (1 + j + 1) R.length) true) (fun j hj u N hN => ?_) 0 ?_
    · have hj := List.mem_range.mp hj
      have e1 : ((2 : Int) + (j : Int)) = ((1 + (j + 1) : Nat) : Int) := by omega
      have e2 : ((R.length : Nat) : Int) = (((1 + (j + 1)) + (R.length - (1 + (j + 1))) : Nat) : Int) := by omega
      rw [q_intO, rS_r, q_getW, e1, show (1 : Int) = ((1 : Nat) : Int) from rfl, hlow 1 (j + 1) (by omega) (by omega) (by omega)]
      dsimp only
      rw [q_getW, e2, hlow (1 + (j + 1)) (R.length - (1 + (j + 1))) (by omega) (by omega) (by omega)]
      dsimp only
      rw [q_mul, show 1 + (j + 1) + (R.length - (1 + (j + 1))) = R.length by omega]
      refine ⟨.inr (wide_mul (cW_lt ?_ ?_) (cW_lt ?_ ?_) (by decide) (by decide) (by decide)), hN⟩ <;> rw [sb_len (by omega)] <;> omega
    · rw [Int.zero_add, show (((R.length : Nat) : Int) - 2).toNat = R.length - 1 - 1 by omega]
      have es := sb_step (R := R) (a := 1) (b := R.length) (Nat.le_refl _) (by omega) false
      rw [Bool.not_false] at es
      rw [← es]
      exact hK
end
end Tx

namespace Tx
open PySem PySem.Spec PyProof.Rows L2 TL
@[irreducible] def f_row_of (plan : PyData) (K : KD) (E : KX) : Prop :=
  f_need_plan plan (fun r1 =>
  ixM plan (.int 0) fun r2 =>
  f_neighbours plan (fun r3 =>
  f_right_parts plan (fun r5 =>
  f_order_of plan (fun r7 =>
  itM (.list r7) fun xs6 =>
  forM (fun leaf12 found15 N13 B14 => addM leaf12 (.int 1) fun r19 =>
  modM r19 r2 fun r20 =>
  ixM (.list r3) leaf12 fun r22 =>
  itM r22 fun xs21 =>
  lcM (fun other23 kp sk => ixM (.list r3) r20 fun r25 =>
  inM other23 r25 fun b26 =>
  (b26 = true → (kp other23)) ∧ (b26 = false → sk)) (fun l24 =>
  ixM (.list l24) (.int 0) fun r27 =>
  joinM (fun (Q : PyData → Prop) => sortM (.list [leaf12, r20, r27]) fun l28 =>
  tupM (.list l28) fun r29 =>
  getTM r5 r29 fun r30 =>
  boolM r30 fun b31 =>
  (b31 = true → (addM found15 (.str "r") fun r35 =>
  Q r35)) ∧ (b31 = false → (addM found15 (.str "l") fun r36 =>
  Q r36))) (fun found37 =>
  N13 found37)) xs21 []) (fun found8 =>
  K found8) xs6 (.str "")) E) E) E) E
def c_row_of : CT := fun args Φ Ψ => ∃ (plan : PyData) (K : KD) (E : KX), args = [.d plan] ∧ f_row_of plan K E ∧ (∀ r, K r → Φ (.rd r) args) ∧ ∀ c, E c → Ψ c args
@[irreducible] def f__law_row (l_plan_here : PyData) (K : KD) (E : KX) : Prop :=
  f__law_hands l_plan_here (fun r2 =>
  f__law_order l_plan_here (fun r4 =>
  itM (.list r4) fun xs3 =>
  lcM (fun l_leaf5 kp sk => f__law_side_hand l_plan_here (dTd r2) l_leaf5 (fun r7 =>
  intM r7 fun r8 =>
  ixM (.str "lr") r8 fun r9 =>
  kp r9) (fun _ => False)) (fun l6 =>
  tjoinM (.str "") (.list l6) fun r10 =>
  K r10) xs3 []) E) E
def c__law_row : CT := fun args Φ Ψ => ∃ (l_plan_here : PyData) (K : KD) (E : KX), args = [.d l_plan_here] ∧ f__law_row l_plan_here K E ∧ (∀ r, K r → Φ (.rd r) args) ∧ ∀ c, E c → Ψ c args
open Tr
namespace Tr
/-- the hand of the leaf x: of the part above it; h: of the part above the tree -/
def lfH : Tr → Int → Bool → Int → Bool
  | .lf, _, h, _ => h
  | .nd a b, s, h, x => if x < s + a.sz then a.lfH s (!h) x else b.lfH (s + a.sz) (!h) x
/-- the order of the leaves -/
def ord : Tr → Int → Bool → List Int
  | .lf, s, _ => [s]
  | .nd a b, s, x => if x then b.ord (s + a.sz) (!x) ++ a.ord s (!x) else a.ord s (!x) ++ b.ord (s + a.sz) (!x)
/-- the hands of the leaves in order -/
def row : Tr → Bool → Bool → List Bool
  | .lf, _, h => [h]
  | .nd a b, x, h => if x then b.row (!x) (!h) ++ a.row (!x) (!h) else a.row (!x) (!h) ++ b.row (!x) (!h)
end Tr
theorem ord_in : ∀ (t : Tr) (s : Int) (x : Bool), ∀ y ∈ t.ord s x, s ≤ y ∧ y < s + t.sz
  | .lf, s, x => fun y hy => by
    have : y = s := by simpa [Tr.ord] using hy
    have e : (Tr.lf).sz = 1 := rfl
    omega
  | .nd a b, s, x => fun y hy => by
    have ha := sz_pos a
    have hb := sz_pos b
    have esz : (Tr.nd a b).sz = a.sz + b.sz := rfl
    have h : y ∈ a.ord s (!x) ∨ y ∈ b.ord (s + a.sz) (!x) := by
      unfold Tr.ord at hy
      cases x
      · rw [if_neg (by decide)] at hy; exact List.mem_append.mp hy
      · rw [if_pos rfl] at hy; exact (List.mem_append.mp hy).symm
    rcases h with h | h
    · have := ord_in a s (!x) y h; omega
    · have := ord_in b (s + a.sz) (!x) y h; omega
theorem ord_row : ∀ (t : Tr) (s : Int) (x h : Bool), (t.ord s x).map (t.lfH s h) = t.row x h
  | .lf, _, _, _ => rfl
  | .nd a b, s, x, h => by
    have e1 : (a.ord s (!x)).map ((Tr.nd a b).lfH s h) = a.row (!x) (!h) := by
      rw [← ord_row a s (!x) (!h)]
      refine List.map_congr_left fun y hy => ?_
      have := ord_in a s (!x) y hy
      show (if y < s + a.sz then a.lfH s (!h) y else _) = _
      rw [if_pos (by omega)]
    have e2 : (b.ord (s + a.sz) (!x)).map ((Tr.nd a b).lfH s h) = b.row (!x) (!h) := by
      rw [← ord_row b (s + a.sz) (!x) (!h)]
      refine List.map_congr_left fun y hy => ?_
      have := ord_in b (s + a.sz) (!x) y hy
      show (if y < s + a.sz then _ else b.lfH (s + a.sz) (!h) y) = _
      rw [if_neg (by omega)]
    unfold Tr.ord Tr.row
    cases x
    · rw [if_neg (by decide), if_neg (by decide), List.map_append, e1, e2]
    · rw [if_pos rfl, if_pos rfl, List.map_append, e1, e2]
theorem row_len : ∀ (t : Tr) (x h : Bool), ((t.row x h).length : Int) = t.sz
  | .lf, _, _ => rfl
  | .nd a b, x, h => by
    have h1 := row_len a (!x) (!h)
    have h2 := row_len b (!x) (!h)
    show _ = a.sz + b.sz
    unfold Tr.row
    cases x
    · rw [if_neg (by decide), List.length_append]; omega
    · rw [if_pos rfl, List.length_append]; omega
/-- a side's part has the leaf's hand -/
theorem side_hand : ∀ {t : Tr} {s : Int} {g : Bool} {q : (Int × Int × Int) × Bool} {x : Int}, q ∈ t.pts s g → (x = q.1.1 ∨ x = q.1.2.1 ∨ x = q.1.2.2) → (x + 1 = q.1.1 ∨ x + 1 = q.1.2.1 ∨ x + 1 = q.1.2.2) → q.2 = t.lfH s (!g) x := by
  intro t
  induction t with
  | lf => intro s g q x hq; cases hq
  | nd a b ia ib =>
    intro s g q x hq h1 h2
    have ha := sz_pos a
    have hb := sz_pos b
    show q.2 = if x < s + a.sz then a.lfH s (!!g) x else b.lfH (s + a.sz) (!!g) x
    rcases mem_pts_nd.mp hq with rfl | hq | hq
    · simp only at h1 h2
      rw [Bool.not_not]
      have hx : (x = s ∧ a.sz = 1) ∨ (x = s + a.sz ∧ b.sz = 1) := by omega
      rcases hx with ⟨e1, e2⟩ | ⟨e1, e2⟩
      · rw [if_pos (by omega)]
        cases a with
        | lf => rfl
        | nd c d => have := sz_pos c; have := sz_pos d; have : (Tr.nd c d).sz = c.sz + d.sz := rfl; omega
      · rw [if_neg (by omega)]
        cases b with
        | lf => rfl
        | nd c d => have := sz_pos c; have := sz_pos d; have : (Tr.nd c d).sz = c.sz + d.sz := rfl; omega
    · have w := pts_b hq
      rw [if_neg (by omega)]
      exact ib hq h1 h2
    · have w := pts_b hq
      rw [if_pos (by omega)]
      exact ia hq h1 h2
theorem side_part : ∀ {t : Tr} {s : Int} {g : Bool} {x : Int}, s ≤ x → x < s + t.sz → 2 ≤ t.sz → ∃ q ∈ t.pts s g, (x = q.1.1 ∨ x = q.1.2.1 ∨ x = q.1.2.2) ∧ (x + 1 = q.1.1 ∨ x + 1 = q.1.2.1 ∨ x + 1 = q.1.2.2) := by
  intro t
  induction t with
  | lf => intro s g x h1 h2 h4; have : (Tr.lf).sz = 1 := rfl; omega
  | nd a b ia ib =>
    intro s g x h1 h2 h4
    have ha := sz_pos a
    have hb := sz_pos b
    have esz : (Tr.nd a b).sz = a.sz + b.sz := rfl
    by_cases hx : x < s + a.sz
    · by_cases e : a.sz = 1
      · exact ⟨_, mem_pts_nd.mpr (.inl rfl), .inl (by simp only; omega), .inr (.inl (by simp only; omega))⟩
      · obtain ⟨q, hq, r1, r2⟩ := ia (g := !g) h1 hx (by omega)
        exact ⟨q, mem_pts_nd.mpr (.inr (.inr hq)), r1, r2⟩
    · by_cases e : b.sz = 1
      · exact ⟨_, mem_pts_nd.mpr (.inl rfl), .inr (.inl (by simp only; omega)), .inr (.inr (by simp only; omega))⟩
      · obtain ⟨q, hq, r1, r2⟩ := ib (s := s + a.sz) (g := !g) (x := x) (by omega) (by omega) (by omega)
        exact ⟨q, mem_pts_nd.mpr (.inr (.inl hq)), r1, r2⟩
/-- the leaf's hand, leaf 0 with it -/
def rowH (T : Tr) (x : Int) : Bool := if x = 0 then true else T.lfH 1 false x
/-- the row of a plan -/
def rowT (T : Tr) : List Bool := true :: T.row false false
section
variable {K : KD} {Kl : KL} {E : KX} {Kb : KB} {n : Int} {T : Tr}
variable (h3 : 3 ≤ n) (h40 : n ≤ 40) (hT : T.sz = n - 1)
include h3 h40 hT
/-- parts at the side of a leaf and the next corner: they have its hand -/
theorem side_tri {q : (Int × Int × Int) × Bool} (hq : q ∈ T.pts 1 true) {x : Int} (h0 : 0 ≤ x) (hx : x < n) (h1 : corB x (tri n q.1) = true) (h2 : corB ((x + 1) % n) (tri n q.1) = true) : q.2 = rowH T x := by
  have t1 := pts_tri1 h3 h40 hT hq
  have t1' := t1
  obtain ⟨a1, a2, a3, a4⟩ := t1'
  unfold rowH
  by_cases e : x = 0
  · subst e
    rw [if_pos rfl]
    rw [show (0 : Int) = tri0 n n by unfold tri0; rw [if_pos rfl], corB_tri t1 (by omega) (Int.le_refl _)] at h1
    rw [show ((0 : Int) + 1) % n = tri0 n 1 by unfold tri0; rw [if_neg (by omega), Int.emod_eq_of_lt (by omega) (by omega)]; rfl, corB_tri t1 (by omega) (by omega)] at h2
    have h1 := corB_iff.mp h1
    have h2 := corB_iff.mp h2
    exact top_pts hq (by omega) (by omega)
  · rw [if_neg e]
    have e1 : x = tri0 n x := by unfold tri0; rw [if_neg (by omega)]
    have e2 : (x + 1) % n = tri0 n (x + 1) := by
      unfold tri0
      split
      · rename_i z; rw [z, Int.emod_self]
      · exact Int.emod_eq_of_lt (by omega) (by omega)
    rw [e1, corB_tri t1 (by omega) (by omega)] at h1
    rw [e2, corB_tri t1 (by omega) (by omega)] at h2
    exact side_hand (g := true) hq (corB_iff.mp h1) (corB_iff.mp h2)
theorem tri_side {x : Int} (h0 : 0 ≤ x) (hx : x < n) : ∃ q ∈ T.pts 1 true, corB x (tri n q.1) = true ∧ corB ((x + 1) % n) (tri n q.1) = true := by
  by_cases e : x = 0
  · subst e
    obtain ⟨a, b, rfl⟩ : ∃ a b, T = .nd a b := by
      cases T with
      | lf => have : (Tr.lf).sz = 1 := rfl; omega
      | nd a b => exact ⟨a, b, rfl⟩
    have esz : (Tr.nd a b).sz = a.sz + b.sz := rfl
    have hq : ((1, 1 + a.sz, 1 + a.sz + b.sz), true) ∈ (Tr.nd a b).pts 1 true := mem_pts_nd.mpr (.inl rfl)
    refine ⟨_, hq, ?_, ?_⟩
    · have t1 := pts_tri1 h3 h40 hT hq
      rw [show (0 : Int) = tri0 n n by unfold tri0; rw [if_pos rfl], corB_tri t1 (by omega) (Int.le_refl _)]
      exact corB_iff.mpr (.inr (.inr (by simp only; omega)))
    · have t1 := pts_tri1 h3 h40 hT hq
      rw [show ((0 : Int) + 1) % n = tri0 n 1 by unfold tri0; rw [if_neg (by omega), Int.emod_eq_of_lt (by omega) (by omega)]; rfl, corB_tri t1 (by omega) (by omega)]
      exact corB_iff.mpr (.inl rfl)
  · obtain ⟨q, hq, r1, r2⟩ := side_part (t := T) (s := 1) (g := true) (x := x) (by omega) (by omega) (by omega)
    have t1 := pts_tri1 h3 h40 hT hq
    refine ⟨q, hq, ?_, ?_⟩
    · rw [show x = tri0 n x by unfold tri0; rw [if_neg (by omega)], corB_tri t1 (by omega) (by omega)]
      exact corB_iff.mpr r1
    · rw [show (x + 1) % n = tri0 n (x + 1) by
        unfold tri0
        split
        · rename_i z; rw [z, Int.emod_self]
        · exact Int.emod_eq_of_lt (by omega) (by omega), corB_tri t1 (by omega) (by omega)]
      exact corB_iff.mpr r2
theorem sub_ord : ∀ (f : Nat) {u : Tr} {s : Int} (x : Bool), (u, s) ∈ T.subs 1 → u.sz ≤ f → ordA n (plT n T) f s (s + u.sz) x = u.ord s x := by
  intro f
  induction f with
  | zero => intro u s x hu hf; have := sz_pos u; omega
  | succ f ih =>
    intro u s x hu hf
    obtain ⟨b1, b2, b3⟩ := sub_b h3 h40 hT hu
    unfold ordA
    cases u with
    | lf => rw [if_pos (by have : (Tr.lf).sz = 1 := rfl; omega)]; rfl
    | nd a b =>
      have ha := sz_pos a
      have hb := sz_pos b
      have esz : (Tr.nd a b).sz = a.sz + b.sz := rfl
      obtain ⟨w1, _, _, w4⟩ := subs_arc hu
      rw [if_neg (by omega)]
      have harc : (s, s + (Tr.nd a b).sz) ∈ (1, n) :: T.arcs 1 := by
        rw [← arcF_top h3 h40 hT]
        exact w1 _ (self_arcF _ _)
      obtain ⟨j, hj, j1, j2, j3⟩ := corJ_some h3 (plT_arcs h3 h40 hT) harc (by omega)
      rw [← arcF_top h3 h40 hT] at j2 j3
      have em : s + (j : Int) + 1 = s + a.sz := third_in hu (by omega) (by omega) j2 (by rw [esz, ← Int.add_assoc] at j3; exact j3)
      rw [hj]
      dsimp only
      have i1 := ih (u := a) (s := s) (!x) (w4 _ (by simp [Tr.subs, self_subs])) (by omega)
      have i2 := ih (u := b) (s := s + a.sz) (!x) (w4 _ (by simp [Tr.subs, self_subs])) (by omega)
      rw [em, i1, show s + (Tr.nd a b).sz = s + a.sz + b.sz by omega, i2]
      rfl
theorem ordP_T : ordP n (T.arcs 1) = 0 :: T.ord 1 false := by
  unfold ordP
  have := sub_ord h3 h40 hT 64 (u := T) (s := 1) false (self_subs T 1) (by omega)
  rw [show 1 + T.sz = n by omega] at this
  rw [← this]
theorem ordP_row : (ordP n (T.arcs 1)).map (rowH T) = rowT T := by
  rw [ordP_T h3 h40 hT]
  show rowH T 0 :: (T.ord 1 false).map (rowH T) = true :: T.row false false
  rw [← ord_row T 1 false false]
  congr 1
  refine List.map_congr_left fun y hy => ?_
  have := ord_in T 1 false y hy
  unfold rowH
  rw [if_neg (by omega)]
theorem ordP_in {y : Int} (h : y ∈ ordP n (T.arcs 1)) : 0 ≤ y ∧ y < n := by
  rw [ordP_T h3 h40 hT] at h
  rcases List.mem_cons.mp h with rfl | h
  · omega
  · have := ord_in T 1 false y h; omega
theorem rowT_len : ((rowT T).length : Int) = n := by
  have := row_len T false false
  unfold rowT
  rw [List.length_cons]; omega
end
/-! the texts -/
theorem q_in_t3' {x : Int} {n : Int} {p : Int × Int × Int} {Kb : KB} : inM (.int x) (.tuple ((k3 (tri n p)).map kD)) Kb = Kb (corB x (tri n p)) := q_in_t3
theorem snd_list {n : Int} {T : Tr} {D : AT} (h : Snd n T D) : ∃ Q : List ((Int × Int × Int) × Bool), (∀ q ∈ Q, q ∈ T.pts 1 true) ∧ D = Q.map fun q => (k3 (tri n q.1), .bool q.2) := by
  induction D with
  | nil => exact ⟨[], fun q hq => (by cases hq), rfl⟩
  | cons a D ih =>
    obtain ⟨Q, h1, h2⟩ := ih fun kv hkv => h kv (List.mem_cons_of_mem _ hkv)
    obtain ⟨q, hq, e⟩ := h a (List.mem_cons_self ..)
    refine ⟨q :: Q, fun r hr => ?_, by rw [List.map_cons, ← h2, e]⟩
    rcases List.mem_cons.mp hr with rfl | hr
    · exact hq
    · exact h1 r hr
theorem join_flat : ∀ L : List (List Nat), joinL [] L = L.flatten
  | [] => rfl
  | [p] => by simp [joinL]
  | p :: q :: r => by
    show p ++ ([] ++ joinL [] (q :: r)) = _
    rw [join_flat (q :: r)]; rfl
theorem join_rS (L : List Bool) : Txt.join (rS []) (L.map fun b => rS [b]) = rS L := by
  rw [join_eq]
  refine ext_tl ?_
  rw [tl_join]
  show joinL [] _ = _
  rw [join_flat, List.map_map]
  show (L.map fun b => [chB b]).flatten = L.map chB
  induction L with
  | nil => rfl
  | cons a L ih => rw [List.map_cons, List.flatten_cons, ih]; rfl
theorem q_join_rS {K : KD} {L : List Bool} (hl : L.length ≤ 1000) : tjoinM (.str "") (.list (L.map fun b => .str (rS [b]))) K = K (.str (rS L)) := by
  rw [rS_nil]
  show (match strsOf (L.map fun b => PyData.str (rS [b])) with | some ys => (ys.map fun (s : Str) => s.length).sum + ys.length * (rS []).length ≤ 16777216 ∧ K (.str (Txt.join (rS []) ys)) | none => False) = _
  rw [show (L.map fun b => PyData.str (rS [b])) = (L.map fun b => rS [b]).map .str by rw [List.map_map]; rfl, strs_of]
  dsimp only
  rw [join_rS]
  refine propext (and_iff_right ?_)
  rw [List.map_map, List.length_map, rS_len]
  have : (L.map (List.length ∘ fun b => [b])).sum = L.length := by
    induction L with
    | nil => rfl
    | cons a L ih =>
      have := ih (by rw [List.length_cons] at hl; omega)
      rw [List.map_cons, List.sum_cons, this, List.length_cons]
      show 1 + L.length = _
      omega
  have e : (L.map ((fun (x : Str) => x.length) ∘ fun b => rS [b])).sum = L.length := by
    rw [← this]
    refine congrArg List.sum (List.map_congr_left fun b _ => ?_)
    exact rS_len [b]
  rw [e]
  simp
  omega
theorem lc_of {α : Type} {bd : PyData → (PyData → Prop) → Prop → Prop} {K : List PyData → Prop} (L : List α) (d f : α → PyData) (h : ∀ a ∈ L, ∀ (k : PyData → Prop) (s : Prop), k (f a) → bd (d a) k s) (acc : List PyData) (hK : K (acc ++ L.map f)) : lcM bd K (L.map d) acc := by
  induction L generalizing acc with
  | nil => rw [List.map_nil, List.append_nil] at hK; exact hK
  | cons a L ih =>
    refine h a (List.mem_cons_self ..) _ _ ?_
    exact ih (fun b hb => h b (List.mem_cons_of_mem _ hb)) _ (by simpa using hK)
section
variable {K : KD} {Kl : KL} {E : KX} {Kb : KB} {n : Int} {T : Tr}
variable (h3 : 3 ≤ n) (h40 : n ≤ 40) (hT : T.sz = n - 1)
include h3 h40 hT
theorem hands_row {D : AT} (hD : HandsOk n T D) {x : Int} (h0 : 0 ≤ x) (hx : x < n) {Kl : KL} (hK : ∀ r, Kl (.bool (rowH T x) :: r)) : lcM (fun l_one6 kp sk => TL.andM (fun Q => inM (.int x) l_one6 fun b9 => Q b9) (fun Q => inM (.int ((x + 1) % n)) l_one6 fun b10 => Q b10) fun b8 => (b8 = true → (getDM (dTd D) l_one6 fun r11 => kp r11)) ∧ (b8 = false → sk)) Kl (keysT D) [] := by
  obtain ⟨Q, hQ, eD⟩ := snd_list hD.snd
  have ek : keysT D = Q.map fun q => t3D (tri n q.1) := by
    unfold keysT
    rw [eD, List.map_map]; rfl
  have hval : ∀ q ∈ Q, valP D (k3 (tri n q.1)) = some (.bool q.2) := fun q hq => hD.all q (hQ q hq)
  have hb : ∀ (q : (Int × Int × Int) × Bool) (Q : KB), TL.andM (fun Q => inM (.int x) (t3D (tri n q.1)) fun b9 => Q b9) (fun Q => inM (.int ((x + 1) % n)) (t3D (tri n q.1)) fun b10 => Q b10) Q = Q (corB x (tri n q.1) && corB ((x + 1) % n) (tri n q.1)) := fun q Q => q_and' (fun Q => q_in_t3) fun _ Q => q_in_t3
  have body : lcM (fun l_one6 kp sk => TL.andM (fun Q => inM (.int x) l_one6 fun b9 => Q b9) (fun Q => inM (.int ((x + 1) % n)) l_one6 fun b10 => Q b10) fun b8 => (b8 = true → (getDM (dTd D) l_one6 fun r11 => kp r11)) ∧ (b8 = false → sk)) Kl (Q.map fun q => t3D (tri n q.1)) [] = Kl ([] ++ (Q.filter fun q => corB x (tri n q.1) && corB ((x + 1) % n) (tri n q.1)).map fun q => .bool q.2) :=
    q_lc_fil Q (fun q => t3D (tri n q.1)) (fun q => corB x (tri n q.1) && corB ((x + 1) % n) (tri n q.1)) (fun q => PyData.bool q.2) (fun q hq k s => by
      rw [hb, q_ite, q_getD', q_get3, hval q hq]) []
  rw [ek, body, List.nil_append]
  have hne : ∃ q ∈ Q, (corB x (tri n q.1) && corB ((x + 1) % n) (tri n q.1)) = true := by
    obtain ⟨q, hq, r1, r2⟩ := tri_side h3 h40 hT h0 hx
    have hm := valP_mem (hD.all q hq)
    rw [eD] at hm
    obtain ⟨q', hq', e⟩ := List.mem_map.mp hm
    have e1 := k3_inj (congrArg Prod.fst e)
    have := tri_inj h3 h40 hT (hQ q' hq') hq e1
    subst this
    exact ⟨q', hq', by rw [r1, r2]; rfl⟩
  cases hf : Q.filter fun q => corB x (tri n q.1) && corB ((x + 1) % n) (tri n q.1) with
  | nil =>
    obtain ⟨q, hq, hc⟩ := hne
    exact absurd hc (List.filter_eq_nil_iff.mp hf q hq)
  | cons q r =>
    have hm : q ∈ Q.filter fun q => corB x (tri n q.1) && corB ((x + 1) % n) (tri n q.1) := by rw [hf]; exact List.mem_cons_self ..
    obtain ⟨m1, m2⟩ := List.mem_filter.mp hm
    obtain ⟨c1, c2⟩ := Bool.and_eq_true_iff.mp m2
    rw [List.map_cons, side_tri h3 h40 hT (hQ q m1) h0 hx c1 c2]
    exact hK _
theorem i__law_side_hand {D : AT} (hD : HandsOk n T D) {x : Int} (h0 : 0 ≤ x) (hx : x < n) (hK : K (.bool (rowH T x))) : f__law_side_hand (plD n (plT n T)) (dTd D) (.int x) K E := by
  unfold f__law_side_hand
  simp only [q_add_ii, p_ix_pl0, q_mod, q_keysD_T, q_it_l]
  refine ⟨by omega, ?_⟩
  refine hands_row h3 h40 hT hD h0 hx fun r => ?_
  show (match atI (.bool (rowH T x) :: r) 0 with | some y => K y | none => False)
  rw [at_nat (Int.le_refl _) (by rfl)]
  exact hK
theorem i__law_row (hK : K (.str (rS (rowT T)))) : f__law_row (plD n (plT n T)) K E := by
  have hlen := ordP_len h3 h40 (plT_arcs h3 h40 hT)
  unfold f__law_row
  refine i__law_hands h3 h40 hT fun D hD => ?_
  refine i__law_order h3 h40 (plT_arcs h3 h40 hT) ?_
  rw [q_it_l]
  refine lc_of (ordP n (T.arcs 1)) PyData.int (fun x => .str (rS [rowH T x])) (fun x hx k s hk => ?_) [] ?_
  · obtain ⟨x0, x1⟩ := ordP_in h3 h40 hT hx
    refine i__law_side_hand h3 h40 hT hD x0 x1 ?_
    rw [q_int_b, rS_lr]
    cases e : rowH T x with
    | true => rw [e] at hk; rw [if_pos rfl, q_ix_rS (b := true) (by decide) (by decide) rfl]; exact hk
    | false => rw [e] at hk; rw [if_neg (by decide), q_ix_rS (b := false) (by decide) (by decide) rfl]; exact hk
  · rw [List.nil_append, show ((ordP n (T.arcs 1)).map fun x => PyData.str (rS [rowH T x])) = ((ordP n (T.arcs 1)).map (rowH T)).map fun b => .str (rS [b]) by rw [List.map_map]; rfl, ordP_row h3 h40 hT]
    have := rowT_len h3 h40 hT
    rw [q_join_rS (by omega)]
    exact hK
end
end Tx

namespace Tx
open PySem PySem.Spec PyProof.Rows L2 TL
theorem q_strO {s : Str} {Q : Str → Prop} : strO (.str s) Q = Q s := rfl
theorem q_count {s t : Str} {K : KD} : countM (.str s) (.str t) K = K (.int (Txt.count s t)) := rfl
theorem q_repS {s : Str} {n : Int} {K : KD} : repSM (.str s) (.int n) K = ((-(2 ^ 63) ≤ n ∧ n < 2 ^ 63 ∧ s.length * n.toNat ≤ 16777216) ∧ K (.str (repS s n.toNat))) := rfl
section
variable {K : KD} {Kl : KL} {E : KX} {Kb : KB} {R : List Bool}
theorem cutS_last : cutS (rS R) none (some (-1)) = rS R.dropLast := by
  refine str_ext ?_
  rw [rS_tl]
  show ((((rS R).cps.toList.drop (HT.sIx (rS R).length 0 none)).take (HT.sIx (rS R).length (rS R).length (some (-1)) - HT.sIx (rS R).length 0 none)).toArray).toList = _
  rw [HT.sIx_none, rS_len, rS_tl, List.drop_zero]
  have : HT.sIx R.length R.length (some (-1)) - 0 = R.length - 1 := by
    rw [show HT.sIx R.length R.length (some (-1)) = (-1 + (R.length : Int)).toNat from rfl]
    omega
  rw [this, List.dropLast_eq_take, List.map_take]
theorem q_add_rS {u v : List Bool} (h : u.length + v.length ≤ 1000) : addM (.str (rS u)) (.str (rS v)) K = K (.str (rS (u ++ v))) := by
  have hsl := sizeLine_eq
  rw [q_add_ss, rS_len, rS_len, rS_app]
  exact propext (and_iff_right (by omega))
theorem i__law_letters_row {m : Int} (h3 : 3 ≤ m) (h40 : m ≤ 40) (hK : ∀ R : List Bool, R.headD false = true → 3 ≤ R.length → (R.length : Int) ≤ m → K (.str (rS R))) : f__law_letters_row (.int m) K E := by
  have hsl := sizeLine_eq
  unfold f__law_letters_row
  rw [q_sub, e__law_pull (by omega) (by omega)]
  intro k k0 k1
  rw [q_add_ii, e__law_pull (by decide) (by decide)]
  intro w w0 w1
  rw [q_rng]
  refine ⟨by omega, ?_⟩
  rw [range_map, rS_r]
  refine forM_inv (List.range (3 + k - 1).toNat) (fun (i : Nat) => PyData.int (1 + (i : Nat))) (fun i d => ∃ R : List Bool, d = .str (rS R) ∧ R.headD false = true ∧ R.length = i + 1) (fun i a ha d ⟨R, ed, hR, hl⟩ N hN => ?_) (fun d ⟨R, ed, hR, hl⟩ => ?_) _ ⟨[true], rfl, rfl, rfl⟩
  · subst ed
    have hi := (List.getElem?_eq_some_iff.mp ha).1
    rw [List.length_range] at hi
    have add : ∀ b : Bool, N (.str (rS (R ++ [b]))) := fun b => hN _ ⟨R ++ [b], rfl, by cases R with
      | nil => cases hR
      | cons c r => exact hR, by rw [List.length_append, hl]; rfl⟩
    have letter : ∀ (j : Int), j = 0 ∨ j = 1 → ∀ Q : KD, (∀ b, Q (.str (rS (R ++ [b])))) → ixM (.str "rl") (.int j) fun r => addM (.str (rS R)) r fun r2 => Q r2 := fun j hj Q hQ => by
      rw [rS_rl]
      rcases hj with rfl | rfl
      · rw [q_ix_rS (b := true) (by decide) (by decide) rfl, q_add_rS (by simp; omega)]; exact hQ _
      · rw [q_ix_rS (b := false) (by decide) (by decide) rfl, q_add_rS (by simp; omega)]; exact hQ _
    rw [q_join, q_eq_ii, q_ite]
    cases decide (w = 0)
    · rw [cond_false]
      rw [q_join, q_eq_ii, q_ite]
      cases decide (w = 1)
      · rw [cond_false, e__law_pull (by decide) (by decide)]
        intro j j0 j1
        exact letter j (by omega) _ add
      · rw [cond_true, q_add_rS (by simp; omega)]
        exact add true
    · rw [cond_true, q_mod]
      refine ⟨by decide, ?_⟩
      exact letter _ (by omega) _ add
  · subst ed
    rw [List.length_range] at hl
    have hR3 : 3 ≤ R.length := by omega
    have hRm : (R.length : Int) ≤ m := by omega
    have ev : ∃ b : Bool, ∀ Q : KB, TL.andM (fun Q => eqM (.int w) (.int 3) fun b9 => Q b9) (fun Q => TL.andM (fun Q => strO (.str (rS R)) fun s11 => countM (.str s11) (.str (rS [true])) fun r13 => strO (.str (rS R)) fun s14 => countM (.str s14) (.str "l") fun r16 => subM r13 r16 fun r17 => modM r17 (.int 3) fun r18 => eqM r18 (.int 1) fun b19 => Q b19) (fun Q => lenM (.str (rS R)) fun r20 => gtM r20 (.int 3) fun b21 => Q b21) fun b10 => Q b10) Q = Q (b && decide (3 < R.length)) := by
      refine ⟨decide (w = 3) && decide ((Txt.count (rS R) (rS [true]) - Txt.count (rS R) (rS [false])) % 3 = 1), fun Q => ?_⟩
      rw [Bool.and_assoc]
      refine q_and' (fun Q => rfl) fun _ Q => q_and' (fun Q => ?_) fun _ Q => ?_
      · rw [q_strO, q_count, q_strO, rS_l, q_count, q_sub, q_mod, q_eq_ii]
        exact propext (and_iff_right (by decide))
      · rw [q_len_rS (by omega), q_gt]
        congr 1
        exact decide_eq_decide.mpr (by omega)
    obtain ⟨b, hb⟩ := ev
    rw [q_join, hb]
    dsimp only
    rw [q_ite]
    cases hc : (b && decide (3 < R.length)) with
    | false => exact hK R hR hR3 hRm
    | true =>
      have h4 := of_decide_eq_true (Bool.and_eq_true_iff.mp hc).2
      rw [cond_true, q_sl_s, rS_len, cutS_last]
      refine ⟨by omega, hK _ ?_ (by rw [List.length_dropLast]; omega) (by rw [List.length_dropLast]; omega)⟩
      cases R with
      | nil => cases hR
      | cons c r =>
        cases r with
        | nil => simp at h4
        | cons d r => exact hR
end
theorem repS_rS (b : Bool) (k : Nat) : repS (rS [b]) k = rS (List.replicate k b) := by
  refine str_ext ?_
  rw [rS_tl]
  show ((List.replicate k [chB b]).flatten) = _
  rw [List.map_replicate]
  induction k with
  | zero => rfl
  | succ k ih => rw [List.replicate_succ, List.flatten_cons, ih, List.replicate_succ]; rfl
end Tx

namespace Tx
open PySem PySem.Spec PyProof.Rows L2 TL
@[irreducible] def f_third_corner (plan : PyData) (near : PyData) (place : PyData) (way : PyData) (K : KD) (E : KX) : Prop :=
  un2 place fun top1 under2 =>
  ifM (fun Q => eqM way (.str "even") fun b5 =>
  Q b5) (fun Q => Q (.tuple [top1, under2])) (fun Q => Q (.tuple [under2, top1])) fun r4 =>
  un2 r4 fun start6 end_7 =>
  ixM near top1 fun r10 =>
  itM r10 fun xs9 =>
  forM (fun corner12 (_ : Unit) N13 B14 => andM (fun Q => ixM near under2 fun r17 =>
  inM corner12 r17 fun b18 =>
  Q b18) (fun Q => ixM plan (.int 0) fun r19 =>
  f_between r19 start6 corner12 end_7 (fun r20 =>
  boolM r20 fun b21 =>
  Q b21) E) fun b16 =>
  (b16 = true → (K corner12)) ∧ (b16 = false → (N13 ()))) (fun (_ : Unit) =>
  K PyData.none) xs9 ()
def c_third_corner : CT := fun args Φ Ψ => ∃ (plan : PyData) (near : PyData) (place : PyData) (way : PyData) (K : KD) (E : KX), args = [.d plan, .d near, .d place, .d way] ∧ f_third_corner plan near place way K E ∧ (∀ r, K r → Φ (.rd r) args) ∧ ∀ c, E c → Ψ c args
@[irreducible] def f_need_way (way : PyData) (K : KD) (E : KX) : Prop :=
  inTupM way [.str "even", .str "odd"] fun b1 =>
  ((!b1) = true → (E (.own "BadWay"))) ∧ ((!b1) = false → (K .none))
def c_need_way : CT := fun args Φ Ψ => ∃ (way : PyData) (K : KD) (E : KX), args = [.d way] ∧ f_need_way way K E ∧ (∀ r, K r → Φ (.rd r) args) ∧ ∀ c, E c → Ψ c args
@[irreducible] def f_third (plan : PyData) (place : PyData) (way : PyData) (K : KD) (E : KX) : Prop :=
  f_need_place plan place (fun r1 =>
  f_need_way way (fun r2 =>
  f_neighbours plan (fun r3 =>
  f_third_corner plan (.list r3) place way (fun r4 =>
  K r4) E) E) E) E
def c_third : CT := fun args Φ Ψ => ∃ (plan : PyData) (place : PyData) (way : PyData) (K : KD) (E : KX), args = [.d plan, .d place, .d way] ∧ f_third plan place way K E ∧ (∀ r, K r → Φ (.rd r) args) ∧ ∀ c, E c → Ψ c args
@[irreducible] def f_corner_for (plan : PyData) (place : PyData) (way : PyData) (K : KD) (E : KX) : Prop :=
  f_third plan place way (fun r1 =>
  ((isNone r1) = true → (E (.own "NoPinch"))) ∧ ((isNone r1) = false → (K r1))) E
def c_corner_for : CT := fun args Φ Ψ => ∃ (plan : PyData) (place : PyData) (way : PyData) (K : KD) (E : KX), args = [.d plan, .d place, .d way] ∧ f_corner_for plan place way K E ∧ (∀ r, K r → Φ (.rd r) args) ∧ ∀ c, E c → Ψ c args
@[irreducible] def f_pinch (plan : PyData) (place : PyData) (way : PyData) (K : KD) (E : KX) : Prop :=
  f_corner_for plan place way (fun r1 =>
  ixM place (.int 0) fun r2 =>
  K (.tuple [r1, r2])) E
def c_pinch : CT := fun args Φ Ψ => ∃ (plan : PyData) (place : PyData) (way : PyData) (K : KD) (E : KX), args = [.d plan, .d place, .d way] ∧ f_pinch plan place way K E ∧ (∀ r, K r → Φ (.rd r) args) ∧ ∀ c, E c → Ψ c args
@[irreducible] def f_unpinch (plan : PyData) (place : PyData) (way : PyData) (K : KD) (E : KX) : Prop :=
  f_corner_for plan place way (fun r1 =>
  ixM place (.int 1) fun r2 =>
  K (.tuple [r2, r1])) E
def c_unpinch : CT := fun args Φ Ψ => ∃ (plan : PyData) (place : PyData) (way : PyData) (K : KD) (E : KX), args = [.d plan, .d place, .d way] ∧ f_unpinch plan place way K E ∧ (∀ r, K r → Φ (.rd r) args) ∧ ∀ c, E c → Ψ c args
@[irreducible] def f__law_third (l_plan_here : PyData) (l_held : PyData) (l_spot_here : PyData) (l_way : PyData) (K : KD) (E : KX) : Prop :=
  un2 l_spot_here fun l_top1 l_under2 =>
  joinM (fun (Q : (PyData × PyData) → Prop) => eqM l_way (.str "odd") fun b4 =>
  (b4 = true → (un2 (.tuple [l_under2, l_top1]) fun l_top8 l_under9 =>
  Q (l_top8, l_under9))) ∧ (b4 = false → (Q (l_top1, l_under2)))) (fun (s : PyData × PyData) =>
  match s with
  | (l_top11, l_under12) => ixM l_plan_here (.int 0) fun r14 =>
  f__law_going r14 l_top11 l_under12 (fun r15 =>
  itM (.list r15) fun xs13 =>
  forM (fun l_corner17 (_ : Unit) N18 B19 => andM (fun Q => inDM l_held (.tuple [l_corner17, l_top11]) fun b22 =>
  Q b22) (fun Q => inDM l_held (.tuple [l_corner17, l_under12]) fun b23 =>
  Q b23) fun b21 =>
  (b21 = true → (K l_corner17)) ∧ (b21 = false → (N18 ()))) (fun (_ : Unit) =>
  K PyData.none) xs13 ()) E)
def c__law_third : CT := fun args Φ Ψ => ∃ (l_plan_here : PyData) (l_held : PyData) (l_spot_here : PyData) (l_way : PyData) (K : KD) (E : KX), args = [.d l_plan_here, .d l_held, .d l_spot_here, .d l_way] ∧ f__law_third l_plan_here l_held l_spot_here l_way K E ∧ (∀ r, K r → Φ (.rd r) args) ∧ ∀ c, E c → Ψ c args
@[irreducible] def f_is_upright (plan : PyData) (place : PyData) (K : KD) (E : KX) : Prop :=
  f_neighbours plan (fun r1 =>
  f_right_parts plan (fun r3 =>
  un2 place fun top4 under5 =>
  f_third_corner plan (.list r1) place (.str "odd") (fun r7 =>
  ((!isNone r7) = true → (sortM (.list [top4, under5, r7]) fun l11 =>
  tupM (.list l11) fun r12 =>
  getTM r3 r12 fun r13 =>
  K r13)) ∧ ((!isNone r7) = false → (f_third_corner plan (.list r1) place (.str "even") (fun r14 =>
  sortM (.list [top4, under5, r14]) fun l15 =>
  tupM (.list l15) fun r16 =>
  getTM r3 r16 fun r17 =>
  boolM r17 fun b18 =>
  K (.bool (!b18))) E))) E) E) E
def c_is_upright : CT := fun args Φ Ψ => ∃ (plan : PyData) (place : PyData) (K : KD) (E : KX), args = [.d plan, .d place] ∧ f_is_upright plan place K E ∧ (∀ r, K r → Φ (.rd r) args) ∧ ∀ c, E c → Ψ c args
@[irreducible] def f_upright (plan : PyData) (place : PyData) (K : KD) (E : KX) : Prop :=
  f_need_place plan place (fun r1 =>
  f_is_upright plan place (fun r2 =>
  K r2) E) E
def c_upright : CT := fun args Φ Ψ => ∃ (plan : PyData) (place : PyData) (K : KD) (E : KX), args = [.d plan, .d place] ∧ f_upright plan place K E ∧ (∀ r, K r → Φ (.rd r) args) ∧ ∀ c, E c → Ψ c args
@[irreducible] def f__law_right (l_plan_here : PyData) (l_hands_here : PyData) (l_spot_here : PyData) (K : KD) (E : KX) : Prop :=
  keysDM l_hands_here fun l2 =>
  itM (.list l2) fun xs1 =>
  forM (fun l_one6 (_ : Unit) N7 B8 => andM (fun Q => ixM l_spot_here (.int 0) fun r13 =>
  inM r13 l_one6 fun b14 =>
  Q b14) (fun Q => ixM l_spot_here (.int 1) fun r15 =>
  inM r15 l_one6 fun b16 =>
  Q b16) fun b12 =>
  (b12 = true → (itM l_one6 fun xs20 =>
  lcM (fun l_face21 kp sk => notInM l_face21 l_spot_here fun b23 =>
  (b23 = true → (kp l_face21)) ∧ (b23 = false → sk)) (fun l22 =>
  ixM (.list l22) (.int 0) fun r24 =>
  ixM l_plan_here (.int 0) fun r25 =>
  ixM l_spot_here (.int 1) fun r26 =>
  ixM l_spot_here (.int 0) fun r27 =>
  f__law_going r25 r26 r27 (fun r28 =>
  inM r24 (.list r28) fun b29 =>
  getDM l_hands_here l_one6 fun r30 =>
  eqM r30 (.bool b29) fun b31 =>
  K (.bool b31)) E) xs20 [])) ∧ (b12 = false → (N7 ()))) (fun (_ : Unit) =>
  K (.bool false)) xs1 ()
def c__law_right : CT := fun args Φ Ψ => ∃ (l_plan_here : PyData) (l_hands_here : PyData) (l_spot_here : PyData) (K : KD) (E : KX), args = [.d l_plan_here, .d l_hands_here, .d l_spot_here] ∧ f__law_right l_plan_here l_hands_here l_spot_here K E ∧ (∀ r, K r → Φ (.rd r) args) ∧ ∀ c, E c → Ψ c args
@[irreducible] def f__law_moved (l_plan_here : PyData) (l_held : PyData) (l_spot_here : PyData) (l_word : PyData) (l_way : PyData) (K : KD) (E : KX) : Prop :=
  f__law_third l_plan_here l_held l_spot_here l_way (fun r1 =>
  ((isNone r1) = true → (K PyData.none)) ∧ ((isNone r1) = false → (eqM l_word (.str "pinch") fun b5 =>
  (b5 = true → (ixM l_spot_here (.int 0) fun r9 =>
  K (.tuple [r1, r9]))) ∧ (b5 = false → (ixM l_spot_here (.int 1) fun r10 =>
  K (.tuple [r10, r1])))))) E
def c__law_moved : CT := fun args Φ Ψ => ∃ (l_plan_here : PyData) (l_held : PyData) (l_spot_here : PyData) (l_word : PyData) (l_way : PyData) (K : KD) (E : KX), args = [.d l_plan_here, .d l_held, .d l_spot_here, .d l_word, .d l_way] ∧ f__law_moved l_plan_here l_held l_spot_here l_word l_way K E ∧ (∀ r, K r → Φ (.rd r) args) ∧ ∀ c, E c → Ψ c args
open Tr
/-! third corners by going round -/
/-- the first corner behind s and ahead of e that has a line with both -/
def thd (n : Int) (cs : List (Int × Int)) (s e : Int) : Option Int := ((List.range ((e - s) % n - 1).toNat).find? fun (k : Nat) => tieB n cs s ((s + k + 1) % n) && tieB n cs e ((s + k + 1) % n)).map fun (k : Nat) => (s + k + 1) % n
def optD : Option Int → PyData
  | none => .none
  | some c => .int c
def wayS (ev : Bool) : Str := if ev then "even" else "odd"
/-- the third corner of a place, by its way -/
def thW (n : Int) (cs : List (Int × Int)) (p : Int × Int) (ev : Bool) : Option Int := if ev then thd n cs p.1 p.2 else thd n cs p.2 p.1
theorem find_map_range {P : Nat → Bool} (a b : Nat) (h : ∀ k, k < a → P k = false) : (List.range (a + b)).find? P = ((List.range b).find? fun j => P (a + j)).map fun j => a + j := by
  induction b with
  | zero =>
    show (List.range a).find? P = _
    exact List.find?_eq_none.mpr fun k hk => by rw [h k (List.mem_range.mp hk)]; decide
  | succ b ih =>
    rw [← Nat.add_assoc, List.range_succ, List.range_succ, List.find?_append, List.find?_append, ih]
    cases (List.range b).find? fun j => P (a + j) with
    | some j => rfl
    | none =>
      show (none.or ([a + b].find? P)) = _
      simp only [Option.map_none, Option.none_or]
      rw [List.find?_cons, List.find?_cons]
      cases P (a + b) <;> rfl
section
variable {K : KD} {Kl : KL} {E : KX} {Kb : KB} {n : Int} {cs : List (Int × Int)}
variable (hp : IsPlan n cs)
include hp
theorem mod_diff {a b : Int} (ha : 0 ≤ a) (ha2 : a < n) (hb : 0 ≤ b) (hb2 : b < n) (hab : a ≠ b) : ((b - a) % n = b - a ∧ a < b ∨ (b - a) % n = b - a + n ∧ b < a) ∧ 0 < (b - a) % n ∧ (b - a) % n < n ∧ (b - a) % n + (a - b) % n = n := by
  have h3 := hp.lo
  by_cases h : a < b
  · have e1 : (b - a) % n = b - a := Int.emod_eq_of_lt (by omega) (by omega)
    have e2 : (a - b) % n = a - b + n := by rw [← Int.add_emod_right, Int.emod_eq_of_lt (by omega) (by omega)]
    refine ⟨.inl ⟨e1, h⟩, ?_, ?_, ?_⟩ <;> omega
  · have e1 : (a - b) % n = a - b := Int.emod_eq_of_lt (by omega) (by omega)
    have e2 : (b - a) % n = b - a + n := by rw [← Int.add_emod_right, Int.emod_eq_of_lt (by omega) (by omega)]
    refine ⟨.inr ⟨e2, by omega⟩, ?_, ?_, ?_⟩ <;> omega
theorem in_near {a b : Int} (ha : 0 ≤ a) (ha2 : a < n) : decide (b ∈ near n cs a) = tieB n cs a b := by
  have q := near_mem hp (b := b) ha ha2
  cases z : tieB n cs a b with
  | true => exact decide_eq_true (q.mpr z)
  | false => exact decide_eq_false fun m => by rw [q.mp m] at z; cases z
theorem e_third_corner {p : Int × Int} {ev : Bool} (h : tieB n cs p.1 p.2 = true) : f_third_corner (plD n cs) (.list ((List.range n.toNat).map fun (i : Nat) => .list ((near n cs i).map .int))) (ppD p) (.str (wayS ev)) K E = K (optD (thW n cs p ev)) := by
  have h3 := hp.lo
  obtain ⟨t0, t1, u0, u1, hne⟩ := tie_lt hp h
  obtain ⟨d1, d2, d3, d4⟩ := mod_diff hp t0 t1 u0 u1 hne
  have hw : decide (wayS ev = ("even" : Str)) = ev := by cases ev <;> decide +kernel
  unfold f_third_corner
  rw [p_un_pp]
  unfold ifM
  dsimp only
  rw [q_eq_ss, hw, q_ite]
  have ec : (cond ev (un2 (.tuple [.int p.1, .int p.2])) (un2 (.tuple [.int p.2, .int p.1]))) = un2 (.tuple [.int (if ev then p.1 else p.2), .int (if ev then p.2 else p.1)]) := by cases ev <;> rfl
  have e0 : ∀ G : PyData → PyData → Prop, cond ev (un2 (.tuple [.int p.1, .int p.2]) G) (un2 (.tuple [.int p.2, .int p.1]) G) = G (.int (if ev then p.1 else p.2)) (.int (if ev then p.2 else p.1)) := fun G => by cases ev <;> rfl
  rw [e0]
  rw [q_ixr t0 (by omega), show ((p.1.toNat : Nat) : Int) = p.1 by omega, q_it_l]
  have en : (near n cs p.1).map PyData.int = ((List.range (n.toNat - 1)).filter fun (k : Nat) => tieB n cs p.1 ((p.1 + k + 1) % n)).map fun (k : Nat) => PyData.int ((p.1 + k + 1) % n) := by unfold near; rw [List.map_map]; rfl
  rw [en]
  have test : ∀ (c : Int) (Q : KB), TL.andM (fun Q => ixM (.list ((List.range n.toNat).map fun (i : Nat) => .list ((near n cs i).map .int))) (.int p.2) fun r17 => inM (.int c) r17 fun b18 => Q b18) (fun Q => ixM (plD n cs) (.int 0) fun r19 => f_between r19 (.int (if ev then p.1 else p.2)) (.int c) (.int (if ev then p.2 else p.1)) (fun r20 => boolM r20 fun b21 => Q b21) E) Q = Q (tieB n cs p.2 c && (decide (0 < (c - (if ev then p.1 else p.2)) % n) && decide ((c - (if ev then p.1 else p.2)) % n < ((if ev then p.2 else p.1) - (if ev then p.1 else p.2)) % n))) := fun c Q => by
    refine q_and' (fun Q => ?_) fun _ Q => ?_
    · rw [q_ixr u0 (by omega), show ((p.2.toNat : Nat) : Int) = p.2 by omega, q_in_ints, in_near hp u0 u1]
    · rw [p_ix_pl0, e_between hp]; rfl
  rw [q_for_find _ _ (fun (k : Nat) => tieB n cs p.2 ((p.1 + (k : Int) + 1) % n) && (decide (0 < (((p.1 + (k : Int) + 1) % n) - (if ev then p.1 else p.2)) % n) && decide ((((p.1 + (k : Int) + 1) % n) - (if ev then p.1 else p.2)) % n < ((if ev then p.2 else p.1) - (if ev then p.1 else p.2)) % n))) (fun (k : Nat) => K (.int ((p.1 + (k : Int) + 1) % n))) fun k hk N => by rw [test, q_ite]]
  rw [find_fil]
  cases ev with
  | true =>
    simp only [if_true]
    have ef : (List.range (n.toNat - 1)).find? (fun (k : Nat) => tieB n cs p.1 ((p.1 + k + 1) % n) && (tieB n cs p.2 ((p.1 + (k : Int) + 1) % n) && (decide (0 < (((p.1 + (k : Int) + 1) % n) - p.1) % n) && decide ((((p.1 + (k : Int) + 1) % n) - p.1) % n < (p.2 - p.1) % n)))) = (List.range ((p.2 - p.1) % n - 1).toNat).find? fun (k : Nat) => tieB n cs p.1 ((p.1 + k + 1) % n) && tieB n cs p.2 ((p.1 + k + 1) % n) := by
      rw [show n.toNat - 1 = ((p.2 - p.1) % n - 1).toNat + (n.toNat - 1 - ((p.2 - p.1) % n - 1).toNat) by omega]
      have dk : ∀ k : Nat, k < n.toNat - 1 → ((p.1 + (k : Int) + 1) % n - p.1) % n = k + 1 := fun k hk => by
        rw [Int.emod_sub_emod, show p.1 + (k : Int) + 1 - p.1 = k + 1 by omega]
        exact Int.emod_eq_of_lt (by omega) (by omega)
      refine find_range _ _ (fun k hk => ?_) fun k k1 k2 => ?_
      · rw [dk k (by omega), decide_eq_true (by omega : (0 : Int) < (k : Int) + 1), decide_eq_true (by omega : (k : Int) + 1 < (p.2 - p.1) % n), Bool.and_self, Bool.and_true]
      · rw [dk k (by omega), decide_eq_false (by omega : ¬ (k : Int) + 1 < (p.2 - p.1) % n)]
        simp
    rw [ef]
    unfold thW thd
    rw [if_pos rfl]
    cases (List.range ((p.2 - p.1) % n - 1).toNat).find? fun (k : Nat) => tieB n cs p.1 ((p.1 + k + 1) % n) && tieB n cs p.2 ((p.1 + k + 1) % n) <;> rfl
  | false =>
    simp only [Bool.false_eq_true, if_false]
    have ef : (List.range (n.toNat - 1)).find? (fun (k : Nat) => tieB n cs p.1 ((p.1 + k + 1) % n) && (tieB n cs p.2 ((p.1 + (k : Int) + 1) % n) && (decide (0 < (((p.1 + (k : Int) + 1) % n) - p.2) % n) && decide ((((p.1 + (k : Int) + 1) % n) - p.2) % n < (p.1 - p.2) % n)))) = ((List.range ((p.1 - p.2) % n - 1).toNat).find? fun (j : Nat) => tieB n cs p.2 ((p.2 + j + 1) % n) && tieB n cs p.1 ((p.2 + j + 1) % n)).map fun j => ((p.2 - p.1) % n).toNat + j := by
      rw [show n.toNat - 1 = ((p.2 - p.1) % n).toNat + ((p.1 - p.2) % n - 1).toNat by omega]
      have sh : ∀ k : Nat, ((p.1 + (k : Int) + 1) % n - p.2) % n = ((k : Int) + 1 - (p.2 - p.1) % n) % n := fun k => by
        rw [Int.emod_sub_emod, Int.sub_emod ((k : Int) + 1), Int.emod_emod, ← Int.sub_emod]
        congr 1; omega
      rw [find_map_range _ _ fun k hk => ?_]
      · congr 1
        refine find_congr fun j hj => ?_
        have hj := List.mem_range.mp hj
        have ej : (p.1 + ((((p.2 - p.1) % n).toNat + j : Nat) : Int) + 1) % n = (p.2 + (j : Int) + 1) % n := by
          rw [show p.1 + ((((p.2 - p.1) % n).toNat + j : Nat) : Int) + 1 = p.1 + (p.2 - p.1) % n + ((j : Int) + 1) by omega, ← Int.emod_add_emod, Int.add_emod_emod, Int.emod_add_emod]
          congr 1; omega
        rw [sh, ej]
        have e5 : (((((p.2 - p.1) % n).toNat + j : Nat) : Int) + 1 - (p.2 - p.1) % n) % n = (j : Int) + 1 := by
          rw [show (((((p.2 - p.1) % n).toNat + j : Nat) : Int) + 1 - (p.2 - p.1) % n) = (j : Int) + 1 by omega]
          exact Int.emod_eq_of_lt (by omega) (by omega)
        rw [e5, decide_eq_true (by omega : (0 : Int) < (j : Int) + 1), decide_eq_true (by omega : (j : Int) + 1 < (p.1 - p.2) % n), Bool.and_self, Bool.and_true, Bool.and_comm]
      · rw [sh]
        by_cases e : (k : Int) + 1 = (p.2 - p.1) % n
        · rw [e, Int.sub_self]; simp
        · have e5 : ((k : Int) + 1 - (p.2 - p.1) % n) % n = (k : Int) + 1 - (p.2 - p.1) % n + n := by
            rw [← Int.add_emod_right, Int.emod_eq_of_lt (by omega) (by omega)]
          rw [e5, decide_eq_false (by omega : ¬ (k : Int) + 1 - (p.2 - p.1) % n + n < (p.1 - p.2) % n)]
          simp
    rw [ef]
    unfold thW thd
    rw [if_neg (by decide)]
    cases (List.range ((p.1 - p.2) % n - 1).toNat).find? fun (j : Nat) => tieB n cs p.2 ((p.2 + j + 1) % n) && tieB n cs p.1 ((p.2 + j + 1) % n) with
    | none => rfl
    | some j =>
      show K (.int ((p.1 + ((((p.2 - p.1) % n).toNat + j : Nat) : Int) + 1) % n)) = K (.int ((p.2 + (j : Int) + 1) % n))
      have ej : (p.1 + ((((p.2 - p.1) % n).toNat + j : Nat) : Int) + 1) % n = (p.2 + (j : Int) + 1) % n := by
        rw [show p.1 + ((((p.2 - p.1) % n).toNat + j : Nat) : Int) + 1 = p.1 + (p.2 - p.1) % n + ((j : Int) + 1) by omega, ← Int.emod_add_emod, Int.add_emod_emod, Int.emod_add_emod]
        congr 1; omega
      rw [ej]
end
end Tx

namespace Tx
open PySem PySem.Spec PyProof.Rows L2 TL
open Tr
/-! how often one sign stands in a text -/
section
open PySem.StrLaws PySem.Builtin PySem.Builtin.Str
theorem occ_size (x : Str) (c lim : Nat) : ∀ (k a : Nat) (st : Array Nat × Nat), st.2 ≤ a → st.1.size + k ≤ lim → (forIn (List.range' a k) st (occBody x ⟨#[c]⟩ x.length lim)).run.fst.size = st.1.size + ((List.range' a k).filter fun i => decide (x.cps.toList[i]? = some c)).length
  | 0, a, st, _, _ => rfl
  | k + 1, a, st, h1, h2 => by
    rw [List.range'_succ, List.forIn_cons, List.filter_cons]
    unfold occBody
    by_cases hc : x.cps.toList[a]? = some c
    · have q := (subAt_one x c a).mpr hc
      rw [if_pos ⟨⟨⟨by omega, h1⟩, q.1⟩, q.2⟩, if_pos (decide_eq_true hc)]
      have := occ_size x c lim k (a + 1) (st.1.push a, a + (⟨#[c]⟩ : Str).length) (Nat.le_refl _) (by simp only [Array.size_push]; omega)
      refine Eq.trans this ?_
      simp only [Array.size_push, List.length_cons]; omega
    · rw [if_neg fun z => hc ((subAt_one x c a).mp ⟨z.1.2, z.2⟩), if_neg (by rw [decide_eq_false hc]; decide)]
      exact occ_size x c lim k (a + 1) st (by omega) (by omega)
theorem fil_count (c : Nat) : ∀ (l : List Nat), ((List.range' 0 (l.length + 1)).filter fun (i : Nat) => decide (l[i]? = some c)).length = l.count c := fun l => by
  have go : ∀ (l m : List Nat), ((List.range' m.length (l.length + 1)).filter fun (i : Nat) => decide ((m ++ l)[i]? = some c)).length = l.count c := fun l => by
    induction l with
    | nil => intro m; simp [List.range'_succ]
    | cons a l ih =>
      intro m
      rw [List.length_cons, List.range'_succ, List.filter_cons, List.count_cons]
      have := ih (m ++ [a])
      rw [List.length_append, List.length_singleton, List.append_assoc] at this
      have e : (m ++ a :: l)[m.length]? = some a := by simp
      rw [e]
      have e2 : (fun (i : Nat) => decide ((m ++ ([a] ++ l))[i]? = some c)) = fun (i : Nat) => decide ((m ++ a :: l)[i]? = some c) := rfl
      rw [e2] at this
      by_cases h : a = c
      · subst h; simp [this]
      · simp [h, this]
  exact go l []
theorem count_one (x : Str) (c : Nat) : Txt.count x ⟨#[c]⟩ = x.cps.toList.count c := by
  show (((occurrences x ⟨#[c]⟩ 0 x.length (x.length + 1)).length : Nat) : Int) = _
  rw [occ_eq, Array.length_toList, occ_size x c (x.length + 1) (x.length + 1 - 0) 0 (#[], 0) (Nat.le_refl _) (by simp)]
  have e : x.length = x.cps.toList.length := by simp [Str.length]
  rw [e, Nat.sub_zero, fil_count]
  simp
end
theorem count_rS (w : List Bool) (b : Bool) : Txt.count (rS w) (rS [b]) = w.count b := by
  show Txt.count (rS w) ⟨#[chB b]⟩ = _
  rw [count_one, rS_tl]
  congr 1
  induction w with
  | nil => rfl
  | cons a w ih =>
    rw [List.map_cons, List.count_cons, List.count_cons, ih]
    by_cases h : a = b
    · subst h; simp
    · have : chB a ≠ chB b := fun z => h (chB_inj z)
      simp [h, this]
/-- the count of r less that of l -/
def wt (w : List Bool) : Int := w.count true - w.count false
theorem wt_app (u v : List Bool) : wt (u ++ v) = wt u + wt v := by
  unfold wt
  rw [List.count_append, List.count_append]; omega
def vB (b : Bool) : Int := if b then 1 else -1
theorem wt_one (b : Bool) : wt [b] = vB b := by cases b <;> rfl
theorem wt_cons (b : Bool) (w : List Bool) : wt (b :: w) = vB b + wt w := by rw [← wt_one, ← wt_app]; rfl
theorem vB_not (b : Bool) : vB (!b) = - vB b := by cases b <;> rfl
theorem row_wt : ∀ (t : Tr) (x h : Bool), (wt (t.row x h) - vB h) % 3 = 0
  | .lf, x, h => by show (wt [h] - vB h) % 3 = 0; rw [wt_one]; omega
  | .nd a b, x, h => by
    have h1 := row_wt a (!x) (!h)
    have h2 := row_wt b (!x) (!h)
    rw [vB_not] at h1 h2
    unfold Tr.row
    cases x
    · rw [if_neg (by decide), wt_app]; omega
    · rw [if_pos rfl, wt_app]; omega
theorem rowT_wt (T : Tr) : wt (rowT T) % 3 = 0 := by
  have := row_wt T false false
  unfold rowT
  rw [wt_cons]
  have e1 : vB true = 1 := rfl
  have e2 : vB false = -1 := rfl
  omega
/-! parts by three corners that are tied -/
theorem three {x y z : Int} (h1 : x ≠ y) (h2 : x ≠ z) (h3 : y ≠ z) : ∃ p : Int × Int × Int, p.1 < p.2.1 ∧ p.2.1 < p.2.2 ∧ ∀ v, v ∈ [x, y, z] ↔ v ∈ [p.1, p.2.1, p.2.2] := by
  have six : ∀ a b c : Int, a < b → b < c → (∀ v, v ∈ [x, y, z] ↔ v ∈ [a, b, c]) → ∃ p : Int × Int × Int, p.1 < p.2.1 ∧ p.2.1 < p.2.2 ∧ ∀ v, v ∈ [x, y, z] ↔ v ∈ [p.1, p.2.1, p.2.2] := fun a b c h1 h2 h3 => ⟨(a, b, c), h1, h2, h3⟩
  rcases Int.lt_or_gt_of_ne h1 with a | a <;> rcases Int.lt_or_gt_of_ne h2 with b | b <;> rcases Int.lt_or_gt_of_ne h3 with c | c
  · exact six x y z a c fun v => Iff.rfl
  · exact six x z y b c fun v => by simp only [List.mem_cons, List.not_mem_nil, or_false]; constructor <;> rintro (h | h | h) <;> simp [h]
  · omega
  · exact six z x y b a fun v => by simp only [List.mem_cons, List.not_mem_nil, or_false]; constructor <;> rintro (h | h | h) <;> simp [h]
  · exact six y x z a b fun v => by simp only [List.mem_cons, List.not_mem_nil, or_false]; constructor <;> rintro (h | h | h) <;> simp [h]
  · omega
  · exact six y z x c b fun v => by simp only [List.mem_cons, List.not_mem_nil, or_false]; constructor <;> rintro (h | h | h) <;> simp [h]
  · exact six z y x c a fun v => by simp only [List.mem_cons, List.not_mem_nil, or_false]; constructor <;> rintro (h | h | h) <;> simp [h]
section
variable {K : KD} {Kl : KL} {E : KX} {Kb : KB} {n : Int} {T : Tr}
variable (h3 : 3 ≤ n) (h40 : n ≤ 40) (hT : T.sz = n - 1)
include h3 h40 hT
/-- three corners that are tied are a part's -/
theorem tri_of {x y z : Int} (t1 : tieB n (plT n T) x y = true) (t2 : tieB n (plT n T) x z = true) (t3 : tieB n (plT n T) y z = true) : ∃ q ∈ T.pts 1 true, (∀ v, v ∈ [x, y, z] ↔ corB v (tri n q.1) = true) ∧ ∀ Kl : KL, sortM (.list [.int x, .int y, .int z]) Kl = Kl ((k3 (tri n q.1)).map kD) := by
  have hp := plT_ok h3 h40 hT
  have b1 := tie_lt hp t1
  have b2 := tie_lt hp t2
  have b3 := tie_lt hp t3
  obtain ⟨p, p1, p2, pm⟩ := three b1.2.2.2.2 b2.2.2.2.2 b3.2.2.2.2
  have all : ∀ u ∈ [x, y, z], ∀ v ∈ [x, y, z], u ≠ v → tieB n (plT n T) u v = true := fun u hu v hv hne => by
    have s1 : tieB n (plT n T) y x = true := by rw [tie_sym]; exact t1
    have s2 : tieB n (plT n T) z x = true := by rw [tie_sym]; exact t2
    have s3 : tieB n (plT n T) z y = true := by rw [tie_sym]; exact t3
    simp only [List.mem_cons, List.not_mem_nil, or_false] at hu hv
    rcases hu with rfl | rfl | rfl <;> rcases hv with rfl | rfl | rfl <;> first | exact absurd rfl hne | assumption
  have m1 := (pm p.1).mpr (by simp)
  have m2 := (pm p.2.1).mpr (by simp)
  have m3 := (pm p.2.2).mpr (by simp)
  have a12 := all _ m1 _ m2 (by omega)
  have a13 := all _ m1 _ m3 (by omega)
  have a23 := all _ m2 _ m3 (by omega)
  have l1 := tie_lt hp a13
  have lok := lines_ok hp
  have hm : p ∈ apL n (plT n T) := by
    unfold apL
    refine List.mem_flatMap.mpr ⟨(p.1, p.2.1), ?_, ?_⟩
    · have a := a12
      unfold tieB at a
      rw [decide_eq_true_iff, mem_both hp] at a
      rcases a with a | a
      · exact a
      · have := lok.lt _ a; simp only at this; omega
    · unfold rowAP
      refine List.mem_map.mpr ⟨(p.2.2 - (p.2.1 + 1)).toNat, List.mem_filter.mpr ⟨List.mem_range.mpr (by simp only; omega), ?_⟩, ?_⟩
      · simp only
        rw [show p.2.1 + 1 + ((p.2.2 - (p.2.1 + 1)).toNat : Int) = p.2.2 by omega, a13, a23]; rfl
      · simp only
        rw [show p.2.1 + 1 + ((p.2.2 - (p.2.1 + 1)).toNat : Int) = p.2.2 by omega]
  obtain ⟨q, hq, e⟩ := (mem_apL h3 h40 hT).mp hm
  subst e
  refine ⟨q, hq, fun v => by rw [pm, corB_iff]; simp, fun Kl => ?_⟩
  have nd : [x, y, z].Nodup := by simp; exact ⟨⟨b1.2.2.2.2, b2.2.2.2.2⟩, b3.2.2.2.2⟩
  exact sort3 (ms := [(tri n q.1).1, (tri n q.1).2.1, (tri n q.1).2.2]) nd (by simp; omega) pm
/-- a part's corners are tied -/
theorem pts_tie {q : (Int × Int × Int) × Bool} (hq : q ∈ T.pts 1 true) {u v : Int} (hu : corB u (tri n q.1) = true) (hv : corB v (tri n q.1) = true) (hne : u ≠ v) : tieB n (plT n T) u v = true := by
  have hp := plT_ok h3 h40 hT
  have lok := lines_ok hp
  have hm := (mem_apL h3 h40 hT).mpr ⟨q, hq, rfl⟩
  obtain ⟨p, hpm, hx⟩ := List.mem_flatMap.mp hm
  unfold rowAP at hx
  obtain ⟨j, hj, e⟩ := List.mem_map.mp hx
  obtain ⟨_, hj2⟩ := List.mem_filter.mp hj
  obtain ⟨t1, t2⟩ := Bool.and_eq_true_iff.mp hj2
  have t0 : tieB n (plT n T) p.1 p.2 = true := by
    unfold tieB
    rw [decide_eq_true_iff, mem_both hp]
    exact .inl hpm
  rw [← e] at hu hv
  have hu := corB_iff.mp hu
  have hv := corB_iff.mp hv
  simp only at hu hv
  have s1 : tieB n (plT n T) p.2 p.1 = true := by rw [tie_sym]; exact t0
  have s2 : tieB n (plT n T) (p.2 + 1 + (j : Int)) p.1 = true := by rw [tie_sym]; exact t1
  have s3 : tieB n (plT n T) (p.2 + 1 + (j : Int)) p.2 = true := by rw [tie_sym]; exact t2
  rcases hu with rfl | rfl | rfl <;> rcases hv with rfl | rfl | rfl <;> first | exact absurd rfl hne | assumption
/-- a part's third corner -/
theorem pts_third {q : (Int × Int × Int) × Bool} (hq : q ∈ T.pts 1 true) {u v : Int} (hu : corB u (tri n q.1) = true) (hv : corB v (tri n q.1) = true) (hne : u ≠ v) : ∃ c, corB c (tri n q.1) = true ∧ c ≠ u ∧ c ≠ v := by
  have t1 := pts_tri1 h3 h40 hT hq
  have hd : (tri n q.1).1 < (tri n q.1).2.1 ∧ (tri n q.1).2.1 < (tri n q.1).2.2 := by
    obtain ⟨x1, x2, x3, x4⟩ := t1
    rcases tri_cases (pts_tri1 h3 h40 hT hq) with ⟨e1, f1⟩ | ⟨e1, f1⟩ <;> rw [f1] <;> (try dsimp only) <;> omega
  have hu := corB_iff.mp hu
  have hv := corB_iff.mp hv
  generalize tri n q.1 = p at *
  rcases hu with rfl | rfl | rfl <;> rcases hv with rfl | rfl | rfl <;> first
    | exact absurd rfl hne
    | exact ⟨p.1, corB_iff.mpr (.inl rfl), by omega, by omega⟩
    | exact ⟨p.2.1, corB_iff.mpr (.inr (.inl rfl)), by omega, by omega⟩
    | exact ⟨p.2.2, corB_iff.mpr (.inr (.inr rfl)), by omega, by omega⟩
/-- what right_parts tells -/
theorem hands_put : HandsOk n T (putPts n [] (T.pts 1 true)) := by
  have go : ∀ (L : List ((Int × Int × Int) × Bool)) (D : AT), (∀ q ∈ L, q ∈ T.pts 1 true) → Snd n T D → Snd n T (putPts n D L) ∧ (∀ x, Has3 D x → Has3 (putPts n D L) x) ∧ (∀ q ∈ L, Has3 (putPts n D L) (tri n q.1)) ∧ (putPts n D L).length ≤ D.length + L.length := fun L => by
    induction L with
    | nil => exact fun D _ hs => ⟨hs, fun x h => h, fun q hq => (by cases hq), Nat.le_refl _⟩
    | cons a L ih =>
      intro D hL hs
      have hs2 : Snd n T (putP D (keyTri n a.1) (.bool a.2)) := fun kv hkv => by
        rcases mem_putP hkv with e | h
        · exact ⟨a, hL a (List.mem_cons_self ..), by rw [e, keyTri_eq]⟩
        · exact hs kv h
      obtain ⟨i1, i2, i3, i4⟩ := ih (putP D (keyTri n a.1) (.bool a.2)) (fun q hq => hL q (List.mem_cons_of_mem _ hq)) hs2
      refine ⟨i1, fun x h => i2 x ?_, fun q hq => ?_, ?_⟩
      · rw [keyTri_eq]; exact has_put h
      · rcases List.mem_cons.mp hq with rfl | hq
        · refine i2 _ ?_
          rw [keyTri_eq]; exact has_put_self
        · exact i3 q hq
      · have := putP_len (kvs := D) (k := keyTri n a.1) (d := .bool a.2)
        show (putPts n (putP D (keyTri n a.1) (.bool a.2)) L).length ≤ _
        rw [List.length_cons]; omega
  obtain ⟨g1, _, g3, g4⟩ := go (T.pts 1 true) [] (fun q hq => hq) fun kv hkv => (by cases hkv)
  have := pts_len T 1 true
  exact ⟨g1, fun q hq => snd_val h3 h40 hT g1 hq (g3 q hq), by rw [List.length_nil] at g4; omega⟩
theorem i_right_parts' {Kt : AT → Prop} (hK : ∀ D, HandsOk n T D → Kt D) : f_right_parts (plD n (plT n T)) Kt E := i_right_parts h3 h40 hT (hK _ (hands_put h3 h40 hT))
theorem i_order_of (hK : Kl ((ordP n (T.arcs 1)).map .int)) : f_order_of (plD n (plT n T)) Kl E := by
  have hp := plT_ok h3 h40 hT
  have hsl := sizeLine_eq
  have hl := ordP_len h3 h40 (plT_arcs h3 h40 hT)
  unfold f_order_of
  simp only [q_add_ii, q_add_ss, q_add_ll, q_add_tt, q_addL, q_sub, q_mul, q_div, q_mod, q_neg, q_bool, q_eq_ii, q_eq_ss, q_eq_bb, q_ne_ii, q_ne_ss, q_ne_bb, q_lt, q_le, q_gt, q_ge, q_un2, q_un3, q_un4, q_intO, q_len_l, q_len_t, q_len_s, q_abs, q_int_i, q_int_b, q_tup_l, q_tup_t, q_list_l, q_list_t, q_min, q_max, q_it_l, q_it_t, q_rng, q_enu_l, q_enu_t, q_rev, q_sl_l, q_sl_t, q_sl_s, q_slL, q_all, q_any, q_sum, q_sort_pp, q_and, q_or, q_ite, q_join, cond_true, cond_false, true_and, and_true, decide_eq_true_eq, decide_true, decide_false, p_un_pl, p_ix_pl0, p_ix_pl1, p_un_pp, p_ix_pp0, p_ix_pp1, p_mk, p_eq, p_ne, p_in, p_notIn, p_lt, e_neighbours hp]
  refine i_put_down h3 h40 (plT_arcs h3 h40 hT) 64 1 n false _ (List.mem_cons_self ..) (by omega) ?_
  rw [q_addL]
  unfold ordP at hK hl
  rw [List.length_cons] at hl
  simp only [List.length_map, List.length_cons, List.length_nil]
  exact ⟨by omega, hK⟩
theorem i_row_of (hK : K (.str (rS (rowT T)))) : f_row_of (plD n (plT n T)) K E := by
  have hp := plT_ok h3 h40 hT
  have hl := ordP_len h3 h40 (plT_arcs h3 h40 hT)
  unfold f_row_of
  rw [e_need_ok hp]
  rw [p_ix_pl0, e_neighbours hp]
  refine i_right_parts' h3 h40 hT fun D hD => ?_
  refine i_order_of h3 h40 hT ?_
  rw [q_it_l, rS_nil]
  refine forM_inv (ordP n (T.arcs 1)) PyData.int (fun i d => d = .str (rS (((ordP n (T.arcs 1)).map (rowH T)).take i))) (fun i x hx d hd N hN => ?_) (fun d hd => ?_) _ (by rw [List.take_zero])
  · subst hd
    obtain ⟨x0, x1⟩ := ordP_in h3 h40 hT (List.mem_of_getElem? hx)
    have hi := (List.getElem?_eq_some_iff.mp hx).1
    have y0 : 0 ≤ (x + 1) % n ∧ (x + 1) % n < n := ⟨Int.emod_nonneg _ (by omega), Int.emod_lt_of_pos _ (by omega)⟩
    have hxy : x ≠ (x + 1) % n := fun e => by
      by_cases z : x + 1 = n
      · rw [z, Int.emod_self] at e; omega
      · rw [Int.emod_eq_of_lt (by omega) (by omega)] at e; omega
    rw [q_add_ii, q_mod]
    refine ⟨by omega, ?_⟩
    rw [q_ixr x0 (by omega), show ((x.toNat : Nat) : Int) = x by omega, q_it_l]
    rw [q_lc_fil (near n (plT n T) x) PyData.int (fun c => tieB n (plT n T) ((x + 1) % n) c) PyData.int fun c hc k s => by
      rw [q_ixr y0.1 (by omega), show (((((x + 1) % n).toNat : Nat)) : Int) = (x + 1) % n by omega, q_in_ints, in_near hp y0.1 y0.2, q_ite], List.nil_append]
    obtain ⟨q0, hq0, c1, c2⟩ := tri_side h3 h40 hT x0 x1
    obtain ⟨c, c3, c4, c5⟩ := pts_third h3 h40 hT hq0 c1 c2 hxy
    have txy := pts_tie h3 h40 hT hq0 c1 c2 hxy
    have hne : c ∈ (near n (plT n T) x).filter fun c => tieB n (plT n T) ((x + 1) % n) c := List.mem_filter.mpr ⟨(near_mem hp x0 x1).mpr (pts_tie h3 h40 hT hq0 c1 c3 (Ne.symm c4)), pts_tie h3 h40 hT hq0 c2 c3 (Ne.symm c5)⟩
    cases hf : (near n (plT n T) x).filter fun c => tieB n (plT n T) ((x + 1) % n) c with
    | nil => rw [hf] at hne; cases hne
    | cons c' r =>
      have hm : c' ∈ (near n (plT n T) x).filter fun c => tieB n (plT n T) ((x + 1) % n) c := by rw [hf]; exact List.mem_cons_self ..
      obtain ⟨m1, m2⟩ := List.mem_filter.mp hm
      obtain ⟨q, hq, mem, so⟩ := tri_of h3 h40 hT txy ((near_mem hp x0 x1).mp m1) m2
      have hh := side_tri h3 h40 hT hq x0 x1 ((mem _).mp (by simp)) ((mem _).mp (by simp))
      show (match atI (PyData.int c' :: r.map .int) 0 with | some y => _ | none => False)
      rw [at_nat (Int.le_refl _) (by rfl)]
      dsimp only
      rw [q_join, so, q_tup_l]
      have eg : ∀ Q : KD, getTM D (.tuple ((k3 (tri n q.1)).map kD)) Q = Q (.bool q.2) := fun Q => by
        have : (PyData.tuple ((k3 (tri n q.1)).map kD)) = t3D (tri n q.1) := rfl
        rw [this, q_get3, hD.all q hq]
      rw [eg, q_bool, hh]
      have etk : ((ordP n (T.arcs 1)).map (rowH T)).take (i + 1) = ((ordP n (T.arcs 1)).map (rowH T)).take i ++ [rowH T x] := by
        rw [List.take_add_one, List.getElem?_map, hx]; rfl
      have hlen : (((ordP n (T.arcs 1)).map (rowH T)).take i).length + [rowH T x].length ≤ 1000 := by
        rw [List.length_take, List.length_map]; simp; omega
      have fin : ∀ b : Bool, rowH T x = b → addM (.str (rS (((ordP n (T.arcs 1)).map (rowH T)).take i))) (.str (rS [b])) N := fun b hb => by
        rw [q_add_rS (by rw [← hb]; exact hlen), ← hb, ← etk]
        exact hN _ rfl
      refine ⟨fun z => ?_, fun z => ?_⟩
      · rw [rS_r]; exact fin true z
      · rw [rS_l]; exact fin false z
  · subst hd
    rw [← List.length_map (f := rowH T), List.take_length, ordP_row h3 h40 hT]
    exact hK
end
end Tx

namespace Tx
open PySem PySem.Spec PyProof.Rows L2 TL
/-! texts of rows, cut -/
theorem cutS_take {R : List Bool} {a : Int} (h0 : 0 ≤ a) (h : a.toNat ≤ R.length) : cutS (rS R) none (some a) = rS (R.take a.toNat) := by
  refine str_ext ?_
  rw [rS_tl]
  show ((((rS R).cps.toList.drop (HT.sIx (rS R).length 0 none)).take (HT.sIx (rS R).length (rS R).length (some a) - HT.sIx (rS R).length 0 none)).toArray).toList = _
  rw [HT.sIx_none, rS_len, rS_tl, List.drop_zero]
  obtain ⟨k, rfl⟩ : ∃ k : Nat, a = k := ⟨a.toNat, by omega⟩
  rw [HT.sIx_nat, Nat.sub_zero, Nat.min_eq_left (by omega), List.map_take, Int.toNat_natCast]
theorem cutS_drop {R : List Bool} {a : Int} (h0 : 0 ≤ a) (h : a.toNat ≤ R.length) : cutS (rS R) (some a) none = rS (R.drop a.toNat) := by
  refine str_ext ?_
  rw [rS_tl]
  show ((((rS R).cps.toList.drop (HT.sIx (rS R).length 0 (some a))).take (HT.sIx (rS R).length (rS R).length none - HT.sIx (rS R).length 0 (some a))).toArray).toList = _
  rw [HT.sIx_none, rS_len, rS_tl]
  obtain ⟨k, rfl⟩ : ∃ k : Nat, a = k := ⟨a.toNat, by omega⟩
  rw [HT.sIx_nat, Nat.min_eq_left (by omega), Int.toNat_natCast, List.map_drop, List.take_of_length_le (by simp)]
theorem cutS_mid {R : List Bool} (h : 2 ≤ R.length) : cutS (rS R) (some 1) (some (-1)) = rS ((R.drop 1).dropLast) := by
  refine str_ext ?_
  rw [rS_tl]
  show ((((rS R).cps.toList.drop (HT.sIx (rS R).length 0 (some 1))).take (HT.sIx (rS R).length (rS R).length (some (-1)) - HT.sIx (rS R).length 0 (some 1))).toArray).toList = _
  rw [rS_len, rS_tl]
  have e1 : HT.sIx R.length R.length (some (-1)) = R.length - 1 := by
    rw [show HT.sIx R.length R.length (some (-1)) = (-1 + (R.length : Int)).toNat from rfl]
    omega
  have e2 : HT.sIx R.length 0 (some 1) = 1 := by
    rw [show (1 : Int) = ((1 : Nat) : Int) from rfl, HT.sIx_nat, Nat.min_eq_left (by omega)]
  rw [e1, e2, List.dropLast_eq_take, List.length_drop, List.map_take, List.map_drop]
def flipD : List (Key × PyData) := [(.inr (rS [true]), .str (rS [false])), (.inr (rS [false]), .str (rS [true]))]
theorem q_disp_flip {Q : List (Key × PyData) → Prop} : dispM [((.str "r"), (.str "l")), ((.str "l"), (.str "r"))] Q = Q flipD := by
  rw [rS_r, rS_l]
  show Q (mergeP flipD) = _
  have : mergeP flipD = flipD := by
    show putP (putP ([] : List (Key × PyData)) (Sum.inr (rS [true])) (.str (rS [false]))) (Sum.inr (rS [false])) (.str (rS [true])) = _
    rw [show putP ([] : List (Key × PyData)) (Sum.inr (rS [true])) (.str (rS [false])) = [(Sum.inr (rS [true]), .str (rS [false]))] from rfl, putP_new (fun kv h => by
      rw [List.mem_singleton.mp h]
      intro z
      have := key_rl.mp z
      cases this)]
    rfl
  rw [this]
theorem q_get_flip {Q : KD} {h : Bool} : getDM (dKd flipD) (.str (rS [h])) Q = Q (.str (rS [!h])) := by
  rw [q_getDK]
  show (match valP flipD (.inr (rS [h])) with | some d => Q d | none => False) = _
  unfold valP flipD
  rw [List.find?_cons, List.find?_cons]
  cases h
  · rw [decide_eq_false (fun z => (by have := key_rl.mp z; cases this)), decide_eq_true rfl]; rfl
  · rw [decide_eq_true rfl]; rfl
/-- the letters of a number -/
def bitsW : Nat → Nat → List Bool
  | 0, _ => []
  | k + 1, m => decide (m % 2 = 0) :: bitsW k (m / 2)
theorem bitsW_len : ∀ (k m : Nat), (bitsW k m).length = k
  | 0, _ => rfl
  | k + 1, m => by show (bitsW k (m / 2)).length + 1 = k + 1; rw [bitsW_len]
theorem sum_range_add (f : Nat → Int) (a b : Nat) : ((List.range (a + b)).map f).sum = ((List.range a).map f).sum + ((List.range b).map fun j => f (a + j)).sum := by
  induction b with
  | zero => simp
  | succ b ih => rw [← Nat.add_assoc, List.range_succ, List.range_succ, List.map_append, List.map_append, List.sum_append, List.sum_append, ih]; simp [Int.add_assoc]
/-- the sum over all words of k letters -/
def sW : Nat → (List Bool → Int) → Int
  | 0, f => f []
  | k + 1, f => sW k fun w => f (true :: w) + f (false :: w)
theorem sW_congr : ∀ (k : Nat) (f g : List Bool → Int), (∀ w, w.length = k → f w = g w) → sW k f = sW k g
  | 0, f, g, h => h [] rfl
  | k + 1, f, g, h => sW_congr k _ _ fun w hw => by rw [h _ (by rw [List.length_cons, hw]), h _ (by rw [List.length_cons, hw])]
theorem sW_add : ∀ (k : Nat) (f g : List Bool → Int), sW k (fun w => f w + g w) = sW k f + sW k g
  | 0, f, g => rfl
  | k + 1, f, g => by
    show sW k _ = sW k _ + sW k _
    rw [← sW_add k]
    exact sW_congr k _ _ fun w _ => by show f (true :: w) + g (true :: w) + (f (false :: w) + g (false :: w)) = _; omega
theorem sW_mul (c : Int) : ∀ (k : Nat) (f : List Bool → Int), sW k (fun w => c * f w) = c * sW k f
  | 0, f => rfl
  | k + 1, f => by
    show sW k _ = c * sW k _
    rw [← sW_mul c k]
    exact sW_congr k _ _ fun w _ => by rw [Int.mul_add]
theorem sW_zero : ∀ (k : Nat), sW k (fun _ => 0) = 0
  | 0 => rfl
  | k + 1 => sW_zero k
theorem sW_sum {α : Type} (L : List α) (f : α → List Bool → Int) (k : Nat) : sW k (fun w => (L.map fun a => f a w).sum) = (L.map fun a => sW k (f a)).sum := by
  induction L with
  | nil => exact sW_zero k
  | cons a L ih =>
    simp only [List.map_cons, List.sum_cons]
    rw [sW_add, ih]
theorem sW_app : ∀ (a b : Nat) (f : List Bool → Int), sW (a + b) f = sW a fun u => sW b fun v => f (u ++ v)
  | 0, b, f => by rw [Nat.zero_add]; rfl
  | a + 1, b, f => by
    rw [show a + 1 + b = a + b + 1 by omega]
    show sW (a + b) _ = sW a _
    rw [sW_app a b]
    refine sW_congr a _ _ fun u _ => ?_
    rw [← sW_add]
    rfl
theorem sW_cW : ∀ (n k : Nat) (h : Bool), k ≤ n → 1 ≤ k → k ≤ 40 → sW k (fun w => cW w h) = cc k := by
  intro n
  induction n with
  | zero => intro k h h1 h2; omega
  | succ n ih =>
    intro k h h1 h2 h4
    by_cases e : k = 1
    · subst e
      show cW [true] h + cW [false] h = _
      cases h <;> decide
    · rw [sW_congr k _ (fun w => ((List.range (k - 1)).map fun i => cW (w.take (i + 1)) (!h) * cW (w.drop (i + 1)) (!h)).sum) fun w hw => by rw [cW_step (by omega), hw], sW_sum, ← cc_rec k (by omega) (by omega)]
      refine congrArg List.sum (List.map_congr_left fun i hi => ?_)
      have hi := List.mem_range.mp hi
      have s := sW_app (i + 1) (k - (i + 1)) fun w => cW (w.take (i + 1)) (!h) * cW (w.drop (i + 1)) (!h)
      rw [show i + 1 + (k - (i + 1)) = k by omega] at s
      rw [s, sW_congr (i + 1) _ (fun u => cc (k - (i + 1)) * cW u (!h)) fun u hu => ?_, sW_mul, ih _ _ (by omega) (by omega) (by omega), Int.mul_comm, show (1 + (i : Int)).toNat = i + 1 by omega, show ((k : Int) - (1 + (i : Int))).toNat = k - (i + 1) by omega]
      rw [sW_congr (k - (i + 1)) _ (fun v => cW u (!h) * cW v (!h)) fun v hv => by rw [← hu, List.take_left', List.drop_left'] <;> rfl, sW_mul, ih _ _ (by omega) (by omega) (by omega), Int.mul_comm]
theorem sum_two (f : Nat → Int) : ∀ m : Nat, ((List.range (2 * m)).map f).sum = ((List.range m).map fun q => f (2 * q) + f (2 * q + 1)).sum
  | 0 => rfl
  | m + 1 => by
    rw [show 2 * (m + 1) = 2 * m + 1 + 1 by omega, List.range_succ, List.range_succ, List.range_succ]
    simp only [List.map_append, List.sum_append, sum_two f m]
    simp [Int.add_assoc]
theorem sum_bits : ∀ (k : Nat) (f : List Bool → Int), ((List.range (2 ^ k)).map fun j => f (bitsW k j)).sum = sW k f
  | 0, f => by simp [sW, bitsW]
  | k + 1, f => by
    rw [show 2 ^ (k + 1) = 2 * 2 ^ k by omega, sum_two]
    show _ = sW k _
    rw [← sum_bits k]
    refine congrArg List.sum (List.map_congr_left fun q _ => ?_)
    have e1 : bitsW (k + 1) (2 * q) = true :: bitsW k q := by
      show decide (2 * q % 2 = 0) :: bitsW k (2 * q / 2) = _
      rw [show 2 * q / 2 = q by omega, decide_eq_true (by omega)]
    have e2 : bitsW (k + 1) (2 * q + 1) = false :: bitsW k q := by
      show decide ((2 * q + 1) % 2 = 0) :: bitsW k ((2 * q + 1) / 2) = _
      rw [show (2 * q + 1) / 2 = q by omega, decide_eq_false (by omega)]
    rw [e1, e2]
theorem all_rows (m : Nat) (h1 : m < 10) (h3 : 3 ≤ m) : ((List.range 256).map fun j => if j / 2 ^ (m - 1) = 0 then cW (bitsW (m - 1) j) false else 0).sum = cc (m - 1) := by
  have hk : ∀ k, k ≤ 8 → 1 ≤ k → ((List.range 256).map fun j => if j / 2 ^ k = 0 then cW (bitsW k j) false else 0).sum = cc k := fun k k8 k1 => by
    have hp : 2 ^ k ≤ 256 := Nat.pow_le_pow_right (n := 2) (by decide) k8
    rw [show (256 : Nat) = 2 ^ k + (256 - 2 ^ k) from (Nat.add_sub_of_le hp).symm, sum_range_add]
    have z : ((List.range (256 - 2 ^ k)).map fun j => if (2 ^ k + j) / 2 ^ k = 0 then cW (bitsW k (2 ^ k + j)) false else 0).sum = 0 := by
      have : ∀ L : List Nat, (L.map fun j => if (2 ^ k + j) / 2 ^ k = 0 then cW (bitsW k (2 ^ k + j)) false else 0).sum = 0 := fun L => by
        induction L with
        | nil => rfl
        | cons a L ih =>
          rw [List.map_cons, List.sum_cons, ih, if_neg]; rfl
          have : 0 < 2 ^ k := Nat.pow_pos (by decide)
          rw [Nat.add_div_left _ this]; exact Nat.succ_ne_zero _
      exact this _
    rw [z, Int.add_zero, ← sW_cW k k false (Nat.le_refl _) k1 (by omega), ← sum_bits k]
    refine congrArg List.sum (List.map_congr_left fun j hj => ?_)
    rw [if_pos (Nat.div_eq_of_lt (List.mem_range.mp hj))]
  exact hk (m - 1) (by omega) (by omega)
/-! two alike neighbours folded into one of the other hand: no more ways -/
theorem cW_fold : ∀ (k : Nat) (u v : List Bool) (x h : Bool), u.length + v.length ≤ k → cW (u ++ (!x) :: v) h ≤ cW (u ++ x :: x :: v) h := by
  intro k
  induction k with
  | zero =>
    intro u v x h hl
    obtain rfl : u = [] := List.eq_nil_of_length_eq_zero (by omega)
    obtain rfl : v = [] := List.eq_nil_of_length_eq_zero (by omega)
    cases x <;> cases h <;> decide
  | succ k ih =>
    intro u v x h hl
    by_cases h0 : u.length + v.length = 0
    · obtain rfl : u = [] := List.eq_nil_of_length_eq_zero (by omega)
      obtain rfl : v = [] := List.eq_nil_of_length_eq_zero (by omega)
      cases x <;> cases h <;> decide
    have la : (u ++ (!x) :: v).length = u.length + v.length + 1 := by simp; omega
    have lb : (u ++ x :: x :: v).length = u.length + v.length + 2 := by simp; omega
    rw [cW_step (by omega), cW_step (by omega), la, lb]
    rw [show u.length + v.length + 1 - 1 = u.length + v.length by omega, show u.length + v.length + 2 - 1 = u.length + (1 + v.length) by omega, sum_range_add, sum_range_add, sum_range_add]
    have p1 : ((List.range u.length).map fun i => cW ((u ++ (!x) :: v).take (i + 1)) (!h) * cW ((u ++ (!x) :: v).drop (i + 1)) (!h)).sum ≤ ((List.range u.length).map fun i => cW ((u ++ x :: x :: v).take (i + 1)) (!h) * cW ((u ++ x :: x :: v).drop (i + 1)) (!h)).sum := by
      refine sum_le _ _ _ fun i hi => ?_
      have hi := List.mem_range.mp hi
      rw [List.take_append_of_le_length (by omega), List.take_append_of_le_length (by omega), List.drop_append_of_le_length (by omega), List.drop_append_of_le_length (by omega)]
      refine Int.mul_le_mul_of_nonneg_left (ih _ _ x _ (by rw [List.length_drop]; omega)) (cW_nn _ _ _ (Nat.le_refl _) (by rw [List.length_take]; omega))
    have p2 : 0 ≤ ((List.range 1).map fun j => cW ((u ++ x :: x :: v).take (u.length + j + 1)) (!h) * cW ((u ++ x :: x :: v).drop (u.length + j + 1)) (!h)).sum := by
      refine sum_nn _ _ fun i hi => ?_
      have hi := List.mem_range.mp hi
      exact Int.mul_nonneg (cW_nn _ _ _ (Nat.le_refl _) (by rw [List.length_take]; omega)) (cW_nn _ _ _ (Nat.le_refl _) (by rw [List.length_drop]; omega))
    have p3 : ((List.range v.length).map fun j => cW ((u ++ (!x) :: v).take (u.length + j + 1)) (!h) * cW ((u ++ (!x) :: v).drop (u.length + j + 1)) (!h)).sum ≤ ((List.range v.length).map fun j => cW ((u ++ x :: x :: v).take (u.length + (1 + j) + 1)) (!h) * cW ((u ++ x :: x :: v).drop (u.length + (1 + j) + 1)) (!h)).sum := by
      refine sum_le _ _ _ fun j hj => ?_
      have hj := List.mem_range.mp hj
      have e1 : (u ++ (!x) :: v).take (u.length + j + 1) = u ++ (!x) :: v.take j := by
        rw [List.take_append, show u.length + j + 1 - u.length = j + 1 by omega, List.take_of_length_le (by omega)]; rfl
      have e2 : (u ++ x :: x :: v).take (u.length + (1 + j) + 1) = u ++ x :: x :: v.take j := by
        rw [List.take_append, show u.length + (1 + j) + 1 - u.length = j + 1 + 1 by omega, List.take_of_length_le (by omega)]; rfl
      have e3 : (u ++ (!x) :: v).drop (u.length + j + 1) = v.drop j := by
        rw [List.drop_append, show u.length + j + 1 - u.length = j + 1 by omega, List.drop_eq_nil_of_le (by omega)]; rfl
      have e4 : (u ++ x :: x :: v).drop (u.length + (1 + j) + 1) = v.drop j := by
        rw [List.drop_append, show u.length + (1 + j) + 1 - u.length = j + 1 + 1 by omega, List.drop_eq_nil_of_le (by omega)]; rfl
      rw [e1, e2, e3, e4]
      refine Int.mul_le_mul_of_nonneg_right (ih _ _ x _ (by rw [List.length_take]; omega)) (cW_nn _ _ _ (Nat.le_refl _) (by rw [List.length_drop]; omega))
    omega
end Tx

namespace Tx
open PySem PySem.Spec PyProof.Rows L2 TL
@[irreducible] def f_law_k22 (script : PyData) (K : KD) (E : KX) : Prop :=
  f__law_pull (.int 7) (fun r1 =>
  addM (.int 3) r1 fun r2 =>
  rngM (.int 0) (.int 256) fun xs3 =>
  forM (fun l_number51 l_whole54 N52 B53 => rngM (.int 1) r2 fun xs59 =>
  forM (fun l_at71 (s : PyData × PyData) N72 B73 => match s with
  | (l_letters74, l_left75) => modM l_left75 (.int 2) fun r77 =>
  ixM (.str "rl") r77 fun r78 =>
  addM l_letters74 r78 fun r79 =>
  divM l_left75 (.int 2) fun r80 =>
  N72 (r79, r80)) (fun (s : PyData × PyData) =>
  match s with
  | (l_letters60, l_left61) => eqM l_left61 (.int 0) fun b63 =>
  (b63 = true → (intO l_whole54 fun u67 =>
  f_folds l_letters60 (fun r70 =>
  intO r70 fun m68 =>
  N52 (.int (u67 + m68))) E)) ∧ (b63 = false → (N52 l_whole54))) xs59 ((.str "r"), l_number51)) (fun l_whole4 =>
  f__law_ways (.int 38) (fun r9 =>
  subM r2 (.int 2) fun r10 =>
  ixM (.list r9) r10 fun r11 =>
  neM l_whole4 r11 fun b12 =>
  (b12 = true → (K (.bool false))) ∧ (b12 = false → (f__law_letters_row (.int 40) (fun r16 =>
  lenM r16 fun r18 =>
  subM r18 (.int 1) fun r19 =>
  rngM (.int 1) r19 fun xs17 =>
  lcM (fun l_at20 kp sk => ixM r16 l_at20 fun r22 =>
  addM l_at20 (.int 1) fun r23 =>
  ixM r16 r23 fun r24 =>
  eqM r22 r24 fun b25 =>
  (b25 = true → (kp l_at20)) ∧ (b25 = false → sk)) (fun l21 =>
  orM (fun Q => eqM (.list l21) (.list []) fun b27 =>
  Q b27) (fun Q => lenM r16 fun r28 =>
  ltM r28 (.int 4) fun b29 =>
  Q b29) fun b26 =>
  (b26 = true → (K (.bool true))) ∧ (b26 = false → (lenM (.list l21) fun r33 =>
  f__law_pull r33 (fun r34 =>
  ixM (.list l21) r34 fun r35 =>
  intO r35 fun i36 =>
  slM r16 none (some i36) fun r37 =>
  dispM [((.str "r"), (.str "l")), ((.str "l"), (.str "r"))] fun m39 =>
  ixM r16 r35 fun r40 =>
  getDM (dKd m39) r40 fun r41 =>
  addM r37 r41 fun r42 =>
  addM r35 (.int 2) fun r43 =>
  intO r43 fun i44 =>
  slM r16 (some i44) none fun r45 =>
  addM r42 r45 fun r46 =>
  f_folds r46 (fun r47 =>
  andM (fun Q => leM (.int 0) r47 Q) (fun Q => f_folds r16 (fun r50 =>
  leM r47 r50 Q) E) fun b48 =>
  K (.bool b48)) E) E))) xs17 []) E))) E) xs3 (.int 0)) E
theorem bitsW_snoc : ∀ (i m : Nat), bitsW (i + 1) m = bitsW i m ++ [decide (m / 2 ^ i % 2 = 0)]
  | 0, m => by show [decide (m % 2 = 0)] = _; rw [Nat.pow_zero, Nat.div_one]; rfl
  | i + 1, m => by
    show decide (m % 2 = 0) :: bitsW (i + 1) (m / 2) = decide (m % 2 = 0) :: bitsW i (m / 2) ++ _
    rw [bitsW_snoc i (m / 2), Nat.div_div_eq_div_mul, Nat.pow_succ, Nat.mul_comm 2]
    rfl
theorem e_law_k22 (ns : List Int) (h : ns.length ≤ 63) : f_law_k22 (.list (ns.map .int)) (fun r => r = .bool true) (fun _ => False) := by
  have hsl := sizeLine_eq
  unfold f_law_k22
  rw [e__law_pull (by decide) (by decide)]
  intro r r0 r1
  rw [q_add_ii, q_rng]
  refine ⟨by decide, ?_⟩
  rw [range0]
  have hr : ((3 + r).toNat : Int) = 3 + r := by omega
  obtain ⟨m, hm⟩ : ∃ m : Nat, (m : Int) = 3 + r := ⟨(3 + r).toNat, hr⟩
  rw [← hm]
  refine for_sum (List.range (256 : Int).toNat) (fun (i : Nat) => PyData.int i) (fun j => if j / 2 ^ (m - 1) = 0 then cW (bitsW (m - 1) j) false else 0) (fun j hj u N hN => ?_) 0 ?_
  · have hj := List.mem_range.mp hj
    rw [q_rng]
    refine ⟨by omega, ?_⟩
    rw [range_map]
    refine forM_inv (List.range ((m : Int) - 1).toNat) (fun (i : Nat) => PyData.int (1 + (i : Nat))) (fun i s => s = (PyData.str (rS (true :: bitsW i j)), PyData.int ((j / 2 ^ i : Nat) : Int))) (fun i a ha s hs N2 hN2 => ?_) (fun s hs => ?_) (PyData.str "r", PyData.int j) (by rw [rS_r, Nat.pow_zero, Nat.div_one]; rfl)
    · subst hs
      have hi := (List.getElem?_eq_some_iff.mp ha).1
      rw [List.length_range] at hi
      dsimp only
      rw [q_mod]
      refine ⟨by decide, ?_⟩
      have eb : ∀ Q : KD, ixM (.str "rl") (.int (((j / 2 ^ i : Nat) : Int) % 2)) Q = Q (.str (rS [decide (j / 2 ^ i % 2 = 0)])) := fun Q => by
        rw [rS_rl]
        have : ((j / 2 ^ i : Nat) : Int) % 2 = ((j / 2 ^ i % 2 : Nat) : Int) := by omega
        rw [this]
        have h2 : j / 2 ^ i % 2 = 0 ∨ j / 2 ^ i % 2 = 1 := by omega
        rcases h2 with e | e <;> rw [e]
        · exact q_ix_rS (b := true) (by decide) (by decide) rfl
        · exact q_ix_rS (b := false) (by decide) (by decide) rfl
      have hl := bitsW_len i j
      rw [eb, q_add_rS (by simp only [List.length_cons, List.length_nil]; omega), q_div]
      refine ⟨wide_div (by decide) (show Int.natAbs 2 < 2 ^ 2 by decide) (by decide) (by decide), ?_⟩
      have e2 : ((j / 2 ^ i : Nat) : Int) / 2 = ((j / 2 ^ (i + 1) : Nat) : Int) := by
        rw [Nat.pow_succ, ← Nat.div_div_eq_div_mul]; omega
      rw [e2]
      refine hN2 _ ?_
      rw [bitsW_snoc]; rfl
    · subst hs
      rw [List.length_range, show ((m : Int) - 1).toNat = m - 1 by omega]
      dsimp only
      have hl := bitsW_len (m - 1) j
      rw [q_eq_ii, q_ite]
      have ed : decide (((j / 2 ^ (m - 1) : Nat) : Int) = 0) = decide (j / 2 ^ (m - 1) = 0) := decide_eq_decide.mpr (by omega)
      rw [ed]
      by_cases e : j / 2 ^ (m - 1) = 0
      · rw [decide_eq_true e, cond_true, q_intO]
        rw [if_pos e] at hN
        refine i_folds (by simp only [List.length_cons]; omega) (by simp only [List.length_cons]; omega) rfl ?_
        rw [q_intO]
        have es : sb (true :: bitsW (m - 1) j) 1 (true :: bitsW (m - 1) j).length = bitsW (m - 1) j := by
          show (bitsW (m - 1) j).take _ = _
          rw [List.take_of_length_le]
          rw [List.length_cons]; omega
        rw [es]
        exact hN
      · rw [decide_eq_false e, cond_false]
        rw [if_neg e, Int.add_zero] at hN
        exact hN
  · rw [Int.zero_add, show (256 : Int).toNat = 256 from rfl, all_rows m (by omega) (by omega), show (PyData.int 38) = .int ((38 : Nat) : Int) from rfl, e__law_ways (by decide)]
    rw [q_sub, q_ix_rg (by omega) (by omega), show ((m : Int) - 2).toNat + 1 = m - 1 by omega]
    show neM (.int (cc (m - 1))) (.int (cc (m - 1))) _
    rw [q_ne_ii, decide_eq_true rfl]
    refine ⟨fun z => (by cases z), fun _ => ?_⟩
    refine i__law_letters_row (by decide) (by decide) fun R h0 h3 h40 => ?_
    have hR : R.length ≤ 40 := by omega
    rw [q_len_rS (by omega), q_sub, q_rng]
    refine ⟨by omega, ?_⟩
    rw [range_map]
    have body : ∀ Kl : KL, lcM (fun l_at20 kp sk => ixM (.str (rS R)) l_at20 fun r22 => addM l_at20 (.int 1) fun r23 => ixM (.str (rS R)) r23 fun r24 => eqM r22 r24 fun b25 => (b25 = true → (kp l_at20)) ∧ (b25 = false → sk)) Kl ((List.range ((R.length : Int) - 1 - 1).toNat).map fun (i : Nat) => PyData.int (1 + (i : Int))) [] = Kl ((((List.range ((R.length : Int) - 1 - 1).toNat).filter fun i => decide (R[i + 1]? = R[i + 2]?))).map fun (i : Nat) => PyData.int (1 + (i : Int))) := fun Kl => by
      rw [q_lc_fil _ _ (fun i => decide (R[i + 1]? = R[i + 2]?)) (fun (i : Nat) => PyData.int (1 + (i : Int))) (fun i hi k s => ?_) [], List.nil_append]
      have hi := List.mem_range.mp hi
      have b1 : R[i + 1]? = some R[i + 1] := List.getElem?_eq_getElem (by omega)
      have b2 : R[i + 2]? = some R[i + 2] := List.getElem?_eq_getElem (by omega)
      rw [q_ix_rS (b := R[i + 1]) (by omega) (by omega) (by rw [show (1 + (i : Int)).toNat = i + 1 by omega]; exact b1), q_add_ii, q_ix_rS (b := R[i + 2]) (by omega) (by omega) (by rw [show (1 + (i : Int) + 1).toNat = i + 2 by omega]; exact b2), q_eq_ss, dec_rS, q_ite, b1, b2]
      congr 1
      exact decide_eq_decide.mpr (by simp)
    rw [body]
    generalize hsp : ((List.range ((R.length : Int) - 1 - 1).toNat).filter fun i => decide (R[i + 1]? = R[i + 2]?)) = sp
    have hspm : ∀ i ∈ sp, i + 2 < R.length ∧ R[i + 1]? = R[i + 2]? := fun i hi => by
      rw [← hsp] at hi
      obtain ⟨i1, i2⟩ := List.mem_filter.mp hi
      have i1 := List.mem_range.mp i1
      exact ⟨by omega, of_decide_eq_true i2⟩
    have hspl : sp.length ≤ 40 := by
      rw [← hsp]
      refine Nat.le_trans (List.length_filter_le _ _) ?_
      rw [List.length_range]; omega
    have eqn : ∀ Q : KB, eqM (.list (sp.map fun (i : Nat) => PyData.int (1 + (i : Int)))) (.list []) Q = Q sp.isEmpty := fun Q => by
      rw [q_eq_ll, eqv_nil, List.isEmpty_map]
      refine propext ⟨fun ⟨_, _, h⟩ => h, fun h => ⟨shp_list fun d hd => ?_, by decide +kernel, h⟩⟩
      obtain ⟨i, _, rfl⟩ := List.mem_map.mp hd
      exact ⟨rfl, Nat.le_of_ble_eq_true rfl⟩
    rw [q_or' (b1 := sp.isEmpty) (b2 := decide (R.length < 4)) (fun Q => by rw [eqn]) fun _ Q => by
      rw [q_len_rS (by omega), q_lt]
      congr 1
      exact decide_eq_decide.mpr (by omega)]
    rw [q_ite]
    cases hc : (sp.isEmpty || decide (R.length < 4)) with
    | true => rfl
    | false =>
      rw [cond_false]
      obtain ⟨c1, c2⟩ := Bool.or_eq_false_iff.mp hc
      have c2 := of_decide_eq_false c2
      have hne : 0 < sp.length := by
        cases sp with
        | nil => cases c1
        | cons a r => simp
      rw [q_len_l, List.length_map, e__law_pull (by omega) (by omega)]
      intro k k0 k1
      obtain ⟨i, hi⟩ : ∃ i, sp[k.toNat]? = some i := ⟨_, List.getElem?_eq_getElem (by omega)⟩
      have hat : ∀ Q : KD, ixM (.list (sp.map fun (i : Nat) => PyData.int (1 + (i : Int)))) (.int k) Q = Q (.int (1 + (i : Int))) := fun Q => by
        show (match atI (sp.map fun (i : Nat) => PyData.int (1 + (i : Int))) k with | some y => Q y | none => False) = _
        rw [at_nat k0 (x := PyData.int (1 + (i : Int))) (by rw [List.getElem?_map, hi]; rfl)]
      obtain ⟨i1, i2⟩ := hspm i (List.mem_of_getElem? hi)
      have hx : R[i + 1]? = some R[i + 1] := List.getElem?_eq_getElem (by omega)
      have e1 : (1 + (i : Int)).toNat = i + 1 := by omega
      have e2 : (1 + (i : Int) + 2).toNat = i + 3 := by omega
      rw [hat, q_intO, q_sl_s, rS_len, cutS_take (by omega) (by omega), e1]
      refine ⟨by omega, ?_⟩
      rw [q_disp_flip, q_ix_rS (b := R[i + 1]) (by omega) (by omega) (by rw [e1]; exact hx), q_get_flip]
      rw [q_add_rS (by rw [List.length_take, List.length_singleton]; omega), q_add_ii, q_intO, q_sl_s, rS_len, cutS_drop (by omega) (by omega), e2]
      refine ⟨by omega, ?_⟩
      rw [q_add_rS (by simp only [List.length_append, List.length_take, List.length_drop, List.length_singleton]; omega)]
      have hsplit : R = R.take (i + 1) ++ R[i + 1] :: R[i + 1] :: R.drop (i + 3) := by
        have b2 : R[i + 2]? = some R[i + 2] := List.getElem?_eq_getElem (by omega)
        have e : R[i + 1] = R[i + 2] := by rw [hx, b2] at i2; exact Option.some.inj i2
        conv => lhs; rw [← List.take_append_drop (i + 1) R]
        rw [List.drop_eq_getElem_cons (by omega), List.drop_eq_getElem_cons (by omega)]
        congr 3
        exact e.symm
      have sbd : ∀ W : List Bool, sb W 1 W.length = W.drop 1 := fun W => by
        show (W.drop 1).take _ = _
        rw [List.take_of_length_le]
        rw [List.length_drop]; omega
      have l1 : (R.take (i + 1)).length = i + 1 := by rw [List.length_take]; omega
      have d1 : R.drop 1 = (R.take (i + 1)).drop 1 ++ R[i + 1] :: R[i + 1] :: R.drop (i + 3) := by
        conv => lhs; rw [hsplit]
        rw [List.drop_append_of_le_length (by omega)]
      have d2 : (R.take (i + 1) ++ [!R[i + 1]] ++ R.drop (i + 3)).drop 1 = (R.take (i + 1)).drop 1 ++ (!R[i + 1]) :: R.drop (i + 3) := by
        rw [List.append_assoc, List.drop_append_of_le_length (by omega)]; rfl
      have hl2 : (R.take (i + 1) ++ [!R[i + 1]] ++ R.drop (i + 3)).length = R.length - 1 := by
        simp only [List.length_append, List.length_take, List.length_drop, List.length_singleton]; omega
      have hd : (R.take (i + 1) ++ [!R[i + 1]] ++ R.drop (i + 3)).headD false = true := by
        cases R with
        | nil => cases h0
        | cons b T => exact h0
      have f1 := fun Q => i_folds (K := Q) (E := fun _ => False) (R := R.take (i + 1) ++ [!R[i + 1]] ++ R.drop (i + 3)) (by omega) (by omega) hd
      have f2 := fun Q => i_folds (K := Q) (E := fun _ => False) (R := R) (by omega) (by omega) h0
      rw [sbd] at f1 f2
      refine f1 _ ?_
      have nn : 0 ≤ cW ((R.take (i + 1) ++ [!R[i + 1]] ++ R.drop (i + 3)).drop 1) false := cW_nn _ _ _ (Nat.le_refl _) (by rw [List.length_drop]; omega)
      have le : cW ((R.take (i + 1) ++ [!R[i + 1]] ++ R.drop (i + 3)).drop 1) false ≤ cW (R.drop 1) false := by
        rw [d1, d2]
        exact cW_fold _ _ _ _ _ (Nat.le_refl _)
      unfold TL.andM
      dsimp only
      rw [q_le, decide_eq_true nn]
      refine ⟨fun _ => ?_, fun z => (by cases z)⟩
      refine f2 _ ?_
      rw [q_le, decide_eq_true le]
end Tx

namespace Tx
open PySem PySem.Spec PyProof.Rows L2
set_option maxRecDepth 100000
def topS (i : Nat) : Stmt := PySem.Challenge.pw_pinchfold_k22_whole_folds_of_all_rows.main.body.getD i (.Pass ⟨0, 0, 0, 0⟩)
abbrev s_need_row : Stmt := topS 6
abbrev s_other_hand : Stmt := topS 7
abbrev s_counted : Stmt := topS 8
abbrev s_folds : Stmt := topS 9
abbrev s__law_bag : Stmt := topS 11
abbrev s__law_letters_row : Stmt := topS 12
abbrev s__law_pull : Stmt := topS 13
abbrev s__law_ways : Stmt := topS 14
abbrev s_law : Stmt := topS 15
theorem sc_need_row : FnScope ["row", "sign"] ["row"] (defScope s_need_row) := ⟨rfl, rfl, rfl, by decide +kernel, rfl, by decide +kernel, by decide +kernel⟩
theorem sc_other_hand : FnScope ["hand"] ["hand"] (defScope s_other_hand) := ⟨rfl, rfl, rfl, by decide +kernel, rfl, by decide +kernel, by decide +kernel⟩
theorem sc_counted : FnScope ["row", "many", "found", "at", "wide", "hand", "ways", "middle"] ["row"] (defScope s_counted) := ⟨rfl, rfl, rfl, by decide +kernel, rfl, by decide +kernel, by decide +kernel⟩
theorem sc_folds : FnScope ["row"] ["row"] (defScope s_folds) := ⟨rfl, rfl, rfl, by decide +kernel, rfl, by decide +kernel, by decide +kernel⟩
theorem sc__law_bag : FnScope ["_law_script", "_law_cells", "_law_one", "_law_salt"] ["_law_script"] (defScope s__law_bag) := ⟨rfl, rfl, rfl, by decide +kernel, rfl, by decide +kernel, by decide +kernel⟩
theorem sc__law_letters_row : FnScope ["_law_bag_here", "_law_most", "_law_many", "_law_way", "_law_row", "_law_at"] ["_law_bag_here", "_law_most"] (defScope s__law_letters_row) := ⟨rfl, rfl, rfl, by decide +kernel, rfl, by decide +kernel, by decide +kernel⟩
theorem sc__law_pull : FnScope ["_law_bag_here", "_law_many", "_law_seed", "_law_blend", "_law_drawn"] ["_law_bag_here", "_law_many"] (defScope s__law_pull) := ⟨rfl, rfl, rfl, by decide +kernel, rfl, by decide +kernel, by decide +kernel⟩
theorem sc__law_ways : FnScope ["_law_most", "_law_row", "_law_many"] ["_law_most"] (defScope s__law_ways) := ⟨rfl, rfl, rfl, by decide +kernel, rfl, by decide +kernel, by decide +kernel⟩
theorem sc_law : FnScope ["_law_script", "_law_bag_here", "_law_many", "_law_whole", "_law_number", "_law_letters", "_law_left", "_law_at", "_law_row", "_law_spots", "_law_less"] ["_law_script"] (defScope s_law) := ⟨rfl, rfl, rfl, by decide +kernel, rfl, by decide +kernel, by decide +kernel⟩
end Tx

namespace Tx
open PySem PySem.Spec PyProof.Rows L2 TL
section
variable {P : Program} {w : World} {K : PySem.W.Frag} {mg : Str → Option Value} {base : Heap} {f : Addr} {fd : FuncData} {k : Nat}
abbrev FnP (K : PySem.W.Frag) (x : Str) (st : Stmt) (f : Addr) (fd : FuncData) : Prop := FunD K x x (defArgs st) (defBody st) (defScope st) [] [] f fd
theorem ok_o__law_bag (F : FnP K "_law_bag" s__law_bag f fd) (hm : mg "_law_bag" = some (.ref f)) (hb : Binds K fd ["_law_script"] []) (m_len : mg "len" = none) (m_abs : mg "abs" = none) (m_int : mg "int" = none) :
    Has P w K mg base (k + 1) "_law_bag" ["_law_script"] o__law_bag := by
  refine fn_has F hm sc__law_bag hb rfl ?_
  rintro cdv A outer s H E g args Φ Ψ hr hp hM hl ⟨ns, rfl, hn, hΦ⟩
  have hcut : cut (ns.map PyData.int) none (some 63) = ns.map .int := cut_le _ _ (by decide) (by simp; omega)
  refine ws_cons (w1_setLc 1 (own := [("_law_one", 2)]) rfl sc__law_bag.nd (pi_list (peI _)) (blkOk_by (by rfl)) (fun _ _ _ _ _ => (pg_name (i := 2) sc__law_bag.nd rfl (by first | exact Or.inl rfl | exact Or.inr rfl))) (by decide) (nt_lcL (tgd_name 2) rfl ?_))
  refine we_of_wn ?_
  refine wn_sliceL ?_
  refine we_n 0 ?_
  refine ⟨_, rfl, ?_⟩
  refine wp_none ?_
  refine wp_e ?_
  refine we_int ?_
  refine ⟨_, rfl, ?_⟩
  refine ⟨rfl, _, fun i acc => acc = (ns.take i).map fun c => .int (absI c), rfl, rfl, fun i x hx => ⟨_, rfl, rfl, ?_⟩, fun acc ha => ?_⟩
  · intro acc ha g1 s1 H1 C1 cl1 fp1
    rw [hcut] at hx
    obtain ⟨n, rfl, hn2⟩ := ints_get hx
    refine ⟨fun _ s1 H1 C1 cl1 fp1 => ?_, fun z => by cases z⟩
    refine we_abs m_abs ?_
    refine we_n 2 ?_
    refine ⟨_, rfl, ?_⟩
    refine ⟨rfl, ?_⟩
    subst ha
    exact tk_succ (fun c => .int (absI c)) hn2
  · subst ha
    rw [hcut, List.length_map, List.take_length]
    have em : (ns.map fun c => PyData.int (absI c)) = (ns.map absI).map .int := by simp
    rw [em]
    refine ws_cons (w1_set 3 sc__law_bag.nd ?_)
    refine we_add ?_
    refine we_int ?_
    refine we_len m_len ?_
    refine we_n 1 ?_
    refine .lst ?_
    refine .int ?_
    refine ⟨rfl, ?_⟩
    refine ws_cons (w1_forL hp rfl (pg_name (i := 2) sc__law_bag.nd rfl (by first | exact Or.inl rfl | exact Or.inr rfl)) (tgd_name 2) ?_)
    refine we_of_wn ?_
    refine wn_sliceL ?_
    refine we_n 0 ?_
    refine ⟨_, rfl, ?_⟩
    refine wp_none ?_
    refine wp_e ?_
    refine we_int ?_
    refine ⟨_, rfl, ?_⟩
    refine ⟨rfl, _, fun i e => ∃ (x : Sl) (t : Int), 0 ≤ t ∧ t < 2147483629 ∧ e = [.d (.list (ns.map .int)), .d (.list ((ns.map absI).map .int)), x, .d (.int t)], rfl, ⟨.un, _, ?_, ?_, rfl⟩, ?_, ?_⟩
    · omega
    · simp; omega
    · rintro i x hx _ ⟨x2, t, t0, t1, rfl⟩
      rw [hcut] at hx
      obtain ⟨n, rfl, hn2⟩ := ints_get hx
      refine ⟨_, rfl, rfl, ?_⟩
      refine ws_cons (w1_set 3 sc__law_bag.nd ?_)
      refine we_mod ?_
      refine we_add ?_
      refine we_add ?_
      refine we_mul ?_
      refine we_n 3 ?_
      refine we_int ?_
      refine ⟨?_, by unfold L2.CMul; omega⟩
      refine we_abs m_abs ?_
      refine we_n 2 ?_
      refine ⟨_, rfl, ?_⟩
      refine .int ?_
      refine we_mul ?_
      refine we_int ?_
      refine we_intof m_int ?_
      refine we_cp (op_ltA hr) ?_
      refine we_n 2 ?_
      refine we_int ?_
      refine ⟨_, cp_lt, ?_⟩
      refine .bool ?_
      refine ⟨?_, by unfold L2.CMul; omega⟩
      refine .int ?_
      refine we_int ?_
      refine ⟨?_, by decide⟩
      refine ⟨rfl, ?_⟩
      refine ws_nil ?_
      exact ⟨_, _, Int.emod_nonneg _ (by decide), Int.emod_lt_of_pos _ (by decide), rfl⟩
    · rintro _ ⟨x2, t, t0, t1, rfl⟩
      refine ws_cons (w1_retN ?_)
      refine wn_list ?_
      refine wa_d ?_
      refine we_n 1 ?_
      refine ⟨rfl, ?_⟩
      refine wa_d ?_
      refine we_int ?_
      refine ⟨rfl, ?_⟩
      refine wa_d ?_
      refine we_int ?_
      refine ⟨rfl, ?_⟩
      refine wa_d ?_
      refine we_n 3 ?_
      refine ⟨rfl, ?_⟩
      refine wa_nil ?_
      refine ⟨_, rfl, szOk rfl, ?_⟩
      refine ⟨_, hΦ _ ⟨ns.map absI, 0, 0, t, rfl, fun c hc => ?_, by decide, by decide, t0, t1⟩, trivial, rfl, rfl⟩
      obtain ⟨z, _, rfl⟩ := List.mem_map.mp hc
      exact absI_nn z

theorem ok_o__law_pull (F : FnP K "_law_pull" s__law_pull f fd) (hm : mg "_law_pull" = some (.ref f)) (hb : Binds K fd ["_law_bag_here", "_law_many"] []) (m_len : mg "len" = none) :
    Has P w K mg base (k + 1) "_law_pull" ["_law_bag_here", "_law_many"] o__law_pull := by
  refine fn_has F hm sc__law_pull hb rfl ?_
  rintro cdv A outer s H E g args Φ Ψ hr hp hM hl ⟨b, many, rfl, m0, m1, hΦ⟩
  have hd : ∀ i, CDivW i many := fun i => wide_div m0 m1 (by decide) (by decide)
  refine ws_open 0 rfl fun cells i z t hc i0 z0 t0 t1 => ?_
  have bag : ∀ z' : Int, 0 ≤ z' → BagD [.list (cells.map .int), .int (i + 1), .int z', .int t] := fun z' h => ⟨cells, i + 1, z', t, rfl, hc, by omega, h, t0, t1⟩
  refine ws_cons (w1_if ?_)
  refine wt_cp (op_ltA hr) ?_
  refine we_ix ?_
  refine we_nl 0 ?_
  refine we_int ?_
  refine ix_lst (by decide) rfl ?_
  refine we_int ?_
  refine ⟨_, cp_lt, ?_⟩
  refine ⟨fun b1 => ?_, fun b1 => ?_⟩
  · -- then
    refine ws_cons (w1_augix 0 rfl ?_)
    refine we_int ?_
    refine ⟨1, 1, _, rfl, rfl, rfl, ?_⟩
    refine we_int ?_
    refine ⟨_, rfl, ?_⟩
    refine ws_cons (w1_set 2 sc__law_pull.nd ?_)
    refine we_ix ?_
    refine we_nl 0 ?_
    refine we_int ?_
    refine ix_lst (by decide) rfl ?_
    refine ⟨rfl, ?_⟩
    refine ws_mid (fun e => ∃ y : Int, 0 ≤ y ∧ e = [.ol b [.list (cells.map .int), .int (i + 1), .int z, .int t], .d (.int many), .d (.int y), .un, .un]) (w1_if ?_) ?_
    · refine wt_cp op_le ?_
      refine we_ix ?_
      refine we_nl 0 ?_
      refine we_int ?_
      refine ix_lst (by decide) rfl ?_
      refine we_len m_len ?_
      refine we_ix ?_
      refine we_nl 0 ?_
      refine we_int ?_
      refine ix_lst (by decide) rfl ?_
      refine .lst ?_
      refine ⟨_, cp_le, ?_⟩
      refine ⟨fun b2 => ?_, fun b2 => ?_⟩
      · -- then
        have b2 := of_decide_eq_true b2
        rw [List.length_map] at b2
        refine ws_cons (w1_set 2 sc__law_pull.nd ?_)
        refine we_ix ?_
        refine we_ix ?_
        refine we_nl 0 ?_
        refine we_int ?_
        refine ix_lst (by decide) rfl ?_
        refine we_sub ?_
        refine we_ix ?_
        refine we_nl 0 ?_
        refine we_int ?_
        refine ix_lst (by decide) rfl ?_
        refine we_int ?_
        refine ⟨?_, trivial⟩
        refine ix_ints (by omega) (by omega) fun n hn => ?_
        have n0 := hc n hn
        refine ⟨rfl, ?_⟩
        refine ws_cons (w1_if ?_)
        refine wt_cp op_ge ?_
        refine we_n 2 ?_
        refine we_pow ?_
        refine we_int ?_
        refine we_int ?_
        refine ⟨?_, by unfold L2.CPow; decide⟩
        refine ⟨_, cp_ge, ?_⟩
        refine ⟨fun b3 => ?_, fun b3 => ?_⟩
        · -- then
          refine ws_cons (w1_setix 0 rfl ?_)
          refine we_div ?_
          refine we_n 2 ?_
          refine we_n 1 ?_
          refine ⟨?_, hd _⟩
          refine ⟨rfl, ?_⟩
          refine we_int ?_
          refine ⟨2, 2, rfl, rfl, ?_⟩
          refine ws_cons (w1_ret ?_)
          refine we_mod ?_
          refine we_n 2 ?_
          refine we_n 1 ?_
          refine ⟨?_, m0⟩
          refine ⟨rfl, ?_⟩
          exact ⟨_, hΦ _ (Int.emod_nonneg _ (by omega)) (Int.emod_lt_of_pos _ m0), trivial, ⟨rfl, bag _ (Int.ediv_nonneg n0 (by omega)), rfl⟩, rfl, rfl⟩
        · -- else
          refine ws_nil (ws_nil ?_)
          exact ⟨n, n0, rfl⟩
      · -- else
        refine ws_nil ?_
        exact ⟨i + 1, by omega, rfl⟩
    rintro _ ⟨y, y0, rfl⟩
    refine ws_cons (w1_set 3 sc__law_pull.nd ?_)
    refine we_mod ?_
    refine we_add ?_
    refine we_add ?_
    refine we_n 2 ?_
    refine we_mul ?_
    refine we_ix ?_
    refine we_nl 0 ?_
    refine we_int ?_
    refine ix_lst (by decide) rfl ?_
    refine we_int ?_
    refine ⟨?_, by unfold L2.CMul; omega⟩
    refine .int ?_
    refine we_mul ?_
    refine we_ix ?_
    refine we_nl 0 ?_
    refine we_int ?_
    refine ix_lst (by decide) rfl ?_
    refine we_int ?_
    refine ⟨?_, by unfold L2.CMul; omega⟩
    refine .int ?_
    refine we_int ?_
    refine ⟨?_, by decide⟩
    refine ⟨rfl, ?_⟩
    generalize (y + t * 31 + (i + 1) * 69061) = y1
    refine ws_cons (w1_set 3 sc__law_pull.nd ?_)
    refine we_mod ?_
    refine we_add ?_
    refine we_mul ?_
    refine we_n 3 ?_
    refine we_n 3 ?_
    have y2 := Int.emod_nonneg y1 (b := 2147483629) (by decide)
    have y3 := Int.emod_lt_of_pos y1 (b := 2147483629) (by decide)
    refine ⟨?_, by unfold L2.CMul; omega⟩
    refine we_int ?_
    refine .int ?_
    refine we_int ?_
    refine ⟨?_, by decide⟩
    refine ⟨rfl, ?_⟩
    generalize (y1 % 2147483629 * (y1 % 2147483629) + 40961) = y4
    refine ws_cons (w1_ret ?_)
    refine we_mod ?_
    refine we_div ?_
    refine we_mod ?_
    refine we_add ?_
    refine we_mul ?_
    refine we_n 3 ?_
    refine we_n 3 ?_
    have y5 := Int.emod_nonneg y4 (b := 2147483587) (by decide)
    have y6 := Int.emod_lt_of_pos y4 (b := 2147483587) (by decide)
    refine ⟨?_, by unfold L2.CMul; omega⟩
    refine we_ix ?_
    refine we_nl 0 ?_
    refine we_int ?_
    refine ix_lst (by decide) rfl ?_
    refine .int ?_
    refine we_int ?_
    refine ⟨?_, by decide⟩
    refine we_int ?_
    refine ⟨?_, cdiv_small _ (by decide) (by decide)⟩
    refine we_n 1 ?_
    refine ⟨?_, m0⟩
    refine ⟨rfl, ?_⟩
    exact ⟨_, hΦ _ (Int.emod_nonneg _ (by omega)) (Int.emod_lt_of_pos _ m0), trivial, ⟨rfl, bag z z0, rfl⟩, rfl, rfl⟩
  · -- else
    refine ws_nil ?_
    refine ws_cons (w1_set 4 sc__law_pull.nd ?_)
    refine we_mod ?_
    refine we_ix ?_
    refine we_nl 0 ?_
    refine we_int ?_
    refine ix_lst (by decide) rfl ?_
    refine we_n 1 ?_
    refine ⟨?_, m0⟩
    refine ⟨rfl, ?_⟩
    refine ws_cons (w1_setix 0 rfl ?_)
    refine we_div ?_
    refine we_ix ?_
    refine we_nl 0 ?_
    refine we_int ?_
    refine ix_lst (by decide) rfl ?_
    refine we_n 1 ?_
    refine ⟨?_, hd _⟩
    refine ⟨rfl, ?_⟩
    refine we_int ?_
    refine ⟨2, 2, rfl, rfl, ?_⟩
    refine ws_cons (w1_ret ?_)
    refine we_n 4 ?_
    refine ⟨rfl, ?_⟩
    exact ⟨_, hΦ _ (Int.emod_nonneg _ (by omega)) (Int.emod_lt_of_pos _ m0), trivial, ⟨rfl, ⟨cells, i, z / many, t, rfl, hc, i0, Int.ediv_nonneg z0 (by omega), t0, t1⟩, rfl⟩, rfl, rfl⟩
theorem ok__law_pull (h : Has P w K mg base k "_law_pull" ["_law_bag_here", "_law_many"] o__law_pull) : Has P w K mg base k "_law_pull" ["_law_bag_here", "_law_many"] c__law_pull := h.imp fun args Φ Ψ ⟨b, m, Kf, Ef, e, hf, h1, h2⟩ => by
  subst e
  cases m with
  | int m => exact ⟨b, m, rfl, hf.1.1, hf.1.2, fun r r0 r1 => h1 _ (hf.2 r r0 r1)⟩
  | _ => exact (show False from hf).elim

theorem ok__law_letters_row (F : FnP K "_law_letters_row" s__law_letters_row f fd) (hm : mg "_law_letters_row" = some (.ref f)) (hb : Binds K fd ["_law_bag_here", "_law_most"] []) (h__law_pull : Has P w K mg base k "_law_pull" ["_law_bag_here", "_law_many"] c__law_pull) (m_range : mg "range" = none) (m_len : mg "len" = none) :
    Has P w K mg base (k + 1) "_law_letters_row" ["_law_bag_here", "_law_most"] c__law_letters_row := by
  refine fn_has F hm sc__law_letters_row hb rfl ?_
  rintro cdv A outer s H E g args Φ Ψ hr hp hM hl ⟨a_l_bag_here, l_most, Kf, Ef, rfl, h, hK, hE⟩
  unfold f__law_letters_row at h
  refine ws_env (env' := [.bg a_l_bag_here, .d l_most, .un, .un, .un, .un]) rfl ?_
  refine ws_cons (w1_set 2 sc__law_letters_row.nd ?_)
  refine we_add ?_
  refine we_int ?_
  refine we_call h__law_pull hr ?_
  refine wa_s 0 ?_
  refine wa_d ?_
  refine we_sub ?_
  refine we_n 1 ?_
  refine we_int ?_
  refine sub_sh h fun r1 h => ?_
  refine ⟨rfl, ?_⟩
  refine wa_nil ?_
  refine ⟨rfl, _, _, _, _, rfl, h, fun r2 h => ⟨rfl, _, rfl, ?_⟩, fun c hc => ⟨rfl, ⟨_, hE _ hc, ⟨rfl, rfl⟩, rfl, rfl⟩⟩⟩
  refine add_sh h fun r3 h => ?_
  refine ⟨rfl, ?_⟩
  refine ws_env (env' := [.bg a_l_bag_here, .d l_most, .d r3, .un, .un, .un]) rfl ?_
  refine ws_cons (w1_set 3 sc__law_letters_row.nd ?_)
  refine we_call h__law_pull hr ?_
  refine wa_s 0 ?_
  refine wa_d ?_
  refine we_int ?_
  refine ⟨rfl, ?_⟩
  refine wa_nil ?_
  refine ⟨rfl, _, _, _, _, rfl, h, fun r4 h => ⟨rfl, _, rfl, ?_⟩, fun c hc => ⟨rfl, ⟨_, hE _ hc, ⟨rfl, rfl⟩, rfl, rfl⟩⟩⟩
  refine ⟨rfl, ?_⟩
  refine ws_env (env' := [.bg a_l_bag_here, .d l_most, .d r3, .d r4, .un, .un]) rfl ?_
  refine ws_cons (w1_set 4 sc__law_letters_row.nd ?_)
  refine we_str ?_
  refine ⟨rfl, ?_⟩
  refine ws_env (env' := [.bg a_l_bag_here, .d l_most, .d r3, .d r4, .d (.str "r"), .un]) rfl ?_
  refine ws_cons (w1_for hp rfl (pg_name (i := 5) sc__law_letters_row.nd rfl (by first | exact Or.inl rfl | exact Or.inr rfl)) (tgd_name 5) ?_)
  refine wi_r2 m_range ?_
  refine we_int ?_
  refine we_n 2 ?_
  refine rng_sh h fun xs5 h => ?_
  refine forS h (fun (s : PyData) (u : Sl) => [.bg a_l_bag_here, .d l_most, .d r3, .d r4, .d s, u]) (.un) rfl ?_ ?_
  · rintro l_row6 w7 h
    refine ws_env (env' := [.bg a_l_bag_here, .d l_most, .d r3, .d r4, .d l_row6, w7]) rfl ?_
    refine ws_joinS h (fun (s : PyData) (u : Unit) => [.bg a_l_bag_here, .d l_most, .d r3, .d r4, .d s, w7]) (fun Q h => ?_) ?_
    · refine w1_if ?_
      refine wt_ww ?_
      refine ww_andS h (fun Q h => ?_) (fun Q h => ?_) fun b8 h => ?_
      · refine wt_cp (op_eqA hr) ?_
        refine we_n 3 ?_
        refine we_int ?_
        refine eq_sh h fun b9 h => ?_
        exact h
      · refine ww_andS h (fun Q h => ?_) (fun Q h => ?_) fun b10 h => ?_
        · refine wt_cp (op_eqA hr) ?_
          refine we_mod ?_
          refine we_sub ?_
          refine we_count ?_
          refine we_n 4 ?_
          obtain ⟨s11, he12, h⟩ := strO_ob h
          refine ⟨_, he12, ?_⟩
          refine we_str ?_
          refine count_m h fun r13 h => ?_
          refine we_count ?_
          refine we_n 4 ?_
          obtain ⟨s14, he15, h⟩ := strO_ob h
          refine ⟨_, he15, ?_⟩
          refine we_str ?_
          refine count_m h fun r16 h => ?_
          refine sub_sh h fun r17 h => ?_
          refine we_int ?_
          refine mod_sh h fun r18 h => ?_
          refine we_int ?_
          refine eq_sh h fun b19 h => ?_
          exact h
        · refine ww_and1 ?_
          refine wt_cp op_gt ?_
          refine we_len m_len ?_
          refine we_n 4 ?_
          refine len_sh h fun r20 h => ?_
          refine we_int ?_
          refine gt_sh h fun b21 h => ?_
          exact h
        exact h
      obtain ⟨h22, h23⟩ := h
      refine ⟨fun e24 => ?_, fun e24 => ?_⟩
      · replace h := h22 e24
        refine ws_cons (w1_set 4 sc__law_letters_row.nd ?_)
        refine we_slA ?_
        refine we_n 4 ?_
        refine ⟨rfl, ?_⟩
        refine wp_none ?_
        refine wp_e ?_
        refine we_neg ?_
        refine we_int ?_
        refine ⟨_, rfl, ?_⟩
        refine ⟨_, rfl, ?_⟩
        refine sl_sh h fun r25 h => ?_
        refine ⟨rfl, ?_⟩
        refine ws_env (env' := [.bg a_l_bag_here, .d l_most, .d r3, .d r4, .d r25, w7]) rfl ?_
        exact ws_nil ⟨r25, (), h, rfl⟩
      · replace h := h23 e24
        exact ws_nil ⟨l_row6, (), h, rfl⟩
    · rintro l_row26 _ h
      refine ws_env (env' := [.bg a_l_bag_here, .d l_most, .d r3, .d r4, .d l_row26, w7]) rfl ?_
      refine ws_cons (w1_ret ?_)
      refine we_n 4 ?_
      exact ⟨rfl, _, hK _ h, trivial, ⟨rfl, rfl⟩, rfl, rfl⟩
  · rintro hend l_at27 l_row30 w31 N28 h
    refine ⟨[(5, l_at27)], rfl, rfl, ?_⟩
    refine ws_env (env' := [.bg a_l_bag_here, .d l_most, .d r3, .d r4, .d l_row30, .d l_at27]) rfl ?_
    refine ws_joinS h (fun (s : PyData) (u : Unit) => [.bg a_l_bag_here, .d l_most, .d r3, .d r4, .d s, .d l_at27]) (fun Q h => ?_) ?_
    · refine w1_if ?_
      refine wt_cp (op_eqA hr) ?_
      refine we_n 3 ?_
      refine we_int ?_
      refine eq_sh h fun b32 h => ?_
      obtain ⟨h33, h34⟩ := h
      refine ⟨fun e35 => ?_, fun e35 => ?_⟩
      · replace h := h33 e35
        refine ws_cons (w1_set 4 sc__law_letters_row.nd ?_)
        refine we_add ?_
        refine we_n 4 ?_
        refine we_ix ?_
        refine we_str ?_
        refine we_mod ?_
        refine we_n 5 ?_
        refine we_int ?_
        refine mod_sh h fun r36 h => ?_
        refine ix_sh h fun r37 h => ?_
        refine add_sh h fun r38 h => ?_
        refine ⟨rfl, ?_⟩
        refine ws_env (env' := [.bg a_l_bag_here, .d l_most, .d r3, .d r4, .d r38, .d l_at27]) rfl ?_
        exact ws_nil ⟨r38, (), h, rfl⟩
      · replace h := h34 e35
        refine ws_joinS h (fun (s : PyData) (u : Unit) => [.bg a_l_bag_here, .d l_most, .d r3, .d r4, .d s, .d l_at27]) (fun Q h => ?_) ?_
        · refine w1_if ?_
          refine wt_cp (op_eqA hr) ?_
          refine we_n 3 ?_
          refine we_int ?_
          refine eq_sh h fun b39 h => ?_
          obtain ⟨h40, h41⟩ := h
          refine ⟨fun e42 => ?_, fun e42 => ?_⟩
          · replace h := h40 e42
            refine ws_cons (w1_set 4 sc__law_letters_row.nd ?_)
            refine we_add ?_
            refine we_n 4 ?_
            refine we_str ?_
            refine add_sh h fun r43 h => ?_
            refine ⟨rfl, ?_⟩
            refine ws_env (env' := [.bg a_l_bag_here, .d l_most, .d r3, .d r4, .d r43, .d l_at27]) rfl ?_
            exact ws_nil ⟨r43, (), h, rfl⟩
          · replace h := h41 e42
            refine ws_cons (w1_set 4 sc__law_letters_row.nd ?_)
            refine we_add ?_
            refine we_n 4 ?_
            refine we_ix ?_
            refine we_str ?_
            refine we_call h__law_pull hr ?_
            refine wa_s 0 ?_
            refine wa_d ?_
            refine we_int ?_
            refine ⟨rfl, ?_⟩
            refine wa_nil ?_
            refine ⟨rfl, _, _, _, _, rfl, h, fun r44 h => ⟨rfl, _, rfl, ?_⟩, fun c hc => ⟨rfl, ⟨_, hE _ hc, ⟨rfl, rfl⟩, rfl, rfl⟩⟩⟩
            refine ix_sh h fun r45 h => ?_
            refine add_sh h fun r46 h => ?_
            refine ⟨rfl, ?_⟩
            refine ws_env (env' := [.bg a_l_bag_here, .d l_most, .d r3, .d r4, .d r46, .d l_at27]) rfl ?_
            exact ws_nil ⟨r46, (), h, rfl⟩
        · rintro l_row47 _ h
          refine ws_env (env' := [.bg a_l_bag_here, .d l_most, .d r3, .d r4, .d l_row47, .d l_at27]) rfl ?_
          exact ws_nil ⟨l_row47, (), h, rfl⟩
    · rintro l_row48 _ h
      refine ws_env (env' := [.bg a_l_bag_here, .d l_most, .d r3, .d r4, .d l_row48, .d l_at27]) rfl ?_
      exact ws_nil ⟨l_row48, (.d l_at27), h, rfl⟩
theorem ok_need_row (F : FnP K "need_row" s_need_row f fd) (hm : mg "need_row" = some (.ref f)) (hb : Binds K fd ["row"] []) (g_LEAST : ∃ t, mg "LEAST" = some (.int 3 t)) (m_len : mg "len" = none) (g_MOST : ∃ t, mg "MOST" = some (.int 40 t)) (m_all : mg "all" = none) (x_BadRow : ExK K mg "BadRow") :
    Has P w K mg base (k + 1) "need_row" ["row"] c_need_row := by
  refine fn_has F hm sc_need_row hb rfl ?_
  rintro cdv A outer s H E g args Φ Ψ hr hp hM hl ⟨row, Kf, Ef, rfl, h, hK, hE⟩
  unfold f_need_row at h
  refine ws_env (env' := [.d row, .un]) rfl ?_
  refine ws_cons (w1_if ?_)
  refine wt_ww ?_
  refine ww_orS h (fun Q h => ?_) (fun Q h => ?_) fun b1 h => ?_
  · refine wt_not ?_
    refine wt_ch (op_leA hr) (op_leA hr) ?_
    refine we_gint g_LEAST ?_
    refine we_len m_len ?_
    refine we_n 0 ?_
    refine len_sh h fun r2 h => ?_
    refine ch_sh2 h (fun Q h => le_sh h fun _ h => h) (fun Q h => ?_) fun b3 h => ?_
    · refine we_gint g_MOST ?_
      exact le_sh h fun _ h => h
    exact h
  · refine ww_orS h (fun Q h => ?_) (fun Q h => ?_) fun b5 h => ?_
    · refine wt_cp (op_neA hr) ?_
      refine we_ix ?_
      refine we_n 0 ?_
      refine we_int ?_
      refine ix_sh h fun r6 h => ?_
      refine we_str ?_
      refine ne_sh h fun b7 h => ?_
      exact h
    · refine ww_or1 ?_
      refine wt_not ?_
      refine wt_e ?_
      refine we_allA m_all rfl ?_
      refine we_of_wn ?_
      refine wn_lc (own := [("sign", 1)]) rfl sc_need_row.nd (blkOk_by (by rfl)) (fun _ _ _ _ _ => (pg_name (i := 1) sc_need_row.nd rfl (by first | exact Or.inl rfl | exact Or.inr rfl))) (tgd_name 1) (by decide) rfl ?_
      refine wi_d ?_
      refine we_n 0 ?_
      refine ⟨rfl, it_sh h fun xs8 h => ?_⟩
      refine lcS h (fun sign9 kp sk h => ?_) fun l10 h => ?_
      · refine ⟨[(1, sign9)], rfl, rfl, fun g' s1 H1 C1 cl1 fp1 => ?_⟩
        refine ⟨fun _ s1 H1 C1 cl1 fp1 => ?_, fun z => by cases z⟩
        refine we_cp (op_inA hr) ?_
        refine we_n 1 ?_
        refine we_str ?_
        refine in_sh h fun b11 h => ?_
        exact ⟨rfl, h⟩
      refine all_m h fun r12 h => ?_
      refine bool_sh h fun b13 h => ?_
      exact h
    exact h
  obtain ⟨h14, h15⟩ := h
  refine ⟨fun e16 => ?_, fun e16 => ?_⟩
  · replace h := h14 e16
    exact ws_cons (w1_raise rfl x_BadRow ⟨_, hE _ h, rfl, rfl⟩)
  · replace h := h15 e16
    refine ws_nil ?_
    exact ws_nil ⟨_, hK _ h, rfl, rfl⟩
theorem ok_other_hand (F : FnP K "other_hand" s_other_hand f fd) (hm : mg "other_hand" = some (.ref f)) (hb : Binds K fd ["hand"] [])  :
    Has P w K mg base (k + 1) "other_hand" ["hand"] c_other_hand := by
  refine fn_has F hm sc_other_hand hb rfl ?_
  rintro cdv A outer s H E g args Φ Ψ hr hp hM hl ⟨hand, Kf, Ef, rfl, h, hK, hE⟩
  unfold f_other_hand at h
  refine ws_env (env' := [.d hand]) rfl ?_
  refine ws_cons (w1_if ?_)
  refine wt_cp (op_eqA hr) ?_
  refine we_n 0 ?_
  refine we_str ?_
  refine eq_sh h fun b1 h => ?_
  obtain ⟨h2, h3⟩ := h
  refine ⟨fun e4 => ?_, fun e4 => ?_⟩
  · replace h := h2 e4
    refine ws_cons (w1_ret ?_)
    refine we_str ?_
    exact ⟨rfl, _, hK _ h, trivial, rfl, rfl⟩
  · replace h := h3 e4
    refine ws_nil ?_
    refine ws_cons (w1_ret ?_)
    refine we_str ?_
    exact ⟨rfl, _, hK _ h, trivial, rfl, rfl⟩
theorem ok_counted (F : FnP K "counted" s_counted f fd) (hm : mg "counted" = some (.ref f)) (hb : Binds K fd ["row"] []) (m_len : mg "len" = none) (m_range : mg "range" = none) (h_other_hand : Has P w K mg base k "other_hand" ["hand"] c_other_hand) (m_int : mg "int" = none) :
    Has P w K mg base (k + 1) "counted" ["row"] c_counted := by
  refine fn_has F hm sc_counted hb rfl ?_
  rintro cdv A outer s H E g args Φ Ψ hr hp hM hl ⟨row, Kf, Ef, rfl, h, hK, hE⟩
  unfold f_counted at h
  refine ws_env (env' := [.d row, .un, .un, .un, .un, .un, .un, .un]) rfl ?_
  refine ws_cons (w1_set 1 sc_counted.nd ?_)
  refine we_len m_len ?_
  refine we_n 0 ?_
  refine len_sh h fun r1 h => ?_
  refine ⟨rfl, ?_⟩
  refine ws_env (env' := [.d row, .d r1, .un, .un, .un, .un, .un, .un]) rfl ?_
  refine ws_cons (w1_newT 2 sc_counted.nd fun a2 n_a2 => ?_)
  refine ws_env (env' := [.d row, .d r1, .dt a2 [], .un, .un, .un, .un, .un]) rfl ?_
  refine ws_cons (w1_for hp rfl (pg_name (i := 3) sc_counted.nd rfl (by first | exact Or.inl rfl | exact Or.inr rfl)) (tgd_name 3) ?_)
  refine wi_r1 m_range ?_
  refine we_n 1 ?_
  refine rng_sh h fun xs3 h => ?_
  refine forS h (fun (s : (List (List Key × PyData))) (u : {a : Addr // a ∉ g.M} × Sl) => [.d row, .d r1, .dt u.1.1 s, u.2, .un, .un, .un, .un]) (⟨a2, n_a2⟩, (.un)) rfl ?_ ?_
  · rintro found4 ⟨⟨a5, n_a5⟩, w6⟩ h
    refine ws_env (env' := [.d row, .d r1, .dt a5 found4, w6, .un, .un, .un, .un]) rfl ?_
    refine ws_cons (w1_for hp rfl (pg_name (i := 4) sc_counted.nd rfl (by first | exact Or.inl rfl | exact Or.inr rfl)) (tgd_name 4) ?_)
    refine wi_r2 m_range ?_
    refine we_int ?_
    refine we_n 1 ?_
    refine rng_sh h fun xs7 h => ?_
    refine forS h (fun (s : (List (List Key × PyData))) (u : Sl × Sl × Sl × Sl × {a : Addr // a ∉ g.M} × Sl) => [.d row, .d r1, .dt u.2.2.2.2.1.1 s, u.1, u.2.2.2.2.2, u.2.1, u.2.2.1, u.2.2.2.1]) ((w6), (.un), (.un), (.un), ⟨a5, n_a5⟩, (.un)) rfl ?_ ?_
    · rintro found8 ⟨w9, w10, w11, w12, ⟨a13, n_a13⟩, w14⟩ h
      refine ws_env (env' := [.d row, .d r1, .dt a13 found8, w9, w14, w10, w11, w12]) rfl ?_
      exact ws_cons (w1_retT 2 rfl n_a13 ⟨_, hK _ h, trivial, rfl, rfl⟩)
    · rintro hend wide15 found18 ⟨w19, w20, w21, w22, ⟨a23, n_a23⟩, w24⟩ N16 h
      refine ⟨[(4, wide15)], rfl, rfl, ?_⟩
      refine ws_env (env' := [.d row, .d r1, .dt a23 found18, w19, .d wide15, w20, w21, w22]) rfl ?_
      refine ws_cons (w1_for hp rfl (pg_name (i := 3) sc_counted.nd rfl (by first | exact Or.inl rfl | exact Or.inr rfl)) (tgd_name 3) ?_)
      refine wi_r1 m_range ?_
      refine we_sub ?_
      refine we_n 1 ?_
      refine we_n 4 ?_
      refine sub_sh h fun r26 h => ?_
      refine rng_sh h fun xs25 h => ?_
      refine forS h (fun (s : (List (List Key × PyData))) (u : Sl × Sl × Sl × {a : Addr // a ∉ g.M} × Sl) => [.d row, .d r1, .dt u.2.2.2.1.1 s, u.2.2.2.2, .d wide15, u.1, u.2.1, u.2.2.1]) ((w20), (w21), (w22), ⟨a23, n_a23⟩, (w19)) rfl ?_ ?_
      · rintro found27 ⟨w28, w29, w30, ⟨a31, n_a31⟩, w32⟩ h
        refine ws_env (env' := [.d row, .d r1, .dt a31 found27, w32, .d wide15, w28, w29, w30]) rfl ?_
        exact ws_nil ⟨found27, ((w32), (w28), (w29), (w30), ⟨a31, n_a31⟩, (.d wide15)), h, rfl⟩
      · rintro hend at_33 found36 ⟨w37, w38, w39, ⟨a40, n_a40⟩, w41⟩ N34 h
        refine ⟨[(3, at_33)], rfl, rfl, ?_⟩
        refine ws_env (env' := [.d row, .d r1, .dt a40 found36, .d at_33, .d wide15, w37, w38, w39]) rfl ?_
        refine ws_cons (w1_for hp rfl (pg_name (i := 5) sc_counted.nd rfl (by first | exact Or.inl rfl | exact Or.inr rfl)) (tgd_name 5) ?_)
        refine wi_d ?_
        refine we_tuple ?_
        refine wa_d ?_
        refine we_str ?_
        refine ⟨rfl, ?_⟩
        refine wa_d ?_
        refine we_str ?_
        refine ⟨rfl, ?_⟩
        refine wa_nil ?_
        refine ⟨_, rfl, szOk rfl, ?_⟩
        refine ⟨rfl, it_sh h fun xs42 h => ?_⟩
        refine forS h (fun (s : (List (List Key × PyData))) (u : Sl × Sl × {a : Addr // a ∉ g.M} × Sl) => [.d row, .d r1, .dt u.2.2.1.1 s, .d at_33, .d wide15, u.2.2.2, u.1, u.2.1]) ((w38), (w39), ⟨a40, n_a40⟩, (w37)) rfl ?_ ?_
        · rintro found43 ⟨w44, w45, ⟨a46, n_a46⟩, w47⟩ h
          refine ws_env (env' := [.d row, .d r1, .dt a46 found43, .d at_33, .d wide15, w47, w44, w45]) rfl ?_
          exact ws_nil ⟨found43, ((w47), (w44), (w45), ⟨a46, n_a46⟩, (.d at_33)), h, rfl⟩
        · rintro hend hand48 found51 ⟨w52, w53, ⟨a54, n_a54⟩, w55⟩ N49 h
          refine ⟨[(5, hand48)], rfl, rfl, ?_⟩
          refine ws_env (env' := [.d row, .d r1, .dt a54 found51, .d at_33, .d wide15, .d hand48, w52, w53]) rfl ?_
          refine ws_cons (w1_set 6 sc_counted.nd ?_)
          refine we_int ?_
          refine ⟨rfl, ?_⟩
          refine ws_env (env' := [.d row, .d r1, .dt a54 found51, .d at_33, .d wide15, .d hand48, .d (.int 0), w53]) rfl ?_
          refine ws_cons (w1_for hp rfl (pg_name (i := 7) sc_counted.nd rfl (by first | exact Or.inl rfl | exact Or.inr rfl)) (tgd_name 7) ?_)
          refine wi_r2 m_range ?_
          refine we_n 3 ?_
          refine we_add ?_
          refine we_n 3 ?_
          refine we_n 4 ?_
          refine add_sh h fun r57 h => ?_
          refine rng_sh h fun xs56 h => ?_
          refine forS h (fun (s : PyData) (u : Sl) => [.d row, .d r1, .dt a54 found51, .d at_33, .d wide15, .d hand48, .d s, u]) (w53) rfl ?_ ?_
          · rintro ways58 w59 h
            refine ws_env (env' := [.d row, .d r1, .dt a54 found51, .d at_33, .d wide15, .d hand48, .d ways58, w59]) rfl ?_
            refine ws_cons (w1_storeTB 2 hr ?_)
            refine we_n 6 ?_
            refine ⟨rfl, ?_⟩
            refine we_tuple ?_
            refine wa_d ?_
            refine we_n 3 ?_
            refine ⟨rfl, ?_⟩
            refine wa_d ?_
            refine we_add ?_
            refine we_n 3 ?_
            refine we_n 4 ?_
            refine add_sh h fun r60 h => ?_
            refine ⟨rfl, ?_⟩
            refine wa_d ?_
            refine we_call h_other_hand hr ?_
            refine wa_d ?_
            refine we_n 5 ?_
            refine ⟨rfl, ?_⟩
            refine wa_nil ?_
            refine ⟨rfl, _, _, _, rfl, h, fun r61 h => ⟨rfl, _, rfl, ?_⟩, fun c hc => ⟨rfl, ⟨_, hE _ hc, rfl, rfl⟩⟩⟩
            refine ⟨rfl, ?_⟩
            refine wa_nil ?_
            refine ⟨_, rfl, szOk rfl, ?_⟩
            refine ⟨rfl, putT_m h fun kv62 h => ?_⟩
            refine ws_env (env' := [.d row, .d r1, .dt a54 kv62, .d at_33, .d wide15, .d hand48, .d ways58, w59]) rfl ?_
            exact ws_nil ⟨kv62, ((.d ways58), (w59), ⟨a54, n_a54⟩, (.d hand48)), h, rfl⟩
          · rintro hend middle63 ways66 w67 N64 h
            refine ⟨[(7, middle63)], rfl, rfl, ?_⟩
            refine ws_env (env' := [.d row, .d r1, .dt a54 found51, .d at_33, .d wide15, .d hand48, .d ways66, .d middle63]) rfl ?_
            obtain ⟨u68, he70, h⟩ := into_ob h
            refine ws_env (env' := [.d row, .d r1, .dt a54 found51, .d at_33, .d wide15, .d hand48, .d ways66, .d middle63]) rfl ?_
            rw [he70]
            refine ws_cons (w1_add 6 sc_counted.nd rfl ?_)
            refine we_mulA ?_
            refine we_getT 2 hr rfl ?_
            refine we_tuple ?_
            refine wa_d ?_
            refine we_n 3 ?_
            refine ⟨rfl, ?_⟩
            refine wa_d ?_
            refine we_n 7 ?_
            refine ⟨rfl, ?_⟩
            refine wa_d ?_
            refine we_n 5 ?_
            refine ⟨rfl, ?_⟩
            refine wa_nil ?_
            refine ⟨_, rfl, szOk rfl, ?_⟩
            refine ⟨rfl, getT_s h fun r71 h => ?_⟩
            refine we_getT 2 hr rfl ?_
            refine we_tuple ?_
            refine wa_d ?_
            refine we_add ?_
            refine we_n 7 ?_
            refine we_int ?_
            refine add_sh h fun r72 h => ?_
            refine ⟨rfl, ?_⟩
            refine wa_d ?_
            refine we_add ?_
            refine we_n 3 ?_
            refine we_n 4 ?_
            refine add_sh h fun r73 h => ?_
            refine ⟨rfl, ?_⟩
            refine wa_d ?_
            refine we_n 5 ?_
            refine ⟨rfl, ?_⟩
            refine wa_nil ?_
            refine ⟨_, rfl, szOk rfl, ?_⟩
            refine ⟨rfl, getT_s h fun r74 h => ?_⟩
            refine mul_sh h fun r75 h => ?_
            refine into_sh h fun m69 h => ?_
            refine ws_env (env' := [.d row, .d r1, .dt a54 found51, .d at_33, .d wide15, .d hand48, .d (.int (u68 + m69)), .d middle63]) rfl ?_
            exact ws_nil ⟨(.int (u68 + m69)), (.d middle63), h, rfl⟩
  · rintro hend at_76 found79 ⟨⟨a80, n_a80⟩, w81⟩ N77 h
    refine ⟨[(3, at_76)], rfl, rfl, ?_⟩
    refine ws_env (env' := [.d row, .d r1, .dt a80 found79, .d at_76, .un, .un, .un, .un]) rfl ?_
    refine ws_cons (w1_storeTB 2 hr ?_)
    refine we_intof m_int ?_
    refine we_cp (op_eqA hr) ?_
    refine we_ix ?_
    refine we_n 0 ?_
    refine we_n 3 ?_
    refine ix_sh h fun r82 h => ?_
    refine we_str ?_
    refine eq_sh h fun b83 h => ?_
    refine int_sh h fun r84 h => ?_
    refine ⟨rfl, ?_⟩
    refine we_tuple ?_
    refine wa_d ?_
    refine we_n 3 ?_
    refine ⟨rfl, ?_⟩
    refine wa_d ?_
    refine we_n 3 ?_
    refine ⟨rfl, ?_⟩
    refine wa_d ?_
    refine we_str ?_
    refine ⟨rfl, ?_⟩
    refine wa_nil ?_
    refine ⟨_, rfl, szOk rfl, ?_⟩
    refine ⟨rfl, putT_m h fun kv85 h => ?_⟩
    refine ws_env (env' := [.d row, .d r1, .dt a80 kv85, .d at_76, .un, .un, .un, .un]) rfl ?_
    refine ws_cons (w1_storeTB 2 hr ?_)
    refine we_intof m_int ?_
    refine we_cp (op_eqA hr) ?_
    refine we_ix ?_
    refine we_n 0 ?_
    refine we_n 3 ?_
    refine ix_sh h fun r86 h => ?_
    refine we_str ?_
    refine eq_sh h fun b87 h => ?_
    refine int_sh h fun r88 h => ?_
    refine ⟨rfl, ?_⟩
    refine we_tuple ?_
    refine wa_d ?_
    refine we_n 3 ?_
    refine ⟨rfl, ?_⟩
    refine wa_d ?_
    refine we_n 3 ?_
    refine ⟨rfl, ?_⟩
    refine wa_d ?_
    refine we_str ?_
    refine ⟨rfl, ?_⟩
    refine wa_nil ?_
    refine ⟨_, rfl, szOk rfl, ?_⟩
    refine ⟨rfl, putT_m h fun kv89 h => ?_⟩
    refine ws_env (env' := [.d row, .d r1, .dt a80 kv89, .d at_76, .un, .un, .un, .un]) rfl ?_
    exact ws_nil ⟨kv89, (⟨a80, n_a80⟩, (.d at_76)), h, rfl⟩
theorem ok_folds (F : FnP K "folds" s_folds f fd) (hm : mg "folds" = some (.ref f)) (hb : Binds K fd ["row"] []) (h_need_row : Has P w K mg base k "need_row" ["row"] c_need_row) (h_counted : Has P w K mg base k "counted" ["row"] c_counted) (m_len : mg "len" = none) :
    Has P w K mg base (k + 1) "folds" ["row"] c_folds := by
  refine fn_has F hm sc_folds hb rfl ?_
  rintro cdv A outer s H E g args Φ Ψ hr hp hM hl ⟨row, Kf, Ef, rfl, h, hK, hE⟩
  unfold f_folds at h
  refine ws_env (env' := [.d row]) rfl ?_
  refine ws_cons (w1_expr ?_)
  refine we_call h_need_row hr ?_
  refine wa_d ?_
  refine we_n 0 ?_
  refine ⟨rfl, ?_⟩
  refine wa_nil ?_
  refine ⟨rfl, _, _, _, rfl, h, fun r1 h => ⟨rfl, _, rfl, ?_⟩, fun c hc => ⟨rfl, ⟨_, hE _ hc, rfl, rfl⟩⟩⟩
  refine ws_cons (w1_ret ?_)
  refine we_getD hr ?_
  refine we_dict ?_
  refine wd_call h_counted hr ?_
  refine wa_d ?_
  refine we_n 0 ?_
  refine ⟨rfl, ?_⟩
  refine wa_nil ?_
  refine ⟨rfl, _, _, _, rfl, h, fun r2 h => ⟨rfl, _, rfl, ?_⟩, fun c hc => ⟨rfl, ⟨_, hE _ hc, rfl, rfl⟩⟩⟩
  refine ⟨rfl, ?_⟩
  refine we_tuple ?_
  refine wa_d ?_
  refine we_int ?_
  refine ⟨rfl, ?_⟩
  refine wa_d ?_
  refine we_sub ?_
  refine we_len m_len ?_
  refine we_n 0 ?_
  refine len_sh h fun r3 h => ?_
  refine we_int ?_
  refine sub_sh h fun r4 h => ?_
  refine ⟨rfl, ?_⟩
  refine wa_d ?_
  refine we_str ?_
  refine ⟨rfl, ?_⟩
  refine wa_nil ?_
  refine ⟨_, rfl, szOk rfl, ?_⟩
  refine ⟨rfl, getD_s h fun r5 h => ?_⟩
  exact ⟨rfl, _, hK _ h, trivial, rfl, rfl⟩
theorem ok__law_ways (F : FnP K "_law_ways" s__law_ways f fd) (hm : mg "_law_ways" = some (.ref f)) (hb : Binds K fd ["_law_most"] []) (m_range : mg "range" = none) :
    Has P w K mg base (k + 1) "_law_ways" ["_law_most"] c__law_ways := by
  refine fn_has F hm sc__law_ways hb rfl ?_
  rintro cdv A outer s H E g args Φ Ψ hr hp hM hl ⟨l_most, Kf, Ef, rfl, h, hK, hE⟩
  unfold f__law_ways at h
  refine ws_env (env' := [.d l_most, .un, .un]) rfl ?_
  refine ws_cons (w1_setN 1 sc__law_ways.nd ?_)
  refine wn_list ?_
  refine wa_d ?_
  refine we_int ?_
  refine ⟨rfl, ?_⟩
  refine wa_nil ?_
  refine ⟨_, rfl, szOk rfl, ?_⟩
  intro a1 n_a1
  refine ws_env (env' := [.d l_most, .ol a1 [(.int 1)], .un]) rfl ?_
  refine ws_cons (w1_for hp rfl (pg_name (i := 2) sc__law_ways.nd rfl (by first | exact Or.inl rfl | exact Or.inr rfl)) (tgd_name 2) ?_)
  refine wi_r2 m_range ?_
  refine we_int ?_
  refine we_add ?_
  refine we_n 0 ?_
  refine we_int ?_
  refine add_sh h fun r3 h => ?_
  refine rng_sh h fun xs2 h => ?_
  refine forS h (fun (s : (List PyData)) (u : {a : Addr // a ∉ g.M} × Sl) => [.d l_most, .ol u.1.1 s, u.2]) (⟨a1, n_a1⟩, (.un)) rfl ?_ ?_
  · rintro l_row4 ⟨⟨a5, n_a5⟩, w6⟩ h
    refine ws_env (env' := [.d l_most, .ol a5 l_row4, w6]) rfl ?_
    exact ws_cons (w1_retO 1 rfl n_a5 ⟨_, hK _ h, trivial, rfl, rfl⟩)
  · rintro hend l_many7 l_row10 ⟨⟨a11, n_a11⟩, w12⟩ N8 h
    refine ⟨[(2, l_many7)], rfl, rfl, ?_⟩
    refine ws_env (env' := [.d l_most, .ol a11 l_row10, .d l_many7]) rfl ?_
    refine ws_cons (w1_append 1 rfl ?_)
    refine we_div ?_
    refine we_mulA ?_
    refine we_mulA ?_
    refine we_ix ?_
    refine we_nl 1 ?_
    refine we_neg ?_
    refine we_int ?_
    refine ⟨_, rfl, ?_⟩
    refine ix_sh h fun r13 h => ?_
    refine we_int ?_
    refine mul_sh h fun r14 h => ?_
    refine we_sub ?_
    refine we_mulA ?_
    refine we_int ?_
    refine we_n 2 ?_
    refine mul_sh h fun r15 h => ?_
    refine we_int ?_
    refine sub_sh h fun r16 h => ?_
    refine mul_sh h fun r17 h => ?_
    refine we_add ?_
    refine we_n 2 ?_
    refine we_int ?_
    refine add_sh h fun r18 h => ?_
    refine div_sh h fun r19 h => ?_
    obtain ⟨hl20, h⟩ := h
    refine ⟨rfl, hl20, ?_⟩
    refine ws_env (env' := [.d l_most, .ol a11 (l_row10 ++ ([r19] : List PyData)), .d l_many7]) rfl ?_
    exact ws_nil ⟨(l_row10 ++ ([r19] : List PyData)), (⟨a11, n_a11⟩, (.d l_many7)), h, rfl⟩
theorem ok_law (F : FnP K "law" s_law f fd) (ho__law_bag : Has P w K mg base k "_law_bag" ["_law_script"] o__law_bag) (h__law_pull : Has P w K mg base k "_law_pull" ["_law_bag_here", "_law_many"] c__law_pull) (m_range : mg "range" = none) (h__law_ways : Has P w K mg base k "_law_ways" ["_law_most"] c__law_ways) (h__law_letters_row : Has P w K mg base k "_law_letters_row" ["_law_bag_here", "_law_most"] c__law_letters_row) (m_len : mg "len" = none) (h_folds : Has P w K mg base k "folds" ["row"] c_folds) :
    FnOk P w K mg base (L2.CX P w) (k + 1) f fd ["_law_script"] (spOf K 1 cLaw) := by
  refine fn_ok (ps := ["_law_script"]) F sc_law rfl ?_
  rintro cdv A outer s H E g args Φ Ψ hr hp hM hl ⟨ns, rfl, hns, hΦ⟩
  have h := e_law_k22 ns hns
  unfold f_law_k22 at h
  have hK : ∀ r, r = PyData.bool true → Φ (.rd r) [.d (.list (ns.map .int))] := fun r e => e ▸ hΦ
  have hE : ∀ c, False → Ψ c [.d (.list (ns.map .int))] := fun c h => h.elim
  refine ws_env (env' := [.d (.list (ns.map .int)), .un, .un, .un, .un, .un, .un, .un, .un, .un, .un]) rfl ?_
  refine ws_cons (w1_setN 1 sc_law.nd ?_)
  refine wn_call ho__law_bag hr ?_
  refine wa_d ?_
  refine we_n 0 ?_
  refine ⟨rfl, ?_⟩
  refine wa_nil ?_
  refine ⟨rfl, ns, rfl, hns, fun ds hds => ⟨rfl, ds, rfl, ?_⟩⟩
  intro a_bag n_bag
  refine ws_close 1 rfl hds ?_
  refine ws_env (env' := [.d (.list (ns.map .int)), .bg a_bag, .un, .un, .un, .un, .un, .un, .un, .un, .un]) rfl ?_
  refine ws_cons (w1_set 2 sc_law.nd ?_)
  refine we_add ?_
  refine we_int ?_
  refine we_call h__law_pull hr ?_
  refine wa_s 1 ?_
  refine wa_d ?_
  refine we_int ?_
  refine ⟨rfl, ?_⟩
  refine wa_nil ?_
  refine ⟨rfl, _, _, _, _, rfl, h, fun r1 h => ⟨rfl, _, rfl, ?_⟩, fun c hc => ⟨rfl, ⟨_, hE _ hc, rfl, rfl⟩⟩⟩
  refine add_sh h fun r2 h => ?_
  refine ⟨rfl, ?_⟩
  refine ws_env (env' := [.d (.list (ns.map .int)), .bg a_bag, .d r2, .un, .un, .un, .un, .un, .un, .un, .un]) rfl ?_
  refine ws_cons (w1_set 3 sc_law.nd ?_)
  refine we_int ?_
  refine ⟨rfl, ?_⟩
  refine ws_env (env' := [.d (.list (ns.map .int)), .bg a_bag, .d r2, .d (.int 0), .un, .un, .un, .un, .un, .un, .un]) rfl ?_
  refine ws_cons (w1_for hp rfl (pg_name (i := 4) sc_law.nd rfl (by first | exact Or.inl rfl | exact Or.inr rfl)) (tgd_name 4) ?_)
  refine wi_r1 m_range ?_
  refine we_pow ?_
  refine we_int ?_
  refine we_int ?_
  refine powP (v := 256) (by decide +kernel) ?_ (by unfold L2.CPow; decide)
  refine rng_sh h fun xs3 h => ?_
  refine forS h (fun (s : PyData) (u : Sl × Sl × Sl × Sl) => [.d (.list (ns.map .int)), .bg a_bag, .d r2, .d s, u.2.2.2, u.1, u.2.1, u.2.2.1, .un, .un, .un]) ((.un), (.un), (.un), (.un)) rfl ?_ ?_
  · rintro l_whole4 ⟨w5, w6, w7, w8⟩ h
    refine ws_env (env' := [.d (.list (ns.map .int)), .bg a_bag, .d r2, .d l_whole4, w8, w5, w6, w7, .un, .un, .un]) rfl ?_
    refine ws_cons (w1_if ?_)
    refine wt_cp (op_neA hr) ?_
    refine we_n 3 ?_
    refine we_ix ?_
    refine we_call h__law_ways hr ?_
    refine wa_d ?_
    refine we_int ?_
    refine ⟨rfl, ?_⟩
    refine wa_nil ?_
    refine ⟨rfl, _, _, _, rfl, h, fun r9 h => ⟨rfl, _, rfl, ?_⟩, fun c hc => ⟨rfl, ⟨_, hE _ hc, rfl, rfl⟩⟩⟩
    refine we_sub ?_
    refine we_n 2 ?_
    refine we_int ?_
    refine sub_sh h fun r10 h => ?_
    refine ix_sh h fun r11 h => ?_
    refine ne_sh h fun b12 h => ?_
    obtain ⟨h13, h14⟩ := h
    refine ⟨fun e15 => ?_, fun e15 => ?_⟩
    · replace h := h13 e15
      refine ws_cons (w1_ret ?_)
      refine we_bool ?_
      exact ⟨rfl, _, hK _ h, trivial, rfl, rfl⟩
    · replace h := h14 e15
      refine ws_nil ?_
      refine ws_cons (w1_set 8 sc_law.nd ?_)
      refine we_call h__law_letters_row hr ?_
      refine wa_s 1 ?_
      refine wa_d ?_
      refine we_int ?_
      refine ⟨rfl, ?_⟩
      refine wa_nil ?_
      refine ⟨rfl, _, _, _, _, rfl, h, fun r16 h => ⟨rfl, _, rfl, ?_⟩, fun c hc => ⟨rfl, ⟨_, hE _ hc, rfl, rfl⟩⟩⟩
      refine ⟨rfl, ?_⟩
      refine ws_env (env' := [.d (.list (ns.map .int)), .bg a_bag, .d r2, .d l_whole4, w8, w5, w6, w7, .d r16, .un, .un]) rfl ?_
      refine ws_forget 7 ?_
      refine ws_env (env' := [.d (.list (ns.map .int)), .bg a_bag, .d r2, .d l_whole4, w8, w5, w6, .un, .d r16, .un, .un]) rfl ?_
      refine ws_cons (w1_setLc 9 (own := [("_law_at", 7)]) rfl sc_law.nd piS (blkOk_by (by rfl)) (fun _ _ _ _ _ => (pg_name (i := 7) sc_law.nd rfl (by first | exact Or.inl rfl | exact Or.inr rfl))) (by decide) (nt_lc (tgd_name 7) rfl ?_))
      refine wi_r2 m_range ?_
      refine we_int ?_
      refine we_sub ?_
      refine we_len m_len ?_
      refine we_n 8 ?_
      refine len_sh h fun r18 h => ?_
      refine we_int ?_
      refine sub_sh h fun r19 h => ?_
      refine rng_sh h fun xs17 h => ?_
      refine lcS h (fun l_at20 kp sk h => ?_) fun l21 h => ?_
      · refine ⟨[(7, l_at20)], rfl, rfl, fun g' s1 H1 C1 cl1 fp1 => ?_⟩
        show WT _ _ _ _ _ _
        refine wt_cp (op_eqA hr) ?_
        refine we_ix ?_
        refine we_n 8 ?_
        refine we_n 7 ?_
        refine ix_sh h fun r22 h => ?_
        refine we_ix ?_
        refine we_n 8 ?_
        refine we_add ?_
        refine we_n 7 ?_
        refine we_int ?_
        refine add_sh h fun r23 h => ?_
        refine ix_sh h fun r24 h => ?_
        refine eq_sh h fun b25 h => ?_
        refine ⟨fun e s1 H1 C1 cl1 fp1 => ?_, h.2⟩
        replace h := h.1 e
        refine we_n 7 ?_
        exact ⟨rfl, h⟩
      refine ws_env (env' := [.d (.list (ns.map .int)), .bg a_bag, .d r2, .d l_whole4, w8, w5, w6, .un, .d r16, .d (.list l21), .un]) rfl ?_
      refine ws_cons (w1_if ?_)
      refine wt_ww ?_
      refine ww_orS h (fun Q h => ?_) (fun Q h => ?_) fun b26 h => ?_
      · refine wt_cp (op_eqA hr) ?_
        refine we_n 9 ?_
        refine we_list ?_
        refine wa_nil ?_
        refine ⟨_, rfl, szOk rfl, ?_⟩
        refine eq_sh h fun b27 h => ?_
        exact h
      · refine ww_or1 ?_
        refine wt_cp (op_ltA hr) ?_
        refine we_len m_len ?_
        refine we_n 8 ?_
        refine len_sh h fun r28 h => ?_
        refine we_int ?_
        refine lt_sh h fun b29 h => ?_
        exact h
      obtain ⟨h30, h31⟩ := h
      refine ⟨fun e32 => ?_, fun e32 => ?_⟩
      · replace h := h30 e32
        refine ws_cons (w1_ret ?_)
        refine we_bool ?_
        exact ⟨rfl, _, hK _ h, trivial, rfl, rfl⟩
      · replace h := h31 e32
        refine ws_nil ?_
        refine ws_cons (w1_set 7 sc_law.nd ?_)
        refine we_ix ?_
        refine we_n 9 ?_
        refine we_call h__law_pull hr ?_
        refine wa_s 1 ?_
        refine wa_d ?_
        refine we_len m_len ?_
        refine we_n 9 ?_
        refine len_sh h fun r33 h => ?_
        refine ⟨rfl, ?_⟩
        refine wa_nil ?_
        refine ⟨rfl, _, _, _, _, rfl, h, fun r34 h => ⟨rfl, _, rfl, ?_⟩, fun c hc => ⟨rfl, ⟨_, hE _ hc, rfl, rfl⟩⟩⟩
        refine ix_sh h fun r35 h => ?_
        refine ⟨rfl, ?_⟩
        refine ws_env (env' := [.d (.list (ns.map .int)), .bg a_bag, .d r2, .d l_whole4, w8, w5, w6, .d r35, .d r16, .d (.list l21), .un]) rfl ?_
        refine ws_cons (w1_set 10 sc_law.nd ?_)
        refine we_add ?_
        refine we_add ?_
        refine we_slA ?_
        refine we_n 8 ?_
        refine ⟨rfl, ?_⟩
        refine wp_none ?_
        refine wp_e ?_
        refine we_n 7 ?_
        refine into_sh h fun i36 h => ?_
        refine sl_sh h fun r37 h => ?_
        refine we_getD hr ?_
        refine we_dictK ?_
        refine wdk_disp (fun g38 => ?_)
        refine wps_cons ?_
        refine we_str ?_
        refine ⟨rfl, ?_⟩
        refine we_str ?_
        refine ⟨rfl, ?_⟩
        refine wps_cons ?_
        refine we_str ?_
        refine ⟨rfl, ?_⟩
        refine we_str ?_
        refine ⟨rfl, ?_⟩
        refine wps_nil ?_
        refine ⟨by decide, disp_m h fun m39 h => ?_⟩
        refine ⟨rfl, ?_⟩
        refine we_ix ?_
        refine we_n 8 ?_
        refine we_n 7 ?_
        refine ix_sh h fun r40 h => ?_
        refine ⟨rfl, getD_s h fun r41 h => ?_⟩
        refine add_sh h fun r42 h => ?_
        refine we_slA ?_
        refine we_n 8 ?_
        refine ⟨rfl, ?_⟩
        refine wp_e ?_
        refine we_add ?_
        refine we_n 7 ?_
        refine we_int ?_
        refine add_sh h fun r43 h => ?_
        refine into_sh h fun i44 h => ?_
        refine wp_none ?_
        refine sl_sh h fun r45 h => ?_
        refine add_sh h fun r46 h => ?_
        refine ⟨rfl, ?_⟩
        refine ws_env (env' := [.d (.list (ns.map .int)), .bg a_bag, .d r2, .d l_whole4, w8, w5, w6, .d r35, .d r16, .d (.list l21), .d r46]) rfl ?_
        refine ws_cons (w1_ret ?_)
        refine we_ch (op_leA hr) (op_leA hr) ?_
        refine we_int ?_
        refine we_call h_folds hr ?_
        refine wa_d ?_
        refine we_n 10 ?_
        refine ⟨rfl, ?_⟩
        refine wa_nil ?_
        refine ⟨rfl, _, _, _, rfl, h, fun r47 h => ⟨rfl, _, rfl, ?_⟩, fun c hc => ⟨rfl, ⟨_, hE _ hc, rfl, rfl⟩⟩⟩
        refine ch_sh2 h (fun Q h => le_sh h fun _ h => h) (fun Q h => ?_) fun b48 h => ?_
        · refine we_call h_folds hr ?_
          refine wa_d ?_
          refine we_n 8 ?_
          refine ⟨rfl, ?_⟩
          refine wa_nil ?_
          refine ⟨rfl, _, _, _, rfl, h, fun r50 h => ⟨rfl, _, rfl, ?_⟩, fun c hc => ⟨rfl, ⟨_, hE _ hc, rfl, rfl⟩⟩⟩
          exact le_sh h fun _ h => h
        exact ⟨rfl, _, hK _ h, trivial, rfl, rfl⟩
  · rintro hend l_number51 l_whole54 ⟨w55, w56, w57, w58⟩ N52 h
    refine ⟨[(4, l_number51)], rfl, rfl, ?_⟩
    refine ws_env (env' := [.d (.list (ns.map .int)), .bg a_bag, .d r2, .d l_whole54, .d l_number51, w55, w56, w57, .un, .un, .un]) rfl ?_
    refine ws_cons (w1_set 5 sc_law.nd ?_)
    refine we_str ?_
    refine ⟨rfl, ?_⟩
    refine ws_env (env' := [.d (.list (ns.map .int)), .bg a_bag, .d r2, .d l_whole54, .d l_number51, .d (.str "r"), w56, w57, .un, .un, .un]) rfl ?_
    refine ws_cons (w1_set 6 sc_law.nd ?_)
    refine we_n 4 ?_
    refine ⟨rfl, ?_⟩
    refine ws_env (env' := [.d (.list (ns.map .int)), .bg a_bag, .d r2, .d l_whole54, .d l_number51, .d (.str "r"), .d l_number51, w57, .un, .un, .un]) rfl ?_
    refine ws_cons (w1_for hp rfl (pg_name (i := 7) sc_law.nd rfl (by first | exact Or.inl rfl | exact Or.inr rfl)) (tgd_name 7) ?_)
    refine wi_r2 m_range ?_
    refine we_int ?_
    refine we_n 2 ?_
    refine rng_sh h fun xs59 h => ?_
    refine forS h (fun (s : PyData × PyData) (u : Sl) => [.d (.list (ns.map .int)), .bg a_bag, .d r2, .d l_whole54, .d l_number51, .d s.1, .d s.2, u, .un, .un, .un]) (w57) rfl ?_ ?_
    · rintro ⟨l_letters60, l_left61⟩ w62 h
      refine ws_env (env' := [.d (.list (ns.map .int)), .bg a_bag, .d r2, .d l_whole54, .d l_number51, .d l_letters60, .d l_left61, w62, .un, .un, .un]) rfl ?_
      refine ws_cons (w1_if ?_)
      refine wt_cp (op_eqA hr) ?_
      refine we_n 6 ?_
      refine we_int ?_
      refine eq_sh h fun b63 h => ?_
      obtain ⟨h64, h65⟩ := h
      refine ⟨fun e66 => ?_, fun e66 => ?_⟩
      · replace h := h64 e66
        obtain ⟨u67, he69, h⟩ := into_ob h
        refine ws_env (env' := [.d (.list (ns.map .int)), .bg a_bag, .d r2, .d l_whole54, .d l_number51, .d l_letters60, .d l_left61, w62, .un, .un, .un]) rfl ?_
        rw [he69]
        refine ws_cons (w1_add 3 sc_law.nd rfl ?_)
        refine we_call h_folds hr ?_
        refine wa_d ?_
        refine we_n 5 ?_
        refine ⟨rfl, ?_⟩
        refine wa_nil ?_
        refine ⟨rfl, _, _, _, rfl, h, fun r70 h => ⟨rfl, _, rfl, ?_⟩, fun c hc => ⟨rfl, ⟨_, hE _ hc, rfl, rfl⟩⟩⟩
        refine into_sh h fun m68 h => ?_
        refine ws_env (env' := [.d (.list (ns.map .int)), .bg a_bag, .d r2, .d (.int (u67 + m68)), .d l_number51, .d l_letters60, .d l_left61, w62, .un, .un, .un]) rfl ?_
        refine ws_nil ?_
        exact ws_nil ⟨(.int (u67 + m68)), ((.d l_letters60), (.d l_left61), (w62), (.d l_number51)), h, rfl⟩
      · replace h := h65 e66
        refine ws_nil ?_
        exact ws_nil ⟨l_whole54, ((.d l_letters60), (.d l_left61), (w62), (.d l_number51)), h, rfl⟩
    · rintro hend l_at71 ⟨l_letters74, l_left75⟩ w76 N72 h
      refine ⟨[(7, l_at71)], rfl, rfl, ?_⟩
      refine ws_env (env' := [.d (.list (ns.map .int)), .bg a_bag, .d r2, .d l_whole54, .d l_number51, .d l_letters74, .d l_left75, .d l_at71, .un, .un, .un]) rfl ?_
      refine ws_cons (w1_set 5 sc_law.nd ?_)
      refine we_add ?_
      refine we_n 5 ?_
      refine we_ix ?_
      refine we_str ?_
      refine we_mod ?_
      refine we_n 6 ?_
      refine we_int ?_
      refine mod_sh h fun r77 h => ?_
      refine ix_sh h fun r78 h => ?_
      refine add_sh h fun r79 h => ?_
      refine ⟨rfl, ?_⟩
      refine ws_env (env' := [.d (.list (ns.map .int)), .bg a_bag, .d r2, .d l_whole54, .d l_number51, .d r79, .d l_left75, .d l_at71, .un, .un, .un]) rfl ?_
      refine ws_cons (w1_set 6 sc_law.nd ?_)
      refine we_div ?_
      refine we_n 6 ?_
      refine we_int ?_
      refine div_sh h fun r80 h => ?_
      refine ⟨rfl, ?_⟩
      refine ws_env (env' := [.d (.list (ns.map .int)), .bg a_bag, .d r2, .d l_whole54, .d l_number51, .d r79, .d r80, .d l_at71, .un, .un, .un]) rfl ?_
      exact ws_nil ⟨(r79, r80), (.d l_at71), h, rfl⟩
end
end Tx
namespace Tx
open PySem PySem.Spec PyProof.Rows L2 TL
set_option maxRecDepth 100000
def d_need_row : He.DefD := ⟨("need_row", none), "need_row", "need_row", defArgs s_need_row, defBody s_need_row, defScope s_need_row, [], []⟩
def d_other_hand : He.DefD := ⟨("other_hand", none), "other_hand", "other_hand", defArgs s_other_hand, defBody s_other_hand, defScope s_other_hand, [], []⟩
def d_counted : He.DefD := ⟨("counted", none), "counted", "counted", defArgs s_counted, defBody s_counted, defScope s_counted, [], []⟩
def d_folds : He.DefD := ⟨("folds", none), "folds", "folds", defArgs s_folds, defBody s_folds, defScope s_folds, [], []⟩
def d__law_bag : He.DefD := ⟨("_law_bag", none), "_law_bag", "_law_bag", defArgs s__law_bag, defBody s__law_bag, defScope s__law_bag, [], []⟩
def d__law_letters_row : He.DefD := ⟨("_law_letters_row", none), "_law_letters_row", "_law_letters_row", defArgs s__law_letters_row, defBody s__law_letters_row, defScope s__law_letters_row, [], []⟩
def d__law_pull : He.DefD := ⟨("_law_pull", none), "_law_pull", "_law_pull", defArgs s__law_pull, defBody s__law_pull, defScope s__law_pull, [], []⟩
def d__law_ways : He.DefD := ⟨("_law_ways", none), "_law_ways", "_law_ways", defArgs s__law_ways, defBody s__law_ways, defScope s__law_ways, [], []⟩
def d_law : He.DefD := ⟨("law", none), "law", "law", defArgs s_law, defBody s_law, defScope s_law, [], []⟩
def fn : List He.DefD := [d_need_row, d_other_hand, d_counted, d_folds, d__law_bag, d__law_letters_row, d__law_pull, d__law_ways, d_law]
def fa : List He.Fa := [.glo "need_row",
  .glo "other_hand",
  .glo "counted",
  .glo "folds",
  .glo "_law_bag",
  .glo "_law_letters_row",
  .glo "_law_pull",
  .glo "_law_ways",
  .glo "law",
  .glo "PinchError",
  .glo "BadRow",
  .free "abs",
  .free "all",
  .free "int",
  .free "len",
  .free "range",
  .int "LEAST" 3,
  .int "MOST" 40,
  .exc "PinchError",
  .exc "BadRow"]
def xf : List XF := []
abbrev R : PySem.W.OpenRow := PySem.W.OpenLaw.row PySem.Challenge.rw_pinchfold_k22_whole_folds_of_all_rows
abbrev hk : PySem.W.Hook := hookX 4 xf fa fn
def ob (s : PySem.W.SharedT) : He.AlD := obsXG 4 xf fa fn (HandSHeadRun.getT s)
theorem ob_eq (s : PySem.W.SharedT) : ob s = hk.obs s.abs := obsXG_eq (HandSHeadRun.getT_eq s)
def loose : List PySem.Str := (["PinchError", "BadRow", "LEAST", "MOST", "need_row", "other_hand", "counted", "folds", "_law_bag", "_law_letters_row", "_law_pull", "_law_ways"] : List PySem.Str)
theorem run (w : World) : HandSHeadRun.RunEq R (PySem.W.view R.prog [15]) hk ob 1500 loose w := by
  intro os
  kernel_rfl
theorem facts {P : Program} {w : World} {K : PySem.W.Frag} {h : Heap} {mg : Str → Option Value} {f : Addr} (X : K.In h) (G : h.Ns mainGlobals mg) (hfa : mg ("law" : Str) = some (.ref f)) (c : SaysX xf fa fn K) :
    ∃ fd : FuncData, (∀ (s : Shared) (v : Value), BindsTo s fd ⟨[v], []⟩ [("_law_script", v)]) ∧ ∀ base : Heap, K.In base → base.Ns mainGlobals mg → FnOk P w K mg base (L2.CX P w) 4 f fd ["_law_script"] (spOf K 1 cLaw) := by
  obtain ⟨fd_need_row, F_need_row⟩ := c.d.def_ 0 (d := d_need_row) rfl
  obtain ⟨fd_other_hand, F_other_hand⟩ := c.d.def_ 1 (d := d_other_hand) rfl
  obtain ⟨fd_counted, F_counted⟩ := c.d.def_ 2 (d := d_counted) rfl
  obtain ⟨fd_folds, F_folds⟩ := c.d.def_ 3 (d := d_folds) rfl
  obtain ⟨fd__law_bag, F__law_bag⟩ := c.d.def_ 4 (d := d__law_bag) rfl
  obtain ⟨fd__law_letters_row, F__law_letters_row⟩ := c.d.def_ 5 (d := d__law_letters_row) rfl
  obtain ⟨fd__law_pull, F__law_pull⟩ := c.d.def_ 6 (d := d__law_pull) rfl
  obtain ⟨fd__law_ways, F__law_ways⟩ := c.d.def_ 7 (d := d__law_ways) rfl
  obtain ⟨fd_law, F_law⟩ := c.d.def_ 8 (d := d_law) rfl
  have e := hfa.symm.trans (He.glo_ok X G (c.d.fact 8 (f := .glo "law") rfl))
  cases e
  have bl := FunD.bindsA (ps := ["_law_script"]) F_law fun _ _ _ _ _ _ us hl => match us, hl with | [_], _ => rfl
  refine ⟨fd_law, fun s v => bl s [v] rfl, fun base _ _ => ?_⟩
  have h_o__law_bag := ok_o__law_bag (P := P) (w := w) (K := K) (mg := mg) (base := base) (k := 0) F__law_bag (He.glo_ok X G (c.d.fact 4 (f := .glo "_law_bag") rfl)) (F__law_bag.bindsN fun _ _ _ _ _ _ us hl => match us, hl with | [_], _ => rfl) (He.free_ok X G (c.d.fact 14 (f := .free "len") rfl)) (He.free_ok X G (c.d.fact 11 (f := .free "abs") rfl)) (He.free_ok X G (c.d.fact 13 (f := .free "int") rfl))
  have h_o__law_pull := ok_o__law_pull (P := P) (w := w) (K := K) (mg := mg) (base := base) (k := 0) F__law_pull (He.glo_ok X G (c.d.fact 6 (f := .glo "_law_pull") rfl)) (F__law_pull.bindsN fun _ _ _ _ _ _ us hl => match us, hl with | [_, _], _ => rfl) (He.free_ok X G (c.d.fact 14 (f := .free "len") rfl))
  have h__law_pull := ok__law_pull (P := P) (w := w) (K := K) (mg := mg) (base := base) (k := 1) (h_o__law_pull.mono (by decide))
  have h__law_letters_row := ok__law_letters_row (P := P) (w := w) (K := K) (mg := mg) (base := base) (k := 1) F__law_letters_row (He.glo_ok X G (c.d.fact 5 (f := .glo "_law_letters_row") rfl)) (F__law_letters_row.bindsN fun _ _ _ _ _ _ us hl => match us, hl with | [_, _], _ => rfl) (h__law_pull.mono (by decide)) (He.free_ok X G (c.d.fact 15 (f := .free "range") rfl)) (He.free_ok X G (c.d.fact 14 (f := .free "len") rfl))
  have h_need_row := ok_need_row (P := P) (w := w) (K := K) (mg := mg) (base := base) (k := 0) F_need_row (He.glo_ok X G (c.d.fact 0 (f := .glo "need_row") rfl)) (F_need_row.bindsN fun _ _ _ _ _ _ us hl => match us, hl with | [_], _ => rfl) (He.int_ok X G (c.d.fact 16 (f := .int "LEAST" 3) rfl)) (He.free_ok X G (c.d.fact 14 (f := .free "len") rfl)) (He.int_ok X G (c.d.fact 17 (f := .int "MOST" 40) rfl)) (He.free_ok X G (c.d.fact 12 (f := .free "all") rfl)) (exk_of (He.glo_ok X G (c.d.fact 10 (f := .glo "BadRow") rfl)) (He.exc_ok (c.d.fact 19 (f := .exc "BadRow") rfl)))
  have h_other_hand := ok_other_hand (P := P) (w := w) (K := K) (mg := mg) (base := base) (k := 0) F_other_hand (He.glo_ok X G (c.d.fact 1 (f := .glo "other_hand") rfl)) (F_other_hand.bindsN fun _ _ _ _ _ _ us hl => match us, hl with | [_], _ => rfl)
  have h_counted := ok_counted (P := P) (w := w) (K := K) (mg := mg) (base := base) (k := 1) F_counted (He.glo_ok X G (c.d.fact 2 (f := .glo "counted") rfl)) (F_counted.bindsN fun _ _ _ _ _ _ us hl => match us, hl with | [_], _ => rfl) (He.free_ok X G (c.d.fact 14 (f := .free "len") rfl)) (He.free_ok X G (c.d.fact 15 (f := .free "range") rfl)) (h_other_hand.mono (by decide)) (He.free_ok X G (c.d.fact 13 (f := .free "int") rfl))
  have h_folds := ok_folds (P := P) (w := w) (K := K) (mg := mg) (base := base) (k := 2) F_folds (He.glo_ok X G (c.d.fact 3 (f := .glo "folds") rfl)) (F_folds.bindsN fun _ _ _ _ _ _ us hl => match us, hl with | [_], _ => rfl) (h_need_row.mono (by decide)) (h_counted.mono (by decide)) (He.free_ok X G (c.d.fact 14 (f := .free "len") rfl))
  have h__law_ways := ok__law_ways (P := P) (w := w) (K := K) (mg := mg) (base := base) (k := 0) F__law_ways (He.glo_ok X G (c.d.fact 7 (f := .glo "_law_ways") rfl)) (F__law_ways.bindsN fun _ _ _ _ _ _ us hl => match us, hl with | [_], _ => rfl) (He.free_ok X G (c.d.fact 15 (f := .free "range") rfl))
  exact ok_law (P := P) (w := w) (K := K) (mg := mg) (base := base) (k := 3) F_law (h_o__law_bag.mono (by decide)) (h__law_pull.mono (by decide)) (He.free_ok X G (c.d.fact 15 (f := .free "range") rfl)) (h__law_ways.mono (by decide)) (h__law_letters_row.mono (by decide)) (He.free_ok X G (c.d.fact 14 (f := .free "len") rfl)) (h_folds.mono (by decide))
end Tx
open PySem PySem.W PySem.Calls PyProof.Rows
theorem PySem.Challenge.cw_pinchfold_k22_whole_folds_of_all_rows_holds : PySem.Challenge.rw_pinchfold_k22_whole_folds_of_all_rows.Holds := by
  w_on; o_law
  refine HandSHeadRun.head_any (r := OpenLaw.row PySem.Challenge.rw_pinchfold_k22_whole_folds_of_all_rows) (q := view (OpenLaw.row PySem.Challenge.rw_pinchfold_k22_whole_folds_of_all_rows).prog [15]) (H := Tx.hk) (ob := Tx.ob) (M := 1500) (loose := Tx.loose) (d := HandSHeadRun.topDef (OpenLaw.row PySem.Challenge.rw_pinchfold_k22_whole_folds_of_all_rows).prog 15) (kwd := []) Tx.ob_eq
    (by kernel_rfl) (fun s => by kernel_rfl) Tx.run (by kernel_rfl) (by kernel_rfl) (by kernel_rfl) (by rfl) (by first | assumption | decide +kernel) (by decide +kernel) ⟨rfl, rfl, rfl, rfl, rfl, by decide +kernel⟩ ?hw ?hc
  case hw => w_witness2
  case hc =>
    refine TL.walk_x (l := PySem.Challenge.rw_pinchfold_k22_whole_folds_of_all_rows) (m := 63) (j := 4) (x := "_law_script") rfl (by decide) (by kernel_rfl) ⟨rfl, by decide, by decide⟩ ?_
    intro w mg fa h Y G hmg0
    obtain ⟨K, KX, c⟩ := Y
    have hmg : mg ("law" : PySem.Str) = some (.ref fa) := by
      have e : (HandSHeadRun.topDef (OpenLaw.row PySem.Challenge.rw_pinchfold_k22_whole_folds_of_all_rows).prog 15).name = ("law" : PySem.Str) := by kernel_rfl
      rw [← e]
      exact hmg0
    obtain ⟨fd, hb, hF⟩ := Tx.facts (P := (PySem.Challenge.rw_pinchfold_k22_whole_folds_of_all_rows).prog) (w := w) KX G hmg c
    exact ⟨K, fd, _, KX, hb, fun H a ns hl hS => TL.law_sp hl hS, hF⟩
