import PyProof.Rows.All
import Wide.All
import OpenK.AllK
import Wide.FinOn
import HandS.Base
import HandS.Call
import HandS.List
import HandS.Exc
import HandS.ExcOwn
import HandS.Defaults
import HandS.HeadHook1
import HandS.HeadHook2
import HandS.Lambda
import HandS.Deep
import HandS.Wide
import HandS.TupAny
import HandS.SortInts
import KE.SortData
import HandS.Comp
import HandS.TryMany
import HandS.TryOnly
import HandS.HeadEnd
import HandS.Words
import HandS.WordsExc
import HandS.EndBits
import HandS.Iter
import HandS.Walk
import KE.GoesEnum
import KE.GoesMore
import HandS.IsInst
import HandS.Text
import HandS.Dict
import HandS.Conv
import HandS.Style
import HandS.TupLe
import PyProof.StrOps2
import HandS.FStr
import HandS.RaiseMore
import HandS.TupSets
import HandS.HeadHook4
import HandS.HeadWalk
import KE.KDictDisplayH
import HandS.TupLen
import KE.KStateDown
import Lean
import HandS.Head0
import HandS.Head1
import HandS.Head2
import PySem.Challenge.RW_pinchfold_k03_fans_told
set_option Elab.async false
set_option linter.all false
set_option maxRecDepth 100000
set_option maxHeartbeats 4000000

/-! Tree logic: data-level weakest preconditions over the hand layer. -/
namespace TL
open PySem PySem.Spec PyProof.Rows L2

abbrev Frag := PySem.W.Frag
abbrev SS := L2.St

/-! ### heaps -/
def Ex (H H' : Hp) : Prop := ∀ a o, H a = some o → H' a = some o
theorem Ex.refl (H : Hp) : Ex H H := fun _ _ h => h
theorem Ex.trans {H H1 H2 : Hp} (a : Ex H H1) (b : Ex H1 H2) : Ex H H2 := fun x o h => b x o (a x o h)
theorem Ex.new {H : Hp} {p : Addr} {o : HO} (h : H p = none) : Ex H (upd H p o) := fun a u e => by
  rw [upd_ne (ne_of_none e h)]; exact e
theorem Ex.mut {H H' : Hp} {p : Addr} {o : HO} (e : Ex H H') (h : H p = none) : Ex H (upd H' p o) := fun a u ha => by
  rw [upd_ne (ne_of_none ha h)]; exact e a u ha
theorem Ex.upd2 {H H' : Hp} {p : Addr} {o : HO} (e : Ex H H') : Ex (upd H p o) (upd H' p o) := fun a u ha => by
  by_cases hp : a = p
  · subst hp; rw [upd_same] at ha ⊢; exact ha
  · rw [upd_ne hp] at ha ⊢; exact e a u ha
theorem Ex.none {H H' : Hp} (e : Ex H H') {a : Addr} (h : H' a = none) : H a = none := by
  cases q : H a with
  | none => rfl
  | some o => rw [e a o q] at h; cases h
theorem ex_rd {H H' : Hp} {a : Addr} {u : HO} (e : Ex H H') (h : Rd H a u) : Rd H' a u := by
  rcases h with h | ⟨o, h⟩
  · exact .inl (e a _ h)
  · exact .inr ⟨o, e a _ h⟩
theorem ex_l {K : Frag} {H H' : Hp} {a : Addr} {xs : List V} (e : Ex H H') (h : SqL K H a xs) : SqL K H' a xs := by
  rcases h with h | h
  · exact .inl (ex_rd e h)
  · exact .inr h
theorem ex_t {K : Frag} {H H' : Hp} {a : Addr} {xs : List V} (e : Ex H H') (h : SqT K H a xs) : SqT K H' a xs := by
  rcases h with h | h
  · exact .inl (ex_rd e h)
  · exact .inr h

/-! ### data -/
def kD : Key → PyData
  | .inl i => .int i
  | .inr s => .str s
def kitTys : List String := ["NoneType", "bool", "int", "str", "list", "tuple", "dict"]
/-- a class of the program's own that is none of the kit's types -/
structure InsK (K : Frag) (n : Str) : Prop where
  cls : Cls K (He.ga K n)
  c1 : PySem.W.findIn K (.ref (He.ga K n)) (Str.ofString "__class__") = some (some (.builtin "object.__class__"))
  c2 : PySem.W.specialIn K (.builtin "object.__class__") (Str.ofString "__get__") = some (some (.builtin "getset_descriptor.__get__"))
  c3 : PySem.W.takesIn K (.builtin "object.__class__") = some true
  c4 : PySem.W.mroIn K (He.ga K n) (.type "object") = some true
  kit : ∀ T ∈ kitTys, PySem.W.kitOne K (.ref (He.ga K n)) (.type T) = some false
mutual
inductive Dq (K : Frag) (H : Hp) : V → PyData → Prop
  | non : Dq K H .non .none
  | bl (b : Bool) : Dq K H (.bl b) (.bool b)
  | int (i : Int) : Dq K H (.int i) (.int i)
  | str (x : Str) : Dq K H (.str x) (.str x)
  | lst {a : Addr} {xs : List V} {ds : List PyData} : SqL K H a xs → DqAll K H xs ds → Dq K H (.ref a) (.list ds)
  | tup {a : Addr} {xs : List V} {ds : List PyData} : H a = some (.tup xs) → DqAll K H xs ds → Dq K H (.ref a) (.tuple ds)
  | dct {a : Addr} {vs : List (List Key × V)} {kvs : List (PyData × PyData)} : H a = some (.dT vs) → DqT K H vs kvs → Dq K H (.ref a) (.dict ((.none, .none) :: kvs))
  | dck {a : Addr} {vs : List (Key × V)} {kvs : List (PyData × PyData)} : H a = some (.dK vs) → DqK K H vs kvs → Dq K H (.ref a) (.dict kvs)
  | ins {a dx : Addr} {n : Str} {vs : List (Str × V)} {kvs : List (PyData × PyData)} : InsK K n → H a = some (.ins (He.ga K n) dx vs) → DqF K H vs kvs → Dq K H (.ref a) (.dict ((.bool true, .str n) :: kvs))
inductive DqAll (K : Frag) (H : Hp) : List V → List PyData → Prop
  | nil : DqAll K H [] []
  | cons {v : V} {vs : List V} {d : PyData} {ds : List PyData} : Dq K H v d → DqAll K H vs ds → DqAll K H (v :: vs) (d :: ds)
inductive DqT (K : Frag) (H : Hp) : List (List Key × V) → List (PyData × PyData) → Prop
  | nil : DqT K H [] []
  | cons {k : List Key} {v : V} {vs : List (List Key × V)} {d : PyData} {ds : List (PyData × PyData)} : Dq K H v d → DqT K H vs ds → DqT K H ((k, v) :: vs) ((.tuple (k.map kD), d) :: ds)
inductive DqK (K : Frag) (H : Hp) : List (Key × V) → List (PyData × PyData) → Prop
  | nil : DqK K H [] []
  | cons {k : Key} {v : V} {vs : List (Key × V)} {d : PyData} {ds : List (PyData × PyData)} : Dq K H v d → DqK K H vs ds → DqK K H ((k, v) :: vs) ((kD k, d) :: ds)
inductive DqF (K : Frag) (H : Hp) : List (Str × V) → List (PyData × PyData) → Prop
  | nil : DqF K H [] []
  | cons {k : Str} {v : V} {vs : List (Str × V)} {d : PyData} {ds : List (PyData × PyData)} : Dq K H v d → DqF K H vs ds → DqF K H ((k, v) :: vs) ((.str k, d) :: ds)
end
section
variable {K : Frag} {H H' : Hp}
mutual
theorem dp_mono (e : Ex H H') : ∀ (d : PyData) (v : V), Dq K H v d → Dq K H' v d
  | _, _, .non => .non
  | _, _, .bl b => .bl b
  | _, _, .int i => .int i
  | _, _, .str x => .str x
  | _, _, .lst hs ha => .lst (ex_l e hs) (dpa_mono e _ _ ha)
  | _, _, .tup hs ha => .tup (e _ _ hs) (dpa_mono e _ _ ha)
  | _, _, .dct hs ha => .dct (e _ _ hs) (dqt_mono e _ _ ha)
  | _, _, .dck hs ha => .dck (e _ _ hs) (dqk_mono e _ _ ha)
  | _, _, .ins hk hs ha => .ins hk (e _ _ hs) (dqf_mono e _ _ ha)
theorem dpa_mono (e : Ex H H') : ∀ (ds : List PyData) (vs : List V), DqAll K H vs ds → DqAll K H' vs ds
  | _, _, .nil => .nil
  | _, _, .cons h1 h2 => .cons (dp_mono e _ _ h1) (dpa_mono e _ _ h2)
theorem dqt_mono (e : Ex H H') : ∀ (ds : List (PyData × PyData)) (vs : List (List Key × V)), DqT K H vs ds → DqT K H' vs ds
  | _, _, .nil => .nil
  | _, _, .cons h1 h2 => .cons (dp_mono e _ _ h1) (dqt_mono e _ _ h2)
theorem dqk_mono (e : Ex H H') : ∀ (ds : List (PyData × PyData)) (vs : List (Key × V)), DqK K H vs ds → DqK K H' vs ds
  | _, _, .nil => .nil
  | _, _, .cons h1 h2 => .cons (dp_mono e _ _ h1) (dqk_mono e _ _ h2)
theorem dqf_mono (e : Ex H H') : ∀ (ds : List (PyData × PyData)) (vs : List (Str × V)), DqF K H vs ds → DqF K H' vs ds
  | _, _, .nil => .nil
  | _, _, .cons h1 h2 => .cons (dp_mono e _ _ h1) (dqf_mono e _ _ h2)
end
mutual
theorem dq_dp : ∀ (d : PyData) (v : V), d.canLay0 = true → Dq K H v d → Dp K H v d
  | .none, _, _, h => by cases h; exact .non
  | .bool b, _, _, h => by cases h; exact .bl b
  | .int i, _, _, h => by cases h; exact .int i
  | .str x, _, _, h => by cases h; exact .str x
  | .list ds, _, c, h => by
    cases h with
    | lst hs ha => exact .lst hs (dqa_dpa ds _ (by simpa [PyData.canLay0] using c) ha)
  | .tuple ds, _, c, h => by
    cases h with
    | tup hs ha => exact .tup (SqT.of hs) (dqa_dpa ds _ (by simpa [PyData.canLay0] using c) ha)
  | .dict _, _, c, _ => nomatch c
theorem dqa_dpa : ∀ (ds : List PyData) (vs : List V), PyData.canLayAll0 ds = true → DqAll K H vs ds → DpAll K H vs ds
  | [], _, _, h => by cases h; exact .nil
  | d :: ds, _, c, h => by
    have c' : d.canLay0 = true ∧ PyData.canLayAll0 ds = true := by simpa [PyData.canLayAll0] using c
    cases h with
    | cons h1 h2 => exact .cons (dq_dp d _ c'.1 h1) (dqa_dpa ds _ c'.2 h2)
end
theorem shp_lay {d : PyData} (h : SeqAt.shaped d = true) : d.canLay0 = true := (Bool.and_eq_true_iff.mp h).1
theorem dp_int {v : V} {i : Int} (h : Dq K H v (.int i)) : v = .int i := by cases h; rfl
theorem dp_str {v : V} {i : Str} (h : Dq K H v (.str i)) : v = .str i := by cases h; rfl
theorem dp_bl {v : V} {i : Bool} (h : Dq K H v (.bool i)) : v = .bl i := by cases h; rfl
theorem dp_non {v : V} (h : Dq K H v .none) : v = .non := by cases h; rfl
theorem dp_lst {v : V} {ds : List PyData} (h : Dq K H v (.list ds)) : ∃ a xs, v = .ref a ∧ SqL K H a xs ∧ DqAll K H xs ds := by
  cases h with
  | lst hs ha => exact ⟨_, _, rfl, hs, ha⟩
theorem dp_tup {v : V} {ds : List PyData} (h : Dq K H v (.tuple ds)) : ∃ a xs, v = .ref a ∧ SqT K H a xs ∧ DqAll K H xs ds := by
  cases h with
  | tup hs ha => exact ⟨_, _, rfl, SqT.of hs, ha⟩
theorem dp_tup' {v : V} {ds : List PyData} (h : Dq K H v (.tuple ds)) : ∃ a xs, v = .ref a ∧ H a = some (.tup xs) ∧ DqAll K H xs ds := by
  cases h with
  | tup hs ha => exact ⟨_, _, rfl, hs, ha⟩
theorem dpa_len : ∀ {vs : List V} {ds : List PyData}, DqAll K H vs ds → vs.length = ds.length
  | _, [], h => by cases h; rfl
  | _, _ :: _, h => by
    cases h with
    | cons h1 h2 => exact congrArg Nat.succ (dpa_len h2)
theorem dpa_get : ∀ {ds : List PyData} {vs : List V} {i : Nat} {d : PyData}, DqAll K H vs ds → ds[i]? = some d → ∃ v, vs[i]? = some v ∧ Dq K H v d
  | [], _, _, _, _, e => by simp at e
  | x :: ds, _, 0, d, h, e => by
    cases h with
    | cons h1 h2 =>
      have e' : x = d := Option.some.inj e
      subst e'
      exact ⟨_, rfl, h1⟩
  | x :: ds, _, i + 1, d, h, e => by
    cases h with
    | cons h1 h2 => exact dpa_get (i := i) h2 e
theorem dpa_of : ∀ {ds : List PyData} {vs : List V} {i : Nat} {v : V}, DqAll K H vs ds → vs[i]? = some v → ∃ d, ds[i]? = some d ∧ Dq K H v d
  | [], _, _, _, h, e => by cases h; simp at e
  | x :: ds, _, 0, v, h, e => by
    cases h with
    | cons h1 h2 =>
      have e' := Option.some.inj e
      subst e'
      exact ⟨_, rfl, h1⟩
  | x :: ds, _, i + 1, d, h, e => by
    cases h with
    | cons h1 h2 => exact dpa_of (i := i) h2 e
theorem dpa_app : ∀ {ds es : List PyData} {vs ws : List V}, DqAll K H vs ds → DqAll K H ws es → DqAll K H (vs ++ ws) (ds ++ es)
  | [], _, _, _, h, g => by cases h; exact g
  | _ :: _, _, _, _, h, g => by
    cases h with
    | cons h1 h2 => exact .cons h1 (dpa_app h2 g)
theorem dpa_one {v : V} {d : PyData} (h : Dq K H v d) : DqAll K H [v] [d] := .cons h .nil
theorem dpa_set : ∀ {ds : List PyData} {vs : List V} (i : Nat) {v : V} {d : PyData}, DqAll K H vs ds → Dq K H v d → DqAll K H (vs.set i v) (ds.set i d)
  | [], _, _, _, _, h, _ => by cases h; exact .nil
  | _ :: _, _, 0, _, _, h, g => by
    cases h with
    | cons h1 h2 => exact .cons g h2
  | _ :: _, _, i + 1, _, _, h, g => by
    cases h with
    | cons h1 h2 => exact .cons h1 (dpa_set i h2 g)
theorem dpa_take : ∀ (n : Nat) {ds : List PyData} {vs : List V}, DqAll K H vs ds → DqAll K H (vs.take n) (ds.take n)
  | 0, _, _, _ => .nil
  | _ + 1, [], _, h => by cases h; exact .nil
  | n + 1, _ :: _, _, h => by
    cases h with
    | cons h1 h2 => exact .cons h1 (dpa_take n h2)
theorem dpa_drop : ∀ (n : Nat) {ds : List PyData} {vs : List V}, DqAll K H vs ds → DqAll K H (vs.drop n) (ds.drop n)
  | 0, _, _, h => h
  | _ + 1, [], _, h => by cases h; exact .nil
  | n + 1, _ :: _, _, h => by
    cases h with
    | cons h1 h2 => exact dpa_drop n h2
theorem dpa_rev : ∀ {ds : List PyData} {vs : List V}, DqAll K H vs ds → DqAll K H vs.reverse ds.reverse
  | [], _, h => by cases h; exact .nil
  | d :: ds, _, h => by
    cases h with
    | cons h1 h2 =>
      rw [List.reverse_cons, List.reverse_cons]
      exact dpa_app (dpa_rev h2) (dpa_one h1)
theorem dpa_ints : ∀ (ns : List Int), DqAll K H (ns.map V.int) (ns.map PyData.int)
  | [] => .nil
  | n :: ns => .cons (.int n) (dpa_ints ns)
theorem dpa_ints_eq : ∀ {ns : List Int} {vs : List V}, DqAll K H vs (ns.map PyData.int) → vs = ns.map V.int
  | [], _, h => by
    have h' : DqAll K H _ [] := h
    cases h'; rfl
  | n :: ns, _, h => by
    have h' : DqAll K H _ (.int n :: ns.map PyData.int) := h
    cases h' with
    | cons h1 h2 => rw [dp_int h1, dpa_ints_eq h2]; rfl
end

/-! ### lambdas without parameters -/
structure Lam where
  q : Str
  ps : Arguments
  bd : Expr
  sc : Scope
  cl : List (Str × Addr)
abbrev Lam.ob (l : Lam) (c : Addr) (pm ct : Value) : Obj := PySem.W.kla_obj "<lambda>" l.q l.ps l.bd l.sc l.cl pm c ct
def LamO (f : Addr) (l : Lam) (c : Addr) : HO := .ext fun h => ∃ pm ct, h.get? f = some (l.ob c pm ct)
def IsLam (F : Hp) (v : V) (l : Lam) : Prop := ∃ f c, v = .ref f ∧ F f = some (LamO f l c) ∧ F c = some (LamX.CodeO c l.q)
def LamsAre (F : Hp) : List V → List Lam → Prop
  | [], [] => True
  | v :: vs, l :: ls => IsLam F v l ∧ LamsAre F vs ls
  | _, _ => False
theorem IsLam.mono {F F' : Hp} {v : V} {l : Lam} (h : IsLam F v l) (e : Ex F F') : IsLam F' v l := by
  obtain ⟨f, c, h1, h2, h3⟩ := h
  exact ⟨f, c, h1, e _ _ h2, e _ _ h3⟩
theorem LamsAre.mono {F F' : Hp} (e : Ex F F') : ∀ {vs : List V} {ls : List Lam}, LamsAre F vs ls → LamsAre F' vs ls
  | [], [], _ => trivial
  | _ :: _, _ :: _, ⟨h1, h2⟩ => ⟨h1.mono e, h2.mono e⟩
/-! ### slots -/
/-- a bag of draws -/
def BagD (ds : List PyData) : Prop := ∃ (cells : List Int) (i s t : Int), ds = [.list (cells.map .int), .int i, .int s, .int t] ∧ (∀ c ∈ cells, 0 ≤ c) ∧ 0 ≤ i ∧ 0 ≤ s ∧ 0 ≤ t ∧ t < 2147483629
/-- what an owned thing of another shape is: told by the addresses that it owns and by what stands there -/
def plainO : HO → Bool
  | .lst _ => true
  | .dK _ => true
  | .dT _ => true
  | .ins _ _ _ => true
  | .own _ => true
  | _ => false
structure OwT where
  id : Addr
  fp : List Addr
  ok : Frag → Hp → Hp → V → Prop
  isr : ∀ {K : Frag} {F H : Hp} {v : V}, ok K F H v → v = .ref id
  mono : ∀ {K : Frag} {F F' H H' : Hp} {v : V}, Ex F F' → (∀ a ∈ fp, ∀ u, H a = some u → H' a = some u) → ok K F H v → ok K F' H' v
  there : ∀ {K : Frag} {F H : Hp} {v : V}, ok K F H v → ∀ a ∈ fp, ∃ u, H a = some u ∧ plainO u = true
  /-- the lists in it -/
  rows : List (Addr × List PyData)
  held : ∀ {K : Frag} {F H : Hp} {v : V}, ok K F H v → ∀ r ∈ rows, ∃ vs, H r.1 = some (.lst vs) ∧ DqAll K F vs r.2
inductive Sl where
  | un
  | d (x : PyData)
  | ol (a : Addr) (ds : List PyData)
  | bg (b : Addr)
  | v (x : V)
  | dt (a : Addr) (kvs : List (List Key × PyData))
  | dk (a : Addr) (kvs : List (Key × PyData))
  | oo (a : Addr) (rows : List (Addr × List PyData))
  | fv (l : Lam)
  | fl (ls : List Lam)
  | ow (t : OwT)
def Sl.fp : Sl → List Addr
  | .ol a _ => [a]
  | .bg a => [a]
  | .dt a _ => [a]
  | .dk a _ => [a]
  | .oo a rows => a :: rows.map (·.1)
  | .ow t => t.fp
  | _ => []
def KVp {κ : Type} (K : Frag) (F : Hp) : List (κ × V) → List (κ × PyData) → Prop := Paired fun p q => p.1 = q.1 ∧ Dq K F p.2 q.2
def SlOk (K : Frag) (F H : Hp) (o : Option V) : Sl → Prop
  | .un => True
  | .d x => ∃ v, o = some v ∧ Dq K F v x
  | .ol a ds => o = some (.ref a) ∧ ∃ vs, H a = some (.lst vs) ∧ DqAll K F vs ds
  | .bg a => o = some (.ref a) ∧ ∃ ds vs, BagD ds ∧ H a = some (.lst vs) ∧ DqAll K F vs ds
  | .v x => o = some x
  | .dt a kvs => o = some (.ref a) ∧ ∃ kvs', H a = some (.dT kvs') ∧ KVp K F kvs' kvs
  | .dk a kvs => o = some (.ref a) ∧ ∃ kvs', H a = some (.dK kvs') ∧ KVp K F kvs' kvs
  | .fv l => ∃ v, o = some v ∧ IsLam F v l
  | .fl ls => ∃ a vs, o = some (.ref a) ∧ F a = some (.lst vs) ∧ LamsAre F vs ls
  | .ow t => ∃ v, o = some v ∧ t.ok K F H v
  | .oo a rows => o = some (.ref a) ∧ H a = some (.lst (rows.map fun r => .ref r.1)) ∧ (a :: rows.map (·.1)).Nodup ∧ ∀ r ∈ rows, ∃ vs, H r.1 = some (.lst vs) ∧ DqAll K F vs r.2
def Own (env : List Sl) (a : Addr) : Prop := ∃ (i : Nat) (s : Sl), env[i]? = some s ∧ a ∈ s.fp

theorem paired_imp {α β : Type} {R S : α → β → Prop} : ∀ {xs : List α} {ys : List β}, Paired R xs ys → (∀ a b, R a b → S a b) → Paired S xs ys
  | _, _, .nil, _ => .nil
  | _, _, .cons r t, f => .cons (f _ _ r) (paired_imp t f)
theorem kvp_mono {κ : Type} {K : Frag} {F F' : Hp} (e : Ex F F') {a : List (κ × V)} {b : List (κ × PyData)} (h : KVp K F a b) : KVp K F' a b :=
  paired_imp h fun _ _ z => ⟨z.1, dp_mono e _ _ z.2⟩

theorem slok_mono {K : Frag} {F F' H H' : Hp} {o : Option V} {s : Sl} (e : Ex F F') (k : ∀ a ∈ s.fp, ∀ u, H a = some u → H' a = some u) (h : SlOk K F H o s) : SlOk K F' H' o s := by
  cases s with
  | un => trivial
  | d x => obtain ⟨v, h1, h2⟩ := h; exact ⟨v, h1, dp_mono e _ _ h2⟩
  | ol a ds => obtain ⟨h1, vs, h2, h3⟩ := h; exact ⟨h1, vs, k a (by simp [Sl.fp]) _ h2, dpa_mono e _ _ h3⟩
  | bg a => obtain ⟨h1, ds, vs, h4, h2, h3⟩ := h; exact ⟨h1, ds, vs, h4, k a (by simp [Sl.fp]) _ h2, dpa_mono e _ _ h3⟩
  | v x => exact h
  | dt a kvs => obtain ⟨h1, vs, h2, h3⟩ := h; exact ⟨h1, vs, k a (by simp [Sl.fp]) _ h2, kvp_mono e h3⟩
  | dk a kvs => obtain ⟨h1, vs, h2, h3⟩ := h; exact ⟨h1, vs, k a (by simp [Sl.fp]) _ h2, kvp_mono e h3⟩
  | fv l => obtain ⟨v, h1, h2⟩ := h; exact ⟨v, h1, h2.mono e⟩
  | fl ls => obtain ⟨a, vs, h1, h2, h3⟩ := h; exact ⟨a, vs, h1, e _ _ h2, h3.mono e⟩
  | ow t => obtain ⟨v, h1, h2⟩ := h; exact ⟨v, h1, t.mono e k h2⟩
  | oo a rows =>
    obtain ⟨h1, h2, h3, h4⟩ := h
    refine ⟨h1, k a (by simp [Sl.fp]) _ h2, h3, fun r hr => ?_⟩
    obtain ⟨vs, q1, q2⟩ := h4 r hr
    exact ⟨vs, k r.1 (List.mem_cons_of_mem _ (List.mem_map_of_mem hr)) _ q1, dpa_mono e _ _ q2⟩
theorem slok_there {K : Frag} {F H : Hp} {o : Option V} {s : Sl} (h : SlOk K F H o s) {a : Addr} (ha : a ∈ s.fp) : H a ≠ none := by
  cases s with
  | un => cases ha
  | ow t => obtain ⟨v, _, h2⟩ := h; obtain ⟨u, h3, _⟩ := t.there h2 a ha; rw [h3]; intro z; cases z
  | fv l => cases ha
  | fl l => cases ha
  | d x => cases ha
  | v x => cases ha
  | ol b ds => obtain ⟨_, vs, h2, _⟩ := h; have e : a = b := by simpa [Sl.fp] using ha
               subst e; rw [h2]; intro z; cases z
  | bg b => obtain ⟨_, ds, vs, _, h2, _⟩ := h; have e : a = b := by simpa [Sl.fp] using ha
            subst e; rw [h2]; intro z; cases z
  | dt b ds => obtain ⟨_, vs, h2, _⟩ := h; have e : a = b := by simpa [Sl.fp] using ha
               subst e; rw [h2]; intro z; cases z
  | dk b ds => obtain ⟨_, vs, h2, _⟩ := h; have e : a = b := by simpa [Sl.fp] using ha
               subst e; rw [h2]; intro z; cases z
  | oo b rows =>
    obtain ⟨_, h2, _, h4⟩ := h
    have ha : a = b ∨ a ∈ rows.map (·.1) := List.mem_cons.mp ha
    rcases ha with rfl | ha
    · rw [h2]; intro z; cases z
    · obtain ⟨r, hr, rfl⟩ := List.mem_map.mp ha
      obtain ⟨vs, q1, _⟩ := h4 r hr
      rw [q1]; intro z; cases z

/-- what stood at a def's entry: the frozen part, the heap, the objects that may be changed -/
structure G where
  F0 : Hp
  H0 : Hp
  M : List Addr

/-! tables of code objects: K tells them at its end, by entries that no look finds -/
def markOf (q : Addr × Obj) : Option (Addr × Str) := match q.2.data with
  | .fields vs => match vs.toList with
    | [.str m _, .ref P, .str n _] => if m = ("lam!" : Str) then some (P, n) else none
    | _ => none
  | _ => none
def tabsK (K : Frag) : List (Addr × Str) := K.filterMap markOf
def ntb (o : HO) : Prop := ∀ ps, o ≠ .tbl ps
def TabF (F H : Hp) (P : Addr) (q : Str) : Prop := ∃ ps : Array Value, H P = some (.tbl ps) ∧ TriplesOk ps.toList ∧ ∀ (pos : Pos) (cv : Value), codeAmong pos ps.toList = some cv → ∃ c, cv = .ref c ∧ F c = some (LamX.CodeO c q)
structure TkOk (K : Frag) (F H : Hp) : Prop where
  fn : ∀ a ps, F a ≠ some (.tbl ps)
  tb : ∀ p ∈ tabsK K, TabF F H p.1 p.2
structure Sk (K : Frag) (F H : Hp) (σ : SS) (env : List Sl) : Prop where
  len : σ.length = env.length
  sl : ∀ (i : Nat) (s : Sl), env[i]? = some s → SlOk K F H (σ[i]?.getD none) s
  nd : ∀ (i j : Nat) (s t : Sl) (a : Addr), env[i]? = some s → env[j]? = some t → a ∈ s.fp → a ∈ t.fp → i = j
  fr : ∀ a, Own env a → F a = none
  ex : Ex F H
  tf : ∀ (a : Addr) (vs : List V), H a = some (.tup vs) → F a = some (.tup vs)
  tk : TkOk K F H
structure GtOk (K : Frag) (g : G) (H : Hp) : Prop where
  g7 : ∀ a ps, g.H0 a = some (.tbl ps) → H a ≠ none
  g8 : ∀ p ∈ tabsK K, g.H0 p.1 ≠ none
structure St (K : Frag) (g : G) (F H : Hp) (σ : SS) (env : List Sl) : Prop extends Sk K F H σ env where
  g1 : ∀ a o, g.H0 a = some o → a ∉ g.M → ntb o → H a = some o
  g2 : ∀ a, Own env a → g.H0 a = none ∨ a ∈ g.M
  g3 : Ex g.F0 F
  g4 : ∀ a, F a ≠ none → g.F0 a ≠ none ∨ g.H0 a = none
  g5 : ∀ a ∈ g.M, H a ≠ none
  g6 : ∀ a ∈ g.M, g.H0 a ≠ none
  gt : GtOk K g H

section
variable {K : Frag} {g : G} {F F' H H' : Hp} {σ : SS} {env : List Sl} {p : Addr} {o : HO}
theorem TabF.mono {P : Addr} {q : Str} (t : TabF F H P q) (e : Ex F F') (h : ∀ u, H P = some u → H' P = some u) : TabF F' H' P q := by
  obtain ⟨ps, h1, h2, h3⟩ := t
  exact ⟨ps, h _ h1, h2, fun pos cv hc => by obtain ⟨c, e1, e2⟩ := h3 pos cv hc; exact ⟨c, e1, e _ _ e2⟩⟩
theorem TkOk.grow (t : TkOk K F H) (e : Ex H H') : TkOk K F H' := ⟨t.fn, fun p hp => (t.tb p hp).mono (Ex.refl F) fun u q => e _ u q⟩
theorem TkOk.put {p' : Addr} (t : TkOk K F H) (h : ∀ p ∈ tabsK K, p.1 ≠ p') : TkOk K F (upd H p' o) := ⟨t.fn, fun p hp => (t.tb p hp).mono (Ex.refl F) fun u q => by rw [upd_ne (h p hp)]; exact q⟩
theorem TkOk.ne (t : TkOk K F H) {a : Addr} (h : ∀ ps, H a ≠ some (.tbl ps)) : ∀ p ∈ tabsK K, p.1 ≠ a := fun p hp z => by
  obtain ⟨ps, h1, _⟩ := t.tb p hp
  exact h ps (z ▸ h1)
theorem slok_ntb {o : Option V} {s : Sl} (h : SlOk K F H o s) {a : Addr} (ha : a ∈ s.fp) : ∀ ps, H a ≠ some (.tbl ps) := by
  cases s with
  | un => cases ha
  | ow t => obtain ⟨v, _, h2⟩ := h; obtain ⟨u, h3, h4⟩ := t.there h2 a ha; rw [h3]; intro ps z; cases z; cases h4
  | fv l => cases ha
  | fl l => cases ha
  | d x => cases ha
  | v x => cases ha
  | ol b ds => obtain ⟨_, vs, h2, _⟩ := h; have e : a = b := by simpa [Sl.fp] using ha
               subst e; rw [h2]; intro _ z; cases z
  | bg b => obtain ⟨_, ds, vs, _, h2, _⟩ := h; have e : a = b := by simpa [Sl.fp] using ha
            subst e; rw [h2]; intro _ z; cases z
  | dt b ds => obtain ⟨_, vs, h2, _⟩ := h; have e : a = b := by simpa [Sl.fp] using ha
               subst e; rw [h2]; intro _ z; cases z
  | dk b ds => obtain ⟨_, vs, h2, _⟩ := h; have e : a = b := by simpa [Sl.fp] using ha
               subst e; rw [h2]; intro _ z; cases z
  | oo b rows =>
    obtain ⟨_, h2, _, h4⟩ := h
    have ha : a = b ∨ a ∈ rows.map (·.1) := List.mem_cons.mp ha
    rcases ha with rfl | ha
    · rw [h2]; intro _ z; cases z
    · obtain ⟨r, hr, rfl⟩ := List.mem_map.mp ha
      obtain ⟨vs, q1, _⟩ := h4 r hr
      rw [q1]; intro _ z; cases z
theorem Sk.ntb (st : Sk K F H σ env) {a : Addr} (h : Own env a) : ∀ ps, H a ≠ some (.tbl ps) := by
  obtain ⟨i, s, h1, h2⟩ := h
  exact slok_ntb (st.sl i s h1) h2
theorem GtOk.grow (t : GtOk K g H) (e : ∀ a, H' a = none → H a = none) : GtOk K g H' := ⟨fun a ps h z => t.g7 a ps h (e a z), t.g8⟩
theorem Sk.there (st : Sk K F H σ env) {a : Addr} (h : Own env a) : H a ≠ none := by
  obtain ⟨i, s, h1, h2⟩ := h
  exact slok_there (st.sl i s h1) h2
theorem Sk.notown (st : Sk K F H σ env) (h : H p = none) : ¬ Own env p := fun z => st.there z h
/-- the heap grows -/
theorem Sk.grow (st : Sk K F H σ env) (e : Ex H H') (t : ∀ (a : Addr) (vs : List V), H' a = some (.tup vs) → H a = some (.tup vs)) : Sk K F H' σ env :=
  ⟨st.len, fun i s h => slok_mono (Ex.refl F) (fun a _ u q => e a u q) (st.sl i s h), st.nd, st.fr, st.ex.trans e, fun a vs h => st.tf a vs (t a vs h), st.tk.grow e⟩
theorem St.grow (st : St K g F H σ env) (e : Ex H H') (t : ∀ (a : Addr) (vs : List V), H' a = some (.tup vs) → H a = some (.tup vs)) : St K g F H' σ env :=
  { st.toSk.grow e t with g1 := fun a o h m n => e a o (st.g1 a o h m n), gt := st.gt.grow fun a z => e.none z, g2 := st.g2, g3 := st.g3, g4 := st.g4, g5 := fun a m z => st.g5 a m (e.none z), g6 := st.g6 }
theorem St.alloc (st : St K g F H σ env) (h : H p = none) (ht : ∀ vs, o ≠ .tup vs := by intro _ z; cases z) : St K g F (upd H p o) σ env := st.grow (Ex.new h) fun a vs q => by
  by_cases e : a = p
  · subst e; rw [upd_same] at q; exact absurd (Option.some.inj q) (ht vs)
  · rw [upd_ne e] at q; exact q
/-- frozen part and heap grow by what is fresh -/
theorem St.h0 (st : St K g F H σ env) (h : H p = none) : g.H0 p = none := by
  cases q : g.H0 p with
  | none => rfl
  | some u =>
    by_cases m : p ∈ g.M
    · exact absurd h (st.g5 p m)
    · have hn : TL.ntb u := fun ps z => st.gt.g7 p ps (by rw [q, z]) h
      rw [st.g1 p u q m hn] at h; cases h
theorem Sk.freeze (st : Sk K F H σ env) (h : H p = some o) (hF : F p = none) (hn : ¬ Own env p) (hb : TL.ntb o := by intro _ z; cases z) : Sk K (upd F p o) H σ env where
  len := st.len
  sl := fun i s e => slok_mono (Ex.new hF) (fun a _ u q => q) (st.sl i s e)
  nd := st.nd
  fr := fun a ha => by
    have hne : a ≠ p := fun z => hn (z ▸ ha)
    rw [upd_ne hne]; exact st.fr a ha
  ex := fun a u q => by
    by_cases hp : a = p
    · subst hp; rw [upd_same] at q; cases q; exact h
    · rw [upd_ne hp] at q; exact st.ex a u q
  tf := fun a vs q => by
    by_cases hp : a = p
    · subst hp; rw [h] at q; cases q; exact upd_same
    · rw [upd_ne hp]; exact st.tf a vs q
  tk := ⟨fun a ps q => by
    by_cases hp : a = p
    · subst hp; rw [upd_same] at q; exact hb ps (Option.some.inj q)
    · rw [upd_ne hp] at q; exact st.tk.fn a ps q, fun r hr => (st.tk.tb r hr).mono (Ex.new hF) fun _ q => q⟩
theorem St.freeze (st : St K g F H σ env) (h : H p = some o) (hF : F p = none) (hn : ¬ Own env p) (h0 : g.H0 p = none) (hb : TL.ntb o := by intro _ z; cases z) : St K g (upd F p o) H σ env :=
  { st.toSk.freeze h hF hn hb with
    gt := st.gt,
    g1 := st.g1, g2 := st.g2, g3 := st.g3.trans (Ex.new hF), g5 := st.g5, g6 := st.g6,
    g4 := fun a ha => by
      by_cases hp : a = p
      · subst hp; exact .inr h0
      · rw [upd_ne hp] at ha; exact st.g4 a ha }
theorem St.allocF (st : St K g F H σ env) (h : H p = none) (hb : TL.ntb o := by intro _ z; cases z) : St K g (upd F p o) (upd H p o) σ env where
  len := st.len
  sl := fun i s e => slok_mono (Ex.new (st.ex.none h)) (fun a _ u q => Ex.new h a u q) (st.sl i s e)
  nd := st.nd
  fr := fun a ha => by
    have hne : a ≠ p := fun z => st.toSk.notown h (z ▸ ha)
    rw [upd_ne hne]; exact st.fr a ha
  ex := fun a u q => by
    by_cases e : a = p
    · subst e; rw [upd_same] at q; rw [upd_same]; exact q
    · rw [upd_ne e] at q; rw [upd_ne e]; exact st.ex a u q
  tf := fun a vs q => by
    by_cases e : a = p
    · subst e; rw [upd_same] at q; rw [upd_same]; exact q
    · rw [upd_ne e] at q; rw [upd_ne e]; exact st.tf a vs q
  tk := ⟨fun a ps q => by
    by_cases hp : a = p
    · subst hp; rw [upd_same] at q; exact hb ps (Option.some.inj q)
    · rw [upd_ne hp] at q; exact st.tk.fn a ps q, fun r hr => (st.tk.tb r hr).mono (Ex.new (st.ex.none h)) fun u q => Ex.new h _ u q⟩
  gt := st.gt.grow fun a z => by
    by_cases e : a = p
    · subst e; exact h
    · rw [upd_ne e] at z; exact z
  g1 := fun a u q m n => by
    have hne : a ≠ p := fun z => by subst z; have := st.g1 a u q m n; rw [h] at this; cases this
    rw [upd_ne hne]; exact st.g1 a u q m n
  g2 := st.g2
  g3 := st.g3.trans (Ex.new (st.ex.none h))
  g4 := fun a ha => by
    by_cases e : a = p
    · subst e; exact .inr (st.h0 h)
    · rw [upd_ne e] at ha; exact st.g4 a ha
  g5 := fun a m z => by
    by_cases e : a = p
    · subst e; rw [upd_same] at z; cases z
    · rw [upd_ne e] at z; exact st.g5 a m z
  g6 := st.g6
theorem getD_set {σ : SS} {i j : Nat} {v : V} (hl : i < σ.length) : ((σ.set i (some v))[j]?.getD none) = if i = j then some v else (σ[j]?.getD none) := by
  rw [List.getElem?_set]
  by_cases h : i = j
  · subst h; rw [if_pos rfl, if_pos rfl, if_pos hl]; rfl
  · rw [if_neg h, if_neg h]
theorem set_get {env : List Sl} {i j : Nat} {s t : Sl} (h : (env.set i s)[j]? = some t) : (i = j ∧ t = s) ∨ (i ≠ j ∧ env[j]? = some t) := by
  rw [List.getElem?_set] at h
  by_cases e : i = j
  · subst e
    rw [if_pos rfl] at h
    split at h
    · exact .inl ⟨rfl, (Option.some.inj h).symm⟩
    · cases h
  · rw [if_neg e] at h; exact .inr ⟨e, h⟩
theorem own_set {i : Nat} {s : Sl} {a : Addr} (h : Own (env.set i s) a) : a ∈ s.fp ∨ Own env a := by
  obtain ⟨j, t, h1, h2⟩ := h
  rcases set_get h1 with ⟨_, rfl⟩ | ⟨_, h1⟩
  · exact .inl h2
  · exact .inr ⟨j, t, h1, h2⟩
/-- a slot is stored: s is a new description, its footprint new or the slot's own -/
theorem Sk.set {i : Nat} {v : V} {s : Sl} (st : Sk K F H σ env) (hi : i < env.length) (h : SlOk K F H (some v) s) (hfr : ∀ a ∈ s.fp, F a = none)
    (hn : ∀ a ∈ s.fp, ∀ (j : Nat) (t : Sl), j ≠ i → env[j]? = some t → a ∉ t.fp) : Sk K F H (σ.set i (some v)) (env.set i s) where
  len := by rw [List.length_set, List.length_set]; exact st.len
  sl := fun j t e => by
    rw [getD_set (by rw [st.len]; exact hi)]
    rcases set_get e with ⟨rfl, rfl⟩ | ⟨ne, e⟩
    · rw [if_pos rfl]; exact h
    · rw [if_neg ne]; exact st.sl j t e
  nd := fun j k t u a ej ek ht hu => by
    rcases set_get ej with ⟨rfl, rfl⟩ | ⟨ne, ej2⟩
    · rcases set_get ek with ⟨rfl, rfl⟩ | ⟨ne2, ek⟩
      · rfl
      · exact absurd hu (hn a ht k u (Ne.symm ne2) ek)
    · rcases set_get ek with ⟨rfl, rfl⟩ | ⟨ne2, ek⟩
      · exact absurd ht (hn a hu j t (Ne.symm ne) ej2)
      · exact st.nd j k t u a ej2 ek ht hu
  fr := fun a ha => by
    rcases own_set ha with h1 | h1
    · exact hfr a h1
    · exact st.fr a h1
  ex := st.ex
  tf := st.tf
  tk := st.tk
theorem St.set {i : Nat} {v : V} {s : Sl} (st : St K g F H σ env) (hi : i < env.length) (h : SlOk K F H (some v) s) (hfr : ∀ a ∈ s.fp, F a = none)
    (hn : ∀ a ∈ s.fp, ∀ (j : Nat) (t : Sl), j ≠ i → env[j]? = some t → a ∉ t.fp) (hg : ∀ a ∈ s.fp, g.H0 a = none ∨ a ∈ g.M) : St K g F H (σ.set i (some v)) (env.set i s) :=
  { st.toSk.set hi h hfr hn with
    g1 := st.g1, gt := st.gt, g3 := st.g3, g4 := st.g4, g5 := st.g5, g6 := st.g6,
    g2 := fun a ha => by
      rcases own_set ha with h1 | h1
      · exact hg a h1
      · exact st.g2 a h1 }
theorem St.setD {i : Nat} {v : V} {x : PyData} (st : St K g F H σ env) (hi : i < env.length) (h : Dq K F v x) : St K g F H (σ.set i (some v)) (env.set i (.d x)) :=
  st.set hi ⟨v, rfl, h⟩ (fun _ h => by cases h) (fun _ h => by cases h) (fun _ h => by cases h)
theorem St.setV {i : Nat} {v : V} (st : St K g F H σ env) (hi : i < env.length) : St K g F H (σ.set i (some v)) (env.set i (.v v)) :=
  st.set (s := .v v) hi rfl (fun _ h => by cases h) (fun _ h => by cases h) (fun _ h => by cases h)
theorem St.setL {i : Nat} {a : Addr} {vs : List V} {ds : List PyData} (st : St K g F H σ env) (hi : i < env.length) (hH : H a = some (.lst vs)) (hd : DqAll K F vs ds) (hF : F a = none) (hn : ¬ Own env a) (h0 : g.H0 a = none) :
    St K g F H (σ.set i (some (.ref a))) (env.set i (.ol a ds)) := by
  have one : ∀ b ∈ (Sl.ol a ds).fp, b = a := fun b hb => by simpa [Sl.fp] using hb
  exact st.set (s := .ol a ds) hi ⟨rfl, vs, hH, hd⟩ (fun b hb => by rw [one b hb]; exact hF) (fun b hb j t _ e ht => hn ⟨j, t, e, by rw [← one b hb]; exact ht⟩) (fun b hb => by rw [one b hb]; exact .inl h0)
/-- an object of a slot is changed in place -/
theorem St.write {i : Nat} {a : Addr} {s s' : Sl} {o' : HO} (st : St K g F H σ env) (hs : env[i]? = some s) (ha : s.fp = [a]) (ha' : s'.fp = [a]) (h : SlOk K F (upd H a o') (σ[i]?.getD none) s') (ht : ∀ vs, o' ≠ .tup vs := by intro _ z; cases z) : St K g F (upd H a o') σ (env.set i s') := by
  have own : Own env a := ⟨i, s, hs, by rw [ha]; simp⟩
  have hF : F a = none := st.fr a own
  have hi : i < env.length := (List.getElem?_eq_some_iff.mp hs).1
  have sub : ∀ b, Own (env.set i s') b → Own env b := fun b hb => by
    rcases own_set hb with h1 | h1
    · rw [ha'] at h1
      have e : b = a := by simpa using h1
      rw [e]; exact own
    · exact h1
  have oth : ∀ (j : Nat) (t : Sl), i ≠ j → env[j]? = some t → a ∉ t.fp := fun j t ne e ht => ne (st.nd i j s t a hs e (by rw [ha]; simp) ht)
  refine { len := by rw [List.length_set]; exact st.len, sl := fun j t e => ?_, nd := fun j k t u b ej ek ht hu => ?_, fr := fun b hb => st.fr b (sub b hb), ex := st.ex.mut hF, tf := fun b vs q => by
             by_cases e : b = a
             · subst e; rw [upd_same] at q; exact absurd (Option.some.inj q) (ht vs)
             · rw [upd_ne e] at q; exact st.tf b vs q, tk := st.tk.put (st.tk.ne (st.toSk.ntb own)), gt := st.gt.grow fun b z => by
             by_cases e : b = a
             · subst e; rw [upd_same] at z; cases z
             · rw [upd_ne e] at z; exact z, g1 := fun b u q m n => ?_, g2 := fun b hb => st.g2 b (sub b hb), g3 := st.g3, g4 := st.g4, g5 := fun b m z => ?_, g6 := st.g6 }
  · rcases set_get e with ⟨rfl, rfl⟩ | ⟨ne, e⟩
    · exact h
    · refine slok_mono (Ex.refl F) (fun b hb u q => ?_) (st.sl j t e)
      have hne : b ≠ a := fun z => oth j t ne e (z ▸ hb)
      rw [upd_ne hne]; exact q
  · rcases set_get ej with ⟨rfl, rfl⟩ | ⟨ne, ej2⟩
    · rcases set_get ek with ⟨rfl, rfl⟩ | ⟨ne2, ek⟩
      · rfl
      · rw [ha'] at ht
        have e : b = a := by simpa using ht
        exact absurd (e ▸ hu) (oth k u ne2 ek)
    · rcases set_get ek with ⟨rfl, rfl⟩ | ⟨ne2, ek⟩
      · rw [ha'] at hu
        have e : b = a := by simpa using hu
        exact absurd (e ▸ ht) (oth j t ne ej2)
      · exact st.nd j k t u b ej2 ek ht hu
  · have hne : b ≠ a := fun z => by
      subst z
      rcases st.g2 b own with h1 | h1
      · rw [h1] at q; cases q
      · exact m h1
    rw [upd_ne hne]; exact st.g1 b u q m n
  · by_cases hb : b = a
    · subst hb; rw [upd_same] at z; cases z
    · rw [upd_ne hb] at z; exact st.g5 b m z
/-- a slot's description is weakened -/
theorem St.weak {i : Nat} {s s' : Sl} (st : St K g F H σ env) (hs : env[i]? = some s) (hfp : ∀ a ∈ s'.fp, a ∈ s.fp) (h : SlOk K F H (σ[i]?.getD none) s → SlOk K F H (σ[i]?.getD none) s') : St K g F H σ (env.set i s') := by
  have sub : ∀ b, Own (env.set i s') b → Own env b := fun b hb => by
    rcases own_set hb with h1 | h1
    · exact ⟨i, s, hs, hfp b h1⟩
    · exact h1
  refine { len := by rw [List.length_set]; exact st.len, sl := fun j t e => ?_, nd := fun j k t u b ej ek ht hu => ?_, fr := fun b hb => st.fr b (sub b hb), ex := st.ex, tf := st.tf, tk := st.tk, gt := st.gt,
           g1 := st.g1, g2 := fun b hb => st.g2 b (sub b hb), g3 := st.g3, g4 := st.g4, g5 := st.g5, g6 := st.g6 }
  · rcases set_get e with ⟨rfl, rfl⟩ | ⟨ne, e⟩
    · exact h (st.sl i s hs)
    · exact st.sl j t e
  · rcases set_get ej with ⟨rfl, rfl⟩ | ⟨ne, ej2⟩
    · rcases set_get ek with ⟨rfl, rfl⟩ | ⟨ne2, ek⟩
      · rfl
      · exact st.nd i k s u b hs ek (hfp b ht) hu
    · rcases set_get ek with ⟨rfl, rfl⟩ | ⟨ne2, ek⟩
      · exact st.nd j i t s b ej2 hs ht (hfp b hu)
      · exact st.nd j k t u b ej2 ek ht hu
end
end TL

namespace TL
open PySem PySem.Spec PyProof.Rows L2

/-! ### judgements -/
inductive Exc where
  | own (n : Str)
def ExcW (K : Frag) (W : WX) (σ : SS) (H : Hp) : Exc → Prop
  | .own n => W (.ref (He.ga K n)) none σ H
structure SemE (X : Cx) (e : Expr) (σ : SS) (H : Hp) (Q : VK) : Prop where
  run : ∀ (pins : List (Addr × Obj)) (s : Shared), Inv X pins σ H s → wpAny (model X.prog X.w) X.A (eval e X.env) (EP X pins σ Q) X.xe s
def semE (X : Cx) (e : Expr) : TE := fun σ H Q => SemE X e σ H Q
structure SemT (X : Cx) (e : Expr) (σ : SS) (H : Hp) (Q : Bool → Hp → Prop) : Prop where
  run : ∀ (pins : List (Addr × Obj)) (s : Shared), Inv X pins σ H s → wpAny (model X.prog X.w) X.A (isTrue e X.env (eval e X.env)) (TP X pins σ Q) X.xe s
def semT (X : Cx) (e : Expr) : TT := fun σ H Q => SemT X e σ H Q
structure SemS (X : Cx) (st : List Stmt) (D : Ends) (σ : SS) (H : Hp) : Prop where
  run : ∀ (pins : List (Addr × Obj)) (s : Shared), Inv X pins σ H s → wpAny (model X.prog X.w) X.A (execs st X.env) (SP X pins D) X.xe s
def semS (X : Cx) (st : List Stmt) : TS := fun D σ H => SemS X st D σ H
section
variable {X : Cx}
theorem peS (e : Expr) : PE X e (semE X e) := ⟨fun pins s _ _ _ I h => h.run pins s I⟩
theorem ptS (e : Expr) : PT X e (semT X e) := ⟨fun pins s _ _ _ I h => h.run pins s I⟩
theorem pssS (st : List Stmt) : PSs X st (semS X st) := ⟨fun pins s _ _ _ I h => h.run pins s I⟩
theorem semE_of {e : Expr} {t : TE} (h : PE X e t) {σ : SS} {H : Hp} {Q : VK} (q : t σ H Q) : semE X e σ H Q := ⟨fun pins s I => h.run pins s σ H Q I q⟩
theorem semT_of {e : Expr} {t : TT} (h : PT X e t) {σ : SS} {H : Hp} {Q : Bool → Hp → Prop} (q : t σ H Q) : semT X e σ H Q := ⟨fun pins s I => h.run pins s σ H Q I q⟩
theorem semS_of {st : List Stmt} {t : TS} (h : PSs X st t) {D : Ends} {σ : SS} {H : Hp} (q : t D σ H) : semS X st D σ H := ⟨fun pins s I => h.run pins s σ H D I q⟩
end

def Hld (env : List Sl) (a : Addr) (ds : List PyData) : Prop := (∃ i : Nat, env[i]? = some (Sl.ol a ds)) ∨ (∃ (i : Nat) (b : Addr) (rows : List (Addr × List PyData)), env[i]? = some (Sl.oo b rows) ∧ (a, ds) ∈ rows) ∨ ∃ (i : Nat) (t : OwT), env[i]? = some (Sl.ow t) ∧ (a, ds) ∈ t.rows
/-- how a value is known: z: by the frozen part; else it is an object that a slot holds -/
def Rd (K : Frag) (F : Hp) (env : List Sl) (z : Bool) (v : V) (d : PyData) : Prop :=
  match z with
  | true => Dq K F v d
  | false => ∃ a ds, Hld env a ds ∧ v = .ref a ∧ d = .list ds
def HX (X : Cx) (g : G) (env : List Sl) (Ψ : Exc → Prop) (W : WX) (σ : SS) : Prop := ∀ c F' H', Ψ c → St X.K g F' H' σ env → ExcW X.K W σ H' c
def WE (X : Cx) (g : G) (e : Expr) (env : List Sl) (Φ : PyData → Bool → Prop) (Ψ : Exc → Prop) : Prop :=
  ∀ (W : WX), Takes X W → ∀ (σ : SS) (F H : Hp), St X.K g F H σ env → HX X g env Ψ W σ →
    ∀ Q : VK, (∀ d z v F' H', Φ d z → St X.K g F' H' σ env → Ex F F' → Rd X.K F' env z v d → Q v H') → semE X e σ H Q
/-- a test -/
def WT (X : Cx) (g : G) (e : Expr) (env : List Sl) (Φ : Bool → Prop) (Ψ : Exc → Prop) : Prop :=
  ∀ (W : WX), Takes X W → ∀ (σ : SS) (F H : Hp), St X.K g F H σ env → HX X g env Ψ W σ →
    ∀ Q : Bool → Hp → Prop, (∀ b F' H', Φ b → St X.K g F' H' σ env → Ex F F' → Q b H') → semT X e σ H Q
/-- a new list, no slot's -/
def NewL (K : Frag) (g : G) (F H : Hp) (env : List Sl) (v : V) (ds : List PyData) : Prop :=
  ∃ p vs, v = .ref p ∧ H p = some (.lst vs) ∧ DqAll K F vs ds ∧ F p = none ∧ ¬ Own env p ∧ g.H0 p = none
def WN (X : Cx) (g : G) (e : Expr) (env : List Sl) (Φ : List PyData → Prop) (Ψ : Exc → Prop) : Prop :=
  ∀ (W : WX), Takes X W → ∀ (σ : SS) (F H : Hp), St X.K g F H σ env → HX X g env Ψ W σ →
    ∀ Q : VK, (∀ ds v F' H', Φ ds → St X.K g F' H' σ env → Ex F F' → NewL X.K g F' H' env v ds → Q v H') → semE X e σ H Q
/-- arguments: data, or a slot handed on -/
inductive Ar where
  | d (x : PyData)
  | s (i : Nat)
def ArOk (K : Frag) (F : Hp) (σ : SS) (v : V) : Ar → Prop
  | .d x => Dq K F v x
  | .s i => σ[i]? = some (some v)
def ArAll (K : Frag) (F : Hp) (σ : SS) : List V → List Ar → Prop
  | [], [] => True
  | v :: vs, a :: as => ArOk K F σ v a ∧ ArAll K F σ vs as
  | _, _ => False
def WA (X : Cx) (g : G) (es : List Expr) (env : List Sl) (Φ : List Ar → Prop) (Ψ : Exc → Prop) : Prop :=
  ∃ t, PA X es t ∧ ∀ (W : WX), Takes X W → ∀ (σ : SS) (F H : Hp), St X.K g F H σ env → HX X g env Ψ W σ →
    ∀ Q : List V → Hp → Prop, (∀ as vs F' H', Φ as → St X.K g F' H' σ env → Ex F F' → ArAll X.K F' σ vs as → Q vs H') → t σ H Q

section
variable {X : Cx} {g : G} {env : List Sl} {Ψ : Exc → Prop} {pos : Pos} {a b c e : Expr} {K : Frag} {F F' H : Hp} {σ : SS}
theorem rd_mono {z : Bool} {v : V} {d : PyData} (e : Ex F F') (h : Rd K F env z v d) : Rd K F' env z v d := by
  cases z with
  | true => exact dp_mono e _ _ h
  | false => exact h
theorem hld_at {a : Addr} {ds : List PyData} (st : Sk K F H σ env) (h : Hld env a ds) : ∃ vs, H a = some (.lst vs) ∧ DqAll K F vs ds := by
  rcases h with ⟨i, hi⟩ | ⟨i, b, rows, hi, hm⟩ | ⟨i, t, hi, hm⟩
  · exact (st.sl i _ hi).2
  · exact (st.sl i _ hi).2.2.2 _ hm
  · obtain ⟨v, _, h⟩ := st.sl i _ hi
    exact t.held h _ hm
/-- as it stands now -/
theorem rd_now {z : Bool} {v : V} {d : PyData} (st : Sk K F H σ env) (h : Rd K F env z v d) : Dq K H v d := by
  cases z with
  | true => exact dp_mono st.ex _ _ h
  | false =>
    obtain ⟨a, ds, hi, rfl, rfl⟩ := h
    obtain ⟨vs, h2, h3⟩ := hld_at st hi
    exact .lst (SqL.of h2) (dpa_mono st.ex _ _ h3)
theorem rd_nowP {z : Bool} {v : V} {d : PyData} (st : Sk K F H σ env) (h : Rd K F env z v d) (c : SeqAt.shaped d = true) : Dp K H v d := dq_dp _ _ (shp_lay c) (rd_now st h)
/-- a list: where it stands, its items by the frozen part -/
theorem rd_lst {z : Bool} {v : V} {ds : List PyData} (st : Sk K F H σ env) (h : Rd K F env z v (.list ds)) : ∃ a vs, v = .ref a ∧ SqL K H a vs ∧ DqAll K F vs ds := by
  cases z with
  | true =>
    obtain ⟨a, xs, rfl, h2, h3⟩ := dp_lst h
    exact ⟨a, xs, rfl, ex_l st.ex h2, h3⟩
  | false =>
    obtain ⟨a, ds', hi, rfl, e⟩ := h
    injection e with e
    subst e
    obtain ⟨vs, h2, h3⟩ := hld_at st hi
    exact ⟨a, vs, rfl, SqL.of h2, h3⟩
theorem rd_tup {z : Bool} {v : V} {ds : List PyData} (st : Sk K F H σ env) (h : Rd K F env z v (.tuple ds)) : ∃ a vs, v = .ref a ∧ SqT K H a vs ∧ DqAll K F vs ds := by
  cases z with
  | true =>
    obtain ⟨a, xs, rfl, h2, h3⟩ := dp_tup h
    exact ⟨a, xs, rfl, ex_t st.ex h2, h3⟩
  | false => obtain ⟨_, _, _, _, e⟩ := h; cases e
theorem rd_int {z : Bool} {v : V} {i : Int} (h : Rd K F env z v (.int i)) : v = .int i := by
  cases z with
  | true => exact dp_int h
  | false => obtain ⟨_, _, _, _, e⟩ := h; cases e
theorem rd_str {z : Bool} {v : V} {i : Str} (h : Rd K F env z v (.str i)) : v = .str i := by
  cases z with
  | true => exact dp_str h
  | false => obtain ⟨_, _, _, _, e⟩ := h; cases e
theorem rd_bl {z : Bool} {v : V} {i : Bool} (h : Rd K F env z v (.bool i)) : v = .bl i := by
  cases z with
  | true => exact dp_bl h
  | false => obtain ⟨_, _, _, _, e⟩ := h; cases e
theorem rd_non {z : Bool} {v : V} (h : Rd K F env z v .none) : v = .non := by
  cases z with
  | true => exact dp_non h
  | false => obtain ⟨_, _, _, _, e⟩ := h; cases e

/-! ### combinators -/
theorem WE.mono {Φ Φ' : PyData → Bool → Prop} (h : WE X g e env Φ Ψ) (k : ∀ d z, Φ d z → Φ' d z) : WE X g e env Φ' Ψ :=
  fun W tk σ F H st hx Q hQ => h W tk σ F H st hx Q fun d z v F' H' p => hQ d z v F' H' (k d z p)
/-- a two-place operation on data -/
def DOp (K : Frag) (g : G) (env : List Sl) (r : R2) (d1 : PyData) (z1 : Bool) (d2 : PyData) (z2 : Bool) (Φ : PyData → Bool → Prop) : Prop :=
  ∀ (σ : SS) (F H : Hp) (v1 v2 : V), St K g F H σ env → Rd K F env z1 v1 d1 → Rd K F env z2 v2 d2 →
    ∀ Q : VK, (∀ d z v F' H', Φ d z → St K g F' H' σ env → Ex F F' → Rd K F' env z v d → Q v H') → r v1 v2 H Q
theorem we_op {Φ : PyData → Bool → Prop} {R : PyData → Bool → PyData → Bool → Prop} {r : R2} (hop : PE X e (tOp r (semE X a) (semE X b)))
    (hr : ∀ d1 z1 d2 z2, R d1 z1 d2 z2 → DOp X.K g env r d1 z1 d2 z2 Φ)
    (h : WE X g a env (fun d1 z1 => WE X g b env (fun d2 z2 => R d1 z1 d2 z2) Ψ) Ψ) : WE X g e env Φ Ψ := by
  intro W tk σ F H st hx Q hQ
  refine semE_of hop ?_
  refine h W tk σ F H st hx _ fun d1 z1 v1 F1 H1 h1 st1 e1 r1 => ?_
  refine h1 W tk σ F1 H1 st1 hx _ fun d2 z2 v2 F2 H2 h2 st2 e2 r2 => ?_
  exact hr _ _ _ _ h2 σ F2 H2 v1 v2 st2 (rd_mono e2 r1) r2 Q fun d z v F' H' hp s3 e3 r3 => hQ d z v F' H' hp s3 ((e1.trans e2).trans e3) r3
theorem wt_op {Φ : Bool → Prop} {R : PyData → Bool → PyData → Bool → Prop} {r : R2} (hop : PT X e (tTest (tOp r (semE X a) (semE X b))))
    (hr : ∀ d1 z1 d2 z2, R d1 z1 d2 z2 → DOp X.K g env r d1 z1 d2 z2 (fun d _ => ∃ k, d = .bool k ∧ Φ k))
    (h : WE X g a env (fun d1 z1 => WE X g b env (fun d2 z2 => R d1 z1 d2 z2) Ψ) Ψ) : WT X g e env Φ Ψ := by
  intro W tk σ F H st hx Q hQ
  refine semT_of hop ?_
  refine h W tk σ F H st hx _ fun d1 z1 v1 F1 H1 h1 st1 e1 r1 => ?_
  refine h1 W tk σ F1 H1 st1 hx _ fun d2 z2 v2 F2 H2 h2 st2 e2 r2 => ?_
  refine hr _ _ _ _ h2 σ F2 H2 v1 v2 st2 (rd_mono e2 r1) r2 _ fun d z v F' H' ⟨k, hd, hp⟩ s3 e3 r3 => ?_
  subst hd
  exact ⟨k, rd_bl r3, hQ k F' H' hp s3 ((e1.trans e2).trans e3)⟩
def DUn (K : Frag) (g : G) (env : List Sl) (r : V → Hp → VK → Prop) (d1 : PyData) (z1 : Bool) (Φ : PyData → Bool → Prop) : Prop :=
  ∀ (σ : SS) (F H : Hp) (v1 : V), St K g F H σ env → Rd K F env z1 v1 d1 →
    ∀ Q : VK, (∀ d z v F' H', Φ d z → St K g F' H' σ env → Ex F F' → Rd K F' env z v d → Q v H') → r v1 H Q
theorem we_un1 {Φ : PyData → Bool → Prop} {R : PyData → Bool → Prop} {r : V → Hp → VK → Prop} (hop : PE X e (tUn r (semE X a)))
    (hr : ∀ d1 z1, R d1 z1 → DUn X.K g env r d1 z1 Φ) (h : WE X g a env R Ψ) : WE X g e env Φ Ψ := by
  intro W tk σ F H st hx Q hQ
  refine semE_of hop ?_
  refine h W tk σ F H st hx _ fun d1 z1 v1 F1 H1 h1 st1 e1 r1 => ?_
  exact hr _ _ h1 σ F1 H1 v1 st1 r1 Q fun d z v F' H' hp s3 e3 r3 => hQ d z v F' H' hp s3 (e1.trans e3) r3
theorem dop_of {r : R2} {d1 d2 d : PyData} {z1 z2 z : Bool} {Φ : PyData → Bool → Prop} (hp : Φ d z)
    (h : ∀ (σ : SS) (F H : Hp) (v1 v2 : V) (Q : VK), St K g F H σ env → Rd K F env z1 v1 d1 → Rd K F env z2 v2 d2 → (∀ v, Rd K F env z v d → Q v H) → r v1 v2 H Q) : DOp K g env r d1 z1 d2 z2 Φ :=
  fun σ F H v1 v2 st r1 r2 Q hQ => h σ F H v1 v2 Q st r1 r2 fun v rv => hQ d z v F H hp st (Ex.refl F) rv
theorem dop_l {r r' : R2} {d1 d2 : PyData} {z1 z2 : Bool} {Φ : PyData → Bool → Prop} (h : DOp K g env r d1 z1 d2 z2 Φ) : DOp K g env (fun x y H Q => r x y H Q ∨ r' x y H Q) d1 z1 d2 z2 Φ :=
  fun σ F H v1 v2 st r1 r2 Q hQ => .inl (h σ F H v1 v2 st r1 r2 Q hQ)
theorem dop_r {r r' : R2} {d1 d2 : PyData} {z1 z2 : Bool} {Φ : PyData → Bool → Prop} (h : DOp K g env r' d1 z1 d2 z2 Φ) : DOp K g env (fun x y H Q => r x y H Q ∨ r' x y H Q) d1 z1 d2 z2 Φ :=
  fun σ F H v1 v2 st r1 r2 Q hQ => .inr (h σ F H v1 v2 st r1 r2 Q hQ)
/-- a new object, frozen at once -/
theorem put_lst {p : Addr} {vs : List V} {ds : List PyData} {Φ : PyData → Bool → Prop} {Q : VK} (st : St K g F H σ env) (hn : H p = none) (hd : DqAll K F vs ds) (hp : Φ (.list ds) true)
    (hQ : ∀ d z v F' H', Φ d z → St K g F' H' σ env → Ex F F' → Rd K F' env z v d → Q v H') : Q (.ref p) (upd H p (.lst vs)) := by
  have hF : F p = none := st.ex.none hn
  exact hQ (.list ds) true (.ref p) (upd F p (.lst vs)) _ hp (st.allocF hn) (Ex.new hF) (.lst (SqL.of upd_same) (dpa_mono (Ex.new hF) _ _ hd))
theorem put_tup {p : Addr} {vs : List V} {ds : List PyData} {Φ : PyData → Bool → Prop} {Q : VK} (st : St K g F H σ env) (hn : H p = none) (hd : DqAll K F vs ds) (hp : Φ (.tuple ds) true)
    (hQ : ∀ d z v F' H', Φ d z → St K g F' H' σ env → Ex F F' → Rd K F' env z v d → Q v H') : Q (.ref p) (upd H p (.tup vs)) := by
  have hF : F p = none := st.ex.none hn
  exact hQ (.tuple ds) true (.ref p) (upd F p (.tup vs)) _ hp (st.allocF hn) (Ex.new hF) (.tup upd_same (dpa_mono (Ex.new hF) _ _ hd))
theorem put_new {p : Addr} {vs : List V} {ds : List PyData} {Φ : List PyData → Prop} {Q : VK} (st : St K g F H σ env) (hn : H p = none) (hd : DqAll K F vs ds) (hp : Φ ds)
    (hQ : ∀ ds v F' H', Φ ds → St K g F' H' σ env → Ex F F' → NewL K g F' H' env v ds → Q v H') : Q (.ref p) (upd H p (.lst vs)) :=
  hQ ds (.ref p) F _ hp (st.alloc hn) (Ex.refl F) ⟨p, vs, rfl, upd_same, hd, st.ex.none hn, st.toSk.notown hn, st.h0 hn⟩
theorem we_of_wn {Φ : PyData → Bool → Prop} (h : WN X g e env (fun ds => Φ (.list ds) true) Ψ) : WE X g e env Φ Ψ := fun W tk σ F H st hx Q hQ =>
  h W tk σ F H st hx Q fun ds v F' H' hp st' e' ⟨p, vs, hv, h1, h2, h3, h4, h5⟩ => by
    subst hv
    have e2 := Ex.new (o := .lst vs) h3
    exact hQ (.list ds) true (.ref p) (upd F' p (.lst vs)) H' hp (st'.freeze h1 h3 h4 h5) (e'.trans e2) (.lst (SqL.of upd_same) (dpa_mono e2 _ _ h2))

/-! ### constants and names -/
section
variable {Φ : PyData → Bool → Prop}
theorem we_int {i : Int} {j : Nat} (h : Φ (.int i) true) : WE X g (.Constant (.int i) j pos) env Φ Ψ :=
  fun W tk σ F H st hx Q hQ => semE_of pe_int (hQ _ true _ F H h st (Ex.refl F) (.int i))
theorem we_str {i : Str} {j : Nat} (h : Φ (.str i) true) : WE X g (.Constant (.str i) j pos) env Φ Ψ :=
  fun W tk σ F H st hx Q hQ => semE_of pe_str (hQ _ true _ F H h st (Ex.refl F) (.str i))
theorem we_bool {i : Bool} {j : Nat} (h : Φ (.bool i) true) : WE X g (.Constant (.bool i) j pos) env Φ Ψ :=
  fun W tk σ F H st hx Q hQ => semE_of pe_bl (hQ _ true _ F H h st (Ex.refl F) (.bl i))
theorem we_none {j : Nat} (h : Φ .none true) : WE X g (.Constant .none j pos) env Φ Ψ :=
  fun W tk σ F H st hx Q hQ => semE_of pe_non (hQ _ true _ F H h st (Ex.refl F) .non)
theorem getD_some {σ : SS} {i : Nat} {v : V} (h : σ[i]?.getD none = some v) : σ[i]? = some (some v) := by
  cases e : σ[i]? with
  | none => rw [e] at h; cases h
  | some o => rw [e] at h; exact congrArg some h
/-- a name that holds data -/
theorem we_n (i : Nat) {d : PyData} {x : Str} (h : Φ d true) (he : env[i]? = some (.d d) := by rfl) (hN : X.N[i]? = some x := by rfl)
    (hv : Vis X.env.scope x := by first | exact Or.inl rfl | exact Or.inr (Or.inl rfl) | exact Or.inr (Or.inr rfl)) (hd : (x == ("__debug__" : Str)) = false := by decide)
    (hcd : (x == ("__classdict__" : Str)) = false := by decide) : WE X g (.Name x pos) env Φ Ψ := fun W tk σ F H st hx Q hQ => by
  obtain ⟨v, h1, h2⟩ := st.sl i _ he
  exact semE_of (pe_var hN hv hd hcd) ⟨v, getD_some h1, hQ d true v F H h st (Ex.refl F) h2⟩
/-- a name that holds a list of one's own -/
theorem we_nl (i : Nat) {al : Addr} {ds : List PyData} {x : Str} (h : Φ (.list ds) false) (he : env[i]? = some (.ol al ds) := by rfl) (hN : X.N[i]? = some x := by rfl)
    (hv : Vis X.env.scope x := by first | exact Or.inl rfl | exact Or.inr (Or.inl rfl) | exact Or.inr (Or.inr rfl)) (hd : (x == ("__debug__" : Str)) = false := by decide)
    (hcd : (x == ("__classdict__" : Str)) = false := by decide) : WE X g (.Name x pos) env Φ Ψ := fun W tk σ F H st hx Q hQ => by
  obtain ⟨h1, h2⟩ := st.sl i _ he
  exact semE_of (pe_var hN hv hd hcd) ⟨_, getD_some h1, hQ _ false _ F H h st (Ex.refl F) ⟨al, ds, .inl ⟨i, he⟩, rfl, rfl⟩⟩
/-- a module's int, a module's text -/
theorem we_gint {n : Int} {x : Str} (hm : ∃ t, X.mg x = some (.int n t)) (h : Φ (.int n) true) (hg : Gl X x := by rfl) (hd : (x == ("__debug__" : Str)) = false := by decide) : WE X g (.Name x pos) env Φ Ψ :=
  fun W tk σ F H st hx Q hQ => by
    obtain ⟨t, ht⟩ := hm
    exact semE_of (pe_glob hg ht (v := .int n) ⟨t, rfl⟩ hd) (hQ _ true _ F H h st (Ex.refl F) (.int n))
theorem we_gstr {n : Str} {x : Str} (hm : ∃ t, X.mg x = some (.str n t)) (h : Φ (.str n) true) (hg : Gl X x := by rfl) (hd : (x == ("__debug__" : Str)) = false := by decide) : WE X g (.Name x pos) env Φ Ψ :=
  fun W tk σ F H st hx Q hQ => by
    obtain ⟨t, ht⟩ := hm
    exact semE_of (pe_glob hg ht (v := .str n) ⟨t, rfl⟩ hd) (hQ _ true _ F H h st (Ex.refl F) (.str n))
end
end
end TL

namespace TL
open PySem PySem.Spec PyProof.Rows L2

section
variable {X : Cx} {g : G} {env : List Sl} {Ψ : Exc → Prop} {pos : Pos} {a b c e : Expr} {K : Frag} {F F' H : Hp} {σ : SS}

/-! ### list + list over any list that is read -/
def rCatL (K : Frag) : R2 := fun x y H Q => ∃ l b xs zs, x = .ref l ∧ y = .ref b ∧ SqL K H l xs ∧ SqL K H b zs ∧ xs.length + zs.length ≤ sizeLine ∧ ∀ p, H p = none → Q (.ref p) (upd H p (.lst (xs ++ zs)))
theorem op_catL : OpR X (binaryOp .Add) (rCatL X.K) := by
  intro pins s σ H x y v u Q I rx ry h
  obtain ⟨l, b, xs, zs, rfl, rfl, hH, hB, hz, q⟩ := h
  cases rx
  cases ry
  obtain ⟨vs, r, ⟨⟨cls, dd, data, sl⟩, n, ho, hc, hdn, hd⟩, hl⟩ := I.list hH
  obtain ⟨ws, r2, ⟨⟨cls2, dd2, data2, sl2⟩, n2, ho2, hc2, hdn2, hd2⟩, hl2⟩ := I.list hB
  simp only at hc hd hc2 hd2
  subst hc hd hc2 hd2
  have e1 := r.length
  have e2 := r2.length
  have e : vs.toArray ++ ws.toArray = (vs ++ ws).toArray := by simp
  refine concat_meets ⟨_, ho, rfl⟩ ⟨_, ho2, rfl⟩ noFill_list_add seq_list_add PySem.F.slot_list_add PySem.F.entry_list_add (PySem.F.args_list_add_2 _ _) (list_addW l b vs.toArray ws.toArray n n2 dd dd2 sl sl2 (by simp only [List.size_toArray]; omega)) ⟨ho, ho2, ?_⟩
  rw [e]
  exact ⟨.ref _, _, I.lnew (t' := s.toks) (r.append r2) (by rw [List.length_append]; omega), rfl, q _ I.fresh⟩

/-! ### arithmetic -/
theorem dop_I0 {f : Int → Int → V} {i j : Int} {z1 z2 : Bool} {Φ : PyData → Bool → Prop} {d : PyData} (h : Φ d true) (hf : ∀ F, Dq K F (f i j) d) : DOp K g env (rI0 f) (.int i) z1 (.int j) z2 Φ :=
  dop_of h fun σ F H v1 v2 Q st r1 r2 q => ⟨i, j, rd_int r1, rd_int r2, q _ (hf F)⟩
theorem dop_I {C : Int → Int → Prop} {f : Int → Int → V} {i j : Int} {z1 z2 : Bool} {Φ : PyData → Bool → Prop} {d : PyData} (hc : C i j) (h : Φ d true) (hf : ∀ F, Dq K F (f i j) d) : DOp K g env (rI C f) (.int i) z1 (.int j) z2 Φ :=
  dop_of h fun σ F H v1 v2 Q st r1 r2 q => ⟨i, j, rd_int r1, rd_int r2, hc, q _ (hf F)⟩
inductive AddP (Φ : PyData → Bool → Prop) : PyData → Bool → PyData → Bool → Prop
  | int {i j : Int} {z1 z2 : Bool} : Φ (.int (i + j)) true → AddP Φ (.int i) z1 (.int j) z2
  | str {i j : Str} {z1 z2 : Bool} : Φ (.str (i ++ j)) true → i.length + j.length ≤ sizeLine → AddP Φ (.str i) z1 (.str j) z2
  | lst {xs ys : List PyData} {z1 z2 : Bool} : Φ (.list (xs ++ ys)) true → xs.length + ys.length ≤ sizeLine → AddP Φ (.list xs) z1 (.list ys) z2
  | tup {xs ys : List PyData} {z1 z2 : Bool} : Φ (.tuple (xs ++ ys)) true → xs.length + ys.length ≤ sizeLine → AddP Φ (.tuple xs) z1 (.tuple ys) z2
abbrev rAddS : R2 := fun x y H Q => ∃ i j, x = .str i ∧ y = .str j ∧ i.length + j.length ≤ sizeLine ∧ Q (.str (i ++ j)) H
abbrev rAddA (K : Frag) : R2 := fun x y H Q => (rI0 fun i j => .int (i + j)) x y H Q ∨ (fun x y H Q => rAddS x y H Q ∨ (fun x y H Q => rCatL K x y H Q ∨ rCatA K x y H Q) x y H Q) x y H Q
theorem op_addA : OpR X (binaryOp .Add) (rAddA X.K) := op_add.or (op_add_str.or (op_catL.or op_catA))
theorem dop_add {Φ : PyData → Bool → Prop} {d1 d2 : PyData} {z1 z2 : Bool} (h : AddP Φ d1 z1 d2 z2) : DOp K g env (rAddA K) d1 z1 d2 z2 Φ := by
  cases h with
  | int h => exact dop_l (dop_I0 h fun F => .int _)
  | str h hl => exact dop_r (dop_l (dop_of h fun σ F H v1 v2 Q st r1 r2 q => ⟨_, _, rd_str r1, rd_str r2, hl, q _ (.str _)⟩))
  | lst h hl =>
    refine dop_r (dop_r (dop_l fun σ F H v1 v2 st r1 r2 Q hQ => ?_))
    obtain ⟨a1, vs1, rfl, s1, p1⟩ := rd_lst st.toSk r1
    obtain ⟨a2, vs2, rfl, s2, p2⟩ := rd_lst st.toSk r2
    exact ⟨a1, a2, vs1, vs2, rfl, rfl, s1, s2, by rw [dpa_len p1, dpa_len p2]; exact hl, fun p hp => put_lst st hp (dpa_app p1 p2) h hQ⟩
  | tup h hl =>
    refine dop_r (dop_r (dop_r fun σ F H v1 v2 st r1 r2 Q hQ => ?_))
    obtain ⟨a1, vs1, rfl, s1, p1⟩ := rd_tup st.toSk r1
    obtain ⟨a2, vs2, rfl, s2, p2⟩ := rd_tup st.toSk r2
    refine ⟨a1, a2, vs1, vs2, rfl, rfl, s1, s2, by rw [dpa_len p1, dpa_len p2]; exact hl, fun e => ?_, fun _ e => ?_, fun _ _ p hp => put_tup st hp (dpa_app p1 p2) h hQ⟩
    · subst e
      cases p1
      rw [List.nil_append] at h
      refine hQ _ z2 _ F H ?_ st (Ex.refl F) r2
      cases z2 with
      | true => exact h
      | false => obtain ⟨_, _, _, _, e⟩ := r2; cases e
    subst e
    cases p2
    rw [List.append_nil] at h
    refine hQ _ z1 _ F H ?_ st (Ex.refl F) r1
    cases z1 with
    | true => exact h
    | false => obtain ⟨_, _, _, _, e⟩ := r1; cases e
section
variable {Φ : PyData → Bool → Prop}
theorem we_add (h : WE X g a env (fun d1 z1 => WE X g b env (fun d2 z2 => AddP Φ d1 z1 d2 z2) Ψ) Ψ) : WE X g (.BinOp a .Add b pos) env Φ Ψ :=
  we_op (pe_op op_addA (peS a) (peS b)) (fun _ _ _ _ => dop_add) h
inductive IntP (C : Int → Int → Prop) (f : Int → Int → Int) (Φ : PyData → Bool → Prop) : PyData → Bool → PyData → Bool → Prop
  | mk {i j : Int} {z1 z2 : Bool} : Φ (.int (f i j)) true → C i j → IntP C f Φ (.int i) z1 (.int j) z2
theorem we_sub (h : WE X g a env (fun d1 z1 => WE X g b env (fun d2 z2 => IntP (fun _ _ => True) (fun i j => i - j) Φ d1 z1 d2 z2) Ψ) Ψ) : WE X g (.BinOp a .Sub b pos) env Φ Ψ :=
  we_op (pe_op op_sub (peS a) (peS b)) (fun _ _ _ _ ⟨h, _⟩ => dop_I0 h fun F => .int _) h
theorem we_mul (h : WE X g a env (fun d1 z1 => WE X g b env (fun d2 z2 => IntP CMul (fun i j => i * j) Φ d1 z1 d2 z2) Ψ) Ψ) : WE X g (.BinOp a .Mult b pos) env Φ Ψ :=
  we_op (pe_op op_mul (peS a) (peS b)) (fun _ _ _ _ ⟨h, hc⟩ => dop_I hc h fun F => .int _) h
theorem we_mulW (h : WE X g a env (fun d1 z1 => WE X g b env (fun d2 z2 => IntP CMulW (fun i j => i * j) Φ d1 z1 d2 z2) Ψ) Ψ) : WE X g (.BinOp a .Mult b pos) env Φ Ψ :=
  we_op (pe_op op_mulW (peS a) (peS b)) (fun _ _ _ _ ⟨h, hc⟩ => dop_I hc h fun F => .int _) h
theorem we_div (h : WE X g a env (fun d1 z1 => WE X g b env (fun d2 z2 => IntP CDivW (fun i j => i / j) Φ d1 z1 d2 z2) Ψ) Ψ) : WE X g (.BinOp a .FloorDiv b pos) env Φ Ψ :=
  we_op (pe_op op_fdivW (peS a) (peS b)) (fun _ _ _ _ ⟨h, hc⟩ => dop_I hc h fun F => .int _) h
theorem we_mod (h : WE X g a env (fun d1 z1 => WE X g b env (fun d2 z2 => IntP (fun _ j => 0 < j) (fun i j => i % j) Φ d1 z1 d2 z2) Ψ) Ψ) : WE X g (.BinOp a .Mod b pos) env Φ Ψ :=
  we_op (pe_op op_mod (peS a) (peS b)) (fun _ _ _ _ ⟨h, hc⟩ => dop_I hc h fun F => .int _) h
theorem we_pow (h : WE X g a env (fun d1 z1 => WE X g b env (fun d2 z2 => IntP CPow (fun i j => i ^ j.toNat) Φ d1 z1 d2 z2) Ψ) Ψ) : WE X g (.BinOp a .Pow b pos) env Φ Ψ :=
  we_op (pe_op op_pow (peS a) (peS b)) (fun _ _ _ _ ⟨h, hc⟩ => dop_I hc h fun F => .int _) h
theorem cdiv_small {j : Int} (i : Int) (h : 0 < j) (h2 : j < 4611686018427387904) : CDivW i j := wide_div h (b := 62) (by omega) (by decide) (by decide)
theorem we_neg (h : WE X g a env (fun d1 z1 => ∃ i, d1 = .int i ∧ Φ (.int (-i)) true) Ψ) : WE X g (.UnaryOp .USub a pos) env Φ Ψ :=
  we_un1 (pe_un un_neg (peS a)) (fun d1 z1 ⟨i, hi, hp⟩ σ F H v1 st r1 Q hQ => ⟨i, by subst hi; exact rd_int r1, hQ _ true _ F H hp st (Ex.refl F) (.int _)⟩) h
end

/-! ### comparisons: k is the answer -/
def CP (K : Frag) (g : G) (env : List Sl) (r : R2) (d1 : PyData) (z1 : Bool) (d2 : PyData) (z2 : Bool) (k : Bool) : Prop :=
  ∀ (σ : SS) (F H : Hp) (v1 v2 : V), St K g F H σ env → Rd K F env z1 v1 d1 → Rd K F env z2 v2 d2 → ∀ Q : VK, Q (.bl k) H → r v1 v2 H Q
theorem cp_l {r r' : R2} {d1 d2 : PyData} {z1 z2 k : Bool} (h : CP K g env r d1 z1 d2 z2 k) : CP K g env (fun x y H Q => r x y H Q ∨ r' x y H Q) d1 z1 d2 z2 k := fun σ F H v1 v2 st r1 r2 Q q => .inl (h σ F H v1 v2 st r1 r2 Q q)
theorem cp_r {r r' : R2} {d1 d2 : PyData} {z1 z2 k : Bool} (h : CP K g env r' d1 z1 d2 z2 k) : CP K g env (fun x y H Q => r x y H Q ∨ r' x y H Q) d1 z1 d2 z2 k := fun σ F H v1 v2 st r1 r2 Q q => .inr (h σ F H v1 v2 st r1 r2 Q q)
theorem we_cp {Φ : PyData → Bool → Prop} {op : CmpOp} {r : R2} (ho : OpR X (compareOp op) r) (h : WE X g a env (fun d1 z1 => WE X g b env (fun d2 z2 => ∃ k, CP X.K g env r d1 z1 d2 z2 k ∧ Φ (.bool k) true) Ψ) Ψ)
    (hm : behindInMarks op b = false := by first | exact nomark _ | rfl) : WE X g (.Compare a [op] [b] pos) env Φ Ψ :=
  we_op (pe_cmpR ho (peS a) (peS b) hm) (fun _ _ _ _ ⟨k, hc, hp⟩ σ F H v1 v2 st r1 r2 Q hQ => hc σ F H v1 v2 st r1 r2 Q (hQ _ true _ F H hp st (Ex.refl F) (.bl k))) h
theorem wt_cp {Φ : Bool → Prop} {op : CmpOp} {r : R2} (ho : OpR X (compareOp op) r) (h : WE X g a env (fun d1 z1 => WE X g b env (fun d2 z2 => ∃ k, CP X.K g env r d1 z1 d2 z2 k ∧ Φ k) Ψ) Ψ)
    (hm : behindInMarks op b = false := by first | exact nomark _ | rfl) : WT X g (.Compare a [op] [b] pos) env Φ Ψ :=
  wt_op (pt_cmpR ho (peS a) (peS b) hm) (fun _ _ _ _ ⟨k, hc, hp⟩ σ F H v1 v2 st r1 r2 Q hQ => hc σ F H v1 v2 st r1 r2 Q (hQ (.bool k) true _ F H ⟨k, rfl, hp⟩ st (Ex.refl F) (.bl k))) h
/-- a op b op' c -/
theorem chain_run {r r' : R2} {C : Bool → Prop} (h : WE X g a env (fun d1 z1 => WE X g b env (fun d2 z2 => ∃ k, CP X.K g env r d1 z1 d2 z2 k ∧ (k = true → WE X g c env (fun d3 z3 => ∃ k', CP X.K g env r' d2 z2 d3 z3 k' ∧ C k') Ψ) ∧ (k = false → C false)) Ψ) Ψ)
    {W : WX} (tk : Takes X W) {F H : Hp} (st : St X.K g F H σ env) (hx : HX X g env Ψ W σ) {Q : VK} (hQ : ∀ k F' H', C k → St X.K g F' H' σ env → Ex F F' → Q (.bl k) H') : tChain r r' (semE X a) (semE X b) (semE X c) σ H Q := by
  refine h W tk σ F H st hx _ fun d1 z1 v1 F1 H1 h1 st1 e1 r1 => ?_
  refine h1 W tk σ F1 H1 st1 hx _ fun d2 z2 v2 F2 H2 h2 st2 e2 r2 => ?_
  obtain ⟨k, hc, ht, hf⟩ := h2
  refine hc σ F2 H2 v1 v2 st2 (rd_mono e2 r1) r2 _ ⟨k, rfl, ?_⟩
  cases k with
  | true =>
    rw [if_pos rfl]
    refine ht rfl W tk σ F2 H2 st2 hx _ fun d3 z3 v3 F3 H3 h3 st3 e3 r3 => ?_
    obtain ⟨k', hc', hp⟩ := h3
    exact hc' σ F3 H3 v2 v3 st3 (rd_mono e3 r2) r3 Q (hQ k' F3 H3 hp st3 ((e1.trans e2).trans e3))
  | false =>
    rw [if_neg Bool.false_ne_true]
    exact hQ false F2 H2 (hf rfl) st2 (e1.trans e2)
theorem we_ch {Φ : PyData → Bool → Prop} {op op' : CmpOp} {r r' : R2} (ho : OpR X (compareOp op) r) (ho' : OpR X (compareOp op') r')
    (h : WE X g a env (fun d1 z1 => WE X g b env (fun d2 z2 => ∃ k, CP X.K g env r d1 z1 d2 z2 k ∧ (k = true → WE X g c env (fun d3 z3 => ∃ k', CP X.K g env r' d2 z2 d3 z3 k' ∧ Φ (.bool k') true) Ψ) ∧ (k = false → Φ (.bool false) true)) Ψ) Ψ)
    (hm : lastMarks [op, op'] [b, c] = false := by with_unfolding_all rfl) : WE X g (.Compare a [op, op'] [b, c] pos) env Φ Ψ := fun W tk σ F H st hx Q hQ =>
  semE_of (pe_chain ho ho' (peS a) (peS b) (peS c) hm) (chain_run (C := fun k => Φ (.bool k) true) h tk st hx fun k F' H' hp s e => hQ _ true _ F' H' hp s e (.bl k))
theorem wt_ch {Φ : Bool → Prop} {op op' : CmpOp} {r r' : R2} (ho : OpR X (compareOp op) r) (ho' : OpR X (compareOp op') r')
    (h : WE X g a env (fun d1 z1 => WE X g b env (fun d2 z2 => ∃ k, CP X.K g env r d1 z1 d2 z2 k ∧ (k = true → WE X g c env (fun d3 z3 => ∃ k', CP X.K g env r' d2 z2 d3 z3 k' ∧ Φ k') Ψ) ∧ (k = false → Φ false)) Ψ) Ψ)
    (hm : lastMarks [op, op'] [b, c] = false := by with_unfolding_all rfl) : WT X g (.Compare a [op, op'] [b, c] pos) env Φ Ψ := fun W tk σ F H st hx Q hQ =>
  semT_of (pt_chain ho ho' (peS a) (peS b) (peS c) hm) (chain_run h tk st hx fun k F' H' hp s e => ⟨k, rfl, hQ k F' H' hp s e⟩)

/-- the operators' rules, by what they take -/
abbrev rLtA (K : Frag) : R2 := fun x y H Q => (rI0 fun i j => .bl (decide (i < j))) x y H Q ∨ rLtT K x y H Q
theorem op_ltA {k : Nat} (hr : Room k X.A) : OpR X (compareOp .Lt) (rLtA X.K) := op_lt.or (op_ltT hr.units0)
abbrev rEqA (K : Frag) : R2 := fun x y H Q => rEq x y H Q ∨ rEqD K x y H Q
theorem op_eqA {k : Nat} (hr : Room k X.A) : OpR X (compareOp .Eq) (rEqA X.K) := op_eq.or (op_eqD hr.units)
abbrev rNeA (K : Frag) : R2 := fun x y H Q => rNe x y H Q ∨ rNeD K x y H Q
theorem op_neA {k : Nat} (hr : Room k X.A) : OpR X (compareOp .NotEq) (rNeA X.K) := op_ne.or (op_neD hr.units)
theorem units65 {k : Nat} {A : Around} (hr : Room k A) : A.units + 65 < cLine := by have := hr.un; omega
abbrev rInS : R2 := fun x y H Q => ∃ i j, x = .str i ∧ y = .str j ∧ Q (.bl (!(Builtin.Str.occurrences j i 0 j.length 1).isEmpty)) H
abbrev rNotInS : R2 := fun x y H Q => ∃ i j, x = .str i ∧ y = .str j ∧ Q (.bl (!(!(Builtin.Str.occurrences j i 0 j.length 1).isEmpty))) H
def rInTD (K : Frag) : R2 := fun x y H Q => ∃ d ds, Dp K H x d ∧ Dp K H y (.tuple ds) ∧ SeqAt.shaped d = true ∧ SeqAt.shaped (.tuple ds) = true ∧ Q (.bl (ds.any fun z => PyData.eqv z d)) H
def rNotInTD (K : Frag) : R2 := fun x y H Q => ∃ d ds, Dp K H x d ∧ Dp K H y (.tuple ds) ∧ SeqAt.shaped d = true ∧ SeqAt.shaped (.tuple ds) = true ∧ Q (.bl (!ds.any fun z => PyData.eqv z d)) H
theorem op_inTD (hu : X.A.units + 65 < cLine) : OpR X (compareOp .In) (rInTD X.K) := by
  intro pins s σ H x y v u Q I rx ry h
  obtain ⟨d, ds, hd, he, sd, se, q⟩ := h
  obtain ⟨as, r1⟩ := Dp.reads I d x v hd rx
  obtain ⟨bs, r2⟩ := Dp.reads I (.tuple ds) y u he ry
  exact SeqAt.in_tuple_reads r2 r1 (SeqAt.canLay_of_shaped se) (SeqAt.canLay_of_shaped sd) (room_in_shaped sd hu) ⟨.bl _, H, I, rfl, q⟩
theorem op_notInTD (hu : X.A.units + 65 < cLine) : OpR X (compareOp .NotIn) (rNotInTD X.K) := by
  intro pins s σ H x y v u Q I rx ry h
  obtain ⟨d, ds, hd, he, sd, se, q⟩ := h
  obtain ⟨as, r1⟩ := Dp.reads I d x v hd rx
  obtain ⟨bs, r2⟩ := Dp.reads I (.tuple ds) y u he ry
  exact SeqAt.notIn_tuple_reads r2 r1 (SeqAt.canLay_of_shaped se) (SeqAt.canLay_of_shaped sd) (room_in_shaped sd hu) ⟨.bl _, H, I, rfl, q⟩
abbrev rInA (K : Frag) : R2 := fun x y H Q => rIn K false x y H Q ∨ (fun x y H Q => rInD K x y H Q ∨ (fun x y H Q => rInS x y H Q ∨ rInTD K x y H Q) x y H Q) x y H Q
abbrev rNotInA (K : Frag) : R2 := fun x y H Q => rIn K true x y H Q ∨ (fun x y H Q => rNotInD K x y H Q ∨ (fun x y H Q => rNotInS x y H Q ∨ rNotInTD K x y H Q) x y H Q) x y H Q
theorem op_inA {k : Nat} (hr : Room k X.A) : OpR X (compareOp .In) (rInA X.K) := op_in_seq.or ((op_inD (units65 hr)).or (op_in_str.or (op_inTD (units65 hr))))
theorem op_notInA {k : Nat} (hr : Room k X.A) : OpR X (compareOp .NotIn) (rNotInA X.K) := op_notIn_seq.or ((op_notInD (units65 hr)).or (op_notin_str.or (op_notInTD (units65 hr))))
abbrev rIsN : R2 := fun x y H Q => y = .non ∧ Q (.bl (decide (x = .non))) H
abbrev rNotN : R2 := fun x y H Q => y = .non ∧ Q (.bl (!decide (x = .non))) H

section
variable {z1 z2 : Bool} {i j : Int} {s t : Str} {d1 d2 : PyData}
theorem cp_I0 {f : Int → Int → Bool} : CP K g env (rI0 fun i j => .bl (f i j)) (.int i) z1 (.int j) z2 (f i j) := fun σ F H v1 v2 st r1 r2 Q q => ⟨i, j, rd_int r1, rd_int r2, q⟩
theorem cp_lt : CP K g env (rLtA K) (.int i) z1 (.int j) z2 (decide (i < j)) := cp_l cp_I0
theorem cp_ltT {ns ms : List Int} : CP K g env (rLtA K) (.tuple (ns.map .int)) z1 (.tuple (ms.map .int)) z2 (HT.lexLt ns ms) := cp_r fun σ F H v1 v2 st r1 r2 Q q => by
  obtain ⟨a1, vs1, rfl, s1, p1⟩ := rd_tup st.toSk r1
  obtain ⟨a2, vs2, rfl, s2, p2⟩ := rd_tup st.toSk r2
  rw [dpa_ints_eq p1] at s1
  rw [dpa_ints_eq p2] at s2
  exact ⟨a1, a2, ns, ms, rfl, rfl, s1, s2, q⟩
theorem cp_le : CP K g env (rI0 fun i j => .bl (decide (i ≤ j))) (.int i) z1 (.int j) z2 (decide (i ≤ j)) := cp_I0
theorem cp_gt : CP K g env (rI0 fun i j => .bl (decide (j < i))) (.int i) z1 (.int j) z2 (decide (j < i)) := cp_I0 (f := fun i j => decide (j < i))
theorem cp_ge : CP K g env (rI0 fun i j => .bl (decide (j ≤ i))) (.int i) z1 (.int j) z2 (decide (j ≤ i)) := cp_I0 (f := fun i j => decide (j ≤ i))
theorem vint_dec : decide (V.int i = V.int j) = decide (i = j) := by
  by_cases h : i = j
  · subst h; simp
  · rw [decide_eq_false h, decide_eq_false fun z => h (V.int.inj z)]
theorem vstr_dec : decide (V.str s = V.str t) = decide (s = t) := by
  by_cases h : s = t
  · subst h; simp
  · rw [decide_eq_false h, decide_eq_false fun z => h (V.str.inj z)]
theorem vbl_dec {k l : Bool} : decide (V.bl k = V.bl l) = decide (k = l) := by
  by_cases h : k = l
  · subst h; simp
  · rw [decide_eq_false h, decide_eq_false fun z => h (V.bl.inj z)]
theorem cp_eqI : CP K g env (rEqA K) (.int i) z1 (.int j) z2 (decide (i = j)) := cp_l fun σ F H v1 v2 st r1 r2 Q q => by
  rw [rd_int r1, rd_int r2]; exact ⟨rfl, by rw [vint_dec]; exact q⟩
theorem cp_eqS : CP K g env (rEqA K) (.str s) z1 (.str t) z2 (decide (s = t)) := cp_l fun σ F H v1 v2 st r1 r2 Q q => by
  rw [rd_str r1, rd_str r2]; exact ⟨rfl, by rw [vstr_dec]; exact q⟩
theorem cp_eqB {k l : Bool} : CP K g env (rEqA K) (.bool k) z1 (.bool l) z2 (decide (k = l)) := cp_l fun σ F H v1 v2 st r1 r2 Q q => by
  rw [rd_bl r1, rd_bl r2]; exact ⟨rfl, by rw [vbl_dec]; exact q⟩
theorem cp_eqD (h1 : SeqAt.shaped d1 = true) (h2 : SeqAt.shaped d2 = true) : CP K g env (rEqA K) d1 z1 d2 z2 (PyData.eqv d1 d2) := cp_r fun σ F H v1 v2 st r1 r2 Q q => ⟨d1, d2, rd_nowP st.toSk r1 h1, rd_nowP st.toSk r2 h2, h1, h2, q⟩
theorem cp_neI : CP K g env (rNeA K) (.int i) z1 (.int j) z2 (!decide (i = j)) := cp_l fun σ F H v1 v2 st r1 r2 Q q => by
  rw [rd_int r1, rd_int r2]; exact ⟨rfl, by rw [vint_dec]; exact q⟩
theorem cp_neS : CP K g env (rNeA K) (.str s) z1 (.str t) z2 (!decide (s = t)) := cp_l fun σ F H v1 v2 st r1 r2 Q q => by
  rw [rd_str r1, rd_str r2]; exact ⟨rfl, by rw [vstr_dec]; exact q⟩
theorem cp_neB {k l : Bool} : CP K g env (rNeA K) (.bool k) z1 (.bool l) z2 (!decide (k = l)) := cp_l fun σ F H v1 v2 st r1 r2 Q q => by
  rw [rd_bl r1, rd_bl r2]; exact ⟨rfl, by rw [vbl_dec]; exact q⟩
theorem cp_neD (h1 : SeqAt.shaped d1 = true) (h2 : SeqAt.shaped d2 = true) : CP K g env (rNeA K) d1 z1 d2 z2 (!PyData.eqv d1 d2) := cp_r fun σ F H v1 v2 st r1 r2 Q q => ⟨d1, d2, rd_nowP st.toSk r1 h1, rd_nowP st.toSk r2 h2, h1, h2, q⟩
/-- x is None -/
def isNone : PyData → Bool
  | .none => true
  | _ => false
theorem dp_isnone {v : V} {d : PyData} (h : Dq K H v d) : decide (v = .non) = isNone d := by
  cases h <;> first | rfl | exact decide_eq_false (fun z => by cases z)
theorem cp_isN : CP K g env rIsN d1 z1 .none z2 (isNone d1) := fun σ F H v1 v2 st r1 r2 Q q => ⟨rd_non r2, by rw [dp_isnone (rd_now st.toSk r1)]; exact q⟩
theorem cp_notN : CP K g env rNotN d1 z1 .none z2 (!isNone d1) := fun σ F H v1 v2 st r1 r2 Q q => ⟨rd_non r2, by rw [dp_isnone (rd_now st.toSk r1)]; exact q⟩
/-- flat things in a list or tuple -/
def fl : PyData → Option V
  | .int i => some (.int i)
  | .str s => some (.str s)
  | .none => some .non
  | _ => none
theorem fl_dp {v x : V} {d : PyData} (h : Dq K H v d) (e : fl d = some x) : v = x := by
  cases h <;> first | exact Option.some.inj e | cases e
theorem fl_flat {x : V} {d : PyData} (e : fl d = some x) : flatV x = true := by
  cases d <;> first | (have e' := Option.some.inj e; subst e'; rfl) | cases e
theorem eqV_int : eqV (.int i) (.int j) = decide (i = j) := by
  show (i == j) = _
  rw [Bool.beq_eq_decide_eq]
theorem dpa_all {vs : List V} : ∀ {ds : List PyData} {vs : List V}, DqAll K H vs ds → (∀ d ∈ ds, ∃ x, fl d = some x) → vs.all flatV = true
  | [], _, h, _ => by cases h; rfl
  | d :: ds, _, h, hf => by
    cases h with
    | cons h1 h2 =>
      obtain ⟨x, hx⟩ := hf d (List.mem_cons_self ..)
      rw [List.all_cons, fl_dp h1 hx, fl_flat hx, dpa_all (vs := []) h2 fun d hd => hf d (List.mem_cons_of_mem _ hd)]
      rfl
/-- an int in a list of ints -/
theorem inV_ints : ∀ (ns : List Int) (i : Int), inV (.int i) (ns.map V.int) = decide (i ∈ ns)
  | [], i => rfl
  | n :: ns, i => by
    have ih := inV_ints ns i
    show (eqV (.int n) (.int i) || inV (.int i) (ns.map V.int)) = _
    rw [ih, eqV_int]
    by_cases h : i = n
    · subst h; simp
    · simp [h, Ne.symm h]
theorem flat_ints (ns : List Int) : (ns.map V.int).all flatV = true := by
  rw [List.all_eq_true]
  intro x hx
  obtain ⟨n, _, rfl⟩ := List.mem_map.mp hx
  rfl
theorem cp_inI {ns : List Int} : CP K g env (rInA K) (.int i) z1 (.list (ns.map .int)) z2 (decide (i ∈ ns)) := cp_l fun σ F H v1 v2 st r1 r2 Q q => by
  obtain ⟨a2, vs2, rfl, s2, p2⟩ := rd_lst st.toSk r2
  rw [dpa_ints_eq p2] at s2
  rw [rd_int r1]
  refine ⟨a2, _, rfl, .inl s2, rfl, flat_ints ns, ?_⟩
  rw [if_neg Bool.false_ne_true, inV_ints]; exact q
theorem cp_notInI {ns : List Int} : CP K g env (rNotInA K) (.int i) z1 (.list (ns.map .int)) z2 (!decide (i ∈ ns)) := cp_l fun σ F H v1 v2 st r1 r2 Q q => by
  obtain ⟨a2, vs2, rfl, s2, p2⟩ := rd_lst st.toSk r2
  rw [dpa_ints_eq p2] at s2
  rw [rd_int r1]
  refine ⟨a2, _, rfl, .inl s2, rfl, flat_ints ns, ?_⟩
  rw [if_pos rfl, inV_ints]; exact q
theorem cp_inTI {ns : List Int} : CP K g env (rInA K) (.int i) z1 (.tuple (ns.map .int)) z2 (decide (i ∈ ns)) := cp_l fun σ F H v1 v2 st r1 r2 Q q => by
  obtain ⟨a2, vs2, rfl, s2, p2⟩ := rd_tup st.toSk r2
  rw [dpa_ints_eq p2] at s2
  rw [rd_int r1]
  refine ⟨a2, _, rfl, .inr s2, rfl, flat_ints ns, ?_⟩
  rw [if_neg Bool.false_ne_true, inV_ints]; exact q
/-- texts in a tuple, a list of texts -/
theorem eqV_str : eqV (.str s) (.str t) = decide (s = t) := by
  show (s == t) = _
  rw [Bool.beq_eq_decide_eq]
theorem inV_strs : ∀ (ns : List Str) (i : Str), inV (.str i) (ns.map V.str) = decide (i ∈ ns)
  | [], i => rfl
  | n :: ns, i => by
    have ih := inV_strs ns i
    show (eqV (.str n) (.str i) || inV (.str i) (ns.map V.str)) = _
    rw [ih, eqV_str]
    by_cases h : i = n
    · subst h; simp
    · simp [h, Ne.symm h]
theorem flat_strs (ns : List Str) : (ns.map V.str).all flatV = true := by
  rw [List.all_eq_true]
  intro x hx
  obtain ⟨n, _, rfl⟩ := List.mem_map.mp hx
  rfl
theorem dpa_strs_eq : ∀ {ns : List Str} {vs : List V}, DqAll K H vs (ns.map PyData.str) → vs = ns.map V.str
  | [], _, h => by
    have h' : DqAll K H _ [] := h
    cases h'; rfl
  | n :: ns, _, h => by
    have h' : DqAll K H _ (.str n :: ns.map PyData.str) := h
    cases h' with
    | cons h1 h2 => rw [dp_str h1, dpa_strs_eq h2]; rfl
theorem cp_inTS (ns : List Str) : CP K g env (rInA K) (.str s) z1 (.tuple (ns.map .str)) z2 (decide (s ∈ ns)) := cp_l fun σ F H v1 v2 st r1 r2 Q q => by
  obtain ⟨a2, vs2, rfl, s2, p2⟩ := rd_tup st.toSk r2
  rw [dpa_strs_eq p2] at s2
  rw [rd_str r1]
  refine ⟨a2, _, rfl, .inr s2, rfl, flat_strs ns, ?_⟩
  rw [if_neg Bool.false_ne_true, inV_strs]; exact q
theorem cp_notInTS (ns : List Str) : CP K g env (rNotInA K) (.str s) z1 (.tuple (ns.map .str)) z2 (!decide (s ∈ ns)) := cp_l fun σ F H v1 v2 st r1 r2 Q q => by
  obtain ⟨a2, vs2, rfl, s2, p2⟩ := rd_tup st.toSk r2
  rw [dpa_strs_eq p2] at s2
  rw [rd_str r1]
  refine ⟨a2, _, rfl, .inr s2, rfl, flat_strs ns, ?_⟩
  rw [if_pos rfl, inV_strs]; exact q
/-- data in a list -/
theorem cp_inD {ds : List PyData} (h1 : SeqAt.shaped d1 = true) (h2 : SeqAt.shaped (.list ds) = true) : CP K g env (rInA K) d1 z1 (.list ds) z2 (ds.any fun z => PyData.eqv z d1) :=
  cp_r (cp_l fun σ F H v1 v2 st r1 r2 Q q => ⟨d1, ds, rd_nowP st.toSk r1 h1, rd_nowP st.toSk r2 h2, h1, h2, q⟩)
theorem cp_notInD {ds : List PyData} (h1 : SeqAt.shaped d1 = true) (h2 : SeqAt.shaped (.list ds) = true) : CP K g env (rNotInA K) d1 z1 (.list ds) z2 (!ds.any fun z => PyData.eqv z d1) :=
  cp_r (cp_l fun σ F H v1 v2 st r1 r2 Q q => ⟨d1, ds, rd_nowP st.toSk r1 h1, rd_nowP st.toSk r2 h2, h1, h2, q⟩)
theorem cp_inS : CP K g env (rInA K) (.str s) z1 (.str t) z2 (!(Builtin.Str.occurrences t s 0 t.length 1).isEmpty) := cp_r (cp_r (cp_l fun σ F H v1 v2 st r1 r2 Q q => ⟨s, t, rd_str r1, rd_str r2, q⟩))
theorem cp_notInS : CP K g env (rNotInA K) (.str s) z1 (.str t) z2 (!(!(Builtin.Str.occurrences t s 0 t.length 1).isEmpty)) := cp_r (cp_r (cp_l fun σ F H v1 v2 st r1 r2 Q q => ⟨s, t, rd_str r1, rd_str r2, q⟩))
theorem cp_inTD {ds : List PyData} (h1 : SeqAt.shaped d1 = true) (h2 : SeqAt.shaped (.tuple ds) = true) : CP K g env (rInA K) d1 z1 (.tuple ds) z2 (ds.any fun z => PyData.eqv z d1) :=
  cp_r (cp_r (cp_r fun σ F H v1 v2 st r1 r2 Q q => ⟨d1, ds, rd_nowP st.toSk r1 h1, rd_nowP st.toSk r2 h2, h1, h2, q⟩))
theorem cp_notInTD {ds : List PyData} (h1 : SeqAt.shaped d1 = true) (h2 : SeqAt.shaped (.tuple ds) = true) : CP K g env (rNotInA K) d1 z1 (.tuple ds) z2 (!ds.any fun z => PyData.eqv z d1) :=
  cp_r (cp_r (cp_r fun σ F H v1 v2 st r1 r2 Q q => ⟨d1, ds, rd_nowP st.toSk r1 h1, rd_nowP st.toSk r2 h2, h1, h2, q⟩))
end

/-! ### tests, and, or, not, conditional expressions -/
section
variable {Φ : Bool → Prop}
theorem WT.mono {Φ' : Bool → Prop} (h : WT X g e env Φ Ψ) (k : ∀ d, Φ d → Φ' d) : WT X g e env Φ' Ψ :=
  fun W tk σ F H st hx Q hQ => h W tk σ F H st hx Q fun d F' H' p => hQ d F' H' (k d p)
theorem wt_e (h : WE X g e env (fun d _ => ∃ k, d = .bool k ∧ Φ k) Ψ) (he : ∀ whole, isTrue e X.env whole = (do let v ← whole; standAt e.pos; holding [v] (truthy v)) := by intro _; rfl) : WT X g e env Φ Ψ := fun W tk σ F H st hx Q hQ => by
  refine semT_of (pt_val (peS e) he) ?_
  refine h W tk σ F H st hx _ fun d z v F' H' ⟨k, hd, hp⟩ s' e' r' => ?_
  subst hd
  exact ⟨k, rd_bl r', hQ k F' H' hp s' e'⟩
theorem wt_not (h : WT X g a env (fun k => Φ (!k)) Ψ) : WT X g (.UnaryOp .Not a pos) env Φ Ψ := fun W tk σ F H st hx Q hQ =>
  semT_of (pt_not (ptS a)) (h W tk σ F H st hx _ fun k F' H' hp s' e' => hQ _ F' H' hp s' e')
theorem we_not {Φ : PyData → Bool → Prop} (h : WE X g a env (fun d _ => ∃ k, d = .bool k ∧ Φ (.bool !k) true) Ψ) : WE X g (.UnaryOp .Not a pos) env Φ Ψ := fun W tk σ F H st hx Q hQ =>
  semE_of (pe_not (peS a)) (h W tk σ F H st hx _ fun d z v F' H' ⟨k, hd, hp⟩ s' e' r' => by
    subst hd
    exact ⟨k, rd_bl r', hQ _ true _ F' H' hp s' e' (.bl _)⟩)
theorem pwS (e : Expr) (t : TT) (h : ∀ {σ H Q}, t σ H Q → ∀ (whole : Sem Value) (pins : List (Addr × Obj)) (s : Shared), Inv X pins σ H s → wpAny (model X.prog X.w) X.A (isTrue e X.env whole) (TP X pins σ Q) X.xe s) : PW X e t := ⟨fun whole pins s σ H Q I q => h q whole pins s I⟩
/-- semantic reading of an and/or whatever its whole is -/
structure SemW (X : Cx) (e : Expr) (σ : SS) (H : Hp) (Q : Bool → Hp → Prop) : Prop where
  run : ∀ (whole : Sem Value) (pins : List (Addr × Obj)) (s : Shared), Inv X pins σ H s → wpAny (model X.prog X.w) X.A (isTrue e X.env whole) (TP X pins σ Q) X.xe s
def semW (X : Cx) (e : Expr) : TT := fun σ H Q => SemW X e σ H Q
theorem pwW (e : Expr) : PW X e (semW X e) := ⟨fun whole pins s σ H Q I q => q.run whole pins s I⟩
theorem semW_of {e : Expr} {t : TT} (h : PW X e t) {σ : SS} {H : Hp} {Q : Bool → Hp → Prop} (q : t σ H Q) : semW X e σ H Q := ⟨fun whole pins s I => h.run whole pins s σ H Q I q⟩
/-- a test, whatever its whole is -/
def WW (X : Cx) (g : G) (e : Expr) (env : List Sl) (Φ : Bool → Prop) (Ψ : Exc → Prop) : Prop :=
  ∀ (W : WX), Takes X W → ∀ (σ : SS) (F H : Hp), St X.K g F H σ env → HX X g env Ψ W σ →
    ∀ Q : Bool → Hp → Prop, (∀ b F' H', Φ b → St X.K g F' H' σ env → Ex F F' → Q b H') → semW X e σ H Q
theorem wt_ww (h : WW X g e env Φ Ψ) : WT X g e env Φ Ψ := fun W tk σ F H st hx Q hQ => semT_of (pwW e).pt (h W tk σ F H st hx Q hQ)
theorem ww_and {rest : List Expr} (h : WT X g a env (fun k => (k = true → WW X g (.BoolOp .And (b :: rest) pos) env Φ Ψ) ∧ (k = false → Φ false)) Ψ) : WW X g (.BoolOp .And (a :: b :: rest) pos) env Φ Ψ := fun W tk σ F H st hx Q hQ => by
  refine semW_of (pw_and (ptS a) (pwW _)) ?_
  refine h W tk σ F H st hx _ fun k F' H' ⟨ht, hf⟩ s' e' => ?_
  cases k with
  | true => rw [if_pos rfl]; exact ht rfl W tk σ F' H' s' hx Q fun k F2 H2 hp s2 e2 => hQ k F2 H2 hp s2 (e'.trans e2)
  | false => rw [if_neg Bool.false_ne_true]; exact hQ false F' H' (hf rfl) s' e'
theorem ww_or {rest : List Expr} (h : WT X g a env (fun k => (k = true → Φ true) ∧ (k = false → WW X g (.BoolOp .Or (b :: rest) pos) env Φ Ψ)) Ψ) : WW X g (.BoolOp .Or (a :: b :: rest) pos) env Φ Ψ := fun W tk σ F H st hx Q hQ => by
  refine semW_of (pw_or (ptS a) (pwW _)) ?_
  refine h W tk σ F H st hx _ fun k F' H' ⟨ht, hf⟩ s' e' => ?_
  cases k with
  | true => rw [if_pos rfl]; exact hQ true F' H' (ht rfl) s' e'
  | false => rw [if_neg Bool.false_ne_true]; exact hf rfl W tk σ F' H' s' hx Q fun k F2 H2 hp s2 e2 => hQ k F2 H2 hp s2 (e'.trans e2)
theorem ww_and1 (h : WT X g a env Φ Ψ) : WW X g (.BoolOp .And [a] pos) env Φ Ψ := fun W tk σ F H st hx Q hQ => semW_of (pw_and1 (ptS a)) (h W tk σ F H st hx Q hQ)
theorem ww_or1 (h : WT X g a env Φ Ψ) : WW X g (.BoolOp .Or [a] pos) env Φ Ψ := fun W tk σ F H st hx Q hQ => semW_of (pw_or1 (ptS a)) (h W tk σ F H st hx Q hQ)
end
section
variable {Φ : PyData → Bool → Prop}
/-- as values (truths) -/
theorem we_one {op : BoolOp} (h : WE X g a env Φ Ψ) : WE X g (.BoolOp op [a] pos) env Φ Ψ := fun W tk σ F H st hx Q hQ => semE_of (pe_one (peS a)) (h W tk σ F H st hx Q hQ)
theorem we_and {rest : List Expr} (h : WE X g a env (fun d _ => ∃ k, d = .bool k ∧ (k = true → WE X g (.BoolOp .And (b :: rest) pos) env Φ Ψ) ∧ (k = false → Φ (.bool false) true)) Ψ) : WE X g (.BoolOp .And (a :: b :: rest) pos) env Φ Ψ := fun W tk σ F H st hx Q hQ => by
  refine semE_of (pe_and (peS a) (peS _)) ?_
  refine h W tk σ F H st hx _ fun d z v F' H' ⟨k, hd, ht, hf⟩ s' e' r' => ?_
  subst hd
  refine ⟨k, rd_bl r', ?_⟩
  cases k with
  | true => rw [if_pos rfl]; exact ht rfl W tk σ F' H' s' hx Q fun d z v F2 H2 hp s2 e2 => hQ d z v F2 H2 hp s2 (e'.trans e2)
  | false => rw [if_neg Bool.false_ne_true]; exact hQ _ true _ F' H' (hf rfl) s' e' (.bl false)
theorem we_or {rest : List Expr} (h : WE X g a env (fun d _ => ∃ k, d = .bool k ∧ (k = true → Φ (.bool true) true) ∧ (k = false → WE X g (.BoolOp .Or (b :: rest) pos) env Φ Ψ)) Ψ) : WE X g (.BoolOp .Or (a :: b :: rest) pos) env Φ Ψ := fun W tk σ F H st hx Q hQ => by
  refine semE_of (pe_or (peS a) (peS _)) ?_
  refine h W tk σ F H st hx _ fun d z v F' H' ⟨k, hd, ht, hf⟩ s' e' r' => ?_
  subst hd
  refine ⟨k, rd_bl r', ?_⟩
  cases k with
  | true => rw [if_pos rfl]; exact hQ _ true _ F' H' (ht rfl) s' e' (.bl true)
  | false => rw [if_neg Bool.false_ne_true]; exact hf rfl W tk σ F' H' s' hx Q fun d z v F2 H2 hp s2 e2 => hQ d z v F2 H2 hp s2 (e'.trans e2)
theorem we_if (h : WT X g c env (fun k => (k = true → WE X g a env Φ Ψ) ∧ (k = false → WE X g b env Φ Ψ)) Ψ) : WE X g (.IfExp c a b pos) env Φ Ψ := fun W tk σ F H st hx Q hQ => by
  refine semE_of (pe_ifExp (ptS c) (peS a) (peS b)) ?_
  refine h W tk σ F H st hx _ fun k F' H' ⟨ht, hf⟩ s' e' => ?_
  cases k with
  | true => rw [if_pos rfl]; exact ht rfl W tk σ F' H' s' hx Q fun d z v F2 H2 hp s2 e2 => hQ d z v F2 H2 hp s2 (e'.trans e2)
  | false => rw [if_neg Bool.false_ne_true]; exact hf rfl W tk σ F' H' s' hx Q fun d z v F2 H2 hp s2 e2 => hQ d z v F2 H2 hp s2 (e'.trans e2)
end

/-! ### subscripts -/
inductive IxP (Φ : PyData → Bool → Prop) : PyData → Bool → PyData → Bool → Prop
  | lst {xs : List PyData} {i : Int} {x : PyData} {z1 z2 : Bool} : Φ x true → atI xs i = some x → IxP Φ (.list xs) z1 (.int i) z2
  | tup {xs : List PyData} {i : Int} {x : PyData} {z1 z2 : Bool} : Φ x true → atI xs i = some x → IxP Φ (.tuple xs) z1 (.int i) z2
  | str {s : Str} {i : Int} {c : Nat} {z1 z2 : Bool} : Φ (.str ⟨#[c]⟩) true → s.length ≤ sizeLine → atI s.cps.toList i = some c → IxP Φ (.str s) z1 (.int i) z2
theorem dpa_at {ds : List PyData} {vs : List V} {i : Int} {d : PyData} (h : DqAll K H vs ds) (e : atI ds i = some d) : ∃ v, atI vs i = some v ∧ Dq K H v d := by
  unfold atI at e ⊢
  rw [dpa_len h]
  cases q : ixN ds.length i with
  | none => rw [q] at e; cases e
  | some j =>
    rw [q] at e
    obtain ⟨v, h1, h2⟩ := dpa_get h (show ds[j]? = some d from e)
    exact ⟨v, h1, h2⟩
theorem dop_ix {Φ : PyData → Bool → Prop} {d1 d2 : PyData} {z1 z2 : Bool} (h : IxP Φ d1 z1 d2 z2) : DOp K g env (rIx K) d1 z1 d2 z2 Φ := by
  cases h with
  | lst hp ha =>
    refine dop_l fun σ F H v1 v2 st r1 r2 Q hQ => ?_
    obtain ⟨a1, vs1, rfl, s1, p1⟩ := rd_lst st.toSk r1
    obtain ⟨v, e1, e2⟩ := dpa_at p1 ha
    exact ⟨a1, vs1, _, v, rfl, rd_int r2, s1, e1, hQ _ true _ F H hp st (Ex.refl F) e2⟩
  | tup hp ha =>
    refine dop_r (dop_l fun σ F H v1 v2 st r1 r2 Q hQ => ?_)
    obtain ⟨a1, vs1, rfl, s1, p1⟩ := rd_tup st.toSk r1
    obtain ⟨v, e1, e2⟩ := dpa_at p1 ha
    exact ⟨a1, vs1, _, v, rfl, rd_int r2, s1, e1, hQ _ true _ F H hp st (Ex.refl F) e2⟩
  | str hp hl ha => exact dop_r (dop_r fun σ F H v1 v2 st r1 r2 Q hQ => ⟨_, _, _, rd_str r1, rd_int r2, hl, ha, hQ _ true _ F H hp st (Ex.refl F) (.str _)⟩)
theorem we_ix {Φ : PyData → Bool → Prop} (h : WE X g a env (fun d1 z1 => WE X g b env (fun d2 z2 => IxP Φ d1 z1 d2 z2) Ψ) Ψ) (hs : PlainIx b := by exact fun _ _ => rfl) : WE X g (.Subscript a b pos) env Φ Ψ :=
  we_op (pe_ix ix_seq (peS a) (peS b) hs) (fun _ _ _ _ => dop_ix) h
end
end TL

namespace TL
open PySem PySem.Spec PyProof.Rows L2

/-! ### contracts -/
inductive PR where
  | rd (d : PyData)
  | nl (ds : List PyData)
  | ar (i : Nat)
  | nt (kvs : List (List Key × PyData))
  | nk (kvs : List (Key × PyData))
  | sl (C : Sl → Prop)
abbrev CT := List Sl → (PR → List Sl → Prop) → (Exc → List Sl → Prop) → Prop
def Step (F H : Hp) (args : List Sl) (F' H' : Hp) : Prop :=
  Ex F F' ∧ (∀ a o, H a = some o → ¬ Own args a → ntb o → H' a = some o) ∧ (∀ a, F' a ≠ none → F a ≠ none ∨ H a = none) ∧ ∀ a, H a ≠ none → H' a ≠ none
def PrOk (K : Frag) (vs : List V) (H F' H' : Hp) (args' : List Sl) (v : V) : PR → Prop
  | .rd d => Dq K F' v d
  | .nl ds => ∃ p xs, v = .ref p ∧ H' p = some (.lst xs) ∧ DqAll K F' xs ds ∧ F' p = none ∧ H p = none ∧ ¬ Own args' p
  | .ar i => vs[i]? = some v
  | .nt kvs => ∃ p xs, v = .ref p ∧ H' p = some (.dT xs) ∧ KVp K F' xs kvs ∧ F' p = none ∧ H p = none ∧ ¬ Own args' p
  | .nk kvs => ∃ p xs, v = .ref p ∧ H' p = some (.dK xs) ∧ KVp K F' xs kvs ∧ F' p = none ∧ H p = none ∧ ¬ Own args' p
  | .sl C => ∃ s, C s ∧ SlOk K F' H' (some v) s ∧ ∀ p ∈ s.fp, F' p = none ∧ H p = none ∧ ¬ Own args' p
def ExcE (K : Frag) (E : XK) (H : Hp) : Exc → Prop
  | .own n => E (.ref (He.ga K n)) none H
def spOf (K : Frag) (n : Nat) (S : CT) : Sp := fun vs H Q E => vs.length = n ∧ ∃ F args Φ Ψ, S args Φ Ψ ∧ Sk K F H (vs.map some) args ∧
  (∀ r v args' F' H', Φ r args' → Sk K F' H' (vs.map some) args' → Step F H args F' H' → (∀ a, Own args' a → Own args a ∨ H a = none) → PrOk K vs H F' H' args' v r → Q v H') ∧
  (∀ c args' F' H', Ψ c args' → Sk K F' H' (vs.map some) args' → Step F H args F' H' → (∀ a, Own args' a → Own args a ∨ H a = none) → ExcE K E H' c)
structure Has (P : Program) (w : World) (K : Frag) (mg : Str → Option Value) (base : Heap) (k : Nat) (x : Str) (ps : List Str) (S : CT) : Prop where
  ex : ∃ f fd, mg x = some (.ref f) ∧ PySem.W.keepIn K (.ref f) = true ∧ Binds K fd ps [] ∧ FnOk P w K mg base (L2.CX P w) k f fd ps (spOf K ps.length S)

/-! ### arguments -/
structure SemA (X : Cx) (es : List Expr) (σ : SS) (H : Hp) (Q : List V → Hp → Prop) : Prop where
  run : ∀ (pos : Pos) (pins : List (Addr × Obj)) (s : Shared), Inv X pins σ H s → wpAny (model X.prog X.w) X.A (spliced (backTo pos (starEach es X.env))) (AP X pins σ Q) X.xe s
def semA (X : Cx) (es : List Expr) : TA := fun σ H Q => SemA X es σ H Q
theorem paS {X : Cx} (es : List Expr) : PA X es (semA X es) := ⟨fun pos pins s σ H Q I h => h.run pos pins s I⟩
theorem semA_of {X : Cx} {es : List Expr} {t : TA} (h : PA X es t) {σ : SS} {H : Hp} {Q : List V → Hp → Prop} (q : t σ H Q) : semA X es σ H Q := ⟨fun pos pins s I => h.run pos pins s σ H Q I q⟩
def WAs (X : Cx) (g : G) (es : List Expr) (env : List Sl) (Φ : List Ar → Prop) (Ψ : Exc → Prop) : Prop :=
  ∀ (W : WX), Takes X W → ∀ (σ : SS) (F H : Hp), St X.K g F H σ env → HX X g env Ψ W σ →
    ∀ Q : List V → Hp → Prop, (∀ as vs F' H', Φ as → St X.K g F' H' σ env → Ex F F' → ArAll X.K F' σ vs as → Q vs H') → semA X es σ H Q
section
variable {X : Cx} {g : G} {env : List Sl} {Ψ : Exc → Prop} {pos p : Pos} {a b c e : Expr} {es : List Expr} {K : Frag} {F F' H H' : Hp} {σ : SS}
theorem arall_mono (e : Ex F F') : ∀ {vs : List V} {as : List Ar}, ArAll K F σ vs as → ArAll K F' σ vs as
  | [], [], _ => trivial
  | _ :: _, .d x :: _, ⟨h1, h2⟩ => ⟨dp_mono e _ _ h1, arall_mono e h2⟩
  | _ :: _, .s i :: _, ⟨h1, h2⟩ => ⟨h1, arall_mono e h2⟩
section
variable {Φ : List Ar → Prop}
theorem wa_nil (h : Φ []) : WAs X g [] env Φ Ψ := fun W tk σ F H st hx Q hQ => semA_of pa_nil (hQ [] [] F H h st (Ex.refl F) trivial)
/-- an argument that is data -/
theorem wa_d (he : WE X g e env (fun d z => z = true ∧ WAs X g es env (fun as => Φ (.d d :: as)) Ψ) Ψ) (hs : starEach (e :: es) X.env = (false, eval e X.env) :: starEach es X.env := by rfl) : WAs X g (e :: es) env Φ Ψ := fun W tk σ F H st hx Q hQ => by
  refine semA_of (pa_cons (peS e) (paS es) hs) ?_
  refine he W tk σ F H st hx _ fun d z v F1 H1 ⟨hz, hp⟩ s1 e1 r1 => ?_
  subst hz
  exact hp W tk σ F1 H1 s1 hx _ fun as vs F2 H2 hp2 s2 e2 r2 => hQ (.d d :: as) (v :: vs) F2 H2 hp2 s2 (e1.trans e2) ⟨dp_mono e2 _ _ r1, r2⟩
/-- an object that a slot holds -/
theorem wa_s (i : Nat) {x : Str} {s : Sl} (h : WAs X g es env (fun as => Φ (.s i :: as)) Ψ) (he : env[i]? = some s := by rfl) (hne : s.fp ≠ [] := by (intro h; cases h)) (hN : X.N[i]? = some x := by rfl)
    (hv : Vis X.env.scope x := by first | exact Or.inl rfl | exact Or.inr (Or.inl rfl) | exact Or.inr (Or.inr rfl)) (hd : (x == ("__debug__" : Str)) = false := by decide)
    (hcd : (x == ("__classdict__" : Str)) = false := by decide) (hs : starEach ((.Name x pos) :: es) X.env = (false, eval (.Name x pos) X.env) :: starEach es X.env := by rfl) : WAs X g (.Name x pos :: es) env Φ Ψ := fun W tk σ F H st hx Q hQ => by
  refine semA_of (pa_cons (pe_var hN hv hd hcd) (paS es) hs) ?_
  have q := st.sl i s he
  obtain ⟨v, hv⟩ : ∃ v, σ[i]?.getD none = some v := by
    cases s with
    | un => exact absurd rfl hne
    | d x => exact absurd rfl hne
    | v x => exact ⟨_, q⟩
    | ol a ds => exact ⟨_, q.1⟩
    | bg a => exact ⟨_, q.1⟩
    | dt a ds => exact ⟨_, q.1⟩
    | dk a ds => exact ⟨_, q.1⟩
    | fv l => exact absurd rfl hne
    | fl l => exact absurd rfl hne
    | oo a ds => exact ⟨_, q.1⟩
    | ow t => exact ⟨q.choose, q.choose_spec.1⟩
  exact ⟨v, getD_some hv, h W tk σ F H st hx _ fun as vs F2 H2 hp2 s2 e2 r2 => hQ (.s i :: as) (v :: vs) F2 H2 hp2 s2 e2 ⟨getD_some hv, r2⟩⟩
end

/-! ### displays -/
def datas : List Ar → Option (List PyData)
  | [] => some []
  | .d x :: r => (datas r).map (x :: ·)
  | .s _ :: _ => none
theorem dpa_datas : ∀ {as : List Ar} {ds : List PyData} {vs : List V}, datas as = some ds → ArAll K F σ vs as → DqAll K F vs ds
  | [], _, [], h, _ => by cases h; exact .nil
  | .d x :: r, _, _ :: _, h, ⟨h1, h2⟩ => by
    obtain ⟨ds, e1, e2⟩ := Option.map_eq_some_iff.mp (show (datas r).map (x :: ·) = some _ from h)
    subst e2
    exact .cons h1 (dpa_datas e1 h2)
  | .s _ :: _, _, _, h, _ => by cases h
theorem wn_list {Φ : List PyData → Prop} (h : WAs X g es env (fun as => ∃ ds, datas as = some ds ∧ ds.length ≤ sizeLine ∧ Φ ds) Ψ) : WN X g (.List es pos) env Φ Ψ := fun W tk σ F H st hx Q hQ => by
  refine semE_of (pe_lst (paS es)) ?_
  refine h W tk σ F H st hx _ fun as vs F1 H1 ⟨ds, e1, hl, hp⟩ s1 ex1 r1 => ?_
  have hd := dpa_datas e1 r1
  refine ⟨by rw [dpa_len hd]; exact hl, fun p hn => ?_⟩
  exact put_new s1 hn hd hp fun ds v F' H' hp s e r => hQ ds v F' H' hp s (ex1.trans e) r
theorem we_list {Φ : PyData → Bool → Prop} (h : WAs X g es env (fun as => ∃ ds, datas as = some ds ∧ ds.length ≤ sizeLine ∧ Φ (.list ds) true) Ψ) : WE X g (.List es pos) env Φ Ψ := we_of_wn (wn_list h)
theorem we_tuple {x1 : Nat} {Φ : PyData → Bool → Prop} (h : WAs X g es env (fun as => ∃ ds, datas as = some ds ∧ ds.length ≤ sizeLine ∧ Φ (.tuple ds) true) Ψ) : WE X g (.Tuple es x1 pos) env Φ Ψ := fun W tk σ F H st hx Q hQ => by
  refine semE_of (pe_tup (paS es)) ?_
  refine h W tk σ F H st hx _ fun as vs F1 H1 ⟨ds, e1, hl, hp⟩ s1 ex1 r1 => ?_
  have hd := dpa_datas e1 r1
  refine ⟨by rw [dpa_len hd]; exact hl, fun p hn => ?_⟩
  exact put_tup s1 hn hd hp fun d z v F' H' hp s e r => hQ d z v F' H' hp s (ex1.trans e) r

/-! ### calls of defs -/
def slOf (env : List Sl) : Ar → Sl
  | .d x => .d x
  | .s i => env[i]?.getD .un
def arIx : List Ar → List Nat
  | [] => []
  | .s i :: r => i :: arIx r
  | .d _ :: r => arIx r
theorem arall_len : ∀ {vs : List V} {as : List Ar}, ArAll K F σ vs as → vs.length = as.length
  | [], [], _ => rfl
  | _ :: _, _ :: _, ⟨_, h⟩ => congrArg Nat.succ (arall_len h)
  | [], _ :: _, h => h.elim
  | _ :: _, [], h => h.elim
theorem arall_get : ∀ {vs : List V} {as : List Ar} {j : Nat} {a : Ar}, ArAll K F σ vs as → as[j]? = some a → ∃ v, vs[j]? = some v ∧ ArOk K F σ v a
  | [], [], j, a, _, h => by simp at h
  | v :: vs, x :: as, 0, a, ⟨h1, _⟩, h => by
    have e := Option.some.inj h
    subst e
    exact ⟨v, rfl, h1⟩
  | v :: vs, x :: as, j + 1, a, ⟨_, h2⟩, h => arall_get (j := j) h2 h
  | [], _ :: _, _, _, h, _ => h.elim
  | _ :: _, [], _, _, h, _ => h.elim
theorem arix_mem : ∀ {as : List Ar} {j i : Nat}, as[j]? = some (.s i) → i ∈ arIx as
  | .s k :: r, 0, i, h => by
    have e := Option.some.inj h
    injection e with e
    subst e
    exact List.mem_cons_self ..
  | .d x :: r, 0, i, h => by have e := Option.some.inj h; cases e
  | .s k :: r, j + 1, i, h => List.mem_cons_of_mem _ (arix_mem (as := r) (j := j) h)
  | .d x :: r, j + 1, i, h => arix_mem (as := r) (j := j) h
  | [], _, _, h => by simp at h
/-- the same slot is not handed on twice -/
theorem arix_inj : ∀ {as : List Ar} {j k i : Nat}, (arIx as).Nodup → as[j]? = some (.s i) → as[k]? = some (.s i) → j = k
  | [], _, _, _, _, h, _ => by simp at h
  | _ :: _, 0, 0, _, _, _, _ => rfl
  | .s l :: r, 0, k + 1, i, nd, h1, h2 => by
    have e := Option.some.inj h1
    injection e with e
    subst e
    exact absurd (arix_mem (as := r) (j := k) h2) (List.nodup_cons.mp nd).1
  | .s l :: r, j + 1, 0, i, nd, h1, h2 => by
    have e := Option.some.inj h2
    injection e with e
    subst e
    exact absurd (arix_mem (as := r) (j := j) h1) (List.nodup_cons.mp nd).1
  | .d l :: r, 0, k + 1, i, nd, h1, h2 => by have e := Option.some.inj h1; cases e
  | .d l :: r, j + 1, 0, i, nd, h1, h2 => by have e := Option.some.inj h2; cases e
  | .s l :: r, j + 1, k + 1, i, nd, h1, h2 => congrArg Nat.succ (arix_inj (as := r) (List.nodup_cons.mp nd).2 h1 h2)
  | .d l :: r, j + 1, k + 1, i, nd, h1, h2 => congrArg Nat.succ (arix_inj (as := r) nd h1 h2)
theorem map_get {α β : Type} {f : α → β} {l : List α} {j : Nat} {y : β} (h : (l.map f)[j]? = some y) : ∃ x, l[j]? = some x ∧ f x = y := by
  rw [List.getElem?_map] at h
  exact Option.map_eq_some_iff.mp h
theorem vmap_get {vs : List V} {j : Nat} {v : V} (h : vs[j]? = some v) : ((vs.map some)[j]?.getD none : Option V) = some v := by
  rw [List.getElem?_map, h]; rfl
/-- what the callee is handed -/
theorem Sk.callee {as : List Ar} {vs : List V} (st : Sk K F H σ env) (ha : ArAll K F σ vs as) (nd : (arIx as).Nodup) (hs : ∀ i ∈ arIx as, i < env.length) : Sk K F H (vs.map some) (as.map (slOf env)) where
  len := by rw [List.length_map, List.length_map]; exact arall_len ha
  sl := fun j s e => by
    obtain ⟨a, ea, es⟩ := map_get e
    obtain ⟨v, ev, hv⟩ := arall_get ha ea
    rw [vmap_get ev]
    cases a with
    | d x => rw [← es]; exact ⟨v, rfl, hv⟩
    | s i =>
      have hi := hs i (arix_mem ea)
      have q := st.sl i _ (List.getElem?_eq_getElem hi)
      have hv' : σ[i]? = some (some v) := hv
      rw [hv'] at q
      have e2 : s = env[i] := by rw [← es]; show env[i]?.getD .un = _; rw [List.getElem?_eq_getElem hi]; rfl
      rw [e2]; exact q
  nd := fun j k s t a ej ek h1 h2 => by
    obtain ⟨x, ex, rfl⟩ := map_get ej
    obtain ⟨y, ey, rfl⟩ := map_get ek
    cases x with
    | d z => cases h1
    | s i =>
      cases y with
      | d z => cases h2
      | s l =>
        have hi := hs i (arix_mem ex)
        have hl := hs l (arix_mem ey)
        have e1 : slOf env (.s i) = env[i] := by show env[i]?.getD .un = _; rw [List.getElem?_eq_getElem hi]; rfl
        have e2 : slOf env (.s l) = env[l] := by show env[l]?.getD .un = _; rw [List.getElem?_eq_getElem hl]; rfl
        rw [e1] at h1
        rw [e2] at h2
        have e := st.nd i l _ _ a (List.getElem?_eq_getElem hi) (List.getElem?_eq_getElem hl) h1 h2
        subst e
        exact arix_inj nd ex ey
  fr := fun a ⟨j, s, e, h1⟩ => by
    obtain ⟨x, ex, rfl⟩ := map_get e
    cases x with
    | d z => cases h1
    | s i =>
      have hi := hs i (arix_mem ex)
      have e1 : slOf env (.s i) = env[i] := by show env[i]?.getD .un = _; rw [List.getElem?_eq_getElem hi]; rfl
      exact st.fr a ⟨i, env[i], List.getElem?_eq_getElem hi, by rw [← e1]; exact h1⟩
  ex := st.ex
  tf := st.tf
  tk := st.tk
theorem own_args {as : List Ar} {a : Addr} (h : Own (as.map (slOf env)) a) : ∃ (j i : Nat) (s : Sl), as[j]? = some (.s i) ∧ env[i]? = some s ∧ a ∈ s.fp := by
  obtain ⟨j, s, e, h1⟩ := h
  obtain ⟨x, ex, rfl⟩ := map_get e
  cases x with
  | d z => cases h1
  | s i =>
    cases q : env[i]? with
    | none => have e1 : slOf env (.s i) = .un := by show env[i]?.getD .un = _; rw [q]; rfl
              rw [e1] at h1; cases h1
    | some s => have e1 : slOf env (.s i) = s := by show env[i]?.getD .un = _; rw [q]; rfl
                rw [e1] at h1; exact ⟨j, i, s, ex, q, h1⟩
/-- behind a call: the slots that were handed on are as the callee left them -/
theorem St.called {as : List Ar} {vs : List V} {args' env' : List Sl} (st : St K g F H σ env) (ha : ArAll K F σ vs as) (sk : Sk K F' H' (vs.map some) args') (hst : Step F H (as.map (slOf env)) F' H')
    (hl : env'.length = env.length) (hk : ∀ (i : Nat) (s : Sl), i ∉ arIx as → env'[i]? = some s → env[i]? = some s) (hp : ∀ (j i : Nat) (s : Sl), as[j]? = some (Ar.s i) → env'[i]? = some s → args'[j]? = some s)
    (hsub : ∀ (i : Nat) (s s' : Sl), env[i]? = some s → env'[i]? = some s' → ∀ a ∈ s'.fp, a ∈ s.fp ∨ H a = none) : St K g F' H' σ env' := by
  obtain ⟨e1, e2, e3, e4⟩ := hst
  have sub : ∀ a, Own env' a → Own env a ∨ H a = none := fun a ⟨i, s', h1, h2⟩ => by
    have hi : i < env.length := by rw [← hl]; exact (List.getElem?_eq_some_iff.mp h1).1
    rcases hsub i _ s' (List.getElem?_eq_getElem hi) h1 a h2 with q | q
    · exact .inl ⟨i, env[i], List.getElem?_eq_getElem hi, q⟩
    · exact .inr q
  have ownA : ∀ a, Own (as.map (slOf env)) a → Own env a := fun a h => by
    obtain ⟨j, i, s, _, h2, h3⟩ := own_args h
    exact ⟨i, s, h2, h3⟩
  have ixs : ∀ (i : Nat), i ∈ arIx as → ∃ j : Nat, as[j]? = some (Ar.s i) := fun i h => by
    clear hp hk ownA e2 ha
    induction as with
    | nil => cases h
    | cons x r ih =>
      cases x with
      | d z => obtain ⟨j, hj⟩ := ih h; exact ⟨j + 1, hj⟩
      | s l =>
        rcases List.mem_cons.mp (show i ∈ l :: arIx r from h) with e | h
        · subst e; exact ⟨0, rfl⟩
        · obtain ⟨j, hj⟩ := ih h; exact ⟨j + 1, hj⟩
  refine { len := by rw [hl]; exact st.len, sl := fun i s e => ?_, nd := fun i j s t a ei ej h1 h2 => ?_, fr := fun a h => ?_, ex := sk.ex, tf := sk.tf, tk := sk.tk, gt := st.gt.grow (fun a z => by
      cases q : H a with
      | none => rfl
      | some u => exact absurd z (e4 a (by rw [q]; intro y; cases y))), g1 := fun a o h m n => ?_, g2 := fun a h => (sub a h).elim (st.g2 a) fun z => .inl (st.h0 z), g3 := st.g3.trans e1, g4 := fun a h => ?_, g5 := fun a m z => ?_, g6 := st.g6 }
  · by_cases hi : i ∈ arIx as
    · obtain ⟨j, hj⟩ := ixs i hi
      have q := sk.sl j s (hp j i s hj e)
      obtain ⟨v, ev, hv⟩ := arall_get ha hj
      rw [vmap_get ev] at q
      have hv' : σ[i]? = some (some v) := hv
      rw [hv']; exact q
    · have e' := hk i s hi e
      refine slok_mono e1 (fun a h u q => e2 a u q (fun z => ?_) fun ps y => slok_ntb (st.sl i s e') h ps (by rw [q, y])) (st.sl i s e')
      obtain ⟨j, l, t, h3, h4, h5⟩ := own_args z
      have el := st.nd i l s t a e' h4 h h5
      subst el
      exact hi (arix_mem h3)
  · have hi : i < env.length := by rw [← hl]; exact (List.getElem?_eq_some_iff.mp ei).1
    have hj : j < env.length := by rw [← hl]; exact (List.getElem?_eq_some_iff.mp ej).1
    by_cases mi : i ∈ arIx as
    · by_cases mj : j ∈ arIx as
      · obtain ⟨p, hp1⟩ := ixs i mi
        obtain ⟨q, hq1⟩ := ixs j mj
        have e := sk.nd p q s t a (hp p i s hp1 ei) (hp q j t hq1 ej) h1 h2
        subst e
        rw [hp1] at hq1
        injection hq1 with z
        injection z
      · have ej' := hk j t mj ej
        rcases hsub i _ s (List.getElem?_eq_getElem hi) ei a h1 with z | z
        · exact st.nd i j _ t a (List.getElem?_eq_getElem hi) ej' z h2
        · exact absurd z (st.there ⟨j, t, ej', h2⟩)
    · have ei' := hk i s mi ei
      rcases hsub j _ t (List.getElem?_eq_getElem hj) ej a h2 with z | z
      · exact st.nd i j s _ a ei' (List.getElem?_eq_getElem hj) h1 z
      · exact absurd z (st.there ⟨i, s, ei', h1⟩)
  · obtain ⟨i, s, h1, h2⟩ := h
    by_cases mi : i ∈ arIx as
    · obtain ⟨p, hp1⟩ := ixs i mi
      exact sk.fr a ⟨p, s, hp p i s hp1 h1, h2⟩
    · have ho : Own env a := ⟨i, s, hk i s mi h1, h2⟩
      cases q : F' a with
      | none => rfl
      | some u =>
        rcases e3 a (by rw [q]; intro z; cases z) with z | z
        · exact absurd (st.fr a ho) z
        · exact absurd z (st.there ho)
  · refine e2 a o (st.g1 a o h m n) (fun z => ?_) n
    rcases st.g2 a (ownA a z) with q | q
    · rw [q] at h; cases h
    · exact m q
  · rcases e3 a h with z | z
    · exact st.g4 a z
    · exact .inr (st.h0 z)
  · exact e4 a (st.g5 a m) z
end
end TL

namespace TL
open PySem PySem.Spec PyProof.Rows L2

section
variable {X : Cx} {g : G} {env : List Sl} {Ψ : Exc → Prop} {pos p : Pos} {a b c e : Expr} {es : List Expr} {K : Frag} {F F' H H' : Hp} {σ : SS}

/-! ### calls of defs -/
def PRd : PR → PyData → Prop
  | .rd d, d' => d' = d
  | .nl ds, d' => d' = .list ds
  | .ar _, _ => False
  | .nt _, _ => False
  | .nk _, _ => False
  | .sl _, _ => False
def natNd : List Nat → Bool
  | [] => true
  | x :: r => (r.all fun y => !Nat.beq x y) && natNd r
def callOk (as : List Ar) (m n : Nat) : Bool := Nat.beq as.length m && natNd (arIx as) && (arIx as).all fun i => Nat.blt i n
theorem natNd_ok : ∀ {l : List Nat}, natNd l = true → l.Nodup
  | [], _ => List.nodup_nil
  | x :: r, h => by
    have h' : (r.all fun y => !Nat.beq x y) = true ∧ natNd r = true := Bool.and_eq_true_iff.mp h
    refine List.nodup_cons.mpr ⟨fun hm => ?_, natNd_ok h'.2⟩
    have q := List.all_eq_true.mp h'.1 x hm
    rw [Nat.beq_refl] at q
    cases q
theorem callOk_ok {as : List Ar} {m n : Nat} (h : callOk as m n = true) : as.length = m ∧ (arIx as).Nodup ∧ ∀ i ∈ arIx as, i < n := by
  have h1 : (Nat.beq as.length m && natNd (arIx as)) = true ∧ ((arIx as).all fun i => Nat.blt i n) = true := Bool.and_eq_true_iff.mp h
  have h2 := Bool.and_eq_true_iff.mp h1.1
  refine ⟨Nat.eq_of_beq_eq_true h2.1, natNd_ok h2.2, fun i hi => ?_⟩
  have q := List.all_eq_true.mp h1.2 i hi
  exact Nat.le_of_ble_eq_true q
theorem st_same {as : List Ar} {vs : List V} {args' : List Sl} (st : St K g F H σ env) (ha : ArAll K F σ vs as) (sk : Sk K F' H' (vs.map some) args') (hst : Step F H (as.map (slOf env)) F' H') (e : args' = as.map (slOf env)) : St K g F' H' σ env := by
  subst e
  refine st.called ha sk hst rfl (fun _ _ _ h => h) (fun j i s h1 h2 => ?_) (fun i s s' h1 h2 a h3 => ?_)
  · rw [List.getElem?_map, h1]
    show some (env[i]?.getD .un) = some s
    rw [h2]; rfl
  · rw [h1] at h2; cases h2; exact .inl h3
/-- a def is called; what it was handed stays as it is described -/
theorem call_run {j k : Nat} {x : Str} {ps : List Str} {S : CT} {Φ : PR → Prop} (hf : Has X.prog X.w X.K X.mg X.base j x ps S) (hr : Room k X.A)
    (h : WAs X g (e :: es) env (fun as => callOk as ps.length env.length = true ∧ S (as.map (slOf env)) (fun r args' => args' = as.map (slOf env) ∧ Φ r) (fun c args' => args' = as.map (slOf env) ∧ Ψ c)) Ψ)
    (hj : j ≤ k) (hg : Gl X x) (hdb : (x == ("__debug__" : Str)) = false)
    (he : starEach (e :: es) X.env = (false, eval e X.env) :: starEach es X.env) (hpl : (backTo pos (starEach es X.env)).any (·.1) = false)
    {W : WX} (tk : Takes X W) (st : St X.K g F H σ env) (hx : HX X g env Ψ W σ) {Q : VK}
    (hQ : ∀ r vs v F1 H1 F' H' args', Φ r → St X.K g F' H' σ env → Ex F F' → St X.K g F1 H1 σ env → PrOk X.K vs H1 F' H' args' v r → Q v H') : semE X (.Call (.Name x p) (e :: es) [] pos) σ H Q := by
  obtain ⟨f, fd, hm, hk, hb, F0⟩ := hf.ex
  refine semE_of (pe_callS F0 (hr.mono hj) hg hm hk hb (fun σ => passAt tk σ) (paS (e :: es)) hdb he hpl) ?_
  refine h W tk σ F H st hx _ fun as vs F1 H1 ⟨hok, hS⟩ s1 e1 ra => ?_
  obtain ⟨h1, h2, h3⟩ := callOk_ok hok
  refine ⟨by rw [arall_len ra, h1], F1, as.map (slOf env), _, _, hS, s1.toSk.callee ra h2 h3, fun r v args' F' H' ⟨ea, hp⟩ sk hst _ pr => ?_, fun c args' F' H' ⟨ea, hp⟩ sk hst _ => ?_⟩
  · exact hQ r vs v F1 H1 F' H' args' hp (st_same s1 ra sk hst ea) (e1.trans hst.1) s1 pr
  · have := hx c F' H' hp (st_same s1 ra sk hst ea)
    cases c
    exact this
theorem we_call {j k : Nat} {x : Str} {ps : List Str} {S : CT} {Φ : PyData → Bool → Prop} (hf : Has X.prog X.w X.K X.mg X.base j x ps S) (hr : Room k X.A)
    (h : WAs X g (e :: es) env (fun as => callOk as ps.length env.length = true ∧ S (as.map (slOf env)) (fun r args' => args' = as.map (slOf env) ∧ ∃ d, PRd r d ∧ Φ d true) (fun c args' => args' = as.map (slOf env) ∧ Ψ c)) Ψ)
    (hj : j ≤ k := by omega) (hg : Gl X x := by rfl) (hdb : (x == ("__debug__" : Str)) = false := by decide)
    (he : starEach (e :: es) X.env = (false, eval e X.env) :: starEach es X.env := by rfl) (hpl : (backTo pos (starEach es X.env)).any (·.1) = false := by rfl) : WE X g (.Call (.Name x p) (e :: es) [] pos) env Φ Ψ := fun W tk σ F H st hx Q hQ => by
  refine call_run (Φ := fun r => ∃ d, PRd r d ∧ Φ d true) hf hr h hj hg hdb he hpl tk st hx fun r vs v F1 H1 F' H' args' ⟨d, hd, hp⟩ s' e' s1 pr => ?_
  cases r with
  | rd d0 => subst hd; exact hQ _ true v F' H' hp s' e' pr
  | nl ds =>
    subst hd
    obtain ⟨q, xs, rfl, h1, h2, h3, h4, h5⟩ := pr
    have e2 := Ex.new (o := .lst xs) h3
    exact hQ (.list ds) true (.ref q) (upd F' q (.lst xs)) H' hp (s'.freeze h1 h3 (fun z => s1.there z h4) (s1.h0 h4)) (e'.trans e2) (.lst (SqL.of upd_same) (dpa_mono e2 _ _ h2))
  | ar i => exact hd.elim
  | nt _ => exact hd.elim
  | nk _ => exact hd.elim
  | sl _ => exact hd.elim
theorem wn_call {j k : Nat} {x : Str} {ps : List Str} {S : CT} {Φ : List PyData → Prop} (hf : Has X.prog X.w X.K X.mg X.base j x ps S) (hr : Room k X.A)
    (h : WAs X g (e :: es) env (fun as => callOk as ps.length env.length = true ∧ S (as.map (slOf env)) (fun r args' => args' = as.map (slOf env) ∧ ∃ ds, r = .nl ds ∧ Φ ds) (fun c args' => args' = as.map (slOf env) ∧ Ψ c)) Ψ)
    (hj : j ≤ k := by omega) (hg : Gl X x := by rfl) (hdb : (x == ("__debug__" : Str)) = false := by decide)
    (he : starEach (e :: es) X.env = (false, eval e X.env) :: starEach es X.env := by rfl) (hpl : (backTo pos (starEach es X.env)).any (·.1) = false := by rfl) : WN X g (.Call (.Name x p) (e :: es) [] pos) env Φ Ψ := fun W tk σ F H st hx Q hQ => by
  refine call_run (Φ := fun r => ∃ ds, r = .nl ds ∧ Φ ds) hf hr h hj hg hdb he hpl tk st hx fun r vs v F1 H1 F' H' args' ⟨ds, hd, hp⟩ s' e' s1 pr => ?_
  subst hd
  obtain ⟨q, xs, rfl, h1, h2, h3, h4, h5⟩ := pr
  exact hQ ds (.ref q) F' H' hp s' e' ⟨q, xs, rfl, h1, h2, h3, fun z => s1.there z h4, s1.h0 h4⟩

/-! ### built-ins of one argument -/
theorem we_b1 {Φ : PyData → Bool → Prop} {R : PyData → Bool → Prop} {x : Str} {id : String} {r : List V → Hp → VK → Prop} (hc : CallR X (.builtin id) r) (hm : X.mg x = none) (hv : bootBuiltins x = some (.builtin id))
    (hr : ∀ d1 z1, R d1 z1 → DUn X.K g env (fun v => r [v]) d1 z1 Φ) (h : WE X g a env R Ψ) (hg : Gl X x := by rfl) (hn : x ≠ "__name__" := by decide) (hdb : (x == ("__debug__" : Str)) = false := by decide)
    (he : starEach [a] X.env = (false, eval a X.env) :: starEach [] X.env := by rfl) (hpl : (backTo pos (starEach ([] : List Expr) X.env)).any (·.1) = false := by rfl) : WE X g (.Call (.Name x p) [a] [] pos) env Φ Ψ := fun W tk σ F H st hx Q hQ => by
  refine semE_of (pe_callB hc hg hm hv (pa_cons (peS a) pa_nil he) hn hdb he hpl) ?_
  refine h W tk σ F H st hx _ fun d1 z1 v1 F1 H1 h1 st1 e1 r1 => ?_
  exact hr _ _ h1 σ F1 H1 v1 st1 r1 Q fun d z v F' H' hp s3 e3 r3 => hQ d z v F' H' hp s3 (e1.trans e3) r3
theorem we_t1 {Φ : PyData → Bool → Prop} {R : PyData → Bool → Prop} {x : Str} {id : String} {r : List V → Hp → VK → Prop} (hc : CallR X (.type id) r) (hm : X.mg x = none) (hv : bootBuiltins x = some (.type id))
    (hr : ∀ d1 z1, R d1 z1 → DUn X.K g env (fun v => r [v]) d1 z1 Φ) (h : WE X g a env R Ψ) (hg : Gl X x := by rfl) (hn : x ≠ "__name__" := by decide) (hdb : (x == ("__debug__" : Str)) = false := by decide)
    (he : starEach [a] X.env = (false, eval a X.env) :: starEach [] X.env := by rfl) (hpl : (backTo pos (starEach ([] : List Expr) X.env)).any (·.1) = false := by rfl) : WE X g (.Call (.Name x p) [a] [] pos) env Φ Ψ := fun W tk σ F H st hx Q hQ => by
  refine semE_of (pe_callTy hc hg hm hv (pa_cons (peS a) pa_nil he) hn hdb he hpl) ?_
  refine h W tk σ F H st hx _ fun d1 z1 v1 F1 H1 h1 st1 e1 r1 => ?_
  exact hr _ _ h1 σ F1 H1 v1 st1 r1 Q fun d z v F' H' hp s3 e3 r3 => hQ d z v F' H' hp s3 (e1.trans e3) r3
section
variable {Φ : PyData → Bool → Prop}
inductive LenP (Φ : PyData → Bool → Prop) : PyData → Bool → Prop
  | lst {xs : List PyData} {z : Bool} : Φ (.int xs.length) true → LenP Φ (.list xs) z
  | tup {xs : List PyData} {z : Bool} : Φ (.int xs.length) true → LenP Φ (.tuple xs) z
  | str {s : Str} {z : Bool} : Φ (.int s.length) true → s.length ≤ sizeLine → LenP Φ (.str s) z
theorem we_len (hm : X.mg "len" = none) (h : WE X g a env (LenP Φ) Ψ) (hg : Gl X "len" := by rfl) (he : starEach [a] X.env = (false, eval a X.env) :: starEach [] X.env := by rfl) : WE X g (.Call (.Name "len" p) [a] [] pos) env Φ Ψ :=
  we_b1 call_len hm PySem.boot_len (fun d1 z1 q σ F H v1 st r1 Q hQ => by
    cases q with
    | @lst xs z q =>
      obtain ⟨a1, vs1, rfl, s1, p1⟩ := rd_lst st.toSk r1
      exact ⟨_, xs.length, rfl, .inl ⟨_, s1, (dpa_len p1).symm⟩, hQ _ true _ F H q st (Ex.refl F) (.int _)⟩
    | @tup xs z q =>
      obtain ⟨a1, vs1, rfl, s1, p1⟩ := rd_tup st.toSk r1
      exact ⟨_, xs.length, rfl, .inr ⟨_, s1, (dpa_len p1).symm⟩, hQ _ true _ F H q st (Ex.refl F) (.int _)⟩
    | @str s z q hl => exact ⟨_, s.length, rfl, by rw [rd_str r1]; exact ⟨hl, rfl⟩, hQ _ true _ F H q st (Ex.refl F) (.int _)⟩) h hg (he := he)
theorem we_abs (hm : X.mg "abs" = none) (h : WE X g a env (fun d _ => ∃ i, d = .int i ∧ Φ (.int (if i < 0 then -i else i)) true) Ψ) (hg : Gl X "abs" := by rfl) (he : starEach [a] X.env = (false, eval a X.env) :: starEach [] X.env := by rfl) : WE X g (.Call (.Name "abs" p) [a] [] pos) env Φ Ψ :=
  we_b1 call_abs hm (by decide +kernel) (fun d1 z1 ⟨i, e, q⟩ σ F H v1 st r1 Q hQ => by
    subst e
    exact ⟨i, by rw [rd_int r1], hQ _ true _ F H q st (Ex.refl F) (.int _)⟩) h hg (he := he)
theorem we_sum (hm : X.mg "sum" = none) (hc : X.calm = true) (h : WE X g a env (fun d _ => ∃ ns : List Int, d = .list (ns.map .int) ∧ Φ (.int ns.sum) true) Ψ) (hg : Gl X "sum" := by rfl) (he : starEach [a] X.env = (false, eval a X.env) :: starEach [] X.env := by rfl) : WE X g (.Call (.Name "sum" p) [a] [] pos) env Φ Ψ :=
  we_b1 (cr_sum hc) hm (by decide +kernel) (fun d1 z1 ⟨ns, e, q⟩ σ F H v1 st r1 Q hQ => by
    subst e
    obtain ⟨a1, vs1, rfl, s1, p1⟩ := rd_lst st.toSk r1
    rw [dpa_ints_eq p1] at s1
    exact ⟨a1, ns, rfl, s1, hQ _ true _ F H q st (Ex.refl F) (.int _)⟩) h hg (he := he)
theorem dpa_bools_eq : ∀ {ns : List Bool} {vs : List V}, DqAll K H vs (ns.map PyData.bool) → vs = ns.map V.bl
  | [], _, h => by
    have h' : DqAll K H _ [] := h
    cases h'; rfl
  | n :: ns, _, h => by
    have h' : DqAll K H _ (.bool n :: ns.map PyData.bool) := h
    cases h' with
    | cons h1 h2 => rw [dp_bl h1, dpa_bools_eq h2]; rfl
theorem we_all (hm : X.mg "all" = none) (hc : X.calm = true) (h : WE X g a env (fun d _ => ∃ ns : List Bool, d = .list (ns.map .bool) ∧ Φ (.bool (ns.all id)) true) Ψ) (hg : Gl X "all" := by rfl) (he : starEach [a] X.env = (false, eval a X.env) :: starEach [] X.env := by rfl) : WE X g (.Call (.Name "all" p) [a] [] pos) env Φ Ψ :=
  we_b1 (cr_all hc) hm (by decide +kernel) (fun d1 z1 ⟨ns, e, q⟩ σ F H v1 st r1 Q hQ => by
    subst e
    obtain ⟨a1, vs1, rfl, s1, p1⟩ := rd_lst st.toSk r1
    rw [dpa_bools_eq p1] at s1
    exact ⟨a1, ns, rfl, s1, hQ _ true _ F H q st (Ex.refl F) (.bl _)⟩) h hg (he := he)
theorem we_any (hm : X.mg "any" = none) (hc : X.calm = true) (h : WE X g a env (fun d _ => ∃ ns : List Bool, d = .list (ns.map .bool) ∧ Φ (.bool (ns.any id)) true) Ψ) (hg : Gl X "any" := by rfl) (he : starEach [a] X.env = (false, eval a X.env) :: starEach [] X.env := by rfl) : WE X g (.Call (.Name "any" p) [a] [] pos) env Φ Ψ :=
  we_b1 (cr_any hc) hm (by decide +kernel) (fun d1 z1 ⟨ns, e, q⟩ σ F H v1 st r1 Q hQ => by
    subst e
    obtain ⟨a1, vs1, rfl, s1, p1⟩ := rd_lst st.toSk r1
    rw [dpa_bools_eq p1] at s1
    exact ⟨a1, ns, rfl, s1, hQ _ true _ F H q st (Ex.refl F) (.bl _)⟩) h hg (he := he)
inductive IntOfP (Φ : PyData → Bool → Prop) : PyData → Bool → Prop
  | int {i : Int} {z : Bool} : Φ (.int i) true → IntOfP Φ (.int i) z
  | bool {k : Bool} {z : Bool} : Φ (.int (if k then 1 else 0)) true → IntOfP Φ (.bool k) z
theorem we_intof (hm : X.mg "int" = none) (h : WE X g a env (IntOfP Φ) Ψ) (hg : Gl X "int" := by rfl) (he : starEach [a] X.env = (false, eval a X.env) :: starEach [] X.env := by rfl) : WE X g (.Call (.Name "int" p) [a] [] pos) env Φ Ψ :=
  we_t1 call_int1 hm (by decide +kernel) (fun d1 z1 q σ F H v1 st r1 Q hQ => by
    cases q with
    | @int i z q => exact .inl ⟨i, by rw [rd_int r1], hQ _ true _ F H q st (Ex.refl F) (.int _)⟩
    | @bool k z q => exact .inr ⟨k, by rw [rd_bl r1], hQ _ true _ F H q st (Ex.refl F) (.int _)⟩) h hg (he := he)
inductive TupP (Φ : PyData → Bool → Prop) : PyData → Bool → Prop
  | lst {xs : List PyData} {z : Bool} : Φ (.tuple xs) true → TupP Φ (.list xs) z
  | tup {xs : List PyData} : Φ (.tuple xs) true → TupP Φ (.tuple xs) true
theorem we_tupof (hm : X.mg "tuple" = none) (h : WE X g a env (TupP Φ) Ψ) (hg : Gl X "tuple" := by rfl) (he : starEach [a] X.env = (false, eval a X.env) :: starEach [] X.env := by rfl) : WE X g (.Call (.Name "tuple" p) [a] [] pos) env Φ Ψ :=
  we_t1 call_tuple_of hm (by decide +kernel) (fun d1 z1 q σ F H v1 st r1 Q hQ => by
    cases q with
    | @lst xs z q =>
      obtain ⟨a1, vs1, rfl, s1, p1⟩ := rd_lst st.toSk r1
      exact ⟨a1, vs1, rfl, .inl ⟨s1, fun l hl => put_tup st hl p1 q hQ⟩⟩
    | @tup xs q =>
      obtain ⟨a1, vs1, rfl, s1, p1⟩ := rd_tup st.toSk r1
      exact ⟨a1, vs1, rfl, .inr ⟨s1, hQ _ true _ F H q st (Ex.refl F) r1⟩⟩) h hg (he := he)
end
/-! ### new lists by built-ins -/
def DNew (K : Frag) (g : G) (env : List Sl) (r : V → Hp → VK → Prop) (d1 : PyData) (z1 : Bool) (Φ : List PyData → Prop) : Prop :=
  ∀ (σ : SS) (F H : Hp) (v1 : V), St K g F H σ env → Rd K F env z1 v1 d1 →
    ∀ Q : VK, (∀ ds v F' H', Φ ds → St K g F' H' σ env → Ex F F' → NewL K g F' H' env v ds → Q v H') → r v1 H Q
theorem wn_b1 {Φ : List PyData → Prop} {R : PyData → Bool → Prop} {x : Str} {id : String} {r : List V → Hp → VK → Prop} (hc : CallR X (.builtin id) r) (hm : X.mg x = none) (hv : bootBuiltins x = some (.builtin id))
    (hr : ∀ d1 z1, R d1 z1 → DNew X.K g env (fun v => r [v]) d1 z1 Φ) (h : WE X g a env R Ψ) (hg : Gl X x := by rfl) (hn : x ≠ "__name__" := by decide) (hdb : (x == ("__debug__" : Str)) = false := by decide)
    (he : starEach [a] X.env = (false, eval a X.env) :: starEach [] X.env := by rfl) (hpl : (backTo pos (starEach ([] : List Expr) X.env)).any (·.1) = false := by rfl) : WN X g (.Call (.Name x p) [a] [] pos) env Φ Ψ := fun W tk σ F H st hx Q hQ => by
  refine semE_of (pe_callB hc hg hm hv (pa_cons (peS a) pa_nil he) hn hdb he hpl) ?_
  refine h W tk σ F H st hx _ fun d1 z1 v1 F1 H1 h1 st1 e1 r1 => ?_
  exact hr _ _ h1 σ F1 H1 v1 st1 r1 Q fun ds v F' H' hp s3 e3 r3 => hQ ds v F' H' hp s3 (e1.trans e3) r3
theorem wn_t1 {Φ : List PyData → Prop} {R : PyData → Bool → Prop} {x : Str} {id : String} {r : List V → Hp → VK → Prop} (hc : CallR X (.type id) r) (hm : X.mg x = none) (hv : bootBuiltins x = some (.type id))
    (hr : ∀ d1 z1, R d1 z1 → DNew X.K g env (fun v => r [v]) d1 z1 Φ) (h : WE X g a env R Ψ) (hg : Gl X x := by rfl) (hn : x ≠ "__name__" := by decide) (hdb : (x == ("__debug__" : Str)) = false := by decide)
    (he : starEach [a] X.env = (false, eval a X.env) :: starEach [] X.env := by rfl) (hpl : (backTo pos (starEach ([] : List Expr) X.env)).any (·.1) = false := by rfl) : WN X g (.Call (.Name x p) [a] [] pos) env Φ Ψ := fun W tk σ F H st hx Q hQ => by
  refine semE_of (pe_callTy hc hg hm hv (pa_cons (peS a) pa_nil he) hn hdb he hpl) ?_
  refine h W tk σ F H st hx _ fun d1 z1 v1 F1 H1 h1 st1 e1 r1 => ?_
  exact hr _ _ h1 σ F1 H1 v1 st1 r1 Q fun ds v F' H' hp s3 e3 r3 => hQ ds v F' H' hp s3 (e1.trans e3) r3
inductive LstP (Φ : List PyData → Prop) : PyData → Bool → Prop
  | lst {xs : List PyData} {z : Bool} : Φ xs → LstP Φ (.list xs) z
  | tup {xs : List PyData} {z : Bool} : Φ xs → LstP Φ (.tuple xs) z
theorem wn_listof {Φ : List PyData → Prop} (hm : X.mg "list" = none) (h : WE X g a env (LstP Φ) Ψ) (hg : Gl X "list" := by rfl) (he : starEach [a] X.env = (false, eval a X.env) :: starEach [] X.env := by rfl) : WN X g (.Call (.Name "list" p) [a] [] pos) env Φ Ψ :=
  wn_t1 call_list_of hm (by decide +kernel) (fun d1 z1 q σ F H v1 st r1 Q hQ => by
    cases q with
    | @lst xs z q =>
      obtain ⟨a1, vs1, rfl, s1, p1⟩ := rd_lst st.toSk r1
      exact ⟨a1, vs1, rfl, .inl s1, fun l hl => put_new st hl p1 q hQ⟩
    | @tup xs z q =>
      obtain ⟨a1, vs1, rfl, s1, p1⟩ := rd_tup st.toSk r1
      exact ⟨a1, vs1, rfl, .inr s1, fun l hl => put_new st hl p1 q hQ⟩) h hg (he := he)
/-- sorted(xs), any data that can be put in order -/
def rSortD (K : Frag) : List V → Hp → VK → Prop := fun vs H Q => ∃ (a : Addr) (xs : List V) (ds : List PyData) (F : Hp), vs = [V.ref a] ∧ SqL K H a xs ∧ DqAll K F xs ds ∧ Ex F H ∧ PySem.W.AllAlike ds ∧ PySem.W.Sortable ds ∧ (∀ d ∈ ds, SeqAt.shaped d = true) ∧
  ∀ (ys : List V) (p : Addr), DqAll K F ys (ds.mergeSort (PySem.W.dataLe false id)) → H p = none → Q (.ref p) (upd H p (.lst ys))
theorem each_of {X : Cx} {pins : List (Addr × Obj)} {s : Shared} {F : Hp} (I : Inv X pins σ H s) (e : Ex F H) : ∀ {ds : List PyData} {xs : List V} {its : List Value}, (∀ d ∈ ds, SeqAt.shaped d = true) → Vals xs its → DqAll X.K F xs ds →
    PySem.W.EachIs (fun u d => ∃ x : V, RelV x u ∧ Dq X.K F x d) its ds ∧ PySem.W.EachIs (fun u d => ∃ as, Reads s.heap u (id d) as) its ds
  | [], _, _, _, r, h => by
    cases h
    cases r
    exact ⟨.nil, .nil⟩
  | d :: ds, _, _, c, r, h => by
    cases h with
    | cons h1 h2 =>
      cases r with
      | cons r1 r2 =>
        obtain ⟨q1, q2⟩ := each_of I e (fun b hb => c b (List.mem_cons_of_mem _ hb)) r2 h2
        exact ⟨.cons ⟨_, r1, h1⟩ q1, .cons (Dp.reads I d _ _ (dq_dp _ _ (shp_lay (c d (List.mem_cons_self ..))) (dp_mono e _ _ h1)) r1) q2⟩
theorem each_back {F : Hp} : ∀ {ds : List PyData} {out : List Value}, PySem.W.EachIs (fun u d => ∃ x : V, RelV x u ∧ Dq K F x d) out ds → ∃ ys, Vals ys out ∧ DqAll K F ys ds
  | _, _, .nil => ⟨[], .nil, .nil⟩
  | _, _, .cons ⟨x, h1, h2⟩ t => by
    obtain ⟨ys, q1, q2⟩ := each_back t
    exact ⟨x :: ys, .cons h1 q1, .cons h2 q2⟩
theorem cr_sortD {k : Nat} (hr : Room k X.A) : CallR X (.builtin "sorted") (rSortD X.K) := by
  intro pins s σ H vs us Q I r h
  obtain ⟨a, xs, ds, F, rfl, hs, hd, eF, hal, hk, hdp, q⟩ := h
  obtain ⟨its, rv, hl, hz⟩ := I.list hs
  rw [Vals.ref1 r]
  obtain ⟨q1, q2⟩ := each_of I eF hdp rv hd
  have hids : ds.map id = ds := List.map_id ds
  have hu := hr.un
  refine PySem.W.sorted_data (enc := id) hl.isList q1 q2 (by rw [hids]; exact hal) (by rw [hids]; exact hk) (by rw [← dpa_len hd]; exact hz) (fun b hb => by have : b.depth ≤ 64 := of_decide_eq_true (Bool.and_eq_true_iff.mp (hdp b hb)).2; show X.A.units + 2 + b.depth < cLine; omega) fun out h1 h2 => ?_
  obtain ⟨ys, k1, k2⟩ := each_back h2
  obtain ⟨ep, he'⟩ := PyProof.Rows.sortedAll_at s.heap its out.toArray
  have hlen : ys.length ≤ sizeLine := by rw [k1.length, h1, ← dpa_len hd]; exact hz
  exact ⟨.ref _, upd H (s.heap.objs.size + 1) (.lst ys), I.laid (t' := s.toks) (fun _ _ => PyProof.Rows.sortedAll_old) (Nat.le_succ _) ⟨hlen, out, ep, k1, he'⟩, rfl, q _ _ k2 (I.hok.fresh (Nat.le_succ _))⟩
/-- the list in order -/
def srt (ds : List PyData) : List PyData := ds.mergeSort (PySem.W.dataLe false id)
theorem wn_sorted {k : Nat} {Φ : List PyData → Prop} (hm : X.mg "sorted" = none) (hr : Room k X.A) (h : WE X g a env (fun d _ => ∃ ds, d = .list ds ∧ PySem.W.AllAlike ds ∧ PySem.W.Sortable ds ∧ (∀ d ∈ ds, SeqAt.shaped d = true) ∧ Φ (srt ds)) Ψ) (hg : Gl X "sorted" := by rfl) (he : starEach [a] X.env = (false, eval a X.env) :: starEach [] X.env := by rfl) : WN X g (.Call (.Name "sorted" p) [a] [] pos) env Φ Ψ :=
  wn_b1 (cr_sortD hr) hm (by decide +kernel) (fun d1 z1 ⟨ds, e, h1, h2, h3, q⟩ σ F H v1 st r1 Q hQ => by
    subst e
    obtain ⟨a1, vs1, rfl, s1, p1⟩ := rd_lst st.toSk r1
    exact ⟨a1, vs1, ds, F, rfl, s1, p1, st.ex, h1, h2, h3, fun ys p hy hn => put_new st hn hy q hQ⟩) h hg (he := he)
/-! ### built-ins of two arguments -/
theorem we_b2 {Φ : PyData → Bool → Prop} {R : PyData → Bool → PyData → Bool → Prop} {x : Str} {id : String} {r : List V → Hp → VK → Prop} (hc : CallR X (.builtin id) r) (hm : X.mg x = none) (hv : bootBuiltins x = some (.builtin id))
    (hr : ∀ d1 z1 d2 z2, R d1 z1 d2 z2 → DOp X.K g env (fun v w => r [v, w]) d1 z1 d2 z2 Φ) (h : WE X g a env (fun d1 z1 => WE X g b env (fun d2 z2 => R d1 z1 d2 z2) Ψ) Ψ) (hg : Gl X x := by rfl) (hn : x ≠ "__name__" := by decide) (hdb : (x == ("__debug__" : Str)) = false := by decide)
    (he : starEach [a, b] X.env = (false, eval a X.env) :: starEach [b] X.env := by rfl) (he2 : starEach [b] X.env = (false, eval b X.env) :: starEach [] X.env := by rfl) (hpl : (backTo pos (starEach [b] X.env)).any (·.1) = false := by rfl) : WE X g (.Call (.Name x p) [a, b] [] pos) env Φ Ψ := fun W tk σ F H st hx Q hQ => by
  refine semE_of (pe_callB hc hg hm hv (pa_cons (peS a) (pa_cons (peS b) pa_nil he2) he) hn hdb he hpl) ?_
  refine h W tk σ F H st hx _ fun d1 z1 v1 F1 H1 h1 st1 e1 r1 => ?_
  refine h1 W tk σ F1 H1 st1 hx _ fun d2 z2 v2 F2 H2 h2 st2 e2 r2 => ?_
  exact hr _ _ _ _ h2 σ F2 H2 v1 v2 st2 (rd_mono e2 r1) r2 Q fun d z v F' H' hp s3 e3 r3 => hQ d z v F' H' hp s3 ((e1.trans e2).trans e3) r3
theorem we_min2 {Φ : PyData → Bool → Prop} (hm : X.mg "min" = none) (hc : X.calm = true) (h : WE X g a env (fun d1 z1 => WE X g b env (fun d2 z2 => ∃ i j, d1 = .int i ∧ d2 = .int j ∧ Φ (.int (if j < i then j else i)) true) Ψ) Ψ) (hg : Gl X "min" := by rfl) (he : starEach [a, b] X.env = (false, eval a X.env) :: starEach [b] X.env := by rfl) (he2 : starEach [b] X.env = (false, eval b X.env) :: starEach [] X.env := by rfl) (hpl : (backTo pos (starEach [b] X.env)).any (·.1) = false := by rfl) : WE X g (.Call (.Name "min" p) [a, b] [] pos) env Φ Ψ :=
  we_b2 (call_min2 hc) hm (by decide +kernel) (fun d1 z1 d2 z2 ⟨i, j, e1, e2, q⟩ => by
    subst e1 e2
    exact dop_of q fun σ F H v1 v2 Q st r1 r2 k => ⟨i, j, by rw [rd_int r1, rd_int r2], k _ (.int _)⟩) h hg (he := he) (he2 := he2) (hpl := hpl)
theorem we_max2 {Φ : PyData → Bool → Prop} (hm : X.mg "max" = none) (hc : X.calm = true) (h : WE X g a env (fun d1 z1 => WE X g b env (fun d2 z2 => ∃ i j, d1 = .int i ∧ d2 = .int j ∧ Φ (.int (if j > i then j else i)) true) Ψ) Ψ) (hg : Gl X "max" := by rfl) (he : starEach [a, b] X.env = (false, eval a X.env) :: starEach [b] X.env := by rfl) (he2 : starEach [b] X.env = (false, eval b X.env) :: starEach [] X.env := by rfl) (hpl : (backTo pos (starEach [b] X.env)).any (·.1) = false := by rfl) : WE X g (.Call (.Name "max" p) [a, b] [] pos) env Φ Ψ :=
  we_b2 (call_max2 hc) hm (by decide +kernel) (fun d1 z1 d2 z2 ⟨i, j, e1, e2, q⟩ => by
    subst e1 e2
    exact dop_of q fun σ F H v1 v2 Q st r1 r2 k => ⟨i, j, by rw [rd_int r1, rd_int r2], k _ (.int _)⟩) h hg (he := he) (he2 := he2) (hpl := hpl)

/-! ### slices -/
def WP (X : Cx) (g : G) (e : Option Expr) (env : List Sl) (Φ : Option Int → Prop) (Ψ : Exc → Prop) : Prop := match e with
  | none => Φ none
  | some e => WE X g e env (fun d _ => ∃ i, d = .int i ∧ Φ (some i)) Ψ
def semO (X : Cx) : Option Expr → TO
  | none => tNoPart
  | some e => tPart (semE X e)
theorem poS : ∀ e : Option Expr, PO X e (semO X e)
  | none => po_none
  | some e => po_some (peS e)
theorem wp_run {o : Option Expr} {Φ : Option Int → Prop} (h : WP X g o env Φ Ψ) {W : WX} (tk : Takes X W) (st : St X.K g F H σ env) (hx : HX X g env Ψ W σ) {Q : Option Int → Hp → Prop}
    (hQ : ∀ i F' H', Φ i → St X.K g F' H' σ env → Ex F F' → Q i H') : semO X o σ H Q := by
  cases o with
  | none => exact hQ none F H h st (Ex.refl F)
  | some e =>
    refine h W tk σ F H st hx _ fun d z v F' H' ⟨i, hd, hp⟩ s' e' r' => ?_
    subst hd
    exact ⟨i, rd_int r', hQ (some i) F' H' hp s' e'⟩
/-- the items of xs[lo:hi] -/
def cut {α : Type} (xs : List α) (lo hi : Option Int) : List α := (xs.drop (HT.sIx xs.length 0 lo)).take (HT.sIx xs.length xs.length hi - HT.sIx xs.length 0 lo)
theorem dpa_cut {ds : List PyData} {vs : List V} (h : DqAll K H vs ds) (lo hi : Option Int) : DqAll K H (cutV vs lo hi) (cut ds lo hi) := by
  unfold cutV cut
  rw [dpa_len h]
  exact dpa_take _ (dpa_drop _ h)
theorem wn_sliceL {lo hi : Option Expr} {p2 : Pos} {Φ : List PyData → Prop} (h : WE X g a env (fun d1 _ => ∃ xs, d1 = .list xs ∧ WP X g lo env (fun l => WP X g hi env (fun u => Φ (cut xs l u)) Ψ) Ψ) Ψ) : WN X g (.Subscript a (.Slice lo hi none p2) pos) env Φ Ψ := fun W tk σ F H st hx Q hQ => by
  refine semE_of (pe_slice sl_list (peS a) (poS lo) (poS hi)) ?_
  refine h W tk σ F H st hx _ fun d1 z1 v1 F1 H1 ⟨xs, hd, h1⟩ st1 e1 r1 => ?_
  subst hd
  refine wp_run h1 tk st1 hx fun l F2 H2 h2 st2 e2 => wp_run h2 tk st2 hx fun u F3 H3 h3 st3 e3 => ?_
  obtain ⟨a1, vs1, rfl, s1, p1⟩ := rd_lst st3.toSk (rd_mono (e2.trans e3) r1)
  exact ⟨a1, vs1, rfl, s1, fun p hp => put_new st3 hp (dpa_cut p1 l u) h3 fun ds v F' H' hp s e r => hQ ds v F' H' hp s (((e1.trans e2).trans e3).trans e) r⟩
end
end TL

namespace TL
open PySem PySem.Spec PyProof.Rows L2

/-! ### re-basing -/
def fps (env : List Sl) : List Addr := env.flatMap Sl.fp
theorem own_fps {env : List Sl} {a : Addr} : Own env a ↔ a ∈ fps env := by
  unfold fps
  rw [List.mem_flatMap]
  constructor
  · rintro ⟨i, s, h1, h2⟩
    exact ⟨s, List.mem_of_getElem? h1, h2⟩
  · rintro ⟨s, h1, h2⟩
    obtain ⟨i, hi⟩ := List.getElem?_of_mem h1
    exact ⟨i, s, hi, h2⟩
section
variable {X : Cx} {g : G} {env env' : List Sl} {Ψ : Exc → Prop} {pos p : Pos} {a b c e : Expr} {es : List Expr} {K : Frag} {F F' H H' : Hp} {σ σ' : SS}
theorem Sk.base (st : Sk K F H σ env) : St K ⟨F, H, fps env⟩ F H σ env :=
  { st with g1 := fun _ _ h _ _ => h, gt := ⟨fun a ps h => (by show H a ≠ none; rw [show H a = _ from h]; intro z; cases z), fun p hp z => (by obtain ⟨ps, h1, _⟩ := st.tk.tb p hp; have z : H p.1 = none := z; rw [h1] at z; cases z)⟩, g2 := fun a h => .inr (own_fps.mp h), g3 := Ex.refl F, g4 := fun a h => .inl h, g5 := fun a h => st.there (own_fps.mpr h), g6 := fun a h => st.there (own_fps.mpr h) }
theorem St.rebase (st : St K g F H σ env) (st' : St K ⟨F, H, fps env⟩ F' H' σ' env') (sub : ∀ a, Own env' a → Own env a) : St K g F' H' σ' env' :=
  { st'.toSk with
    g1 := fun a o h m n => st'.g1 a o (st.g1 a o h m n) (fun z => by
      rcases st.g2 a (own_fps.mpr z) with q | q
      · rw [q] at h; cases h
      · exact m q) n
    gt := st.gt.grow fun a z => by
      cases q : H a with
      | none => rfl
      | some u =>
        by_cases hm : a ∈ fps env
        · exact absurd z (st'.g5 a hm)
        · by_cases ht : ∃ ps, u = .tbl ps
          · obtain ⟨ps, rfl⟩ := ht; exact absurd z (st'.gt.g7 a ps q)
          · rw [st'.g1 a u q hm fun ps y => ht ⟨ps, y⟩] at z; cases z
    g2 := fun a h => st.g2 a (sub a h)
    g3 := st.g3.trans st'.g3
    g4 := fun a h => by
      rcases st'.g4 a h with q | q
      · exact st.g4 a q
      · exact .inr (st.h0 q)
    g5 := fun a m z => by
      by_cases h : a ∈ fps env
      · exact st'.g5 a h z
      · cases q : H a with
        | none => exact st.g5 a m q
        | some u =>
          by_cases ht : ∃ ps, u = .tbl ps
          · obtain ⟨ps, rfl⟩ := ht; exact st'.gt.g7 a ps q z
          · rw [st'.g1 a u q h fun ps y => ht ⟨ps, y⟩] at z; cases z
    g6 := st.g6 }

/-! ### several slots set, slots wiped -/
def putsE (env : List Sl) : List (Nat × PyData) → List Sl
  | [] => env
  | (i, d) :: r => putsE (env.set i (.d d)) r
def putsV (σ : SS) : List (Nat × V) → SS
  | [] => σ
  | (i, v) :: r => putsV (σ.set i (some v)) r
def SetsP (K : Frag) (F : Hp) : List (Nat × V) → List (Nat × PyData) → Prop
  | [], [] => True
  | (i, v) :: r, (j, d) :: l => i = j ∧ Dq K F v d ∧ SetsP K F r l
  | _, _ => False
theorem setsP_mono (e : Ex F F') : ∀ {r : List (Nat × V)} {l : List (Nat × PyData)}, SetsP K F r l → SetsP K F' r l
  | [], [], _ => trivial
  | _ :: _, _ :: _, ⟨h1, h2, h3⟩ => ⟨h1, dp_mono e _ _ h2, setsP_mono e h3⟩
theorem setsP_app : ∀ {r r' : List (Nat × V)} {l l' : List (Nat × PyData)}, SetsP K F r l → SetsP K F r' l' → SetsP K F (r ++ r') (l ++ l')
  | [], _, [], _, _, h => h
  | _ :: _, _, _ :: _, _, ⟨h1, h2, h3⟩, h => ⟨h1, h2, setsP_app h3 h⟩
  | [], _, _ :: _, _, h, _ => h.elim
  | _ :: _, _, [], _, h, _ => h.elim
theorem putsV_app (σ : SS) : ∀ (r r' : List (Nat × V)), putsV σ (r ++ r') = putsV (putsV σ r) r'
  | [], _ => rfl
  | (i, v) :: r, r' => putsV_app (σ.set i (some v)) r r'
theorem putsE_len : ∀ (l : List (Nat × PyData)) (env : List Sl), (putsE env l).length = env.length
  | [], _ => rfl
  | (i, d) :: r, env => by rw [putsE, putsE_len r, List.length_set]
theorem St.sets : ∀ {r : List (Nat × V)} {l : List (Nat × PyData)} {σ : SS} {env : List Sl}, St K g F H σ env → SetsP K F r l → (∀ q ∈ l, q.1 < env.length) → St K g F H (putsV σ r) (putsE env l)
  | [], [], _, _, st, _, _ => st
  | (i, v) :: r, (j, d) :: l, σ, env, st, ⟨h1, h2, h3⟩, hl => by
    have h1' : i = j := h1
    subst h1'
    have s2 : St K g F H (σ.set i (some v)) (env.set i (.d d)) := st.setD (hl (i, d) (List.mem_cons_self ..)) h2
    exact St.sets (r := r) (l := l) s2 h3 fun q hq => by rw [List.length_set]; exact hl q (List.mem_cons_of_mem _ hq)
  | [], _ :: _, _, _, _, h, _ => h.elim
  | _ :: _, [], _, _, _, h, _ => h.elim
theorem setsP_idx {vs : List Nat} : ∀ {r : List (Nat × V)} {l : List (Nat × PyData)}, SetsP K F r l → (∀ q ∈ l, q.1 ∈ vs) → ∀ q ∈ r, q.1 ∈ vs
  | [], _, _, _, q, hq => by cases hq
  | a :: r, b :: l, ⟨h1, _, h3⟩, hl, q, hq => by
    rcases List.mem_cons.mp hq with z | z
    · rw [z, show a.1 = b.1 from h1]; exact hl b (List.mem_cons_self ..)
    · exact setsP_idx h3 (fun q hq => hl q (List.mem_cons_of_mem _ hq)) q z
  | _ :: _, [], h, _, _, _ => h.elim
theorem putsV_len : ∀ (r : List (Nat × V)) (σ : SS), (putsV σ r).length = σ.length
  | [], _ => rfl
  | (i, v) :: r, σ => by rw [putsV, putsV_len r, List.length_set]
theorem putsV_get {i : Nat} : ∀ {r : List (Nat × V)} {σ : SS}, (∀ q ∈ r, q.1 ≠ i) → (putsV σ r)[i]? = σ[i]?
  | [], _, _ => rfl
  | (j, v) :: r, σ, h => by
    rw [putsV, putsV_get fun q hq => h q (List.mem_cons_of_mem _ hq), List.getElem?_set, if_neg (h (j, v) (List.mem_cons_self ..))]
theorem putsE_get {i : Nat} : ∀ {r : List (Nat × PyData)} {env : List Sl}, (∀ q ∈ r, q.1 ≠ i) → (putsE env r)[i]? = env[i]?
  | [], _, _ => rfl
  | (j, v) :: r, env, h => by
    rw [putsE, putsE_get fun q hq => h q (List.mem_cons_of_mem _ hq), List.getElem?_set, if_neg (h (j, v) (List.mem_cons_self ..))]
/-- a new object that no slot holds is changed -/
theorem St.untracked {D : Addr} {o' : HO} (st : St K g F H σ env) (hF : F D = none) (hn : ¬ Own env D) (h0 : g.H0 D = none) (ht : ∀ vs, o' ≠ .tup vs := by intro _ z; cases z) : St K g F (upd H D o') σ env where
  len := st.len
  sl := fun i s e => slok_mono (Ex.refl F) (fun a ha u q => by
    have hne : a ≠ D := fun z => hn ⟨i, s, e, z ▸ ha⟩
    rw [upd_ne hne]; exact q) (st.sl i s e)
  nd := st.nd
  fr := st.fr
  ex := st.ex.mut hF
  tf := fun a vs q => by
    by_cases e : a = D
    · subst e; rw [upd_same] at q; exact absurd (Option.some.inj q) (ht vs)
    · rw [upd_ne e] at q; exact st.tf a vs q
  tk := st.tk.put fun p hp z => st.gt.g8 p hp (by rw [z]; exact h0)
  gt := st.gt.grow fun a z => by
    by_cases e : a = D
    · subst e; rw [upd_same] at z; cases z
    · rw [upd_ne e] at z; exact z
  g1 := fun a o h m n => by
    have hne : a ≠ D := fun z => by rw [z, h0] at h; cases h
    rw [upd_ne hne]; exact st.g1 a o h m n
  g2 := st.g2
  g3 := st.g3
  g4 := st.g4
  g5 := fun a m z => by
    by_cases hb : a = D
    · subst hb; rw [upd_same] at z; cases z
    · rw [upd_ne hb] at z; exact st.g5 a m z
  g6 := st.g6
theorem own_putsE : ∀ {l : List (Nat × PyData)} {env : List Sl} {a : Addr}, Own (putsE env l) a → Own env a
  | [], _, _, h => h
  | (i, d) :: r, env, a, h => by
    rcases own_set (own_putsE (l := r) h) with q | q
    · cases q
    · exact q
/-- what a target does with data -/
def TGd (K : Frag) (t : TG) (A : PyData → Option (List (Nat × PyData))) : Prop :=
  ∀ (x : PyData) (l : List (Nat × PyData)) (σ : SS) (F H : Hp) (v : V) (Q : SS → Hp → Prop), A x = some l → Ex F H → Dq K F v x → (∀ r, SetsP K F r l → Q (putsV σ r) H) → t v σ H Q
theorem tgd_name (j : Nat) : TGd K (gName j) (fun x => some [(j, x)]) := fun x l σ F H v Q e eF hd h => by
  have e' := Option.some.inj e
  subst e'
  exact h [(j, v)] ⟨rfl, hd, trivial⟩
def tgs : List (PyData → Option (List (Nat × PyData))) → List PyData → Option (List (Nat × PyData))
  | [], [] => some []
  | A :: As, x :: xs => match A x, tgs As xs with
    | some l, some r => some (l ++ r)
    | _, _ => none
  | _, _ => none
def TGds (K : Frag) (t : TGs) (As : List (PyData → Option (List (Nat × PyData)))) : Prop :=
  ∀ (xs : List PyData) (l : List (Nat × PyData)) (σ : SS) (F H : Hp) (vs : List V) (Q : SS → Hp → Prop), tgs As xs = some l → Ex F H → DqAll K F vs xs → (∀ r, SetsP K F r l → Q (putsV σ r) H) → t vs σ H Q
theorem tgds_nil : TGds K gNil [] := fun xs l σ F H vs Q e eF hd h => by
  cases xs with
  | nil =>
    cases hd
    have e' := Option.some.inj e
    subst e'
    exact ⟨rfl, h [] trivial⟩
  | cons x r => cases e
theorem tgds_cons {t : TG} {u : TGs} {A : PyData → Option (List (Nat × PyData))} {As : List (PyData → Option (List (Nat × PyData)))} (h1 : TGd K t A) (h2 : TGds K u As) : TGds K (gCons t u) (A :: As) := fun xs l σ F H vs Q e eF hd h => by
  cases xs with
  | nil => cases e
  | cons x r =>
    cases hd with
    | @cons v vs d ds hd1 hd2 =>
      have e0 : (match A x, tgs As r with | some l, some r => some (l ++ r) | _, _ => none) = some l := e
      cases q1 : A x with
      | none => rw [q1] at e0; cases e0
      | some l1 =>
        cases q2 : tgs As r with
        | none => rw [q1, q2] at e0; cases e0
        | some l2 =>
          rw [q1, q2] at e0
          have e' := Option.some.inj e0
          subst e'
          refine ⟨v, vs, rfl, h1 x l1 σ F H v _ q1 eF hd1 fun r1 s1 => h2 r l2 _ F H vs Q q2 eF hd2 fun r2 s2 => ?_⟩
          rw [← putsV_app]
          exact h (r1 ++ r2) (setsP_app s1 s2)
def tgTup (As : List (PyData → Option (List (Nat × PyData)))) : PyData → Option (List (Nat × PyData))
  | .tuple xs => tgs As xs
  | _ => none
theorem tgs_len : ∀ {As : List (PyData → Option (List (Nat × PyData)))} {xs : List PyData} {l : List (Nat × PyData)}, tgs As xs = some l → xs.length = As.length
  | [], [], _, _ => rfl
  | A :: As, x :: xs, l, e => by
    have e0 : (match A x, tgs As xs with | some l, some r => some (l ++ r) | _, _ => none) = some l := e
    cases q2 : tgs As xs with
    | none => rw [q2] at e0; cases q1 : A x <;> rw [q1] at e0 <;> cases e0
    | some l2 => exact congrArg Nat.succ (tgs_len q2)
  | [], _ :: _, _, e => by cases e
  | _ :: _, [], _, e => by cases e
theorem tgd_tup {u : TGs} {n : Nat} {As : List (PyData → Option (List (Nat × PyData)))} (h : TGds K u As) (hn : As.length = n) : TGd K (gTup K n u) (tgTup As) := fun x l σ F H v Q e eF hd hQ => by
  cases x with
  | tuple xs =>
    obtain ⟨a, vs, rfl, h1, h2⟩ := dp_tup hd
    exact ⟨a, vs, rfl, ex_t eF h1, by rw [dpa_len h2, tgs_len e, hn], h xs l σ F H vs Q e eF h2 hQ⟩
  | _ => cases e

def wipeE (env : List Sl) : List Nat → List Sl
  | [] => env
  | v :: vs => (wipeE env vs).set v .un
def wipeOk (env : List Sl) (vs : List Nat) : Bool := vs.all fun i => match env[i]? with
  | some s => s.fp.isEmpty
  | none => true
theorem wipeE_len (env : List Sl) : ∀ vs : List Nat, (wipeE env vs).length = env.length
  | [] => rfl
  | v :: vs => by rw [wipeE, List.length_set, wipeE_len env vs]
theorem wipe_get (σ : SS) (i : Nat) : ∀ vs : List Nat, (wipe σ vs)[i]? = if i ∈ vs then (σ[i]?.map fun _ => none) else σ[i]?
  | [] => by rw [if_neg (by simp)]; rfl
  | v :: vs => by
    show ((wipe σ vs).set v none)[i]? = _
    rw [List.getElem?_set]
    by_cases h : v = i
    · subst h
      rw [if_pos rfl, if_pos (List.mem_cons_self ..), wipe_length]
      by_cases hl : v < σ.length
      · rw [if_pos hl, List.getElem?_eq_getElem hl]; rfl
      · rw [if_neg hl, List.getElem?_eq_none (by omega)]; rfl
    · rw [if_neg h, wipe_get σ i vs]
      by_cases hm : i ∈ vs
      · rw [if_pos hm, if_pos (List.mem_cons_of_mem _ hm)]
      · rw [if_neg hm, if_neg fun z => by
          rcases List.mem_cons.mp z with z | z
          · exact h z.symm
          · exact hm z]
theorem wipeE_get (env : List Sl) (i : Nat) : ∀ vs : List Nat, (wipeE env vs)[i]? = if i ∈ vs then (env[i]?.map fun _ => .un) else env[i]?
  | [] => by rw [if_neg (by simp)]; rfl
  | v :: vs => by
    show ((wipeE env vs).set v .un)[i]? = _
    rw [List.getElem?_set]
    by_cases h : v = i
    · subst h
      rw [if_pos rfl, if_pos (List.mem_cons_self ..), wipeE_len]
      by_cases hl : v < env.length
      · rw [if_pos hl, List.getElem?_eq_getElem hl]; rfl
      · rw [if_neg hl, List.getElem?_eq_none (by omega)]; rfl
    · rw [if_neg h, wipeE_get env i vs]
      by_cases hm : i ∈ vs
      · rw [if_pos hm, if_pos (List.mem_cons_of_mem _ hm)]
      · rw [if_neg hm, if_neg fun z => by
          rcases List.mem_cons.mp z with z | z
          · exact h z.symm
          · exact hm z]
theorem wipe_set {σ : SS} {i : Nat} {x : Option V} {vs : List Nat} (hi : i ∈ vs) : wipe (σ.set i x) vs = wipe σ vs := by
  apply List.ext_getElem?
  intro j
  rw [wipe_get, wipe_get]
  by_cases h : j ∈ vs
  · rw [if_pos h, if_pos h, List.getElem?_set]
    by_cases e : i = j
    · subst e
      rw [if_pos rfl]
      by_cases hl : i < σ.length
      · rw [if_pos hl, List.getElem?_eq_getElem hl]; rfl
      · rw [if_neg hl, List.getElem?_eq_none (by omega)]
    · rw [if_neg e]
  · rw [if_neg h, if_neg h, List.getElem?_set, if_neg (fun z : i = j => h (by rw [← z]; exact hi))]
theorem wipe_wipe (σ : SS) (vs : List Nat) : wipe (wipe σ vs) vs = wipe σ vs := by
  apply List.ext_getElem?
  intro j
  rw [wipe_get, wipe_get]
  by_cases h : j ∈ vs
  · rw [if_pos h, if_pos h, Option.map_map]; rfl
  · rw [if_neg h, if_neg h]
theorem wipe_putsV {vs : List Nat} : ∀ {r : List (Nat × V)} {σ : SS}, (∀ q ∈ r, q.1 ∈ vs) → wipe (putsV σ r) vs = wipe σ vs
  | [], _, _ => rfl
  | (i, v) :: r, σ, h => by
    rw [putsV, wipe_putsV fun q hq => h q (List.mem_cons_of_mem _ hq)]
    exact wipe_set (h _ (List.mem_cons_self ..))
theorem own_wipe {vs : List Nat} {a : Addr} (h : Own (wipeE env vs) a) : Own env a := by
  obtain ⟨i, s, h1, h2⟩ := h
  rw [wipeE_get] at h1
  by_cases hm : i ∈ vs
  · rw [if_pos hm] at h1
    obtain ⟨t, _, e⟩ := Option.map_eq_some_iff.mp h1
    subst e
    cases h2
  · rw [if_neg hm] at h1
    exact ⟨i, s, h1, h2⟩
theorem own_wipe' {vs : List Nat} (ok : wipeOk env vs = true) {a : Addr} (h : Own env a) : Own (wipeE env vs) a := by
  obtain ⟨i, s, h1, h2⟩ := h
  refine ⟨i, s, ?_, h2⟩
  rw [wipeE_get]
  by_cases hm : i ∈ vs
  · have q := List.all_eq_true.mp ok i hm
    rw [h1] at q
    have q' : s.fp.isEmpty = true := q
    cases hs : s.fp with
    | nil => rw [hs] at h2; cases h2
    | cons x r => rw [hs] at q'; cases q'
  · rw [if_neg hm]; exact h1
/-- into a block -/
theorem St.wiped (st : St K g F H σ env) (vs : List Nat) : St K g F H (wipe σ vs) (wipeE env vs) where
  len := by rw [wipe_length, wipeE_len]; exact st.len
  sl := fun i s e => by
    rw [wipeE_get] at e
    by_cases hm : i ∈ vs
    · rw [if_pos hm] at e
      obtain ⟨t, _, e⟩ := Option.map_eq_some_iff.mp e
      subst e
      trivial
    · rw [if_neg hm] at e
      rw [wipe_get, if_neg hm]
      exact st.sl i s e
  nd := fun i j s t a ei ej h1 h2 => by
    rw [wipeE_get] at ei ej
    by_cases hi : i ∈ vs
    · rw [if_pos hi] at ei
      obtain ⟨_, _, e⟩ := Option.map_eq_some_iff.mp ei
      subst e
      cases h1
    · by_cases hj : j ∈ vs
      · rw [if_pos hj] at ej
        obtain ⟨_, _, e⟩ := Option.map_eq_some_iff.mp ej
        subst e
        cases h2
      · rw [if_neg hi] at ei
        rw [if_neg hj] at ej
        exact st.nd i j s t a ei ej h1 h2
  fr := fun a h => st.fr a (own_wipe h)
  ex := st.ex
  tf := st.tf
  tk := st.tk
  gt := st.gt
  g1 := st.g1
  g2 := fun a h => st.g2 a (own_wipe h)
  g3 := st.g3
  g4 := st.g4
  g5 := st.g5
  g6 := st.g6
/-- out of a block -/
theorem St.unwiped {vs : List Nat} (st : St K g F H σ env) (ok : wipeOk env vs = true) (st' : St K g F' H' (wipe σ vs) (wipeE env vs)) (e : Ex F F') : St K g F' H' σ env where
  len := st.len
  sl := fun i s e1 => by
    by_cases hm : i ∈ vs
    · have q := List.all_eq_true.mp ok i hm
      rw [e1] at q
      have q' : s.fp.isEmpty = true := q
      refine slok_mono e (fun a ha => ?_) (st.sl i s e1)
      cases hs : s.fp with
      | nil => rw [hs] at ha; cases ha
      | cons x r => rw [hs] at q'; cases q'
    · have q := st'.sl i s (by rw [wipeE_get, if_neg hm]; exact e1)
      rw [wipe_get, if_neg hm] at q
      exact q
  nd := st.nd
  fr := fun a h => st'.fr a (own_wipe' ok h)
  ex := st'.ex
  tf := st'.tf
  tk := st'.tk
  gt := st'.gt
  g1 := st'.g1
  g2 := fun a h => st.g2 a h
  g3 := st'.g3
  g4 := st'.g4
  g5 := st'.g5
  g6 := st'.g6

/-! ### list comprehensions -/
abbrev BX (X : Cx) (scope : Scope) (s : Shared) (H : Hp) (C : Addr) (cl : List (Str × Addr)) (fp : List Addr) : Cx := X.blk s H scope (compEnvC scope cl C X.env) fp
def semEB (X : Cx) (scope : Scope) (e : Expr) : TE := fun σ H Q => ∀ s H0 C cl fp, semE (BX X scope s H0 C cl fp) e σ H Q
def semTB (X : Cx) (scope : Scope) : List Expr → TT
  | [] => tYes
  | c :: _ => fun σ H Q => ∀ s H0 C cl fp, semT (BX X scope s H0 C cl fp) c σ H Q
/-- the tests of a clause: none or one -/
def WTs (X : Cx) (g : G) (ifs : List Expr) (env : List Sl) (Φ : Bool → Prop) : Prop := match ifs with
  | [] => Φ true
  | c :: _ => WT X g c env Φ (fun _ => False)
theorem takesB {scope : Scope} {s : Shared} {H0 : Hp} {C : Addr} {cl : List (Str × Addr)} {fp : List Addr} : Takes (BX X scope s H0 C cl fp) (fun _ _ _ _ => False) := fun _ _ x => by
  obtain ⟨_, _, _, _, _, _, _, _, _, _, _, _, _, _, _, _, z⟩ := x
  exact z.elim
theorem hxF {W : WX} : HX X g env (fun _ => False) W σ := fun _ _ _ h => h.elim
/-- the state within a comprehension -/
def LJ (K : Frag) (g : G) (F1 : Hp) (σ : SS) (env : List Sl) (Pv : Nat → List PyData → Prop) (D : Addr) (i : Nat) (H : Hp) : Prop :=
  ∃ F acc avs, St K g F H σ env ∧ Ex F1 F ∧ H D = some (.lst avs) ∧ DqAll K F avs acc ∧ F D = none ∧ ¬ Own env D ∧ g.H0 D = none ∧ Pv i acc ∧ acc.length ≤ i
theorem lc_turn {scope : Scope} {ifs : List Expr} {elt : Expr} {t : TG} {A : PyData → Option (List (Nat × PyData))} {F1 : Hp} {vs : List Nat} {Pv : Nat → List PyData → Prop} {D : Addr} {i : Nat} {x : PyData} {v : V} {l : List (Nat × PyData)}
    (htd : TGd X.K t A) (hA : A x = some l) (hl : ∀ q ∈ l, q.1 ∈ vs ∧ q.1 < env.length) (hsz : i < sizeLine) (hv : Dq X.K F1 v x) (hJ : LJ X.K g F1 (wipe σ vs) (wipeE env vs) Pv D i H)
    (hb : ∀ acc, Pv i acc → ∀ (g' : G) s H0 C cl fp, WTs (BX X scope s H0 C cl fp) g' ifs (putsE (wipeE env vs) l) (fun b => (b = true → ∀ s H0 C cl fp, WE (BX X scope s H0 C cl fp) g' elt (putsE (wipeE env vs) l) (fun y z => z = true ∧ Pv (i + 1) (acc ++ [y])) (fun _ => False)) ∧ (b = false → Pv (i + 1) acc))) :
    t v (wipe σ vs) H fun σ2 H2 => wipe σ2 vs = wipe σ vs ∧ semTB X scope ifs σ2 H2 fun b H3 =>
      if b = true then semEB X scope elt σ2 H3 fun y H4 => ∃ acc, H4 D = some (.lst acc) ∧ acc.length < sizeLine ∧ LJ X.K g F1 (wipe σ vs) (wipeE env vs) Pv D (i + 1) (upd H4 D (.lst (acc ++ [y]))) else LJ X.K g F1 (wipe σ vs) (wipeE env vs) Pv D (i + 1) H3 := by
  obtain ⟨F, acc, avs, st, eF, hD, hd, fD, oD, gD, hp, hlen⟩ := hJ
  refine htd x l (wipe σ vs) F H v _ hA st.ex (dp_mono eF _ _ hv) fun r sr => ?_
  have hidx : ∀ q ∈ r, q.1 ∈ vs := setsP_idx sr fun q hq => (hl q hq).1
  refine ⟨by rw [wipe_putsV hidx]; exact wipe_wipe σ vs, ?_⟩
  -- the state within the turn, over a ground of its own
  have st1 : St X.K ⟨F, H, fps (wipeE env vs)⟩ F H (putsV (wipe σ vs) r) (putsE (wipeE env vs) l) := St.sets st.toSk.base sr fun q hq => by rw [wipeE_len]; exact (hl q hq).2
  have back : ∀ {F' H'}, St X.K ⟨F, H, fps (wipeE env vs)⟩ F' H' (putsV (wipe σ vs) r) (putsE (wipeE env vs) l) → Ex F F' → St X.K ⟨F, H, fps (wipeE env vs)⟩ F' H' (wipe σ vs) (wipeE env vs) := fun {F' H'} s' e' =>
    { len := by rw [wipe_length, wipeE_len]; have := s'.len; rw [putsE_len, wipeE_len] at this; rw [← this, putsV_len, wipe_length]
      sl := fun k s e => by
        by_cases hm : k ∈ vs
        · rw [wipeE_get, if_pos hm] at e
          obtain ⟨_, _, e⟩ := Option.map_eq_some_iff.mp e
          subst e
          trivial
        · have e2 : (putsE (wipeE env vs) l)[k]? = some s := by rw [putsE_get (i := k) fun q hq (z : q.1 = k) => hm (by rw [← z]; exact (hl q hq).1)]; exact e
          have q := s'.sl k s e2
          rw [putsV_get (i := k) fun q hq (z : q.1 = k) => hm (by rw [← z]; exact hidx q hq)] at q
          exact q
      nd := st.nd
      fr := fun a h => by
        obtain ⟨k, s, h1, h2⟩ := h
        by_cases hm : k ∈ vs
        · rw [wipeE_get, if_pos hm] at h1
          obtain ⟨_, _, e⟩ := Option.map_eq_some_iff.mp h1
          subst e
          cases h2
        · exact s'.fr a ⟨k, s, by rw [putsE_get (i := k) fun q hq (z : q.1 = k) => hm (by rw [← z]; exact (hl q hq).1)]; exact h1, h2⟩
      ex := s'.ex
      tf := s'.tf
      tk := s'.tk
      gt := s'.gt
      g1 := s'.g1
      g2 := fun a h => .inr (own_fps.mp h)
      g3 := s'.g3
      g4 := s'.g4
      g5 := s'.g5
      g6 := s'.g6 }
  have keepD : ∀ {F' H'}, St X.K ⟨F, H, fps (wipeE env vs)⟩ F' H' (putsV (wipe σ vs) r) (putsE (wipeE env vs) l) → H' D = some (.lst avs) ∧ F' D = none := fun {F' H'} s' => by
    refine ⟨s'.g1 D _ hD (fun z => oD (own_fps.mpr z)) (fun _ z => by cases z), ?_⟩
    cases q : F' D with
    | none => rfl
    | some u =>
      rcases s'.g4 D (by rw [q]; intro z; cases z) with z | z
      · exact absurd fD z
      · have z' : H D = none := z
        rw [hD] at z'; cases z'
  have tests : ∀ (Q : Bool → Hp → Prop), (∀ b F' H', ((b = true → ∀ s H0 C cl fp, WE (BX X scope s H0 C cl fp) ⟨F, H, fps (wipeE env vs)⟩ elt (putsE (wipeE env vs) l) (fun y z => z = true ∧ Pv (i + 1) (acc ++ [y])) (fun _ => False)) ∧ (b = false → Pv (i + 1) acc)) →
      St X.K ⟨F, H, fps (wipeE env vs)⟩ F' H' (putsV (wipe σ vs) r) (putsE (wipeE env vs) l) → Ex F F' → Q b H') → semTB X scope ifs (putsV (wipe σ vs) r) H Q := fun Q hQ => by
    cases ifs with
    | nil =>
      exact hQ true F H ⟨fun _ s H0 C cl fp => (hb acc hp _ (X.s_0) H0 C cl fp).1 rfl s H0 C cl fp, fun z => by cases z⟩ st1 (Ex.refl F)
    | cons c cs =>
      intro s H0 C cl fp
      refine hb acc hp _ s H0 C cl fp _ takesB _ F H st1 hxF Q fun b F' H' hbb s' e' => hQ b F' H' hbb s' e'
  refine tests _ fun b F' H' ⟨h1, h2⟩ s' e' => ?_
  cases b with
  | true =>
    rw [if_pos rfl]
    intro s H0 C cl fp
    refine h1 rfl s H0 C cl fp _ takesB _ F' H' s' hxF _ fun y z w F2 H2 ⟨hz, hp2⟩ s2 e2 rd => ?_
    subst hz
    obtain ⟨hD2, fD2⟩ := keepD s2
    refine ⟨avs, hD2, by rw [dpa_len hd]; omega, F2, acc ++ [y], avs ++ [w], ?_, eF.trans (e'.trans e2), upd_same, ?_, fD2, oD, gD, hp2, by rw [List.length_append, List.length_singleton]; omega⟩
    · have s3 := st.rebase (back s2 (e'.trans e2)) fun a h => h
      exact s3.untracked fD2 oD gD
    · exact dpa_app (dpa_mono (e'.trans e2) _ _ hd) (dpa_one rd)
  | false =>
    rw [if_neg Bool.false_ne_true]
    obtain ⟨hD2, fD2⟩ := keepD s'
    exact ⟨F', acc, avs, st.rebase (back s' e') fun a h => h, eF.trans e', hD2, dpa_mono e' _ _ hd, fD2, oD, gD, h2 rfl, by omega⟩

/-- the state is one of the model's too -/
def tI (X : Cx) (t : TE) : TE := fun σ H Q => t σ H fun v H' => (∃ pins s, Inv X pins σ H' s) → Q v H'
theorem peI (e : Expr) : PE X e (tI X (semE X e)) := ⟨fun pins s σ H Q I h => thn (h.run pins s I) fun u s' ⟨v, H', I', r, q⟩ => ⟨v, H', I', r, q ⟨pins, s', I'⟩⟩⟩
theorem ptsB {scope : Scope} {ifs : List Expr} (h1 : ifs.length ≤ 1) (s : Shared) (H0 : Hp) (C : Addr) (cl : List (Str × Addr)) (fp : List Addr) : PTs (BX X scope s H0 C cl fp) ifs (semTB X scope ifs) := by
  match ifs, h1 with
  | [], _ => exact pts_nil
  | [c], _ => exact pts_one ⟨fun pins s2 σ H Q I h => (h s H0 C cl fp).run pins s2 I⟩
theorem peB {scope : Scope} {e : Expr} (s : Shared) (H0 : Hp) (C : Addr) (cl : List (Str × Addr)) (fp : List Addr) : PE (BX X scope s H0 C cl fp) e (semEB X scope e) := ⟨fun pins s2 σ H Q I h => (h s H0 C cl fp).run pins s2 I⟩
/-- one turn's wish -/
def LT (X : Cx) (env : List Sl) (scope : Scope) (ifs : List Expr) (elt : Expr) (vs : List Nat) (A : PyData → Option (List (Nat × PyData))) (Pv : Nat → List PyData → Prop) (i : Nat) (x : PyData) : Prop :=
  ∃ l, A x = some l ∧ (l.all fun q => vs.elem q.1 && Nat.blt q.1 env.length) = true ∧ ∀ acc, Pv i acc → ∀ (g' : G) s H0 C cl fp, WTs (BX X scope s H0 C cl fp) g' ifs (putsE (wipeE env vs) l) (fun b =>
    (b = true → ∀ s H0 C cl fp, WE (BX X scope s H0 C cl fp) g' elt (putsE (wipeE env vs) l) (fun y z => z = true ∧ Pv (i + 1) (acc ++ [y])) (fun _ => False)) ∧ (b = false → Pv (i + 1) acc))
theorem lt_idx {vs : List Nat} {l : List (Nat × PyData)} {n : Nat} (h : (l.all fun q => vs.elem q.1 && Nat.blt q.1 n) = true) : ∀ q ∈ l, q.1 ∈ vs ∧ q.1 < n := fun q hq => by
  have h1 := Bool.and_eq_true_iff.mp (List.all_eq_true.mp h q hq)
  exact ⟨List.elem_iff.mp h1.1, Nat.le_of_ble_eq_true h1.2⟩
def WNt (X : Cx) (g : G) (t : TE) (env : List Sl) (Φ : List PyData → Prop) (Ψ : Exc → Prop) : Prop :=
  ∀ (W : WX), Takes X W → ∀ (σ : SS) (F H : Hp), St X.K g F H σ env → HX X g env Ψ W σ →
    ∀ Q : VK, (∀ ds v F' H', Φ ds → St X.K g F' H' σ env → Ex F F' → NewL X.K g F' H' env v ds → Q v H') → t σ H Q
section
variable {tg iter elt : Expr} {ifs : List Expr} {scope : Scope} {own : List (Str × Nat)} {t : TG} {A : PyData → Option (List (Nat × PyData))} {Φ : List PyData → Prop}
/-- [elt for tg in a list] -/
theorem nt_lcL (htd : TGd X.K t A) (hwo : wipeOk env (own.map (·.2)) = true)
    (hi : WE X g iter env (fun d z => z = true ∧ ∃ (xs : List PyData) (Pv : Nat → List PyData → Prop), d = .list xs ∧ Pv 0 [] ∧ (∀ i x, xs[i]? = some x → LT X env scope ifs elt (own.map (·.2)) A Pv i x) ∧ ∀ acc, Pv xs.length acc → Φ acc) Ψ) : WNt X g (tLc (iList X.K (tI X (semE X iter))) t (semTB X scope ifs) (semEB X scope elt) (own.map (·.2))) env Φ Ψ := fun W tk σ F H st hx Q hQ => by
  refine hi W tk σ F H st hx _ fun d z v F1 H1 ⟨hz, xs, Pv, hd, p0, pt, pe⟩ s1 e1 rd inv => ?_
  subst hz hd
  obtain ⟨a, vs, rfl, hsq, hda⟩ := dp_lst rd
  obtain ⟨pins, sh, I⟩ := inv
  have hlen : vs.length ≤ sizeLine := by
    obtain ⟨_, _, _, hz⟩ := I.list (ex_l s1.ex hsq)
    exact hz
  refine ⟨a, rfl, ⟨vs, ex_l s1.ex hsq⟩, fun D hD => ?_⟩
  have st2 : St X.K g F1 (upd H1 D (.lst [])) (wipe σ (own.map (·.2))) (wipeE env (own.map (·.2))) := (s1.alloc hD).wiped _
  refine lc_list (xs := vs) (LJ X.K g F1 (wipe σ (own.map (·.2))) (wipeE env (own.map (·.2))) Pv D) ⟨F1, [], [], st2, Ex.refl F1, upd_same, .nil, s1.ex.none hD, fun z => s1.there (own_wipe z) hD, s1.h0 hD, p0, Nat.le_refl 0⟩ (fun i H2 _ ⟨F2, _, _, s3, e3, _⟩ => ex_l s3.ex (ex_l e3 hsq)) (fun i x H2 hx2 hJ => ?_) (fun H2 ⟨F2, acc, avs, s3, e3, hD3, hd3, fD, oD, gD, hp, _⟩ => ?_)
  · obtain ⟨d, hd1, hd2⟩ := dpa_of hda hx2
    obtain ⟨l, hA, hl, hb⟩ := pt i d hd1
    exact lc_turn htd hA (lt_idx hl) (by have := (List.getElem?_eq_some_iff.mp hx2).1; omega) hd2 hJ hb
  · rw [dpa_len hda] at hp
    exact hQ acc (.ref D) F2 H2 (pe acc hp) (s1.unwiped hwo s3 e3) (e1.trans e3) ⟨D, avs, rfl, hD3, hd3, fD, fun z => s1.there z hD, gD⟩
theorem wn_lcL (hc : X.calm = true) (hN : X.N.Nodup) (ok : BlkOk X.N X.env.scope scope own) (hpg : ∀ s H C cl fp, PG (BX X scope s H C cl fp) tg t) (htd : TGd X.K t A) (h1 : ifs.length ≤ 1) (hwo : wipeOk env (own.map (·.2)) = true)
    (hi : WE X g iter env (fun d z => z = true ∧ ∃ (xs : List PyData) (Pv : Nat → List PyData → Prop), d = .list xs ∧ Pv 0 [] ∧ (∀ i x, xs[i]? = some x → LT X env scope ifs elt (own.map (·.2)) A Pv i x) ∧ ∀ acc, Pv xs.length acc → Φ acc) Ψ)
    (hs : ∀ x, foldedSetIterable iter X.env x = pure x := by intro _; rfl) : WN X g (.ListComp elt [⟨tg, iter, ifs, 0⟩] scope pos) env Φ Ψ := fun W tk σ F H st hx Q hQ =>
  semE_of (pe_lc hc hN (pi_list (peI iter)) ok hpg (ptsB h1) peB hs) (nt_lcL htd hwo hi W tk σ F H st hx Q hQ)
/-- .. over a tuple -/
theorem nt_lcT (htd : TGd X.K t A) (hwo : wipeOk env (own.map (·.2)) = true)
    (hi : WE X g iter env (fun d z => z = true ∧ ∃ (xs : List PyData) (Pv : Nat → List PyData → Prop), d = .tuple xs ∧ Pv 0 [] ∧ (∀ i x, xs[i]? = some x → LT X env scope ifs elt (own.map (·.2)) A Pv i x) ∧ ∀ acc, Pv xs.length acc → Φ acc) Ψ) : WNt X g (tLc (iTup X.K (tI X (semE X iter))) t (semTB X scope ifs) (semEB X scope elt) (own.map (·.2))) env Φ Ψ := fun W tk σ F H st hx Q hQ => by
  refine hi W tk σ F H st hx _ fun d z v F1 H1 ⟨hz, xs, Pv, hd, p0, pt, pe⟩ s1 e1 rd inv => ?_
  subst hz hd
  obtain ⟨a, vs, rfl, hsq, hda⟩ := dp_tup rd
  obtain ⟨pins, sh, I⟩ := inv
  have hlen : vs.length ≤ sizeLine := by
    obtain ⟨_, _, _, hz⟩ := I.tuple (ex_t s1.ex hsq)
    exact hz
  refine ⟨a, rfl, ⟨vs, ex_t s1.ex hsq⟩, fun D hD => ?_⟩
  have st2 : St X.K g F1 (upd H1 D (.lst [])) (wipe σ (own.map (·.2))) (wipeE env (own.map (·.2))) := (s1.alloc hD).wiped _
  refine lc_tup (xs := vs) (LJ X.K g F1 (wipe σ (own.map (·.2))) (wipeE env (own.map (·.2))) Pv D) ⟨F1, [], [], st2, Ex.refl F1, upd_same, .nil, s1.ex.none hD, fun z => s1.there (own_wipe z) hD, s1.h0 hD, p0, Nat.le_refl 0⟩ (fun i H2 _ ⟨F2, _, _, s3, e3, _⟩ => ex_t s3.ex (ex_t e3 hsq)) (fun i x H2 hx2 hJ => ?_) (fun H2 ⟨F2, acc, avs, s3, e3, hD3, hd3, fD, oD, gD, hp, _⟩ => ?_)
  · obtain ⟨d, hd1, hd2⟩ := dpa_of hda hx2
    obtain ⟨l, hA, hl, hb⟩ := pt i d hd1
    exact lc_turn htd hA (lt_idx hl) (by have := (List.getElem?_eq_some_iff.mp hx2).1; omega) hd2 hJ hb
  · rw [dpa_len hda] at hp
    exact hQ acc (.ref D) F2 H2 (pe acc hp) (s1.unwiped hwo s3 e3) (e1.trans e3) ⟨D, avs, rfl, hD3, hd3, fD, fun z => s1.there z hD, gD⟩
theorem wn_lcT (hc : X.calm = true) (hN : X.N.Nodup) (ok : BlkOk X.N X.env.scope scope own) (hpg : ∀ s H C cl fp, PG (BX X scope s H C cl fp) tg t) (htd : TGd X.K t A) (h1 : ifs.length ≤ 1) (hwo : wipeOk env (own.map (·.2)) = true)
    (hi : WE X g iter env (fun d z => z = true ∧ ∃ (xs : List PyData) (Pv : Nat → List PyData → Prop), d = .tuple xs ∧ Pv 0 [] ∧ (∀ i x, xs[i]? = some x → LT X env scope ifs elt (own.map (·.2)) A Pv i x) ∧ ∀ acc, Pv xs.length acc → Φ acc) Ψ)
    (hs : ∀ x, foldedSetIterable iter X.env x = pure x := by intro _; rfl) : WN X g (.ListComp elt [⟨tg, iter, ifs, 0⟩] scope pos) env Φ Ψ := fun W tk σ F H st hx Q hQ =>
  semE_of (pe_lc hc hN (pi_tup (peI iter)) ok hpg (ptsB h1) peB hs) (nt_lcT htd hwo hi W tk σ F H st hx Q hQ)
/-- .. over range(n) -/
theorem nt_lcR1 (htd : TGd X.K t A) (hwo : wipeOk env (own.map (·.2)) = true)
    (hi : WE X g a env (fun d z => ∃ (n : Int) (Pv : Nat → List PyData → Prop), d = .int n ∧ (-1000000 ≤ n ∧ n ≤ 16777216) ∧ Pv 0 [] ∧ (∀ i : Nat, (i : Int) < n → LT X env scope ifs elt (own.map (·.2)) A Pv i (.int i)) ∧ ∀ acc, Pv n.toNat acc → Φ acc) Ψ) : WNt X g (tLc (iRng1 (tCons (semE X a) tNil)) t (semTB X scope ifs) (semEB X scope elt) (own.map (·.2))) env Φ Ψ := fun W tk σ F H st hx Q hQ => by
  have hsl := sizeLine_eq
  refine hi W tk σ F H st hx _ fun d z v F1 H1 ⟨n, Pv, hd, hn, p0, pt, pe⟩ s1 e1 rd => ?_
  subst hd
  rw [rd_int rd]
  refine ⟨n, rfl, by omega, by omega, fun D hD => ?_⟩
  have st2 : St X.K g F1 (upd H1 D (.lst [])) (wipe σ (own.map (·.2))) (wipeE env (own.map (·.2))) := (s1.alloc hD).wiped _
  refine lc_range (lo := 0) (n := n.toNat) (LJ X.K g F1 (wipe σ (own.map (·.2))) (wipeE env (own.map (·.2))) Pv D) ⟨F1, [], [], st2, Ex.refl F1, upd_same, .nil, s1.ex.none hD, fun z => s1.there (own_wipe z) hD, s1.h0 hD, p0, Nat.le_refl 0⟩ (fun i H2 hi2 hJ => ?_) (fun H2 ⟨F2, acc, avs, s3, e3, hD3, hd3, fD, oD, gD, hp, _⟩ => ?_)
  · obtain ⟨l, hA, hl, hb⟩ := pt i (by omega)
    rw [Int.zero_add]
    exact lc_turn htd hA (lt_idx hl) (by omega) (.int _) hJ hb
  · exact hQ acc (.ref D) F2 H2 (pe acc hp) (s1.unwiped hwo s3 e3) (e1.trans e3) ⟨D, avs, rfl, hD3, hd3, fD, fun z => s1.there z hD, gD⟩
theorem wn_lcR1 {p1 p2 : Pos} (hm : X.mg "range" = none) (hc : X.calm = true) (hN : X.N.Nodup) (ok : BlkOk X.N X.env.scope scope own) (hpg : ∀ s H C cl fp, PG (BX X scope s H C cl fp) tg t) (htd : TGd X.K t A) (h1 : ifs.length ≤ 1) (hwo : wipeOk env (own.map (·.2)) = true)
    (hi : WE X g a env (fun d z => ∃ (n : Int) (Pv : Nat → List PyData → Prop), d = .int n ∧ (-1000000 ≤ n ∧ n ≤ 16777216) ∧ Pv 0 [] ∧ (∀ i : Nat, (i : Int) < n → LT X env scope ifs elt (own.map (·.2)) A Pv i (.int i)) ∧ ∀ acc, Pv n.toNat acc → Φ acc) Ψ)
    (hs : ∀ x, foldedSetIterable (.Call (.Name "range" p1) [a] [] p2) X.env x = pure x := by intro _; rfl) (hg : Gl X "range" := by rfl) (he : starEach [a] X.env = [(false, eval a X.env)] := by rfl) :
    WN X g (.ListComp elt [⟨tg, .Call (.Name "range" p1) [a] [] p2, ifs, 0⟩] scope pos) env Φ Ψ := fun W tk σ F H st hx Q hQ =>
  semE_of (pe_lc hc hN (pi_range1 hg hm (pa_cons (peS a) pa_nil (by rw [he]; rfl)) he) ok hpg (ptsB h1) peB hs) (nt_lcR1 htd hwo hi W tk σ F H st hx Q hQ)
/-- .. over range(lo, hi) -/
theorem nt_lcR2 (htd : TGd X.K t A) (hwo : wipeOk env (own.map (·.2)) = true)
    (hi : WE X g a env (fun d z => ∃ lo, d = .int lo ∧ WE X g b env (fun d z => ∃ (n : Int) (Pv : Nat → List PyData → Prop), d = .int n ∧ (-1000000 ≤ lo ∧ lo ≤ 1000000 ∧ -1000000 ≤ n ∧ n ≤ 1000000) ∧ Pv 0 [] ∧ (∀ i : Nat, lo + (i : Int) < n → LT X env scope ifs elt (own.map (·.2)) A Pv i (.int (lo + i))) ∧ ∀ acc, Pv (n - lo).toNat acc → Φ acc) Ψ) Ψ) : WNt X g (tLc (iRng2 (tCons (semE X a) (tCons (semE X b) tNil))) t (semTB X scope ifs) (semEB X scope elt) (own.map (·.2))) env Φ Ψ := fun W tk σ F H st hx Q hQ => by
  have hsl := sizeLine_eq
  refine hi W tk σ F H st hx _ fun d0 z0 v0 F0 H0 ⟨lo, hd0, hi2⟩ s0 e0 rd0 => ?_
  refine hi2 W tk σ F0 H0 s0 hx _ fun d z v F1 H1 ⟨n, Pv, hd, hn, p0, pt, pe⟩ s1 e1 rd => ?_
  subst hd hd0
  rw [rd_int rd, rd_int rd0]
  refine ⟨lo, n, rfl, ⟨by omega, by omega, by omega, by omega⟩, fun D hD => ?_⟩
  have st2 : St X.K g F1 (upd H1 D (.lst [])) (wipe σ (own.map (·.2))) (wipeE env (own.map (·.2))) := (s1.alloc hD).wiped _
  refine lc_range (lo := lo) (n := (n - lo).toNat) (LJ X.K g F1 (wipe σ (own.map (·.2))) (wipeE env (own.map (·.2))) Pv D) ⟨F1, [], [], st2, Ex.refl F1, upd_same, .nil, s1.ex.none hD, fun z => s1.there (own_wipe z) hD, s1.h0 hD, p0, Nat.le_refl 0⟩ (fun i H2 hi2 hJ => ?_) (fun H2 ⟨F2, acc, avs, s3, e3, hD3, hd3, fD, oD, gD, hp, _⟩ => ?_)
  · obtain ⟨l, hA, hl, hb⟩ := pt i (by omega)
    exact lc_turn htd hA (lt_idx hl) (by omega) (.int _) hJ hb
  · exact hQ acc (.ref D) F2 H2 (pe acc hp) (s1.unwiped hwo s3 e3) ((e0.trans e1).trans e3) ⟨D, avs, rfl, hD3, hd3, fD, fun z => s1.there z hD, gD⟩
theorem wn_lcR2 {p1 p2 : Pos} (hm : X.mg "range" = none) (hc : X.calm = true) (hN : X.N.Nodup) (ok : BlkOk X.N X.env.scope scope own) (hpg : ∀ s H C cl fp, PG (BX X scope s H C cl fp) tg t) (htd : TGd X.K t A) (h1 : ifs.length ≤ 1) (hwo : wipeOk env (own.map (·.2)) = true)
    (hi : WE X g a env (fun d z => ∃ lo, d = .int lo ∧ WE X g b env (fun d z => ∃ (n : Int) (Pv : Nat → List PyData → Prop), d = .int n ∧ (-1000000 ≤ lo ∧ lo ≤ 1000000 ∧ -1000000 ≤ n ∧ n ≤ 1000000) ∧ Pv 0 [] ∧ (∀ i : Nat, lo + (i : Int) < n → LT X env scope ifs elt (own.map (·.2)) A Pv i (.int (lo + i))) ∧ ∀ acc, Pv (n - lo).toNat acc → Φ acc) Ψ) Ψ)
    (hs : ∀ x, foldedSetIterable (.Call (.Name "range" p1) [a, b] [] p2) X.env x = pure x := by intro _; rfl) (hg : Gl X "range" := by rfl) (he : starEach [a, b] X.env = [(false, eval a X.env), (false, eval b X.env)] := by rfl) (he2 : starEach [b] X.env = [(false, eval b X.env)] := by rfl) :
    WN X g (.ListComp elt [⟨tg, .Call (.Name "range" p1) [a, b] [] p2, ifs, 0⟩] scope pos) env Φ Ψ := fun W tk σ F H st hx Q hQ =>
  semE_of (pe_lc hc hN (pi_range2 hg hm (pa_cons (peS a) (pa_cons (peS b) pa_nil (by rw [he2]; rfl)) (by rw [he, he2])) he he2) ok hpg (ptsB h1) peB hs) (nt_lcR2 htd hwo hi W tk σ F H st hx Q hQ)
end
end
end TL

namespace TL
open PySem PySem.Spec PyProof.Rows L2

/-- a new dict, no slot's; its keys tuples, atoms -/
def NewT (K : Frag) (g : G) (F H : Hp) (env : List Sl) (v : V) (kvs : List (List Key × PyData)) : Prop :=
  ∃ p xs, v = .ref p ∧ H p = some (.dT xs) ∧ KVp K F xs kvs ∧ F p = none ∧ ¬ Own env p ∧ g.H0 p = none
def NewK (K : Frag) (g : G) (F H : Hp) (env : List Sl) (v : V) (kvs : List (Key × PyData)) : Prop :=
  ∃ p xs, v = .ref p ∧ H p = some (.dK xs) ∧ KVp K F xs kvs ∧ F p = none ∧ ¬ Own env p ∧ g.H0 p = none
/-- what is wanted behind a statement -/
structure Po where
  nx : List Sl → Prop
  rt : PR → List Sl → Prop
  bk : List Sl → Prop := fun _ => False
  ct : List Sl → Prop := fun _ => False
  ex : Exc → List Sl → Prop
/-- the same, another end -/
abbrev Po.thn (P : Po) (q : List Sl → Prop) : Po := ⟨q, P.rt, P.bk, P.ct, P.ex⟩
abbrev Po.turn (P : Po) (q : List Sl → Prop) : Po := ⟨q, P.rt, P.nx, q, P.ex⟩
abbrev Po.exn (P : Po) (q : Exc → List Sl → Prop) : Po := ⟨P.nx, P.rt, P.bk, P.ct, q⟩
def RtOk (K : Frag) (g : G) (v : V) (σ' : SS) (F' H' : Hp) (env' : List Sl) : PR → Prop
  | .rd d => Dq K F' v d
  | .nl ds => NewL K g F' H' env' v ds
  | .ar i => σ'[i]? = some (some v) ∧ ∃ s, env'[i]? = some s ∧ s.fp ≠ []
  | .nt kvs => NewT K g F' H' env' v kvs
  | .nk kvs => NewK K g F' H' env' v kvs
  | .sl C => ∃ s, C s ∧ SlOk K F' H' (some v) s ∧ ∀ p ∈ s.fp, F' p = none ∧ ¬ Own env' p ∧ g.H0 p = none
structure DOk (X : Cx) (g : G) (F : Hp) (P : Po) (D : Ends) : Prop where
  nx : ∀ env' σ' F' H', P.nx env' → St X.K g F' H' σ' env' → Ex F F' → D.nx σ' H'
  rt : ∀ r v env' σ' F' H', P.rt r env' → St X.K g F' H' σ' env' → RtOk X.K g v σ' F' H' env' r → D.rt v H'
  bk : ∀ env' σ' F' H', P.bk env' → St X.K g F' H' σ' env' → Ex F F' → D.bk σ' H'
  ct : ∀ env' σ' F' H', P.ct env' → St X.K g F' H' σ' env' → Ex F F' → D.ct σ' H'
def XOk (X : Cx) (g : G) (P : Po) (W : WX) : Prop := ∀ c env' σ' F' H', P.ex c env' → St X.K g F' H' σ' env' → ExcW X.K W σ' H' c
structure SemP (X : Cx) (st : Stmt) (D : Ends) (σ : SS) (H : Hp) : Prop where
  run : ∀ (pins : List (Addr × Obj)) (s : Shared), Inv X pins σ H s → wpAny (model X.prog X.w) X.A (exec st X.env) (SP X pins D) X.xe s
def semP (X : Cx) (st : Stmt) : TS := fun D σ H => SemP X st D σ H
def WS (X : Cx) (g : G) (sts : List Stmt) (env : List Sl) (P : Po) : Prop :=
  ∀ (W : WX), Takes X W → XOk X g P W → ∀ (σ : SS) (F H : Hp), St X.K g F H σ env → ∀ D : Ends, DOk X g F P D → semS X sts D σ H
def W1 (X : Cx) (g : G) (st : Stmt) (env : List Sl) (P : Po) : Prop :=
  ∀ (W : WX), Takes X W → XOk X g P W → ∀ (σ : SS) (F H : Hp), St X.K g F H σ env → ∀ D : Ends, DOk X g F P D → semP X st D σ H

section
variable {X : Cx} {g : G} {env env' : List Sl} {P : Po} {pos p : Pos} {a b c e : Expr} {es : List Expr} {st : Stmt} {rest body orelse : List Stmt} {K : Frag} {F F' H H' : Hp} {σ σ' : SS} {D : Ends} {W : WX}
theorem psP (st : Stmt) : PS X st (semP X st) := ⟨fun pins s _ _ _ I h => h.run pins s I⟩
theorem semP_of {t : TS} (h : PS X st t) (q : t D σ H) : semP X st D σ H := ⟨fun pins s I => h.run pins s σ H D I q⟩
theorem DOk.mono (h : DOk X g F P D) (e : Ex F F') : DOk X g F' P D :=
  ⟨fun a b c d h1 h2 h3 => h.nx a b c d h1 h2 (e.trans h3), h.rt, fun a b c d h1 h2 h3 => h.bk a b c d h1 h2 (e.trans h3), fun a b c d h1 h2 h3 => h.ct a b c d h1 h2 (e.trans h3)⟩
theorem XOk.hx (h : XOk X g P W) (env : List Sl) (σ : SS) : HX X g env (fun c => P.ex c env) W σ := fun c F' H' hc s => h c env σ F' H' hc s
theorem ws_nil (h : P.nx env) : WS X g [] env P := fun W tk hx σ F H st D hD => semS_of pss_nil (hD.nx env σ F H h st (Ex.refl F))
theorem ws_cons (h : W1 X g st env (P.thn fun env' => WS X g rest env' P)) : WS X g (st :: rest) env P := fun W tk hx σ F H s0 D hD => by
  refine semS_of (pss_cons (psP st) (pssS rest)) ?_
  refine h W tk hx σ F H s0 _ ⟨fun env' σ' F' H' hw s' e' => ?_, hD.rt, hD.bk, hD.ct⟩
  exact hw W tk hx σ' F' H' s' D (hD.mono e')
theorem WS.mono {P' : Po} (h : WS X g rest env P) (h1 : ∀ e, P.nx e → P'.nx e) (h2 : ∀ r e, P.rt r e → P'.rt r e) (h3 : ∀ e, P.bk e → P'.bk e) (h4 : ∀ e, P.ct e → P'.ct e) (h5 : ∀ c e, P.ex c e → P'.ex c e) : WS X g rest env P' :=
  fun W tk hx σ F H st D hD => h W tk (fun c e σ' F' H' hc => hx c e σ' F' H' (h5 c e hc)) σ F H st D
    ⟨fun e σ' F' H' q => hD.nx e σ' F' H' (h1 e q), fun r v e σ' F' H' q => hD.rt r v e σ' F' H' (h2 r e q), fun e σ' F' H' q => hD.bk e σ' F' H' (h3 e q), fun e σ' F' H' q => hD.ct e σ' F' H' (h4 e q)⟩

/-! ### simple statements -/
theorem ltB {n m : Nat} (h : Nat.blt n m = true) : n < m := Nat.le_of_ble_eq_true h
/-- x = e -/
theorem w1_set (i : Nat) {x : Str} {pos' : Pos} (hN : X.N.Nodup) (h : WE X g e env (fun d z => z = true ∧ P.nx (env.set i (.d d))) (fun c => P.ex c env)) (hi : X.N[i]? = some x := by rfl) (hx : Loc X.env.scope x := by first | exact Or.inl rfl | exact Or.inr rfl) (hl : Nat.blt i env.length = true := by rfl)
    (hs : swapsWith e (some (.Name x pos')) pos.line X.env = pure false := by rfl) (hf : X.fn x = true ∨ X.env.scope.names.lookup x = some .local := by first | exact .inl rfl | exact .inr rfl) : W1 X g (.Assign [.Name x pos'] e pos) env P := fun W tk hx2 σ F H s0 D hD => by
  refine semP_of (ps_set hN hi hx (peS e) hs hf) ?_
  refine h W tk σ F H s0 (hx2.hx env σ) _ fun d z v F' H' ⟨hz, hp⟩ s' e' r' => ?_
  subst hz
  exact hD.nx _ _ F' H' hp (s'.setD (ltB hl) r') e'
/-- x = e, a new list that x alone holds -/
theorem w1_setN (i : Nat) {x : Str} {pos' : Pos} (hN : X.N.Nodup) (h : WN X g e env (fun ds => ∀ a, a ∉ g.M → P.nx (env.set i (.ol a ds))) (fun c => P.ex c env)) (hi : X.N[i]? = some x := by rfl) (hx : Loc X.env.scope x := by first | exact Or.inl rfl | exact Or.inr rfl) (hl : Nat.blt i env.length = true := by rfl)
    (hs : swapsWith e (some (.Name x pos')) pos.line X.env = pure false := by rfl) (hf : X.fn x = true ∨ X.env.scope.names.lookup x = some .local := by first | exact .inl rfl | exact .inr rfl) : W1 X g (.Assign [.Name x pos'] e pos) env P := fun W tk hx2 σ F H s0 D hD => by
  refine semP_of (ps_set hN hi hx (peS e) hs hf) ?_
  refine h W tk σ F H s0 (hx2.hx env σ) _ fun ds v F' H' hp s' e' ⟨q, vs, hv, h1, h2, h3, h4, h5⟩ => ?_
  subst hv
  exact hD.nx _ _ F' H' (hp q fun m => s'.g6 q m h5) (s'.setL (ltB hl) h1 h2 h3 h4 h5) e'
/-- x = [..] on one line -/
theorem w1_setLc (i : Nat) {y : Str} {py : Pos} {elt tg iter : Expr} {ifs : List Expr} {scope : Scope} {own : List (Str × Nat)} {wi : TI} {t : TG} (hc : X.calm = true) (hN : X.N.Nodup) (hi : PI X tg iter wi) (ok : BlkOk X.N X.env.scope scope own) (hpg : ∀ s H C cl fp, PG (BX X scope s H C cl fp) tg t) (h1 : ifs.length ≤ 1)
    (h : WNt X g (tLc wi t (semTB X scope ifs) (semEB X scope elt) (own.map (·.2))) env (fun ds => P.nx (env.set i (.d (.list ds)))) (fun c => P.ex c env))
    (hy : X.N[i]? = some y := by rfl) (hyl : X.env.scope.names.lookup y = some .local := by rfl) (hl : Nat.blt i env.length = true := by rfl)
    (hsw : swapsWith (.ListComp elt [⟨tg, iter, ifs, 0⟩] scope pos) (some (.Name y py)) p.line X.env = pure true := by exact sw_true rfl rfl rfl (by decide +kernel)) (hs : ∀ x, foldedSetIterable iter X.env x = pure x := by intro _; rfl) :
    W1 X g (.Assign [.Name y py] (.ListComp elt [⟨tg, iter, ifs, 0⟩] scope pos) p) env P := fun W tk hx2 σ F H s0 D hD => by
  refine semP_of (ps_setLc hc hN hy hyl hsw hi ok hpg (ptsB h1) peB hs) ?_
  refine h W tk σ F H s0 (hx2.hx env σ) _ fun ds v F' H' hp s' e' ⟨q, vs, hv, h1, h2, h3, h4, h5⟩ => ?_
  subst hv
  have e2 := Ex.new (o := .lst vs) h3
  exact hD.nx _ _ _ H' hp ((s'.freeze h1 h3 h4 h5).setD (ltB hl) (.lst (SqL.of upd_same) (dpa_mono e2 _ _ h2))) (e'.trans e2)
theorem w1_setLcN (i : Nat) {y : Str} {py : Pos} {elt tg iter : Expr} {ifs : List Expr} {scope : Scope} {own : List (Str × Nat)} {wi : TI} {t : TG} (hc : X.calm = true) (hN : X.N.Nodup) (hi : PI X tg iter wi) (ok : BlkOk X.N X.env.scope scope own) (hpg : ∀ s H C cl fp, PG (BX X scope s H C cl fp) tg t) (h1 : ifs.length ≤ 1)
    (h : WNt X g (tLc wi t (semTB X scope ifs) (semEB X scope elt) (own.map (·.2))) env (fun ds => ∀ a, a ∉ g.M → P.nx (env.set i (.ol a ds))) (fun c => P.ex c env))
    (hy : X.N[i]? = some y := by rfl) (hyl : X.env.scope.names.lookup y = some .local := by rfl) (hl : Nat.blt i env.length = true := by rfl)
    (hsw : swapsWith (.ListComp elt [⟨tg, iter, ifs, 0⟩] scope pos) (some (.Name y py)) p.line X.env = pure true := by exact sw_true rfl rfl rfl (by decide +kernel)) (hs : ∀ x, foldedSetIterable iter X.env x = pure x := by intro _; rfl) :
    W1 X g (.Assign [.Name y py] (.ListComp elt [⟨tg, iter, ifs, 0⟩] scope pos) p) env P := fun W tk hx2 σ F H s0 D hD => by
  refine semP_of (ps_setLc hc hN hy hyl hsw hi ok hpg (ptsB h1) peB hs) ?_
  refine h W tk σ F H s0 (hx2.hx env σ) _ fun ds v F' H' hp s' e' ⟨q, vs, hv, h1, h2, h3, h4, h5⟩ => ?_
  subst hv
  exact hD.nx _ _ F' H' (hp q fun m => s'.g6 q m h5) (s'.setL (ltB hl) h1 h2 h3 h4 h5) e'
/-- a, b, .. = e -/
theorem w1_unpack {tg : Expr} {t : TG} {A : PyData → Option (List (Nat × PyData))} (hpg : PG X tg t) (htd : TGd X.K t A)
    (h : WE X g e env (fun d z => z = true ∧ ∃ l, A d = some l ∧ (l.all fun q => Nat.blt q.1 env.length) = true ∧ P.nx (putsE env l)) (fun c => P.ex c env))
    (hs : swapsWithSole [tg] e pos.line X.env = pure false := by rfl) (hw : swappedStores [tg] e X.env = pure none := by rfl) (h1 : (assignEach [tg] X.env).map (·.2) = [assign tg X.env] := by rfl) : W1 X g (.Assign [tg] e pos) env P := fun W tk hx2 σ F H s0 D hD => by
  refine semP_of (ps_asg (peS e) hpg hs hw h1) ?_
  refine h W tk σ F H s0 (hx2.hx env σ) _ fun d z v F' H' ⟨hz, l, hA, hl, hp⟩ s' e' r' => ?_
  subst hz
  refine htd d l σ F' H' v _ hA s'.ex r' fun r sr => ?_
  exact hD.nx _ _ F' H' hp (s'.sets sr fun q hq => ltB (List.all_eq_true.mp hl q hq)) e'
/-- e -/
theorem w1_expr (h : WE X g e env (fun _ _ => P.nx env) (fun c => P.ex c env)) (hs : swapsWith e none pos.line X.env = pure false := by rfl) : W1 X g (.Expr e pos) env P := fun W tk hx2 σ F H s0 D hD =>
  semP_of (ps_expr (peS e) hs) (h W tk σ F H s0 (hx2.hx env σ) _ fun d z v F' H' hp s' e' r' => hD.nx _ _ F' H' hp s' e')
/-- return e -/
theorem w1_ret (h : WE X g e env (fun d z => z = true ∧ P.rt (.rd d) env) (fun c => P.ex c env)) : W1 X g (.Return (some e) pos) env P := fun W tk hx2 σ F H s0 D hD =>
  semP_of (ps_ret (peS e)) (h W tk σ F H s0 (hx2.hx env σ) _ fun d z v F' H' ⟨hz, hp⟩ s' e' r' => by
    subst hz
    exact hD.rt _ v env σ F' H' hp s' r')
theorem w1_retN (h : WN X g e env (fun ds => P.rt (.nl ds) env) (fun c => P.ex c env)) : W1 X g (.Return (some e) pos) env P := fun W tk hx2 σ F H s0 D hD =>
  semP_of (ps_ret (peS e)) (h W tk σ F H s0 (hx2.hx env σ) _ fun ds v F' H' hp s' e' r' => hD.rt _ v env σ F' H' hp s' r')
theorem w1_ret0 (h : P.rt (.rd .none) env) : W1 X g (.Return none pos) env P := fun W tk hx2 σ F H s0 D hD =>
  semP_of ps_retN (hD.rt _ .non env σ F H h s0 (.non))
/-- return x, x a list made here -/
theorem w1_retO (i : Nat) {x : Str} {q : Pos} {al : Addr} {ds : List PyData} (he : env[i]? = some (.ol al ds)) (ha : al ∉ g.M) (h : P.rt (.nl ds) (env.set i .un)) (hN : X.N[i]? = some x := by rfl)
    (hv : Vis X.env.scope x := by first | exact Or.inl rfl | exact Or.inr (Or.inl rfl) | exact Or.inr (Or.inr rfl)) (hd : (x == ("__debug__" : Str)) = false := by decide)
    (hcd : (x == ("__classdict__" : Str)) = false := by decide) : W1 X g (.Return (some (.Name x q)) pos) env P := fun W tk hx2 σ F H s0 D hD => by
  refine semP_of (ps_ret (pe_var hN hv hd hcd)) ?_
  obtain ⟨h1, vs, h2, h3⟩ := s0.sl i _ he
  have own : Own env al := ⟨i, _, he, by simp [Sl.fp]⟩
  refine ⟨_, getD_some h1, hD.rt _ _ _ σ F H h (s0.weak he (fun _ h => by cases h) fun _ => trivial) ⟨al, vs, rfl, h2, h3, s0.fr al own, fun z => ?_, ?_⟩⟩
  · obtain ⟨j, t, ej, ht⟩ := z
    rcases set_get ej with ⟨_, rfl⟩ | ⟨ne, ej⟩
    · cases ht
    · exact ne (s0.nd i j _ t al he ej (by simp [Sl.fp]) ht)
  · rcases s0.g2 al own with z | z
    · exact z
    · exact absurd z ha
/-- return x, x an object that was handed in -/
theorem w1_retA (i : Nat) {x : Str} {q : Pos} {s : Sl} (he : env[i]? = some s) (hne : s.fp ≠ []) (h : P.rt (.ar i) env) (hN : X.N[i]? = some x := by rfl)
    (hv : Vis X.env.scope x := by first | exact Or.inl rfl | exact Or.inr (Or.inl rfl) | exact Or.inr (Or.inr rfl)) (hd : (x == ("__debug__" : Str)) = false := by decide)
    (hcd : (x == ("__classdict__" : Str)) = false := by decide) : W1 X g (.Return (some (.Name x q)) pos) env P := fun W tk hx2 σ F H s0 D hD => by
  refine semP_of (ps_ret (pe_var hN hv hd hcd)) ?_
  have h0 := s0.sl i s he
  obtain ⟨v, hv⟩ : ∃ v, σ[i]?.getD none = some v := by
    cases s with
    | un => exact absurd rfl hne
    | d x => exact absurd rfl hne
    | v x => exact ⟨_, h0⟩
    | ol a ds => exact ⟨_, h0.1⟩
    | bg a => exact ⟨_, h0.1⟩
    | dt a ds => exact ⟨_, h0.1⟩
    | dk a ds => exact ⟨_, h0.1⟩
    | fv l => exact absurd rfl hne
    | fl l => exact absurd rfl hne
    | oo a ds => exact ⟨_, h0.1⟩
    | ow t => exact ⟨h0.choose, h0.choose_spec.1⟩
  exact ⟨v, getD_some hv, hD.rt _ v env σ F H h s0 ⟨getD_some hv, s, he, hne⟩⟩
theorem w1_pass (h : P.nx env) : W1 X g (.Pass pos) env P := fun W tk hx2 σ F H s0 D hD => semP_of ps_pass (hD.nx env σ F H h s0 (Ex.refl F))
theorem w1_doc {x : Str} {j : Nat} {q : Pos} (h : P.nx env) : W1 X g (.Expr (.Constant (.str x) j q) pos) env P := fun W tk hx2 σ F H s0 D hD => semP_of ps_doc (hD.nx env σ F H h s0 (Ex.refl F))
theorem w1_break (h : P.bk env) : W1 X g (.Break pos) env P := fun W tk hx2 σ F H s0 D hD => semP_of ps_break (hD.bk env σ F H h s0 (Ex.refl F))
theorem w1_cont (h : P.ct env) : W1 X g (.Continue pos) env P := fun W tk hx2 σ F H s0 D hD => semP_of ps_continue (hD.ct env σ F H h s0 (Ex.refl F))
theorem w1_if (h : WT X g c env (fun k => (k = true → WS X g body env P) ∧ (k = false → WS X g orelse env P)) (fun c => P.ex c env)) : W1 X g (.If c body orelse pos) env P := fun W tk hx2 σ F H s0 D hD => by
  refine semP_of (ps_if (ptS c) (pssS body) (pssS orelse)) ?_
  refine h W tk σ F H s0 (hx2.hx env σ) _ fun k F' H' ⟨h1, h2⟩ s' e' => ?_
  cases k with
  | true => rw [if_pos rfl]; exact h1 rfl W tk hx2 σ F' H' s' D (hD.mono e')
  | false => rw [if_neg Bool.false_ne_true]; exact h2 rfl W tk hx2 σ F' H' s' D (hD.mono e')
/-- what a raise of an own class leans on -/
structure ExK (K : Frag) (mg : Str → Option Value) (x : Str) : Prop where
  gC : mg x = some (.ref (He.ga K x))
  ex : PySem.W.excIn K (He.ga K x) He.veBase "ValueError.__new__" = true
  kp : PySem.W.keepIn K (.ref (He.ga K x)) = true
  sb : PySem.W.subIn K (.ref (He.ga K x)) (.type "BaseException") = some true
  ty : PySem.W.typeIn K (.ref (He.ga K x)) = some (.type "type")
/-- raise X('..') -/
theorem w1_raise {x m : Str} {j : Nat} {p p2 q : Pos} (hc : X.calm = true) (k : ExK X.K X.mg x) (h : P.ex (.own x) env) (hg : Gl X x := by rfl) (hdb : (x == ("__debug__" : Str)) = false := by decide) : W1 X g (.Raise (some (.Call (.Name x p) [.Constant (.str m) j p2] [] q)) none pos) env P := fun W tk hx2 σ F H s0 D hD =>
  semP_of (ps_raise hc tk (pmk_own PySem.F.excBase_ValueError k.ex k.gC k.kp (raises_own k.sb k.ty) hg hdb)) (hx2 (.own x) env σ F H h s0)

/-! ### an object in a slot is changed -/
/-- x.append(e) -/
theorem w1_append (i : Nat) {x : Str} {q apos cpos : Pos} {al : Addr} {ds : List PyData} (he : env[i]? = some (.ol al ds)) (h : WE X g e env (fun d z => z = true ∧ ds.length < sizeLine ∧ P.nx (env.set i (.ol al (ds ++ [d])))) (fun c => P.ex c env)) (hN : X.N[i]? = some x := by rfl)
    (hv : Vis X.env.scope x := by first | exact Or.inl rfl | exact Or.inr (Or.inl rfl) | exact Or.inr (Or.inr rfl)) (hd : (x == ("__debug__" : Str)) = false := by decide)
    (hcd : (x == ("__classdict__" : Str)) = false := by decide)
    (hbase : attributeBase (.Name x q) "append" X.env (eval (.Name x q) X.env) = eval (.Name x q) X.env := by rfl)
    (hfew : ((backTo cpos (starEach [e] X.env)).all (fun x => !x.1) && (backToKw cpos (keywordEach [] X.env)).all (fun x => x.1.isSome)
      && decide ([e].length + ([] : List Keyword).length + (if ([] : List Keyword).isEmpty then 0 else 1) < 30)) = true := by rfl)
    (hline : (apos.endLine == cpos.line) = true := by rfl) (hs1 : starEach [e] X.env = (false, eval e X.env) :: starEach [] X.env := by rfl) (hplain : (backTo cpos (starEach ([] : List Expr) X.env)).any (·.1) = false := by rfl)
    (hs : swapsWith (.Call (.Attribute (.Name x q) "append" apos) [e] [] cpos) none pos.line X.env = pure false := by rfl) :
    W1 X g (.Expr (.Call (.Attribute (.Name x q) "append" apos) [e] [] cpos) pos) env P := fun W tk hx2 σ F H s0 D hD => by
  refine semP_of (ps_expr (pe_bm PySem.F.plainAttrs_list PySem.F.slot_list_append PySem.F.type_list_append mt_append (pe_var hN hv hd hcd) (pa_cons (peS e) pa_nil hs1) hbase hfew hline hs1 hplain) hs) ?_
  obtain ⟨h1, vs, h2, h3⟩ := s0.sl i _ he
  refine ⟨_, getD_some h1, .inl ⟨rfl, vs, SqL.of h2⟩, ?_⟩
  refine h W tk σ F H s0 (hx2.hx env σ) _ fun d z v F' H' ⟨hz, hl, hp⟩ s' e' r' => ?_
  subst hz
  obtain ⟨h1', vs', h2', h3'⟩ := s'.sl i _ he
  refine ⟨al, vs', v, rfl, rfl, h2', by rw [dpa_len h3']; exact hl, ?_⟩
  exact hD.nx _ _ F' _ hp (s'.write he rfl rfl ⟨h1', vs' ++ [v], upd_same, dpa_app h3' (dpa_one r')⟩) e'
/-- x[k] = e -/
theorem w1_setix (i : Nat) {x : Str} {ix : Expr} {q tpos : Pos} {al : Addr} {ds : List PyData} (he : env[i]? = some (.ol al ds)) (h : WE X g e env (fun d z => z = true ∧ WE X g ix env (fun k _ => ∃ n j, k = .int n ∧ ixN ds.length n = some j ∧ P.nx (env.set i (.ol al (ds.set j d)))) (fun c => P.ex c env)) (fun c => P.ex c env)) (hN : X.N[i]? = some x := by rfl)
    (hv : Vis X.env.scope x := by first | exact Or.inl rfl | exact Or.inr (Or.inl rfl) | exact Or.inr (Or.inr rfl)) (hd : (x == ("__debug__" : Str)) = false := by decide)
    (hcd : (x == ("__classdict__" : Str)) = false := by decide)
    (ha : ∀ v, assign (.Subscript (.Name x q) ix tpos) X.env v = (do
      let ov ← holding [v] (eval (.Name x q) X.env)
      let iv ← holding [v, ov] (eval ix X.env)
      standAt tpos
      holding [v, ov, iv] (setItem ov iv v)
      release [v, ov, iv] []) := by intro _; rfl)
    (hs : swapsWithSole [.Subscript (.Name x q) ix tpos] e pos.line X.env = pure false := by rfl) (hw : swappedStores [.Subscript (.Name x q) ix tpos] e X.env = pure none := by rfl)
    (h1 : (assignEach [.Subscript (.Name x q) ix tpos] X.env).map (·.2) = [assign (.Subscript (.Name x q) ix tpos) X.env] := by rfl) : W1 X g (.Assign [.Subscript (.Name x q) ix tpos] e pos) env P := fun W tk hx2 σ F H s0 D hD => by
  refine semP_of (ps_asg (peS e) (pg_sub (pe_var hN hv hd hcd) (peS ix) set_list ha) hs hw h1) ?_
  refine h W tk σ F H s0 (hx2.hx env σ) _ fun d z v F1 H1 ⟨hz, hp⟩ s1 e1 r1 => ?_
  subst hz
  obtain ⟨h1, vs, h2, h3⟩ := s1.sl i _ he
  refine ⟨_, getD_some h1, ?_⟩
  refine hp W tk σ F1 H1 s1 (hx2.hx env σ) _ fun k z2 w F2 H2 ⟨n, j, hk, hj, hp2⟩ s2 e2 r2 => ?_
  subst hk
  obtain ⟨h1', vs', h2', h3'⟩ := s2.sl i _ he
  refine ⟨al, vs', n, j, rfl, rd_int r2, h2', by rw [dpa_len h3']; exact hj, ?_⟩
  exact hD.nx _ _ F2 _ hp2 (s2.write he rfl rfl ⟨h1', vs'.set j v, upd_same, dpa_set j h3' (dp_mono e2 _ _ r1)⟩) (e1.trans e2)
/-- x[k] read, for an augmented store -/
def rGetL : V → V → Hp → VK → Prop := fun o i H Q => ∃ p xs k v, o = .ref p ∧ i = .int k ∧ H p = some (.lst xs) ∧ atI xs k = some v ∧ Q v H
theorem get_list : PGet X rGetL := fun pins s σ H o i ov iv Q I ro ri ⟨p, xs, k, v, ho, hi, hH, ha, q⟩ => by
  subst ho hi
  cases ro
  obtain ⟨t, rfl⟩ := ri
  obtain ⟨its, r, pl, hz⟩ := I.list (SqL.of hH)
  obtain ⟨j, h1, h2, h3, h4, h5⟩ := atI_get ha
  obtain ⟨w, ew, rw'⟩ := r.get h2
  have hl := r.length
  have hn := line63
  have fin : EP X pins σ Q w s := ⟨v, H, I, rw', q⟩
  by_cases h0 : 0 ≤ k
  · have hj : k.toNat = j := by
      rw [seqIndex_of h0 h5] at h1
      exact Option.some.inj h1
    exact wpAny_getItem_list pl.isList h0 (by omega) (by rw [hj]; simpa using ew) fin
  · have hj : (k + (its.toArray.size : Int)).toNat = j := by
      rw [seqIndex_neg (by omega) h4] at h1
      rw [List.size_toArray, ← hl]
      exact Option.some.inj h1
    exact wpAny_getItem_list_neg pl.isList (by omega) (by rw [List.size_toArray]; omega) (by omega) (by rw [hj]; simpa using ew) fin
/-- x[k] += e, ints -/
theorem w1_augix (i : Nat) {x : Str} {ix : Expr} {q tpos : Pos} {al : Addr} {ds : List PyData} (he : env[i]? = some (.ol al ds))
    (h : WE X g ix env (fun k _ => ∃ n j u, k = .int n ∧ ixN ds.length n = some j ∧ ds[j]? = some (.int u) ∧ WE X g e env (fun d _ => ∃ m, d = .int m ∧ P.nx (env.set i (.ol al (ds.set j (.int (u + m)))))) (fun c => P.ex c env)) (fun c => P.ex c env)) (hN : X.N[i]? = some x := by rfl)
    (hv : Vis X.env.scope x := by first | exact Or.inl rfl | exact Or.inr (Or.inl rfl) | exact Or.inr (Or.inr rfl)) (hd : (x == ("__debug__" : Str)) = false := by decide)
    (hcd : (x == ("__classdict__" : Str)) = false := by decide)
    (ha : ∀ ov iv new, augStore ix ov iv new = (do holding [new, ov, iv] (setItem ov iv new); release [new, ov, iv] []; pure .next) := by intros; rfl) : W1 X g (.AugAssign (.Subscript (.Name x q) ix tpos) .Add e pos) env P := fun W tk hx2 σ F H s0 D hD => by
  refine semP_of (ps_augS (pe_var hN hv hd hcd) (peS ix) get_list (peS e) ip_add set_list ha) ?_
  obtain ⟨h1, vs, h2, h3⟩ := s0.sl i _ he
  refine ⟨_, getD_some h1, ?_⟩
  refine h W tk σ F H s0 (hx2.hx env σ) _ fun k z1 w F1 H1 ⟨n, j, u, hk, hj, hu, hp⟩ s1 e1 r1 => ?_
  subst hk
  obtain ⟨h1', vs', h2', h3'⟩ := s1.sl i _ he
  obtain ⟨v0, hv0, hdv⟩ := dpa_get h3' hu
  have hat : atI vs' n = some v0 := by
    unfold atI
    rw [dpa_len h3', hj]
    exact hv0
  refine ⟨al, vs', n, v0, rfl, rd_int r1, h2', hat, ?_⟩
  refine hp W tk σ F1 H1 s1 (hx2.hx env σ) _ fun d z2 w2 F2 H2 ⟨m, hm, hp2⟩ s2 e2 r2 => ?_
  subst hm
  obtain ⟨h1'', vs'', h2'', h3''⟩ := s2.sl i _ he
  refine ⟨u, m, dp_int hdv, rd_int r2, al, vs'', n, j, rfl, rd_int r1, h2'', by rw [dpa_len h3'']; exact hj, ?_⟩
  exact hD.nx _ _ F2 _ hp2 (s2.write he rfl rfl ⟨h1'', vs''.set j (.int (u + m)), upd_same, dpa_set j h3'' (.int _)⟩) (e1.trans e2)
/-- x += e, x -= e, ints -/
theorem w1_add (i : Nat) {x : Str} {pos' : Pos} {u : Int} (hN : X.N.Nodup) (he : env[i]? = some (.d (.int u))) (h : WE X g e env (fun d _ => ∃ m, d = .int m ∧ P.nx (env.set i (.d (.int (u + m))))) (fun c => P.ex c env)) (hi : X.N[i]? = some x := by rfl) (hx : Loc X.env.scope x := by first | exact Or.inl rfl | exact Or.inr rfl)
    (hf : X.fn x = true ∨ X.env.scope.names.lookup x = some .local := by first | exact .inl rfl | exact .inr rfl) : W1 X g (.AugAssign (.Name x pos') .Add e pos) env P := fun W tk hx2 σ F H s0 D hD => by
  refine semP_of (ps_aug hN hi hx (peS e) ip_add hf) ?_
  obtain ⟨v, h1, h2⟩ := s0.sl i _ he
  refine ⟨v, getD_some h1, ?_⟩
  refine h W tk σ F H s0 (hx2.hx env σ) _ fun d z w F1 H1 ⟨m, hm, hp⟩ s1 e1 r1 => ?_
  subst hm
  exact ⟨u, m, dp_int h2, rd_int r1, hD.nx _ _ F1 H1 hp (s1.setD (List.getElem?_eq_some_iff.mp he).1 (.int _)) e1⟩
theorem w1_sub (i : Nat) {x : Str} {pos' : Pos} {u : Int} (hN : X.N.Nodup) (he : env[i]? = some (.d (.int u))) (h : WE X g e env (fun d _ => ∃ m, d = .int m ∧ P.nx (env.set i (.d (.int (u - m))))) (fun c => P.ex c env)) (hi : X.N[i]? = some x := by rfl) (hx : Loc X.env.scope x := by first | exact Or.inl rfl | exact Or.inr rfl)
    (hf : X.fn x = true ∨ X.env.scope.names.lookup x = some .local := by first | exact .inl rfl | exact .inr rfl) : W1 X g (.AugAssign (.Name x pos') .Sub e pos) env P := fun W tk hx2 σ F H s0 D hD => by
  refine semP_of (ps_aug hN hi hx (peS e) ip_sub hf) ?_
  obtain ⟨v, h1, h2⟩ := s0.sl i _ he
  refine ⟨v, getD_some h1, ?_⟩
  refine h W tk σ F H s0 (hx2.hx env σ) _ fun d z w F1 H1 ⟨m, hm, hp⟩ s1 e1 r1 => ?_
  subst hm
  exact ⟨u, m, dp_int h2, rd_int r1, hD.nx _ _ F1 H1 hp (s1.setD (List.getElem?_eq_some_iff.mp he).1 (.int _)) e1⟩

/-! ### loops -/
/-- the state between turns -/
def FJ (K : Frag) (g : G) (F1 : Hp) (Pv : Nat → List Sl → Prop) (i : Nat) (σ : SS) (H : Hp) : Prop := ∃ F env', St K g F H σ env' ∧ Ex F1 F ∧ Pv i env'
section
variable {tg iter : Expr} {t : TG} {A : PyData → Option (List (Nat × PyData))}
/-- one turn -/
def FT (X : Cx) (g : G) (body : List Stmt) (A : PyData → Option (List (Nat × PyData))) (P : Po) (Pv : Nat → List Sl → Prop) (i : Nat) (x : PyData) : Prop :=
  ∀ env', Pv i env' → ∃ l, A x = some l ∧ (l.all fun q => Nat.blt q.1 env'.length) = true ∧ WS X g body (putsE env' l) (P.turn (Pv (i + 1)))
theorem for_turn {F1 : Hp} {Pv : Nat → List Sl → Prop} {i : Nat} {x : PyData} {v : V} (tk : Takes X W) (hx2 : XOk X g P W) (hD : DOk X g F1 P D) (htd : TGd X.K t A) (hv : Dq X.K F1 v x) (hJ : FJ X.K g F1 Pv i σ H) (h : FT X g body A P Pv i x) :
    t v σ H fun σ2 H2 => semS X body { D with nx := FJ X.K g F1 Pv (i + 1), ct := FJ X.K g F1 Pv (i + 1), bk := D.nx } σ2 H2 := by
  obtain ⟨F, env', s1, e1, hp⟩ := hJ
  obtain ⟨l, hA, hl, hw⟩ := h env' hp
  refine htd x l σ F H v _ hA s1.ex (dp_mono e1 _ _ hv) fun r sr => ?_
  have s2 := s1.sets sr fun q hq => ltB (List.all_eq_true.mp hl q hq)
  exact hw W tk hx2 _ F H s2 _ ⟨fun e2 σ' F' H' q s' ex => ⟨F', e2, s', e1.trans ex, q⟩, hD.rt, fun e2 σ' F' H' q s' ex => hD.nx e2 σ' F' H' q s' (e1.trans ex), fun e2 σ' F' H' q s' ex => ⟨F', e2, s', e1.trans ex, q⟩⟩
theorem w1_forL (hp : PassesOwn (model X.prog X.w) X.A X.env X.xe) (hc : X.calm = true) (hpg : PG X tg t) (htd : TGd X.K t A)
    (hi : WE X g iter env (fun d z => z = true ∧ ∃ (xs : List PyData) (Pv : Nat → List Sl → Prop), d = .list xs ∧ Pv 0 env ∧ (∀ i x, xs[i]? = some x → FT X g body A P Pv i x) ∧ ∀ e, Pv xs.length e → P.nx e) (fun c => P.ex c env))
    (hs : ∀ x, foldedSetIterable iter X.env x = pure x := by intro _; rfl) : W1 X g (.For tg iter body [] pos) env P := fun W tk hx2 σ F H s0 D hD => by
  refine semP_of (ps_for hp hc (pi_list (peS iter)) hpg (pssS body) hs) ?_
  refine hi W tk σ F H s0 (hx2.hx env σ) _ fun d z v F1 H1 ⟨hz, xs, Pv, hd, p0, pt, pe⟩ s1 e1 rd => ?_
  subst hz hd
  obtain ⟨a, vs, rfl, hsq, hda⟩ := dp_lst rd
  refine ⟨a, rfl, ⟨vs, ex_l s1.ex hsq⟩, ?_⟩
  refine for_list (xs := vs) (FJ X.K g F1 Pv) ⟨F1, env, s1, Ex.refl F1, p0⟩ (fun i σ' H' _ ⟨F2, e2, s2, ex2, _⟩ => ex_l s2.ex (ex_l ex2 hsq)) (fun i x σ' H' hx hJ => ?_) (fun σ' H' ⟨F2, e2, s2, ex2, hp2⟩ => ?_)
  · obtain ⟨d, hd1, hd2⟩ := dpa_of hda hx
    exact for_turn tk hx2 (hD.mono e1) htd hd2 hJ (pt i d hd1)
  · rw [dpa_len hda] at hp2
    exact hD.nx e2 σ' F2 H' (pe e2 hp2) s2 (e1.trans ex2)
theorem w1_forT (hp : PassesOwn (model X.prog X.w) X.A X.env X.xe) (hc : X.calm = true) (hpg : PG X tg t) (htd : TGd X.K t A)
    (hi : WE X g iter env (fun d z => z = true ∧ ∃ (xs : List PyData) (Pv : Nat → List Sl → Prop), d = .tuple xs ∧ Pv 0 env ∧ (∀ i x, xs[i]? = some x → FT X g body A P Pv i x) ∧ ∀ e, Pv xs.length e → P.nx e) (fun c => P.ex c env))
    (hs : ∀ x, foldedSetIterable iter X.env x = pure x := by intro _; rfl) : W1 X g (.For tg iter body [] pos) env P := fun W tk hx2 σ F H s0 D hD => by
  refine semP_of (ps_for hp hc (pi_tup (peS iter)) hpg (pssS body) hs) ?_
  refine hi W tk σ F H s0 (hx2.hx env σ) _ fun d z v F1 H1 ⟨hz, xs, Pv, hd, p0, pt, pe⟩ s1 e1 rd => ?_
  subst hz hd
  obtain ⟨a, vs, rfl, hsq, hda⟩ := dp_tup rd
  refine ⟨a, rfl, ⟨vs, ex_t s1.ex hsq⟩, ?_⟩
  refine for_tup (xs := vs) (FJ X.K g F1 Pv) ⟨F1, env, s1, Ex.refl F1, p0⟩ (fun i σ' H' _ ⟨F2, e2, s2, ex2, _⟩ => ex_t s2.ex (ex_t ex2 hsq)) (fun i x σ' H' hx hJ => ?_) (fun σ' H' ⟨F2, e2, s2, ex2, hp2⟩ => ?_)
  · obtain ⟨d, hd1, hd2⟩ := dpa_of hda hx
    exact for_turn tk hx2 (hD.mono e1) htd hd2 hJ (pt i d hd1)
  · rw [dpa_len hda] at hp2
    exact hD.nx e2 σ' F2 H' (pe e2 hp2) s2 (e1.trans ex2)
theorem w1_forR1 {p1 p2 : Pos} (hm : X.mg "range" = none) (hp : PassesOwn (model X.prog X.w) X.A X.env X.xe) (hc : X.calm = true) (hpg : PG X tg t) (htd : TGd X.K t A)
    (hi : WE X g a env (fun d z => ∃ (n : Int) (Pv : Nat → List Sl → Prop), d = .int n ∧ (-1000000 ≤ n ∧ n ≤ 1000000000) ∧ Pv 0 env ∧ (∀ i : Nat, (i : Int) < n → FT X g body A P Pv i (.int i)) ∧ ∀ e, Pv n.toNat e → P.nx e) (fun c => P.ex c env))
    (hs : ∀ x, foldedSetIterable (.Call (.Name "range" p1) [a] [] p2) X.env x = pure x := by intro _; rfl) (hg : Gl X "range" := by rfl) (he : starEach [a] X.env = [(false, eval a X.env)] := by rfl) : W1 X g (.For tg (.Call (.Name "range" p1) [a] [] p2) body [] pos) env P := fun W tk hx2 σ F H s0 D hD => by
  refine semP_of (ps_for hp hc (pi_range1 hg hm (pa_cons (peS a) pa_nil (by rw [he]; rfl)) he) hpg (pssS body) hs) ?_
  refine hi W tk σ F H s0 (hx2.hx env σ) _ fun d z v F1 H1 ⟨n, Pv, hd, hn, p0, pt, pe⟩ s1 e1 rd => ?_
  subst hd
  rw [rd_int rd]
  refine ⟨n, rfl, by omega, by omega, ?_⟩
  refine for_range (lo := 0) (n := n.toNat) (FJ X.K g F1 Pv) ⟨F1, env, s1, Ex.refl F1, p0⟩ (fun i σ' H' hi2 hJ => ?_) (fun σ' H' ⟨F2, e2, s2, ex2, hp2⟩ => ?_)
  · rw [Int.zero_add]
    exact for_turn tk hx2 (hD.mono e1) htd (.int _) hJ (pt i (by omega))
  · exact hD.nx e2 σ' F2 H' (pe e2 hp2) s2 (e1.trans ex2)
theorem w1_forR2 {p1 p2 : Pos} (hm : X.mg "range" = none) (hp : PassesOwn (model X.prog X.w) X.A X.env X.xe) (hc : X.calm = true) (hpg : PG X tg t) (htd : TGd X.K t A)
    (hi : WE X g a env (fun d z => ∃ lo, d = .int lo ∧ WE X g b env (fun d z => ∃ (n : Int) (Pv : Nat → List Sl → Prop), d = .int n ∧ (-1000000 ≤ lo ∧ lo ≤ 1000000000 ∧ -1000000 ≤ n ∧ n ≤ 1000000000) ∧ Pv 0 env ∧ (∀ i : Nat, lo + (i : Int) < n → FT X g body A P Pv i (.int (lo + i))) ∧ ∀ e, Pv (n - lo).toNat e → P.nx e) (fun c => P.ex c env)) (fun c => P.ex c env))
    (hs : ∀ x, foldedSetIterable (.Call (.Name "range" p1) [a, b] [] p2) X.env x = pure x := by intro _; rfl) (hg : Gl X "range" := by rfl) (he : starEach [a, b] X.env = [(false, eval a X.env), (false, eval b X.env)] := by rfl) (he2 : starEach [b] X.env = [(false, eval b X.env)] := by rfl) : W1 X g (.For tg (.Call (.Name "range" p1) [a, b] [] p2) body [] pos) env P := fun W tk hx2 σ F H s0 D hD => by
  refine semP_of (ps_for hp hc (pi_range2 hg hm (pa_cons (peS a) (pa_cons (peS b) pa_nil (by rw [he2]; rfl)) (by rw [he, he2])) he he2) hpg (pssS body) hs) ?_
  refine hi W tk σ F H s0 (hx2.hx env σ) _ fun d0 z0 v0 F0 H0 ⟨lo, hd0, hi2⟩ s00 e0 rd0 => ?_
  refine hi2 W tk σ F0 H0 s00 (hx2.hx env σ) _ fun d z v F1 H1 ⟨n, Pv, hd, hn, p0, pt, pe⟩ s1 e1 rd => ?_
  subst hd hd0
  rw [rd_int rd, rd_int rd0]
  refine ⟨lo, n, rfl, ⟨by omega, by omega, by omega, by omega⟩, ?_⟩
  refine for_range (lo := lo) (n := (n - lo).toNat) (FJ X.K g F1 Pv) ⟨F1, env, s1, Ex.refl F1, p0⟩ (fun i σ' H' hi2 hJ => ?_) (fun σ' H' ⟨F2, e2, s2, ex2, hp2⟩ => ?_)
  · exact for_turn tk hx2 (hD.mono (e0.trans e1)) htd (.int _) hJ (pt i (by omega))
  · exact hD.nx e2 σ' F2 H' (pe e2 hp2) s2 ((e0.trans e1).trans ex2)
end
/-- while: a word with a number that falls -/
theorem w1_while (hp : PassesOwn (model X.prog X.w) X.A X.env X.xe) (Pv : Nat → List Sl → Prop) (m0 : Nat) (h0 : Pv m0 env)
    (h : ∀ m env', Pv m env' → WT X g c env' (fun k => (k = true → WS X g body env' (P.turn fun e => ∃ m', m' < m ∧ Pv m' e)) ∧ (k = false → P.nx env')) (fun c => P.ex c env')) : W1 X g (.While c body [] pos) env P := fun W tk hx2 σ F H s0 D hD => by
  refine semP_of (ps_while hp (ptS c) (pssS body)) ?_
  refine ⟨fun m σ' H' => FJ X.K g F (fun _ e => Pv m e) 0 σ' H', ⟨m0, F, env, s0, Ex.refl F, h0⟩, fun m σ' H' ⟨F1, e1, s1, ex1, hp1⟩ => ?_⟩
  refine h m e1 hp1 W tk σ' F1 H' s1 (hx2.hx e1 σ') _ fun k F2 H2 ⟨ht, hf⟩ s2 ex2 => ?_
  cases k with
  | true =>
    rw [if_pos rfl]
    refine ⟨fun σ3 H3 => ∃ m', m' < m ∧ FJ X.K g F (fun _ e => Pv m' e) 0 σ3 H3, fun σ3 H3 ⟨m', hm, q⟩ => ⟨m', hm, q⟩, ?_⟩
    exact ht rfl W tk hx2 σ' F2 H2 s2 _ ⟨fun e3 σ3 F3 H3 ⟨m', hm, q⟩ s3 ex3 => ⟨m', hm, F3, e3, s3, (ex1.trans ex2).trans ex3, q⟩, hD.rt, fun e3 σ3 F3 H3 q s3 ex3 => hD.nx e3 σ3 F3 H3 q s3 ((ex1.trans ex2).trans ex3), fun e3 σ3 F3 H3 ⟨m', hm, q⟩ s3 ex3 => ⟨m', hm, F3, e3, s3, (ex1.trans ex2).trans ex3, q⟩⟩
  | false =>
    rw [if_neg Bool.false_ne_true]
    exact hD.nx e1 σ' F2 H2 (hf rfl) s2 (ex1.trans ex2)
end
end TL

namespace TL
open PySem PySem.Spec PyProof.Rows L2

/-! ### a def's body keeps its contract -/
def BackS : Sl → Sl → Sl → Prop
  | .un, _, s' => s' = .un
  | .d x, _, s' => s' = .d x
  | .v x, _, s' => s' = .v x
  | .ol a _, .ol b ds', s' => b = a ∧ s' = .ol a ds'
  | .bg a, .bg b, s' => b = a ∧ s' = .bg a
  | .bg a, .ol b ds, s' => b = a ∧ BagD ds ∧ s' = .bg a
  | .dt a _, .dt b kvs, s' => b = a ∧ s' = .dt a kvs
  | .dk a _, .dk b kvs, s' => b = a ∧ s' = .dk a kvs
  | .ow t, .ow u, s' => u.id = t.id ∧ s' = .ow u
  | _, _, _ => False
def Back : List Sl → List Sl → List Sl → Prop
  | [], _, r => r = []
  | s :: r, e :: env, s' :: r' => BackS s e s' ∧ Back r env r'
  | _, _, _ => False
theorem backS_sub {s e s' : Sl} (h : BackS s e s') : ∀ a ∈ s'.fp, a ∈ e.fp := by
  cases s with
  | un => rw [show s' = _ from h]; intro a z; cases z
  | d x => rw [show s' = _ from h]; intro a z; cases z
  | v x => rw [show s' = _ from h]; intro a z; cases z
  | ol a ds => cases e <;> first | exact h.elim | (obtain ⟨rfl, rfl⟩ := h; exact fun _ z => z)
  | bg a => cases e <;> first | exact h.elim | (obtain ⟨rfl, rfl⟩ := h; exact fun _ z => z) | (obtain ⟨rfl, _, rfl⟩ := h; exact fun _ z => z)
  | dt a ds => cases e <;> first | exact h.elim | (obtain ⟨rfl, rfl⟩ := h; exact fun _ z => z)
  | dk a ds => cases e <;> first | exact h.elim | (obtain ⟨rfl, rfl⟩ := h; exact fun _ z => z)
  | oo a ds => cases e <;> exact h.elim
  | fv l => cases e <;> exact h.elim
  | fl l => cases e <;> exact h.elim
  | ow t => cases e <;> first | exact h.elim | (obtain ⟨_, rfl⟩ := h; exact fun _ z => z)
theorem backS_val {K : Frag} {F F' H H' : Hp} {o o' : Option V} {s e s' : Sl} (h : BackS s e s') (hne : e.fp ≠ []) (hs : s'.fp ≠ []) (h0 : SlOk K F H o s) (h1 : SlOk K F' H' o' e) : o = o' := by
  cases s with
  | un => rw [show s' = _ from h] at hs; exact absurd rfl hs
  | d x => rw [show s' = _ from h] at hs; exact absurd rfl hs
  | v x => rw [show s' = _ from h] at hs; exact absurd rfl hs
  | ol a ds => cases e <;> first | exact h.elim | exact h0.1.trans (by rw [h1.1, h.1])
  | bg a => cases e <;> first | exact h.elim | exact h0.1.trans (by rw [h1.1, h.1])
  | dt a ds => cases e <;> first | exact h.elim | exact h0.1.trans (by rw [h1.1, h.1])
  | dk a ds => cases e <;> first | exact h.elim | exact h0.1.trans (by rw [h1.1, h.1])
  | oo a ds => cases e <;> exact h.elim
  | fv l => cases e <;> exact h.elim
  | fl l => cases e <;> exact h.elim
  | ow t => cases e <;> first
      | exact h.elim
      | (obtain ⟨v, q1, q2⟩ := h0; obtain ⟨w, q3, q4⟩ := h1; rw [q1, q3, t.isr q2, OwT.isr _ q4, h.1])
theorem back_len : ∀ {args env args' : List Sl}, Back args env args' → args'.length = args.length
  | [], _, _, h => by rw [show _ = [] from h]
  | s :: r, e :: env, s' :: r', h => congrArg Nat.succ (back_len h.2)
  | _ :: _, [], _, h => h.elim
  | _ :: _, _ :: _, [], h => h.elim
theorem back_get : ∀ {args env args' : List Sl} {i : Nat} {s' : Sl}, Back args env args' → args'[i]? = some s' → ∃ s e, args[i]? = some s ∧ env[i]? = some e ∧ BackS s e s'
  | [], _, _, i, s', h, e => by rw [show _ = [] from h] at e; simp at e
  | s :: r, e :: env, t :: r', 0, s', h, q => by
    have e' := Option.some.inj q
    subst e'
    exact ⟨s, e, rfl, rfl, h.1⟩
  | s :: r, e :: env, t :: r', i + 1, s', h, q => back_get (i := i) h.2 q
  | _ :: _, [], _, _, _, h, _ => h.elim
  | _ :: _, _ :: _, [], _, _, h, _ => h.elim
theorem slok_back {K : Frag} {F F' H H' : Hp} {o o' : Option V} {s e s' : Sl} (h : BackS s e s') (e0 : Ex F F') (h0 : SlOk K F H o s) (h1 : SlOk K F' H' o' e) : SlOk K F' H' o s' := by
  cases s with
  | un => rw [show s' = .un from h]; trivial
  | d x => rw [show s' = .d x from h]; obtain ⟨v, q1, q2⟩ := h0; exact ⟨v, q1, dp_mono e0 _ _ q2⟩
  | v x => rw [show s' = .v x from h]; exact h0
  | ol a ds =>
    cases e <;> first
      | exact h.elim
      | (obtain ⟨rfl, rfl⟩ := h; exact ⟨h0.1, h1.2⟩)
  | bg a =>
    cases e <;> first
      | exact h.elim
      | (obtain ⟨rfl, rfl⟩ := h; exact ⟨h0.1, h1.2⟩)
      | (obtain ⟨rfl, hb, rfl⟩ := h; obtain ⟨_, vs, q1, q2⟩ := h1; exact ⟨h0.1, _, vs, hb, q1, q2⟩)
  | dt a ds =>
    cases e <;> first
      | exact h.elim
      | (obtain ⟨rfl, rfl⟩ := h; exact ⟨h0.1, h1.2⟩)
  | dk a ds =>
    cases e <;> first
      | exact h.elim
      | (obtain ⟨rfl, rfl⟩ := h; exact ⟨h0.1, h1.2⟩)
  | oo a ds => cases e <;> exact h.elim
  | fv l => cases e <;> exact h.elim
  | fl l => cases e <;> exact h.elim
  | ow t =>
    cases e <;> first
      | exact h.elim
      | (obtain ⟨hi, rfl⟩ := h
         obtain ⟨v, q1, q2⟩ := h0
         obtain ⟨w, q3, q4⟩ := h1
         have e1 := t.isr q2
         have e2 := OwT.isr _ q4
         rw [hi, ← e1] at e2
         subst e2
         exact ⟨w, q1, q4⟩)
def prIx (args args' : List Sl) : PR → Prop
  | .ar i => i < args.length ∧ ∀ s', args'[i]? = some s' → s'.fp ≠ []
  | _ => True
/-- what a body is to reach -/
def endOf (args : List Sl) (Φ : PR → List Sl → Prop) (Ψ : Exc → List Sl → Prop) : Po where
  nx := fun env' => ∃ args', Φ (.rd .none) args' ∧ Back args env' args'
  rt := fun r env' => ∃ args', Φ r args' ∧ prIx args args' r ∧ Back args env' args'
  ex := fun c env' => ∃ args', Ψ c args' ∧ Back args env' args'
theorem pad_get {args : List Sl} {n i : Nat} {s : Sl} (h : (args ++ List.replicate n .un)[i]? = some s) : args[i]? = some s ∨ s = .un := by
  by_cases hi : i < args.length
  · rw [List.getElem?_append_left hi] at h; exact .inl h
  · rw [List.getElem?_append_right (by omega)] at h
    rw [List.getElem?_replicate] at h
    split at h
    · exact .inr (Option.some.inj h).symm
    · cases h
theorem Sk.pad {K : Frag} {F H : Hp} {vs : List V} {args : List Sl} {N : List Str} (sk : Sk K F H (vs.map some) args) (hl : vs.length ≤ N.length) : Sk K F H (L2.start N vs) (args ++ List.replicate (N.length - vs.length) .un) := by
  have hlen : args.length = vs.length := by have := sk.len; rw [List.length_map] at this; exact this.symm
  have ow : ∀ a, Own (args ++ List.replicate (N.length - vs.length) .un) a → Own args a := fun a ⟨i, s, h1, h2⟩ => by
    rcases pad_get h1 with q | q
    · exact ⟨i, s, q, h2⟩
    · subst q; cases h2
  refine ⟨by unfold L2.start; simp only [List.length_append, List.length_map, List.length_replicate]; omega, fun i s h => ?_, fun i j s t a h1 h2 h3 h4 => ?_, fun a h => sk.fr a (ow a h), sk.ex, sk.tf, sk.tk⟩
  · rcases pad_get h with q | q
    · have hi : i < (vs.map some).length := by rw [List.length_map, ← hlen]; exact (List.getElem?_eq_some_iff.mp q).1
      have e : (L2.start N vs)[i]? = (vs.map some)[i]? := by unfold L2.start; rw [List.getElem?_append_left hi]
      rw [e]; exact sk.sl i s q
    · subst q; trivial
  · rcases pad_get h1 with q | q
    · rcases pad_get h2 with q2 | q2
      · exact sk.nd i j s t a q q2 h3 h4
      · subst q2; cases h4
    · subst q; cases h3
section
variable {P : Program} {w : World} {K : Frag} {mg : Str → Option Value} {base : Heap} {f : Addr} {fd : FuncData} {N ps : List Str} {k : Nat} {S : CT}
theorem fn_okL {x : Str} {st : Stmt} (F : FunD K x x (defArgs st) (defBody st) (defScope st) [] [] f fd) (sc : FnScope N ps (defScope st)) (hln : Nat.ble ps.length N.length = true)
    (body : ∀ (cdv : Value) (A : Around) (outer : List Env) (s : Shared) (H : Hp) (E : XK) (g : G) (args : List Sl) (Φ : PR → List Sl → Prop) (Ψ : Exc → List Sl → Prop),
      Room k (cxOf (L2.CX P w) P w K mg base N x (defScope st) f cdv A outer s H E).A →
      PassesOwn (model P w) (cxOf (L2.CX P w) P w K mg base N x (defScope st) f cdv A outer s H E).A (cxOf (L2.CX P w) P w K mg base N x (defScope st) f cdv A outer s H E).env (cxOf (L2.CX P w) P w K mg base N x (defScope st) f cdv A outer s H E).xe →
      g.M = fps args → args.length = ps.length → S args Φ Ψ →
      fd.code = cdv → WS (cxOf (L2.CX P w) P w K mg base N x (defScope st) f cdv A outer s H E) g (defBody st) (args ++ List.replicate (N.length - ps.length) .un) (endOf args Φ Ψ)) : FnOk P w K mg base (L2.CX P w) (k + 1) f fd ps (spOf K ps.length S) := by
  obtain ⟨oc, od, dV, kV, doc, pm, an, cdv, ct, osl, rfl, lk, hcd, _, _⟩ := F.ex
  refine fn_of lk hcd sc (fun vs H Q E h => h.1) fun A outer s H vs Q E hr h => ?_
  obtain ⟨hvl, F0, args, Φ, Ψ, hS, sk, hret, hexc⟩ := h
  have hal : args.length = ps.length := by have := sk.len; rw [List.length_map] at this; omega
  have hln' : ps.length ≤ N.length := Nat.le_of_ble_eq_true hln
  refine ⟨semS _ _, pssS _, ?_⟩
  have skp := sk.pad (N := N) (by omega)
  rw [hvl] at skp
  have fpe : ∀ a, a ∈ fps args ↔ Own args a := fun a => own_fps.symm
  have st0 : St K ⟨F0, H, fps args⟩ F0 H (L2.start N vs) (args ++ List.replicate (N.length - ps.length) .un) :=
    { skp with
      gt := ⟨fun a ps h => (by show H a ≠ none; rw [show H a = _ from h]; intro z; cases z), fun p hp z => (by obtain ⟨ps, h1, _⟩ := sk.tk.tb p hp; have z : H p.1 = none := z; rw [h1] at z; cases z)⟩
      g1 := fun _ _ h _ _ => h, g3 := Ex.refl F0, g4 := fun a h => .inl h
      g2 := fun a ⟨i, s, h1, h2⟩ => by
        rcases pad_get h1 with q | q
        · exact .inr ((fpe a).mpr ⟨i, s, q, h2⟩)
        · subst q; cases h2
      g5 := fun a h => sk.there ((fpe a).mp h)
      g6 := fun a h => sk.there ((fpe a).mp h) }
  -- what holds at every end
  have fin : ∀ {F' H' : Hp} {σ' : SS} {env' args' : List Sl}, St K ⟨F0, H, fps args⟩ F' H' σ' env' → Back args env' args' →
      Sk K F' H' (vs.map some) args' ∧ Step F0 H args F' H' ∧ (∀ a, Own args' a → Own args a ∨ H a = none) ∧ ∀ a, Own args' a → Own env' a := fun {F' H' σ' env' args'} s' hbk => by
    have sub : ∀ a, Own args' a → (Own args a ∨ H a = none) ∧ Own env' a := fun a ⟨i, t, h1, h2⟩ => by
      obtain ⟨s, e, q1, q2, q3⟩ := back_get hbk h1
      have oe : Own env' a := ⟨i, e, q2, backS_sub q3 a h2⟩
      refine ⟨?_, oe⟩
      rcases s'.g2 a oe with z | z
      · exact .inr z
      · exact .inl ((fpe a).mp z)
    refine ⟨⟨by rw [List.length_map, back_len hbk]; omega, fun i t h => ?_, fun i j s t a h1 h2 h3 h4 => ?_, fun a h => s'.fr a (sub a h).2, s'.ex, s'.tf, s'.tk⟩, ⟨s'.g3, fun a o h hn n => s'.g1 a o h (fun m => hn ((fpe a).mp m)) n, fun a h => s'.g4 a h, fun a h => ?_⟩, fun a h => (sub a h).1, fun a h => (sub a h).2⟩
    · obtain ⟨s, e, q1, q2, q3⟩ := back_get hbk h
      exact slok_back q3 s'.g3 (sk.sl i s q1) (s'.sl i e q2)
    · obtain ⟨s1, e1, _, q2, q3⟩ := back_get hbk h1
      obtain ⟨s2, e2, _, q5, q6⟩ := back_get hbk h2
      exact s'.nd i j e1 e2 a q2 q5 (backS_sub q3 a h3) (backS_sub q6 a h4)
    · intro z
      by_cases m : a ∈ fps args
      · exact s'.g5 a m z
      · cases q : H a with
        | none => exact h q
        | some u =>
          by_cases ht : ∃ ps, u = .tbl ps
          · obtain ⟨ps, rfl⟩ := ht; exact s'.gt.g7 a ps q z
          · rw [s'.g1 a u q m fun ps y => ht ⟨ps, y⟩] at z; cases z
  have hb0 := body cdv A outer s H E ⟨F0, H, fps args⟩ args Φ Ψ hr (passes_of rfl) rfl hal hS rfl
  refine hb0 (fun cls d _ H => E cls d H) (takes_of rfl rfl rfl rfl) (fun c env' σ' F' H' ⟨args', hp, hbk⟩ s' => ?_) (L2.start N vs) F0 H st0 _ ⟨fun env' σ' F' H' ⟨args', hp, hbk⟩ s' e' => ?_, fun r v env' σ' F' H' ⟨args', hp, hix, hbk⟩ s' ro => ?_, fun _ _ _ _ h => h.elim, fun _ _ _ _ h => h.elim⟩
  · obtain ⟨h1, h2, h3, h4⟩ := fin s' hbk
    have := hexc c args' F' H' hp h1 h2 h3
    cases c
    exact this
  · obtain ⟨h1, h2, h3, h4⟩ := fin s' hbk
    exact hret (.rd .none) .non args' F' H' hp h1 h2 h3 .non
  · obtain ⟨h1, h2, h3, h4⟩ := fin s' hbk
    refine hret r v args' F' H' hp h1 h2 h3 ?_
    cases r with
    | rd d => exact ro
    | nl ds =>
      obtain ⟨p, xs, q1, q2, q3, q4, q5, q6⟩ := ro
      exact ⟨p, xs, q1, q2, q3, q4, q6, fun z => q5 (h4 p z)⟩
    | nt ds =>
      obtain ⟨p, xs, q1, q2, q3, q4, q5, q6⟩ := ro
      exact ⟨p, xs, q1, q2, q3, q4, q6, fun z => q5 (h4 p z)⟩
    | nk ds =>
      obtain ⟨p, xs, q1, q2, q3, q4, q5, q6⟩ := ro
      exact ⟨p, xs, q1, q2, q3, q4, q6, fun z => q5 (h4 p z)⟩
    | sl C =>
      obtain ⟨t, c1, c2, c3⟩ := ro
      exact ⟨t, c1, c2, fun p hp => by obtain ⟨y1, y2, y3⟩ := c3 p hp; exact ⟨y1, y3, fun z => y2 (h4 p z)⟩⟩
    | ar i =>
      obtain ⟨q1, e, q2, q3⟩ := ro
      obtain ⟨hi, hown⟩ : i < args.length ∧ ∀ s', args'[i]? = some s' → s'.fp ≠ [] := hix
      have hi' : i < args'.length := by rw [back_len hbk]; exact hi
      obtain ⟨s0, e0, q4, q5, q6⟩ := back_get hbk (List.getElem?_eq_getElem hi')
      rw [q2] at q5
      have q5' := Option.some.inj q5
      subst q5'
      have k2 := s'.sl i e q2
      rw [q1] at k2
      show vs[i]? = some v
      have hv : i < vs.length := by omega
      have k1 := sk.sl i s0 q4
      have ev : ((vs.map some)[i]?.getD none : Option V) = some vs[i] := vmap_get (List.getElem?_eq_getElem hv)
      rw [ev] at k1
      have z := backS_val q6 q3 (hown _ (List.getElem?_eq_getElem hi')) k1 k2
      rw [List.getElem?_eq_getElem hv]
      exact z
theorem fn_ok {x : Str} {st : Stmt} (F : FunD K x x (defArgs st) (defBody st) (defScope st) [] [] f fd) (sc : FnScope N ps (defScope st)) (hln : Nat.ble ps.length N.length = true)
    (body : ∀ (cdv : Value) (A : Around) (outer : List Env) (s : Shared) (H : Hp) (E : XK) (g : G) (args : List Sl) (Φ : PR → List Sl → Prop) (Ψ : Exc → List Sl → Prop),
      Room k (cxOf (L2.CX P w) P w K mg base N x (defScope st) f cdv A outer s H E).A →
      PassesOwn (model P w) (cxOf (L2.CX P w) P w K mg base N x (defScope st) f cdv A outer s H E).A (cxOf (L2.CX P w) P w K mg base N x (defScope st) f cdv A outer s H E).env (cxOf (L2.CX P w) P w K mg base N x (defScope st) f cdv A outer s H E).xe →
      g.M = fps args → args.length = ps.length → S args Φ Ψ →
      WS (cxOf (L2.CX P w) P w K mg base N x (defScope st) f cdv A outer s H E) g (defBody st) (args ++ List.replicate (N.length - ps.length) .un) (endOf args Φ Ψ)) : FnOk P w K mg base (L2.CX P w) (k + 1) f fd ps (spOf K ps.length S) :=
  fn_okL F sc hln fun cdv A outer s H E g args Φ Ψ h1 h2 h3 h4 h5 _ => body cdv A outer s H E g args Φ Ψ h1 h2 h3 h4 h5
theorem fn_hasL {x : Str} {st : Stmt} (F : FunD K x x (defArgs st) (defBody st) (defScope st) [] [] f fd) (hm : mg x = some (.ref f)) (sc : FnScope N ps (defScope st)) (hb : Binds K fd ps []) (hln : Nat.ble ps.length N.length = true)
    (body : ∀ (cdv : Value) (A : Around) (outer : List Env) (s : Shared) (H : Hp) (E : XK) (g : G) (args : List Sl) (Φ : PR → List Sl → Prop) (Ψ : Exc → List Sl → Prop),
      Room k (cxOf (L2.CX P w) P w K mg base N x (defScope st) f cdv A outer s H E).A →
      PassesOwn (model P w) (cxOf (L2.CX P w) P w K mg base N x (defScope st) f cdv A outer s H E).A (cxOf (L2.CX P w) P w K mg base N x (defScope st) f cdv A outer s H E).env (cxOf (L2.CX P w) P w K mg base N x (defScope st) f cdv A outer s H E).xe →
      g.M = fps args → args.length = ps.length → S args Φ Ψ → fd.code = cdv →
      WS (cxOf (L2.CX P w) P w K mg base N x (defScope st) f cdv A outer s H E) g (defBody st) (args ++ List.replicate (N.length - ps.length) .un) (endOf args Φ Ψ)) : Has P w K mg base (k + 1) x ps S := ⟨f, fd, hm, F.kp, hb, fn_okL F sc hln body⟩
theorem fn_has {x : Str} {st : Stmt} (F : FunD K x x (defArgs st) (defBody st) (defScope st) [] [] f fd) (hm : mg x = some (.ref f)) (sc : FnScope N ps (defScope st)) (hb : Binds K fd ps []) (hln : Nat.ble ps.length N.length = true)
    (body : ∀ (cdv : Value) (A : Around) (outer : List Env) (s : Shared) (H : Hp) (E : XK) (g : G) (args : List Sl) (Φ : PR → List Sl → Prop) (Ψ : Exc → List Sl → Prop),
      Room k (cxOf (L2.CX P w) P w K mg base N x (defScope st) f cdv A outer s H E).A →
      PassesOwn (model P w) (cxOf (L2.CX P w) P w K mg base N x (defScope st) f cdv A outer s H E).A (cxOf (L2.CX P w) P w K mg base N x (defScope st) f cdv A outer s H E).env (cxOf (L2.CX P w) P w K mg base N x (defScope st) f cdv A outer s H E).xe →
      g.M = fps args → args.length = ps.length → S args Φ Ψ →
      WS (cxOf (L2.CX P w) P w K mg base N x (defScope st) f cdv A outer s H E) g (defBody st) (args ++ List.replicate (N.length - ps.length) .un) (endOf args Φ Ψ)) : Has P w K mg base (k + 1) x ps S := ⟨f, fd, hm, F.kp, hb, fn_ok F sc hln body⟩
end

/-! ### try -/
def ExM (K : Frag) : Exc → Str → Option Bool
  | .own m, n => PySem.W.exmOne K (.ref (He.ga K m)) (.ref (He.ga K n))
/-- what the clauses do with an exception -/
def TryH (X : Cx) (g : G) (P : Po) : List (Str × List Stmt) → Exc → List Sl → Prop
  | [], c, env' => P.ex c env'
  | (n, suite) :: r, c, env' => ∃ b, ExM X.K c n = some b ∧ (b = true → ∀ (a : Addr) (q : Addr × Obj) (pn : List (Addr × Obj)), WS (X.suite a (q :: pn)) g suite env' (P.exn fun _ _ => False)) ∧ (b = false → TryH X g P r c env')
inductive HdR (X : Cx) : List ExceptHandler → List (Str × List Stmt) → Prop
  | nil : HdR X [] []
  | cons {x : Str} {b₀ : Stmt} {suite : List Stmt} {np pos' : Pos} {hds : List ExceptHandler} {l : List (Str × List Stmt)} (hc : Names X x (.ref (He.ga X.K x))) (r : HdR X hds l) :
      HdR X (.ExceptHandler (some (.Name x np)) none (b₀ :: suite) pos' :: hds) ((x, b₀ :: suite) :: l)
section
variable {X : Cx} {g : G} {env env' : List Sl} {P : Po} {pos p : Pos} {body : List Stmt} {F F' H H' : Hp} {σ σ' : SS} {D : Ends} {W : WX}
def tsOf (X : Cx) (suite : List Stmt) (a : Addr) (cls : Value) (d : Option Addr) : TS := fun D σ H => ∀ (oe : Obj) (pn : List (Addr × Obj)), semS (X.suite a ((a, oe) :: pn)) suite D σ H
def hdL (X : Cx) : List (Str × List Stmt) → List (Value × (Addr → Value → Option Addr → TS))
  | [] => []
  | (n, suite) :: r => (.ref (He.ga X.K n), tsOf X suite) :: hdL X r
theorem hdr_ok : ∀ {hds : List ExceptHandler} {l : List (Str × List Stmt)}, HdR X hds l → HdsOk X hds (hdL X l)
  | _, _, .nil => .nil
  | _, _, .cons hc r => .cons hc (fun a oe cls d pn _ _ => ⟨fun pins s σ H D I h => (h oe pn).run pins s I⟩) (hdr_ok r)
theorem tryh_run {F1 : Hp} (hx2 : XOk X g P W) (hD : DOk X g F1 P D) : ∀ {l : List (Str × List Stmt)} {c : Exc} {env' : List Sl} {σ' : SS} {F' H' : Hp}, TryH X g P l c env' → St X.K g F' H' σ' env' → Ex F1 F' → ExcW X.K (wMany X.K W D (hdL X l)) σ' H' c
  | [], c, env', σ', F', H', h, s', e' => by
    have := hx2 c env' σ' F' H' h s'
    cases c
    exact this
  | (n, suite) :: r, c, env', σ', F', H', ⟨b, h1, h2, h3⟩, s', e' => by
    cases c with
    | own m =>
      refine ⟨b, h1, fun hb a ha oe pn => ?_, fun hb => tryh_run hx2 hD (h3 hb) s' e'⟩
      refine h2 hb a (a, oe) pn (fun _ _ _ _ => False) (fun _ _ x => by obtain ⟨_, _, _, _, _, _, _, _, _, _, _, _, _, _, _, _, z⟩ := x; exact z.elim) (fun _ _ _ _ _ z => z.elim) σ' F' H' s' D ?_
      exact ⟨fun e2 σ2 F2 H2 q s2 ex2 => hD.nx e2 σ2 F2 H2 q s2 (e'.trans ex2), hD.rt, fun e2 σ2 F2 H2 q s2 ex2 => hD.bk e2 σ2 F2 H2 q s2 (e'.trans ex2), fun e2 σ2 F2 H2 q s2 ex2 => hD.ct e2 σ2 F2 H2 q s2 (e'.trans ex2)⟩
theorem St.at {K : Frag} (st : St K g F H σ env) : St K { g with F0 := F } F H σ env :=
  { st.toSk with gt := ⟨st.gt.g7, st.gt.g8⟩, g1 := st.g1, g2 := st.g2, g3 := Ex.refl F, g4 := fun a h => .inl h, g5 := st.g5, g6 := st.g6 }
theorem St.ofAt {K : Frag} (st : St K g F H σ env) (s' : St K { g with F0 := F } F' H' σ' env') : St K g F' H' σ' env' :=
  { s'.toSk with gt := ⟨s'.gt.g7, s'.gt.g8⟩, g1 := s'.g1, g2 := s'.g2, g3 := st.g3.trans s'.g3, g5 := s'.g5, g6 := s'.g6
                 g4 := fun a h => by
                   rcases s'.g4 a h with q | q
                   · exact st.g4 a q
                   · exact .inr q }
/-- try: body, several clauses -/
theorem w1_try {h₀ : ExceptHandler} {hds : List ExceptHandler} {l : List (Str × List Stmt)} (hr : HdR X (h₀ :: hds) l)
    (h : ∀ (pn : List (Addr × Obj)) (xe : Value → Shared → Prop) (F : Hp), PassesOwn (model X.prog X.w) X.A X.env xe → WS (X.tr pn xe) { g with F0 := F } body env (P.exn (TryH X g P l)))
    (hs : X.stack = X.env :: X.outer := by rfl) (hf : X.env.frame = some X.env.locals := by rfl) : W1 X g (.Try body (h₀ :: hds) [] [] pos) env P := fun W tk hx2 σ F H s0 D hD => by
  refine semP_of (ps_try_many (tb := fun W' => fun D' σ' H' => ∀ (pn : List (Addr × Obj)) (xe : Value → Shared → Prop), Takes (X.tr pn xe) W' → PassesOwn (model X.prog X.w) X.A X.env xe → semS (X.tr pn xe) body D' σ' H') hs hf tk
    (fun W' pn xe tk' po => ⟨fun pins s σ H D I h => (h pn xe tk' po).run pins s I⟩) (hdr_ok hr)) ?_
  intro pn xe tk' po
  refine h pn xe F po _ tk' (fun c env' σ' F' H' hc s' => ?_) σ F H s0.at D ⟨fun e σ' F' H' q s' ex => hD.nx e σ' F' H' q (s0.ofAt s') ex, fun r v e σ' F' H' q s' ro => hD.rt r v e σ' F' H' q (s0.ofAt s') ?_, fun e σ' F' H' q s' ex => hD.bk e σ' F' H' q (s0.ofAt s') ex, fun e σ' F' H' q s' ex => hD.ct e σ' F' H' q (s0.ofAt s') ex⟩
  · exact tryh_run hx2 hD hc (s0.ofAt s') s'.g3
  · cases r <;> exact ro
end

/-! ### the law -/
def cLaw : CT := fun args Φ Ψ => ∃ ns : List Int, args = [.d (.list (ns.map .int))] ∧ ns.length ≤ 63 ∧ Φ (.rd (.bool true)) args
def noTb (H : Hp) : Hp := fun b => match H b with
  | some (.tbl _) => none
  | o => o
theorem noTb_of {H : Hp} {b : Addr} {u : HO} (h : H b = some u) (n : ntb u) : noTb H b = some u := by
  unfold noTb
  split
  · rename_i ps e; rw [h] at e; exact absurd (Option.some.inj e) (n ps)
  · exact h
theorem noTb_to {H : Hp} {b : Addr} {u : HO} (h : noTb H b = some u) : H b = some u ∧ ntb u := by
  unfold noTb at h
  split at h
  · cases h
  · rename_i e
    exact ⟨h, fun ps z => e ps (by rw [h, z])⟩
theorem noTb_sql {K : Frag} {H : Hp} {a : Addr} {xs : List V} (h : SqL K H a xs) : SqL K (noTb H) a xs := by
  rcases h with (h | ⟨o, h⟩) | h
  · exact .inl (.inl (noTb_of h fun _ z => by cases z))
  · exact .inl (.inr ⟨o, noTb_of h fun _ z => by cases z⟩)
  · exact .inr h
theorem law_sp {K : Frag} {H : Hp} {a : Addr} {ns : List Int} (hl : ns.length ≤ 63) (hT : ∀ p ∈ tabsK K, H p.1 = some (.tbl #[])) (hS : SqL K H a (ns.map V.int)) : spOf K 1 cLaw [.ref a] H (fun v _ => v = .bl true) (fun _ _ _ => False) := by
  refine ⟨rfl, noTb H, [.d (.list (ns.map .int))], fun r args' => r = .rd (.bool true), fun _ _ => False, ⟨ns, rfl, hl, rfl⟩, ⟨rfl, fun i s h => ?_, fun i j s t b h1 h2 h3 h4 => ?_, fun b ⟨i, s, h1, h2⟩ => ?_, fun b u z => (noTb_to z).1, fun b vs h => noTb_of h (fun _ z => by cases z), ⟨fun b ps z => (noTb_to z).2 ps rfl, fun p hp => ⟨#[], hT p hp, trivial, fun pos cv hc => ?_⟩⟩⟩, fun r v args' F' H' hp _ _ _ pr => ?_, fun c _ _ _ hp _ _ _ => hp.elim⟩
  · match i, h with
    | 0, h =>
      have e := Option.some.inj h
      subst e
      exact ⟨.ref a, rfl, .lst (noTb_sql hS) (dpa_ints ns)⟩
    | i + 1, h => simp at h
  · match i, h1 with
    | 0, h1 =>
      have e := Option.some.inj h1
      subst e
      cases h3
    | i + 1, h => simp at h
  · match i, h1 with
    | 0, h1 =>
      have e := Option.some.inj h1
      subst e
      cases h2
    | i + 1, h => simp at h
  · have z : codeAmong pos [] = some cv := hc
    simp [codeAmong] at z
  · subst hp
    exact dp_bl pr
end TL

namespace TL
open PySem PySem.Spec PyProof.Rows L2
section
variable {X : Cx} {g : G} {env env' : List Sl} {Ψ : Exc → Prop} {P : Po} {pos p : Pos} {a b c e : Expr} {es : List Expr} {rest : List Stmt} {K : Frag} {F F' H H' : Hp} {σ σ' : SS}
/-- list + list, a new list -/
theorem wn_add {Φ : List PyData → Prop} (h : WE X g a env (fun d1 _ => ∃ xs, d1 = .list xs ∧ WE X g b env (fun d2 _ => ∃ ys, d2 = .list ys ∧ xs.length + ys.length ≤ sizeLine ∧ Φ (xs ++ ys)) Ψ) Ψ) : WN X g (.BinOp a .Add b pos) env Φ Ψ := by
  intro W tk σ F H st hx Q hQ
  refine semE_of (pe_op op_catL (peS a) (peS b)) ?_
  refine h W tk σ F H st hx _ fun d1 z1 v1 F1 H1 ⟨xs, hd1, h1⟩ st1 e1 r1 => ?_
  subst hd1
  refine h1 W tk σ F1 H1 st1 hx _ fun d2 z2 v2 F2 H2 ⟨ys, hd2, hl, hp⟩ st2 e2 r2 => ?_
  subst hd2
  obtain ⟨p1, vs1, rfl, s1, q1⟩ := rd_lst st2.toSk (rd_mono e2 r1)
  obtain ⟨p2, vs2, rfl, s2, q2⟩ := rd_lst st2.toSk r2
  refine ⟨p1, p2, vs1, vs2, rfl, rfl, s1, s2, by rw [dpa_len q1, dpa_len q2]; exact hl, fun p hn => ?_⟩
  exact put_new st2 hn (dpa_app q1 q2) hp fun ds v F' H' hp s e r => hQ ds v F' H' hp s ((e1.trans e2).trans e) r
/-- a statement, what holds behind it, the rest -/
theorem ws_mid {st : Stmt} (M : List Sl → Prop) (h1 : W1 X g st env (P.thn M)) (h2 : ∀ e, M e → WS X g rest e P) : WS X g (st :: rest) env P := fun W tk hx σ F H s0 D hD => by
  refine semS_of (pss_cons (psP st) (pssS rest)) ?_
  refine h1 W tk hx σ F H s0 _ ⟨fun env' σ' F' H' hw s' e' => ?_, hD.rt, hD.bk, hD.ct⟩
  exact h2 env' hw W tk hx σ' F' H' s' D (hD.mono e')
/-! bags: opened, closed -/
theorem ws_close (i : Nat) {al : Addr} {ds : List PyData} (he : env[i]? = some (.ol al ds)) (hb : BagD ds) (h : WS X g rest (env.set i (.bg al)) P) : WS X g rest env P := fun W tk hx σ F H st D hD =>
  h W tk hx σ F H (st.weak he (fun a m => m) fun ⟨h1, vs, h2, h3⟩ => ⟨h1, ds, vs, hb, h2, h3⟩) D hD
theorem ws_open (i : Nat) {al : Addr} (he : env[i]? = some (.bg al)) (h : ∀ (cells : List Int) (j s t : Int), (∀ c ∈ cells, (0 : Int) ≤ c) → 0 ≤ j → 0 ≤ s → 0 ≤ t → t < 2147483629 → WS X g rest (env.set i (.ol al [.list (cells.map .int), .int j, .int s, .int t])) P) : WS X g rest env P := fun W tk hx σ F H st D hD => by
  obtain ⟨h1, ds, vs, ⟨cells, j, s, t, rfl, q1, q2, q3, q4, q5⟩, h2, h3⟩ := st.sl i _ he
  exact h cells j s t q1 q2 q3 q4 q5 W tk hx σ F H (st.weak he (fun a m => m) fun _ => ⟨h1, vs, h2, h3⟩) D hD
end
theorem szOk {n m : Nat} (h : Nat.ble n m = true) : n ≤ m := Nat.le_of_ble_eq_true h
theorem nd_t {p : Prop} [Decidable p] (h : (!decide p) = true) : ¬ p := by simpa using h
theorem nd_f {p : Prop} [Decidable p] (h : (!decide p) = false) : p := by simpa using h
theorem nb {m : Int} (h : m.natAbs < 2 ^ 120) : m.natAbs < 2 ^ 8000 := Nat.lt_of_lt_of_le h (Nat.pow_le_pow_right (by decide) (by decide))
/-! rows given by a function -/
abbrev rg (m : Nat) (f : Nat → PyData) : List PyData := (List.range m).map f
theorem rg_len (m : Nat) (f : Nat → PyData) : (rg m f).length = m := by simp
theorem rg_succ (m : Nat) (f : Nat → PyData) : rg m f ++ [f m] = rg (m + 1) f := by simp [rg, List.range_succ]
theorem rgi_succ (i : Nat) (f : Nat → Int) : ((List.range i).map f).map PyData.int ++ [.int (f i)] = ((List.range (i + 1)).map f).map PyData.int := by simp [List.range_succ]
theorem at_nat {α : Type} {xs : List α} {i : Int} {x : α} (h0 : 0 ≤ i) (h : xs[i.toNat]? = some x) : atI xs i = some x := by
  have hl := (List.getElem?_eq_some_iff.mp h).1
  unfold atI ixN
  rw [if_pos h0, if_pos (by omega)]
  exact h
theorem at_rg {m : Nat} {f : Nat → PyData} {i : Int} (h0 : 0 ≤ i) (h1 : i < m) : atI (rg m f) i = some (f i.toNat) := at_nat h0 (by
  have hl : i.toNat < m := by omega
  simp [rg, hl])
theorem at_last {α : Type} {xs : List α} {x : α} : atI (xs ++ [x]) (-1) = some x := by
  unfold atI ixN
  rw [if_neg (by omega), List.length_append, if_pos (by simp; omega)]
  have e : (-1 + ((xs.length + [x].length : Nat) : Int)).toNat = xs.length := by simp; omega
  show (xs ++ [x])[(-1 + ((xs.length + [x].length : Nat) : Int)).toNat]? = some x
  rw [e]; simp
theorem at_ints {ns : List Int} {i : Int} (h0 : 0 ≤ i) (h1 : i < ns.length) : ∃ n, n ∈ ns ∧ ns[i.toNat]? = some n ∧ atI (ns.map PyData.int) i = some (.int n) := by
  have hl : i.toNat < ns.length := by omega
  refine ⟨ns[i.toNat], List.getElem_mem hl, by simp [hl], at_nat h0 (by simp [hl])⟩
/-! parts of slices, comprehensions over lists -/
theorem wp_none {X : Cx} {g : G} {env : List Sl} {Φ : Option Int → Prop} {Ψ : Exc → Prop} (h : Φ none) : WP X g none env Φ Ψ := h
theorem wp_e {X : Cx} {g : G} {env : List Sl} {e : Expr} {Φ : Option Int → Prop} {Ψ : Exc → Prop} (h : WE X g e env (fun d _ => ∃ i, d = .int i ∧ Φ (some i)) Ψ) : WP X g (some e) env Φ Ψ := h
theorem cut_le {α : Type} (xs : List α) (k : Int) (h0 : 0 ≤ k) (h : (xs.length : Int) ≤ k) : cut xs none (some k) = xs := by
  unfold cut HT.sIx
  have e : ¬ k < 0 := by omega
  simp only [e, if_false]
  rw [List.drop_zero, Nat.min_eq_right (by omega), Nat.sub_zero, List.take_length]
theorem ints_get {ns : List Int} {i : Nat} {x : PyData} (h : (ns.map PyData.int)[i]? = some x) : ∃ n, x = .int n ∧ ns[i]? = some n := by
  obtain ⟨n, h1, h2⟩ := map_get h
  exact ⟨n, h2.symm, h1⟩
theorem tk_succ {α : Type} {ns : List α} {i : Nat} {n : α} (f : α → PyData) (h : ns[i]? = some n) : (ns.take i).map f ++ [f n] = (ns.take (i + 1)).map f := by
  rw [List.take_succ, h]
  simp
/-! pairs of numbers -/
def ppD (p : Int × Int) : PyData := .tuple [.int p.1, .int p.2]
theorem pairs_alike (ps : List (Int × Int)) : PySem.W.AllAlike (ps.map ppD) := fun d hd d' hd' => by
  obtain ⟨p, _, rfl⟩ := List.mem_map.mp hd
  obtain ⟨q, _, rfl⟩ := List.mem_map.mp hd'
  rfl
theorem pairs_sortable (ps : List (Int × Int)) : PySem.W.Sortable (ps.map ppD) := .inl fun d hd => by
  obtain ⟨p, _, rfl⟩ := List.mem_map.mp hd
  exact ⟨_, _, rfl⟩
theorem pairs_depth (ps : List (Int × Int)) : ∀ d ∈ ps.map ppD, SeqAt.shaped d = true := fun d hd => by
  obtain ⟨p, _, rfl⟩ := List.mem_map.mp hd
  rfl
section
variable {Φ : PyData → Bool → Prop} {m : Nat} {f : Nat → PyData} {k : Int} {z1 z2 : Bool}
theorem ix_rg (h0 : 0 ≤ k) (h1 : k < m) (h : Φ (f k.toNat) true) : IxP Φ (.list (rg m f)) z1 (.int k) z2 := .lst h (at_rg h0 h1)
theorem ix_lst (h0 : 0 ≤ k) {xs : List PyData} {x : PyData} (h : xs[k.toNat]? = some x) (hp : Φ x true) : IxP Φ (.list xs) z1 (.int k) z2 := .lst hp (at_nat h0 h)
theorem ix_tup (h0 : 0 ≤ k) {xs : List PyData} {x : PyData} (h : xs[k.toNat]? = some x) (hp : Φ x true) : IxP Φ (.tuple xs) z1 (.int k) z2 := .tup hp (at_nat h0 h)
def isInt : PyData → Bool
  | .int _ => true
  | _ => false
/-- an item of a row of ints, any -/
theorem ix_any (n : Nat) (h0 : 0 ≤ k) (h1 : k < n) {xs : List PyData} (hp : ∀ n, Φ (.int n) true) (hn : xs.length = n := by rfl) (hx : xs.all isInt = true := by rfl) : IxP Φ (.list xs) z1 (.int k) z2 := by
  have hl : k.toNat < xs.length := by omega
  have hi := List.all_eq_true.mp hx _ (List.getElem_mem hl)
  obtain ⟨v, hv⟩ : ∃ v, xs[k.toNat] = .int v := by
    cases e : xs[k.toNat] with
    | int v => exact ⟨v, rfl⟩
    | _ => rw [e] at hi; cases hi
  exact .lst (hp v) (at_nat h0 (by rw [← hv]; simp [hl]))
/-- a power of literals -/
theorem powP {i j v : Int} (hv : i ^ j.toNat = v) (h : Φ (.int v) true) (hc : CPow i j) : IntP CPow (fun i j => i ^ j.toNat) Φ (.int i) z1 (.int j) z2 := ⟨by rw [hv]; exact h, hc⟩
theorem ix_ints (h0 : 0 ≤ k) {ns : List Int} (h1 : k < ns.length) (hp : ∀ n ∈ ns, Φ (.int n) true) : IxP Φ (.list (ns.map .int)) z1 (.int k) z2 := by
  obtain ⟨n, q1, _, q2⟩ := at_ints h0 h1
  exact .lst (hp n q1) q2
end

/-! the end: a law's def, by a contract whose ways may be left by own classes -/
theorem walk_x {l : PySem.W.OpenLaw} {m j : Nat} {q : Program} {lo : List Str} {XP : (Str → Option Value) → Heap → Prop} {YP : World → Heap → Prop} {d : DefRec} {x : Str} (h1 : l.most = some m) (h2 : m ≤ sizeLine) (h3 : d.params.defaults = []) (h4 : Room j callerA)
    (h : ∀ (u : World) (mg : Str → Option Value) (a : Addr) (hp : Heap), YP u hp → hp.Ns mainGlobals mg → mg d.name = some (.ref a) → ∃ (K : PySem.W.Frag) (fd : FuncData) (S : Sp), K.In hp ∧ (∀ (s : Shared) (y : Value), BindsTo s fd ⟨[y], []⟩ [(x, y)]) ∧
      (∀ (H : Hp) (b : Addr) (ns : List Int), ns.length ≤ m → SqL K H b (ns.map V.int) → S [.ref b] H (fun v _ => v = .bl true) fun _ _ _ => False) ∧ ∀ bs : Heap, K.In bs → bs.Ns mainGlobals mg → FnOk l.prog u K mg bs (L2.CX l.prog u) j a fd [x] S) :
    PySem.W.WalkO q lo XP YP l.row.toRowW d [] (fun f vs => PySem.call f vs) := by
  refine Att.attach_callB h1 h3 fun u t0 t1 mg mb a o pm cd dc b vs ns G Y ho hd hcd hmg hob hin hle _ hg => ?_
  obtain ⟨K, fd, S, KX, hb, hS, hF⟩ := h u mg a _ Y G.T.g hmg
  have hl2 := Nat.le_trans hle h2
  have T := G.T
  refine law_call KX T.g T.b T.builtins T.nolimit hg hob hin hl2 h4 hF hb (fun H _ hs => hS H b ns hle hs) fun H e t z => ?_
  obtain ⟨_, _, _, _, _, _, _, _, _, _, _, _, z⟩ := z
  exact z
theorem exk_of {K : Frag} {mg : Str → Option Value} {x : Str} (g : mg x = some (.ref (He.ga K x))) (h : PySem.W.excIn K (He.ga K x) He.veBase "ValueError.__new__" = true ∧ PySem.W.keepIn K (.ref (He.ga K x)) = true ∧ PySem.W.subIn K (.ref (He.ga K x)) (.type "BaseException") = some true ∧ PySem.W.typeIn K (.ref (He.ga K x)) = some (.type "type")) : ExK K mg x := ⟨g, h.1, h.2.1, h.2.2.1, h.2.2.2⟩
theorem Has.mono {P : Program} {w : World} {K : Frag} {mg : Str → Option Value} {base : Heap} {j k : Nat} {x : Str} {ps : List Str} {S : CT} (h : Has P w K mg base j x ps S) (le : j ≤ k) : Has P w K mg base k x ps S := by
  obtain ⟨f, fd, h1, h2, h3, h4⟩ := h.ex
  exact ⟨f, fd, h1, h2, h3, h4.mono le⟩
end TL

/-! enumerate over a tuple -/
namespace TL
open PySem PySem.Spec PyProof.Rows L2
theorem enu_new {v : Value} {o : Obj} {D : Heap → Prop} (B : Begins v o D) : Meets (Builtin.«enumerate.__new__» ⟨[.type "enumerate", v], []⟩) (fun _ R z => D z.heap ∧
    R (.ok (.ret (.ref (z.heap.push o).objs.size))) { z with heap := (z.heap.push o).push { cls := .type "enumerate", data := .fields #[.none, .bool false, .ref z.heap.objs.size, rawInt 0, .none, .none] } }) :=
  .of_wp fun prog w A R z y => by
    obtain ⟨h0, g0, d0, t0, o0⟩ := z
    obtain ⟨y1, y2⟩ := y
    have sb := sub_enumerate
    have go : ∀ {A' : Around} {E : Value → Shared → Prop} {Q : Value → Shared → Prop}, Q (.ref h0.objs.size) ⟨h0.push o, g0, d0, t0, o0⟩ → wpAny (model prog w) A' (pyIter v) Q E ⟨h0, g0, d0, t0, o0⟩ := fun q => B.iter prog w _ _ _ _ y1 q
    wp_walk using go
    refine wpAny_stack_any fun _ => wpAny_pure ?_
    split
    · rename_i cc _ _ _ _ _
      cases (cc == Value.type "enumerate")
      all_goals
        wp_walk using go
        exact ⟨_, rfl, y2⟩
    · wp_walk using go
      exact ⟨_, rfl, y2⟩
theorem enu_call {prog : Program} {w : World} {A : Around} {E : Value → Shared → Prop} {z : Shared} {v : Value} {o : Obj} {D : Heap → Prop} {Q : Value → Shared → Prop} (B : Begins v o D) (y : D z.heap)
    (k : ∀ h', IsEnum h' (z.heap.objs.size + 1) z.heap.objs.size 0 .none → h'.get? z.heap.objs.size = some o → (∀ b u, z.heap.get? b = some u → h'.get? b = some u) → Q (.ref (z.heap.objs.size + 1)) { z with heap := h' }) :
    wpAny (model prog w) A (call (.type "enumerate") [v]) Q E z := by
  refine callType_new F.called_enumerate (by decide) (F.typeCall_enumerate_1 _) (F.newCall_enumerate_1 _) (fun u => F.args_object_init_2 u _) F.entry_enumerate_new (enu_new B) ⟨y, ?_⟩
  have sz : (z.heap.push o).objs.size = z.heap.objs.size + 1 := Heap.size_push ..
  show _ ∧ _
  rw [sz]
  have en : IsEnum ((z.heap.push o).push { cls := .type "enumerate", data := .fields #[.none, .bool false, .ref z.heap.objs.size, rawInt 0, .none, .none] }) (z.heap.objs.size + 1) z.heap.objs.size 0 .none := by
    have u := Heap.get?_push_size (z.heap.push o) (o := { cls := .type "enumerate", data := .fields #[.none, .bool false, .ref z.heap.objs.size, rawInt 0, .none, .none] }) rfl
    rw [sz] at u
    exact u
  exact ⟨⟨_, en, rfl⟩, k _ en (Heap.get?_push_of_some _ (Heap.get?_push_size _ B.free)) fun b u x => Heap.get?_push_of_some _ (Heap.get?_push_of_some _ x)⟩
/-- the tuple at a, each item in a new pair -/
def EnT (K : PySem.W.Frag) (a : Addr) : It :=
  ⟨fun i H => ∃ (vs : List V) (v : V), SqT K H a vs ∧ vs[i]? = some v, fun i H u H' => ∃ p v, u = .ref p ∧ H p = none ∧ H' = upd H p (.tup [.int (i : Nat), v]) ∧ ∀ vs, SqT K H a vs → vs[i]? = some v, fun i H => ∃ vs : List V, SqT K H a vs ∧ vs.length = i⟩
theorem turn_en {P : Program} {w : World} {K : PySem.W.Frag} {elts : List Expr} {kk : Nat} {tpos : Pos} (a e it : Addr) :
    Turn P w K (.Tuple elts kk tpos) (EnT K a) [e, it] e (fun i h => (∃ old, IsEnum h e it ((i : Nat) : Int) old) ∧ h.IsTupleIter it a i ∧ e ≠ it) where
  mem := by simp
  obj := fun i h q b hb => by
    obtain ⟨⟨old, en⟩, ⟨o, o1, o2, o3⟩, _⟩ := q
    have hb2 : b = e ∨ b = it := by simpa using hb
    rcases hb2 with rfl | rfl
    · exact ⟨_, en, fun v q => nomatch q⟩
    · exact ⟨o, o1, fun v q => by rw [o3] at q; cases q⟩
  keep := fun i h h' q k => by
    obtain ⟨⟨old, en⟩, ⟨o, o1, o2⟩, ne⟩ := q
    exact ⟨⟨old, k e (by simp) _ en⟩, ⟨o, k it (by simp) _ o1, o2⟩, ne⟩
  item := by
    intro X hP hw hK hc i pins s σ H E I fps st go
    subst hP hw hK
    obtain ⟨⟨old, en⟩, ti, ne⟩ := st
    obtain ⟨vs, v, sq, hv⟩ := go
    obtain ⟨its, rv, pt, hz⟩ := I.tuple sq
    obtain ⟨u, hu, ru⟩ := rv.get hv
    have lte : e < s.heap.objs.size := Heap.lt_size en
    have lti : it < s.heap.objs.size := by obtain ⟨_, q, _⟩ := ti; exact Heap.lt_size q
    have ani : a ≠ it := fun z => by
      obtain ⟨o, q1, q2, _⟩ := ti
      obtain ⟨o', q3, q4, _⟩ := pt
      rw [z, q1] at q3
      cases q3
      rw [q2] at q4
      exact absurd q4 (by decide)
    obtain ⟨f0, f1, f2, f3, f4, f5⟩ := fps it (by simp)
    have hlt : i < its.toArray.size := by
      have := (List.getElem?_eq_some_iff.mp hu).1
      simpa using this
    have ane : a ≠ e := fun z => by
      obtain ⟨o', q3, q4, _⟩ := pt
      have en' : s.heap.get? e = some _ := en
      rw [z, en'] at q3
      cases q3
      exact absurd q4 (by show ¬ (Value.type "enumerate" = Value.type "tuple"); decide)
    refine wpAny_pyNext_enum_itemD (Draws.tuple (show X.A.in1.handled = none from I.ok.hd hc) it a ani its.toArray) en ⟨ti, pt⟩ hlt ne (by
      intro hm
      have hm2 : e = it ∨ e = a := by simpa using hm
      rcases hm2 with z | z
      · exact ne z
      · exact ane z.symm) fun x h' tk hx eo st' hT hsz keep => ?_
    have xu : x = u := by
      have hx' : its[i]? = some x := by simpa using hx
      rw [hu] at hx'
      exact (Option.some.inj hx').symm
    subst xu
    refine ⟨_, rfl, wpAny_letOwnedTupleGo_enum (s := { s with heap := h', toks := tk + 1 }) eo fun h2 en2 sb => ?_⟩
    have hT2 : h2.get? s.heap.objs.size = some { cls := .type "tuple", data := .seq #[.int i tk, x] } := (sb.2 _ (Nat.ne_of_gt lte)).trans hT
    have nw : ObjOk X.prog X.w (upd H s.heap.objs.size (.tup [.int (i : Nat), v])) h2 s.heap.objs.size (.tup [.int (i : Nat), v]) := ⟨by show 2 ≤ sizeLine; decide, [.int i tk, x], .cons ⟨_, rfl⟩ (.cons ru .nil), ⟨_, hT2, rfl, _, rfl⟩⟩
    have I2 : Inv X pins σ (upd H s.heap.objs.size (.tup [.int (i : Nat), v])) { s with heap := h2, toks := tk + 1 } :=
      I.turnedNew (ch := [e, it]) (fun b ob hb q => (sb.2 b fun z => hb (by simp [z])).trans (keep b ob (fun z => hb (by simp [z])) (fun z => hb (by simp [z])) q)) fps (Nat.le_refl _) nw
    refine ⟨.ref s.heap.objs.size, _, I2, rfl, ⟨_, v, rfl, I.hok.fresh (Nat.le_refl _), rfl, fun ys hy => by rw [I.tuple_inj hy sq]; exact hv⟩, ⟨⟨x, ?_⟩, ?_, ne⟩, fun b hb => ?_⟩
    · rw [show ((i + 1 : Nat) : Int) = (i : Int) + 1 by omega]
      exact en2
    · obtain ⟨o, q1, q2⟩ := st'.1
      exact ⟨o, (sb.2 it (Ne.symm ne)).trans q1, q2⟩
    · have hb2 : b = e ∨ b = it := by simpa using hb
      have lb : b < s.heap.objs.size := by
        rcases hb2 with rfl | rfl
        · exact lte
        · exact lti
      rw [upd_ne (Nat.ne_of_lt lb)]
      exact (fps b hb).1
  done := by
    intro X hP hw hK hc i pins s σ H E I fps st go
    subst hP hw hK
    obtain ⟨⟨old, en⟩, ti, ne⟩ := st
    obtain ⟨vs, sq, hv⟩ := go
    obtain ⟨its, rv, pt, hz⟩ := I.tuple sq
    obtain ⟨f0, f1, f2, f3, f4, f5⟩ := fps it (by simp)
    have ani : a ≠ it := fun z => by
      obtain ⟨o, q1, q2, _⟩ := ti
      obtain ⟨o', q3, q4, _⟩ := pt
      rw [z, q1] at q3
      cases q3
      rw [q2] at q4
      exact absurd q4 (by decide)
    have hl := rv.length
    have hn : its.toArray.size = i := by simp; omega
    subst hn
    refine wpAny_pyNext_enum_endD (Draws.tuple (show X.A.in1.handled = none from I.ok.hd hc) it a ani its.toArray) en ⟨ti, pt⟩ fun h' eb => ⟨rfl, I.turned (t' := s.toks) (fun b o hb q => eb b o hb q) f0 f1 f3 f4 f5⟩
  self := fun A i s Q E q h => by
    obtain ⟨⟨_, en⟩, _⟩ := q
    exact wpAny_pyIter_enum en h
def iEnT (K : PySem.W.Frag) (ta : TA) : TI := fun σ H R => ta σ H fun vs H1 => ∃ a xs, vs = [.ref a] ∧ SqT K H1 a xs ∧ R (EnT K a) H1
theorem pi_enT {X : Cx} {e : Expr} {ta : TA} {p pos tpos : Pos} {elts : List Expr} {kk : Nat} (hg : Gl X "enumerate") (hm : X.mg "enumerate" = none) (ha : PA X [e] ta) (hs : starEach [e] X.env = [(false, eval e X.env)] := by rfl) :
    PI X (.Tuple elts kk tpos) (.Call (.Name "enumerate" p) [e] [] pos) (iEnT X.K ta) := by
  refine ⟨fun pins z σ H R I h => ?_⟩
  refine Call_ (ld_blt I hg hm boot_enumerate (PyProof.Rows.callWith_type1 (thn (ha.run pos pins z σ H _ I h) fun us z1 ⟨vs, H1, I1, r1, q1⟩ => ?_) hs rfl))
  obtain ⟨a, xs, rfl, sq, q⟩ := q1
  cases r1 with
  | cons r rr =>
    cases rr
    cases r
    obtain ⟨its, rv, pt, _⟩ := I1.tuple sq
    refine enu_call (begins_tuple a its.toArray) pt fun h' en iv keep => wpAny_pyIter_enum en ?_
    have I2 : Inv X pins σ H1 { z1 with heap := h' } := I1.kept (t' := z1.toks) keep
    refine ⟨z1.heap.objs.size + 1, [z1.heap.objs.size + 1, z1.heap.objs.size], _, _, H1, rfl, I2, turn_en a (z1.heap.objs.size + 1) z1.heap.objs.size, ⟨⟨.none, en⟩, ⟨_, iv, rfl, rfl⟩, Nat.succ_ne_self _⟩, fun b hb => ?_, q⟩
    have hb2 : b = z1.heap.objs.size + 1 ∨ b = z1.heap.objs.size := by simpa using hb
    have le : z1.heap.objs.size ≤ b := by
      rcases hb2 with rfl | rfl
      · exact Nat.le_add_right _ _
      · exact Nat.le_refl _
    exact I1.fpOk le (I1.hok.fresh le)
section
variable {K : PySem.W.Frag} {a : Addr} {xs : List V}
theorem walk_enT : Walk (EnT K a) xs.length (fun H => SqT K H a xs) (YPair (fun i => some (.int (i : Nat))) fun i => xs[i]?) := by
  refine ⟨fun i _ hi q => ⟨xs, xs[i], q, by simp [hi]⟩, fun _ q => ⟨xs, q, rfl⟩, fun i H v H' _ q y => ?_⟩
  obtain ⟨p, u, y1, y2, y3, y4⟩ := y
  exact ⟨p, _, u, y1, y2, y3, rfl, y4 xs q⟩
end
end TL

namespace TL
open PySem PySem.Spec PyProof.Rows L2
section
variable {X : Cx} {g : G} {env env' : List Sl} {Ψ : Exc → Prop} {P : Po} {pos p p2 p3 : Pos} {a b c e : Expr} {es : List Expr} {rest body : List Stmt} {K : Frag} {F F' H H' : Hp} {σ σ' : SS}
/-! ### isinstance -/
def tyN : PyData → String
  | .none => "NoneType"
  | .bool _ => "bool"
  | .int _ => "int"
  | .str _ => "str"
  | .list _ => "list"
  | .tuple _ => "tuple"
  | .dict _ => "dict"
def isTyB (T : String) (d : PyData) : Bool := match d with
  | .dict ((.bool true, _) :: _) => false
  | d => (kitB (tyN d) T).getD false
def kitOk (T : String) : Bool := (kitTys.all fun t => (kitB t T).isSome) && kitTys.contains T
theorem kitB_some (T : String) (d : PyData) (h : kitOk T = true) : kitB (tyN d) T = some ((kitB (tyN d) T).getD false) := by
  have m : tyN d ∈ kitTys := by cases d <;> simp [tyN, kitTys]
  have q := List.all_eq_true.mp (Bool.and_eq_true_iff.mp h).1 _ m
  cases e : kitB (tyN d) T with
  | none => rw [e] at q; cases q
  | some r => rfl
theorem tyx_of {z : Bool} {v : V} {d : PyData} (st : Sk K F H σ env) (h : Rd K F env z v d) : ∃ t, TyX K H v t ∧ ∀ T, kitOk T = true → PySem.W.kitOne K t (.type T) = some (isTyB T d) := by
  have h := rd_now st h
  cases h with
  | non => exact ⟨_, .base .non, fun T hT => kit_ty (kitB_some T .none hT)⟩
  | bl b => exact ⟨_, .base (.bl b), fun T hT => kit_ty (kitB_some T (.bool b) hT)⟩
  | int i => exact ⟨_, .base (.int i), fun T hT => kit_ty (kitB_some T (.int i) hT)⟩
  | str s => exact ⟨_, .base (.str s), fun T hT => kit_ty (kitB_some T (.str s) hT)⟩
  | @lst a xs ds s _ =>
    rcases s with s | ⟨o, _, _, s, q, _⟩
    · rcases s with s | ⟨o, s⟩
      · exact ⟨_, .base (.lst s), fun T hT => kit_ty (kitB_some T (.list ds) hT)⟩
      · exact ⟨_, .base (.frz s), fun T hT => kit_ty (kitB_some T (.list ds) hT)⟩
    · exact ⟨_, .kList s q, fun T hT => kit_ty (kitB_some T (.list ds) hT)⟩
  | @tup a xs ds s _ => exact ⟨_, .base (.tup s), fun T hT => kit_ty (kitB_some T (.tuple ds) hT)⟩
  | @dct a vs kvs s _ => exact ⟨_, .base (.dT s), fun T hT => kit_ty (kitB_some T (.dict ((.none, .none) :: kvs)) hT)⟩
  | @dck a vs kvs s hk =>
    refine ⟨_, .base (.dK s), fun T hT => ?_⟩
    have e : isTyB T (.dict kvs) = (kitB "dict" T).getD false := by
      cases hk with
      | nil => rfl
      | @cons k _ _ _ _ _ _ => cases k <;> rfl
    rw [e]
    exact kit_ty (kitB_some T (.dict kvs) hT)
  | ins hk s _ => exact ⟨_, .base (.ins s hk.cls hk.c1 hk.c2 hk.c3 hk.c4), fun T hT => hk.kit T (by simpa using (Bool.and_eq_true_iff.mp hT).2)⟩
theorem pa_ty {T : String} {y : Str} (hm : X.mg y = none) (hv : bootBuiltins y = some (.type T)) (hg : Gl X y) (hn : y ≠ "__name__" := by decide) (hd : (y == ("__debug__" : Str)) = false := by decide) : PE X (.Name y p) (tC (.ty T)) := pe_bltn hg hm hv rfl hn hd
theorem we_isi (T : String) {y : Str} {Φ : PyData → Bool → Prop} (hm : X.mg "isinstance" = none) (hy : X.mg y = none) (h : WE X g a env (fun d _ => Φ (.bool (isTyB T d)) true) Ψ) (hv : bootBuiltins y = some (.type T) := by decide +kernel) (hg2 : Gl X y := by rfl)
    (hk : kitOk T = true := by decide +kernel) (hn : y ≠ "__name__" := by decide) (hd : (y == ("__debug__" : Str)) = false := by decide) (hg : Gl X "isinstance" := by rfl)
    (he : starEach [a, .Name y p2] X.env = (false, eval a X.env) :: starEach [.Name y p2] X.env := by rfl) (he2 : starEach [.Name y p2] X.env = (false, eval (.Name y p2) X.env) :: starEach [] X.env := by rfl) (hpl : (backTo pos (starEach [.Name y p2] X.env)).any (·.1) = false := by rfl) :
    WE X g (.Call (.Name "isinstance" p) [a, .Name y p2] [] pos) env Φ Ψ := fun W tk σ F H st hx Q hQ => by
  refine semE_of (pe_callB call_isi hg hm boot_isinstance (pa_cons (peS a) (pa_cons (pa_ty hy hv hg2 hn hd) pa_nil he2) he) (by decide) (by decide) he hpl) ?_
  refine h W tk σ F H st hx _ fun d1 z1 v1 F1 H1 h1 st1 e1 r1 => ?_
  obtain ⟨t, y1, y2⟩ := tyx_of st1.toSk r1
  exact ⟨v1, .ty T, t, .type T, isTyB T d1, rfl, .ty T, y1, y2 T hk, hQ _ true _ F1 H1 h1 st1 e1 (.bl _)⟩
/-- isinstance(x, (list, tuple)) -/
theorem we_isiLT {Φ : PyData → Bool → Prop} {p4 : Pos} {x1 : Nat} (hm : X.mg "isinstance" = none) (hl : X.mg "list" = none) (ht : X.mg "tuple" = none) (h : WE X g a env (fun d _ => Φ (.bool (isTyB "list" d || isTyB "tuple" d)) true) Ψ)
    (hg : Gl X "isinstance" := by rfl) (hgl : Gl X "list" := by rfl) (hgt : Gl X "tuple" := by rfl)
    (he : starEach [a, .Tuple [.Name "list" p2, .Name "tuple" p3] x1 p4] X.env = (false, eval a X.env) :: starEach [.Tuple [.Name "list" p2, .Name "tuple" p3] x1 p4] X.env := by rfl)
    (he2 : starEach [.Tuple [.Name "list" p2, .Name "tuple" p3] x1 p4] X.env = (false, eval (.Tuple [.Name "list" p2, .Name "tuple" p3] x1 p4) X.env) :: starEach [] X.env := by rfl)
    (hpl : (backTo pos (starEach [.Tuple [.Name "list" p2, .Name "tuple" p3] x1 p4] X.env)).any (·.1) = false := by rfl)
    (he3 : starEach [.Name "list" p2, .Name "tuple" p3] X.env = (false, eval (.Name "list" p2) X.env) :: starEach [.Name "tuple" p3] X.env := by rfl) (he4 : starEach [.Name "tuple" p3] X.env = (false, eval (.Name "tuple" p3) X.env) :: starEach [] X.env := by rfl) :
    WE X g (.Call (.Name "isinstance" p) [a, .Tuple [.Name "list" p2, .Name "tuple" p3] x1 p4] [] pos) env Φ Ψ := fun W tk σ F H st hx Q hQ => by
  refine semE_of (pe_callB call_isiT hg hm boot_isinstance (pa_cons (peS a) (pa_cons (pe_tup (pa_cons (pa_ty (T := "list") hl (by decide +kernel) hgl) (pa_cons (pa_ty (T := "tuple") ht (by decide +kernel) hgt) pa_nil he4) he3)) pa_nil he2) he) (by decide) (by decide) he hpl) ?_
  refine h W tk σ F H st hx _ fun d1 z1 v1 F1 H1 h1 st1 e1 r1 => ?_
  refine ⟨by decide, fun tp hn => ?_⟩
  have st2 := st1.allocF (o := .tup [.ty "list", .ty "tuple"]) hn
  have hF : F1 tp = none := st1.ex.none hn
  obtain ⟨t, y1, y2⟩ := tyx_of st2.toSk (rd_mono (Ex.new hF) r1)
  refine ⟨v1, tp, [.ty "list", .ty "tuple"], t, [.type "list", .type "tuple"], isTyB "list" d1 || isTyB "tuple" d1, rfl, upd_same, .cons (.ty _) (.cons (.ty _) .nil), y1, ?_, hQ _ true _ _ _ h1 st2 (e1.trans (Ex.new hF)) (.bl _)⟩
  refine kitAny_cons (y2 "list" (by decide +kernel)) (fun q => ?_) fun q => by rw [q]; rfl
  rw [q, Bool.false_or]
  refine kitAny_cons (y2 "tuple" (by decide +kernel)) (fun q => ?_) fun q => q
  rw [q]
  rfl
/-! ### slices of tuples and texts -/
theorem cut_whole {α : Type} {xs : List α} {lo hi : Option Int} (h : HT.sIx xs.length 0 lo = 0 ∧ HT.sIx xs.length xs.length hi = xs.length) : cut xs lo hi = xs := by
  unfold cut
  rw [h.1, h.2, List.drop_zero, Nat.sub_zero, List.take_length]
theorem we_sliceT {lo hi : Option Expr} {Φ : PyData → Bool → Prop} (h : WE X g a env (fun d1 _ => ∃ xs, d1 = .tuple xs ∧ WP X g lo env (fun l => WP X g hi env (fun u => Φ (.tuple (cut xs l u)) true) Ψ) Ψ) Ψ) : WE X g (.Subscript a (.Slice lo hi none p2) pos) env Φ Ψ := fun W tk σ F H st hx Q hQ => by
  refine semE_of (pe_slice sl_tupA (peS a) (poS lo) (poS hi)) ?_
  refine h W tk σ F H st hx _ fun d1 z1 v1 F1 H1 ⟨xs, hd, h1⟩ st1 e1 r1 => ?_
  subst hd
  refine wp_run h1 tk st1 hx fun l F2 H2 h2 st2 e2 => wp_run h2 tk st2 hx fun u F3 H3 h3 st3 e3 => ?_
  obtain ⟨a1, vs1, rfl, s1, p1⟩ := rd_tup st3.toSk (rd_mono (e2.trans e3) r1)
  refine ⟨a1, vs1, rfl, s1, fun hw => ?_, fun hw q hq => ?_⟩
  · have hw' : HT.sIx xs.length 0 l = 0 ∧ HT.sIx xs.length xs.length u = xs.length := by rw [← dpa_len p1]; exact hw
    rw [cut_whole hw'] at h3
    refine hQ _ true _ F3 H3 h3 st3 ((e1.trans e2).trans e3) ?_
    have := rd_mono (e2.trans e3) r1
    cases z1 with
    | true => exact this
    | false => obtain ⟨_, _, _, _, e⟩ := this; cases e
  · exact put_tup st3 hq (dpa_cut p1 l u) h3 fun d z v F' H' hp s e r => hQ d z v F' H' hp s (((e1.trans e2).trans e3).trans e) r
theorem we_sliceS {lo hi : Option Expr} {Φ : PyData → Bool → Prop} (h : WE X g a env (fun d1 _ => ∃ z, d1 = .str z ∧ z.length ≤ sizeLine ∧ WP X g lo env (fun l => WP X g hi env (fun u => Φ (.str (cutS z l u)) true) Ψ) Ψ) Ψ) : WE X g (.Subscript a (.Slice lo hi none p2) pos) env Φ Ψ := fun W tk σ F H st hx Q hQ => by
  refine semE_of (pe_slice sl_str (peS a) (poS lo) (poS hi)) ?_
  refine h W tk σ F H st hx _ fun d1 z1 v1 F1 H1 ⟨z, hd, hz, h1⟩ st1 e1 r1 => ?_
  subst hd
  refine wp_run h1 tk st1 hx fun l F2 H2 h2 st2 e2 => wp_run h2 tk st2 hx fun u F3 H3 h3 st3 e3 => ?_
  exact ⟨z, rd_str r1, hz, hQ _ true _ F3 H3 h3 st3 ((e1.trans e2).trans e3) (.str _)⟩
/-! ### for i, x in enumerate(..) -/
theorem for_turn2 {t : TG} {A : PyData → Option (List (Nat × PyData))} {F1 F : Hp} {Pv : Nat → List Sl → Prop} {i : Nat} {x : PyData} {v : V} {D : Ends} {W : WX} (tk : Takes X W) (hx2 : XOk X g P W) (hD : DOk X g F1 P D) (htd : TGd X.K t A) (hv : Dq X.K F v x) (s1 : St X.K g F H σ env) (e1 : Ex F1 F) (hp : Pv i env) (h : FT X g body A P Pv i x) :
    t v σ H fun σ2 H2 => semS X body { D with nx := FJ X.K g F1 Pv (i + 1), ct := FJ X.K g F1 Pv (i + 1), bk := D.nx } σ2 H2 := by
  obtain ⟨l, hA, hl, hw⟩ := h env hp
  refine htd x l σ F H v _ hA s1.ex hv fun r sr => ?_
  have s2 := s1.sets sr fun q hq => ltB (List.all_eq_true.mp hl q hq)
  exact hw W tk hx2 _ F H s2 _ ⟨fun e2 σ' F' H' q s' ex => ⟨F', e2, s', e1.trans ex, q⟩, hD.rt, fun e2 σ' F' H' q s' ex => hD.nx e2 σ' F' H' q s' (e1.trans ex), fun e2 σ' F' H' q s' ex => ⟨F', e2, s', e1.trans ex, q⟩⟩
theorem w1_forE {elts : List Expr} {kk : Nat} {tpos p1 : Pos} {t : TG} {A : PyData → Option (List (Nat × PyData))} (hm : X.mg "enumerate" = none) (hp : PassesOwn (model X.prog X.w) X.A X.env X.xe) (hc : X.calm = true) (hpg : PG X (.Tuple elts kk tpos) t) (htd : TGd X.K t A)
    (hi : WE X g a env (fun d z => z = true ∧ ∃ (xs : List PyData) (Pv : Nat → List Sl → Prop), d = .tuple xs ∧ Pv 0 env ∧ (∀ i x, xs[i]? = some x → FT X g body A P Pv i (.tuple [.int i, x])) ∧ ∀ e, Pv xs.length e → P.nx e) (fun c => P.ex c env))
    (hs : ∀ x, foldedSetIterable (.Call (.Name "enumerate" p1) [a] [] p2) X.env x = pure x := by intro _; rfl) (hg : Gl X "enumerate" := by rfl) (he : starEach [a] X.env = [(false, eval a X.env)] := by rfl) : W1 X g (.For (.Tuple elts kk tpos) (.Call (.Name "enumerate" p1) [a] [] p2) body [] pos) env P := fun W tk hx2 σ F H s0 D hD => by
  refine semP_of (ps_for hp hc (pi_enT hg hm (pa_cons (peS a) pa_nil (by rw [he]; rfl)) he) hpg (pssS body) hs) ?_
  refine hi W tk σ F H s0 (hx2.hx env σ) _ fun d z v F1 H1 ⟨hz, xs, Pv, hd, p0, pt, pe⟩ s1 e1 rd => ?_
  subst hz hd
  obtain ⟨al, vs, rfl, hsq, hda⟩ := dp_tup rd
  refine ⟨al, vs, rfl, ex_t s1.ex hsq, ?_⟩
  refine for_it walk_enT (FJ X.K g F1 Pv) ⟨F1, env, s1, Ex.refl F1, p0⟩ (fun i σ' H' _ ⟨F2, e2, s2, ex2, _⟩ => ex_t s2.ex (ex_t ex2 hsq)) (fun i u σ' H2 H3 hlt hJ hy => ?_) (fun σ' H' ⟨F2, e2, s2, ex2, hp2⟩ => ?_)
  · obtain ⟨T, x, y, rfl, hn, rfl, hx, hy⟩ := hy
    have hx' := Option.some.inj hx
    subst hx'
    obtain ⟨d, hd1, hd2⟩ := dpa_of hda hy
    obtain ⟨F2, e2, s2, ex2, hp2⟩ := hJ
    have hF : F2 T = none := s2.ex.none hn
    exact for_turn2 tk hx2 (hD.mono e1) htd (.tup upd_same (.cons (.int _) (.cons (dp_mono (ex2.trans (Ex.new hF)) _ _ hd2) .nil))) (s2.allocF hn) (ex2.trans (Ex.new hF)) hp2 (pt i d hd1)
  · rw [dpa_len hda] at hp2
    exact hD.nx e2 σ' F2 H' (pe e2 hp2) s2 (e1.trans ex2)
end
end TL

namespace TL
open PySem PySem.Spec PyProof.Rows L2
/-! calls that change what they are handed; calls with a new empty list as the last argument -/
def backE (env : List Sl) : List Ar → List Sl → List Sl
  | .s i :: as, s :: ss => (backE env as ss).set i s
  | .d _ :: as, _ :: ss => backE env as ss
  | _, _ => env
section
variable {X : Cx} {g : G} {env env' : List Sl} {Ψ : Exc → Prop} {P : Po} {pos p lp : Pos} {a b c e : Expr} {es : List Expr} {rest body : List Stmt} {K : Frag} {F F' H H' : Hp} {σ σ' : SS}
theorem backE_len : ∀ (as : List Ar) (ss : List Sl), (backE env as ss).length = env.length
  | .s i :: as, s :: ss => by rw [backE, List.length_set, backE_len as ss]
  | .d _ :: as, _ :: ss => backE_len as ss
  | [], _ => rfl
  | .s _ :: _, [] => rfl
  | .d _ :: _, [] => rfl
theorem backE_out : ∀ {as : List Ar} {ss : List Sl} {i : Nat}, i ∉ arIx as → (backE env as ss)[i]? = env[i]?
  | .s j :: as, s :: ss, i, h => by
    have h1 : i ≠ j := fun z => h (by rw [z]; exact List.mem_cons_self ..)
    rw [backE, List.getElem?_set, if_neg (Ne.symm h1)]
    exact backE_out fun z => h (List.mem_cons_of_mem _ z)
  | .d _ :: as, _ :: ss, i, h => backE_out (as := as) h
  | [], _, _, _ => rfl
  | .s _ :: _, [], _, _ => rfl
  | .d _ :: _, [], _, _ => rfl
theorem backE_in : ∀ {as : List Ar} {ss : List Sl} {i j : Nat} {s : Sl}, (arIx as).Nodup → ss.length = as.length → as[j]? = some (.s i) → (backE env as ss)[i]? = some s → ss[j]? = some s
  | .s k :: as, t :: ss, i, 0, s, nd, hl, h1, h2 => by
    have e := Option.some.inj h1
    injection e with e
    subst e
    rw [backE, List.getElem?_set, if_pos rfl] at h2
    split at h2
    · exact h2
    · cases h2
  | .s k :: as, t :: ss, i, j + 1, s, nd, hl, h1, h2 => by
    have nd2 := List.nodup_cons.mp nd
    have hm : i ∈ arIx as := arix_mem (as := as) (j := j) h1
    have ne : k ≠ i := fun z => nd2.1 (z ▸ hm)
    rw [backE, List.getElem?_set, if_neg ne] at h2
    exact backE_in (as := as) (j := j) nd2.2 (Nat.succ.inj hl) h1 h2
  | .d _ :: as, t :: ss, i, 0, s, nd, hl, h1, h2 => by
    have e := Option.some.inj h1
    cases e
  | .d _ :: as, t :: ss, i, j + 1, s, nd, hl, h1, h2 => backE_in (as := as) (j := j) (ss := ss) nd (Nat.succ.inj hl) h1 h2
  | [], _, _, _, _, _, _, h1, _ => by simp at h1
  | _ :: _, [], _, _, _, _, hl, _, _ => by cases hl
theorem ix_of : ∀ {as : List Ar} {i : Nat}, i ∈ arIx as → ∃ j : Nat, as[j]? = some (Ar.s i)
  | .d z :: r, i, h => by
    obtain ⟨j, hj⟩ := ix_of (as := r) h
    exact ⟨j + 1, hj⟩
  | .s l :: r, i, h => by
    rcases List.mem_cons.mp (show i ∈ l :: arIx r from h) with e | h
    · subst e; exact ⟨0, rfl⟩
    · obtain ⟨j, hj⟩ := ix_of h; exact ⟨j + 1, hj⟩
theorem st_back {as : List Ar} {vs : List V} {args' : List Sl} (st : St K g F H σ env) (ha : ArAll K F σ vs as) (nd : (arIx as).Nodup) (hs : ∀ i ∈ arIx as, i < env.length) (sk : Sk K F' H' (vs.map some) args') (hst : Step F H (as.map (slOf env)) F' H')
    (hf : args'.map Sl.fp = (as.map (slOf env)).map Sl.fp) : St K g F' H' σ (backE env as args') := by
  have hl : args'.length = as.length := by have := congrArg List.length hf; simpa using this
  refine st.called ha sk hst (backE_len _ _) (fun i s h1 h2 => by rw [backE_out h1] at h2; exact h2) (fun j i s h1 h2 => backE_in nd hl h1 h2) (fun i s s' h1 h2 a h3 => ?_)
  by_cases hi : i ∈ arIx as
  · obtain ⟨j, hj⟩ := ix_of hi
    have q := backE_in nd hl hj h2
    have q2 : (args'.map Sl.fp)[j]? = some s'.fp := by rw [List.getElem?_map, q]; rfl
    rw [hf, List.getElem?_map, List.getElem?_map, hj] at q2
    have e : slOf env (.s i) = s := by show env[i]?.getD .un = _; rw [h1]; rfl
    have q3 : some (slOf env (.s i)).fp = some s'.fp := q2
    rw [e] at q3
    rw [Option.some.inj q3]
    exact .inl h3
  · rw [backE_out hi, h1] at h2
    cases h2
    exact .inl h3
/-- f(..) as a statement, what it was handed changed -/
theorem w1_callM {j k : Nat} {x : Str} {ps : List Str} {S : CT} (hf : Has X.prog X.w X.K X.mg X.base j x ps S) (hr : Room k X.A)
    (h : WAs X g (e :: es) env (fun as => callOk as ps.length env.length = true ∧ S (as.map (slOf env)) (fun _ args' => args'.map Sl.fp = (as.map (slOf env)).map Sl.fp ∧ P.nx (backE env as args')) (fun c args' => args' = as.map (slOf env) ∧ P.ex c env)) (fun c => P.ex c env))
    (hj : j ≤ k := by omega) (hg : Gl X x := by rfl) (hdb : (x == ("__debug__" : Str)) = false := by decide)
    (he : starEach (e :: es) X.env = (false, eval e X.env) :: starEach es X.env := by rfl) (hpl : (backTo p (starEach es X.env)).any (·.1) = false := by rfl) {p1 : Pos}
    (hs : swapsWith (.Call (.Name x p1) (e :: es) [] p) none pos.line X.env = pure false := by rfl) : W1 X g (.Expr (.Call (.Name x p1) (e :: es) [] p) pos) env P := fun W tk hx2 σ F H s0 D hD => by
  obtain ⟨f, fd, hm, hk, hb, F0⟩ := hf.ex
  refine semP_of (ps_expr (pe_callS F0 (hr.mono hj) hg hm hk hb (fun σ => passAt tk σ) (paS (e :: es)) hdb he hpl) hs) ?_
  refine h W tk σ F H s0 (hx2.hx env σ) _ fun as vs F1 H1 ⟨hok, hS⟩ s1 e1 ra => ?_
  obtain ⟨h1, h2, h3⟩ := callOk_ok hok
  refine ⟨by rw [arall_len ra, h1], F1, as.map (slOf env), _, _, hS, s1.toSk.callee ra h2 h3, fun r v args' F' H' ⟨ea, hp⟩ sk hst _ pr => ?_, fun c args' F' H' ⟨ea, hp⟩ sk hst _ => ?_⟩
  · exact hD.nx _ _ F' H' hp (st_back s1 ra h2 h3 sk hst ea) (e1.trans hst.1)
  · have := hx2 c env σ F' H' hp (st_same s1 ra sk hst ea)
    cases c
    exact this
/-! a new empty list handed on -/
def WAn (X : Cx) (g : G) (es : List Expr) (env : List Sl) (Φ : List Ar → Prop) (Ψ : Exc → Prop) : Prop :=
  ∀ (W : WX), Takes X W → ∀ (σ : SS) (F H : Hp), St X.K g F H σ env → HX X g env Ψ W σ →
    ∀ Q : List V → Hp → Prop, (∀ as vs q F' H', Φ as → St X.K g F' H' σ env → Ex F F' → ArAll X.K F' σ vs as → H' q = some (.lst []) → F' q = none → ¬ Own env q → g.H0 q = none → Q (vs ++ [.ref q]) H') → semA X es σ H Q
section
variable {Φ : List Ar → Prop}
theorem wan_l (h : Φ []) (hs : starEach [.List [] lp] X.env = (false, eval (.List [] lp) X.env) :: starEach [] X.env := by rfl) : WAn X g [.List [] lp] env Φ Ψ := fun W tk σ F H st hx Q hQ => by
  refine semA_of (pa_cons (pe_lst pa_nil) pa_nil hs) ?_
  refine ⟨Nat.zero_le _, fun q hn => ?_⟩
  exact hQ [] [] q F _ h (st.alloc hn) (Ex.refl F) trivial upd_same (st.ex.none hn) (st.toSk.notown hn) (st.h0 hn)
theorem wan_d (he : WE X g e env (fun d z => z = true ∧ WAn X g es env (fun as => Φ (.d d :: as)) Ψ) Ψ) (hs : starEach (e :: es) X.env = (false, eval e X.env) :: starEach es X.env := by rfl) : WAn X g (e :: es) env Φ Ψ := fun W tk σ F H st hx Q hQ => by
  refine semA_of (pa_cons (peS e) (paS es) hs) ?_
  refine he W tk σ F H st hx _ fun d z v F1 H1 ⟨hz, hp⟩ s1 e1 r1 => ?_
  subst hz
  exact hp W tk σ F1 H1 s1 hx _ fun as vs q F2 H2 hp2 s2 e2 r2 => hQ (.d d :: as) (v :: vs) q F2 H2 hp2 s2 (e1.trans e2) ⟨dp_mono e2 _ _ r1, r2⟩
theorem wan_s (i : Nat) {x : Str} {s : Sl} (h : WAn X g es env (fun as => Φ (.s i :: as)) Ψ) (he : env[i]? = some s := by rfl) (hne : s.fp ≠ [] := by (intro h; cases h)) (hN : X.N[i]? = some x := by rfl)
    (hv : Vis X.env.scope x := by first | exact Or.inl rfl | exact Or.inr (Or.inl rfl) | exact Or.inr (Or.inr rfl)) (hd : (x == ("__debug__" : Str)) = false := by decide)
    (hcd : (x == ("__classdict__" : Str)) = false := by decide) (hs : starEach ((.Name x pos) :: es) X.env = (false, eval (.Name x pos) X.env) :: starEach es X.env := by rfl) : WAn X g (.Name x pos :: es) env Φ Ψ := fun W tk σ F H st hx Q hQ => by
  refine semA_of (pa_cons (pe_var hN hv hd hcd) (paS es) hs) ?_
  have q := st.sl i s he
  obtain ⟨v, hv⟩ : ∃ v, σ[i]?.getD none = some v := by
    cases s with
    | un => exact absurd rfl hne
    | d x => exact absurd rfl hne
    | v x => exact ⟨_, q⟩
    | ol a ds => exact ⟨_, q.1⟩
    | bg a => exact ⟨_, q.1⟩
    | dt a ds => exact ⟨_, q.1⟩
    | dk a ds => exact ⟨_, q.1⟩
    | fv l => exact absurd rfl hne
    | fl l => exact absurd rfl hne
    | oo a ds => exact ⟨_, q.1⟩
    | ow t => exact ⟨q.choose, q.choose_spec.1⟩
  exact ⟨v, getD_some hv, h W tk σ F H st hx _ fun as vs q F2 H2 hp2 s2 e2 r2 => hQ (.s i :: as) (v :: vs) q F2 H2 hp2 s2 e2 ⟨getD_some hv, r2⟩⟩
end
theorem snoc_get {α : Type} {l : List α} {x y : α} {i : Nat} (h : (l ++ [x])[i]? = some y) : l[i]? = some y ∨ (i = l.length ∧ y = x) := by
  by_cases hi : i < l.length
  · rw [List.getElem?_append_left hi] at h; exact .inl h
  · by_cases e : i = l.length
    · subst e
      rw [List.getElem?_append_right (Nat.le_refl _), Nat.sub_self] at h
      exact .inr ⟨rfl, (Option.some.inj h).symm⟩
    · rw [List.getElem?_append_right (by omega)] at h
      have := (List.getElem?_eq_some_iff.mp h).1
      simp at this
      omega
theorem own_snoc {q a : Addr} {ds : List PyData} (h : Own (env ++ [.ol q ds]) a) : Own env a ∨ a = q := by
  obtain ⟨i, s, h1, h2⟩ := h
  rcases snoc_get h1 with h3 | ⟨_, rfl⟩
  · exact .inl ⟨i, s, h3, h2⟩
  · exact .inr (by simpa [Sl.fp] using h2)
theorem Sk.snoc {q : Addr} {xs : List V} {ds : List PyData} (st : Sk K F H σ env) (h1 : H q = some (.lst xs)) (h2 : DqAll K F xs ds) (h3 : F q = none) (h4 : ¬ Own env q) : Sk K F H (σ ++ [some (.ref q)]) (env ++ [.ol q ds]) where
  len := by rw [List.length_append, List.length_append, st.len]; rfl
  sl := fun i s h => by
    rcases snoc_get h with h | ⟨rfl, rfl⟩
    · have hi : i < σ.length := by rw [st.len]; exact (List.getElem?_eq_some_iff.mp h).1
      rw [List.getElem?_append_left hi]
      exact st.sl i s h
    · rw [← st.len, List.getElem?_append_right (Nat.le_refl _), Nat.sub_self]
      exact ⟨rfl, xs, h1, h2⟩
  nd := fun i j s t a hi hj m1 m2 => by
    rcases snoc_get hi with hi | ⟨rfl, rfl⟩
    · rcases snoc_get hj with hj | ⟨rfl, rfl⟩
      · exact st.nd i j s t a hi hj m1 m2
      · have e : a = q := by simpa [Sl.fp] using m2
        exact absurd ⟨i, s, hi, e ▸ m1⟩ h4
    · rcases snoc_get hj with hj | ⟨rfl, rfl⟩
      · have e : a = q := by simpa [Sl.fp] using m1
        exact absurd ⟨j, t, hj, e ▸ m2⟩ h4
      · rfl
  fr := fun a h => by
    rcases own_snoc h with h | rfl
    · exact st.fr a h
    · exact h3
  ex := st.ex
  tf := st.tf
  tk := st.tk
theorem St.snoc {q : Addr} {xs : List V} {ds : List PyData} (st : St K g F H σ env) (h1 : H q = some (.lst xs)) (h2 : DqAll K F xs ds) (h3 : F q = none) (h4 : ¬ Own env q) (h5 : g.H0 q = none) : St K g F H (σ ++ [some (.ref q)]) (env ++ [.ol q ds]) :=
  { st.toSk.snoc h1 h2 h3 h4 with
    gt := st.gt, g1 := st.g1, g3 := st.g3, g4 := st.g4, g5 := st.g5, g6 := st.g6
    g2 := fun a h => by
      rcases own_snoc h with h | rfl
      · exact st.g2 a h
      · exact .inl h5 }
theorem own_l {s : Sl} {a : Addr} (h : Own env a) : Own (env ++ [s]) a := by
  obtain ⟨i, t, h1, h2⟩ := h
  exact ⟨i, t, by rw [List.getElem?_append_left (List.getElem?_eq_some_iff.mp h1).1]; exact h1, h2⟩
theorem St.unsnoc {x : Option V} {s : Sl} (st : St K g F H (σ ++ [x]) (env ++ [s])) : St K g F H σ env where
  len := by have := st.len; rw [List.length_append, List.length_append] at this; exact Nat.add_right_cancel this
  sl := fun i t h => by
    have hi := (List.getElem?_eq_some_iff.mp h).1
    have hl := st.len
    rw [List.length_append, List.length_append] at hl
    have hl : σ.length = env.length := Nat.add_right_cancel hl
    have q := st.sl i t (by rw [List.getElem?_append_left hi]; exact h)
    rw [List.getElem?_append_left (by omega)] at q
    exact q
  nd := fun i j t u a h1 h2 => st.nd i j t u a (by rw [List.getElem?_append_left (List.getElem?_eq_some_iff.mp h1).1]; exact h1) (by rw [List.getElem?_append_left (List.getElem?_eq_some_iff.mp h2).1]; exact h2)
  fr := fun a h => st.fr a (own_l h)
  ex := st.ex
  tf := st.tf
  tk := st.tk
  gt := st.gt
  g1 := st.g1
  g2 := fun a h => st.g2 a (own_l h)
  g3 := st.g3
  g4 := st.g4
  g5 := st.g5
  g6 := st.g6
theorem arall_snoc {x : Option V} {q : Addr} (hx : x = some (.ref q)) {n : Nat} (hn : n = σ.length) : ∀ {vs : List V} {as : List Ar}, ArAll K F σ vs as → ArAll K F (σ ++ [x]) (vs ++ [.ref q]) (as ++ [.s n])
  | [], [], _ => ⟨by
      show (σ ++ [x])[n]? = some (some (.ref q))
      rw [hn, List.getElem?_append_right (Nat.le_refl _), Nat.sub_self, hx]
      rfl, trivial⟩
  | v :: vs, .d d :: as, ⟨h1, h2⟩ => ⟨h1, arall_snoc hx hn h2⟩
  | v :: vs, .s i :: as, ⟨h1, h2⟩ => ⟨by
      have h1' : σ[i]? = some (some v) := h1
      show (σ ++ [x])[i]? = some (some v)
      rw [List.getElem?_append_left (List.getElem?_eq_some_iff.mp h1').1]
      exact h1', arall_snoc hx hn h2⟩
theorem arix_snoc {n : Nat} : ∀ (as : List Ar), arIx (as ++ [Ar.s n]) = arIx as ++ [n]
  | [] => rfl
  | .d _ :: as => arix_snoc as
  | .s i :: as => congrArg (i :: ·) (arix_snoc as)
theorem map_snoc {s : Sl} : ∀ {as : List Ar}, (∀ i ∈ arIx as, i < env.length) → (as ++ [Ar.s env.length]).map (slOf (env ++ [s])) = as.map (slOf env) ++ [s]
  | [], _ => by
    show [(env ++ [s])[env.length]?.getD .un] = [s]
    rw [List.getElem?_append_right (Nat.le_refl _), Nat.sub_self]
    rfl
  | .d d :: as, h => congrArg (Sl.d d :: ·) (map_snoc (as := as) h)
  | .s i :: as, h => by
    have hi := h i (List.mem_cons_self ..)
    show (env ++ [s])[i]?.getD .un :: _ = env[i]?.getD .un :: _
    rw [List.getElem?_append_left hi]
    exact congrArg (_ :: ·) (map_snoc (as := as) fun j hj => h j (List.mem_cons_of_mem _ hj))
theorem backE_same : ∀ (as : List Ar) (env : List Sl), (∀ i ∈ arIx as, i < env.length) → backE env as (as.map (slOf env)) = env
  | [], _, _ => rfl
  | .d _ :: as, env, h => backE_same as env h
  | .s i :: as, env, h => by
    show (backE env as (as.map (slOf env))).set i (env[i]?.getD .un) = env
    rw [backE_same as env fun j hj => h j (List.mem_cons_of_mem _ hj)]
    have hi := h i (List.mem_cons_self ..)
    rw [List.getElem?_eq_getElem hi]
    exact List.set_getElem_self hi
theorem wn_callN {j k : Nat} {x : Str} {ps : List Str} {S : CT} {Φ : List PyData → Prop} (hf : Has X.prog X.w X.K X.mg X.base j x ps S) (hr : Room k X.A)
    (h : WAn X g (e :: es) env (fun as => callOk as (ps.length - 1) env.length = true ∧ 1 ≤ ps.length ∧ ∀ q, S (as.map (slOf env) ++ [.ol q []]) (fun r args' => ∃ ds, args' = as.map (slOf env) ++ [.ol q ds] ∧ r = .ar as.length ∧ Φ ds) (fun _ _ => False)) Ψ)
    (hj : j ≤ k := by omega) (hg : Gl X x := by rfl) (hdb : (x == ("__debug__" : Str)) = false := by decide)
    (he : starEach (e :: es) X.env = (false, eval e X.env) :: starEach es X.env := by rfl) (hpl : (backTo pos (starEach es X.env)).any (·.1) = false := by rfl) : WN X g (.Call (.Name x p) (e :: es) [] pos) env Φ Ψ := fun W tk σ F H st hx Q hQ => by
  obtain ⟨f, fd, hm, hk, hb, F0⟩ := hf.ex
  refine semE_of (pe_callS F0 (hr.mono hj) hg hm hk hb (fun σ => passAt tk σ) (paS (e :: es)) hdb he hpl) ?_
  refine h W tk σ F H st hx _ fun as vs q F1 H1 ⟨hok, hn1, hS⟩ s1 e1 ra g1 g2 g3 g4 => ?_
  obtain ⟨h1, h2, h3⟩ := callOk_ok hok
  have s2 := s1.snoc g1 .nil g2 g3 g4
  have ra2 := arall_snoc (x := some (.ref q)) (q := q) rfl (n := env.length) s1.len.symm ra
  have nd2 : (arIx (as ++ [Ar.s env.length])).Nodup := by
    rw [arix_snoc]
    refine List.nodup_append.mpr ⟨h2, by simp, fun a ha b hb z => ?_⟩
    have : b = env.length := by simpa using hb
    have := h3 a ha
    omega
  have hs2 : ∀ i ∈ arIx (as ++ [Ar.s env.length]), i < (env ++ [Sl.ol q []]).length := fun i hi => by
    rw [arix_snoc] at hi
    rw [List.length_append]
    rcases List.mem_append.mp hi with hi | hi
    · have := h3 i hi; simp; omega
    · have : i = env.length := by simpa using hi
      simp; omega
  have sk2 := s2.toSk.callee ra2 nd2 hs2
  rw [map_snoc h3] at sk2
  refine ⟨by rw [List.length_append, arall_len ra, h1]; simp; omega, F1, as.map (slOf env) ++ [.ol q []], _, _, hS q, sk2, fun r v args' F' H' ⟨ds, ea, hr2, hp⟩ sk hst _ pr => ?_, fun c args' F' H' hp _ _ _ => hp.elim⟩
  subst ea hr2
  have hst2 : Step F1 H1 ((as ++ [Ar.s env.length]).map (slOf (env ++ [Sl.ol q []]))) F' H' := by rw [map_snoc h3]; exact hst
  have s3 := st_back s2 ra2 nd2 hs2 sk hst2 (by rw [map_snoc h3, List.map_append, List.map_append]; rfl)
  have eb : ∀ (as : List Ar) (env : List Sl) (n : Nat), n = env.length → (∀ i ∈ arIx as, i < env.length) → backE (env ++ [Sl.ol q []]) (as ++ [Ar.s n]) (as.map (slOf env) ++ [Sl.ol q ds]) = env ++ [Sl.ol q ds] := fun as env n hn => by
    subst hn
    induction as with
    | nil =>
      intro _
      show (env ++ [Sl.ol q []]).set env.length (.ol q ds) = _
      rw [List.set_append_right _ _ (Nat.le_refl _), Nat.sub_self]
      rfl
    | cons a as ih =>
      intro hh
      cases a with
      | d d => exact ih hh
      | s i =>
        have hi := hh i (List.mem_cons_self ..)
        show (backE (env ++ [.ol q []]) (as ++ [.s env.length]) (as.map (slOf env) ++ [.ol q ds])).set i (env[i]?.getD .un) = _
        rw [ih fun j hj => hh j (List.mem_cons_of_mem _ hj), List.getElem?_eq_getElem hi, List.set_append_left _ _ hi]
        show env.set i env[i] ++ _ = _
        rw [List.set_getElem_self hi]
  rw [eb as env _ rfl h3] at s3
  have hv : v = .ref q := by
    have pr' : (vs ++ [V.ref q])[as.length]? = some v := pr
    rw [← arall_len ra, List.getElem?_append_right (Nat.le_refl _), Nat.sub_self] at pr'
    exact (Option.some.inj pr').symm
  subst hv
  have hl : (env ++ [Sl.ol q ds])[env.length]? = some (Sl.ol q ds) := by rw [List.getElem?_append_right (Nat.le_refl _), Nat.sub_self]; rfl
  obtain ⟨_, xs, y1, y2⟩ := s3.sl env.length _ hl
  refine hQ ds (.ref q) F' H' hp s3.unsnoc (e1.trans hst.1) ⟨q, xs, rfl, y1, y2, s3.fr q ⟨_, _, hl, by simp [Sl.fp]⟩, fun ⟨i, s, z1, z2⟩ => ?_, g4⟩
  have hi := (List.getElem?_eq_some_iff.mp z1).1
  have := s3.nd i env.length s _ q (by rw [List.getElem?_append_left hi]; exact z1) hl z2 (by simp [Sl.fp])
  omega
end

/-! comprehensions with a test -/
theorem tkf_t {α : Type} {ns : List α} {i : Nat} {n : α} {f : α → Bool} (h : α → PyData) (e : ns[i]? = some n) (hf : f n = true) : ((ns.take i).filter f).map h ++ [h n] = ((ns.take (i + 1)).filter f).map h := by
  rw [List.take_succ, e]
  simp [List.filter_append, hf]
theorem tkf_f {α : Type} {ns : List α} {i : Nat} {n : α} {f : α → Bool} (h : α → PyData) (e : ns[i]? = some n) (hf : f n = false) : ((ns.take i).filter f).map h = ((ns.take (i + 1)).filter f).map h := by
  rw [List.take_succ, e]
  simp [List.filter_append, hf]
section
variable {Φ : PyData → Bool → Prop} {k : Int} {z1 z2 : Bool}
theorem ix_mem (n : Nat) (h0 : 0 ≤ k) (h1 : k < n) {xs : List PyData} (hp : ∀ x ∈ xs, Φ x true) (hn : xs.length = n := by rfl) : IxP Φ (.list xs) z1 (.int k) z2 := by
  have hl : k.toNat < xs.length := by omega
  exact .lst (hp _ (List.getElem_mem hl)) (at_nat h0 (by simp [hl]))
end
theorem ne_b (b : Bool) : (!decide (b = b)) = false := by simp
end TL

namespace TL
open PySem PySem.Spec PyProof.Rows L2
/-! dicts with tuples of atoms as keys -/
theorem dp_key {K : Frag} {F : Hp} (k : Key) : Dq K F (kV k) (kD k) := by
  cases k with
  | inl i => exact .int i
  | inr s => exact .str s
theorem dpa_key {K : Frag} {F : Hp} : ∀ k : List Key, DqAll K F (k.map kV) (k.map kD)
  | [] => .nil
  | x :: r => .cons (dp_key x) (dpa_key r)
theorem key_eq {K : Frag} {F : Hp} {v : V} {k : Key} (h : Dq K F v (kD k)) : v = kV k := by
  cases k with
  | inl i => exact dp_int h
  | inr s => exact dp_str h
theorem keys_eq {K : Frag} {F : Hp} : ∀ {k : List Key} {vs : List V}, DqAll K F vs (k.map kD) → vs = k.map kV
  | [], _, h => by
    have h' : DqAll K F _ [] := h
    cases h'; rfl
  | x :: r, _, h => by
    have h' : DqAll K F _ (kD x :: r.map kD) := h
    cases h' with
    | cons h1 h2 => rw [key_eq h1, keys_eq h2]; rfl
section
variable {κ : Type} [DecidableEq κ]
def putP (kvs : List (κ × PyData)) (k : κ) (d : PyData) : List (κ × PyData) := if (kvs.any fun kv => decide (kv.1 = k)) = true then kvs.map (fun kv => if kv.1 = k then (kv.1, d) else kv) else kvs ++ [(k, d)]
def valP (kvs : List (κ × PyData)) (k : κ) : Option PyData := (kvs.find? fun kv => decide (kv.1 = k)).map (·.2)
variable {K : Frag} {F : Hp}
theorem kvp_any {k : κ} : ∀ {xs : List (κ × V)} {kvs : List (κ × PyData)}, KVp K F xs kvs → (xs.any fun kv => decide (kv.1 = k)) = kvs.any fun kv => decide (kv.1 = k)
  | _, _, .nil => rfl
  | _, _, .cons h t => by
    rw [List.any_cons, List.any_cons, kvp_any t, h.1]
theorem kvp_map {k : κ} {v : V} {d : PyData} (hd : Dq K F v d) : ∀ {xs : List (κ × V)} {kvs : List (κ × PyData)}, KVp K F xs kvs → KVp K F (xs.map fun kv => if kv.1 = k then (kv.1, v) else kv) (kvs.map fun kv => if kv.1 = k then (kv.1, d) else kv)
  | _, _, .nil => .nil
  | (k1, v1) :: _, (k2, d2) :: _, .cons h t => by
    obtain ⟨h1, h2⟩ := h
    have h1 : k1 = k2 := h1
    subst h1
    refine .cons ?_ (kvp_map hd t)
    show (if k1 = k then (k1, v) else (k1, v1)).1 = (if k1 = k then (k1, d) else (k1, d2)).1 ∧ Dq K F (if k1 = k then (k1, v) else (k1, v1)).2 (if k1 = k then (k1, d) else (k1, d2)).2
    by_cases e : k1 = k
    · rw [if_pos e, if_pos e]; exact ⟨rfl, hd⟩
    · rw [if_neg e, if_neg e]; exact ⟨rfl, h2⟩
theorem kvp_app {v : V} {k : κ} {d : PyData} (hd : Dq K F v d) : ∀ {xs : List (κ × V)} {kvs : List (κ × PyData)}, KVp K F xs kvs → KVp K F (xs ++ [(k, v)]) (kvs ++ [(k, d)])
  | _, _, .nil => .cons ⟨rfl, hd⟩ .nil
  | _, _, .cons h t => .cons h (kvp_app hd t)
theorem kvp_put {xs : List (κ × V)} {kvs : List (κ × PyData)} {k : κ} {v : V} {d : PyData} (h : KVp K F xs kvs) (hd : Dq K F v d) : KVp K F (putK xs k v) (putP kvs k d) := by
  unfold putK putP
  rw [kvp_any h]
  by_cases e : (kvs.any fun kv => decide (kv.1 = k)) = true
  · rw [if_pos e, if_pos e]; exact kvp_map hd h
  · rw [if_neg e, if_neg e]; exact kvp_app hd h
theorem kvp_len : ∀ {xs : List (κ × V)} {kvs : List (κ × PyData)}, KVp K F xs kvs → xs.length = kvs.length
  | _, _, .nil => rfl
  | _, _, .cons _ t => congrArg Nat.succ (kvp_len t)
theorem putP_new {kvs : List (κ × PyData)} {k : κ} {d : PyData} (h : ∀ kv ∈ kvs, kv.1 ≠ k) : putP kvs k d = kvs ++ [(k, d)] := by
  unfold putP
  rw [if_neg]
  intro z
  obtain ⟨kv, h1, h2⟩ := List.any_eq_true.mp z
  exact h kv h1 (of_decide_eq_true h2)
end
section
variable {X : Cx} {g : G} {env env' : List Sl} {Ψ : Exc → Prop} {P : Po} {pos p lp : Pos} {a b c e : Expr} {es : List Expr} {rest body : List Stmt} {K : Frag} {F F' H H' : Hp} {σ σ' : SS}
theorem St.setT {i : Nat} {q : Addr} {xs : List (List Key × V)} {kvs : List (List Key × PyData)} (st : St K g F H σ env) (hi : i < env.length) (hH : H q = some (.dT xs)) (hd : KVp K F xs kvs) (hF : F q = none) (hn : ¬ Own env q) (h0 : g.H0 q = none) :
    St K g F H (σ.set i (some (.ref q))) (env.set i (.dt q kvs)) := by
  have one : ∀ b ∈ (Sl.dt q kvs).fp, b = q := fun b hb => by simpa [Sl.fp] using hb
  exact st.set (s := .dt q kvs) hi ⟨rfl, xs, hH, hd⟩ (fun b hb => by rw [one b hb]; exact hF) (fun b hb j t _ e ht => hn ⟨j, t, e, by rw [← one b hb]; exact ht⟩) (fun b hb => by rw [one b hb]; exact .inl h0)
/-- x = {} -/
theorem w1_newT (i : Nat) {x : Str} {pos' dp : Pos} (hN : X.N.Nodup) (h : ∀ q, q ∉ g.M → P.nx (env.set i (.dt q []))) (hi : X.N[i]? = some x := by rfl) (hx : Loc X.env.scope x := by first | exact Or.inl rfl | exact Or.inr rfl) (hl : Nat.blt i env.length = true := by rfl)
    (hs : swapsWith (.Dict [] [] dp) (some (.Name x pos')) pos.line X.env = pure false := by rfl) (hf : X.fn x = true ∨ X.env.scope.names.lookup x = some .local := by first | exact .inl rfl | exact .inr rfl) : W1 X g (.Assign [.Name x pos'] (.Dict [] [] dp) pos) env P := fun W tk hx2 σ F H s0 D hD => by
  refine semP_of (ps_set hN hi hx pe_dnewT hs hf) fun q hn => ?_
  have s1 := s0.alloc (o := .dT []) hn
  exact hD.nx _ _ F _ (h q fun m => s1.g6 q m (s0.h0 hn)) (s1.setT (ltB hl) upd_same .nil (s0.ex.none hn) (s0.toSk.notown hn) (s0.h0 hn)) (Ex.refl F)
/-- x[e1, ..] = e -/
theorem w1_storeT (i : Nat) {k0 : Nat} {x : Str} {q tp tpos : Pos} {xk : Nat} {al : Addr} {kvs : List (List Key × PyData)} (hr : Room k0 X.A) (he : env[i]? = some (.dt al kvs))
    (h : WE X g e env (fun d z => z = true ∧ WAs X g es env (fun as => ∃ k, datas as = some (k.map kD) ∧ k.length ≤ sizeLine ∧ kvs.length < sizeLine ∧ P.nx (env.set i (.dt al (putP kvs k d)))) (fun c => P.ex c env)) (fun c => P.ex c env)) (hN : X.N[i]? = some x := by rfl)
    (hv : Vis X.env.scope x := by first | exact Or.inl rfl | exact Or.inr (Or.inl rfl) | exact Or.inr (Or.inr rfl)) (hd : (x == ("__debug__" : Str)) = false := by decide)
    (hcd : (x == ("__classdict__" : Str)) = false := by decide)
    (hs : swapsWith e (some (.Subscript (.Name x q) (.Tuple es xk tp) tpos)) pos.line X.env = pure false := by rfl) : W1 X g (.Assign [.Subscript (.Name x q) (.Tuple es xk tp) tpos] e pos) env P := fun W tk hx2 σ F H s0 D hD => by
  refine semP_of (ps_dput (by have := hr.units; omega) (pe_var hN hv hd hcd) (pe_tup (paS es)) (peS e) hs) ?_
  refine h W tk σ F H s0 (hx2.hx env σ) _ fun d z v F1 H1 ⟨hz, hw⟩ s1 e1 r1 => ?_
  subst hz
  obtain ⟨h1, vs, h2, h3⟩ := s1.sl i _ he
  refine ⟨_, getD_some h1, ?_⟩
  refine hw W tk σ F1 H1 s1 (hx2.hx env σ) _ fun as us F2 H2 ⟨k, hk, hkl, hlen, hp⟩ s2 e2 r2 => ?_
  have hus := keys_eq (dpa_datas hk r2)
  subst hus
  refine ⟨by rw [List.length_map]; exact hkl, fun pn hn => ?_⟩
  have s3 := s2.allocF (o := .tup (k.map kV)) hn
  have ef := Ex.new (o := .tup (k.map kV)) (s2.ex.none hn)
  obtain ⟨h1', vs', h2', h3'⟩ := s3.sl i _ he
  refine ⟨al, _, rfl, DPut.t h2' upd_same (by rw [kvp_len h3']; exact hlen), ?_⟩
  exact hD.nx _ _ _ _ hp (s3.write he rfl rfl ⟨h1', _, upd_same, kvp_put h3' (dp_mono (e2.trans ef) _ _ r1)⟩) ((e1.trans e2).trans ef)
/-- return x, x a dict made here -/
theorem w1_retT (i : Nat) {x : Str} {q : Pos} {al : Addr} {kvs : List (List Key × PyData)} (he : env[i]? = some (.dt al kvs)) (ha : al ∉ g.M) (h : P.rt (.nt kvs) (env.set i .un)) (hN : X.N[i]? = some x := by rfl)
    (hv : Vis X.env.scope x := by first | exact Or.inl rfl | exact Or.inr (Or.inl rfl) | exact Or.inr (Or.inr rfl)) (hd : (x == ("__debug__" : Str)) = false := by decide)
    (hcd : (x == ("__classdict__" : Str)) = false := by decide) : W1 X g (.Return (some (.Name x q)) pos) env P := fun W tk hx2 σ F H s0 D hD => by
  refine semP_of (ps_ret (pe_var hN hv hd hcd)) ?_
  obtain ⟨h1, vs, h2, h3⟩ := s0.sl i _ he
  have own : Own env al := ⟨i, _, he, by simp [Sl.fp]⟩
  refine ⟨_, getD_some h1, hD.rt _ _ _ σ F H h (s0.weak he (fun _ h => by cases h) fun _ => trivial) ⟨al, vs, rfl, h2, h3, s0.fr al own, fun z => ?_, ?_⟩⟩
  · obtain ⟨j, t, ej, ht⟩ := z
    rcases set_get ej with ⟨_, rfl⟩ | ⟨ne, ej⟩
    · cases ht
    · exact ne (s0.nd i j _ t al he ej (by simp [Sl.fp]) ht)
  · rcases s0.g2 al own with z | z
    · exact z
    · exact absurd z ha
/-- a new dict as an expression -/
def WDt (X : Cx) (g : G) (e : Expr) (env : List Sl) (Φ : List (List Key × PyData) → Prop) (Ψ : Exc → Prop) : Prop :=
  ∀ (W : WX), Takes X W → ∀ (σ : SS) (F H : Hp), St X.K g F H σ env → HX X g env Ψ W σ →
    ∀ Q : VK, (∀ kvs v F' H', Φ kvs → St X.K g F' H' σ env → Ex F F' → NewT X.K g F' H' env v kvs → Q v H') → semE X e σ H Q
theorem wd_call {j k : Nat} {x : Str} {ps : List Str} {S : CT} {Φ : List (List Key × PyData) → Prop} (hf : Has X.prog X.w X.K X.mg X.base j x ps S) (hr : Room k X.A)
    (h : WAs X g (e :: es) env (fun as => callOk as ps.length env.length = true ∧ S (as.map (slOf env)) (fun r args' => args' = as.map (slOf env) ∧ ∃ kvs, r = .nt kvs ∧ Φ kvs) (fun c args' => args' = as.map (slOf env) ∧ Ψ c)) Ψ)
    (hj : j ≤ k := by omega) (hg : Gl X x := by rfl) (hdb : (x == ("__debug__" : Str)) = false := by decide)
    (he : starEach (e :: es) X.env = (false, eval e X.env) :: starEach es X.env := by rfl) (hpl : (backTo pos (starEach es X.env)).any (·.1) = false := by rfl) : WDt X g (.Call (.Name x p) (e :: es) [] pos) env Φ Ψ := fun W tk σ F H st hx Q hQ => by
  refine call_run (Φ := fun r => ∃ kvs, r = .nt kvs ∧ Φ kvs) hf hr h hj hg hdb he hpl tk st hx fun r vs v F1 H1 F' H' args' ⟨kvs, hd, hp⟩ s' e' s1 pr => ?_
  subst hd
  obtain ⟨q, xs, rfl, h1, h2, h3, h4, h5⟩ := pr
  exact hQ kvs (.ref q) F' H' hp s' e' ⟨q, xs, rfl, h1, h2, h3, fun z => s1.there z h4, s1.h0 h4⟩
/-- x = a new dict -/
theorem w1_setT (i : Nat) {x : Str} {pos' : Pos} (hN : X.N.Nodup) (h : WDt X g e env (fun kvs => ∀ q, q ∉ g.M → P.nx (env.set i (.dt q kvs))) (fun c => P.ex c env)) (hi : X.N[i]? = some x := by rfl) (hx : Loc X.env.scope x := by first | exact Or.inl rfl | exact Or.inr rfl) (hl : Nat.blt i env.length = true := by rfl)
    (hs : swapsWith e (some (.Name x pos')) pos.line X.env = pure false := by rfl) (hf : X.fn x = true ∨ X.env.scope.names.lookup x = some .local := by first | exact .inl rfl | exact .inr rfl) : W1 X g (.Assign [.Name x pos'] e pos) env P := fun W tk hx2 σ F H s0 D hD => by
  refine semP_of (ps_set hN hi hx (peS e) hs hf) ?_
  refine h W tk σ F H s0 (hx2.hx env σ) _ fun kvs v F' H' hp s' e' ⟨q, xs, hv, h1, h2, h3, h4, h5⟩ => ?_
  subst hv
  exact hD.nx _ _ F' H' (hp q fun m => s'.g6 q m h5) (s'.setT (ltB hl) h1 h2 h3 h4 h5) e'
theorem keys_dpa {kvs : List (List Key × PyData)} (tf : ∀ (a : Addr) (vs : List V), H a = some (.tup vs) → F a = some (.tup vs)) : ∀ {xs : List (List Key × V)} {kvs : List (List Key × PyData)} {bs : List Addr}, KVp K F xs kvs → IsKeys H xs bs → DqAll K F (bs.map V.ref) (kvs.map fun kv => .tuple (kv.1.map kD))
  | _, _, _, .nil, h => by cases h; exact .nil
  | (k1, v1) :: _, (k2, d2) :: _, _, .cons h t, h2 => by
    cases h2 with
    | cons h3 h4 =>
      obtain ⟨h5, _⟩ := h
      have h5 : k1 = k2 := h5
      subst h5
      exact .cons (.tup (tf _ _ h3) (dpa_key k1)) (keys_dpa (kvs := kvs) tf t h4)
/-- list(..) of a new dict: its keys -/
theorem wn_listT {Φ : List PyData → Prop} (hm : X.mg "list" = none) (hc : X.calm = true) (h : WDt X g a env (fun kvs => Φ (kvs.map fun kv => .tuple (kv.1.map kD))) Ψ) (hg : Gl X "list" := by rfl) (he : starEach [a] X.env = (false, eval a X.env) :: starEach [] X.env := by rfl) (hpl : (backTo pos (starEach ([] : List Expr) X.env)).any (·.1) = false := by rfl) : WN X g (.Call (.Name "list" p) [a] [] pos) env Φ Ψ := fun W tk σ F H st hx Q hQ => by
  refine semE_of (pe_callTy (call_list_dT hc) hg hm (by decide +kernel) (pa_cons (peS a) pa_nil he) (by decide) (by decide) he hpl) ?_
  refine h W tk σ F H st hx _ fun kvs v F1 H1 hp s1 e1 ⟨q, xs, hv, h1, h2, h3, h4, h5⟩ => ?_
  subst hv
  refine ⟨q, xs, rfl, .inl h1, fun pn bs hn hb => ?_⟩
  exact put_new s1 hn (keys_dpa (kvs := kvs) s1.tf h2 hb) hp fun ds v F' H' hp s e r => hQ ds v F' H' hp s (e1.trans e) r
end
end TL

namespace LamX
open PySem PySem.Spec PyProof.Rows L2
theorem codeO_lst {c : Addr} {q : Str} {xs : List V} (z : CodeO c q = .lst xs) : False := by
  unfold CodeO at z; cases z
end LamX
namespace TL
open PySem PySem.Spec PyProof.Rows L2
/-! an owned list seen as data, by an expression whose answer is an atom -/
def viewS (i : Nat) (ds : List PyData) : Nat → Sl → Sl := fun j s => if j = i then .d (.list ds) else if s.fp.isEmpty then s else .un
def viewE (i : Nat) (ds : List PyData) (env : List Sl) : List Sl := env.mapIdx (viewS i ds)
def isAt : PyData → Bool
  | .none => true
  | .bool _ => true
  | .int _ => true
  | .str _ => true
  | _ => false
section
variable {X : Cx} {g : G} {env env' : List Sl} {Ψ : Exc → Prop} {P : Po} {pos p lp : Pos} {a b c e : Expr} {K : Frag} {F F' H H' : Hp} {σ σ' : SS}
theorem view_get {i j : Nat} {ds : List PyData} {s : Sl} (h : (viewE i ds env)[j]? = some s) : ∃ t, env[j]? = some t ∧ s = viewS i ds j t := by
  unfold viewE at h
  rw [List.getElem?_mapIdx] at h
  obtain ⟨t, h1, h2⟩ := Option.map_eq_some_iff.mp h
  exact ⟨t, h1, h2.symm⟩
theorem view_fp {i j : Nat} {ds : List PyData} {t : Sl} : (viewS i ds j t).fp = [] := by
  unfold viewS
  by_cases h : j = i
  · rw [if_pos h]; rfl
  · rw [if_neg h]
    by_cases h2 : t.fp.isEmpty = true
    · rw [if_pos h2]; exact List.isEmpty_iff.mp h2
    · rw [if_neg h2]; rfl
theorem view_own {i : Nat} {ds : List PyData} {q : Addr} (h : Own (viewE i ds env) q) : False := by
  obtain ⟨j, s, h1, h2⟩ := h
  obtain ⟨t, _, rfl⟩ := view_get h1
  rw [view_fp] at h2
  cases h2
theorem view_in {i : Nat} {q : Addr} {vs : List V} {ds : List PyData} (st : St K g F H σ env) (he : env[i]? = some (.ol q ds)) (hv : σ[i]?.getD none = some (.ref q)) (hH : H q = some (.lst vs)) (hd : DqAll K F vs ds) :
    St K ⟨upd F q (.lst vs), H, []⟩ (upd F q (.lst vs)) H σ (viewE i ds env) := by
  have hF : F q = none := st.fr q ⟨i, _, he, by simp [Sl.fp]⟩
  have ef := Ex.new (o := .lst vs) hF
  refine { len := by unfold viewE; rw [List.length_mapIdx]; exact st.len, sl := fun j s h => ?_, nd := fun j k s t b h1 h2 h3 _ => ?_, fr := fun b h => (view_own h).elim, ex := fun b u z => ?_, tf := fun b us z => ?_, tk := ⟨fun a ps z => by
      by_cases e : a = q
      · subst e; rw [upd_same] at z; cases z
      · rw [upd_ne e] at z; exact st.tk.fn a ps z, fun p hp => (st.tk.tb p hp).mono ef fun _ z => z⟩, gt := ⟨fun a ps h => (by show H a ≠ none; rw [show H a = _ from h]; intro z; cases z), fun p hp z => (by obtain ⟨ps, h1, _⟩ := st.tk.tb p hp; have z : H p.1 = none := z; rw [h1] at z; cases z)⟩, g1 := fun _ _ h _ _ => h, g2 := fun b h => (view_own h).elim, g3 := Ex.refl _, g4 := fun _ h => .inl h, g5 := fun _ h => (List.not_mem_nil h).elim, g6 := fun _ h => (List.not_mem_nil h).elim }
  · obtain ⟨t, h1, rfl⟩ := view_get h
    unfold viewS
    by_cases hj : j = i
    · rw [if_pos hj, hj, hv]
      exact ⟨_, rfl, .lst (SqL.of upd_same) (dpa_mono ef _ _ hd)⟩
    · rw [if_neg hj]
      by_cases h2 : t.fp.isEmpty = true
      · rw [if_pos h2]
        exact slok_mono ef (fun _ _ _ z => z) (st.sl j t h1)
      · rw [if_neg h2]; trivial
  · obtain ⟨u, _, rfl⟩ := view_get h1
    rw [view_fp] at h3
    cases h3
  · by_cases e : b = q
    · subst e; rw [upd_same] at z; cases z; exact hH
    · rw [upd_ne e] at z; exact st.ex b u z
  · by_cases e : b = q
    · subst e; rw [hH] at z; cases z
    · rw [upd_ne e]; exact st.tf b us z
def cutF (F : Hp) (q : Addr) : Hp := fun b => if b = q then none else F b
theorem view_out {i : Nat} {q : Addr} {vs : List V} {ds : List PyData} (st : St K g F H σ env) (he : env[i]? = some (.ol q ds)) (hv : σ[i]?.getD none = some (.ref q)) (hH : H q = some (.lst vs)) (hd : DqAll K F vs ds)
    (s2 : St K ⟨upd F q (.lst vs), H, []⟩ F' H' σ (viewE i ds env)) (ex : Ex (upd F q (.lst vs)) F') : St K g (cutF F' q) H' σ env ∧ Ex F (cutF F' q) := by
  have hF : F q = none := st.fr q ⟨i, _, he, by simp [Sl.fp]⟩
  have hx : ∀ b u, H b = some u → ntb u → H' b = some u := fun b u z n => s2.g1 b u z (List.not_mem_nil) n
  have hx2 : ∀ b, H' b = none → H b = none := fun b z => by
    cases y : H b with
    | none => rfl
    | some u =>
      by_cases ht : ∃ ps, u = .tbl ps
      · obtain ⟨ps, rfl⟩ := ht; exact absurd z (s2.gt.g7 b ps y)
      · rw [hx b u y fun ps e => ht ⟨ps, e⟩] at z; cases z
  have ef : Ex F (cutF F' q) := fun b u z => by
    have hne : b ≠ q := fun e => by rw [e, hF] at z; cases z
    unfold cutF
    rw [if_neg hne]
    exact ex b u (by rw [upd_ne hne]; exact z)
  refine ⟨{ len := st.len, sl := fun j s h => slok_mono ef (fun b hb u z => hx b u z fun ps e => slok_ntb (st.sl j s h) hb ps (by rw [z, e])) (st.sl j s h), nd := st.nd, fr := fun b hb => ?_, ex := fun b u z => ?_, tf := fun b us z => ?_, tk := ⟨fun a ps z => by
      unfold cutF at z
      split at z
      · cases z
      · exact s2.tk.fn a ps z, fun p hp => by
      obtain ⟨ps, h1, h2, h3⟩ := s2.tk.tb p hp
      refine ⟨ps, h1, h2, fun pos cv hc => ?_⟩
      obtain ⟨c, e1, e2⟩ := h3 pos cv hc
      refine ⟨c, e1, ?_⟩
      unfold cutF
      rw [if_neg fun e => ?_]
      · exact e2
      · subst e
        have y := hx c _ hH fun _ z => by cases z
        rw [s2.ex _ _ e2] at y
        exact LamX.codeO_lst (Option.some.inj y)⟩, gt := st.gt.grow hx2, g1 := fun b u z m n => hx b u (st.g1 b u z m n) n, g2 := st.g2, g3 := st.g3.trans ef, g4 := fun b hb => ?_, g5 := fun b m z => ?_, g6 := st.g6 }, ef⟩
  · unfold cutF
    by_cases e : b = q
    · rw [if_pos e]
    · rw [if_neg e]
      cases z : F' b with
      | none => rfl
      | some u =>
        rcases s2.g4 b (by rw [z]; intro y; cases y) with y | y
        · have y' : upd F q (.lst vs) b ≠ none := y
          rw [upd_ne e, st.fr b hb] at y'
          exact absurd rfl y'
        · exact absurd y (st.there hb)
  · unfold cutF at z
    by_cases e : b = q
    · rw [if_pos e] at z; cases z
    · rw [if_neg e] at z; exact s2.ex b u z
  · have hne : b ≠ q := fun e => by
      have y := hx q _ hH fun _ z => by cases z
      rw [← e, z] at y
      cases y
    unfold cutF
    rw [if_neg hne]
    exact s2.tf b us z
  · unfold cutF at hb
    by_cases e : b = q
    · rw [if_pos e] at hb; exact absurd rfl hb
    · rw [if_neg e] at hb
      rcases s2.g4 b hb with y | y
      · have y' : upd F q (.lst vs) b ≠ none := y
        rw [upd_ne e] at y'
        exact st.g4 b y'
      · exact .inr (st.h0 y)
  · exact st.g5 b m (hx2 b z)
/-- an owned list as data, for an expression whose answer is an atom -/
theorem we_view (i : Nat) {q : Addr} {ds : List PyData} {Φ : PyData → Bool → Prop} (he : env[i]? = some (.ol q ds)) (h : ∀ g' : G, WE X g' e (viewE i ds env) (fun d z => isAt d = true ∧ Φ d true) Ψ) : WE X g e env Φ Ψ := fun W tk σ F H st hx Q hQ => by
  obtain ⟨hv, vs, hH, hd⟩ := st.sl i _ he
  refine h _ W tk σ _ H (view_in st he hv hH hd) (fun c F' H' hc s2 => ?_) Q fun d z v F' H' ⟨ha, hp⟩ s2 ex r => ?_
  · obtain ⟨s3, _⟩ := view_out st he hv hH hd s2 s2.g3
    exact hx c _ H' hc s3
  · obtain ⟨s3, ef⟩ := view_out st he hv hH hd s2 ex
    refine hQ d true v _ H' hp s3 ef ?_
    cases d with
    | none => rw [rd_non r]; exact .non
    | bool b => rw [rd_bl r]; exact .bl b
    | int n => rw [rd_int r]; exact .int n
    | str n => rw [rd_str r]; exact .str n
    | list _ => cases ha
    | tuple _ => cases ha
    | dict _ => cases ha
end
end TL

/-! iteration over anything, told as data -/
namespace TL
open PySem PySem.Spec PyProof.Rows L2
structure SemI (X : Cx) (tg iter : Expr) (σ : SS) (H : Hp) (R : It → Hp → Prop) : Prop where
  run : ∀ (pins : List (Addr × Obj)) (s : Shared), Inv X pins σ H s →
    wpAny (model X.prog X.w) X.A (eval iter X.env) (fun v s1 => wpAny (model X.prog X.w) X.A (pyIter v) (PIE X pins σ tg R) X.xe s1) X.xe s
def semI (X : Cx) (tg iter : Expr) : TI := fun σ H R => SemI X tg iter σ H R
def ItOk (K : Frag) (J : It) (xs : List PyData) (F : Hp) : Prop := ∃ (G : Hp → Prop) (Y : Nat → Hp → V → Hp → Prop), Walk J xs.length G Y ∧ (∀ H, Ex F H → G H) ∧
  ∀ i d, xs[i]? = some d → ∀ H v H', Y i H v H' → ∀ g F1 σ env, St K g F1 H σ env → Ex F F1 → ∃ F2, St K g F2 H' σ env ∧ Ex F1 F2 ∧ Dq K F2 v d ∧ Ex H H' ∧ ∀ a, F2 a ≠ none → F1 a ≠ none ∨ H a = none
def WI (X : Cx) (g : G) (tg iter : Expr) (env : List Sl) (Φ : List PyData → Prop) (Ψ : Exc → Prop) : Prop :=
  ∀ (W : WX), Takes X W → ∀ (σ : SS) (F H : Hp), St X.K g F H σ env → HX X g env Ψ W σ →
    ∀ R : It → Hp → Prop, (∀ xs J F' H', Φ xs → xs.length ≤ sizeLine → St X.K g F' H' σ env → Ex F F' → ItOk X.K J xs F' → R J H') → semI X tg iter σ H R
section
variable {X : Cx} {g : G} {env env' : List Sl} {Ψ : Exc → Prop} {P : Po} {pos p lp : Pos} {a b c e tg iter : Expr} {es : List Expr} {rest body : List Stmt} {K : Frag} {F F' H H' : Hp} {σ σ' : SS}
theorem piS : PI X tg iter (semI X tg iter) := ⟨fun pins s σ H R I h => h.run pins s I⟩
theorem semI_of {wi : TI} (h : PI X tg iter wi) {R : It → Hp → Prop} (q : wi σ H R) : semI X tg iter σ H R := ⟨fun pins s I => h.run pins s σ H R I q⟩
def iAny (K : Frag) (tl : TE) : TI := fun σ H R => tl σ H fun x H1 => (∃ a xs, x = .ref a ∧ SqL K H1 a xs ∧ (xs.length ≤ sizeLine → R (Itl K a) H1)) ∨ (∃ a xs, x = .ref a ∧ SqT K H1 a xs ∧ (xs.length ≤ sizeLine → R (Itt K a) H1)) ∨ ∃ z, x = .str z ∧ R (Its z) H1
theorem pi_any {l : Expr} {tl : TE} (hl : PE X l tl) : PI X tg l (iAny X.K tl) := by
  refine ⟨fun pins s σ H R I h => ?_⟩
  refine thn (hl.run pins s σ H _ I h) fun v s1 ⟨x, H1, I1, r1, q1⟩ => ?_
  rcases q1 with ⟨a, xs, e, hq, q⟩ | ⟨a, xs, e, hq, q⟩ | ⟨z, e, q⟩
  · subst e
    cases r1
    obtain ⟨its, rv, p, hz⟩ := I1.list hq
    refine wpAny_pyIter_list p.isList ?_
    refine ⟨s1.heap.objs.size, [s1.heap.objs.size], _, _, H1, rfl, I1.kept (t' := s1.toks) fun b o e => Heap.get?_push_of_some _ e, turn_list a _, ⟨_, Heap.get?_push_size _ rfl, rfl, rfl⟩, fun b hb => ?_, q hz⟩
    have e : b = s1.heap.objs.size := by simpa using hb
    subst e
    exact I1.fpOk (Nat.le_refl _) (I1.hok.fresh (Nat.le_refl _))
  · subst e
    cases r1
    obtain ⟨its, rv, p, hz⟩ := I1.tuple hq
    refine wpAny_pyIter_tuple (show s1.heap.IsTuple a its.toArray from p) ?_
    refine ⟨s1.heap.objs.size, [s1.heap.objs.size], _, _, H1, rfl, I1.kept (t' := s1.toks) fun b o e => Heap.get?_push_of_some _ e, turn_tuple a _, ⟨_, Heap.get?_push_size _ rfl, rfl, rfl⟩, fun b hb => ?_, q hz⟩
    have e : b = s1.heap.objs.size := by simpa using hb
    subst e
    exact I1.fpOk (Nat.le_refl _) (I1.hok.fresh (Nat.le_refl _))
  · subst e
    obtain ⟨t, rfl⟩ := r1
    cases ha : z.cps.all (· < 128)
    · exact wpAny_pyIter_wide ha (pi_one (tk := s1.toks) I1 _ (turn_str _ z t "str_iterator" (.inr rfl)) ⟨_, Heap.get?_push_size _ rfl, rfl, rfl⟩ q)
    · exact wpAny_pyIter_ascii ha (pi_one (tk := s1.toks) I1 _ (turn_str _ z t "str_ascii_iterator" (.inl rfl)) ⟨_, Heap.get?_push_size _ rfl, rfl, rfl⟩ q)
def sgn (c : Nat) : PyData := .str ⟨#[c]⟩
/-- the items of data -/
def itM : PyData → (List PyData → Prop) → Prop
  | .list xs, K => K xs
  | .tuple xs, K => K xs
  | .str s, K => s.cps.size ≤ sizeLine ∧ K (s.cps.toList.map sgn)
  | _, _ => False
theorem itok_at {xs : List PyData} {vs : List V} {J : It} {G : Hp → Prop} (w : Walk J vs.length G (YAt vs)) (hG : ∀ H, Ex F H → G H) (h : DqAll K F vs xs) : ItOk K J xs F := by
  refine ⟨G, YAt vs, by rw [← dpa_len h]; exact w, hG, fun i d hd H v H' ⟨y1, y2⟩ g F1 σ env st e1 => ?_⟩
  subst y1
  obtain ⟨v', h1, h2⟩ := dpa_get h hd
  rw [y2] at h1
  cases h1
  exact ⟨F1, st, Ex.refl F1, dp_mono e1 _ _ h2, Ex.refl _, fun a h => .inl h⟩
theorem itok_str {z : Str} : ItOk K (Its z) (z.cps.toList.map sgn) F := by
  refine ⟨_, _, by rw [List.length_map, Array.length_toList]; exact walk_str, fun _ _ => trivial, fun i d hd H v H' hy g F1 σ env st e1 => ?_⟩
  obtain ⟨y1, c, y2, y3⟩ := hy
  subst y1 y3
  obtain ⟨c', h1, rfl⟩ := map_get hd
  rw [Array.getElem?_toList, y2] at h1
  cases h1
  exact ⟨F1, st, Ex.refl F1, .str _, Ex.refl _, fun a h => .inl h⟩
theorem wi_d {Φ : List PyData → Prop} (h : WE X g iter env (fun d z => z = true ∧ itM d Φ) Ψ) : WI X g tg iter env Φ Ψ := fun W tk σ F H st hx R hR => by
  refine semI_of (pi_any (peS iter)) ?_
  refine h W tk σ F H st hx _ fun d z v F1 H1 ⟨hz, hi⟩ s1 e1 rd => ?_
  subst hz
  cases d with
  | list xs =>
    obtain ⟨a, vs, rfl, hsq, hda⟩ := dp_lst rd
    have hi : Φ xs := hi
    exact .inl ⟨a, vs, rfl, ex_l s1.ex hsq, fun hl => hR xs _ F1 H1 hi (by rw [← dpa_len hda]; exact hl) s1 e1 (itok_at walk_list (fun H eH => ex_l eH hsq) hda)⟩
  | tuple xs =>
    obtain ⟨a, vs, rfl, hsq, hda⟩ := dp_tup rd
    have hi : Φ xs := hi
    exact .inr (.inl ⟨a, vs, rfl, ex_t s1.ex hsq, fun hl => hR xs _ F1 H1 hi (by rw [← dpa_len hda]; exact hl) s1 e1 (itok_at walk_tup (fun H eH => ex_t eH hsq) hda)⟩)
  | str s =>
    obtain ⟨hl, hi⟩ : s.cps.size ≤ sizeLine ∧ Φ (s.cps.toList.map sgn) := hi
    have e := dp_str rd
    subst e
    exact .inr (.inr ⟨s, rfl, hR _ _ F1 H1 hi (by rw [List.length_map, Array.length_toList]; exact hl) s1 e1 itok_str⟩)
  | none => exact hi.elim
  | bool b => exact hi.elim
  | int i => exact hi.elim
  | dict k => exact hi.elim
/-! ranges -/
def rangeL (lo hi : Int) : List PyData := (List.range (hi - lo).toNat).map fun i => .int (lo + (i : Nat))
theorem itok_rng {lo hi : Int} : ItOk K (Itr lo (hi - lo).toNat) (rangeL lo hi) F := by
  refine ⟨_, _, by unfold rangeL; rw [List.length_map, List.length_range]; exact walk_range, fun _ _ => trivial, fun i d hd H v H' hy g F1 σ env st e1 => ?_⟩
  obtain ⟨y1, y2⟩ := hy
  subst y1 y2
  obtain ⟨j, h1, rfl⟩ := map_get hd
  have hj := (List.getElem?_eq_some_iff.mp h1)
  have hj : i = j := by
    obtain ⟨h3, h4⟩ := hj
    simpa using h4
  subst hj
  exact ⟨F1, st, Ex.refl F1, .int _, Ex.refl _, fun a h => .inl h⟩
def rngM : PyData → PyData → (List PyData → Prop) → Prop
  | .int lo, .int hi, K => (-1000000 ≤ lo ∧ lo ≤ 1000000 ∧ -1000000 ≤ hi ∧ hi ≤ 1000000) ∧ K (rangeL lo hi)
  | _, _, _ => False
theorem range_len {lo hi : Int} (h : -1000000 ≤ lo ∧ lo ≤ 1000000 ∧ -1000000 ≤ hi ∧ hi ≤ 1000000) : (rangeL lo hi).length ≤ sizeLine := by
  unfold rangeL
  rw [List.length_map, List.length_range, sizeLine_eq]
  omega
theorem wi_r2 {Φ : List PyData → Prop} {p1 p2 : Pos} (hm : X.mg "range" = none) (h : WE X g a env (fun d1 _ => WE X g b env (fun d2 _ => rngM d1 d2 Φ) Ψ) Ψ) (hg : Gl X "range" := by rfl)
    (he : starEach [a, b] X.env = [(false, eval a X.env), (false, eval b X.env)] := by rfl) (he2 : starEach [b] X.env = [(false, eval b X.env)] := by rfl) : WI X g tg (.Call (.Name "range" p1) [a, b] [] p2) env Φ Ψ := fun W tk σ F H st hx R hR => by
  refine semI_of (pi_range2 hg hm (pa_cons (peS a) (pa_cons (peS b) pa_nil (by rw [he2]; rfl)) (by rw [he, he2])) he he2) ?_
  refine h W tk σ F H st hx _ fun d1 z1 v1 F1 H1 h1 s1 e1 r1 => ?_
  refine h1 W tk σ F1 H1 s1 hx _ fun d2 z2 v2 F2 H2 h2 s2 e2 r2 => ?_
  cases d1 with
  | int i =>
    cases d2 with
    | int j =>
      obtain ⟨hb, hi⟩ : (-1000000 ≤ i ∧ i ≤ 1000000 ∧ -1000000 ≤ j ∧ j ≤ 1000000) ∧ Φ (rangeL i j) := h2
      rw [rd_int r1, rd_int r2]
      exact ⟨i, j, rfl, by omega, hR _ _ F2 H2 hi (range_len hb) s2 (e1.trans e2) itok_rng⟩
    | _ => exact h2.elim
  | _ => cases d2 <;> exact h2.elim
theorem wi_r1 {Φ : List PyData → Prop} {p1 p2 : Pos} (hm : X.mg "range" = none) (h : WE X g a env (fun d1 _ => rngM (.int 0) d1 Φ) Ψ) (hg : Gl X "range" := by rfl)
    (he : starEach [a] X.env = [(false, eval a X.env)] := by rfl) : WI X g tg (.Call (.Name "range" p1) [a] [] p2) env Φ Ψ := fun W tk σ F H st hx R hR => by
  refine semI_of (pi_range1 hg hm (pa_cons (peS a) pa_nil (by rw [he]; rfl)) he) ?_
  refine h W tk σ F H st hx _ fun d2 z2 v2 F2 H2 h2 s2 e2 r2 => ?_
  cases d2 with
  | int j =>
    obtain ⟨hb, hi⟩ : (-1000000 ≤ (0 : Int) ∧ (0 : Int) ≤ 1000000 ∧ -1000000 ≤ j ∧ j ≤ 1000000) ∧ Φ (rangeL 0 j) := h2
    rw [rd_int r2]
    have := itok_rng (K := X.K) (F := F2) (lo := 0) (hi := j)
    rw [Int.sub_zero] at this
    exact ⟨j, rfl, by omega, by omega, hR _ _ F2 H2 hi (range_len hb) s2 e2 this⟩
  | _ => exact h2.elim
/-! enumerate over a list or a tuple -/
def enumL (xs : List PyData) : List PyData := xs.mapIdx fun i x => .tuple [.int (i : Nat), x]
def iEnA (K : Frag) (ta : TA) : TI := fun σ H R => ta σ H fun vs H1 => ∃ a xs, vs = [.ref a] ∧ ((SqL K H1 a xs ∧ (xs.length ≤ sizeLine → R (Ite K a) H1)) ∨ (SqT K H1 a xs ∧ (xs.length ≤ sizeLine → R (EnT K a) H1)))
theorem pi_enA {ta : TA} {tpos : Pos} {elts : List Expr} {kk : Nat} (hg : Gl X "enumerate") (hm : X.mg "enumerate" = none) (ha : PA X [e] ta) (hs : starEach [e] X.env = [(false, eval e X.env)] := by rfl) :
    PI X (.Tuple elts kk tpos) (.Call (.Name "enumerate" p) [e] [] pos) (iEnA X.K ta) := by
  refine ⟨fun pins s σ H R I h => ?_⟩
  refine Call_ (ld_blt I hg hm boot_enumerate (PyProof.Rows.callWith_type1 (thn (ha.run pos pins s σ H _ I h) fun us s1 ⟨vs, H1, I1, r1, q1⟩ => ?_) hs rfl))
  obtain ⟨a, xs, ex, hq | hq⟩ := q1
  · subst ex
    obtain ⟨hq, q⟩ := hq
    cases r1 with
    | cons r rr =>
      cases rr
      cases r
      obtain ⟨its, rv, p', hz⟩ := I1.list hq
      refine call_enumerate_list p'.isList fun h' he hit hsz hk => wpAny_pyIter_enum he ?_
      have I2 : Inv X pins σ H1 { s1 with heap := h' } := I1.kept (t' := s1.toks) hk
      refine ⟨s1.heap.objs.size + 1, [s1.heap.objs.size + 1, s1.heap.objs.size], _, _, H1, rfl, I2, turn_enum a (s1.heap.objs.size + 1) s1.heap.objs.size, ⟨⟨.none, he⟩, hit, Nat.succ_ne_self _⟩, fun b hb => ?_, q hz⟩
      have e' : b = s1.heap.objs.size + 1 ∨ b = s1.heap.objs.size := by simpa using hb
      have hle : s1.heap.objs.size ≤ b := by
        rcases e' with z | z
        · rw [z]; exact Nat.le_succ _
        · rw [z]; exact Nat.le_refl _
      exact I1.fpOk hle (I1.hok.fresh hle)
  · subst ex
    obtain ⟨sq, q⟩ := hq
    cases r1 with
    | cons r rr =>
      cases rr
      cases r
      obtain ⟨its, rv, pt, hz⟩ := I1.tuple sq
      refine enu_call (begins_tuple a its.toArray) pt fun h' en iv keep => wpAny_pyIter_enum en ?_
      have I2 : Inv X pins σ H1 { s1 with heap := h' } := I1.kept (t' := s1.toks) keep
      refine ⟨s1.heap.objs.size + 1, [s1.heap.objs.size + 1, s1.heap.objs.size], _, _, H1, rfl, I2, turn_en a (s1.heap.objs.size + 1) s1.heap.objs.size, ⟨⟨.none, en⟩, ⟨_, iv, rfl, rfl⟩, Nat.succ_ne_self _⟩, fun b hb => ?_, q hz⟩
      have hb2 : b = s1.heap.objs.size + 1 ∨ b = s1.heap.objs.size := by simpa using hb
      have le : s1.heap.objs.size ≤ b := by
        rcases hb2 with rfl | rfl
        · exact Nat.le_add_right _ _
        · exact Nat.le_refl _
      exact I1.fpOk le (I1.hok.fresh le)
theorem itok_pair {xs : List PyData} {vs : List V} {J : It} {G : Hp → Prop} (w : Walk J vs.length G (YPair (fun i => some (.int (i : Nat))) fun i => vs[i]?)) (hG : ∀ H, Ex F H → G H) (h : DqAll K F vs xs) : ItOk K J (enumL xs) F := by
  refine ⟨G, _, by unfold enumL; rw [List.length_mapIdx, ← dpa_len h]; exact w, hG, fun i d hd H v H' hy g F1 σ env st e1 => ?_⟩
  obtain ⟨T, x, y, y1, y2, y3, y4, y5⟩ := hy
  unfold enumL at hd
  rw [List.getElem?_mapIdx] at hd
  obtain ⟨d', hd', rfl⟩ := Option.map_eq_some_iff.mp hd
  obtain ⟨v', h1, h2⟩ := dpa_get h hd'
  have y5 : vs[i]? = some y := y5
  rw [y5] at h1
  cases h1
  cases y4
  subst y1 y3
  have hF := st.ex.none y2
  refine ⟨_, st.allocF (o := .tup [.int (i : Nat), y]) y2, Ex.new hF, .tup upd_same (.cons (.int _) (.cons (dp_mono (e1.trans (Ex.new hF)) _ _ h2) .nil)), Ex.new y2, fun a ha => ?_⟩
  by_cases ea : a = T
  · subst ea; exact .inr y2
  · rw [upd_ne ea] at ha; exact .inl ha
def enuM : PyData → (List PyData → Prop) → Prop
  | .list xs, K => K (enumL xs)
  | .tuple xs, K => K (enumL xs)
  | _, _ => False
theorem enum_len (xs : List PyData) : (enumL xs).length = xs.length := by unfold enumL; rw [List.length_mapIdx]
theorem wi_en {Φ : List PyData → Prop} {elts : List Expr} {kk : Nat} {tpos p1 : Pos} (hm : X.mg "enumerate" = none) (h : WE X g a env (fun d z => z = true ∧ enuM d Φ) Ψ) (hg : Gl X "enumerate" := by rfl)
    (he : starEach [a] X.env = [(false, eval a X.env)] := by rfl) : WI X g (.Tuple elts kk tpos) (.Call (.Name "enumerate" p1) [a] [] pos) env Φ Ψ := fun W tk σ F H st hx R hR => by
  refine semI_of (pi_enA hg hm (pa_cons (peS a) pa_nil (by rw [he]; rfl)) he) ?_
  refine h W tk σ F H st hx _ fun d z v F1 H1 ⟨hz, hi⟩ s1 e1 rd => ?_
  subst hz
  cases d with
  | list xs =>
    obtain ⟨a, vs, rfl, hsq, hda⟩ := dp_lst rd
    have hi : Φ (enumL xs) := hi
    exact ⟨a, vs, rfl, .inl ⟨ex_l s1.ex hsq, fun hl => hR _ _ F1 H1 hi (by rw [enum_len, ← dpa_len hda]; exact hl) s1 e1 (itok_pair walk_enum (fun H eH => ex_l eH hsq) hda)⟩⟩
  | tuple xs =>
    obtain ⟨a, vs, rfl, hsq, hda⟩ := dp_tup rd
    have hi : Φ (enumL xs) := hi
    exact ⟨a, vs, rfl, .inr ⟨ex_t s1.ex hsq, fun hl => hR _ _ F1 H1 hi (by rw [enum_len, ← dpa_len hda]; exact hl) s1 e1 (itok_pair walk_enT (fun H eH => ex_t eH hsq) hda)⟩⟩
  | _ => exact hi.elim
/-! for, by any iteration -/
theorem w1_for {t : TG} {A : PyData → Option (List (Nat × PyData))} (hp : PassesOwn (model X.prog X.w) X.A X.env X.xe) (hc : X.calm = true) (hpg : PG X tg t) (htd : TGd X.K t A)
    (hi : WI X g tg iter env (fun xs => ∃ Pv : Nat → List Sl → Prop, Pv 0 env ∧ (∀ i x, xs[i]? = some x → FT X g body A P Pv i x) ∧ ∀ e, Pv xs.length e → P.nx e) (fun c => P.ex c env))
    (hs : ∀ x, foldedSetIterable iter X.env x = pure x := by intro _; rfl) : W1 X g (.For tg iter body [] pos) env P := fun W tk hx2 σ F H s0 D hD => by
  refine semP_of (ps_for hp hc piS hpg (pssS body) hs) ?_
  refine hi W tk σ F H s0 (hx2.hx env σ) _ fun xs J F1 H1 ⟨Pv, p0, pt, pe⟩ hlen s1 e1 ⟨GG, Y, hw, hG, hy⟩ => ?_
  refine for_it hw (FJ X.K g F1 Pv) ⟨F1, env, s1, Ex.refl F1, p0⟩ (fun i σ' H' _ ⟨F2, e2, s2, ex2, _⟩ => hG _ (ex2.trans s2.ex)) (fun i x σ' H2 H3 hi2 hJ hY => ?_) (fun σ' H' ⟨F2, e2, s2, ex2, hp2⟩ => ?_)
  · obtain ⟨F2, e2, s2, ex2, hp2⟩ := hJ
    obtain ⟨d, hd⟩ : ∃ d, xs[i]? = some d := ⟨xs[i], by simp [hi2]⟩
    obtain ⟨F3, s3, ex3, hv, _, _⟩ := hy i d hd _ _ _ hY _ _ _ _ s2 ex2
    exact for_turn2 tk hx2 (hD.mono e1) htd hv s3 (ex2.trans ex3) hp2 (pt i d hd)
  · exact hD.nx e2 σ' F2 H' (pe e2 hp2) s2 (e1.trans ex2)
theorem lc_turn2 {scope : Scope} {ifs : List Expr} {elt : Expr} {t : TG} {A : PyData → Option (List (Nat × PyData))} {F1 : Hp} {vs : List Nat} {Pv : Nat → List PyData → Prop} {D : Addr} {i : Nat} {x : PyData} {v : V} {l : List (Nat × PyData)}
    (htd : TGd X.K t A) (hA : A x = some l) (hl : ∀ q ∈ l, q.1 ∈ vs ∧ q.1 < env.length) (hsz : i < sizeLine) {F : Hp} {acc : List PyData} {avs : List V} (st : St X.K g F H (wipe σ vs) (wipeE env vs)) (eF : Ex F1 F) (hv : Dq X.K F v x) (hD : H D = some (.lst avs)) (hd : DqAll X.K F avs acc) (fD : F D = none) (oD : ¬ Own (wipeE env vs) D) (gD : g.H0 D = none) (hp : Pv i acc) (hlen : acc.length ≤ i)
    (hb : ∀ (g' : G) s H0 C cl fp, WTs (BX X scope s H0 C cl fp) g' ifs (putsE (wipeE env vs) l) (fun b => (b = true → ∀ s H0 C cl fp, WE (BX X scope s H0 C cl fp) g' elt (putsE (wipeE env vs) l) (fun y z => z = true ∧ Pv (i + 1) (acc ++ [y])) (fun _ => False)) ∧ (b = false → Pv (i + 1) acc))) :
    t v (wipe σ vs) H fun σ2 H2 => wipe σ2 vs = wipe σ vs ∧ semTB X scope ifs σ2 H2 fun b H3 =>
      if b = true then semEB X scope elt σ2 H3 fun y H4 => ∃ acc, H4 D = some (.lst acc) ∧ acc.length < sizeLine ∧ LJ X.K g F1 (wipe σ vs) (wipeE env vs) Pv D (i + 1) (upd H4 D (.lst (acc ++ [y]))) else LJ X.K g F1 (wipe σ vs) (wipeE env vs) Pv D (i + 1) H3 := by
  refine htd x l (wipe σ vs) F H v _ hA st.ex hv fun r sr => ?_
  have hidx : ∀ q ∈ r, q.1 ∈ vs := setsP_idx sr fun q hq => (hl q hq).1
  refine ⟨by rw [wipe_putsV hidx]; exact wipe_wipe σ vs, ?_⟩
  -- the state within the turn, over a ground of its own
  have st1 : St X.K ⟨F, H, fps (wipeE env vs)⟩ F H (putsV (wipe σ vs) r) (putsE (wipeE env vs) l) := St.sets st.toSk.base sr fun q hq => by rw [wipeE_len]; exact (hl q hq).2
  have back : ∀ {F' H'}, St X.K ⟨F, H, fps (wipeE env vs)⟩ F' H' (putsV (wipe σ vs) r) (putsE (wipeE env vs) l) → Ex F F' → St X.K ⟨F, H, fps (wipeE env vs)⟩ F' H' (wipe σ vs) (wipeE env vs) := fun {F' H'} s' e' =>
    { len := by rw [wipe_length, wipeE_len]; have := s'.len; rw [putsE_len, wipeE_len] at this; rw [← this, putsV_len, wipe_length]
      sl := fun k s e => by
        by_cases hm : k ∈ vs
        · rw [wipeE_get, if_pos hm] at e
          obtain ⟨_, _, e⟩ := Option.map_eq_some_iff.mp e
          subst e
          trivial
        · have e2 : (putsE (wipeE env vs) l)[k]? = some s := by rw [putsE_get (i := k) fun q hq (z : q.1 = k) => hm (by rw [← z]; exact (hl q hq).1)]; exact e
          have q := s'.sl k s e2
          rw [putsV_get (i := k) fun q hq (z : q.1 = k) => hm (by rw [← z]; exact hidx q hq)] at q
          exact q
      nd := st.nd
      fr := fun a h => by
        obtain ⟨k, s, h1, h2⟩ := h
        by_cases hm : k ∈ vs
        · rw [wipeE_get, if_pos hm] at h1
          obtain ⟨_, _, e⟩ := Option.map_eq_some_iff.mp h1
          subst e
          cases h2
        · exact s'.fr a ⟨k, s, by rw [putsE_get (i := k) fun q hq (z : q.1 = k) => hm (by rw [← z]; exact (hl q hq).1)]; exact h1, h2⟩
      ex := s'.ex
      tf := s'.tf
      tk := s'.tk
      gt := s'.gt
      g1 := s'.g1
      g2 := fun a h => .inr (own_fps.mp h)
      g3 := s'.g3
      g4 := s'.g4
      g5 := s'.g5
      g6 := s'.g6 }
  have keepD : ∀ {F' H'}, St X.K ⟨F, H, fps (wipeE env vs)⟩ F' H' (putsV (wipe σ vs) r) (putsE (wipeE env vs) l) → H' D = some (.lst avs) ∧ F' D = none := fun {F' H'} s' => by
    refine ⟨s'.g1 D _ hD (fun z => oD (own_fps.mpr z)) (fun _ z => by cases z), ?_⟩
    cases q : F' D with
    | none => rfl
    | some u =>
      rcases s'.g4 D (by rw [q]; intro z; cases z) with z | z
      · exact absurd fD z
      · have z' : H D = none := z
        rw [hD] at z'; cases z'
  have tests : ∀ (Q : Bool → Hp → Prop), (∀ b F' H', ((b = true → ∀ s H0 C cl fp, WE (BX X scope s H0 C cl fp) ⟨F, H, fps (wipeE env vs)⟩ elt (putsE (wipeE env vs) l) (fun y z => z = true ∧ Pv (i + 1) (acc ++ [y])) (fun _ => False)) ∧ (b = false → Pv (i + 1) acc)) →
      St X.K ⟨F, H, fps (wipeE env vs)⟩ F' H' (putsV (wipe σ vs) r) (putsE (wipeE env vs) l) → Ex F F' → Q b H') → semTB X scope ifs (putsV (wipe σ vs) r) H Q := fun Q hQ => by
    cases ifs with
    | nil =>
      exact hQ true F H ⟨fun _ s H0 C cl fp => (hb _ (X.s_0) H0 C cl fp).1 rfl s H0 C cl fp, fun z => by cases z⟩ st1 (Ex.refl F)
    | cons c cs =>
      intro s H0 C cl fp
      refine hb _ s H0 C cl fp _ takesB _ F H st1 hxF Q fun b F' H' hbb s' e' => hQ b F' H' hbb s' e'
  refine tests _ fun b F' H' ⟨h1, h2⟩ s' e' => ?_
  cases b with
  | true =>
    rw [if_pos rfl]
    intro s H0 C cl fp
    refine h1 rfl s H0 C cl fp _ takesB _ F' H' s' hxF _ fun y z w F2 H2 ⟨hz, hp2⟩ s2 e2 rd => ?_
    subst hz
    obtain ⟨hD2, fD2⟩ := keepD s2
    refine ⟨avs, hD2, by rw [dpa_len hd]; omega, F2, acc ++ [y], avs ++ [w], ?_, eF.trans (e'.trans e2), upd_same, ?_, fD2, oD, gD, hp2, by rw [List.length_append, List.length_singleton]; omega⟩
    · have s3 := st.rebase (back s2 (e'.trans e2)) fun a h => h
      exact s3.untracked fD2 oD gD
    · exact dpa_app (dpa_mono (e'.trans e2) _ _ hd) (dpa_one rd)
  | false =>
    rw [if_neg Bool.false_ne_true]
    obtain ⟨hD2, fD2⟩ := keepD s'
    exact ⟨F', acc, avs, st.rebase (back s' e') fun a h => h, eF.trans e', hD2, dpa_mono e' _ _ hd, fD2, oD, gD, h2 rfl, by omega⟩

def LT2 (X : Cx) (env : List Sl) (scope : Scope) (ifs : List Expr) (elt : Expr) (vs : List Nat) (A : PyData → Option (List (Nat × PyData))) (Pv : Nat → List PyData → Prop) (i : Nat) (x : PyData) : Prop :=
  ∀ acc, Pv i acc → ∃ l, A x = some l ∧ (l.all fun q => vs.elem q.1 && Nat.blt q.1 env.length) = true ∧ ∀ (g' : G) s H0 C cl fp, WTs (BX X scope s H0 C cl fp) g' ifs (putsE (wipeE env vs) l) (fun b =>
    (b = true → ∀ s H0 C cl fp, WE (BX X scope s H0 C cl fp) g' elt (putsE (wipeE env vs) l) (fun y z => z = true ∧ Pv (i + 1) (acc ++ [y])) (fun _ => False)) ∧ (b = false → Pv (i + 1) acc))
section
variable {elt : Expr} {ifs : List Expr} {scope : Scope} {own : List (Str × Nat)} {t : TG} {A : PyData → Option (List (Nat × PyData))} {Φ : List PyData → Prop}
theorem nt_lc (htd : TGd X.K t A) (hwo : wipeOk env (own.map (·.2)) = true)
    (hi : WI X g tg iter env (fun xs => ∃ Pv : Nat → List PyData → Prop, Pv 0 [] ∧ (∀ i x, xs[i]? = some x → LT2 X env scope ifs elt (own.map (·.2)) A Pv i x) ∧ ∀ acc, Pv xs.length acc → Φ acc) Ψ) : WNt X g (tLc (semI X tg iter) t (semTB X scope ifs) (semEB X scope elt) (own.map (·.2))) env Φ Ψ := fun W tk σ F H st hx Q hQ => by
  refine hi W tk σ F H st hx _ fun xs J F1 H1 ⟨Pv, p0, pt, pe⟩ hlen s1 e1 ⟨GG, Y, hw, hG, hy⟩ => fun D hD => ?_
  have st2 : St X.K g F1 (upd H1 D (.lst [])) (wipe σ (own.map (·.2))) (wipeE env (own.map (·.2))) := (s1.alloc hD).wiped _
  refine lc_it hw (LJ X.K g F1 (wipe σ (own.map (·.2))) (wipeE env (own.map (·.2))) Pv D) ⟨F1, [], [], st2, Ex.refl F1, upd_same, .nil, s1.ex.none hD, fun z => s1.there (own_wipe z) hD, s1.h0 hD, p0, Nat.le_refl 0⟩ (fun i H2 _ ⟨F2, _, _, s3, e3, _⟩ => hG _ (e3.trans s3.ex)) (fun i x H2 H3 hi2 hJ hY => ?_) (fun H2 ⟨F2, acc, avs, s3, e3, hD3, hd3, fD, oD, gD, hp, _⟩ => ?_)
  · obtain ⟨F2, acc, avs, s3, e3, hD3, hd3, fD, oD, gD, hp, hl2⟩ := hJ
    obtain ⟨d, hd⟩ : ∃ d, xs[i]? = some d := ⟨xs[i], by simp [hi2]⟩
    obtain ⟨F3, s4, ex4, hv, exH, hF⟩ := hy i d hd _ _ _ hY _ _ _ _ s3 e3
    obtain ⟨l, hA, hl, hb⟩ := pt i d hd acc hp
    have fD3 : F3 D = none := by
      cases q : F3 D with
      | none => rfl
      | some u =>
        rcases hF D (by rw [q]; intro z; cases z) with z | z
        · exact absurd fD z
        · rw [hD3] at z; cases z
    exact lc_turn2 htd hA (lt_idx hl) (by omega) s4 (e3.trans ex4) hv (exH _ _ hD3) (dpa_mono ex4 _ _ hd3) fD3 oD gD hp hl2 hb
  · exact hQ acc (.ref D) F2 H2 (pe acc hp) (s1.unwiped hwo s3 e3) (e1.trans e3) ⟨D, avs, rfl, hD3, hd3, fD, fun z => s1.there z hD, gD⟩
theorem wn_lc (hc : X.calm = true) (hN : X.N.Nodup) (ok : BlkOk X.N X.env.scope scope own) (hpg : ∀ s H C cl fp, PG (BX X scope s H C cl fp) tg t) (htd : TGd X.K t A) (h1 : ifs.length ≤ 1) (hwo : wipeOk env (own.map (·.2)) = true)
    (hi : WI X g tg iter env (fun xs => ∃ Pv : Nat → List PyData → Prop, Pv 0 [] ∧ (∀ i x, xs[i]? = some x → LT2 X env scope ifs elt (own.map (·.2)) A Pv i x) ∧ ∀ acc, Pv xs.length acc → Φ acc) Ψ)
    (hs : ∀ x, foldedSetIterable iter X.env x = pure x := by intro _; rfl) : WN X g (.ListComp elt [⟨tg, iter, ifs, 0⟩] scope pos) env Φ Ψ := fun W tk σ F H st hx Q hQ =>
  semE_of (pe_lc hc hN piS ok hpg (ptsB h1) peB hs) (nt_lc htd hwo hi W tk σ F H st hx Q hQ)
end
end
end TL

/-! a program told as a plain predicate transformer over data -/
namespace TL
open PySem PySem.Spec PyProof.Rows L2
abbrev KD := PyData → Prop
abbrev KL := List PyData → Prop
abbrev KB := Bool → Prop
abbrev KX := Exc → Prop
def addM : PyData → PyData → KD → Prop
  | .int i, .int j, K => K (.int (i + j))
  | .str i, .str j, K => i.length + j.length ≤ sizeLine ∧ K (.str (i ++ j))
  | .list xs, .list ys, K => xs.length + ys.length ≤ sizeLine ∧ K (.list (xs ++ ys))
  | .tuple xs, .tuple ys, K => xs.length + ys.length ≤ sizeLine ∧ K (.tuple (xs ++ ys))
  | _, _, _ => False
def addLM : PyData → PyData → KL → Prop
  | .list xs, .list ys, K => xs.length + ys.length ≤ sizeLine ∧ K (xs ++ ys)
  | _, _, _ => False
def subM : PyData → PyData → KD → Prop
  | .int i, .int j, K => K (.int (i - j))
  | _, _, _ => False
def mulM : PyData → PyData → KD → Prop
  | .int i, .int j, K => (CMul i j ∨ CMulW i j) ∧ K (.int (i * j))
  | _, _, _ => False
def divM : PyData → PyData → KD → Prop
  | .int i, .int j, K => CDivW i j ∧ K (.int (i / j))
  | _, _, _ => False
def modM : PyData → PyData → KD → Prop
  | .int i, .int j, K => 0 < j ∧ K (.int (i % j))
  | _, _, _ => False
def negM : PyData → KD → Prop
  | .int i, K => K (.int (-i))
  | _, _ => False
def boolM : PyData → KB → Prop
  | .bool b, K => K b
  | _, _ => False
def eqM : PyData → PyData → KB → Prop
  | .int i, .int j, K => K (decide (i = j))
  | .str i, .str j, K => K (decide (i = j))
  | .bool i, .bool j, K => K (decide (i = j))
  | x, y, K => SeqAt.shaped x = true ∧ SeqAt.shaped y = true ∧ K (PyData.eqv x y)
def neM : PyData → PyData → KB → Prop
  | .int i, .int j, K => K (!decide (i = j))
  | .str i, .str j, K => K (!decide (i = j))
  | .bool i, .bool j, K => K (!decide (i = j))
  | x, y, K => SeqAt.shaped x = true ∧ SeqAt.shaped y = true ∧ K (!PyData.eqv x y)
def intsOf : List PyData → Option (List Int)
  | [] => some []
  | .int i :: r => match intsOf r with
    | some l => some (i :: l)
    | none => none
  | _ :: _ => none
def ltM : PyData → PyData → KB → Prop
  | .int i, .int j, K => K (decide (i < j))
  | .tuple xs, .tuple ys, K => match intsOf xs, intsOf ys with
    | some ns, some ms => K (HT.lexLt ns ms)
    | _, _ => False
  | _, _, _ => False
def leTup (ns ms : List Int) : Bool := Ob.lexAt (fun j => decide (ns.getD j 0 = ms.getD j 0)) (fun j => decide (ns.getD j 0 ≤ ms.getD j 0)) (decide (ns.length ≤ ms.length)) 0 (min ns.length ms.length)
def leM : PyData → PyData → KB → Prop
  | .int i, .int j, K => K (decide (i ≤ j))
  | .tuple xs, .tuple ys, K => match intsOf xs, intsOf ys with
    | some ns, some ms => K (leTup ns ms)
    | _, _ => False
  | _, _, _ => False
def gtM : PyData → PyData → KB → Prop
  | .int i, .int j, K => K (decide (j < i))
  | _, _, _ => False
def geM : PyData → PyData → KB → Prop
  | .int i, .int j, K => K (decide (j ≤ i))
  | _, _, _ => False
def flAll : List PyData → Option (List V)
  | [] => some []
  | d :: r => match fl d, flAll r with
    | some v, some l => some (v :: l)
    | _, _ => none
def inLstM (x : PyData) (ds : List PyData) (K : KB) : Prop := match fl x, flAll ds with
  | some v, some vs => K (inV v vs)
  | _, _ => SeqAt.shaped x = true ∧ SeqAt.shaped (.list ds) = true ∧ K (ds.any fun z => PyData.eqv z x)
def inTupM (x : PyData) (ds : List PyData) (K : KB) : Prop := match fl x, flAll ds with
  | some v, some vs => K (inV v vs)
  | _, _ => False
def inTplM (x : PyData) (ds : List PyData) (K : KB) : Prop := match fl x, flAll ds with
  | some v, some vs => K (inV v vs)
  | _, _ => SeqAt.shaped x = true ∧ SeqAt.shaped (.tuple ds) = true ∧ K (ds.any fun z => PyData.eqv z x)
def inM (x : PyData) : PyData → KB → Prop
  | .list ds, K => inLstM x ds K
  | .tuple ds, K => inTplM x ds K
  | .str t, K => match x with
    | .str s => K (!(Builtin.Str.occurrences t s 0 t.length 1).isEmpty)
    | _ => False
  | _, _ => False
def notInM (x c : PyData) (K : KB) : Prop := inM x c fun b => K (!b)
def ixM : PyData → PyData → KD → Prop
  | .list xs, .int i, K => match atI xs i with
    | some y => K y
    | none => False
  | .tuple xs, .int i, K => match atI xs i with
    | some y => K y
    | none => False
  | .str s, .int i, K => s.length ≤ sizeLine ∧ match atI s.cps.toList i with
    | some c => K (sgn c)
    | none => False
  | _, _, _ => False
def intO : PyData → (Int → Prop) → Prop
  | .int i, K => K i
  | _, _ => False
def slM : PyData → Option Int → Option Int → KD → Prop
  | .list xs, lo, hi, K => K (.list (cut xs lo hi))
  | .tuple xs, lo, hi, K => K (.tuple (cut xs lo hi))
  | .str z, lo, hi, K => z.length ≤ sizeLine ∧ K (.str (cutS z lo hi))
  | _, _, _, _ => False
def slLM : PyData → Option Int → Option Int → KL → Prop
  | .list xs, lo, hi, K => K (cut xs lo hi)
  | _, _, _, _ => False
def revM : PyData → KL → Prop
  | .list xs, K => K xs.reverse
  | _, _ => False
def lenM : PyData → KD → Prop
  | .list xs, K => K (.int xs.length)
  | .tuple xs, K => K (.int xs.length)
  | .str s, K => s.length ≤ sizeLine ∧ K (.int s.length)
  | _, _ => False
def absM : PyData → KD → Prop
  | .int i, K => K (.int (if i < 0 then -i else i))
  | _, _ => False
def sumM : PyData → KD → Prop
  | .list xs, K => match intsOf xs with
    | some ns => K (.int ns.sum)
    | none => False
  | _, _ => False
def boolsOf : List PyData → Option (List Bool)
  | [] => some []
  | .bool i :: r => match boolsOf r with
    | some l => some (i :: l)
    | none => none
  | _ :: _ => none
def allM : PyData → KD → Prop
  | .list xs, K => match boolsOf xs with
    | some ns => K (.bool (ns.all id))
    | none => False
  | _, _ => False
def anyM : PyData → KD → Prop
  | .list xs, K => match boolsOf xs with
    | some ns => K (.bool (ns.any id))
    | none => False
  | _, _ => False
def intM : PyData → KD → Prop
  | .int i, K => K (.int i)
  | .bool b, K => K (.int (if b then 1 else 0))
  | _, _ => False
def tupM : PyData → KD → Prop
  | .list xs, K => K (.tuple xs)
  | .tuple xs, K => K (.tuple xs)
  | _, _ => False
def listM : PyData → KL → Prop
  | .list xs, K => K xs
  | .tuple xs, K => K xs
  | _, _ => False
def sortM : PyData → KL → Prop
  | .list ds, K => (PySem.W.AllAlike ds ∧ PySem.W.Sortable ds ∧ ∀ d ∈ ds, SeqAt.shaped d = true) ∧ K (srt ds)
  | _, _ => False
def min2M : PyData → PyData → KD → Prop
  | .int i, .int j, K => K (.int (if j < i then j else i))
  | _, _, _ => False
def max2M : PyData → PyData → KD → Prop
  | .int i, .int j, K => K (.int (if j > i then j else i))
  | _, _, _ => False
def andM (ma mb : KB → Prop) (K : KB) : Prop := ma fun b => (b = true → mb K) ∧ (b = false → K false)
def orM (ma mb : KB → Prop) (K : KB) : Prop := ma fun b => (b = true → K true) ∧ (b = false → mb K)
def ifM {α : Type} (mt : KB → Prop) (ma mb : (α → Prop) → Prop) (K : α → Prop) : Prop := mt fun b => (b = true → ma K) ∧ (b = false → mb K)
/-- unpacking -/
def unp : List Nat → PyData → KL → Prop := fun n d K => match d with
  | .tuple xs => if xs.length = n.length then K xs else False
  | _ => False
def un2 : PyData → (PyData → PyData → Prop) → Prop
  | .tuple [a, b], K => K a b
  | _, _ => False
def un3 : PyData → (PyData → PyData → PyData → Prop) → Prop
  | .tuple [a, b, c], K => K a b c
  | _, _ => False
def un4 : PyData → (PyData → PyData → PyData → PyData → Prop) → Prop
  | .tuple [a, b, c, d], K => K a b c d
  | _, _ => False
def un5 : PyData → (PyData → PyData → PyData → PyData → PyData → Prop) → Prop
  | .tuple [a, b, c, d, e], K => K a b c d e
  | _, _ => False
theorem un2_sh {d : PyData} {K} (h : un2 d K) : ∃ a b, d = .tuple [a, b] ∧ K a b := by
  unfold un2 at h
  split at h
  · exact ⟨_, _, rfl, h⟩
  · exact h.elim
theorem un3_sh {d : PyData} {K} (h : un3 d K) : ∃ a b c, d = .tuple [a, b, c] ∧ K a b c := by
  unfold un3 at h
  split at h
  · exact ⟨_, _, _, rfl, h⟩
  · exact h.elim
theorem un4_sh {d : PyData} {K} (h : un4 d K) : ∃ a b c e, d = .tuple [a, b, c, e] ∧ K a b c e := by
  unfold un4 at h
  split at h
  · exact ⟨_, _, _, _, rfl, h⟩
  · exact h.elim
theorem un5_sh {d : PyData} {K} (h : un5 d K) : ∃ a b c e f, d = .tuple [a, b, c, e, f] ∧ K a b c e f := by
  unfold un5 at h
  split at h
  · exact ⟨_, _, _, _, _, rfl, h⟩
  · exact h.elim
/-! loops -/
def forM {σ : Type} (bd : PyData → σ → (σ → Prop) → (σ → Prop) → Prop) (K : σ → Prop) : List PyData → σ → Prop
  | [], s => K s
  | x :: xs, s => bd x s (fun s' => forM bd K xs s') K
def whileM {σ : Type} (st : σ → (σ → Prop) → (σ → Prop) → Prop) (K : σ → Prop) : Nat → σ → Prop
  | 0, _ => False
  | n + 1, s => st s (fun s' => whileM st K n s') K
def lcM {β : Type} (bd : PyData → (β → Prop) → Prop → Prop) (K : List β → Prop) : List PyData → List β → Prop
  | [], acc => K acc
  | x :: xs, acc => bd x (fun y => lcM bd K xs (acc ++ [y])) (lcM bd K xs acc)
/-- ways that come together -/
def joinM {σ : Type} (bd : (σ → Prop) → Prop) (K : σ → Prop) : Prop := bd K

section
variable {X : Cx} {g : G} {env env' : List Sl} {Ψ : Exc → Prop} {P : Po} {pos p lp : Pos} {a b c e tg iter : Expr} {es : List Expr} {rest body : List Stmt} {K : Frag} {F F' H H' : Hp} {σ σ' : SS} {x y : PyData} {z1 z2 : Bool}
theorem ws_env {env' : List Sl} (h : env = env') (k : WS X g rest env' P) : WS X g rest env P := h ▸ k
/-! operators -/
section
variable {Q : KD} {Φ : PyData → Bool → Prop}
theorem add_sh (h : addM x y Q) (k : ∀ r, Q r → Φ r true) : AddP Φ x z1 y z2 := by
  unfold addM at h
  split at h
  · exact .int (k _ h)
  · exact .str (k _ h.2) h.1
  · exact .lst (k _ h.2) h.1
  · exact .tup (k _ h.2) h.1
  · exact h.elim
theorem sub_sh (h : subM x y Q) (k : ∀ r, Q r → Φ r true) : IntP (fun _ _ => True) (fun i j => i - j) Φ x z1 y z2 := by
  unfold subM at h
  split at h
  · exact ⟨k _ h, trivial⟩
  · exact h.elim
inductive MulP (Φ : PyData → Bool → Prop) : PyData → Bool → PyData → Bool → Prop
  | mk {i j : Int} {z1 z2 : Bool} : Φ (.int (i * j)) true → CMul i j ∨ CMulW i j → MulP Φ (.int i) z1 (.int j) z2
theorem we_mulA (h : WE X g a env (fun d1 z1 => WE X g b env (fun d2 z2 => MulP Φ d1 z1 d2 z2) Ψ) Ψ) : WE X g (.BinOp a .Mult b pos) env Φ Ψ :=
  we_op (pe_op (op_mul.or op_mulW) (peS a) (peS b)) (fun _ _ _ _ ⟨h, hc⟩ => by
    rcases hc with hc | hc
    · exact dop_l (dop_I hc h fun F => .int _)
    · exact dop_r (dop_I hc h fun F => .int _)) h
theorem mul_sh (h : mulM x y Q) (k : ∀ r, Q r → Φ r true) : MulP Φ x z1 y z2 := by
  unfold mulM at h
  split at h
  · exact ⟨k _ h.2, h.1⟩
  · exact h.elim
theorem div_sh (h : divM x y Q) (k : ∀ r, Q r → Φ r true) : IntP CDivW (fun i j => i / j) Φ x z1 y z2 := by
  unfold divM at h
  split at h
  · exact ⟨k _ h.2, h.1⟩
  · exact h.elim
theorem mod_sh (h : modM x y Q) (k : ∀ r, Q r → Φ r true) : IntP (fun _ j => 0 < j) (fun i j => i % j) Φ x z1 y z2 := by
  unfold modM at h
  split at h
  · exact ⟨k _ h.2, h.1⟩
  · exact h.elim
theorem neg_sh (h : negM x Q) (k : ∀ r, Q r → Φ r true) : ∃ i, x = .int i ∧ Φ (.int (-i)) true := by
  unfold negM at h
  split at h
  · exact ⟨_, rfl, k _ h⟩
  · exact h.elim
theorem ix_sh (h : ixM x y Q) (k : ∀ r, Q r → Φ r true) : IxP Φ x z1 y z2 := by
  unfold ixM at h
  split at h
  · split at h
    · rename_i e; exact .lst (k _ h) e
    · exact h.elim
  · split at h
    · rename_i e; exact .tup (k _ h) e
    · exact h.elim
  · obtain ⟨h1, h⟩ := h
    split at h
    · rename_i e; exact .str (k _ h) h1 e
    · exact h.elim
  · exact h.elim
theorem len_sh (h : lenM x Q) (k : ∀ r, Q r → Φ r true) : LenP Φ x z1 := by
  unfold lenM at h
  split at h
  · exact .lst (k _ h)
  · exact .tup (k _ h)
  · exact .str (k _ h.2) h.1
  · exact h.elim
theorem abs_sh (h : absM x Q) (k : ∀ r, Q r → Φ r true) : ∃ i, x = .int i ∧ Φ (.int (if i < 0 then -i else i)) true := by
  unfold absM at h
  split at h
  · exact ⟨_, rfl, k _ h⟩
  · exact h.elim
theorem intsOf_eq : ∀ {xs : List PyData} {ns : List Int}, intsOf xs = some ns → xs = ns.map .int
  | [], _, h => by cases h; rfl
  | d :: r, ns, h => by
    cases d with
    | int i =>
      unfold intsOf at h
      split at h
      · rename_i l e; cases h; rw [intsOf_eq e]; rfl
      · cases h
    | _ => cases h
theorem ints_of (ns : List Int) : intsOf (ns.map .int) = some ns := by
  induction ns with
  | nil => rfl
  | cons n ns ih => show (match intsOf (ns.map .int) with | some l => some (n :: l) | none => none) = _; rw [ih]
theorem boolsOf_eq : ∀ {xs : List PyData} {ns : List Bool}, boolsOf xs = some ns → xs = ns.map .bool
  | [], _, h => by cases h; rfl
  | d :: r, ns, h => by
    cases d with
    | bool i =>
      unfold boolsOf at h
      split at h
      · rename_i l e; cases h; rw [boolsOf_eq e]; rfl
      · cases h
    | _ => cases h
theorem bools_of (ns : List Bool) : boolsOf (ns.map .bool) = some ns := by
  induction ns with
  | nil => rfl
  | cons n ns ih => show (match boolsOf (ns.map .bool) with | some l => some (n :: l) | none => none) = _; rw [ih]
theorem sum_sh (h : sumM x Q) (k : ∀ r, Q r → Φ r true) : ∃ ns : List Int, x = .list (ns.map .int) ∧ Φ (.int ns.sum) true := by
  unfold sumM at h
  split at h
  · split at h
    · rename_i e; exact ⟨_, by rw [intsOf_eq e], k _ h⟩
    · exact h.elim
  · exact h.elim
theorem all_sh (h : allM x Q) (k : ∀ r, Q r → Φ r true) : ∃ ns : List Bool, x = .list (ns.map .bool) ∧ Φ (.bool (ns.all id)) true := by
  unfold allM at h
  split at h
  · split at h
    · rename_i e; exact ⟨_, by rw [boolsOf_eq e], k _ h⟩
    · exact h.elim
  · exact h.elim
theorem any_sh (h : anyM x Q) (k : ∀ r, Q r → Φ r true) : ∃ ns : List Bool, x = .list (ns.map .bool) ∧ Φ (.bool (ns.any id)) true := by
  unfold anyM at h
  split at h
  · split at h
    · rename_i e; exact ⟨_, by rw [boolsOf_eq e], k _ h⟩
    · exact h.elim
  · exact h.elim
theorem int_sh (h : intM x Q) (k : ∀ r, Q r → Φ r true) : IntOfP Φ x z1 := by
  unfold intM at h
  split at h
  · exact .int (k _ h)
  · exact .bool (k _ h)
  · exact h.elim
theorem tup_sh (h : tupM x Q) (k : ∀ r, Q r → Φ r true) (hz : z1 = true ∨ isTyB "tuple" x = false := by exact Or.inl rfl) : TupP Φ x z1 := by
  unfold tupM at h
  split at h
  · exact .lst (k _ h)
  · rcases hz with hz | hz
    · subst hz; exact .tup (k _ h)
    · rename_i xs
      have e : isTyB "tuple" (.tuple xs) = true := by show (L2.kitB "tuple" "tuple").getD false = true; decide +kernel
      rw [e] at hz; cases hz
  · exact h.elim
theorem min2_sh (h : min2M x y Q) (k : ∀ r, Q r → Φ r true) : ∃ i j, x = .int i ∧ y = .int j ∧ Φ (.int (if j < i then j else i)) true := by
  unfold min2M at h
  split at h
  · exact ⟨_, _, rfl, rfl, k _ h⟩
  · exact h.elim
theorem max2_sh (h : max2M x y Q) (k : ∀ r, Q r → Φ r true) : ∃ i j, x = .int i ∧ y = .int j ∧ Φ (.int (if j > i then j else i)) true := by
  unfold max2M at h
  split at h
  · exact ⟨_, _, rfl, rfl, k _ h⟩
  · exact h.elim
end
theorem bool_sh {Q : KB} {Φ : Bool → Prop} (h : boolM x Q) (k : ∀ r, Q r → Φ r) : ∃ b, x = .bool b ∧ Φ b := by
  unfold boolM at h
  split at h
  · exact ⟨_, rfl, k _ h⟩
  · exact h.elim
/-! new lists -/
section
variable {Q : KL} {Φ : List PyData → Prop}
theorem addL_sh (h : addLM x y Q) (k : ∀ r, Q r → Φ r) : ∃ xs, x = .list xs ∧ ∃ ys, y = .list ys ∧ xs.length + ys.length ≤ sizeLine ∧ Φ (xs ++ ys) := by
  unfold addLM at h
  split at h
  · exact ⟨_, rfl, _, rfl, h.1, k _ h.2⟩
  · exact h.elim
theorem wn_addA (h : WE X g a env (fun d1 _ => WE X g b env (fun d2 _ => ∃ xs, d1 = .list xs ∧ ∃ ys, d2 = .list ys ∧ xs.length + ys.length ≤ sizeLine ∧ Φ (xs ++ ys)) Ψ) Ψ) : WN X g (.BinOp a .Add b pos) env Φ Ψ := fun W tk σ F H st hx Q hQ => by
  refine semE_of (pe_op op_catL (peS a) (peS b)) ?_
  refine h W tk σ F H st hx _ fun d1 z1 v1 F1 H1 h1 st1 e1 r1 => ?_
  refine h1 W tk σ F1 H1 st1 hx _ fun d2 z2 v2 F2 H2 ⟨xs, hx1, ys, hy1, hl, hp⟩ st2 e2 r2 => ?_
  subst hx1 hy1
  obtain ⟨a1, vs1, rfl, s1, p1⟩ := rd_lst st2.toSk (rd_mono e2 r1)
  obtain ⟨a2, vs2, rfl, s2, p2⟩ := rd_lst st2.toSk r2
  exact ⟨a1, a2, vs1, vs2, rfl, rfl, s1, s2, by rw [dpa_len p1, dpa_len p2]; exact hl, fun p hp' => put_new st2 hp' (dpa_app p1 p2) hp fun ds v F' H' q1 q2 q3 q4 => hQ ds v F' H' q1 q2 ((e1.trans e2).trans q3) q4⟩
theorem list_sh (h : listM x Q) (k : ∀ r, Q r → Φ r) : LstP Φ x z1 := by
  unfold listM at h
  split at h
  · exact .lst (k _ h)
  · exact .tup (k _ h)
  · exact h.elim
theorem sort_sh (h : sortM x Q) (k : ∀ r, Q r → Φ r) : ∃ ds, x = .list ds ∧ PySem.W.AllAlike ds ∧ PySem.W.Sortable ds ∧ (∀ d ∈ ds, SeqAt.shaped d = true) ∧ Φ (srt ds) := by
  unfold sortM at h
  split at h
  · exact ⟨_, rfl, h.1.1, h.1.2.1, h.1.2.2, k _ h.2⟩
  · exact h.elim
theorem wn_revA {j : Nat} {p1 p2 p3 : Pos} (h : WE X g a env (fun d _ => revM d Φ) Ψ) : WN X g (.Subscript a (.Slice none none (some (.UnaryOp .USub (.Constant (.int 1) j p1) p2)) p3) pos) env Φ Ψ := fun W tk σ F H st hx Q hQ => by
  refine semE_of (pe_revL (peS a)) ?_
  refine h W tk σ F H st hx _ fun d1 z1 v1 F1 H1 h1 st1 e1 r1 => ?_
  cases d1 with
  | list xs =>
    have h1 : Φ xs.reverse := h1
    obtain ⟨a1, vs1, rfl, s1, p1⟩ := rd_lst st1.toSk r1
    exact ⟨a1, vs1, rfl, s1, fun p hp => put_new st1 hp (dpa_rev p1) h1 fun ds v F' H' q1 q2 q3 q4 => hQ ds v F' H' q1 q2 (e1.trans q3) q4⟩
  | _ => exact h1.elim
theorem rev_sh (h : revM x Q) (k : ∀ r, Q r → Φ r) : revM x Φ := by
  unfold revM at *
  split at h
  · exact k _ h
  · exact h.elim
end
theorem slL_sh {Q : KL} {Φ : List PyData → Prop} {lo hi : Option Int} (h : slLM x lo hi Q) (k : ∀ r, Q r → Φ r) : slLM x lo hi Φ := by
  unfold slLM at *
  split at h
  · exact k _ h
  · exact h.elim
theorem wn_slA {lo hi : Option Expr} {p2 : Pos} {Φ : List PyData → Prop} (h : WE X g a env (fun d1 _ => WP X g lo env (fun l => WP X g hi env (fun u => slLM d1 l u Φ) Ψ) Ψ) Ψ) : WN X g (.Subscript a (.Slice lo hi none p2) pos) env Φ Ψ := fun W tk σ F H st hx Q hQ => by
  refine semE_of (pe_slice sl_list (peS a) (poS lo) (poS hi)) ?_
  refine h W tk σ F H st hx _ fun d1 z1 v1 F1 H1 h1 st1 e1 r1 => ?_
  refine wp_run h1 tk st1 hx fun l F2 H2 h2 st2 e2 => wp_run h2 tk st2 hx fun u F3 H3 h3 st3 e3 => ?_
  cases d1 with
  | list xs =>
    have h3 : Φ (cut xs l u) := h3
    obtain ⟨a1, vs1, rfl, s1, p1⟩ := rd_lst st3.toSk (rd_mono (e2.trans e3) r1)
    exact ⟨a1, vs1, rfl, s1, fun p hp => put_new st3 hp (dpa_cut p1 l u) h3 fun ds v F' H' hp s e r => hQ ds v F' H' hp s (((e1.trans e2).trans e3).trans e) r⟩
  | _ => exact h3.elim
theorem sl_sh {Q : KD} {Φ : KD} {lo hi : Option Int} (h : slM x lo hi Q) (k : ∀ r, Q r → Φ r) : slM x lo hi Φ := by
  unfold slM at *
  split at h
  · exact k _ h
  · exact k _ h
  · exact ⟨h.1, k _ h.2⟩
  · exact h.elim
theorem we_slA {lo hi : Option Expr} {p2 : Pos} {Φ : PyData → Bool → Prop} (h : WE X g a env (fun d1 z => z = true ∧ WP X g lo env (fun l => WP X g hi env (fun u => slM d1 l u fun r => Φ r true) Ψ) Ψ) Ψ) : WE X g (.Subscript a (.Slice lo hi none p2) pos) env Φ Ψ := fun W tk σ F H st hx Q hQ => by
  refine semE_of (pe_slice (sl_list.or (sl_tupA.or sl_str)) (peS a) (poS lo) (poS hi)) ?_
  refine h W tk σ F H st hx _ fun d1 z1 v1 F1 H1 ⟨hz, h1⟩ st1 e1 r1 => ?_
  subst hz
  refine wp_run h1 tk st1 hx fun l F2 H2 h2 st2 e2 => wp_run h2 tk st2 hx fun u F3 H3 h3 st3 e3 => ?_
  have E := (e1.trans e2).trans e3
  have r3 := rd_mono (e2.trans e3) r1
  cases d1 with
  | list xs =>
    have h3 : Φ (.list (cut xs l u)) true := h3
    obtain ⟨a1, vs1, rfl, s1, p1⟩ := rd_lst st3.toSk r3
    exact .inl ⟨a1, vs1, rfl, s1, fun p hp => put_lst st3 hp (dpa_cut p1 l u) h3 fun d z v F' H' q1 q2 q3 q4 => hQ d z v F' H' q1 q2 (E.trans q3) q4⟩
  | tuple xs =>
    have h3 : Φ (.tuple (cut xs l u)) true := h3
    obtain ⟨a1, vs1, rfl, s1, p1⟩ := rd_tup st3.toSk r3
    refine .inr (.inl ⟨a1, vs1, rfl, s1, fun hw => ?_, fun _ p hp => put_tup st3 hp (dpa_cut p1 l u) h3 fun d z v F' H' q1 q2 q3 q4 => hQ d z v F' H' q1 q2 (E.trans q3) q4⟩)
    rw [dpa_len p1] at hw
    rw [cut_whole hw] at h3
    exact hQ _ true _ F3 H3 h3 st3 E r3
  | str s =>
    obtain ⟨hl, h3⟩ : s.length ≤ sizeLine ∧ Φ (.str (cutS s l u)) true := h3
    rw [rd_str r3]
    exact .inr (.inr ⟨s, rfl, hl, hQ _ true _ F3 H3 h3 st3 E (.str _)⟩)
  | _ => exact h3.elim
theorem into_sh {Q : Int → Prop} {Φ : Int → Prop} (h : intO x Q) (k : ∀ r, Q r → Φ r) : ∃ i, x = .int i ∧ Φ i := by
  unfold intO at h
  split at h
  · exact ⟨_, rfl, k _ h⟩
  · exact h.elim
/-! comparisons -/
section
variable {Q : KB} {Φ : KB}
theorem eq_sh (h : eqM x y Q) (k : ∀ b, Q b → Φ b) : ∃ b, CP K g env (rEqA K) x z1 y z2 b ∧ Φ b := by
  unfold eqM at h
  split at h
  · exact ⟨_, cp_eqI, k _ h⟩
  · exact ⟨_, cp_eqS, k _ h⟩
  · exact ⟨_, cp_eqB, k _ h⟩
  · exact ⟨_, cp_eqD h.1 h.2.1, k _ h.2.2⟩
theorem ne_sh (h : neM x y Q) (k : ∀ b, Q b → Φ b) : ∃ b, CP K g env (rNeA K) x z1 y z2 b ∧ Φ b := by
  unfold neM at h
  split at h
  · exact ⟨_, cp_neI, k _ h⟩
  · exact ⟨_, cp_neS, k _ h⟩
  · exact ⟨_, cp_neB, k _ h⟩
  · exact ⟨_, cp_neD h.1 h.2.1, k _ h.2.2⟩
theorem lt_sh (h : ltM x y Q) (k : ∀ b, Q b → Φ b) : ∃ b, CP K g env (rLtA K) x z1 y z2 b ∧ Φ b := by
  unfold ltM at h
  split at h
  · exact ⟨_, cp_lt, k _ h⟩
  · split at h
    · rename_i e1 e2
      rw [intsOf_eq e1, intsOf_eq e2]
      exact ⟨_, cp_ltT, k _ h⟩
    · exact h.elim
  · exact h.elim
abbrev rLeA (K : Frag) : R2 := fun x y H Q => (rI0 fun i j => .bl (decide (i ≤ j))) x y H Q ∨ rLeT K x y H Q
theorem op_leA {k : Nat} (hr : Room k X.A) : OpR X (compareOp .LtE) (rLeA X.K) := op_le.or (op_leT hr.units0)
theorem cp_leA {i j : Int} : CP K g env (rLeA K) (.int i) z1 (.int j) z2 (decide (i ≤ j)) := cp_l cp_le
theorem cp_leTA (ns ms : List Int) : CP K g env (rLeA K) (.tuple (ns.map .int)) z1 (.tuple (ms.map .int)) z2 (leTup ns ms) := cp_r fun σ F H v1 v2 st r1 r2 Q q => by
  obtain ⟨a1, vs1, rfl, s1, p1⟩ := rd_tup st.toSk r1
  obtain ⟨a2, vs2, rfl, s2, p2⟩ := rd_tup st.toSk r2
  rw [dpa_ints_eq p1] at s1
  rw [dpa_ints_eq p2] at s2
  exact ⟨a1, a2, ns, ms, rfl, rfl, s1, s2, q⟩
theorem le_sh (h : leM x y Q) (k : ∀ b, Q b → Φ b) : ∃ b, CP K g env (rLeA K) x z1 y z2 b ∧ Φ b := by
  unfold leM at h
  split at h
  · exact ⟨_, cp_leA, k _ h⟩
  · split at h
    · rename_i e1 e2
      rw [intsOf_eq e1, intsOf_eq e2]
      exact ⟨_, cp_leTA _ _, k _ h⟩
    · exact h.elim
  · exact h.elim
theorem gt_sh (h : gtM x y Q) (k : ∀ b, Q b → Φ b) : ∃ b, CP K g env (rI0 fun i j => .bl (decide (j < i))) x z1 y z2 b ∧ Φ b := by
  unfold gtM at h
  split at h
  · exact ⟨_, cp_gt, k _ h⟩
  · exact h.elim
theorem ge_sh (h : geM x y Q) (k : ∀ b, Q b → Φ b) : ∃ b, CP K g env (rI0 fun i j => .bl (decide (j ≤ i))) x z1 y z2 b ∧ Φ b := by
  unfold geM at h
  split at h
  · exact ⟨_, cp_ge, k _ h⟩
  · exact h.elim
theorem flAll_dp : ∀ {ds : List PyData} {vs xs : List V}, flAll ds = some xs → DqAll K F vs ds → vs = xs
  | [], _, _, h, q => by cases q; cases h; rfl
  | d :: r, _, _, h, q => by
    cases q with
    | cons q1 q2 =>
      unfold flAll at h
      split at h
      · rename_i e1 e2
        cases h
        rw [fl_dp q1 e1, flAll_dp e2 q2]
      · cases h
theorem flAll_flat : ∀ {ds : List PyData} {xs : List V}, flAll ds = some xs → xs.all flatV = true
  | [], _, h => by cases h; rfl
  | d :: r, _, h => by
    unfold flAll at h
    split at h
    · rename_i e1 e2
      cases h
      rw [List.all_cons, fl_flat e1, flAll_flat e2]; rfl
    · cases h
theorem in_sh (h : inM x y Q) (k : ∀ b, Q b → Φ b) : ∃ b, CP K g env (rInA K) x z1 y z2 b ∧ Φ b := by
  cases y with
  | list ds =>
    have h : inLstM x ds Q := h
    unfold inLstM at h
    split at h
    · rename_i v vs e1 e2
      refine ⟨_, cp_l fun σ F H v1 v2 st r1 r2 Q q => ?_, k _ h⟩
      obtain ⟨a2, vs2, rfl, s2, p2⟩ := rd_lst st.toSk r2
      have e3 := fl_dp (rd_now st.toSk r1) e1
      have e4 := flAll_dp e2 p2
      subst e3 e4
      exact ⟨a2, vs2, rfl, .inl s2, fl_flat e1, flAll_flat e2, q⟩
    · exact ⟨_, cp_inD h.1 h.2.1, k _ h.2.2⟩
  | tuple ds =>
    have h : inTplM x ds Q := h
    unfold inTplM at h
    split at h
    · rename_i v vs e1 e2
      refine ⟨_, cp_l fun σ F H v1 v2 st r1 r2 Q q => ?_, k _ h⟩
      obtain ⟨a2, vs2, rfl, s2, p2⟩ := rd_tup st.toSk r2
      have e3 := fl_dp (rd_now st.toSk r1) e1
      have e4 := flAll_dp e2 p2
      subst e3 e4
      exact ⟨a2, vs2, rfl, .inr s2, fl_flat e1, flAll_flat e2, q⟩
    · exact ⟨_, cp_inTD h.1 h.2.1, k _ h.2.2⟩
  | str t =>
    cases x with
    | str s => exact ⟨_, cp_inS, k _ h⟩
    | _ => exact (show False from h).elim
  | _ => exact (show False from h).elim
theorem notIn_sh (h : notInM x y Q) (k : ∀ b, Q b → Φ b) : ∃ b, CP K g env (rNotInA K) x z1 y z2 b ∧ Φ b := by
  cases y with
  | list ds =>
    have h : inLstM x ds (fun b => Q (!b)) := h
    unfold inLstM at h
    split at h
    · rename_i v vs e1 e2
      refine ⟨_, cp_l fun σ F H v1 v2 st r1 r2 Q q => ?_, k _ h⟩
      obtain ⟨a2, vs2, rfl, s2, p2⟩ := rd_lst st.toSk r2
      have e3 := fl_dp (rd_now st.toSk r1) e1
      have e4 := flAll_dp e2 p2
      subst e3 e4
      exact ⟨a2, vs2, rfl, .inl s2, fl_flat e1, flAll_flat e2, q⟩
    · exact ⟨_, cp_notInD h.1 h.2.1, k _ h.2.2⟩
  | tuple ds =>
    have h : inTplM x ds (fun b => Q (!b)) := h
    unfold inTplM at h
    split at h
    · rename_i v vs e1 e2
      refine ⟨_, cp_l fun σ F H v1 v2 st r1 r2 Q q => ?_, k _ h⟩
      obtain ⟨a2, vs2, rfl, s2, p2⟩ := rd_tup st.toSk r2
      have e3 := fl_dp (rd_now st.toSk r1) e1
      have e4 := flAll_dp e2 p2
      subst e3 e4
      exact ⟨a2, vs2, rfl, .inr s2, fl_flat e1, flAll_flat e2, q⟩
    · exact ⟨_, cp_notInTD h.1 h.2.1, k _ h.2.2⟩
  | str t =>
    cases x with
    | str s => exact ⟨_, cp_notInS, k _ h⟩
    | _ => exact (show False from h).elim
  | _ => exact (show False from h).elim
theorem isN_sh (k : Φ (isNone x)) : ∃ b, CP K g env rIsN x z1 .none z2 b ∧ Φ b := ⟨_, cp_isN, k⟩
theorem notN_sh (k : Φ (!isNone x)) : ∃ b, CP K g env rNotN x z1 .none z2 b ∧ Φ b := ⟨_, cp_notN, k⟩
end
/-! and, or, if .. else, chains: by ways -/
section
variable {ma mb mt : KB → Prop} {Q : KB} {Φ : KB}
theorem WW.mono {Φ' : Bool → Prop} (h : WW X g e env Φ Ψ) (k : ∀ d, Φ d → Φ' d) : WW X g e env Φ' Ψ :=
  fun W tk σ F H st hx Q hQ => h W tk σ F H st hx Q fun b F' H' p => hQ b F' H' (k b p)
theorem ww_andS {re : List Expr} (h : andM ma mb Q) (ha : ∀ Q, ma Q → WT X g a env Q Ψ) (hb : ∀ Q, mb Q → WW X g (.BoolOp .And (b :: re) pos) env Q Ψ) (k : ∀ r, Q r → Φ r) : WW X g (.BoolOp .And (a :: b :: re) pos) env Φ Ψ :=
  ww_and ((ha _ h).mono fun r ⟨h1, h2⟩ => ⟨fun e => (hb _ (h1 e)).mono k, fun e => k _ (h2 e)⟩)
theorem ww_orS {re : List Expr} (h : orM ma mb Q) (ha : ∀ Q, ma Q → WT X g a env Q Ψ) (hb : ∀ Q, mb Q → WW X g (.BoolOp .Or (b :: re) pos) env Q Ψ) (k : ∀ r, Q r → Φ r) : WW X g (.BoolOp .Or (a :: b :: re) pos) env Φ Ψ :=
  ww_or ((ha _ h).mono fun r ⟨h1, h2⟩ => ⟨fun e => k _ (h1 e), fun e => (hb _ (h2 e)).mono k⟩)
theorem we_andS {re : List Expr} {Φ : PyData → Bool → Prop} (h : andM ma mb Q) (ha : ∀ Q, ma Q → WE X g a env (fun d _ => ∃ k, d = .bool k ∧ Q k) Ψ) (hb : ∀ Q, mb Q → WE X g (.BoolOp .And (b :: re) pos) env (fun d _ => ∃ k, d = .bool k ∧ Q k) Ψ) (k : ∀ r, Q r → Φ (.bool r) true) : WE X g (.BoolOp .And (a :: b :: re) pos) env Φ Ψ :=
  we_and ((ha _ h).mono fun d z ⟨r, hd, h1, h2⟩ => ⟨r, hd, fun e => by
    intro W tk σ F H st hx Q' hQ'
    refine hb _ (h1 e) W tk σ F H st hx Q' fun d z v F' H' ⟨r2, hd2, h3⟩ s1 e1 r1 => ?_
    subst hd2
    have := rd_bl r1
    subst this
    exact hQ' _ true _ F' H' (k _ h3) s1 e1 (.bl _), fun e => k _ (h2 e)⟩)
theorem we_orS {re : List Expr} {Φ : PyData → Bool → Prop} (h : orM ma mb Q) (ha : ∀ Q, ma Q → WE X g a env (fun d _ => ∃ k, d = .bool k ∧ Q k) Ψ) (hb : ∀ Q, mb Q → WE X g (.BoolOp .Or (b :: re) pos) env (fun d _ => ∃ k, d = .bool k ∧ Q k) Ψ) (k : ∀ r, Q r → Φ (.bool r) true) : WE X g (.BoolOp .Or (a :: b :: re) pos) env Φ Ψ :=
  we_or ((ha _ h).mono fun d z ⟨r, hd, h1, h2⟩ => ⟨r, hd, fun e => k _ (h1 e), fun e => by
    intro W tk σ F H st hx Q' hQ'
    refine hb _ (h2 e) W tk σ F H st hx Q' fun d z v F' H' ⟨r2, hd2, h3⟩ s1 e1 r1 => ?_
    subst hd2
    have := rd_bl r1
    subst this
    exact hQ' _ true _ F' H' (k _ h3) s1 e1 (.bl _)⟩)
theorem we_ifS {m1 m2 : KD → Prop} {Q : KD} {Φ : PyData → Bool → Prop} (h : ifM mt m1 m2 Q) (ht : ∀ Q, mt Q → WT X g c env Q Ψ) (h1 : ∀ Q, m1 Q → WE X g a env (fun d z => z = true ∧ Q d) Ψ) (h2 : ∀ Q, m2 Q → WE X g b env (fun d z => z = true ∧ Q d) Ψ) (k : ∀ d, Q d → Φ d true) : WE X g (.IfExp c a b pos) env Φ Ψ :=
  we_if ((ht _ h).mono fun r ⟨q1, q2⟩ => ⟨fun e => (h1 _ (q1 e)).mono fun d z ⟨hz, hd⟩ => hz ▸ k d hd, fun e => (h2 _ (q2 e)).mono fun d z ⟨hz, hd⟩ => hz ▸ k d hd⟩)
theorem ch_sh {r : R2} {d1 : PyData} {z1 : Bool} {G : Bool → Prop → Prop → Prop} {cond : Bool → Prop} {rest : Prop} (h : andM ma mb Q) (h1 : ∀ Q, ma Q → ∃ k, cond k ∧ Q k) (h2 : mb Q → rest) (h3 : Q false → Φ false) : ∃ k, cond k ∧ (k = true → rest) ∧ (k = false → Φ false) := by
  obtain ⟨k, hk, q1, q2⟩ := h1 _ h
  exact ⟨k, hk, fun e => h2 (q1 e), fun e => h3 (q2 e)⟩
end
/-! loops -/
section
variable {t : TG} {A : PyData → Option (List (Nat × PyData))} {τ υ : Type}
theorem forS {bd : PyData → τ → (τ → Prop) → (τ → Prop) → Prop} {Q : τ → Prop} {xs : List PyData} {s0 : τ} (h : forM bd Q xs s0) (mk : τ → υ → List Sl) (u0 : υ) (h0 : env = mk s0 u0) (hend : ∀ s u, Q s → P.nx (mk s u))
    (hturn : (∀ s u, Q s → P.nx (mk s u)) → ∀ x s u (N : τ → Prop), bd x s N Q → ∃ l, A x = some l ∧ (l.all fun q => Nat.blt q.1 (mk s u).length) = true ∧ WS X g body (putsE (mk s u) l) (P.turn fun e => ∃ s' u', N s' ∧ e = mk s' u')) :
    ∃ Pv : Nat → List Sl → Prop, Pv 0 env ∧ (∀ i x, xs[i]? = some x → FT X g body A P Pv i x) ∧ ∀ e, Pv xs.length e → P.nx e := by
  refine ⟨fun i e => ∃ s u, forM bd Q (xs.drop i) s ∧ e = mk s u, ⟨s0, u0, h, h0⟩, fun i x hx e ⟨s, u, hf, he⟩ => ?_, fun e ⟨s, u, hf, he⟩ => ?_⟩
  · subst he
    have hi := (List.getElem?_eq_some_iff.mp hx).1
    have ed : xs.drop i = x :: xs.drop (i + 1) := by
      rw [List.drop_eq_getElem_cons hi]
      congr 1
      exact (List.getElem?_eq_some_iff.mp hx).2
    rw [ed] at hf
    obtain ⟨l, h1, h2, h3⟩ := hturn hend x s u _ hf
    exact ⟨l, h1, h2, h3⟩
  · subst he
    rw [List.drop_length] at hf
    exact hend s u hf
theorem whileS {st : τ → (τ → Prop) → (τ → Prop) → Prop} {Q : τ → Prop} {s0 : τ} (h : ∃ n, whileM st Q n s0) (hp : PassesOwn (model X.prog X.w) X.A X.env X.xe) (mk : τ → υ → List Sl) (u0 : υ) (h0 : env = mk s0 u0) (hend : ∀ s u, Q s → P.nx (mk s u))
    (hturn : (∀ s u, Q s → P.nx (mk s u)) → ∀ s u (N : τ → Prop), st s N Q → WT X g c (mk s u) (fun k => (k = true → WS X g body (mk s u) (P.turn fun e => ∃ s' u', N s' ∧ e = mk s' u')) ∧ (k = false → P.nx (mk s u))) (fun c => P.ex c (mk s u))) : W1 X g (.While c body [] pos) env P := by
  obtain ⟨n, h⟩ := h
  refine w1_while hp (fun m e => ∃ s u, whileM st Q m s ∧ e = mk s u) n ⟨s0, u0, h, h0⟩ fun m e ⟨s, u, hw, he⟩ => ?_
  subst he
  cases m with
  | zero => exact hw.elim
  | succ m =>
    refine (hturn hend s u _ hw).mono fun k ⟨h1, h2⟩ => ⟨fun e => ?_, h2⟩
    exact (h1 e).mono (fun e ⟨s', u', h3, h4⟩ => ⟨m, Nat.lt_succ_self _, s', u', h3, h4⟩) (fun _ _ h => h) (fun _ h => h) (fun e ⟨s', u', h3, h4⟩ => ⟨m, Nat.lt_succ_self _, s', u', h3, h4⟩) (fun _ _ h => h)
theorem lcS {bd : PyData → KD → Prop → Prop} {Q : KL} {xs : List PyData} {scope : Scope} {ifs : List Expr} {elt : Expr} {vs : List Nat} {Φ : List PyData → Prop} (h : lcM bd Q xs []) 
    (ht : ∀ x (kp : KD) (sk : Prop), bd x kp sk → ∃ l, A x = some l ∧ (l.all fun q => vs.elem q.1 && Nat.blt q.1 env.length) = true ∧ ∀ (g' : G) s H0 C cl fp, WTs (BX X scope s H0 C cl fp) g' ifs (putsE (wipeE env vs) l) (fun b =>
      (b = true → ∀ s H0 C cl fp, WE (BX X scope s H0 C cl fp) g' elt (putsE (wipeE env vs) l) (fun y z => z = true ∧ kp y) (fun _ => False)) ∧ (b = false → sk))) (k : ∀ acc, Q acc → Φ acc) :
    ∃ Pv : Nat → List PyData → Prop, Pv 0 [] ∧ (∀ i x, xs[i]? = some x → LT2 X env scope ifs elt vs A Pv i x) ∧ ∀ acc, Pv xs.length acc → Φ acc := by
  refine ⟨fun i acc => lcM bd Q (xs.drop i) acc, h, fun i x hx acc hq => ?_, fun acc hq => k acc (by
    have hq : lcM bd Q (xs.drop xs.length) acc := hq
    rw [List.drop_length] at hq; exact hq)⟩
  have hi := (List.getElem?_eq_some_iff.mp hx).1
  have ed : xs.drop i = x :: xs.drop (i + 1) := by
    rw [List.drop_eq_getElem_cons hi]
    congr 1
    exact (List.getElem?_eq_some_iff.mp hx).2
  have hq : lcM bd Q (xs.drop i) acc := hq
  rw [ed] at hq
  exact ht x _ _ hq
end
/-- behind ways that come together -/
theorem ws_joinS {τ υ : Type} {st : Stmt} {bd : (τ → Prop) → Prop} {Q : τ → Prop} (h : joinM bd Q) (mk : τ → υ → List Sl) (h1 : ∀ Q, bd Q → W1 X g st env (P.thn fun e => ∃ s u, Q s ∧ e = mk s u)) (h2 : ∀ s u, Q s → WS X g rest (mk s u) P) : WS X g (st :: rest) env P :=
  ws_mid (fun e => ∃ s u, Q s ∧ e = mk s u) (h1 Q h) fun e ⟨s, u, hq, he⟩ => he ▸ h2 s u hq
end
end TL

namespace TL
open PySem PySem.Spec PyProof.Rows L2
def setM (ds : List PyData) : PyData → PyData → KL → Prop
  | .int n, v, K => match ixN ds.length n with
    | some j => K (ds.set j v)
    | none => False
  | _, _, _ => False
def keyA : PyData → Option Key
  | .int i => some (.inl i)
  | .str s => some (.inr s)
  | _ => none
def keyAs : List PyData → Option (List Key)
  | [] => some []
  | d :: r => match keyA d, keyAs r with
    | some k, some l => some (k :: l)
    | _, _ => none
def keyT : PyData → Option (List Key)
  | .tuple xs => keyAs xs
  | _ => none
def getTM (kvs : List (List Key × PyData)) (key : PyData) (K : KD) : Prop := match keyT key with
  | some k => match valP kvs k with
    | some d => K d
    | none => False
  | none => False
def getKM (kvs : List (Key × PyData)) (key : PyData) (K : KD) : Prop := match keyA key with
  | some k => match valP kvs k with
    | some d => K d
    | none => False
  | none => False
def inTM (kvs : List (List Key × PyData)) (key : PyData) (K : KB) : Prop := match keyT key with
  | some k => K (valP kvs k).isSome
  | none => False
def inKM (kvs : List (Key × PyData)) (key : PyData) (K : KB) : Prop := match keyA key with
  | some k => K (valP kvs k).isSome
  | none => False
def putTM (kvs : List (List Key × PyData)) (key v : PyData) (K : List (List Key × PyData) → Prop) : Prop := match keyT key with
  | some k => kvs.length < sizeLine ∧ K (putP kvs k v)
  | none => False
def putKM (kvs : List (Key × PyData)) (key v : PyData) (K : List (Key × PyData) → Prop) : Prop := match keyA key with
  | some k => kvs.length < sizeLine ∧ K (putP kvs k v)
  | none => False
def keysT (kvs : List (List Key × PyData)) : List PyData := kvs.map fun kv => .tuple (kv.1.map kD)
theorem keyA_eq {d : PyData} {k : Key} (h : keyA d = some k) : d = kD k := by
  unfold keyA at h
  split at h
  · cases h; rfl
  · cases h; rfl
  · cases h
theorem keyAs_eq : ∀ {ds : List PyData} {k : List Key}, keyAs ds = some k → ds = k.map kD
  | [], _, h => by cases h; rfl
  | d :: r, _, h => by
    unfold keyAs at h
    split at h
    · rename_i e1 e2
      cases h
      rw [keyA_eq e1, keyAs_eq e2]; rfl
    · cases h
theorem keyT_eq {d : PyData} {k : List Key} (h : keyT d = some k) : d = .tuple (k.map kD) := by
  unfold keyT at h
  split at h
  · rw [keyAs_eq h]
  · cases h
section
variable {X : Cx} {g : G} {env env' : List Sl} {Ψ : Exc → Prop} {P : Po} {pos p lp : Pos} {a b c e tg iter : Expr} {es : List Expr} {rest body : List Stmt} {K : Frag} {F F' H H' : Hp} {σ σ' : SS} {x y : PyData} {z1 z2 : Bool}
theorem into_ob {Q : Int → Prop} (h : intO x Q) : ∃ i, x = .int i ∧ Q i := into_sh h fun _ h => h
theorem bool_ob {Q : KB} (h : boolM x Q) : ∃ b, x = .bool b ∧ Q b := bool_sh h fun _ h => h
theorem rng_sh {lo hi : PyData} {Q Φ : KL} (h : rngM lo hi Q) (k : ∀ r, Q r → Φ r) : rngM lo hi Φ := by
  unfold rngM at *
  split at h
  · exact ⟨h.1, k _ h.2⟩
  · exact h.elim
theorem enu_sh {Q Φ : KL} (h : enuM x Q) (k : ∀ r, Q r → Φ r) : enuM x Φ := by
  unfold enuM at *
  split at h
  · exact k _ h
  · exact k _ h
  · exact h.elim
theorem it_sh {Q Φ : KL} (h : itM x Q) (k : ∀ r, Q r → Φ r) : itM x Φ := by
  unfold itM at *
  split at h
  · exact k _ h
  · exact k _ h
  · exact ⟨h.1, k _ h.2⟩
  · exact h.elim
theorem setix_sh {ds : List PyData} {Q Φ : KL} (h : setM ds x y Q) (k : ∀ r, Q r → Φ r) : ∃ n j, x = .int n ∧ ixN ds.length n = some j ∧ Φ (ds.set j y) := by
  unfold setM at h
  split at h
  · split at h
    · rename_i e; exact ⟨_, _, rfl, e, k _ h⟩
    · exact h.elim
  · exact h.elim
theorem ch_sh2 {ma mb : KB → Prop} {Q Φ : KB} {r r' : R2} (h : andM ma mb Q) (h1 : ∀ Q, ma Q → ∃ k, CP X.K g env r x z1 y z2 k ∧ Q k) (h2 : ∀ Q, mb Q → WE X g c env (fun d3 z3 => ∃ k', CP X.K g env r' y z2 d3 z3 k' ∧ Q k') Ψ) (k : ∀ b, Q b → Φ b) :
    ∃ k, CP X.K g env r x z1 y z2 k ∧ (k = true → WE X g c env (fun d3 z3 => ∃ k', CP X.K g env r' y z2 d3 z3 k' ∧ Φ k') Ψ) ∧ (k = false → Φ false) := by
  obtain ⟨b, hb, q1, q2⟩ := h1 _ h
  exact ⟨b, hb, fun e => (h2 _ (q1 e)).mono fun d z ⟨k', c1, c2⟩ => ⟨k', c1, k _ c2⟩, fun e => k _ (q2 e)⟩
/-! dicts -/
theorem kvp_val {κ : Type} [DecidableEq κ] {k : κ} : ∀ {xs : List (κ × V)} {kvs : List (κ × PyData)}, KVp K F xs kvs → (∀ d, valP kvs k = some d → ∃ v, valV xs k = some v ∧ Dq K F v d) ∧ (valV xs k).isSome = (valP kvs k).isSome
  | _, _, .nil => ⟨fun d h => (by cases h), rfl⟩
  | p :: xs, q :: kvs, .cons r t => by
    obtain ⟨i1, i2⟩ := kvp_val (k := k) t
    unfold valV valP
    rw [List.find?_cons, List.find?_cons, r.1]
    by_cases h : q.1 = k
    · rw [decide_eq_true h]
      refine ⟨fun d hd => ?_, rfl⟩
      have e : q.2 = d := Option.some.inj hd
      exact ⟨p.2, rfl, e ▸ r.2⟩
    · rw [decide_eq_false h]
      exact ⟨i1, i2⟩
section
variable {kT : List (List Key × PyData)} {kA : List (Key × PyData)} {key v : PyData}
theorem getT_sh {Q : KD} {Φ : PyData → Bool → Prop} (h : getTM kT key Q) (k : ∀ r, Q r → Φ r true) : ∃ q, keyT key = some q ∧ ∃ d, valP kT q = some d ∧ Φ d true := by
  unfold getTM at h
  split at h
  · rename_i e1
    split at h
    · rename_i e2; exact ⟨_, e1, _, e2, k _ h⟩
    · exact h.elim
  · exact h.elim
theorem getK_sh {Q : KD} {Φ : PyData → Bool → Prop} (h : getKM kA key Q) (k : ∀ r, Q r → Φ r true) : ∃ q, keyA key = some q ∧ ∃ d, valP kA q = some d ∧ Φ d true := by
  unfold getKM at h
  split at h
  · rename_i e1
    split at h
    · rename_i e2; exact ⟨_, e1, _, e2, k _ h⟩
    · exact h.elim
  · exact h.elim
theorem inT_sh {Q Φ : KB} (h : inTM kT key Q) (k : ∀ r, Q r → Φ r) : ∃ q, keyT key = some q ∧ Φ (valP kT q).isSome := by
  unfold inTM at h
  split at h
  · rename_i e1; exact ⟨_, e1, k _ h⟩
  · exact h.elim
theorem inK_sh {Q Φ : KB} (h : inKM kA key Q) (k : ∀ r, Q r → Φ r) : ∃ q, keyA key = some q ∧ Φ (valP kA q).isSome := by
  unfold inKM at h
  split at h
  · rename_i e1; exact ⟨_, e1, k _ h⟩
  · exact h.elim
theorem notInT_sh {Q Φ : KB} (h : inTM kT key Q) (k : ∀ r, Q r → Φ (!r)) : ∃ q, keyT key = some q ∧ Φ (!(valP kT q).isSome) := inT_sh (Φ := fun r => Φ (!r)) h k
theorem notInK_sh {Q Φ : KB} (h : inKM kA key Q) (k : ∀ r, Q r → Φ (!r)) : ∃ q, keyA key = some q ∧ Φ (!(valP kA q).isSome) := inK_sh (Φ := fun r => Φ (!r)) h k
theorem putT_sh {Q Φ : List (List Key × PyData) → Prop} (h : putTM kT key v Q) (k : ∀ r, Q r → Φ r) : ∃ q, keyT key = some q ∧ kT.length < sizeLine ∧ Φ (putP kT q v) := by
  unfold putTM at h
  split at h
  · rename_i e1; exact ⟨_, e1, h.1, k _ h.2⟩
  · exact h.elim
theorem putK_sh {Q Φ : List (Key × PyData) → Prop} (h : putKM kA key v Q) (k : ∀ r, Q r → Φ r) : ∃ q, keyA key = some q ∧ kA.length < sizeLine ∧ Φ (putP kA q v) := by
  unfold putKM at h
  split at h
  · rename_i e1; exact ⟨_, e1, h.1, k _ h.2⟩
  · exact h.elim
end
section
variable {k0 : Nat} {xn : Str} {q tpos : Pos} {al : Addr}
theorem keyT_dp {v : V} {k : List Key} {d : PyData} (h : Dq K F v d) (e : keyT d = some k) : ∃ t, v = .ref t ∧ F t = some (.tup (k.map kV)) := by
  rw [keyT_eq e] at h
  obtain ⟨t, xs, rfl, h1, h2⟩ := dp_tup' h
  rw [keys_eq h2] at h1
  exact ⟨t, rfl, h1⟩
theorem keyA_dp {v : V} {k : Key} {d : PyData} (h : Dq K F v d) (e : keyA d = some k) : v = kV k := key_eq (keyA_eq e ▸ h)
theorem we_getT (i : Nat) {kvs : List (List Key × PyData)} {Φ : PyData → Bool → Prop} (hr : Room k0 X.A) (he : env[i]? = some (.dt al kvs) := by rfl) (h : WE X g a env (fun kd z => z = true ∧ ∃ k, keyT kd = some k ∧ ∃ d, valP kvs k = some d ∧ Φ d true) Ψ) (hN : X.N[i]? = some xn := by rfl)
    (hv : Vis X.env.scope xn := by first | exact Or.inl rfl | exact Or.inr (Or.inl rfl) | exact Or.inr (Or.inr rfl)) (hd : (xn == ("__debug__" : Str)) = false := by decide)
    (hcd : (xn == ("__classdict__" : Str)) = false := by decide) (hs : NoSl a := by exact fun _ _ => rfl) : WE X g (.Subscript (.Name xn q) a pos) env Φ Ψ := fun W tk σ F H st hx Q hQ => by
  refine semE_of (pe_dget (by have := hr.units; omega) (pe_var hN hv hd hcd) (peS a) hs) ?_
  obtain ⟨h1, vs, h2, h3⟩ := st.sl i _ he
  refine ⟨_, getD_some h1, ?_⟩
  refine h W tk σ F H st hx _ fun kd z v F1 H1 ⟨hz, k, hk, d, hd, hp⟩ s1 e1 r1 => ?_
  subst hz
  obtain ⟨t, rfl, ht⟩ := keyT_dp r1 hk
  obtain ⟨_, vs', h2', h3'⟩ := s1.sl i _ he
  obtain ⟨w, hw, dw⟩ := (kvp_val h3').1 d hd
  exact ⟨al, w, rfl, hw ▸ DGet.t h2' (s1.ex _ _ ht), hQ d true w F1 H1 hp s1 e1 dw⟩
theorem we_getK (i : Nat) {kvs : List (Key × PyData)} {Φ : PyData → Bool → Prop} (hr : Room k0 X.A) (he : env[i]? = some (.dk al kvs) := by rfl) (h : WE X g a env (fun kd z => z = true ∧ ∃ k, keyA kd = some k ∧ ∃ d, valP kvs k = some d ∧ Φ d true) Ψ) (hN : X.N[i]? = some xn := by rfl)
    (hv : Vis X.env.scope xn := by first | exact Or.inl rfl | exact Or.inr (Or.inl rfl) | exact Or.inr (Or.inr rfl)) (hd : (xn == ("__debug__" : Str)) = false := by decide)
    (hcd : (xn == ("__classdict__" : Str)) = false := by decide) (hs : NoSl a := by exact fun _ _ => rfl) : WE X g (.Subscript (.Name xn q) a pos) env Φ Ψ := fun W tk σ F H st hx Q hQ => by
  refine semE_of (pe_dget (by have := hr.units; omega) (pe_var hN hv hd hcd) (peS a) hs) ?_
  obtain ⟨h1, vs, h2, h3⟩ := st.sl i _ he
  refine ⟨_, getD_some h1, ?_⟩
  refine h W tk σ F H st hx _ fun kd z v F1 H1 ⟨hz, k, hk, d, hd, hp⟩ s1 e1 r1 => ?_
  subst hz
  have hv := keyA_dp r1 hk
  subst hv
  obtain ⟨_, vs', h2', h3'⟩ := s1.sl i _ he
  obtain ⟨w, hw, dw⟩ := (kvp_val h3').1 d hd
  exact ⟨al, w, rfl, hw ▸ DGet.k h2', hQ d true w F1 H1 hp s1 e1 dw⟩
theorem wt_inT (i : Nat) {kvs : List (List Key × PyData)} {Φ : KB} (hr : Room k0 X.A) (he : env[i]? = some (.dt al kvs) := by rfl) (h : WE X g a env (fun kd z => z = true ∧ ∃ k, keyT kd = some k ∧ Φ (valP kvs k).isSome) Ψ) (hN : X.N[i]? = some xn := by rfl)
    (hv : Vis X.env.scope xn := by first | exact Or.inl rfl | exact Or.inr (Or.inl rfl) | exact Or.inr (Or.inr rfl)) (hd : (xn == ("__debug__" : Str)) = false := by decide)
    (hcd : (xn == ("__classdict__" : Str)) = false := by decide) (hm : behindInMarks .In (.Name xn q) = false := by first | exact nomark _ | rfl) : WT X g (.Compare a [.In] [.Name xn q] pos) env Φ Ψ := fun W tk σ F H st hx Q hQ => by
  refine semT_of (pt_cmp (pc_din (by have := hr.units; omega) (peS a) (pe_var hN hv hd hcd)) hm) ?_
  refine h W tk σ F H st hx _ fun kd z v F1 H1 ⟨hz, k, hk, hp⟩ s1 e1 r1 => ?_
  subst hz
  obtain ⟨t, rfl, ht⟩ := keyT_dp r1 hk
  obtain ⟨h1, vs', h2', h3'⟩ := s1.sl i _ he
  refine ⟨_, getD_some h1, al, valV vs' k, rfl, DGet.t h2' (s1.ex _ _ ht), _, rfl, ?_⟩
  rw [(kvp_val h3').2]
  exact hQ _ F1 H1 hp s1 e1
theorem wt_notInT (i : Nat) {kvs : List (List Key × PyData)} {Φ : KB} (hr : Room k0 X.A) (he : env[i]? = some (.dt al kvs) := by rfl) (h : WE X g a env (fun kd z => z = true ∧ ∃ k, keyT kd = some k ∧ Φ (!(valP kvs k).isSome)) Ψ) (hN : X.N[i]? = some xn := by rfl)
    (hv : Vis X.env.scope xn := by first | exact Or.inl rfl | exact Or.inr (Or.inl rfl) | exact Or.inr (Or.inr rfl)) (hd : (xn == ("__debug__" : Str)) = false := by decide)
    (hcd : (xn == ("__classdict__" : Str)) = false := by decide) (hm : behindInMarks .NotIn (.Name xn q) = false := by first | exact nomark _ | rfl) : WT X g (.Compare a [.NotIn] [.Name xn q] pos) env Φ Ψ := fun W tk σ F H st hx Q hQ => by
  refine semT_of (pt_cmp (pc_dnotin (by have := hr.units; omega) (peS a) (pe_var hN hv hd hcd)) hm) ?_
  refine h W tk σ F H st hx _ fun kd z v F1 H1 ⟨hz, k, hk, hp⟩ s1 e1 r1 => ?_
  subst hz
  obtain ⟨t, rfl, ht⟩ := keyT_dp r1 hk
  obtain ⟨h1, vs', h2', h3'⟩ := s1.sl i _ he
  refine ⟨_, getD_some h1, al, valV vs' k, rfl, DGet.t h2' (s1.ex _ _ ht), _, rfl, ?_⟩
  rw [(kvp_val h3').2]
  exact hQ _ F1 H1 hp s1 e1
theorem wt_inK (i : Nat) {kvs : List (Key × PyData)} {Φ : KB} (hr : Room k0 X.A) (he : env[i]? = some (.dk al kvs) := by rfl) (h : WE X g a env (fun kd z => z = true ∧ ∃ k, keyA kd = some k ∧ Φ (valP kvs k).isSome) Ψ) (hN : X.N[i]? = some xn := by rfl)
    (hv : Vis X.env.scope xn := by first | exact Or.inl rfl | exact Or.inr (Or.inl rfl) | exact Or.inr (Or.inr rfl)) (hd : (xn == ("__debug__" : Str)) = false := by decide)
    (hcd : (xn == ("__classdict__" : Str)) = false := by decide) (hm : behindInMarks .In (.Name xn q) = false := by first | exact nomark _ | rfl) : WT X g (.Compare a [.In] [.Name xn q] pos) env Φ Ψ := fun W tk σ F H st hx Q hQ => by
  refine semT_of (pt_cmp (pc_din (by have := hr.units; omega) (peS a) (pe_var hN hv hd hcd)) hm) ?_
  refine h W tk σ F H st hx _ fun kd z v F1 H1 ⟨hz, k, hk, hp⟩ s1 e1 r1 => ?_
  subst hz
  have hv := keyA_dp r1 hk
  subst hv
  obtain ⟨h1, vs', h2', h3'⟩ := s1.sl i _ he
  refine ⟨_, getD_some h1, al, valV vs' k, rfl, DGet.k h2', _, rfl, ?_⟩
  rw [(kvp_val h3').2]
  exact hQ _ F1 H1 hp s1 e1
theorem wt_notInK (i : Nat) {kvs : List (Key × PyData)} {Φ : KB} (hr : Room k0 X.A) (he : env[i]? = some (.dk al kvs) := by rfl) (h : WE X g a env (fun kd z => z = true ∧ ∃ k, keyA kd = some k ∧ Φ (!(valP kvs k).isSome)) Ψ) (hN : X.N[i]? = some xn := by rfl)
    (hv : Vis X.env.scope xn := by first | exact Or.inl rfl | exact Or.inr (Or.inl rfl) | exact Or.inr (Or.inr rfl)) (hd : (xn == ("__debug__" : Str)) = false := by decide)
    (hcd : (xn == ("__classdict__" : Str)) = false := by decide) (hm : behindInMarks .NotIn (.Name xn q) = false := by first | exact nomark _ | rfl) : WT X g (.Compare a [.NotIn] [.Name xn q] pos) env Φ Ψ := fun W tk σ F H st hx Q hQ => by
  refine semT_of (pt_cmp (pc_dnotin (by have := hr.units; omega) (peS a) (pe_var hN hv hd hcd)) hm) ?_
  refine h W tk σ F H st hx _ fun kd z v F1 H1 ⟨hz, k, hk, hp⟩ s1 e1 r1 => ?_
  subst hz
  have hv := keyA_dp r1 hk
  subst hv
  obtain ⟨h1, vs', h2', h3'⟩ := s1.sl i _ he
  refine ⟨_, getD_some h1, al, valV vs' k, rfl, DGet.k h2', _, rfl, ?_⟩
  rw [(kvp_val h3').2]
  exact hQ _ F1 H1 hp s1 e1
theorem w1_storeTA (i : Nat) {kvs : List (List Key × PyData)} (hr : Room k0 X.A) (he : env[i]? = some (.dt al kvs) := by rfl)
    (h : WE X g e env (fun d z => z = true ∧ WE X g a env (fun kd z => z = true ∧ ∃ k, keyT kd = some k ∧ kvs.length < sizeLine ∧ P.nx (env.set i (.dt al (putP kvs k d)))) (fun c => P.ex c env)) (fun c => P.ex c env)) (hN : X.N[i]? = some xn := by rfl)
    (hv : Vis X.env.scope xn := by first | exact Or.inl rfl | exact Or.inr (Or.inl rfl) | exact Or.inr (Or.inr rfl)) (hd : (xn == ("__debug__" : Str)) = false := by decide)
    (hcd : (xn == ("__classdict__" : Str)) = false := by decide)
    (hs : swapsWith e (some (.Subscript (.Name xn q) a tpos)) pos.line X.env = pure false := by rfl) : W1 X g (.Assign [.Subscript (.Name xn q) a tpos] e pos) env P := fun W tk hx2 σ F H s0 D hD => by
  refine semP_of (ps_dput (by have := hr.units; omega) (pe_var hN hv hd hcd) (peS a) (peS e) hs) ?_
  refine h W tk σ F H s0 (hx2.hx env σ) _ fun d z v F1 H1 ⟨hz, hw⟩ s1 e1 r1 => ?_
  subst hz
  obtain ⟨h1, vs, h2, h3⟩ := s1.sl i _ he
  refine ⟨_, getD_some h1, ?_⟩
  refine hw W tk σ F1 H1 s1 (hx2.hx env σ) _ fun kd z w F2 H2 ⟨hz, k, hk, hlen, hp⟩ s2 e2 r2 => ?_
  subst hz
  obtain ⟨t, rfl, ht⟩ := keyT_dp r2 hk
  obtain ⟨h1', vs', h2', h3'⟩ := s2.sl i _ he
  refine ⟨al, _, rfl, DPut.t h2' (s2.ex _ _ ht) (by rw [kvp_len h3']; exact hlen), ?_⟩
  exact hD.nx _ _ _ _ hp (s2.write he rfl rfl ⟨h1', _, upd_same, kvp_put h3' (dp_mono e2 _ _ r1)⟩) (e1.trans e2)
theorem w1_storeKA (i : Nat) {kvs : List (Key × PyData)} (hr : Room k0 X.A) (he : env[i]? = some (.dk al kvs) := by rfl)
    (h : WE X g e env (fun d z => z = true ∧ WE X g a env (fun kd z => z = true ∧ ∃ k, keyA kd = some k ∧ kvs.length < sizeLine ∧ P.nx (env.set i (.dk al (putP kvs k d)))) (fun c => P.ex c env)) (fun c => P.ex c env)) (hN : X.N[i]? = some xn := by rfl)
    (hv : Vis X.env.scope xn := by first | exact Or.inl rfl | exact Or.inr (Or.inl rfl) | exact Or.inr (Or.inr rfl)) (hd : (xn == ("__debug__" : Str)) = false := by decide)
    (hcd : (xn == ("__classdict__" : Str)) = false := by decide)
    (hs : swapsWith e (some (.Subscript (.Name xn q) a tpos)) pos.line X.env = pure false := by rfl) : W1 X g (.Assign [.Subscript (.Name xn q) a tpos] e pos) env P := fun W tk hx2 σ F H s0 D hD => by
  refine semP_of (ps_dput (by have := hr.units; omega) (pe_var hN hv hd hcd) (peS a) (peS e) hs) ?_
  refine h W tk σ F H s0 (hx2.hx env σ) _ fun d z v F1 H1 ⟨hz, hw⟩ s1 e1 r1 => ?_
  subst hz
  obtain ⟨h1, vs, h2, h3⟩ := s1.sl i _ he
  refine ⟨_, getD_some h1, ?_⟩
  refine hw W tk σ F1 H1 s1 (hx2.hx env σ) _ fun kd z w F2 H2 ⟨hz, k, hk, hlen, hp⟩ s2 e2 r2 => ?_
  subst hz
  have hv := keyA_dp r2 hk
  subst hv
  obtain ⟨h1', vs', h2', h3'⟩ := s2.sl i _ he
  refine ⟨al, _, rfl, DPut.k h2' (by rw [kvp_len h3']; exact hlen), ?_⟩
  exact hD.nx _ _ _ _ hp (s2.write he rfl rfl ⟨h1', _, upd_same, kvp_put h3' (dp_mono e2 _ _ r1)⟩) (e1.trans e2)
end
/-- list(d), d a local dict -/
theorem wn_listTv (i : Nat) {kvs : List (List Key × PyData)} {al : Addr} {xn : Str} {q : Pos} {Φ : List PyData → Prop} (hm : X.mg "list" = none) (hc : X.calm = true) (h : Φ (keysT kvs)) (he : env[i]? = some (.dt al kvs) := by rfl) (hN : X.N[i]? = some xn := by rfl)
    (hv : Vis X.env.scope xn := by first | exact Or.inl rfl | exact Or.inr (Or.inl rfl) | exact Or.inr (Or.inr rfl)) (hd : (xn == ("__debug__" : Str)) = false := by decide)
    (hcd : (xn == ("__classdict__" : Str)) = false := by decide) (hg : Gl X "list" := by rfl) (hes : starEach [Expr.Name xn q] X.env = (false, eval (.Name xn q) X.env) :: starEach [] X.env := by rfl) (hpl : (backTo pos (starEach ([] : List Expr) X.env)).any (·.1) = false := by rfl) : WN X g (.Call (.Name "list" p) [.Name xn q] [] pos) env Φ Ψ := fun W tk σ F H st hx Q hQ => by
  refine semE_of (pe_callTy (call_list_dT hc) hg hm (by decide +kernel) (pa_cons (pe_var hN hv hd hcd) pa_nil hes) (by decide) (by decide) hes hpl) ?_
  obtain ⟨h1, vs, h2, h3⟩ := st.sl i _ he
  refine ⟨_, getD_some h1, al, vs, rfl, .inl h2, fun pn bs hn hb => ?_⟩
  exact put_new st hn (keys_dpa (kvs := kvs) st.tf h3 hb) h hQ
/-! a list of one's own from now on read alone -/
theorem ws_freeze (i : Nat) {al : Addr} {ds : List PyData} (ha : al ∉ g.M) (h : WS X g rest (env.set i (.d (.list ds))) P) (he : env[i]? = some (.ol al ds) := by rfl) : WS X g rest env P := fun W tk hx2 σ F H st D hD => by
  obtain ⟨h1, vs, h2, h3⟩ := st.sl i _ he
  have own : Own env al := ⟨i, _, he, by simp [Sl.fp]⟩
  have hi := (List.getElem?_eq_some_iff.mp he).1
  have s1 := st.weak (s' := .un) he (fun _ h => by cases h) fun _ => trivial
  have no : ¬ Own (env.set i .un) al := fun z => by
    obtain ⟨j, t, ej, ht⟩ := z
    rcases set_get ej with ⟨_, rfl⟩ | ⟨ne, ej⟩
    · cases ht
    · exact ne (st.nd i j _ t al he ej (by simp [Sl.fp]) ht)
  have h0 : g.H0 al = none := by
    rcases st.g2 al own with z | z
    · exact z
    · exact absurd z ha
  have e2 := Ex.new (o := .lst vs) (st.fr al own)
  have s2 := s1.freeze h2 (st.fr al own) no h0
  have hσ : σ.set i (some (.ref al)) = σ := by
    have hl : i < σ.length := by rw [st.len]; exact hi
    have e := getD_some h1
    obtain ⟨_, e'⟩ := List.getElem?_eq_some_iff.mp e
    rw [← e']
    exact List.set_getElem_self hl
  have s3 := s2.setD (i := i) (v := .ref al) (x := .list ds) (by rw [List.length_set]; exact hi) (.lst (SqL.of upd_same) (dpa_mono e2 _ _ h3))
  rw [hσ, List.set_set] at s3
  exact h W tk hx2 σ _ H s3 D (hD.mono e2)
/-! tuples of the module -/
structure GTup (K : Frag) (mg : Str → Option Value) (x : Str) (ds : List PyData) : Prop where
  ex : ∃ a vs, mg x = some (.ref a) ∧ flAll ds = some vs ∧ ∀ H, SqT K H a vs
theorem flAll_dq : ∀ {ds : List PyData} {vs : List V}, flAll ds = some vs → DqAll K F vs ds
  | [], _, h => by cases h; exact .nil
  | d :: r, _, h => by
    unfold flAll at h
    split at h
    · rename_i e1 e2
      cases h
      refine .cons ?_ (flAll_dq e2)
      cases d with
      | int i => cases e1; exact .int i
      | str s => cases e1; exact .str s
      | none => cases e1; exact .non
      | _ => cases e1
    · cases h
theorem wi_g {xn : Str} {q : Pos} {ds : List PyData} {Φ : List PyData → Prop} (hG : GTup X.K X.mg xn ds) (h : Φ ds) (hg : Gl X xn := by rfl) (hd : (xn == ("__debug__" : Str)) = false := by decide) : WI X g tg (.Name xn q) env Φ Ψ := fun W tk σ F H st hx R hR => by
  obtain ⟨a, vs, hm, hf, hs⟩ := hG.ex
  refine semI_of (pi_any (pe_glob hg hm (v := .ref a) rfl hd)) ?_
  exact .inr (.inl ⟨a, vs, rfl, hs H, fun hl => hR ds _ F H h (by rw [← dpa_len (flAll_dq (K := X.K) (F := F) hf)]; exact hl) st (Ex.refl F) (itok_at walk_tup (fun H _ => hs H) (flAll_dq hf))⟩)
theorem inG_run {neg : Bool} {op : CmpOp} {xn : Str} {q : Pos} {ds : List PyData} {Φ : KB} (hop : OpR X (compareOp op) (rIn X.K neg)) (hm' : behindInMarks op (.Name xn q) = false) (hG : GTup X.K X.mg xn ds) (h : WE X g a env (fun d z => inTupM d ds fun b => Φ (if neg then !b else b)) Ψ) (hg : Gl X xn) (hd : (xn == ("__debug__" : Str)) = false) : WT X g (.Compare a [op] [.Name xn q] pos) env Φ Ψ := fun W tk σ F H st hx Q hQ => by
  obtain ⟨ad, vs, hm, hf, hs⟩ := hG.ex
  refine semT_of (pt_cmpR hop (peS a) (pe_glob hg hm (v := .ref ad) rfl hd) hm') ?_
  refine h W tk σ F H st hx _ fun d z v F1 H1 hp s1 e1 r1 => ?_
  unfold inTupM at hp
  rw [hf] at hp
  cases e2 : fl d with
  | none => rw [e2] at hp; exact hp.elim
  | some v' =>
    rw [e2] at hp
    have hv := fl_dp (rd_now s1.toSk r1) e2
    subst hv
    refine ⟨ad, vs, rfl, .inr (hs H1), fl_flat e2, flAll_flat hf, _, ?_, hQ _ F1 H1 hp s1 e1⟩
    cases neg <;> rfl
theorem wt_inG {xn : Str} {q : Pos} {ds : List PyData} {Φ : KB} (hG : GTup X.K X.mg xn ds) (h : WE X g a env (fun d z => inTupM d ds Φ) Ψ) (hg : Gl X xn := by rfl) (hd : (xn == ("__debug__" : Str)) = false := by decide) (hm' : behindInMarks .In (.Name xn q) = false := by first | exact nomark _ | rfl) : WT X g (.Compare a [.In] [.Name xn q] pos) env Φ Ψ :=
  inG_run (neg := false) op_in_seq hm' hG h hg hd
theorem wt_notInG {xn : Str} {q : Pos} {ds : List PyData} {Φ : KB} (hG : GTup X.K X.mg xn ds) (h : WE X g a env (fun d z => inTupM d ds fun b => Φ (!b)) Ψ) (hg : Gl X xn := by rfl) (hd : (xn == ("__debug__" : Str)) = false := by decide) (hm' : behindInMarks .NotIn (.Name xn q) = false := by first | exact nomark _ | rfl) : WT X g (.Compare a [.NotIn] [.Name xn q] pos) env Φ Ψ :=
  inG_run (neg := true) op_notIn_seq hm' hG h hg hd
theorem inG_sh {ds : List PyData} {Q Φ : KB} (h : inTupM x ds Q) (k : ∀ r, Q r → Φ r) : inTupM x ds Φ := by
  unfold inTupM at *
  split at h
  · exact k _ h
  · exact h.elim
end
/-! contracts -/
theorem Has.imp {P : Program} {w : World} {K : Frag} {mg : Str → Option Value} {base : Heap} {j : Nat} {x : Str} {ps : List Str} {S S' : CT} (h : Has P w K mg base j x ps S) (i : ∀ args Φ Ψ, S' args Φ Ψ → S args Φ Ψ) : Has P w K mg base j x ps S' := by
  obtain ⟨f, fd, h1, h2, h3, h4⟩ := h.ex
  have up : ∀ vs H Q E, spOf K ps.length S' vs H Q E → spOf K ps.length S vs H Q E := fun vs H Q E ⟨q1, F, args, Φ, Ψ, q2, q3⟩ => ⟨q1, F, args, Φ, Ψ, i _ _ _ q2, q3⟩
  exact ⟨f, fd, h1, h2, h3, ⟨fun vs H Q E q => h4.len vs H Q E (up _ _ _ _ q), fun A outer s H args us vs Q E r e b v q => h4.run A outer s H args us vs Q E r e b v (up _ _ _ _ q)⟩⟩
/-! for the plain side -/
theorem lcM_map {α β : Type} {bd : PyData → (β → Prop) → Prop → Prop} {K : List β → Prop} (L : List α) (d : α → PyData) (f : α → β) (h : ∀ a ∈ L, ∀ k s, k (f a) → bd (d a) k s) (acc : List β) (hK : K (acc ++ L.map f)) : lcM bd K (L.map d) acc := by
  induction L generalizing acc with
  | nil => rw [List.map_nil, List.append_nil] at hK; exact hK
  | cons a L ih =>
    refine h a (by simp) _ _ (ih (fun b hb => h b (List.mem_cons_of_mem _ hb)) _ ?_)
    simpa using hK
theorem lcM_filter {α β : Type} {bd : PyData → (β → Prop) → Prop → Prop} {K : List β → Prop} (L : List α) (d : α → PyData) (p : α → Bool) (f : α → β) (h : ∀ a ∈ L, ∀ (k : β → Prop) (s : Prop), (p a = true → k (f a)) → (p a = false → s) → bd (d a) k s) (acc : List β) (hK : K (acc ++ (L.filter p).map f)) : lcM bd K (L.map d) acc := by
  induction L generalizing acc with
  | nil => rw [List.filter_nil, List.map_nil, List.append_nil] at hK; exact hK
  | cons a L ih =>
    refine h a (by simp) _ _ (fun e => ih (fun b hb => h b (List.mem_cons_of_mem _ hb)) _ ?_) (fun e => ih (fun b hb => h b (List.mem_cons_of_mem _ hb)) _ ?_)
    · simpa [e] using hK
    · simpa [e] using hK
theorem forM_inv {α τ : Type} {bd : PyData → τ → (τ → Prop) → (τ → Prop) → Prop} {K : τ → Prop} (L : List α) (d : α → PyData) (I : Nat → τ → Prop) (h : ∀ i a, L[i]? = some a → ∀ s, I i s → ∀ N : τ → Prop, (∀ s', I (i + 1) s' → N s') → bd (d a) s N K) (hK : ∀ s, I L.length s → K s) (s0 : τ) (h0 : I 0 s0) : forM bd K (L.map d) s0 := by
  have go : ∀ (M : List α) (i : Nat), (∀ j a, M[j]? = some a → L[i + j]? = some a) → i + M.length = L.length → ∀ s, I i s → forM bd K (M.map d) s := by
    intro M
    induction M with
    | nil => intro i _ hl s hs; exact hK s (by rw [← hl]; exact hs)
    | cons a M ih =>
      intro i hM hl s hs
      refine h i a (hM 0 a rfl) s hs _ fun s' hs' => ih (i + 1) (fun j b hj => ?_) (by simp only [List.length_cons] at hl; omega) s' hs'
      have := hM (j + 1) b hj
      rwa [show i + (j + 1) = i + 1 + j by omega] at this
  exact go L 0 (fun j a hj => by rwa [Nat.zero_add]) (by simp) s0 h0
/-- by a function of the turns gone -/
theorem forM_fold {α τ : Type} {bd : PyData → τ → (τ → Prop) → (τ → Prop) → Prop} {K : τ → Prop} (L : List α) (d : α → PyData) (f : τ → α → τ) (h : ∀ a ∈ L, ∀ s (N : τ → Prop), N (f s a) → bd (d a) s N K) (s0 : τ) (hK : K (L.foldl f s0)) : forM bd K (L.map d) s0 := by
  induction L generalizing s0 with
  | nil => exact hK
  | cons a L ih => exact h a (by simp) s0 _ (ih (fun b hb => h b (List.mem_cons_of_mem _ hb)) _ hK)
theorem whileM_inv {τ : Type} {st : τ → (τ → Prop) → (τ → Prop) → Prop} {K : τ → Prop} (I : Nat → τ → Prop) (h : ∀ m s, I m s → ∀ N : τ → Prop, (∀ m' s', m' < m → I m' s' → N s') → st s N K) (m : Nat) (s0 : τ) (h0 : I m s0) (mono : ∀ s (N N' B : τ → Prop), (∀ s, N s → N' s) → st s N B → st s N' B) : ∃ n, whileM st K n s0 := by
  have up : ∀ n s, whileM st K n s → ∀ n', n ≤ n' → whileM st K n' s := by
    intro n
    induction n with
    | zero => intro s h; exact h.elim
    | succ n ih =>
      intro s h n' hn
      obtain ⟨k, rfl⟩ : ∃ k, n' = k + 1 := ⟨n' - 1, by omega⟩
      exact mono s _ _ _ (fun s' q => ih s' q k (by omega)) h
  refine ⟨m + 1, ?_⟩
  induction m using Nat.strongRecOn generalizing s0 with
  | _ m ih =>
    exact h m s0 h0 _ fun m' s' hm hs => up (m' + 1) s' (ih m' hm s' hs) m (by omega)
theorem and_p {b1 b2 : Bool} {K : KB} (h : K (b1 && b2)) : andM (fun Q => Q b1) (fun Q => Q b2) K := by
  unfold andM
  cases b1 <;> exact ⟨fun e => (by first | exact h | cases e), fun e => (by first | exact h | cases e)⟩
theorem or_p {b1 b2 : Bool} {K : KB} (h : K (b1 || b2)) : orM (fun Q => Q b1) (fun Q => Q b2) K := by
  unfold orM
  cases b1 <;> exact ⟨fun e => (by first | exact h | cases e), fun e => (by first | exact h | cases e)⟩
theorem if_t {b : Bool} {A B : Prop} (e : b = true) (h : A) : (b = true → A) ∧ (b = false → B) := ⟨fun _ => h, fun e' => (by rw [e] at e'; cases e')⟩
theorem if_f {b : Bool} {A B : Prop} (e : b = false) (h : B) : (b = true → A) ∧ (b = false → B) := ⟨fun e' => (by rw [e] at e'; cases e'), fun _ => h⟩
end TL

/-! rules whose question is the plain transformer itself -/
namespace TL
open PySem PySem.Spec PyProof.Rows L2
section
variable {X : Cx} {g : G} {env env' : List Sl} {Ψ : Exc → Prop} {P : Po} {pos p lp : Pos} {a b c e tg iter : Expr} {es : List Expr} {rest body : List Stmt} {K : Frag} {F F' H H' : Hp} {σ σ' : SS} {x y : PyData} {z1 z2 : Bool} {Φ : PyData → Bool → Prop}
theorem neg_m {Q Q' : KD} (h : negM x Q) (k : ∀ r, Q r → Q' r) : negM x Q' := by
  unfold negM at *
  split at h
  · exact k _ h
  · exact h.elim
theorem abs_m {Q Q' : KD} (h : absM x Q) (k : ∀ r, Q r → Q' r) : absM x Q' := by
  unfold absM at *
  split at h
  · exact k _ h
  · exact h.elim
theorem sum_m {Q Q' : KD} (h : sumM x Q) (k : ∀ r, Q r → Q' r) : sumM x Q' := by
  unfold sumM at *
  split at h
  · split at h
    · exact k _ h
    · exact h.elim
  · exact h.elim
theorem all_m {Q Q' : KD} (h : allM x Q) (k : ∀ r, Q r → Q' r) : allM x Q' := by
  unfold allM at *
  split at h
  · split at h
    · exact k _ h
    · exact h.elim
  · exact h.elim
theorem any_m {Q Q' : KD} (h : anyM x Q) (k : ∀ r, Q r → Q' r) : anyM x Q' := by
  unfold anyM at *
  split at h
  · split at h
    · exact k _ h
    · exact h.elim
  · exact h.elim
theorem min2_m {Q Q' : KD} (h : min2M x y Q) (k : ∀ r, Q r → Q' r) : min2M x y Q' := by
  unfold min2M at *
  split at h
  · exact k _ h
  · exact h.elim
theorem max2_m {Q Q' : KD} (h : max2M x y Q) (k : ∀ r, Q r → Q' r) : max2M x y Q' := by
  unfold max2M at *
  split at h
  · exact k _ h
  · exact h.elim
theorem sort_m {Q Q' : KL} (h : sortM x Q) (k : ∀ r, Q r → Q' r) : sortM x Q' := by
  unfold sortM at *
  split at h
  · exact ⟨h.1, k _ h.2⟩
  · exact h.elim
theorem addL_m {Q Q' : KL} (h : addLM x y Q) (k : ∀ r, Q r → Q' r) : addLM x y Q' := by
  unfold addLM at *
  split at h
  · exact ⟨h.1, k _ h.2⟩
  · exact h.elim
theorem setix_m {ds : List PyData} {Q Q' : KL} (h : setM ds x y Q) (k : ∀ r, Q r → Q' r) : setM ds x y Q' := by
  unfold setM at *
  split at h
  · split at h
    · exact k _ h
    · exact h.elim
  · exact h.elim
section
variable {kT : List (List Key × PyData)} {kA : List (Key × PyData)} {key v : PyData}
theorem inT_m {Q Q' : KB} (h : inTM kT key Q) (k : ∀ r, Q r → Q' r) : inTM kT key Q' := by
  unfold inTM at *
  split at h
  · exact k _ h
  · exact h.elim
theorem inK_m {Q Q' : KB} (h : inKM kA key Q) (k : ∀ r, Q r → Q' r) : inKM kA key Q' := by
  unfold inKM at *
  split at h
  · exact k _ h
  · exact h.elim
theorem putT_m {Q Q' : List (List Key × PyData) → Prop} (h : putTM kT key v Q) (k : ∀ r, Q r → Q' r) : putTM kT key v Q' := by
  unfold putTM at *
  split at h
  · exact ⟨h.1, k _ h.2⟩
  · exact h.elim
theorem putK_m {Q Q' : List (Key × PyData) → Prop} (h : putKM kA key v Q) (k : ∀ r, Q r → Q' r) : putKM kA key v Q' := by
  unfold putKM at *
  split at h
  · exact ⟨h.1, k _ h.2⟩
  · exact h.elim
end
theorem we_negA (h : WE X g a env (fun d _ => negM d fun r => Φ r true) Ψ) : WE X g (.UnaryOp .USub a pos) env Φ Ψ := we_neg (h.mono fun d z h => neg_sh (Φ := Φ) h fun _ h => h)
theorem we_absA (hm : X.mg "abs" = none) (h : WE X g a env (fun d _ => absM d fun r => Φ r true) Ψ) (hg : Gl X "abs" := by rfl) (he : starEach [a] X.env = (false, eval a X.env) :: starEach [] X.env := by rfl) (hpl : (backTo pos (starEach ([] : List Expr) X.env)).any (·.1) = false := by rfl) : WE X g (.Call (.Name "abs" p) [a] [] pos) env Φ Ψ :=
  we_abs hm (h.mono fun d z h => abs_sh (Φ := Φ) h fun _ h => h) hg he
theorem we_sumA (hm : X.mg "sum" = none) (hc : X.calm = true) (h : WE X g a env (fun d _ => sumM d fun r => Φ r true) Ψ) (hg : Gl X "sum" := by rfl) (he : starEach [a] X.env = (false, eval a X.env) :: starEach [] X.env := by rfl) (hpl : (backTo pos (starEach ([] : List Expr) X.env)).any (·.1) = false := by rfl) : WE X g (.Call (.Name "sum" p) [a] [] pos) env Φ Ψ :=
  we_sum hm hc (h.mono fun d z h => sum_sh (Φ := Φ) h fun _ h => h) hg he
theorem we_allA (hm : X.mg "all" = none) (hc : X.calm = true) (h : WE X g a env (fun d _ => allM d fun r => Φ r true) Ψ) (hg : Gl X "all" := by rfl) (he : starEach [a] X.env = (false, eval a X.env) :: starEach [] X.env := by rfl) (hpl : (backTo pos (starEach ([] : List Expr) X.env)).any (·.1) = false := by rfl) : WE X g (.Call (.Name "all" p) [a] [] pos) env Φ Ψ :=
  we_all hm hc (h.mono fun d z h => all_sh (Φ := Φ) h fun _ h => h) hg he
theorem we_anyA (hm : X.mg "any" = none) (hc : X.calm = true) (h : WE X g a env (fun d _ => anyM d fun r => Φ r true) Ψ) (hg : Gl X "any" := by rfl) (he : starEach [a] X.env = (false, eval a X.env) :: starEach [] X.env := by rfl) (hpl : (backTo pos (starEach ([] : List Expr) X.env)).any (·.1) = false := by rfl) : WE X g (.Call (.Name "any" p) [a] [] pos) env Φ Ψ :=
  we_any hm hc (h.mono fun d z h => any_sh (Φ := Φ) h fun _ h => h) hg he
theorem we_min2A (hm : X.mg "min" = none) (hc : X.calm = true) (h : WE X g a env (fun d1 _ => WE X g b env (fun d2 _ => min2M d1 d2 fun r => Φ r true) Ψ) Ψ) (hg : Gl X "min" := by rfl) (he : starEach [a, b] X.env = (false, eval a X.env) :: starEach [b] X.env := by rfl) (he2 : starEach [b] X.env = (false, eval b X.env) :: starEach [] X.env := by rfl) (hpl : (backTo pos (starEach [b] X.env)).any (·.1) = false := by rfl) : WE X g (.Call (.Name "min" p) [a, b] [] pos) env Φ Ψ :=
  we_min2 hm hc (h.mono fun d z h => h.mono fun d z h => min2_sh (Φ := Φ) h fun _ h => h) hg he he2 hpl
theorem we_max2A (hm : X.mg "max" = none) (hc : X.calm = true) (h : WE X g a env (fun d1 _ => WE X g b env (fun d2 _ => max2M d1 d2 fun r => Φ r true) Ψ) Ψ) (hg : Gl X "max" := by rfl) (he : starEach [a, b] X.env = (false, eval a X.env) :: starEach [b] X.env := by rfl) (he2 : starEach [b] X.env = (false, eval b X.env) :: starEach [] X.env := by rfl) (hpl : (backTo pos (starEach [b] X.env)).any (·.1) = false := by rfl) : WE X g (.Call (.Name "max" p) [a, b] [] pos) env Φ Ψ :=
  we_max2 hm hc (h.mono fun d z h => h.mono fun d z h => max2_sh (Φ := Φ) h fun _ h => h) hg he he2 hpl
theorem wn_sortedA {k : Nat} {Φ : List PyData → Prop} (hm : X.mg "sorted" = none) (hr : Room k X.A) (h : WE X g a env (fun d _ => sortM d Φ) Ψ) (hg : Gl X "sorted" := by rfl) (he : starEach [a] X.env = (false, eval a X.env) :: starEach [] X.env := by rfl) : WN X g (.Call (.Name "sorted" p) [a] [] pos) env Φ Ψ :=
  wn_sorted hm hr (h.mono fun d z h => sort_sh (Φ := Φ) h fun _ h => h) hg he
theorem wn_addB {Φ : List PyData → Prop} (h : WE X g a env (fun d1 _ => WE X g b env (fun d2 _ => addLM d1 d2 Φ) Ψ) Ψ) : WN X g (.BinOp a .Add b pos) env Φ Ψ :=
  wn_addA (h.mono fun d z h => h.mono fun d z h => addL_sh (Φ := Φ) h fun _ h => h)
section
variable {k0 : Nat} {xn : Str} {q tpos : Pos} {al : Addr}
theorem wt_inTA (i : Nat) {kvs : List (List Key × PyData)} {Φ : KB} (hr : Room k0 X.A) (h : WE X g a env (fun kd z => z = true ∧ inTM kvs kd Φ) Ψ) (he : env[i]? = some (.dt al kvs) := by rfl) (hN : X.N[i]? = some xn := by rfl)
    (hv : Vis X.env.scope xn := by first | exact Or.inl rfl | exact Or.inr (Or.inl rfl) | exact Or.inr (Or.inr rfl)) (hd : (xn == ("__debug__" : Str)) = false := by decide)
    (hcd : (xn == ("__classdict__" : Str)) = false := by decide) (hm : behindInMarks .In (.Name xn q) = false := by first | exact nomark _ | rfl) : WT X g (.Compare a [.In] [.Name xn q] pos) env Φ Ψ :=
  wt_inT i hr he (h.mono fun d z ⟨hz, h⟩ => ⟨hz, inT_sh (Φ := Φ) h fun _ h => h⟩) hN hv hd hcd hm
theorem wt_notInTA (i : Nat) {kvs : List (List Key × PyData)} {Φ : KB} (hr : Room k0 X.A) (h : WE X g a env (fun kd z => z = true ∧ inTM kvs kd fun r => Φ (!r)) Ψ) (he : env[i]? = some (.dt al kvs) := by rfl) (hN : X.N[i]? = some xn := by rfl)
    (hv : Vis X.env.scope xn := by first | exact Or.inl rfl | exact Or.inr (Or.inl rfl) | exact Or.inr (Or.inr rfl)) (hd : (xn == ("__debug__" : Str)) = false := by decide)
    (hcd : (xn == ("__classdict__" : Str)) = false := by decide) (hm : behindInMarks .NotIn (.Name xn q) = false := by first | exact nomark _ | rfl) : WT X g (.Compare a [.NotIn] [.Name xn q] pos) env Φ Ψ :=
  wt_notInT i hr he (h.mono fun d z ⟨hz, h⟩ => ⟨hz, notInT_sh (Φ := Φ) h fun _ h => h⟩) hN hv hd hcd hm
theorem wt_inKA (i : Nat) {kvs : List (Key × PyData)} {Φ : KB} (hr : Room k0 X.A) (h : WE X g a env (fun kd z => z = true ∧ inKM kvs kd Φ) Ψ) (he : env[i]? = some (.dk al kvs) := by rfl) (hN : X.N[i]? = some xn := by rfl)
    (hv : Vis X.env.scope xn := by first | exact Or.inl rfl | exact Or.inr (Or.inl rfl) | exact Or.inr (Or.inr rfl)) (hd : (xn == ("__debug__" : Str)) = false := by decide)
    (hcd : (xn == ("__classdict__" : Str)) = false := by decide) (hm : behindInMarks .In (.Name xn q) = false := by first | exact nomark _ | rfl) : WT X g (.Compare a [.In] [.Name xn q] pos) env Φ Ψ :=
  wt_inK i hr he (h.mono fun d z ⟨hz, h⟩ => ⟨hz, inK_sh (Φ := Φ) h fun _ h => h⟩) hN hv hd hcd hm
theorem wt_notInKA (i : Nat) {kvs : List (Key × PyData)} {Φ : KB} (hr : Room k0 X.A) (h : WE X g a env (fun kd z => z = true ∧ inKM kvs kd fun r => Φ (!r)) Ψ) (he : env[i]? = some (.dk al kvs) := by rfl) (hN : X.N[i]? = some xn := by rfl)
    (hv : Vis X.env.scope xn := by first | exact Or.inl rfl | exact Or.inr (Or.inl rfl) | exact Or.inr (Or.inr rfl)) (hd : (xn == ("__debug__" : Str)) = false := by decide)
    (hcd : (xn == ("__classdict__" : Str)) = false := by decide) (hm : behindInMarks .NotIn (.Name xn q) = false := by first | exact nomark _ | rfl) : WT X g (.Compare a [.NotIn] [.Name xn q] pos) env Φ Ψ :=
  wt_notInK i hr he (h.mono fun d z ⟨hz, h⟩ => ⟨hz, notInK_sh (Φ := Φ) h fun _ h => h⟩) hN hv hd hcd hm
theorem we_wt {op : CmpOp} {Φ : PyData → Bool → Prop} (h : WT X g (.Compare a [op] [b] pos) env (fun k => Φ (.bool k) true) Ψ) (hs : ∀ {σ H} {Q : VK}, semT X (.Compare a [op] [b] pos) σ H (fun k H' => Q (.bl k) H') → semE X (.Compare a [op] [b] pos) σ H Q) : WE X g (.Compare a [op] [b] pos) env Φ Ψ := fun W tk σ F H st hx Q hQ =>
  hs (h W tk σ F H st hx _ fun k F' H' hp s e => hQ _ true _ F' H' hp s e (.bl k))
theorem w1_storeTB (i : Nat) {kvs : List (List Key × PyData)} (hr : Room k0 X.A)
    (h : WE X g e env (fun d z => z = true ∧ WE X g a env (fun kd z => z = true ∧ putTM kvs kd d fun r => P.nx (env.set i (.dt al r))) (fun c => P.ex c env)) (fun c => P.ex c env)) (he : env[i]? = some (.dt al kvs) := by rfl) (hN : X.N[i]? = some xn := by rfl)
    (hv : Vis X.env.scope xn := by first | exact Or.inl rfl | exact Or.inr (Or.inl rfl) | exact Or.inr (Or.inr rfl)) (hd : (xn == ("__debug__" : Str)) = false := by decide)
    (hcd : (xn == ("__classdict__" : Str)) = false := by decide)
    (hs : swapsWith e (some (.Subscript (.Name xn q) a tpos)) pos.line X.env = pure false := by rfl) : W1 X g (.Assign [.Subscript (.Name xn q) a tpos] e pos) env P :=
  w1_storeTA i hr he (h.mono fun d z ⟨hz, h⟩ => ⟨hz, h.mono fun d z ⟨hz, h⟩ => ⟨hz, putT_sh (Φ := fun r => P.nx (env.set i (.dt al r))) h fun _ h => h⟩⟩) hN hv hd hcd hs
theorem w1_storeKB (i : Nat) {kvs : List (Key × PyData)} (hr : Room k0 X.A)
    (h : WE X g e env (fun d z => z = true ∧ WE X g a env (fun kd z => z = true ∧ putKM kvs kd d fun r => P.nx (env.set i (.dk al r))) (fun c => P.ex c env)) (fun c => P.ex c env)) (he : env[i]? = some (.dk al kvs) := by rfl) (hN : X.N[i]? = some xn := by rfl)
    (hv : Vis X.env.scope xn := by first | exact Or.inl rfl | exact Or.inr (Or.inl rfl) | exact Or.inr (Or.inr rfl)) (hd : (xn == ("__debug__" : Str)) = false := by decide)
    (hcd : (xn == ("__classdict__" : Str)) = false := by decide)
    (hs : swapsWith e (some (.Subscript (.Name xn q) a tpos)) pos.line X.env = pure false := by rfl) : W1 X g (.Assign [.Subscript (.Name xn q) a tpos] e pos) env P :=
  w1_storeKA i hr he (h.mono fun d z ⟨hz, h⟩ => ⟨hz, h.mono fun d z ⟨hz, h⟩ => ⟨hz, putK_sh (Φ := fun r => P.nx (env.set i (.dk al r))) h fun _ h => h⟩⟩) hN hv hd hcd hs
/-- x[k] = e, a list of one's own -/
theorem w1_setixB (i : Nat) {ds : List PyData} (h : WE X g e env (fun d z => z = true ∧ WE X g a env (fun k _ => setM ds k d fun r => P.nx (env.set i (.ol al r))) (fun c => P.ex c env)) (fun c => P.ex c env)) (he : env[i]? = some (.ol al ds) := by rfl) (hN : X.N[i]? = some xn := by rfl)
    (hv : Vis X.env.scope xn := by first | exact Or.inl rfl | exact Or.inr (Or.inl rfl) | exact Or.inr (Or.inr rfl)) (hd : (xn == ("__debug__" : Str)) = false := by decide)
    (hcd : (xn == ("__classdict__" : Str)) = false := by decide)
    (ha : ∀ v, assign (.Subscript (.Name xn q) a tpos) X.env v = (do
      let ov ← holding [v] (eval (.Name xn q) X.env)
      let iv ← holding [v, ov] (eval a X.env)
      standAt tpos
      holding [v, ov, iv] (setItem ov iv v)
      release [v, ov, iv] []) := by intro _; rfl)
    (hs : swapsWithSole [.Subscript (.Name xn q) a tpos] e pos.line X.env = pure false := by rfl) (hw : swappedStores [.Subscript (.Name xn q) a tpos] e X.env = pure none := by rfl)
    (h1 : (assignEach [.Subscript (.Name xn q) a tpos] X.env).map (·.2) = [assign (.Subscript (.Name xn q) a tpos) X.env] := by rfl) : W1 X g (.Assign [.Subscript (.Name xn q) a tpos] e pos) env P :=
  w1_setix i he (h.mono fun d z ⟨hz, h⟩ => ⟨hz, h.mono fun d z h => setix_sh (Φ := fun r => P.nx (env.set i (.ol al r))) h fun _ h => h⟩) hN hv hd hcd ha hs hw h1
end
end
end TL

/-! equations for the plain side -/
namespace TL
open PySem PySem.Spec PyProof.Rows L2
section
variable {i j : Int} {s t : Str} {b c : Bool} {xs ys : List PyData} {x y z u : PyData} {K : KD} {KL' : KL} {KB' : KB} {E : KX}
theorem q_add_ii : addM (.int i) (.int j) K = K (.int (i + j)) := rfl
theorem q_add_ss : addM (.str s) (.str t) K = (s.length + t.length ≤ sizeLine ∧ K (.str (s ++ t))) := rfl
theorem q_add_ll : addM (.list xs) (.list ys) K = (xs.length + ys.length ≤ sizeLine ∧ K (.list (xs ++ ys))) := rfl
theorem q_add_tt : addM (.tuple xs) (.tuple ys) K = (xs.length + ys.length ≤ sizeLine ∧ K (.tuple (xs ++ ys))) := rfl
theorem q_addL : addLM (.list xs) (.list ys) KL' = (xs.length + ys.length ≤ sizeLine ∧ KL' (xs ++ ys)) := rfl
theorem q_sub : subM (.int i) (.int j) K = K (.int (i - j)) := rfl
theorem q_mul : mulM (.int i) (.int j) K = ((CMul i j ∨ CMulW i j) ∧ K (.int (i * j))) := rfl
theorem q_div : divM (.int i) (.int j) K = (CDivW i j ∧ K (.int (i / j))) := rfl
theorem q_mod : modM (.int i) (.int j) K = (0 < j ∧ K (.int (i % j))) := rfl
theorem q_neg : negM (.int i) K = K (.int (-i)) := rfl
theorem q_bool : boolM (.bool b) KB' = KB' b := rfl
theorem q_eq_ii : eqM (.int i) (.int j) KB' = KB' (decide (i = j)) := rfl
theorem q_eq_ss : eqM (.str s) (.str t) KB' = KB' (decide (s = t)) := rfl
theorem q_eq_bb : eqM (.bool b) (.bool c) KB' = KB' (decide (b = c)) := rfl
theorem q_eq_tt : eqM (.tuple xs) (.tuple ys) KB' = (SeqAt.shaped (.tuple xs) = true ∧ SeqAt.shaped (.tuple ys) = true ∧ KB' (PyData.eqv (.tuple xs) (.tuple ys))) := rfl
theorem q_eq_ll : eqM (.list xs) (.list ys) KB' = (SeqAt.shaped (.list xs) = true ∧ SeqAt.shaped (.list ys) = true ∧ KB' (PyData.eqv (.list xs) (.list ys))) := rfl
theorem q_ne_ii : neM (.int i) (.int j) KB' = KB' (!decide (i = j)) := rfl
theorem q_ne_ss : neM (.str s) (.str t) KB' = KB' (!decide (s = t)) := rfl
theorem q_ne_bb : neM (.bool b) (.bool c) KB' = KB' (!decide (b = c)) := rfl
theorem q_ne_tt : neM (.tuple xs) (.tuple ys) KB' = (SeqAt.shaped (.tuple xs) = true ∧ SeqAt.shaped (.tuple ys) = true ∧ KB' (!PyData.eqv (.tuple xs) (.tuple ys))) := rfl
theorem q_ne_ll : neM (.list xs) (.list ys) KB' = (SeqAt.shaped (.list xs) = true ∧ SeqAt.shaped (.list ys) = true ∧ KB' (!PyData.eqv (.list xs) (.list ys))) := rfl
theorem q_lt : ltM (.int i) (.int j) KB' = KB' (decide (i < j)) := rfl
theorem q_le : leM (.int i) (.int j) KB' = KB' (decide (i ≤ j)) := rfl
theorem q_gt : gtM (.int i) (.int j) KB' = KB' (decide (j < i)) := rfl
theorem q_ge : geM (.int i) (.int j) KB' = KB' (decide (j ≤ i)) := rfl
theorem q_lt_t : ltM (.tuple xs) (.tuple ys) KB' = (match intsOf xs, intsOf ys with
    | some ns, some ms => KB' (HT.lexLt ns ms)
    | _, _ => False) := rfl
theorem q_un2 {K : PyData → PyData → Prop} : un2 (.tuple [x, y]) K = K x y := rfl
theorem q_un3 {K : PyData → PyData → PyData → Prop} : un3 (.tuple [x, y, z]) K = K x y z := rfl
theorem q_un4 {K : PyData → PyData → PyData → PyData → Prop} : un4 (.tuple [x, y, z, u]) K = K x y z u := rfl
theorem q_intO {K : Int → Prop} : intO (.int i) K = K i := rfl
theorem q_ix_l : ixM (.list xs) (.int i) K = (match atI xs i with
    | some y => K y
    | none => False) := rfl
theorem q_ix_t : ixM (.tuple xs) (.int i) K = (match atI xs i with
    | some y => K y
    | none => False) := rfl
theorem q_ix_s : ixM (.str s) (.int i) K = (s.length ≤ sizeLine ∧ match atI s.cps.toList i with
    | some c => K (sgn c)
    | none => False) := rfl
theorem q_len_l : lenM (.list xs) K = K (.int xs.length) := rfl
theorem q_len_t : lenM (.tuple xs) K = K (.int xs.length) := rfl
theorem q_len_s : lenM (.str s) K = (s.length ≤ sizeLine ∧ K (.int s.length)) := rfl
theorem q_abs : absM (.int i) K = K (.int (if i < 0 then -i else i)) := rfl
theorem q_int_i : intM (.int i) K = K (.int i) := rfl
theorem q_int_b : intM (.bool b) K = K (.int (if b then 1 else 0)) := rfl
theorem q_tup_l : tupM (.list xs) K = K (.tuple xs) := rfl
theorem q_tup_t : tupM (.tuple xs) K = K (.tuple xs) := rfl
theorem q_list_l : listM (.list xs) KL' = KL' xs := rfl
theorem q_list_t : listM (.tuple xs) KL' = KL' xs := rfl
theorem q_min : min2M (.int i) (.int j) K = K (.int (if j < i then j else i)) := rfl
theorem q_max : max2M (.int i) (.int j) K = K (.int (if j > i then j else i)) := rfl
theorem q_it_l : itM (.list xs) KL' = KL' xs := rfl
theorem q_it_t : itM (.tuple xs) KL' = KL' xs := rfl
theorem q_rng : rngM (.int i) (.int j) KL' = ((-1000000 ≤ i ∧ i ≤ 1000000 ∧ -1000000 ≤ j ∧ j ≤ 1000000) ∧ KL' (rangeL i j)) := rfl
theorem q_enu_l : enuM (.list xs) KL' = KL' (enumL xs) := rfl
theorem q_enu_t : enuM (.tuple xs) KL' = KL' (enumL xs) := rfl
theorem q_rev : revM (.list xs) KL' = KL' xs.reverse := rfl
theorem q_sl_l {lo hi : Option Int} : slM (.list xs) lo hi K = K (.list (cut xs lo hi)) := rfl
theorem q_sl_t {lo hi : Option Int} : slM (.tuple xs) lo hi K = K (.tuple (cut xs lo hi)) := rfl
theorem q_sl_s {lo hi : Option Int} : slM (.str s) lo hi K = (s.length ≤ sizeLine ∧ K (.str (cutS s lo hi))) := rfl
theorem q_slL {lo hi : Option Int} : slLM (.list xs) lo hi KL' = KL' (cut xs lo hi) := rfl
theorem q_all (ns : List Bool) : allM (.list (ns.map .bool)) K = K (.bool (ns.all id)) := by
  show (match boolsOf (ns.map .bool) with | some ns => K (.bool (ns.all id)) | none => False) = _
  rw [bools_of]
theorem q_any (ns : List Bool) : anyM (.list (ns.map .bool)) K = K (.bool (ns.any id)) := by
  show (match boolsOf (ns.map .bool) with | some ns => K (.bool (ns.any id)) | none => False) = _
  rw [bools_of]
theorem q_sum (ns : List Int) : sumM (.list (ns.map .int)) K = K (.int ns.sum) := by
  show (match intsOf (ns.map .int) with | some ns => K (.int ns.sum) | none => False) = _
  rw [ints_of]
theorem q_sort_pp (L : List (Int × Int)) : sortM (.list (L.map ppD)) KL' = KL' (srt (L.map ppD)) := by
  unfold sortM
  exact propext ⟨fun h => h.2, fun h => ⟨⟨pairs_alike _, pairs_sortable _, pairs_depth _⟩, h⟩⟩
theorem q_and {b1 b2 : Bool} : andM (fun Q => Q b1) (fun Q => Q b2) KB' = KB' (b1 && b2) := by
  unfold andM; cases b1 <;> simp
theorem q_or {b1 b2 : Bool} : orM (fun Q => Q b1) (fun Q => Q b2) KB' = KB' (b1 || b2) := by
  unfold orM; cases b1 <;> simp
theorem q_and' {ma mb : KB → Prop} {b1 : Bool} (h : ∀ Q, ma Q = Q b1) {b2 : Bool} (h2 : b1 = true → ∀ Q, mb Q = Q b2) : andM ma mb KB' = KB' (b1 && b2) := by
  unfold andM; rw [h]; cases b1
  · simp
  · rw [h2 rfl]; simp
theorem q_or' {ma mb : KB → Prop} {b1 : Bool} (h : ∀ Q, ma Q = Q b1) {b2 : Bool} (h2 : b1 = false → ∀ Q, mb Q = Q b2) : orM ma mb KB' = KB' (b1 || b2) := by
  unfold orM; rw [h]; cases b1
  · rw [h2 rfl]; simp
  · simp
theorem q_ite {b : Bool} {A B : Prop} : ((b = true → A) ∧ (b = false → B)) = cond b A B := by cases b <;> simp
theorem q_join {σ : Type} {bd : (σ → Prop) → Prop} {K : σ → Prop} : joinM bd K = bd K := rfl
theorem q_lc_nil {β : Type} {bd : PyData → (β → Prop) → Prop → Prop} {K : List β → Prop} {acc : List β} : lcM bd K [] acc = K acc := rfl
theorem q_lc_cons {β : Type} {bd : PyData → (β → Prop) → Prop → Prop} {K : List β → Prop} {acc : List β} : lcM bd K (x :: xs) acc = bd x (fun y => lcM bd K xs (acc ++ [y])) (lcM bd K xs acc) := rfl
theorem q_for_nil {σ : Type} {bd : PyData → σ → (σ → Prop) → (σ → Prop) → Prop} {K : σ → Prop} {s : σ} : forM bd K [] s = K s := rfl
theorem q_for_cons {σ : Type} {bd : PyData → σ → (σ → Prop) → (σ → Prop) → Prop} {K : σ → Prop} {s : σ} : forM bd K (x :: xs) s = bd x s (fun s' => forM bd K xs s') K := rfl
/-- a comprehension told at once -/
theorem q_lc_map {α β : Type} {bd : PyData → (β → Prop) → Prop → Prop} {K : List β → Prop} (L : List α) (d : α → PyData) (f : α → β) (h : ∀ a ∈ L, ∀ k s, bd (d a) k s = k (f a)) (acc : List β) : lcM bd K (L.map d) acc = K (acc ++ L.map f) := by
  induction L generalizing acc with
  | nil => rw [List.map_nil, List.map_nil, List.append_nil]; rfl
  | cons a L ih =>
    rw [List.map_cons, q_lc_cons, h a (by simp), ih fun b hb => h b (List.mem_cons_of_mem _ hb)]
    simp
theorem q_lc_fil {α β : Type} {bd : PyData → (β → Prop) → Prop → Prop} {K : List β → Prop} (L : List α) (d : α → PyData) (p : α → Bool) (f : α → β) (h : ∀ a ∈ L, ∀ (k : β → Prop) (s : Prop), bd (d a) k s = cond (p a) (k (f a)) s) (acc : List β) : lcM bd K (L.map d) acc = K (acc ++ (L.filter p).map f) := by
  induction L generalizing acc with
  | nil => rw [List.map_nil, List.filter_nil, List.map_nil, List.append_nil]; rfl
  | cons a L ih =>
    rw [List.map_cons, q_lc_cons, h a (by simp), ih fun b hb => h b (List.mem_cons_of_mem _ hb), ih fun b hb => h b (List.mem_cons_of_mem _ hb)]
    cases e : p a <;> simp [e]
theorem q_for_fold {α τ : Type} {bd : PyData → τ → (τ → Prop) → (τ → Prop) → Prop} {K : τ → Prop} (L : List α) (d : α → PyData) (f : τ → α → τ) (h : ∀ a ∈ L, ∀ s (N : τ → Prop), bd (d a) s N K = N (f s a)) (s0 : τ) : forM bd K (L.map d) s0 = K (L.foldl f s0) := by
  induction L generalizing s0 with
  | nil => rfl
  | cons a L ih => rw [List.map_cons, q_for_cons, h a (by simp), ih fun b hb => h b (List.mem_cons_of_mem _ hb)]; rfl
/-- a loop whose states are known, one after the other -/
theorem q_for_seq {α τ : Type} {bd : PyData → τ → (τ → Prop) → (τ → Prop) → Prop} {K : τ → Prop} (L : List α) (d : α → PyData) (S : Nat → τ) (h : ∀ i a, L[i]? = some a → ∀ N : τ → Prop, bd (d a) (S i) N K = N (S (i + 1))) : forM bd K (L.map d) (S 0) = K (S L.length) := by
  have go : ∀ (M : List α) (i : Nat), (∀ j a, M[j]? = some a → L[i + j]? = some a) → i + M.length = L.length → forM bd K (M.map d) (S i) = K (S L.length) := by
    intro M
    induction M with
    | nil => intro i _ hl; rw [← hl]; rfl
    | cons a M ih =>
      intro i hM hl
      rw [List.map_cons, q_for_cons, h i a (hM 0 a rfl)]
      refine ih (i + 1) (fun j b hj => ?_) (by simp only [List.length_cons] at hl; omega)
      have := hM (j + 1) b hj
      rwa [show i + (j + 1) = i + 1 + j by omega] at this
  exact go L 0 (fun j a hj => by rwa [Nat.zero_add]) (by simp)
/-- a loop that goes on while p holds, else ends in r -/
theorem q_for_all {α : Type} {bd : PyData → Unit → (Unit → Prop) → (Unit → Prop) → Prop} {K : Unit → Prop} {R : Prop} (L : List α) (d : α → PyData) (p : α → Bool) (h : ∀ a ∈ L, ∀ (N : Unit → Prop), bd (d a) () N K = cond (p a) (N ()) R) : forM bd K (L.map d) () = cond (L.all p) (K ()) R := by
  induction L with
  | nil => simp [q_for_nil]
  | cons a L ih =>
    rw [List.map_cons, q_for_cons, h a (by simp)]
    cases e : p a
    · simp [e]
    · simp only [e, cond_true, List.all_cons, Bool.true_and]
      exact ih fun b hb => h b (List.mem_cons_of_mem _ hb)
theorem range_map (lo hi : Int) : rangeL lo hi = (List.range (hi - lo).toNat).map fun (i : Nat) => PyData.int (lo + (i : Nat)) := rfl
theorem range0 (n : Int) : rangeL 0 n = (List.range n.toNat).map fun (i : Nat) => PyData.int i := by unfold rangeL; simp
theorem enum_map {α : Type} (L : List α) (d : α → PyData) : enumL (L.map d) = (L.mapIdx fun i a => (i, a)).map fun q => PyData.tuple [.int (q.1 : Nat), d q.2] := by
  unfold enumL
  refine List.ext_getElem? fun i => ?_
  rw [List.getElem?_mapIdx, List.getElem?_map, List.getElem?_map, List.getElem?_mapIdx]
  cases L[i]? <;> rfl
end
end TL

/-! the head's facts and further ones -/
namespace TL
open PySem PySem.Spec PyProof.Rows L2 He
abbrev XF := PySem.W.Frag → Bool
def obsX (ex : List XF) (fa : List Fa) (fn : List DefD) (K : PySem.W.Frag) : AlD := ((obsD fa fn K).1 && ex.all fun e => e K, (obsD fa fn K).2)
def SaysX (ex : List XF) (fa : List Fa) (fn : List DefD) (K : PySem.W.Frag) : Prop := obsX ex fa fn K = valD fn
def obsXG (n : Nat) (ex : List XF) (fa : List Fa) (fn : List DefD) (g : Addr → Option Obj) : AlD := obsX ex fa fn (frG g (asD g n))
def hookX (n : Nat) (ex : List XF) (fa : List Fa) (fn : List DefD) : PySem.W.Hook where
  α := AlD
  obs := fun s => obsXG n ex fa fn s.heap.get?
  val := fun _ => valD fn
  says := fun _ h => ∃ K : PySem.W.Frag, K.In h ∧ SaysX ex fa fn K
  of := fun _ _ e => ⟨_, frG_in, e⟩
  keeps := fun _ _ _ ⟨K, hK, c⟩ k => ⟨K, PySem.W.Frag.In.keeps hK k, c⟩
theorem obsXG_eq {n : Nat} {ex : List XF} {fa : List Fa} {fn : List DefD} {g : Addr → Option Obj} {s : Shared} (h : ∀ a, g a = s.heap.get? a) : obsXG n ex fa fn g = (hookX n ex fa fn).obs s := by
  have e : g = s.heap.get? := funext h
  rw [e] <;> rfl
section
variable {ex : List XF} {fa : List Fa} {fn : List DefD} {K : PySem.W.Frag} {mg : Str → Option Value} {h : Heap}
theorem SaysX.d (c : SaysX ex fa fn K) : SaysD fa fn K := by
  have c1 : ((obsD fa fn K).1 && ex.all fun e => e K) = true := congrArg (fun z : AlD => z.1) c
  have c2 : (obsD fa fn K).2 = fn.map DefD.val := congrArg (fun z : AlD => z.2) c
  exact Prod.ext (ba c1).1 c2
theorem SaysX.xf (c : SaysX ex fa fn K) (i : Nat) {e : XF} (h : ex[i]? = some e := by rfl) : e K = true := by
  have c1 : ((obsD fa fn K).1 && ex.all fun e => e K) = true := congrArg (fun z : AlD => z.1) c
  exact List.all_eq_true.mp (ba c1).2 e (List.mem_of_getElem? h)
theorem gtup_ok (X : K.In h) (G : h.Ns mainGlobals mg) {x : Str} {vs : List Dv} {ds : List PyData} (c : (Fa.glo x).ok K = true) (t : tupB K x vs = true) (hd : flAll ds = some (vs.map (Dv.v K)) := by rfl) : GTup K mg x ds :=
  ⟨ga K x, _, glo_ok X G c, hd, fun H => tupB_ok t H⟩
end
end TL

/-! lists of lists of one's own -/
namespace TL
open PySem PySem.Spec PyProof.Rows L2
abbrev ooS (a : Addr) (as : List Addr) (ds : List (List PyData)) : Sl := .oo a (as.zip ds)
def rowM (ds : List (List PyData)) : PyData → KL → Prop
  | .int n, K => match atI ds n with
    | some l => K l
    | none => False
  | _, _ => False
def rowAppM (ds : List (List PyData)) : PyData → PyData → (List (List PyData) → Prop) → Prop
  | .int n, y, K => match ixN ds.length n with
    | some j => match ds[j]? with
      | some l => l.length < sizeLine ∧ K (ds.set j (l ++ [y]))
      | none => False
    | none => False
  | _, _, _ => False
section
variable {X : Cx} {g : G} {env env' : List Sl} {Ψ : Exc → Prop} {P : Po} {pos p lp : Pos} {a b c e tg iter : Expr} {es : List Expr} {rest body : List Stmt} {K : Frag} {F F' H H' : Hp} {σ σ' : SS} {x y : PyData} {z1 z2 : Bool} {Φ : PyData → Bool → Prop}
theorem rowApp_m {ds : List (List PyData)} {Q Q' : List (List PyData) → Prop} (h : rowAppM ds x y Q) (k : ∀ r, r.length = ds.length → Q r → Q' r) : rowAppM ds x y Q' := by
  unfold rowAppM at *
  split at h
  · split at h
    · split at h
      · exact ⟨h.1, k _ (by rw [List.length_set]) h.2⟩
      · exact h.elim
    · exact h.elim
  · exact h.elim
theorem row_m {ds : List (List PyData)} {Q Q' : KL} (h : rowM ds x Q) (k : ∀ r, Q r → Q' r) : rowM ds x Q' := by
  unfold rowM at *
  split at h
  · split at h
    · exact k _ h
    · exact h.elim
  · exact h.elim
theorem row_ob {ds : List (List PyData)} {Q : KL} (h : rowM ds x Q) : ∃ n l, x = .int n ∧ atI ds n = some l ∧ Q l := by
  unfold rowM at h
  split at h
  · split at h
    · rename_i e; exact ⟨_, _, rfl, e, h⟩
    · exact h.elim
  · exact h.elim
theorem atI_map {α β : Type} {f : α → β} {l : List α} {n : Int} {x : α} (h : atI l n = some x) : atI (l.map f) n = some (f x) := by
  unfold atI at *
  rw [List.length_map]
  obtain ⟨j, h1, h2⟩ := Option.bind_eq_some_iff.mp h
  rw [h1]
  show (l.map f)[j]? = _
  rw [List.getElem?_map, h2]; rfl
/-- for, with a side word about state and objects -/
theorem forSC {A : PyData → Option (List (Nat × PyData))} {τ υ : Type} {bd : PyData → τ → (τ → Prop) → (τ → Prop) → Prop} {Q : τ → Prop} {xs : List PyData} {s0 : τ} (h : forM bd Q xs s0) (mk : τ → υ → List Sl) (C : τ → υ → Prop) (u0 : υ) (h0 : env = mk s0 u0) (c0 : C s0 u0) (hend : ∀ s u, C s u → Q s → P.nx (mk s u))
    (hturn : (∀ s u, C s u → Q s → P.nx (mk s u)) → ∀ x s u (N : τ → Prop), C s u → bd x s N Q → ∃ l, A x = some l ∧ (l.all fun q => Nat.blt q.1 (mk s u).length) = true ∧ WS X g body (putsE (mk s u) l) (P.turn fun e => ∃ s' u', N s' ∧ C s' u' ∧ e = mk s' u')) :
    ∃ Pv : Nat → List Sl → Prop, Pv 0 env ∧ (∀ i x, xs[i]? = some x → FT X g body A P Pv i x) ∧ ∀ e, Pv xs.length e → P.nx e := by
  refine ⟨fun i e => ∃ s u, forM bd Q (xs.drop i) s ∧ C s u ∧ e = mk s u, ⟨s0, u0, h, c0, h0⟩, fun i x hx e ⟨s, u, hf, hc, he⟩ => ?_, fun e ⟨s, u, hf, hc, he⟩ => ?_⟩
  · subst he
    have hi := (List.getElem?_eq_some_iff.mp hx).1
    have ed : xs.drop i = x :: xs.drop (i + 1) := by
      rw [List.drop_eq_getElem_cons hi]
      congr 1
      exact (List.getElem?_eq_some_iff.mp hx).2
    rw [ed] at hf
    obtain ⟨l, h1, h2, h3⟩ := hturn hend x s u _ hc hf
    exact ⟨l, h1, h2, h3⟩
  · subst he
    rw [List.drop_length] at hf
    exact hend s u hc hf
/-- x[k], a row -/
theorem we_ixOO (i : Nat) {al : Addr} {as : List Addr} {ds : List (List PyData)} {xn : Str} {q : Pos} (hl : as.length = ds.length) (h : WE X g a env (fun d _ => rowM ds d fun l => Φ (.list l) false) Ψ) (he : env[i]? = some (ooS al as ds) := by rfl) (hN : X.N[i]? = some xn := by rfl)
    (hv : Vis X.env.scope xn := by first | exact Or.inl rfl | exact Or.inr (Or.inl rfl) | exact Or.inr (Or.inr rfl)) (hd : (xn == ("__debug__" : Str)) = false := by decide)
    (hcd : (xn == ("__classdict__" : Str)) = false := by decide) (hs : PlainIx a := by exact fun _ _ => rfl) : WE X g (.Subscript (.Name xn q) a pos) env Φ Ψ := fun W tk σ F H st hx Q hQ => by
  refine semE_of (pe_ix ix_list (pe_var hN hv hd hcd) (peS a) hs) ?_
  obtain ⟨h1, _⟩ := st.sl i _ he
  refine ⟨_, getD_some h1, ?_⟩
  refine h W tk σ F H st hx _ fun d z v F1 H1 hr s1 e1 r1 => ?_
  have hr : rowM ds d fun l => Φ (.list l) false := hr
  obtain ⟨n, l, rfl, hat, hr⟩ := row_ob hr
  obtain ⟨_, h2, h3, h4⟩ := s1.sl i _ he
  obtain ⟨j, hj, hjl⟩ : ∃ j, ixN ds.length n = some j ∧ ds[j]? = some l := by
    unfold atI at hat
    obtain ⟨j, h5, h6⟩ := Option.bind_eq_some_iff.mp hat
    exact ⟨j, h5, h6⟩
  obtain ⟨hj1, hj2⟩ := List.getElem?_eq_some_iff.mp hjl
  have hz : (as.zip ds)[j]? = some (as[j]'(by omega), l) := by
    rw [List.getElem?_eq_getElem (by rw [List.length_zip]; omega), List.getElem_zip, hj2]
  have hat2 : atI ((as.zip ds).map fun r => V.ref r.1) n = some (.ref (as[j]'(by omega))) := by
    have e1 : ((as.zip ds).map fun r => V.ref r.1).length = ds.length := by rw [List.length_map, List.length_zip]; omega
    unfold atI
    rw [e1, hj]
    show ((as.zip ds).map fun r => V.ref r.1)[j]? = _
    rw [List.getElem?_map, hz]; rfl
  exact ⟨al, _, n, _, rfl, rd_int r1, SqL.of h2, hat2, hQ _ false _ F1 H1 hr s1 e1 ⟨_, l, .inr (.inl ⟨i, al, _, he, List.mem_of_getElem? hz⟩), rfl, rfl⟩⟩
/-- an object of a slot, one of several, is changed in place -/
theorem St.writeIn {i : Nat} {q : Addr} {s s' : Sl} {o' : HO} (st : St K g F H σ env) (hs : env[i]? = some s) (ha : q ∈ s.fp) (ha' : s'.fp = s.fp) (h : SlOk K F (upd H q o') (σ[i]?.getD none) s') (ht : ∀ vs, o' ≠ .tup vs := by intro _ z; cases z) : St K g F (upd H q o') σ (env.set i s') := by
  have own : Own env q := ⟨i, s, hs, ha⟩
  have hF : F q = none := st.fr q own
  have sub : ∀ b, Own (env.set i s') b → Own env b := fun b hb => by
    rcases own_set hb with h1 | h1
    · rw [ha'] at h1; exact ⟨i, s, hs, h1⟩
    · exact h1
  have oth : ∀ (j : Nat) (t : Sl), i ≠ j → env[j]? = some t → q ∉ t.fp := fun j t ne e ht => ne (st.nd i j s t q hs e ha ht)
  refine { len := by rw [List.length_set]; exact st.len, sl := fun j t e => ?_, nd := fun j k t u b ej ek ht hu => ?_, fr := fun b hb => st.fr b (sub b hb), ex := st.ex.mut hF, tf := fun b vs z => by
             by_cases e : b = q
             · subst e; rw [upd_same] at z; exact absurd (Option.some.inj z) (ht vs)
             · rw [upd_ne e] at z; exact st.tf b vs z, tk := st.tk.put (st.tk.ne (st.toSk.ntb own)), gt := st.gt.grow (fun b z => by
             by_cases e : b = q
             · subst e; rw [upd_same] at z; cases z
             · rw [upd_ne e] at z; exact z), g1 := fun b u z m n => ?_, g2 := fun b hb => st.g2 b (sub b hb), g3 := st.g3, g4 := st.g4, g5 := fun b m z => ?_, g6 := st.g6 }
  · rcases set_get e with ⟨rfl, rfl⟩ | ⟨ne, e⟩
    · exact h
    · refine slok_mono (Ex.refl F) (fun b hb u z => ?_) (st.sl j t e)
      have hne : b ≠ q := fun z => oth j t ne e (z ▸ hb)
      rw [upd_ne hne]; exact z
  · rcases set_get ej with ⟨rfl, rfl⟩ | ⟨ne, ej2⟩
    · rcases set_get ek with ⟨rfl, rfl⟩ | ⟨ne2, ek⟩
      · rfl
      · rw [ha'] at ht; exact st.nd _ k s u b hs ek ht hu
    · rcases set_get ek with ⟨rfl, rfl⟩ | ⟨ne2, ek⟩
      · rw [ha'] at hu; exact st.nd j _ t s b ej2 hs ht hu
      · exact st.nd j k t u b ej2 ek ht hu
  · have hne : b ≠ q := fun e => by
      subst e
      rcases st.g2 b own with h1 | h1
      · rw [h1] at z; cases z
      · exact m h1
    rw [upd_ne hne]; exact st.g1 b u z m n
  · by_cases hb : b = q
    · subst hb; rw [upd_same] at z; cases z
    · rw [upd_ne hb] at z; exact st.g5 b m z
theorem zip_set {α β : Type} : ∀ {as : List α} {bs : List β} {j : Nat} {y : β}, (as.zip (bs.set j y)).map Prod.fst = (as.zip bs).map Prod.fst
  | [], _, _, _ => rfl
  | _ :: _, [], _, _ => rfl
  | a :: as, b :: bs, 0, y => rfl
  | a :: as, b :: bs, j + 1, y => by
    show a :: (as.zip (bs.set j y)).map Prod.fst = a :: (as.zip bs).map Prod.fst
    rw [zip_set]
/-- x[k].append(e) -/
theorem w1_appendOO (i : Nat) {al : Addr} {as : List Addr} {ds : List (List PyData)} {xn : Str} {q apos cpos spos : Pos} (hl : as.length = ds.length)
    (h : WE X g a env (fun kd _ => rowM ds kd fun _ => WE X g e env (fun d z => z = true ∧ rowAppM ds kd d fun r => P.nx (env.set i (ooS al as r))) (fun c => P.ex c env)) (fun c => P.ex c env)) (he : env[i]? = some (ooS al as ds) := by rfl) (hN : X.N[i]? = some xn := by rfl)
    (hv : Vis X.env.scope xn := by first | exact Or.inl rfl | exact Or.inr (Or.inl rfl) | exact Or.inr (Or.inr rfl)) (hd : (xn == ("__debug__" : Str)) = false := by decide)
    (hcd : (xn == ("__classdict__" : Str)) = false := by decide) (hpx : PlainIx a := by exact fun _ _ => rfl)
    (hbase : attributeBase (.Subscript (.Name xn q) a spos) "append" X.env (eval (.Subscript (.Name xn q) a spos) X.env) = eval (.Subscript (.Name xn q) a spos) X.env := by rfl)
    (hfew : ((backTo cpos (starEach [e] X.env)).all (fun x => !x.1) && (backToKw cpos (keywordEach [] X.env)).all (fun x => x.1.isSome)
      && decide ([e].length + ([] : List Keyword).length + (if ([] : List Keyword).isEmpty then 0 else 1) < 30)) = true := by rfl)
    (hline : (apos.endLine == cpos.line) = true := by rfl) (hs1 : starEach [e] X.env = (false, eval e X.env) :: starEach [] X.env := by rfl) (hplain : (backTo cpos (starEach ([] : List Expr) X.env)).any (·.1) = false := by rfl)
    (hs : swapsWith (.Call (.Attribute (.Subscript (.Name xn q) a spos) "append" apos) [e] [] cpos) none pos.line X.env = pure false := by rfl) :
    W1 X g (.Expr (.Call (.Attribute (.Subscript (.Name xn q) a spos) "append" apos) [e] [] cpos) pos) env P := fun W tk hx2 σ F H s0 D hD => by
  refine semP_of (ps_expr (pe_bm PySem.F.plainAttrs_list PySem.F.slot_list_append PySem.F.type_list_append mt_append (pe_ix ix_list (pe_var hN hv hd hcd) (peS a) hpx) (pa_cons (peS e) pa_nil hs1) hbase hfew hline hs1 hplain) hs) ?_
  obtain ⟨h1, _⟩ := s0.sl i _ he
  refine ⟨_, getD_some h1, ?_⟩
  refine h W tk σ F H s0 (hx2.hx env σ) _ fun kd z v F1 H1 hr s1 e1 r1 => ?_
  have hr : rowM ds kd fun _ => WE X g e env (fun d z => z = true ∧ rowAppM ds kd d fun r => P.nx (env.set i (ooS al as r))) (fun c => P.ex c env) := hr
  obtain ⟨n, l, rfl, hat, hr⟩ := row_ob hr
  obtain ⟨j, hj, hjl⟩ : ∃ j, ixN ds.length n = some j ∧ ds[j]? = some l := by
    unfold atI at hat
    obtain ⟨j, h5, h6⟩ := Option.bind_eq_some_iff.mp hat
    exact ⟨j, h5, h6⟩
  obtain ⟨hj1, hj2⟩ := List.getElem?_eq_some_iff.mp hjl
  have hz : (as.zip ds)[j]? = some (as[j]'(by omega), l) := by
    rw [List.getElem?_eq_getElem (by rw [List.length_zip]; omega), List.getElem_zip, hj2]
  have hat2 : atI ((as.zip ds).map fun r => V.ref r.1) n = some (.ref (as[j]'(by omega))) := by
    have e1 : ((as.zip ds).map fun r => V.ref r.1).length = ds.length := by rw [List.length_map, List.length_zip]; omega
    unfold atI
    rw [e1, hj]
    show ((as.zip ds).map fun r => V.ref r.1)[j]? = _
    rw [List.getElem?_map, hz]; rfl
  obtain ⟨_, h2, h3, h4⟩ := s1.sl i _ he
  refine ⟨al, _, n, _, rfl, rd_int r1, SqL.of h2, hat2, ?_⟩
  obtain ⟨vs, h5, _⟩ := h4 _ (List.mem_of_getElem? hz)
  refine ⟨.inl ⟨rfl, vs, SqL.of h5⟩, ?_⟩
  refine hr W tk σ F1 H1 s1 (hx2.hx env σ) _ fun d z w F2 H2 ⟨hz2, hp⟩ s2 e2 r2 => ?_
  subst hz2
  unfold rowAppM at hp
  simp only [hj, hjl] at hp
  obtain ⟨hlen, hp⟩ := hp
  obtain ⟨q1, q2, q3, q4⟩ := s2.sl i _ he
  obtain ⟨us, q5, q6⟩ := q4 _ (List.mem_of_getElem? hz)
  refine ⟨_, us, w, rfl, rfl, q5, by rw [dpa_len q6]; exact hlen, ?_⟩
  have hmem : as[j]'(by omega) ∈ (as.zip ds).map (·.1) := List.mem_map.mpr ⟨_, List.mem_of_getElem? hz, rfl⟩
  have fpe : (ooS al as (ds.set j (l ++ [d]))).fp = (ooS al as ds).fp := by
    show al :: (as.zip (ds.set j (l ++ [d]))).map Prod.fst = al :: (as.zip ds).map Prod.fst
    rw [zip_set]
  have nd := List.nodup_cons.mp q3
  have hne : as[j]'(by omega) ≠ al := fun z => nd.1 (z ▸ hmem)
  refine hD.nx _ _ F2 _ hp (s2.writeIn he (List.mem_cons_of_mem _ hmem) fpe ?_) (e1.trans e2)
  refine ⟨q1, ?_, ?_, fun r hr => ?_⟩
  · rw [upd_ne (Ne.symm hne), q2]
    congr 2
    have : ∀ L : List (Addr × List PyData), (L.map fun r => V.ref r.1) = (L.map Prod.fst).map V.ref := fun L => by rw [List.map_map]; rfl
    rw [this, this, zip_set]
  · show (al :: (as.zip (ds.set j (l ++ [d]))).map Prod.fst).Nodup
    rw [zip_set]; exact q3
  · obtain ⟨k, hk⟩ := List.mem_iff_getElem?.mp hr
    have hk2 := List.getElem?_zip_eq_some.mp hk
    by_cases ek : k = j
    · subst ek
      have ea : as[k]'(by omega) = r.1 := by
        have := hk2.1
        rw [List.getElem?_eq_getElem (by omega)] at this
        exact Option.some.inj this
      have ed : r.2 = l ++ [d] := by
        have := hk2.2
        rw [List.getElem?_set_self hj1] at this
        exact (Option.some.inj this).symm
      rw [← ea, ed, upd_same]
      exact ⟨us ++ [w], rfl, dpa_app q6 (dpa_one r2)⟩
    · have hr2 : r ∈ as.zip ds := by
        refine List.mem_of_getElem? (i := k) (List.getElem?_zip_eq_some.mpr ⟨hk2.1, ?_⟩)
        have := hk2.2
        rwa [List.getElem?_set_ne (Ne.symm ek)] at this
      obtain ⟨us', z1, z2⟩ := q4 _ hr2
      have hne2 : r.1 ≠ as[j]'(by omega) := fun z => by
        have hlt : k < as.length := (List.getElem?_eq_some_iff.mp hk2.1).1
        have hnd : ((as.zip ds).map Prod.fst).Nodup := nd.2
        have hk3 : ((as.zip ds).map Prod.fst)[k]? = some r.1 := by
          rw [List.getElem?_map, List.getElem?_zip_eq_some.mpr ⟨hk2.1, by have := hk2.2; rwa [List.getElem?_set_ne (Ne.symm ek)] at this⟩]; rfl
        have hj3 : ((as.zip ds).map Prod.fst)[j]? = some r.1 := by
          rw [List.getElem?_map, hz, z]; rfl
        obtain ⟨i1, i2⟩ := List.getElem?_eq_some_iff.mp hk3
        obtain ⟨i3, i4⟩ := List.getElem?_eq_some_iff.mp hj3
        exact ek ((List.getElem_inj hnd).mp (i2.trans i4.symm))
      exact ⟨us', by rw [upd_ne hne2]; exact z1, z2⟩
/-- name = [[] for .. in ..] -/
def LJo (K : Frag) (g : G) (F1 : Hp) (σ : SS) (env : List Sl) (D : Addr) (i : Nat) (H : Hp) : Prop :=
  ∃ F as, St K g F H σ env ∧ Ex F1 F ∧ H D = some (.lst (as.map .ref)) ∧ F D = none ∧ ¬ Own env D ∧ g.H0 D = none ∧ (D :: as).Nodup ∧ as.length = i ∧ ∀ b ∈ as, H b = some (.lst []) ∧ F b = none ∧ ¬ Own env b ∧ g.H0 b = none
theorem w1_newOO (i : Nat) {y : Str} {py elp : Pos} {scope : Scope} {own : List (Str × Nat)} {t : TG} {A : PyData → Option (List (Nat × PyData))} (hc : X.calm = true) (hN : X.N.Nodup) (ok : BlkOk X.N X.env.scope scope own) (hpg : ∀ s H C cl fp, PG (BX X scope s H C cl fp) tg t) (htd : TGd X.K t A) (hwo : wipeOk env (own.map (·.2)) = true)
    (h : WI X g tg iter env (fun xs => (∀ x ∈ xs, ∃ l, A x = some l ∧ (l.all fun q => (own.map (·.2)).elem q.1 && Nat.blt q.1 env.length) = true) ∧ ∀ q as, q ∉ g.M → as.length = xs.length → P.nx (env.set i (ooS q as (List.replicate xs.length [])))) (fun c => P.ex c env))
    (hy : X.N[i]? = some y := by rfl) (hyl : X.env.scope.names.lookup y = some .local := by rfl) (hl : Nat.blt i env.length = true := by rfl)
    (hsw : swapsWith (.ListComp (.List [] elp) [⟨tg, iter, [], 0⟩] scope pos) (some (.Name y py)) p.line X.env = pure true := by exact sw_true rfl rfl rfl (by decide +kernel)) (hs : ∀ x, foldedSetIterable iter X.env x = pure x := by intro _; rfl) :
    W1 X g (.Assign [.Name y py] (.ListComp (.List [] elp) [⟨tg, iter, [], 0⟩] scope pos) p) env P := fun W tk hx2 σ F H s0 D hD => by
  refine semP_of (ps_setLc hc hN hy hyl hsw piS ok hpg (ptsB (by decide)) peB hs) ?_
  refine h W tk σ F H s0 (hx2.hx env σ) _ fun xs J F1 H1 ⟨hA, hp⟩ hlen s1 e1 ⟨GG, Y, hw, hG, hyy⟩ => fun D' hD' => ?_
  have st2 : St X.K g F1 (upd H1 D' (.lst [])) (wipe σ (own.map (·.2))) (wipeE env (own.map (·.2))) := (s1.alloc hD').wiped _
  refine lc_it hw (LJo X.K g F1 (wipe σ (own.map (·.2))) (wipeE env (own.map (·.2))) D') ⟨F1, [], st2, Ex.refl F1, upd_same, s1.ex.none hD', fun z => s1.there (own_wipe z) hD', s1.h0 hD', by simp, rfl, fun b hb => by cases hb⟩ (fun i H2 _ ⟨F2, _, s3, e3, _⟩ => hG _ (e3.trans s3.ex)) (fun i x H2 H3 hi2 hJ hY => ?_) (fun H2 ⟨F2, as, s3, e3, q1, q2, q3, q4, q5, q6, q7⟩ => ?_)
  · obtain ⟨F2, as, s3, e3, q1, q2, q3, q4, q5, q6, q7⟩ := hJ
    obtain ⟨d, hd⟩ : ∃ d, xs[i]? = some d := ⟨xs[i], by simp [hi2]⟩
    obtain ⟨F3, s4, ex4, hv, exH, hF⟩ := hyy i d hd _ _ _ hY _ _ _ _ s3 e3
    obtain ⟨l, hAl, hl2⟩ := hA d (List.mem_of_getElem? hd)
    have keep : ∀ b o, H2 b = some o → F2 b = none → F3 b = none := fun b o h1 h2 => by
      cases z : F3 b with
      | none => rfl
      | some u =>
        rcases hF b (by rw [z]; intro z; cases z) with w | w
        · exact absurd h2 w
        · rw [h1] at w; cases w
    refine htd d l (wipe σ (own.map (·.2))) F3 H3 x _ hAl s4.ex hv fun r sr => ?_
    have hidx : ∀ q ∈ r, q.1 ∈ own.map (·.2) := setsP_idx sr fun q hq => (lt_idx hl2 q hq).1
    refine ⟨by rw [wipe_putsV hidx]; exact wipe_wipe σ _, ?_⟩
    unfold semTB tYes
    dsimp only
    rw [if_pos rfl]
    intro sh H0 C cl fp
    refine semE_of (pe_lst pa_nil) ?_
    refine ⟨Nat.zero_le _, fun b hb => ?_⟩
    have nD : b ≠ D' := fun z => by subst z; rw [exH _ _ q1] at hb; cases hb
    have nas : b ∉ as := fun z => by rw [exH _ _ (q7 b z).1] at hb; cases hb
    have s5 := s4.alloc (o := .lst []) hb
    refine ⟨as.map .ref, by rw [upd_ne (Ne.symm nD)]; exact exH _ _ q1, by rw [List.length_map]; omega, F3, as ++ [b], ?_, e3.trans ex4, by rw [upd_same, List.map_append]; rfl, keep D' _ q1 q2, q3, q4, ?_, by rw [List.length_append, List.length_singleton, q6], fun c hc => ?_⟩
    · exact s5.untracked (keep D' _ q1 q2) q3 q4
    · rw [← List.cons_append, List.nodup_append]
      refine ⟨q5, by simp, fun c hc e he => ?_⟩
      have he : e = b := by simpa using he
      subst he
      rcases List.mem_cons.mp hc with rfl | hc
      · exact Ne.symm nD
      · exact fun z => nas (z ▸ hc)
    · rcases List.mem_append.mp hc with hc | hc
      · obtain ⟨z1, z2, z3, z4⟩ := q7 c hc
        have h1 : c ≠ D' := fun z => (List.nodup_cons.mp q5).1 (z ▸ hc)
        have h2 : c ≠ b := fun z => nas (z ▸ hc)
        exact ⟨by rw [upd_ne h1, upd_ne h2]; exact exH _ _ z1, keep c _ z1 z2, z3, z4⟩
      · have hc : c = b := by simpa using hc
        subst hc
        exact ⟨by rw [upd_ne nD, upd_same], s4.ex.none hb, fun z => s4.there z hb, s4.h0 hb⟩
  · have s5 := s1.unwiped hwo s3 e3
    have no : ∀ b, ¬ Own (wipeE env (own.map (·.2))) b → ¬ Own env b := fun b h z => h (own_wipe' hwo z)
    have hzf : ∀ n, as.length = n → (as.zip (List.replicate n ([] : List PyData))).map Prod.fst = as := fun n hn => by
      rw [List.map_fst_zip]; rw [List.length_replicate]; omega
    refine hD.nx _ _ F2 H2 (hp D' as (fun m => s1.g6 D' m q4) q6) (s5.set (ltB hl) ?_ ?_ ?_ ?_) (e1.trans e3)
    · refine ⟨rfl, ?_, ?_, fun r hr => ?_⟩
      · rw [q1]
        congr 2
        have : ∀ L : List (Addr × List PyData), (L.map fun r => V.ref r.1) = (L.map Prod.fst).map V.ref := fun L => by rw [List.map_map]; rfl
        rw [this, hzf _ q6]
      · show (D' :: (as.zip (List.replicate xs.length [])).map Prod.fst).Nodup
        rw [hzf _ q6]; exact q5
      · obtain ⟨m1, m2⟩ := List.of_mem_zip (a := r.1) (b := r.2) hr
        rw [(List.mem_replicate.mp m2).2]
        exact ⟨[], (q7 _ m1).1, .nil⟩
    all_goals
      intro b hb
      have hb : b = D' ∨ b ∈ as := by
        have hb : b ∈ D' :: (as.zip (List.replicate xs.length [])).map Prod.fst := hb
        rw [hzf _ q6] at hb
        exact List.mem_cons.mp hb
    · rcases hb with rfl | hb
      · exact q2
      · exact (q7 b hb).2.1
    · intro j u hj hu hbu
      rcases hb with rfl | hb
      · exact no _ q3 ⟨j, u, hu, hbu⟩
      · exact no _ (q7 b hb).2.2.1 ⟨j, u, hu, hbu⟩
    · rcases hb with rfl | hb
      · exact .inl q4
      · exact .inl (q7 b hb).2.2.2
theorem w1_newOOc (i : Nat) {y : Str} {py elp : Pos} {scope : Scope} {own : List (Str × Nat)} {t : TG} {A : PyData → Option (List (Nat × PyData))} (hc : X.calm = true) (hN : X.N.Nodup) (ok : BlkOk X.N X.env.scope scope own) (hpg : ∀ s H C cl fp, PG (BX X scope s H C cl fp) tg t) (htd : TGd X.K t A) (hwo : wipeOk env (own.map (·.2)) = true)
    (h : WI X g tg iter env (fun xs => (∀ x ∈ xs, ∃ l, A x = some l ∧ (l.all fun q => (own.map (·.2)).elem q.1 && Nat.blt q.1 env.length) = true) ∧ ∀ q as, q ∉ g.M → as.length = xs.length → P.nx (env.set i (ooS q as (List.replicate xs.length [])))) (fun c => P.ex c env))
    (hy : X.N[i]? = some y := by rfl) (hx : Loc X.env.scope y := by first | exact Or.inl rfl | exact Or.inr rfl) (hl : Nat.blt i env.length = true := by rfl)
    (hsw : swapsWith (.ListComp (.List [] elp) [⟨tg, iter, [], 0⟩] scope pos) (some (.Name y py)) p.line X.env = pure false := by rfl) (hf : X.fn y = true ∨ X.env.scope.names.lookup y = some .local := by first | exact .inl rfl | exact .inr rfl) (hs : ∀ x, foldedSetIterable iter X.env x = pure x := by intro _; rfl) :
    W1 X g (.Assign [.Name y py] (.ListComp (.List [] elp) [⟨tg, iter, [], 0⟩] scope pos) p) env P := fun W tk hx2 σ F H s0 D hD => by
  refine semP_of (ps_set hN hy hx (pe_lc hc hN piS ok hpg (ptsB (by decide)) peB hs) hsw hf) ?_
  refine h W tk σ F H s0 (hx2.hx env σ) _ fun xs J F1 H1 ⟨hA, hp⟩ hlen s1 e1 ⟨GG, Y, hw, hG, hyy⟩ => fun D' hD' => ?_
  have st2 : St X.K g F1 (upd H1 D' (.lst [])) (wipe σ (own.map (·.2))) (wipeE env (own.map (·.2))) := (s1.alloc hD').wiped _
  refine lc_it hw (LJo X.K g F1 (wipe σ (own.map (·.2))) (wipeE env (own.map (·.2))) D') ⟨F1, [], st2, Ex.refl F1, upd_same, s1.ex.none hD', fun z => s1.there (own_wipe z) hD', s1.h0 hD', by simp, rfl, fun b hb => by cases hb⟩ (fun i H2 _ ⟨F2, _, s3, e3, _⟩ => hG _ (e3.trans s3.ex)) (fun i x H2 H3 hi2 hJ hY => ?_) (fun H2 ⟨F2, as, s3, e3, q1, q2, q3, q4, q5, q6, q7⟩ => ?_)
  · obtain ⟨F2, as, s3, e3, q1, q2, q3, q4, q5, q6, q7⟩ := hJ
    obtain ⟨d, hd⟩ : ∃ d, xs[i]? = some d := ⟨xs[i], by simp [hi2]⟩
    obtain ⟨F3, s4, ex4, hv, exH, hF⟩ := hyy i d hd _ _ _ hY _ _ _ _ s3 e3
    obtain ⟨l, hAl, hl2⟩ := hA d (List.mem_of_getElem? hd)
    have keep : ∀ b o, H2 b = some o → F2 b = none → F3 b = none := fun b o h1 h2 => by
      cases z : F3 b with
      | none => rfl
      | some u =>
        rcases hF b (by rw [z]; intro z; cases z) with w | w
        · exact absurd h2 w
        · rw [h1] at w; cases w
    refine htd d l (wipe σ (own.map (·.2))) F3 H3 x _ hAl s4.ex hv fun r sr => ?_
    have hidx : ∀ q ∈ r, q.1 ∈ own.map (·.2) := setsP_idx sr fun q hq => (lt_idx hl2 q hq).1
    refine ⟨by rw [wipe_putsV hidx]; exact wipe_wipe σ _, ?_⟩
    unfold semTB tYes
    dsimp only
    rw [if_pos rfl]
    intro sh H0 C cl fp
    refine semE_of (pe_lst pa_nil) ?_
    refine ⟨Nat.zero_le _, fun b hb => ?_⟩
    have nD : b ≠ D' := fun z => by subst z; rw [exH _ _ q1] at hb; cases hb
    have nas : b ∉ as := fun z => by rw [exH _ _ (q7 b z).1] at hb; cases hb
    have s5 := s4.alloc (o := .lst []) hb
    refine ⟨as.map .ref, by rw [upd_ne (Ne.symm nD)]; exact exH _ _ q1, by rw [List.length_map]; omega, F3, as ++ [b], ?_, e3.trans ex4, by rw [upd_same, List.map_append]; rfl, keep D' _ q1 q2, q3, q4, ?_, by rw [List.length_append, List.length_singleton, q6], fun c hc => ?_⟩
    · exact s5.untracked (keep D' _ q1 q2) q3 q4
    · rw [← List.cons_append, List.nodup_append]
      refine ⟨q5, by simp, fun c hc e he => ?_⟩
      have he : e = b := by simpa using he
      subst he
      rcases List.mem_cons.mp hc with rfl | hc
      · exact Ne.symm nD
      · exact fun z => nas (z ▸ hc)
    · rcases List.mem_append.mp hc with hc | hc
      · obtain ⟨z1, z2, z3, z4⟩ := q7 c hc
        have h1 : c ≠ D' := fun z => (List.nodup_cons.mp q5).1 (z ▸ hc)
        have h2 : c ≠ b := fun z => nas (z ▸ hc)
        exact ⟨by rw [upd_ne h1, upd_ne h2]; exact exH _ _ z1, keep c _ z1 z2, z3, z4⟩
      · have hc : c = b := by simpa using hc
        subst hc
        exact ⟨by rw [upd_ne nD, upd_same], s4.ex.none hb, fun z => s4.there z hb, s4.h0 hb⟩
  · have s5 := s1.unwiped hwo s3 e3
    have no : ∀ b, ¬ Own (wipeE env (own.map (·.2))) b → ¬ Own env b := fun b h z => h (own_wipe' hwo z)
    have hzf : ∀ n, as.length = n → (as.zip (List.replicate n ([] : List PyData))).map Prod.fst = as := fun n hn => by
      rw [List.map_fst_zip]; rw [List.length_replicate]; omega
    refine hD.nx _ _ F2 H2 (hp D' as (fun m => s1.g6 D' m q4) q6) (s5.set (ltB hl) ?_ ?_ ?_ ?_) (e1.trans e3)
    · refine ⟨rfl, ?_, ?_, fun r hr => ?_⟩
      · rw [q1]
        congr 2
        have : ∀ L : List (Addr × List PyData), (L.map fun r => V.ref r.1) = (L.map Prod.fst).map V.ref := fun L => by rw [List.map_map]; rfl
        rw [this, hzf _ q6]
      · show (D' :: (as.zip (List.replicate xs.length [])).map Prod.fst).Nodup
        rw [hzf _ q6]; exact q5
      · obtain ⟨m1, m2⟩ := List.of_mem_zip (a := r.1) (b := r.2) hr
        rw [(List.mem_replicate.mp m2).2]
        exact ⟨[], (q7 _ m1).1, .nil⟩
    all_goals
      intro b hb
      have hb : b = D' ∨ b ∈ as := by
        have hb : b ∈ D' :: (as.zip (List.replicate xs.length [])).map Prod.fst := hb
        rw [hzf _ q6] at hb
        exact List.mem_cons.mp hb
    · rcases hb with rfl | hb
      · exact q2
      · exact (q7 b hb).2.1
    · intro j u hj hu hbu
      rcases hb with rfl | hb
      · exact no _ q3 ⟨j, u, hu, hbu⟩
      · exact no _ (q7 b hb).2.2.1 ⟨j, u, hu, hbu⟩
    · rcases hb with rfl | hb
      · exact .inl q4
      · exact .inl (q7 b hb).2.2.2
end
theorem getT_s {kT : List (List Key × PyData)} {key : PyData} {Q : KD} {Φ : PyData → Prop} (h : getTM kT key Q) (k : ∀ r, Q r → Φ r) : ∃ q, keyT key = some q ∧ ∃ d, valP kT q = some d ∧ Φ d := by
  unfold getTM at h
  split at h
  · rename_i e1
    split at h
    · rename_i e2; exact ⟨_, e1, _, e2, k _ h⟩
    · exact h.elim
  · exact h.elim
theorem getK_s {kA : List (Key × PyData)} {key : PyData} {Q : KD} {Φ : PyData → Prop} (h : getKM kA key Q) (k : ∀ r, Q r → Φ r) : ∃ q, keyA key = some q ∧ ∃ d, valP kA q = some d ∧ Φ d := by
  unfold getKM at h
  split at h
  · rename_i e1
    split at h
    · rename_i e2; exact ⟨_, e1, _, e2, k _ h⟩
    · exact h.elim
  · exact h.elim
/-! xs.index(x), xs.reverse() -/
def lstO : PyData → KL → Prop
  | .list ds, K => K ds
  | _, _ => False
theorem lstO_sh {x : PyData} {Q Φ : KL} (h : lstO x Q) (k : ∀ r, Q r → Φ r) : ∃ ds, x = .list ds ∧ Φ ds := by
  unfold lstO at h
  split at h
  · exact ⟨_, rfl, k _ h⟩
  · exact h.elim
def indexM (ds : List PyData) (d : PyData) (K : KD) : Prop := (SeqAt.shaped (.list ds) = true ∧ SeqAt.shaped d = true) ∧ match ds.findIdx? (fun z => PyData.eqv z d) with
    | some j => K (.int (j : Nat))
    | none => False
def IndexP (Φ : PyData → Prop) (ds : List PyData) (d2 : PyData) : Prop := ∃ (j : Nat) (z : PyData), SeqAt.shaped (.list ds) = true ∧ SeqAt.shaped d2 = true ∧ ds[j]? = some z ∧ PyData.eqv z d2 = true ∧
  (∀ (m : Nat) (z' : PyData), m < j → ds[m]? = some z' → PyData.eqv z' d2 = false) ∧ Φ (.int (j : Nat))
theorem index_sh {ds : List PyData} {y : PyData} {Q : KD} {Φ : PyData → Prop} (h : indexM ds y Q) (k : ∀ r, Q r → Φ r) : IndexP Φ ds y := by
  unfold indexM at h
  obtain ⟨⟨h1, h2⟩, h⟩ := h
  split at h
  · rename_i j e
    obtain ⟨h3, h4, h5⟩ := List.findIdx?_eq_some_iff_getElem.mp e
    refine ⟨j, ds[j], h1, h2, List.getElem?_eq_getElem h3, h4, fun m z' hm hz => ?_, k _ h⟩
    obtain ⟨h6, rfl⟩ := List.getElem?_eq_some_iff.mp hz
    exact Bool.eq_false_iff.mpr (h5 m hm)
  · exact h.elim
section
variable {X : Cx} {g : G} {env : List Sl} {Ψ : Exc → Prop} {P : Po} {o e : Expr} {k0 : Nat}
theorem we_index {apos cpos : Pos} {Φ : PyData → Bool → Prop} (hr : Room k0 X.A) (h : WE X g o env (fun d1 z1 => z1 = true ∧ ∃ ds, d1 = .list ds ∧ WE X g e env (fun d2 z2 => z2 = true ∧ IndexP (fun d => Φ d true) ds d2) Ψ) Ψ)
    (hbase : attributeBase o "index" X.env (eval o X.env) = eval o X.env := by rfl)
    (hfew : ((backTo cpos (starEach [e] X.env)).all (fun x => !x.1) && (backToKw cpos (keywordEach [] X.env)).all (fun x => x.1.isSome)
      && decide ([e].length + ([] : List Keyword).length + (if ([] : List Keyword).isEmpty then 0 else 1) < 30)) = true := by rfl)
    (hline : (apos.endLine == cpos.line) = true := by rfl) (hs1 : starEach [e] X.env = (false, eval e X.env) :: starEach [] X.env := by rfl) (hplain : (backTo cpos (starEach ([] : List Expr) X.env)).any (·.1) = false := by rfl) :
    WE X g (.Call (.Attribute o "index" apos) [e] [] cpos) env Φ Ψ := fun W tk σ F H st hx Q hQ => by
  refine semE_of (pe_bm PySem.F.plainAttrs_list PySem.F.slot_list_index PySem.F.type_list_index (mt_indexD (units65 hr)) (peS o) (pa_cons (peS e) pa_nil hs1) hbase hfew hline hs1 hplain) ?_
  refine h W tk σ F H st hx _ fun d1 z1 v1 F1 H1 ⟨hz, ds, hd, hw⟩ s1 e1 r1 => ?_
  subst hz hd
  refine ⟨?_, ?_⟩
  · obtain ⟨a, vs, rfl, hl, hds⟩ := rd_lst (z := true) s1.toSk r1
    exact .inl ⟨rfl, vs, hl⟩
  refine hw W tk σ F1 H1 s1 hx _ fun d2 z2 v2 F2 H2 ⟨hz, j, z, g1, g2, g3, g4, g5, hp⟩ s2 e2 r2 => ?_
  subst hz
  have q1 := dp_mono e2 _ _ r1
  obtain ⟨a, vs, rfl, hl, hds⟩ := dp_lst q1
  exact ⟨a, v2, d2, ds, j, z, rfl, rfl, rd_nowP (z := true) s2.toSk q1 g1, rd_nowP (z := true) s2.toSk r2 g2, g1, g2, g3, g4, g5, hQ _ true _ F2 H2 hp s2 (e1.trans e2) (.int _)⟩
/-- x.reverse(), x.clear() -/
theorem w1_reverse (i : Nat) {x : Str} {q apos cpos pos : Pos} {al : Addr} {ds : List PyData} (he : env[i]? = some (.ol al ds)) (h : P.nx (env.set i (.ol al ds.reverse))) (hN : X.N[i]? = some x := by rfl)
    (hv : Vis X.env.scope x := by first | exact Or.inl rfl | exact Or.inr (Or.inl rfl) | exact Or.inr (Or.inr rfl)) (hd : (x == ("__debug__" : Str)) = false := by decide)
    (hcd : (x == ("__classdict__" : Str)) = false := by decide)
    (hbase : attributeBase (.Name x q) "reverse" X.env (eval (.Name x q) X.env) = eval (.Name x q) X.env := by rfl) (hline : (apos.endLine == cpos.line) = true := by rfl)
    (hs : swapsWith (.Call (.Attribute (.Name x q) "reverse" apos) [] [] cpos) none pos.line X.env = pure false := by rfl) :
    W1 X g (.Expr (.Call (.Attribute (.Name x q) "reverse" apos) [] [] cpos) pos) env P := fun W tk hx2 σ F H s0 D hD => by
  refine semP_of (ps_expr (pe_bm0 PySem.F.plainAttrs_list PySem.F.slot_list_reverse PySem.F.type_list_reverse mt_reverse (pe_var hN hv hd hcd) hbase hline) hs) ?_
  obtain ⟨h1, vs, h2, h3⟩ := s0.sl i _ he
  refine ⟨_, getD_some h1, .inl ⟨rfl, vs, SqL.of h2⟩, ?_⟩
  refine ⟨al, vs, rfl, rfl, h2, ?_⟩
  exact hD.nx _ _ F _ h (s0.write he rfl rfl ⟨h1, vs.reverse, upd_same, dpa_rev h3⟩) (Ex.refl F)
theorem w1_clear (i : Nat) {x : Str} {q apos cpos pos : Pos} {al : Addr} {ds : List PyData} (he : env[i]? = some (.ol al ds)) (h : P.nx (env.set i (.ol al []))) (hN : X.N[i]? = some x := by rfl)
    (hv : Vis X.env.scope x := by first | exact Or.inl rfl | exact Or.inr (Or.inl rfl) | exact Or.inr (Or.inr rfl)) (hd : (x == ("__debug__" : Str)) = false := by decide)
    (hcd : (x == ("__classdict__" : Str)) = false := by decide)
    (hbase : attributeBase (.Name x q) "clear" X.env (eval (.Name x q) X.env) = eval (.Name x q) X.env := by rfl) (hline : (apos.endLine == cpos.line) = true := by rfl)
    (hs : swapsWith (.Call (.Attribute (.Name x q) "clear" apos) [] [] cpos) none pos.line X.env = pure false := by rfl) :
    W1 X g (.Expr (.Call (.Attribute (.Name x q) "clear" apos) [] [] cpos) pos) env P := fun W tk hx2 σ F H s0 D hD => by
  refine semP_of (ps_expr (pe_bm0 PySem.F.plainAttrs_list PySem.F.slot_list_clear PySem.F.type_list_clear mt_clear (pe_var hN hv hd hcd) hbase hline) hs) ?_
  obtain ⟨h1, vs, h2, h3⟩ := s0.sl i _ he
  refine ⟨_, getD_some h1, .inl ⟨rfl, vs, SqL.of h2⟩, ?_⟩
  refine ⟨al, vs, rfl, rfl, h2, ?_⟩
  exact hD.nx _ _ F _ h (s0.write he rfl rfl ⟨h1, [], upd_same, .nil⟩) (Ex.refl F)
end
end TL

namespace TL
open PySem PySem.Spec PyProof.Rows L2
/-! try: clauses by class name; the named classes stand right under PinchError -/
def isE (m n : Str) : Bool := decide (m = n) || decide (n = "PinchError")
def hdC : List (Str × Prop) → Str → Prop → Prop
  | [], _, K => K
  | (n, H) :: r, m, K => (isE m n = true → H) ∧ (isE m n = false → hdC r m K)
def hdM (kn : List Str) (hs : List (Str × Prop)) (E : Exc → Prop) : Exc → Prop
  | .own m => m ∈ kn ∧ hdC hs m (E (.own m))
def tryM (bd : (Exc → Prop) → Prop) (kn : List Str) (hs : List (Str × Prop)) (E : Exc → Prop) : Prop := bd (hdM kn hs E)
theorem exm_nil {K : Frag} {n : Str} : ∀ m ∈ ([] : List Str), ExM K (.own m) n = some (isE m n) := fun _ h => by cases h
theorem exm_cons {K : Frag} {n a : Str} {l : List Str} {b : Bool} (h : ExM K (.own a) n = some b) (r : ∀ m ∈ l, ExM K (.own m) n = some (isE m n)) (e : isE a n = b := by rfl) : ∀ m ∈ a :: l, ExM K (.own m) n = some (isE m n) := fun m hm => by
  rcases List.mem_cons.mp hm with rfl | hm
  · rw [h, e]
  · exact r m hm
section
variable {X : Cx} {g : G} {env : List Sl} {P : Po} {pos : Pos} {body : List Stmt}
theorem w1_tryS {h₀ : ExceptHandler} {hds : List ExceptHandler} {l : List (Str × List Stmt)} {bd : (Exc → Prop) → Prop} {kn : List Str} {hs : List (Str × Prop)} {E : Exc → Prop} (hm : tryM bd kn hs E) (hr : HdR X (h₀ :: hds) l)
    (hH : ∀ m, m ∈ kn → hdC hs m (E (.own m)) → TryH X g P l (.own m) env)
    (hb : bd (hdM kn hs E) → ∀ (pn : List (Addr × Obj)) (xe : Value → Shared → Prop) (F : Hp), PassesOwn (model X.prog X.w) X.A X.env xe → WS (X.tr pn xe) { g with F0 := F } body env (P.exn fun c e => hdM kn hs E c ∧ e = env))
    (hst : X.stack = X.env :: X.outer := by rfl) (hf : X.env.frame = some X.env.locals := by rfl) : W1 X g (.Try body (h₀ :: hds) [] [] pos) env P := by
  refine w1_try hr (fun pn xe F hp => ?_) hst hf
  refine (hb hm pn xe F hp).mono (fun _ q => q) (fun _ _ q => q) (fun _ q => q) (fun _ q => q) fun c e ⟨h1, h2⟩ => ?_
  subst h2
  cases c with
  | own m => exact hH m h1.1 h1.2
end
end TL

namespace TL
open PySem PySem.Spec PyProof.Rows L2
/-! dicts that are read alone: data; a dict by tuples bears a mark ahead -/
def dTd (m : List (List Key × PyData)) : PyData := .dict ((.none, .none) :: m.map fun kv => (.tuple (kv.1.map kD), kv.2))
def dKd (m : List (Key × PyData)) : PyData := .dict (m.map fun kv => (kD kv.1, kv.2))
def asT : List (PyData × PyData) → Option (List (List Key × PyData))
  | [] => some []
  | (k, d) :: r => match keyT k, asT r with
    | some q, some l => some ((q, d) :: l)
    | _, _ => none
def asK : List (PyData × PyData) → Option (List (Key × PyData))
  | [] => some []
  | (k, d) :: r => match keyA k, asK r with
    | some q, some l => some ((q, d) :: l)
    | _, _ => none
theorem keyA_kD (k : Key) : keyA (kD k) = some k := by cases k <;> rfl
theorem keyAs_kD : ∀ k : List Key, keyAs (k.map kD) = some k
  | [] => rfl
  | x :: r => by
    show (match keyA (kD x), keyAs (r.map kD) with | some k, some l => some (k :: l) | _, _ => none) = _
    rw [keyA_kD, keyAs_kD r]
theorem keyT_kD (k : List Key) : keyT (.tuple (k.map kD)) = some k := keyAs_kD k
theorem keyT_at (k : Key) : keyT (kD k) = none := by cases k <;> rfl
theorem asT_of : ∀ m : List (List Key × PyData), asT (m.map fun kv => (.tuple (kv.1.map kD), kv.2)) = some m
  | [] => rfl
  | (k, d) :: r => by
    show (match keyT (.tuple (k.map kD)), asT (r.map fun kv => (.tuple (kv.1.map kD), kv.2)) with | some q, some l => some ((q, d) :: l) | _, _ => none) = _
    rw [keyT_kD, asT_of r]
theorem asK_of : ∀ m : List (Key × PyData), asK (m.map fun kv => (kD kv.1, kv.2)) = some m
  | [] => rfl
  | (k, d) :: r => by
    show (match keyA (kD k), asK (r.map fun kv => (kD kv.1, kv.2)) with | some q, some l => some ((q, d) :: l) | _, _ => none) = _
    rw [keyA_kD, asK_of r]
theorem asT_eq : ∀ {l : List (PyData × PyData)} {m : List (List Key × PyData)}, asT l = some m → l = m.map fun kv => (.tuple (kv.1.map kD), kv.2)
  | [], _, h => by cases h; rfl
  | (k, d) :: r, _, h => by
    unfold asT at h
    split at h
    · rename_i e1 e2
      cases h
      rw [keyT_eq e1, asT_eq e2]; rfl
    · cases h
theorem asK_eq : ∀ {l : List (PyData × PyData)} {m : List (Key × PyData)}, asK l = some m → l = m.map fun kv => (kD kv.1, kv.2)
  | [], _, h => by cases h; rfl
  | (k, d) :: r, _, h => by
    unfold asK at h
    split at h
    · rename_i e1 e2
      cases h
      rw [keyA_eq e1, asK_eq e2]; rfl
    · cases h
/-- a dict as data: by tuples, by atoms -/
def dictO : PyData → Option (List (List Key × PyData) ⊕ List (Key × PyData))
  | .dict l => match asK l with
    | some m => some (.inr m)
    | none => match l with
      | (.none, .none) :: r => match asT r with
        | some m => some (.inl m)
        | none => none
      | _ => none
  | _ => none
theorem dictO_T (m : List (List Key × PyData)) : dictO (dTd m) = some (.inl m) := by
  show (match asT (m.map fun kv => (.tuple (kv.1.map kD), kv.2)) with | some m => some (Sum.inl m) | none => none) = _
  rw [asT_of]
theorem dictO_K (m : List (Key × PyData)) : dictO (dKd m) = some (.inr m) := by
  unfold dictO dKd
  dsimp only
  rw [asK_of]
theorem dictO_t {d : PyData} {m : List (List Key × PyData)} (h : dictO d = some (.inl m)) : d = dTd m := by
  unfold dictO at h
  split at h
  · split at h
    · cases h
    · split at h
      · split at h
        · rename_i e; cases h; rw [asT_eq e]; rfl
        · cases h
      · cases h
  · cases h
theorem dictO_k {d : PyData} {m : List (Key × PyData)} (h : dictO d = some (.inr m)) : d = dKd m := by
  unfold dictO at h
  split at h
  · split at h
    · rename_i e; cases h; rw [asK_eq e]; rfl
    · split at h
      · split at h <;> cases h
      · cases h
  · cases h
/-- d[k], k in d -/
def getDM (d key : PyData) (K : KD) : Prop := match dictO d with
  | some (.inl m) => getTM m key K
  | some (.inr m) => getKM m key K
  | none => False
def inDM (d key : PyData) (K : KB) : Prop := match dictO d with
  | some (.inl m) => inTM m key K
  | some (.inr m) => inKM m key K
  | none => False
theorem q_getD' {m : List (List Key × PyData)} {key : PyData} {K : KD} : getDM (dTd m) key K = getTM m key K := by unfold getDM; rw [dictO_T]
theorem q_inD' {m : List (List Key × PyData)} {key : PyData} {K : KB} : inDM (dTd m) key K = inTM m key K := by unfold inDM; rw [dictO_T]
theorem q_getDK {m : List (Key × PyData)} {key : PyData} {K : KD} : getDM (dKd m) key K = getKM m key K := by unfold getDM; rw [dictO_K]
theorem q_inDK {m : List (Key × PyData)} {key : PyData} {K : KB} : inDM (dKd m) key K = inKM m key K := by unfold inDM; rw [dictO_K]
theorem q_getD {m : List (List Key × PyData)} {key : PyData} {K : KD} (_ : m ≠ []) : getDM (dTd m) key K = getTM m key K := q_getD'
theorem q_inD {m : List (List Key × PyData)} {key : PyData} {K : KB} (_ : m ≠ []) : inDM (dTd m) key K = inTM m key K := q_inD'
section
variable {K : Frag} {F : Hp}
theorem kvp_dqt : ∀ {xs : List (List Key × V)} {m : List (List Key × PyData)}, KVp K F xs m → DqT K F xs (m.map fun kv => (.tuple (kv.1.map kD), kv.2))
  | _, _, .nil => .nil
  | (k1, v1) :: _, (k2, d2) :: _, .cons h t => by
    obtain ⟨h1, h2⟩ := h
    have h1 : k1 = k2 := h1
    subst h1
    exact .cons h2 (kvp_dqt t)
theorem kvp_dqk : ∀ {xs : List (Key × V)} {m : List (Key × PyData)}, KVp K F xs m → DqK K F xs (m.map fun kv => (kD kv.1, kv.2))
  | _, _, .nil => .nil
  | (k1, v1) :: _, (k2, d2) :: _, .cons h t => by
    obtain ⟨h1, h2⟩ := h
    have h1 : k1 = k2 := h1
    subst h1
    exact .cons h2 (kvp_dqk t)
theorem dqt_as : ∀ {xs : List (List Key × V)} {kvs : List (PyData × PyData)}, DqT K F xs kvs → ∃ m, asT kvs = some m ∧ KVp K F xs m
  | _, _, .nil => ⟨[], rfl, .nil⟩
  | _, _, .cons (k := k) (d := d) (ds := ds) h t => by
    obtain ⟨m, e, r⟩ := dqt_as t
    refine ⟨(k, d) :: m, ?_, .cons ⟨rfl, h⟩ r⟩
    show (match keyT (.tuple (k.map kD)), asT ds with | some q, some l => some ((q, d) :: l) | _, _ => none) = _
    rw [keyT_kD, e]
theorem dqk_as : ∀ {xs : List (Key × V)} {kvs : List (PyData × PyData)}, DqK K F xs kvs → ∃ m, asK kvs = some m ∧ KVp K F xs m
  | _, _, .nil => ⟨[], rfl, .nil⟩
  | _, _, .cons (k := k) (d := d) (ds := ds) h t => by
    obtain ⟨m, e, r⟩ := dqk_as t
    refine ⟨(k, d) :: m, ?_, .cons ⟨rfl, h⟩ r⟩
    show (match keyA (kD k), asK ds with | some q, some l => some ((q, d) :: l) | _, _ => none) = _
    rw [keyA_kD, e]
theorem dq_dT {v : V} {m : List (List Key × PyData)} (h : Dq K F v (dTd m)) : ∃ a xs, v = .ref a ∧ F a = some (.dT xs) ∧ KVp K F xs m := by
  unfold dTd at h
  cases h with
  | dct hs ht =>
    obtain ⟨m', e1, e2⟩ := dqt_as ht
    rw [asT_of] at e1
    cases e1
    exact ⟨_, _, rfl, hs, e2⟩
  | dck hs ht =>
    generalize hk : ((PyData.none, PyData.none) :: m.map fun kv => (PyData.tuple (kv.1.map kD), kv.2)) = kvs at ht
    cases ht with
    | nil => cases hk
    | cons h t => rename_i k _ _ _ _; injection hk with e1 _; injection e1 with e1 _; cases k <;> cases e1
theorem dq_dK {v : V} {m : List (Key × PyData)} (h : Dq K F v (dKd m)) : ∃ a xs, v = .ref a ∧ F a = some (.dK xs) ∧ KVp K F xs m := by
  unfold dKd at h
  generalize hk : (m.map fun kv => (kD kv.1, kv.2)) = kvs at h
  cases h with
  | dct hs ht =>
    cases m with
    | nil => cases hk
    | cons a m => injection hk with e1 _; injection e1 with e1 _; obtain ⟨k, _⟩ := a; cases k <;> cases e1
  | dck hs ht =>
    obtain ⟨m', e1, e2⟩ := dqk_as ht
    rw [← hk, asK_of] at e1
    cases e1
    exact ⟨_, _, rfl, hs, e2⟩
  | ins _ _ _ =>
    cases m with
    | nil => cases hk
    | cons a m => injection hk with e1 _; injection e1 with e1 _; obtain ⟨k, _⟩ := a; cases k <;> cases e1
end
/-- what a look tells: the walk's side -/
def GetD (d key : PyData) (o : Option PyData) : Prop := (∃ m q, d = dTd m ∧ keyT key = some q ∧ valP m q = o) ∨ ∃ m q, d = dKd m ∧ keyA key = some q ∧ valP m q = o
theorem getD_s {d key : PyData} {Q : KD} {Φ : PyData → Prop} (h : getDM d key Q) (k : ∀ r, Q r → Φ r) : ∃ x, GetD d key (some x) ∧ Φ x := by
  unfold getDM at h
  split at h
  · rename_i m e
    obtain ⟨q, e1, x, e2, h⟩ := getT_s h k
    exact ⟨x, .inl ⟨m, q, dictO_t e, e1, e2⟩, h⟩
  · rename_i m e
    obtain ⟨q, e1, x, e2, h⟩ := getK_s h k
    exact ⟨x, .inr ⟨m, q, dictO_k e, e1, e2⟩, h⟩
  · exact h.elim
theorem inD_s {d key : PyData} {Q Φ : KB} (h : inDM d key Q) (k : ∀ r, Q r → Φ r) : ∃ o, GetD d key o ∧ Φ o.isSome := by
  unfold inDM at h
  split at h
  · rename_i m e
    obtain ⟨q, e1, h⟩ := inT_sh h k
    exact ⟨_, .inl ⟨m, q, dictO_t e, e1, rfl⟩, h⟩
  · rename_i m e
    obtain ⟨q, e1, h⟩ := inK_sh h k
    exact ⟨_, .inr ⟨m, q, dictO_k e, e1, rfl⟩, h⟩
  · exact h.elim
theorem inD_sn {d key : PyData} {Q Φ : KB} (h : inDM d key Q) (k : ∀ r, Q r → Φ (!r)) : ∃ o, GetD d key o ∧ Φ (!o.isSome) := inD_s (Φ := fun r => Φ (!r)) h k
theorem isD_of {K : Frag} {F H : Hp} {v : V} {d key : PyData} {o : Option PyData} (h : GetD d key o) (hd : Dq K F v d) (ex : Ex F H) : ∃ a, v = .ref a ∧ IsD H a := by
  rcases h with ⟨m, q, rfl, _⟩ | ⟨m, q, rfl, _⟩
  · obtain ⟨a, xs, rfl, hs, _⟩ := dq_dT hd
    exact ⟨a, rfl, .inr ⟨xs, .inl (ex _ _ hs)⟩⟩
  · obtain ⟨a, xs, rfl, hs, _⟩ := dq_dK hd
    exact ⟨a, rfl, .inl ⟨xs, .inl (ex _ _ hs)⟩⟩
theorem getD_run {K : Frag} {F H : Hp} {v kv : V} {d key : PyData} {o : Option PyData} (h : GetD d key o) (hd : Dq K F v d) (hk : Dq K F kv key) (ex : Ex F H) : ∃ (a : Addr) (ov : Option V), v = .ref a ∧ DGet H a kv ov ∧ ov.isSome = o.isSome ∧ ∀ x, o = some x → ∃ w, ov = some w ∧ Dq K F w x := by
  rcases h with ⟨m, q, rfl, e4, e5⟩ | ⟨m, q, rfl, e4, e5⟩
  · obtain ⟨a, vs, rfl, hs, e2⟩ := dq_dT hd
    obtain ⟨t, rfl, ht⟩ := keyT_dp hk e4
    obtain ⟨w1, w2⟩ := kvp_val (k := q) e2
    exact ⟨a, valV vs q, rfl, DGet.t (ex _ _ hs) (ex _ _ ht), by rw [w2, e5], fun x hx => w1 x (e5.trans hx)⟩
  · obtain ⟨a, vs, rfl, hs, e2⟩ := dq_dK hd
    have hv := keyA_dp hk e4
    subst hv
    obtain ⟨w1, w2⟩ := kvp_val (k := q) e2
    exact ⟨a, valV vs q, rfl, DGet.k (ex _ _ hs), by rw [w2, e5], fun x hx => w1 x (e5.trans hx)⟩
section
variable {X : Cx} {g : G} {env env' : List Sl} {Ψ : Exc → Prop} {P : Po} {pos p : Pos} {a b c e : Expr} {es : List Expr} {rest body : List Stmt} {k0 : Nat}
theorem we_getD {Φ : PyData → Bool → Prop} (hr : Room k0 X.A) (h : WE X g a env (fun d z => z = true ∧ WE X g b env (fun kd z => z = true ∧ ∃ x, GetD d kd (some x) ∧ Φ x true) Ψ) Ψ) (hs : NoSl b := by exact fun _ _ => rfl) : WE X g (.Subscript a b pos) env Φ Ψ := fun W tk σ F H st hx Q hQ => by
  refine semE_of (pe_dget (by have := hr.units; omega) (peS a) (peS b) hs) ?_
  refine h W tk σ F H st hx _ fun d z v F1 H1 ⟨hz, h2⟩ s1 e1 r1 => ?_
  subst hz
  refine h2 W tk σ F1 H1 s1 hx _ fun kd z w F2 H2 ⟨hz, x, hg, hp⟩ s2 e2 r2 => ?_
  subst hz
  obtain ⟨al, ov, rfl, g1, g2, g3⟩ := getD_run hg (dp_mono e2 _ _ r1) r2 s2.ex
  obtain ⟨u, rfl, g4⟩ := g3 x rfl
  exact ⟨al, u, rfl, g1, hQ x true u F2 H2 hp s2 (e1.trans e2) g4⟩
theorem wt_inD {Φ : KB} (hr : Room k0 X.A) (h : WE X g a env (fun kd z => z = true ∧ WE X g b env (fun d z => z = true ∧ ∃ o, GetD d kd o ∧ Φ o.isSome) Ψ) Ψ) (hm : behindInMarks .In b = false := by first | exact nomark _ | rfl) : WT X g (.Compare a [.In] [b] pos) env Φ Ψ := fun W tk σ F H st hx Q hQ => by
  refine semT_of (pt_cmp (pc_din (by have := hr.units; omega) (peS a) (peS b)) hm) ?_
  refine h W tk σ F H st hx _ fun kd z w F1 H1 ⟨hz, h2⟩ s1 e1 r1 => ?_
  subst hz
  refine h2 W tk σ F1 H1 s1 hx _ fun d z v F2 H2 ⟨hz, o, hg, hp⟩ s2 e2 r2 => ?_
  subst hz
  obtain ⟨al, ov, rfl, g1, g2, g3⟩ := getD_run hg r2 (dp_mono e2 _ _ r1) s2.ex
  refine ⟨al, ov, rfl, g1, _, rfl, ?_⟩
  rw [g2]
  exact hQ _ F2 H2 hp s2 (e1.trans e2)
theorem wt_notInD {Φ : KB} (hr : Room k0 X.A) (h : WE X g a env (fun kd z => z = true ∧ WE X g b env (fun d z => z = true ∧ ∃ o, GetD d kd o ∧ Φ (!o.isSome)) Ψ) Ψ) (hm : behindInMarks .NotIn b = false := by first | exact nomark _ | rfl) : WT X g (.Compare a [.NotIn] [b] pos) env Φ Ψ := fun W tk σ F H st hx Q hQ => by
  refine semT_of (pt_cmp (pc_dnotin (by have := hr.units; omega) (peS a) (peS b)) hm) ?_
  refine h W tk σ F H st hx _ fun kd z w F1 H1 ⟨hz, h2⟩ s1 e1 r1 => ?_
  subst hz
  refine h2 W tk σ F1 H1 s1 hx _ fun d z v F2 H2 ⟨hz, o, hg, hp⟩ s2 e2 r2 => ?_
  subst hz
  obtain ⟨al, ov, rfl, g1, g2, g3⟩ := getD_run hg r2 (dp_mono e2 _ _ r1) s2.ex
  refine ⟨al, ov, rfl, g1, _, rfl, ?_⟩
  rw [g2]
  exact hQ _ F2 H2 hp s2 (e1.trans e2)
/-- a new dict, read alone from here on -/
theorem we_dict {Φ : PyData → Bool → Prop} (h : WDt X g e env (fun kvs => Φ (dTd kvs) true) Ψ) : WE X g e env Φ Ψ := fun W tk σ F H st hx Q hQ => by
  refine h W tk σ F H st hx _ fun kvs v F' H' hp s' e' ⟨q, xs, hv, h1, h2, h3, h4, h5⟩ => ?_
  subst hv
  have e2 := Ex.new (o := .dT xs) h3
  exact hQ _ true (.ref q) (upd F' q (.dT xs)) H' hp (s'.freeze h1 h3 h4 h5) (e'.trans e2) (.dct upd_same (dqt_mono e2 _ _ (kvp_dqt h2)))
theorem ws_freezeT (i : Nat) {al : Addr} {kvs : List (List Key × PyData)} (ha : al ∉ g.M) (h : WS X g rest (env.set i (.d (dTd kvs))) P) (he : env[i]? = some (.dt al kvs) := by rfl) : WS X g rest env P := fun W tk hx2 σ F H st D hD => by
  obtain ⟨h1, vs, h2, h3⟩ := st.sl i _ he
  have own : Own env al := ⟨i, _, he, by simp [Sl.fp]⟩
  have hi := (List.getElem?_eq_some_iff.mp he).1
  have s1 := st.weak (s' := .un) he (fun _ h => by cases h) fun _ => trivial
  have no : ¬ Own (env.set i .un) al := fun z => by
    obtain ⟨j, t, ej, ht⟩ := z
    rcases set_get ej with ⟨_, rfl⟩ | ⟨ne, ej⟩
    · cases ht
    · exact ne (st.nd i j _ t al he ej (by simp [Sl.fp]) ht)
  have h0 : g.H0 al = none := by
    rcases st.g2 al own with z | z
    · exact z
    · exact absurd z ha
  have e2 := Ex.new (o := .dT vs) (st.fr al own)
  have s2 := s1.freeze h2 (st.fr al own) no h0
  have hσ : σ.set i (some (.ref al)) = σ := by
    have hl : i < σ.length := by rw [st.len]; exact hi
    have e := getD_some h1
    obtain ⟨_, e'⟩ := List.getElem?_eq_some_iff.mp e
    rw [← e']
    exact List.set_getElem_self hl
  have s3 := s2.setD (i := i) (v := .ref al) (x := dTd kvs) (by rw [List.length_set]; exact hi) (.dct upd_same (dqt_mono e2 _ _ (kvp_dqt h3)))
  rw [hσ, List.set_set] at s3
  exact h W tk hx2 σ _ H s3 D (hD.mono e2)
theorem ws_freezeK (i : Nat) {al : Addr} {kvs : List (Key × PyData)} (ha : al ∉ g.M) (h : WS X g rest (env.set i (.d (dKd kvs))) P) (he : env[i]? = some (.dk al kvs) := by rfl) : WS X g rest env P := fun W tk hx2 σ F H st D hD => by
  obtain ⟨h1, vs, h2, h3⟩ := st.sl i _ he
  have own : Own env al := ⟨i, _, he, by simp [Sl.fp]⟩
  have hi := (List.getElem?_eq_some_iff.mp he).1
  have s1 := st.weak (s' := .un) he (fun _ h => by cases h) fun _ => trivial
  have no : ¬ Own (env.set i .un) al := fun z => by
    obtain ⟨j, t, ej, ht⟩ := z
    rcases set_get ej with ⟨_, rfl⟩ | ⟨ne, ej⟩
    · cases ht
    · exact ne (st.nd i j _ t al he ej (by simp [Sl.fp]) ht)
  have h0 : g.H0 al = none := by
    rcases st.g2 al own with z | z
    · exact z
    · exact absurd z ha
  have e2 := Ex.new (o := .dK vs) (st.fr al own)
  have s2 := s1.freeze h2 (st.fr al own) no h0
  have hσ : σ.set i (some (.ref al)) = σ := by
    have hl : i < σ.length := by rw [st.len]; exact hi
    have e := getD_some h1
    obtain ⟨_, e'⟩ := List.getElem?_eq_some_iff.mp e
    rw [← e']
    exact List.set_getElem_self hl
  have s3 := s2.setD (i := i) (v := .ref al) (x := dKd kvs) (by rw [List.length_set]; exact hi) (.dck upd_same (dqk_mono e2 _ _ (kvp_dqk h3)))
  rw [hσ, List.set_set] at s3
  exact h W tk hx2 σ _ H s3 D (hD.mono e2)
end
/-! list(range(..)) -/
theorem dqa_map {α : Type} {K : Frag} {F : Hp} (f : α → V) (d : α → PyData) (h : ∀ a, Dq K F (f a) (d a)) : ∀ L : List α, DqAll K F (L.map f) (L.map d)
  | [] => .nil
  | a :: r => .cons (h a) (dqa_map f d h r)
theorem dqa_rg {K : Frag} {F : Hp} (a b : Int) : DqAll K F (rgV a b) (rangeL a b) := dqa_map _ _ (fun i => .int _) _
section
variable {X : Cx} {g : G} {env : List Sl} {Ψ : Exc → Prop} {pos p p1 p2 : Pos} {a b : Expr} {Φ : List PyData → Prop}
theorem wn_lrg1 (hc : X.calm = true) (hl : X.mg "list" = none) (hm : X.mg "range" = none) (h : WE X g a env (fun d1 _ => rngM (.int 0) d1 Φ) Ψ) (hg : Gl X "list" := by rfl) (hg2 : Gl X "range" := by rfl)
    (he : starEach [a] X.env = (false, eval a X.env) :: starEach [] X.env := by rfl) (he2 : starEach [Expr.Call (.Name "range" p1) [a] [] p2] X.env = (false, eval (.Call (.Name "range" p1) [a] [] p2) X.env) :: starEach [] X.env := by rfl) : WN X g (.Call (.Name "list" p) [.Call (.Name "range" p1) [a] [] p2] [] pos) env Φ Ψ := fun W tk σ F H st hx Q hQ => by
  refine semE_of (pe_listRg hc hg hl (prg_1 hg2 hm (peS a) he) he2) ?_
  refine h W tk σ F H st hx _ fun d z v F1 H1 h1 s1 e1 r1 => ?_
  cases d with
  | int j =>
    obtain ⟨hb, hi⟩ : (-1000000 ≤ (0 : Int) ∧ (0 : Int) ≤ 1000000 ∧ -1000000 ≤ j ∧ j ≤ 1000000) ∧ Φ (rangeL 0 j) := h1
    rw [rd_int r1]
    exact ⟨j, rfl, ⟨by omega, by omega, by omega, by omega, by omega⟩, fun q hn => put_new s1 hn (dqa_rg 0 j) hi fun ds v F' H' hp s e r => hQ ds v F' H' hp s (e1.trans e) r⟩
  | _ => exact h1.elim
theorem wn_lrg2 (hc : X.calm = true) (hl : X.mg "list" = none) (hm : X.mg "range" = none) (h : WE X g a env (fun d1 _ => WE X g b env (fun d2 _ => rngM d1 d2 Φ) Ψ) Ψ) (hg : Gl X "list" := by rfl) (hg2 : Gl X "range" := by rfl)
    (he : starEach [a, b] X.env = (false, eval a X.env) :: starEach [b] X.env := by rfl) (he3 : starEach [b] X.env = (false, eval b X.env) :: starEach [] X.env := by rfl) (hpl : (backTo p2 (starEach [b] X.env)).any (·.1) = false := by rfl) (he2 : starEach [Expr.Call (.Name "range" p1) [a, b] [] p2] X.env = (false, eval (.Call (.Name "range" p1) [a, b] [] p2) X.env) :: starEach [] X.env := by rfl) : WN X g (.Call (.Name "list" p) [.Call (.Name "range" p1) [a, b] [] p2] [] pos) env Φ Ψ := fun W tk σ F H st hx Q hQ => by
  refine semE_of (pe_listRg hc hg hl (prg_2 hg2 hm (peS a) (peS b) he he3 hpl) he2) ?_
  refine h W tk σ F H st hx _ fun d0 z0 v0 F0 H0 h0 s0 e0 r0 => ?_
  refine h0 W tk σ F0 H0 s0 hx _ fun d z v F1 H1 h1 s1 e1 r1 => ?_
  cases d0 with
  | int i =>
    cases d with
    | int j =>
      obtain ⟨hb, hi⟩ : (-1000000 ≤ i ∧ i ≤ 1000000 ∧ -1000000 ≤ j ∧ j ≤ 1000000) ∧ Φ (rangeL i j) := h1
      rw [rd_int r1, rd_int r0]
      exact ⟨i, j, rfl, rfl, ⟨by omega, by omega, by omega, by omega, by omega⟩, fun q hn => put_new s1 hn (dqa_rg i j) hi fun ds v F' H' hp s e r => hQ ds v F' H' hp s ((e0.trans e1).trans e) r⟩
    | _ => exact h1.elim
  | _ => exact h1.elim
end
/-! a chain of three comparisons -/
section
variable {X : Cx} {ta tb tc td : TE} {a b c d : Expr} {pos : Pos}
def tChain3 (r r' r2 : R2) (ta tb tc td : TE) : TE := fun σ H Q => ta σ H fun x H1 => tb σ H1 fun y H2 => r x y H2 fun z H3 => ∃ k, z = .bl k ∧
  (if k = true then tc σ H3 fun w' H4 => r' y w' H4 fun z2 H5 => ∃ k2, z2 = .bl k2 ∧ (if k2 = true then td σ H5 fun v' H6 => r2 w' v' H6 Q else Q (.bl false) H5) else Q (.bl false) H3)
theorem pe_chain3 {op op' op2 : CmpOp} {r r' r2 : R2} (ho : OpR X (compareOp op) r) (ho' : OpR X (compareOp op') r') (ho2 : OpR X (compareOp op2) r2) (ha : PE X a ta) (hb : PE X b tb) (hc : PE X c tc) (hd : PE X d td)
    (hm : lastMarks [op, op', op2] [b, c, d] = false) : PE X (.Compare a [op, op', op2] [b, c, d] pos) (tChain3 r r' r2 ta tb tc td) := by
  refine ⟨fun pins s σ H Q I h => ?_⟩
  refine Compare_chain (thn (ha.run pins s σ H _ I h) fun v s1 ⟨x, H1, I1, r1, q1⟩ => chain_link (thn (hb.run pins s1 σ H1 _ I1 q1) fun u s2 ⟨y, H2, I2, rr2, q2⟩ =>
    thn (ho pins s2 σ H2 x y v u _ I2 r1 rr2 q2) fun d s3 ⟨z, H3, I3, r3, k, e, q3⟩ => ?_)) hm
  subst e
  cases r3
  refine wpAny_truthy_bool ?_
  cases k with
  | false => exact ite_ff ⟨.bl false, H3, I3, rfl, q3⟩
  | true =>
    refine ite_tt (chain_link (thn (hc.run pins s3 σ H3 _ I3 q3) fun w' s4 ⟨z', H4, I4, r4, q4⟩ => thn (ho' pins s4 σ H4 y z' u w' _ I4 rr2 r4 q4) fun d' s5 ⟨z5, H5, I5, r5, k2, e2, q5⟩ => ?_))
    subst e2
    cases r5
    refine wpAny_truthy_bool ?_
    cases k2 with
    | false => exact ite_ff ⟨.bl false, H5, I5, rfl, q5⟩
    | true => exact ite_tt (chain_last (thn (hd.run pins s5 σ H5 _ I5 q5) fun v' s6 ⟨z6, H6, I6, r6, q6⟩ => ho2 pins s6 σ H6 z' z6 w' v' Q I6 r4 r6 q6))
variable {g : G} {env : List Sl} {Ψ : Exc → Prop}
theorem we_ch3 {Φ : PyData → Bool → Prop} {op op' op2 : CmpOp} {r r' r2 : R2} (ho : OpR X (compareOp op) r) (ho' : OpR X (compareOp op') r') (ho2 : OpR X (compareOp op2) r2)
    (h : WE X g a env (fun d1 z1 => WE X g b env (fun d2 z2 => ∃ k, CP X.K g env r d1 z1 d2 z2 k ∧ (k = true → WE X g c env (fun d3 z3 => ∃ k', CP X.K g env r' d2 z2 d3 z3 k' ∧ (k' = true → WE X g d env (fun d4 z4 => ∃ k2, CP X.K g env r2 d3 z3 d4 z4 k2 ∧ Φ (.bool k2) true) Ψ) ∧ (k' = false → Φ (.bool false) true)) Ψ) ∧ (k = false → Φ (.bool false) true)) Ψ) Ψ)
    (hm : lastMarks [op, op', op2] [b, c, d] = false := by with_unfolding_all rfl) : WE X g (.Compare a [op, op', op2] [b, c, d] pos) env Φ Ψ := fun W tk σ F H st hx Q hQ => by
  refine semE_of (pe_chain3 ho ho' ho2 (peS a) (peS b) (peS c) (peS d) hm) ?_
  refine h W tk σ F H st hx _ fun d1 z1 v1 F1 H1 h1 st1 e1 r1 => ?_
  refine h1 W tk σ F1 H1 st1 hx _ fun d2 z2 v2 F2 H2 h2 st2 e2 rr2 => ?_
  obtain ⟨k, hc, ht, hf⟩ := h2
  refine hc σ F2 H2 v1 v2 st2 (rd_mono e2 r1) rr2 _ ⟨k, rfl, ?_⟩
  cases k with
  | true =>
    rw [if_pos rfl]
    refine ht rfl W tk σ F2 H2 st2 hx _ fun d3 z3 v3 F3 H3 h3 st3 e3 r3 => ?_
    obtain ⟨k', hc', ht', hf'⟩ := h3
    refine hc' σ F3 H3 v2 v3 st3 (rd_mono e3 rr2) r3 _ ⟨k', rfl, ?_⟩
    cases k' with
    | true =>
      rw [if_pos rfl]
      refine ht' rfl W tk σ F3 H3 st3 hx _ fun d4 z4 v4 F4 H4 h4 st4 e4 r4 => ?_
      obtain ⟨k2, hc2, hp⟩ := h4
      exact hc2 σ F4 H4 v3 v4 st4 (rd_mono e4 r3) r4 Q (hQ _ true _ F4 H4 hp st4 (((e1.trans e2).trans e3).trans e4) (.bl k2))
    | false =>
      rw [if_neg Bool.false_ne_true]
      exact hQ _ true _ F3 H3 (hf' rfl) st3 ((e1.trans e2).trans e3) (.bl false)
  | false =>
    rw [if_neg Bool.false_ne_true]
    exact hQ _ true _ F2 H2 (hf rfl) st2 (e1.trans e2) (.bl false)
theorem ch_sh3 {x y : PyData} {z1 z2 : Bool} {e3 e4 : Expr} {ma mb : KB → Prop} {Q Φ : KB} {r r' r2 : R2} (h : andM ma (fun Q => mb Q) Q) (h1 : ∀ Q, ma Q → ∃ k, CP X.K g env r x z1 y z2 k ∧ Q k)
    (h2 : ∀ Q : KB, mb Q → WE X g e3 env (fun d3 z3 => ∃ k', CP X.K g env r' y z2 d3 z3 k' ∧ (k' = true → WE X g e4 env (fun d4 z4 => ∃ k2, CP X.K g env r2 d3 z3 d4 z4 k2 ∧ Q k2) Ψ) ∧ (k' = false → Q false)) Ψ) (k : ∀ b, Q b → Φ b) :
    ∃ k, CP X.K g env r x z1 y z2 k ∧ (k = true → WE X g e3 env (fun d3 z3 => ∃ k', CP X.K g env r' y z2 d3 z3 k' ∧ (k' = true → WE X g e4 env (fun d4 z4 => ∃ k2, CP X.K g env r2 d3 z3 d4 z4 k2 ∧ Φ k2) Ψ) ∧ (k' = false → Φ false)) Ψ) ∧ (k = false → Φ false) := by
  obtain ⟨b, hb, q1, q2⟩ := h1 _ h
  exact ⟨b, hb, fun e => (h2 _ (q1 e)).mono fun d z ⟨k', c1, c2, c3⟩ => ⟨k', c1, fun e => (c2 e).mono fun d z ⟨k2, c4, c5⟩ => ⟨k2, c4, k _ c5⟩, fun e => k _ (c3 e)⟩, fun e => k _ (q2 e)⟩
end
end TL

namespace TL
open PySem PySem.Spec PyProof.Rows L2 HT
/-! a tuple backwards -/
section
variable {prog : Program} {w : World} {A : Around} {E : Value → Shared → Prop} {s : Shared}
theorem sliceApplied_rev {sl : Addr} {vl vu vs : Value} {n : Nat} {Q : Int × Int × Nat → Shared → Prop} (hs : s.heap.IsSliceOf sl vl vu vs) (pl : IsPart vl none) (pu : IsPart vu none) (ps : IsPart vs (some (-1)))
    (h : Q ((n : Int) - 1, -1, n) s) : wpAny (model prog w) A (Builtin.Slice.sliceApplied (.ref sl) (pure (n : Int))) Q E s := by
  obtain ⟨os, hos, hcs, hds⟩ := id hs
  unfold Builtin.Slice.sliceApplied Builtin.Slice.sliceFields
  refine wpAny_bind (wpAny_bind (wpAny_field hos hds (x := vl) rfl (wpAny_bind (wpAny_field hos hds (x := vu) rfl (wpAny_bind (wpAny_field hos hds (x := vs) rfl (wpAny_pure ?_)))))))
  refine wpAny_bind (slicePart_ ps ?_)
  show wpAny _ _ (if ((-1 : Int) == 0) = true then _ else _) _ _ s
  rw [if_neg (by decide)]
  refine wpAny_bind (slicePart_ pl (wpAny_bind (slicePart_ pu (wpAny_bind (wpAny_pure ?_)))))
  show wpAny _ _ (pure ((n : Int) - 1, (-1 : Int), Builtin.Slice.slicePlaces ((n : Int) - 1) (-1) (-1))) _ _ s
  have e : Builtin.Slice.slicePlaces ((n : Int) - 1) (-1) (-1) = n := by
    unfold Builtin.Slice.slicePlaces
    rw [if_neg (by decide)]
    split
    · simp
    · omega
  rw [e]
  exact wpAny_pure h
theorem fm_some {α β : Type} {f : α → Option β} {g : α → β} : ∀ (L : List α), (∀ k ∈ L, f k = some (g k)) → L.filterMap f = L.map g
  | [], _ => rfl
  | a :: L, h => by rw [List.filterMap_cons, h a (List.mem_cons_self ..), List.map_cons, fm_some L fun b hb => h b (List.mem_cons_of_mem _ hb)]
theorem pick_rev (xs : Array Value) : ((List.range xs.size).filterMap fun (k : Nat) => xs[((xs.size : Int) - 1 + (k : Int) * -1).toNat]?).toArray = xs.toList.reverse.toArray := by
  congr 1
  refine List.ext_getElem? fun i => ?_
  have hh : ∀ k ∈ List.range xs.size, (fun (k : Nat) => xs[((xs.size : Int) - 1 + (k : Int) * -1).toNat]?) k = some (xs.toList.reverse.getD k .none) := fun k hk => by
    have hk := List.mem_range.mp hk
    have e1 : ((xs.size : Int) - 1 + (k : Int) * -1).toNat = xs.size - 1 - k := by omega
    show xs[_]? = _
    rw [e1, List.getD_eq_getElem?_getD, List.getElem?_reverse (by simpa using hk), Array.length_toList, Array.getElem?_toList, Array.getElem?_eq_getElem (by omega)]
    rfl
  have e2 : (List.range xs.size).filterMap (fun (k : Nat) => xs[((xs.size : Int) - 1 + (k : Int) * -1).toNat]?) = (List.range xs.size).map fun k => xs.toList.reverse.getD k .none := fm_some _ hh
  rw [e2, List.getElem?_map]
  by_cases hi : i < xs.size
  · rw [List.getElem?_range hi]
    show some (xs.toList.reverse.getD i .none) = _
    rw [List.getD_eq_getElem?_getD, List.getElem?_eq_getElem (by simpa using hi)]; rfl
  · rw [List.getElem?_eq_none (by simpa using hi), List.getElem?_eq_none (by simpa using hi)]; rfl
theorem getItem_tuple_rev {t sl : Addr} {items : Array Value} {vl vu vs : Value} {Q : Value → Shared → Prop} (ht : IsTup s.heap t items) (hs : s.heap.IsSliceOf sl vl vu vs) (pl : IsPart vl none) (pu : IsPart vu none) (ps : IsPart vs (some (-1)))
    (h : Q (.ref s.heap.objs.size) { s with heap := s.heap.push { cls := .type "tuple", data := .seq items.toList.reverse.toArray } })
    (hsz : items.size ≤ sizeLine) : wpAny (model prog w) A (getItem (.ref t) (.ref sl)) Q E s := by
  have htake : sizeOk (.seq items.toList.reverse.toArray) := by
    show items.toList.reverse.toArray.size ≤ sizeLine
    rw [List.size_toArray, List.length_reverse, Array.length_toList]
    omega
  obtain ⟨os, hos, hcs, hds⟩ := id hs
  have hTs : s.TypeIs (.ref sl) "slice" := ⟨os, hos, hcs⟩
  unfold getItem
  try with_reducible refine wpAny_holding ?_
  first | refine wpAny_bind (wpAny_pure ?_) | skip
  refine wpAny_bind (wpAny_sequenceKey ht.typeIs (by decide) ?_)
  refine wpAny_bind (wpAny_callSpecial?_slot (name := Str.ofString "__getitem__") ht.typeIs PyProof.Rows.slot_tuple_getitem
    (wpAny_call_entry PyProof.Rows.slot_tuple_getitem ht.typeIs entry_tuple_getitem ?_ (args_tuple_getitem _ _)))
  show wpAny _ _ (Builtin.Tuple.tupleItemsOf (.ref t) >>= _) _ _ s
  refine wpAny_bind (tupleItemsOf_ ht ?_)
  refine wpAny_bind (wpAny_typeOf hTs ?_)
  rw [if_pos (by decide)]
  refine wpAny_bind (sliceApplied_rev hs pl pu ps ?_)
  have hno : ¬ ((((items.size : Int) - 1) == 0 && (-1 : Int) == 1 && items.size == items.size) = true) := by simp
  show wpAny _ _ (if (((items.size : Int) - 1) == 0 && (-1 : Int) == 1 && items.size == items.size) = true then _ else _) _ _ s
  rw [if_neg hno, pick_rev]
  first
    | exact wpAny_bind (m := Builtin.Tuple.tupleExact _) (wpAny_newObj_type (wpAny_pure ⟨_, rfl, wpAny_pure h⟩) htake)
    | exact wpAny_bind (m := Builtin.Tuple.tupleExact _) (wpAny_newObj_type (wpAny_bind (wpAny_pure (wpAny_pure ⟨_, rfl, wpAny_pure h⟩))) htake)
    | exact wpAny_bind (wpAny_bind (m := Builtin.Tuple.tupleExact _) (wpAny_newObj_type (wpAny_pure (wpAny_pure ⟨_, rfl, wpAny_pure h⟩)) htake))
    | exact wpAny_bind (wpAny_bind (m := Builtin.Tuple.tupleExact _) (wpAny_newObj_type (wpAny_pure ⟨_, rfl, wpAny_pure h⟩) htake))
end
section
variable {X : Cx}
def tRevT (K : PySem.W.Frag) (te : TE) : TE := fun σ H Q => te σ H fun x H1 => ∃ a xs, x = .ref a ∧ ((SqL K H1 a xs ∧ ∀ p, H1 p = none → Q (.ref p) (upd H1 p (.lst xs.reverse))) ∨ (SqT K H1 a xs ∧ ∀ p, H1 p = none → Q (.ref p) (upd H1 p (.tup xs.reverse))))
theorem pe_revT {e : Expr} {te : TE} {k : Nat} {p1 p2 p3 pos : Pos} (he : PE X e te) : PE X (.Subscript e (.Slice none none (some (.UnaryOp .USub (.Constant (.int 1) k p1) p2)) p3) pos) (tRevT X.K te) := by
  refine ⟨fun pins s σ H Q I h => ?_⟩
  refine Subscript_ (thn (he.run pins s σ H _ I h) fun v s1 ⟨x, H1, I1, r1, q1⟩ => ?_)
  obtain ⟨a, xs, ex, q⟩ := q1
  subst ex
  cases r1
  have hst : PO X (some (.UnaryOp .USub (.Constant (.int 1) k p1) p2)) (tPart (tUn (rU fun i => .int (-i)) (tC (.int 1)))) := po_some (pe_un un_neg pe_int)
  refine wpAny_Slice (thn (po_none.run pins s1 σ H1 (fun o H2 => o = none ∧ H2 = H1) I1 ⟨rfl, rfl⟩) fun vl s2 ⟨l, H2, I2, pl, el, e2⟩ => ?_)
  subst el e2
  refine thn (po_none.run pins s2 σ H2 (fun o H3 => o = none ∧ H3 = H2) I2 ⟨rfl, rfl⟩) fun vu s3 ⟨u, H3, I3, pu, eu, e3⟩ => ?_
  subst eu e3
  refine thn (hst.run pins s3 σ H3 (fun o H4 => o = some (-1) ∧ H4 = H3) I3 ⟨1, rfl, -1, rfl, rfl, rfl⟩) fun vs s4 ⟨o, H4, I4, ps, eo, e4⟩ => ?_
  subst eo e4
  have I5 : Inv X pins σ H4 { s4 with heap := s4.heap.push { cls := .type "slice", data := .fields #[vl, vu, vs] } } := I4.kept (t' := s4.toks) fun b ob q => Heap.get?_push_of_some _ q
  show wpAny (model X.prog X.w) X.A (subscriptTail e (.Slice none none (some (.UnaryOp .USub (.Constant (.int 1) k p1) p2)) p3) (.ref a) (.ref s4.heap.objs.size)) (EP X pins σ Q) X.xe { s4 with heap := s4.heap.push { cls := .type "slice", data := .fields #[vl, vu, vs] } }
  rcases q with ⟨hx, q⟩ | ⟨hx, q⟩
  · obtain ⟨its, r, ht, hz⟩ := I5.list hx
    have hlen := r.length
    refine tail_any (ops := [.ref a, .ref s4.heap.objs.size]) ht.isList.typeIs (PySem.slot_list_getitem.lookup) ?_ (by with_unfolding_all rfl)
    refine wpAny_getItem_list_slice ht.isList (Heap.IsSliceOf.new _ vl vu vs) pl pu ps (by decide) ?_ (by rw [List.size_toArray]; omega)
    rw [PySem.W.krv_pick]
    refine ⟨.ref _, _, I5.laid (t' := s4.toks) (o := .lst xs.reverse) (fun b ob q => Heap.get?_push_of_some _ q) (Nat.le_refl _) ?_, rfl, q _ (I5.hok.fresh (Nat.le_refl _))⟩
    exact ⟨by rw [List.length_reverse]; exact hz, _, 0, r.reverse, Heap.get?_push_size _ rfl⟩
  · obtain ⟨its, r, ht, hz⟩ := I5.tuple hx
    have hlen := r.length
    refine tail_any (ops := [.ref a, .ref s4.heap.objs.size]) ht.typeIs (PyProof.Rows.slot_tuple_getitem.lookup) ?_ (by with_unfolding_all rfl)
    refine getItem_tuple_rev ht (Heap.IsSliceOf.new _ vl vu vs) pl pu ps ?_ (by rw [List.size_toArray]; omega)
    refine ⟨.ref _, _, I5.laid (t' := s4.toks) (o := .tup xs.reverse) (fun b ob q => Heap.get?_push_of_some _ q) (Nat.le_refl _) ?_, rfl, q _ (I5.hok.fresh (Nat.le_refl _))⟩
    exact ⟨by rw [List.length_reverse]; exact hz, _, r.reverse, ⟨_, Heap.get?_push_size _ rfl, rfl, _, rfl⟩⟩
end
/-- x[::-1], a list or a tuple -/
def revDM : PyData → KD → Prop
  | .list xs, K => K (.list xs.reverse)
  | .tuple xs, K => K (.tuple xs.reverse)
  | _, _ => False
section
variable {X : Cx} {g : G} {env env' : List Sl} {Ψ : Exc → Prop} {P : Po} {pos p lp : Pos} {a b c e o tg iter : Expr} {es : List Expr} {rest body : List Stmt} {K : Frag} {F F' H H' : Hp} {σ σ' : SS} {x y : PyData} {z1 z2 : Bool} {k0 : Nat} {al : Addr} {xn : Str}
theorem we_revD {j : Nat} {p1 p2 p3 : Pos} {Φ : PyData → Bool → Prop} (h : WE X g a env (fun d _ => revDM d fun r => Φ r true) Ψ) : WE X g (.Subscript a (.Slice none none (some (.UnaryOp .USub (.Constant (.int 1) j p1) p2)) p3) pos) env Φ Ψ := fun W tk σ F H st hx Q hQ => by
  refine semE_of (pe_revT (peS a)) ?_
  refine h W tk σ F H st hx _ fun d1 z1 v1 F1 H1 h1 st1 e1 r1 => ?_
  cases d1 with
  | list xs =>
    have h1 : Φ (.list xs.reverse) true := h1
    obtain ⟨a1, vs1, rfl, s1, p1⟩ := rd_lst st1.toSk r1
    exact ⟨a1, vs1, rfl, .inl ⟨s1, fun p hp => put_lst st1 hp (dpa_rev p1) h1 fun d z v F' H' q1 q2 q3 q4 => hQ d z v F' H' q1 q2 (e1.trans q3) q4⟩⟩
  | tuple xs =>
    have h1 : Φ (.tuple xs.reverse) true := h1
    obtain ⟨a1, vs1, rfl, s1, p1⟩ := rd_tup st1.toSk r1
    exact ⟨a1, vs1, rfl, .inr ⟨s1, fun p hp => put_tup st1 hp (dpa_rev p1) h1 fun d z v F' H' q1 q2 q3 q4 => hQ d z v F' H' q1 q2 (e1.trans q3) q4⟩⟩
  | _ => exact h1.elim
theorem revD_m {Q Q' : KD} (h : revDM x Q) (k : ∀ r, Q r → Q' r) : revDM x Q' := by
  unfold revDM at *
  split at h
  · exact k _ h
  · exact k _ h
  · exact h.elim
end
end TL

namespace TL
open PySem PySem.Spec PyProof.Rows L2
section
variable {X : Cx} {g : G} {env env' : List Sl} {Ψ : Exc → Prop} {P : Po} {pos p lp : Pos} {a b c e o tg iter : Expr} {es : List Expr} {rest body : List Stmt} {K : Frag} {F F' H H' : Hp} {σ σ' : SS} {x y : PyData} {z1 z2 : Bool} {k0 : Nat} {al : Addr} {xn : Str}
/-! x.pop() -/
def popM (ds : List PyData) (K : List PyData → PyData → Prop) : Prop := ∃ ds' d, ds = ds' ++ [d] ∧ K ds' d
theorem q_pop {ds : List PyData} {d : PyData} {K : List PyData → PyData → Prop} : popM (ds ++ [d]) K = K ds d := by
  refine propext ⟨fun ⟨ds', d', e, h⟩ => ?_, fun h => ⟨ds, d, rfl, h⟩⟩
  obtain ⟨e1, e2⟩ := List.append_inj' e rfl
  cases e2
  rw [e1]; exact h
theorem dpa_snoc {ds : List PyData} {d : PyData} {vs : List V} (h : DqAll K F vs (ds ++ [d])) : ∃ us u, vs = us ++ [u] ∧ DqAll K F us ds ∧ Dq K F u d := by
  induction ds generalizing vs with
  | nil =>
    have h' : DqAll K F vs [d] := h
    cases h' with
    | cons h1 h2 => cases h2; exact ⟨[], _, rfl, .nil, h1⟩
  | cons x ds ih =>
    have h' : DqAll K F vs (x :: (ds ++ [d])) := h
    cases h' with
    | cons h1 h2 =>
      obtain ⟨us, u, e, q1, q2⟩ := ih h2
      exact ⟨_ :: us, u, by rw [e]; rfl, .cons h1 q1, q2⟩
theorem w1_popU (i : Nat) {q apos cpos : Pos} {ds : List PyData} {t : TG} {A : PyData → Option (List (Nat × PyData))} (hpg : PG X tg t) (htd : TGd X.K t A) (h : popM ds fun ds' d => ∃ l, A d = some l ∧ (l.all fun q => Nat.blt q.1 env.length) = true ∧ P.nx (putsE (env.set i (.ol al ds')) l)) (he : env[i]? = some (.ol al ds) := by rfl) (hN : X.N[i]? = some xn := by rfl)
    (hv : Vis X.env.scope xn := by first | exact Or.inl rfl | exact Or.inr (Or.inl rfl) | exact Or.inr (Or.inr rfl)) (hd : (xn == ("__debug__" : Str)) = false := by decide)
    (hcd : (xn == ("__classdict__" : Str)) = false := by decide)
    (hbase : attributeBase (.Name xn q) "pop" X.env (eval (.Name xn q) X.env) = eval (.Name xn q) X.env := by rfl) (hline : (apos.endLine == cpos.line) = true := by rfl)
    (hs : swapsWithSole [tg] (.Call (.Attribute (.Name xn q) "pop" apos) [] [] cpos) pos.line X.env = pure false := by rfl) (hw : swappedStores [tg] (.Call (.Attribute (.Name xn q) "pop" apos) [] [] cpos) X.env = pure none := by rfl) (ha : (assignEach [tg] X.env).map (·.2) = [assign tg X.env] := by rfl) :
    W1 X g (.Assign [tg] (.Call (.Attribute (.Name xn q) "pop" apos) [] [] cpos) pos) env P := fun W tk hx2 σ F H s0 D hD => by
  refine semP_of (ps_asg (pe_bm0 PySem.F.plainAttrs_list PySem.F.slot_list_pop PySem.F.type_list_pop mt_pop (pe_var hN hv hd hcd) hbase hline) hpg hs hw ha) ?_
  obtain ⟨h1, vs, h2, h3⟩ := s0.sl i _ he
  obtain ⟨ds', d, rfl, l, hA, hl, hp⟩ := h
  obtain ⟨us, u, rfl, q1, q2⟩ := dpa_snoc h3
  refine ⟨_, getD_some h1, .inl ⟨rfl, _, SqL.of h2⟩, ?_⟩
  refine ⟨al, _, u, rfl, rfl, h2, by simp, ?_⟩
  have s1 := s0.write (o' := .lst (us ++ [u]).dropLast) (s' := .ol al ds') he rfl rfl ⟨h1, us, by rw [upd_same, List.dropLast_concat], q1⟩
  refine htd d l σ F _ u _ hA s1.ex q2 fun r sr => ?_
  exact hD.nx _ _ F _ hp (s1.sets sr fun q hq => by rw [List.length_set]; exact ltB (List.all_eq_true.mp hl q hq)) (Ex.refl F)
theorem w1_popS (i : Nat) {q apos cpos : Pos} {ds : List PyData} (h : popM ds fun ds' _ => P.nx (env.set i (.ol al ds'))) (he : env[i]? = some (.ol al ds) := by rfl) (hN : X.N[i]? = some xn := by rfl)
    (hv : Vis X.env.scope xn := by first | exact Or.inl rfl | exact Or.inr (Or.inl rfl) | exact Or.inr (Or.inr rfl)) (hd : (xn == ("__debug__" : Str)) = false := by decide)
    (hcd : (xn == ("__classdict__" : Str)) = false := by decide)
    (hbase : attributeBase (.Name xn q) "pop" X.env (eval (.Name xn q) X.env) = eval (.Name xn q) X.env := by rfl) (hline : (apos.endLine == cpos.line) = true := by rfl)
    (hs : swapsWith (.Call (.Attribute (.Name xn q) "pop" apos) [] [] cpos) none pos.line X.env = pure false := by rfl) :
    W1 X g (.Expr (.Call (.Attribute (.Name xn q) "pop" apos) [] [] cpos) pos) env P := fun W tk hx2 σ F H s0 D hD => by
  refine semP_of (ps_expr (pe_bm0 PySem.F.plainAttrs_list PySem.F.slot_list_pop PySem.F.type_list_pop mt_pop (pe_var hN hv hd hcd) hbase hline) hs) ?_
  obtain ⟨h1, vs, h2, h3⟩ := s0.sl i _ he
  obtain ⟨ds', d, rfl, hp⟩ := h
  obtain ⟨us, u, rfl, q1, q2⟩ := dpa_snoc h3
  refine ⟨_, getD_some h1, .inl ⟨rfl, _, SqL.of h2⟩, ?_⟩
  refine ⟨al, _, u, rfl, rfl, h2, by simp, ?_⟩
  have s1 := s0.write (o' := .lst (us ++ [u]).dropLast) (s' := .ol al ds') he rfl rfl ⟨h1, us, by rw [upd_same, List.dropLast_concat], q1⟩
  exact hD.nx _ _ F _ hp s1 (Ex.refl F)
/-! texts -/
def strsOf : List PyData → Option (List Str)
  | [] => some []
  | .str i :: r => match strsOf r with
    | some l => some (i :: l)
    | none => none
  | _ :: _ => none
theorem strsOf_eq : ∀ {xs : List PyData} {ns : List Str}, strsOf xs = some ns → xs = ns.map .str
  | [], _, h => by cases h; rfl
  | d :: r, ns, h => by
    cases d with
    | str i =>
      unfold strsOf at h
      split at h
      · rename_i l e; cases h; rw [strsOf_eq e]; rfl
      · cases h
    | _ => cases h
theorem strs_of (ns : List Str) : strsOf (ns.map .str) = some ns := by
  induction ns with
  | nil => rfl
  | cons n ns ih => show (match strsOf (ns.map .str) with | some l => some (n :: l) | none => none) = _; rw [ih]
def tjoinM : PyData → PyData → KD → Prop
  | .str a, .list xs, K => match strsOf xs with
    | some ys => (ys.map (·.length)).sum + ys.length * a.length ≤ 16777216 ∧ K (.str (Txt.join a ys))
    | none => False
  | _, _, _ => False
def countM : PyData → PyData → KD → Prop
  | .str a, .str b, K => K (.int (Txt.count a b))
  | _, _, _ => False
def splitM : PyData → PyData → KL → Prop
  | .str a, .str b, K => (b.length == 0) = false ∧ a.length + 2 ≤ sizeLine ∧ K ((Txt.split a b).map .str)
  | _, _, _ => False
def lowerM : PyData → KD → Prop
  | .str a, K => a.length ≤ 5592405 ∧ K (.str (Txt.lower a))
  | _, _ => False
def upperM : PyData → KD → Prop
  | .str a, K => a.length ≤ 5592405 ∧ K (.str (Txt.upper a))
  | _, _ => False
def strO : PyData → (Str → Prop) → Prop
  | .str a, K => K a
  | _, _ => False
theorem strO_ob {Q : Str → Prop} (h : strO x Q) : ∃ s, x = .str s ∧ Q s := by
  unfold strO at h
  split at h
  · exact ⟨_, rfl, h⟩
  · exact h.elim
section
variable {Φ : PyData → Bool → Prop} {apos : Pos}
theorem tjoin_m {Q Q' : KD} (h : tjoinM x y Q) (k : ∀ r, Q r → Q' r) : tjoinM x y Q' := by
  unfold tjoinM at *
  split at h
  · split at h
    · exact ⟨h.1, k _ h.2⟩
    · exact h.elim
  · exact h.elim
theorem count_m {Q Q' : KD} (h : countM x y Q) (k : ∀ r, Q r → Q' r) : countM x y Q' := by
  unfold countM at *
  split at h
  · exact k _ h
  · exact h.elim
theorem split_m {Q Q' : KL} (h : splitM x y Q) (k : ∀ r, Q r → Q' r) : splitM x y Q' := by
  unfold splitM at *
  split at h
  · exact ⟨h.1, h.2.1, k _ h.2.2⟩
  · exact h.elim
theorem lower_m {Q Q' : KD} (h : lowerM x Q) (k : ∀ r, Q r → Q' r) : lowerM x Q' := by
  unfold lowerM at *
  split at h
  · exact ⟨h.1, k _ h.2⟩
  · exact h.elim
theorem upper_m {Q Q' : KD} (h : upperM x Q) (k : ∀ r, Q r → Q' r) : upperM x Q' := by
  unfold upperM at *
  split at h
  · exact ⟨h.1, k _ h.2⟩
  · exact h.elim
theorem we_join (h : WE X g o env (fun d1 _ => ∃ s, d1 = .str s ∧ WE X g e env (fun d2 _ => tjoinM (.str s) d2 fun r => Φ r true) Ψ) Ψ) (hs : starEach [e] X.env = [(false, eval e X.env)] := by rfl)
    (hbase : attributeBase o "join" X.env (eval o X.env) = eval o X.env := by rfl) (hline : (apos.endLine == pos.line) = true := by rfl) : WE X g (.Call (.Attribute o "join" apos) [e] [] pos) env Φ Ψ := fun W tk σ F H st hx Q hQ => by
  refine semE_of (pe_join (peS o) (peS e) hs hbase hline) ?_
  refine h W tk σ F H st hx _ fun d1 z1 v1 F1 H1 ⟨s, hd, hw⟩ s1 e1 r1 => ?_
  subst hd
  refine ⟨⟨s, rd_str r1⟩, ?_⟩
  refine hw W tk σ F1 H1 s1 hx _ fun d2 z2 v2 F2 H2 hj s2 e2 r2 => ?_
  rw [rd_str r1]
  cases d2 with
  | list xs =>
    unfold tjoinM at hj
    dsimp only at hj
    split at hj
    · rename_i ys ey
      obtain ⟨p, vs, rfl, hl, hds⟩ := rd_lst s2.toSk r2
      rw [strsOf_eq ey] at hds
      rw [dpa_strs_eq hds] at hl
      exact ⟨s, p, ys, rfl, rfl, .inl hl, hj.1, hQ _ true _ F2 H2 hj.2 s2 (e1.trans e2) (.str _)⟩
    · exact hj.elim
  | _ => exact hj.elim
theorem we_count (h : WE X g o env (fun d1 _ => ∃ s, d1 = .str s ∧ WE X g e env (fun d2 _ => countM (.str s) d2 fun r => Φ r true) Ψ) Ψ) (hs : starEach [e] X.env = [(false, eval e X.env)] := by rfl)
    (hbase : attributeBase o "count" X.env (eval o X.env) = eval o X.env := by rfl) (hline : (apos.endLine == pos.line) = true := by rfl) : WE X g (.Call (.Attribute o "count" apos) [e] [] pos) env Φ Ψ := fun W tk σ F H st hx Q hQ => by
  refine semE_of (pe_m1 PySem.F.slot_str_count PySem.F.type_str_count mt_count (peS o) (peS e) hs hbase hline) ?_
  refine h W tk σ F H st hx _ fun d1 z1 v1 F1 H1 ⟨s, hd, hw⟩ s1 e1 r1 => ?_
  subst hd
  refine ⟨⟨s, rd_str r1⟩, ?_⟩
  refine hw W tk σ F1 H1 s1 hx _ fun d2 z2 v2 F2 H2 hj s2 e2 r2 => ?_
  rw [rd_str r1]
  cases d2 with
  | str t => exact ⟨s, t, rfl, by rw [rd_str r2], hQ _ true _ F2 H2 hj s2 (e1.trans e2) (.int _)⟩
  | _ => exact hj.elim
theorem dpa_strs : ∀ (ns : List Str), DqAll K H (ns.map V.str) (ns.map PyData.str)
  | [] => .nil
  | n :: ns => .cons (.str n) (dpa_strs ns)
theorem wn_split {Φ : KL} (h : WE X g o env (fun d1 _ => ∃ s, d1 = .str s ∧ WE X g e env (fun d2 _ => splitM (.str s) d2 Φ) Ψ) Ψ) (hs : starEach [e] X.env = [(false, eval e X.env)] := by rfl)
    (hbase : attributeBase o "split" X.env (eval o X.env) = eval o X.env := by rfl) (hline : (apos.endLine == pos.line) = true := by rfl) : WN X g (.Call (.Attribute o "split" apos) [e] [] pos) env Φ Ψ := fun W tk σ F H st hx Q hQ => by
  refine semE_of (pe_split (peS o) (peS e) hs hbase hline) ?_
  refine h W tk σ F H st hx _ fun d1 z1 v1 F1 H1 ⟨s, hd, hw⟩ s1 e1 r1 => ?_
  subst hd
  refine ⟨⟨s, rd_str r1⟩, ?_⟩
  refine hw W tk σ F1 H1 s1 hx _ fun d2 z2 v2 F2 H2 hj s2 e2 r2 => ?_
  rw [rd_str r1]
  cases d2 with
  | str t =>
    exact ⟨s, t, rfl, by rw [rd_str r2], hj.1, hj.2.1, fun p hp => put_new s2 hp (dpa_strs _) hj.2.2 fun ds v F' H' q1 q2 q3 q4 => hQ ds v F' H' q1 q2 ((e1.trans e2).trans q3) q4⟩
  | _ => exact hj.elim
theorem we_lower (h : WE X g o env (fun d1 _ => lowerM d1 fun r => Φ r true) Ψ) (hbase : attributeBase o "lower" X.env (eval o X.env) = eval o X.env := by rfl) (hline : (apos.endLine == pos.line) = true := by rfl) : WE X g (.Call (.Attribute o "lower" apos) [] [] pos) env Φ Ψ := fun W tk σ F H st hx Q hQ => by
  refine semE_of (pe_lower (peS o) hbase hline) ?_
  refine h W tk σ F H st hx _ fun d1 z1 v1 F1 H1 hj s1 e1 r1 => ?_
  cases d1 with
  | str t => exact ⟨⟨t, rd_str r1⟩, t, rd_str r1, rfl, hj.1, hQ _ true _ F1 H1 hj.2 s1 e1 (.str _)⟩
  | _ => exact hj.elim
theorem we_upper (h : WE X g o env (fun d1 _ => upperM d1 fun r => Φ r true) Ψ) (hbase : attributeBase o "upper" X.env (eval o X.env) = eval o X.env := by rfl) (hline : (apos.endLine == pos.line) = true := by rfl) : WE X g (.Call (.Attribute o "upper" apos) [] [] pos) env Φ Ψ := fun W tk σ F H st hx Q hQ => by
  refine semE_of (pe_upper (peS o) hbase hline) ?_
  refine h W tk σ F H st hx _ fun d1 z1 v1 F1 H1 hj s1 e1 r1 => ?_
  cases d1 with
  | str t => exact ⟨⟨t, rd_str r1⟩, t, rd_str r1, rfl, hj.1, hQ _ true _ F1 H1 hj.2 s1 e1 (.str _)⟩
  | _ => exact hj.elim
/-- str(x) -/
def strM : PyData → KD → Prop
  | .int i, K => i.natAbs.log2 < 1920 ∧ K (.str (toString i))
  | .str s, K => K (.str s)
  | _, _ => False
theorem str_m {Q Q' : KD} (h : strM x Q) (k : ∀ r, Q r → Q' r) : strM x Q' := by
  unfold strM at *
  split at h
  · exact ⟨h.1, k _ h.2⟩
  · exact k _ h
  · exact h.elim
end
/-! text * int -/
def repS (s : Str) (n : Nat) : Str := ⟨((List.replicate n s.cps.toList).flatten).toArray⟩
theorem foldl_app (s : Array Nat) : ∀ (n : Nat) (acc : Array Nat), ((List.replicate n s).foldl (· ++ ·) acc).toList = acc.toList ++ (List.replicate n s.toList).flatten
  | 0, acc => by simp
  | n + 1, acc => by
    rw [List.replicate_succ, List.foldl_cons, foldl_app s n, List.replicate_succ, List.flatten_cons]
    simp
theorem op_repS : OpR X (binaryOp .Mult) (fun x y H Q => ∃ (s : Str) (n : Int), x = .str s ∧ y = .int n ∧ -(2 ^ 63) ≤ n ∧ n < 2 ^ 63 ∧ s.length * n.toNat ≤ 16777216 ∧ Q (.str (repS s n.toNat)) H) := by
  intro pins s σ H x y v u Q I rx ry h
  obtain ⟨t, n, rfl, rfl, h1, h2, hz, q⟩ := h
  obtain ⟨t1, rfl⟩ := rx
  obtain ⟨t2, rfl⟩ := ry
  have key : ∀ (z : Str), z.cps.toList = (repS t n.toNat).cps.toList → z = repS t n.toNat := fun z e => by
    cases z with
    | mk c =>
      have : c = (repS t n.toNat).cps := Array.toList_inj.mp e
      rw [this]
  refine PySem.P.mul_str (by rw [decide_eq_false (by omega), decide_eq_false (by omega)] <;> rfl) (fun h3 h4 => ?_) (fun h3 h4 => ?_) ?_
  · obtain ⟨m, rfl⟩ : ∃ m : Nat, n = m := ⟨n.toNat, by omega⟩
    have hm : 0 < (m : Int) := by omega
    have e : (m : Int).toNat = m := by omega
    rw [e] at hz
    intro hc
    have h5 : ((t.length * m : Nat) : Int) ≤ 16777216 := Int.ofNat_le.mpr hz
    have h6 : ((2 ^ 63 - 1) / (m : Int) + 1) * m ≤ (t.length : Int) * m := Int.mul_le_mul_of_nonneg_right (by omega) (by omega)
    have h7 : (2 ^ 63 - 1 : Int) < ((2 ^ 63 - 1) / (m : Int) + 1) * m := Int.lt_ediv_add_one_mul_self _ hm
    have h8 : ((t.length * m : Nat) : Int) = (t.length : Int) * m := Int.natCast_mul ..
    rw [h8] at h5
    have : (16777216 : Int) < 2 ^ 63 - 1 := by decide
    omega
  · have hsl := sizeLine_eq
    exact decide_eq_false (by omega)
  · by_cases h3 : n < 1
    · rw [if_pos h3]
      refine ⟨by decide, .str _, H, I.tok _, ⟨_, rfl⟩, ?_⟩
      have : repS t n.toNat = Str.empty := by
        rw [show n.toNat = 0 by omega]; rfl
      rw [this] at q
      exact q
    · rw [if_neg h3]
      by_cases h4 : (n == 1 || t.length == 0) = true
      · rw [if_pos h4]
        refine ⟨.str t, H, I, ⟨_, rfl⟩, ?_⟩
        have : repS t n.toNat = t := by
          refine (key t ?_).symm
          unfold repS
          rcases Bool.or_eq_true_iff.mp h4 with h5 | h5
          · have : n = 1 := by simpa using h5
            subst this; simp
          · have h5 : t.cps.toList = [] := by
              have : t.length = 0 := by simpa using h5
              have : t.cps.size = 0 := this
              rw [← Array.length_toList] at this
              exact List.eq_nil_of_length_eq_zero this
            simp [h5]
        rw [this] at q
        exact q
      · rw [if_neg h4]
        have e : (⟨(List.replicate n.toNat t.cps).foldl (· ++ ·) #[]⟩ : Str) = repS t n.toNat := key _ (by
          show ((List.replicate n.toNat t.cps).foldl (· ++ ·) #[]).toList = _
          rw [foldl_app]; rfl)
        rw [e]
        refine ⟨?_, .str _, H, I.tok _, ⟨_, rfl⟩, q⟩
        have hsl := sizeLine_eq
        show ((List.replicate n.toNat t.cps.toList).flatten).toArray.size ≤ sizeLine
        rw [List.size_toArray, List.length_flatten]
        have : ((List.replicate n.toNat t.cps.toList).map List.length).sum = n.toNat * t.length := by
          rw [List.map_replicate, List.sum_replicate_nat]; rfl
        rw [this, Nat.mul_comm]
        omega
def repSM : PyData → PyData → KD → Prop
  | .str s, .int n, K => (-(2 ^ 63) ≤ n ∧ n < 2 ^ 63 ∧ s.length * n.toNat ≤ 16777216) ∧ K (.str (repS s n.toNat))
  | _, _, _ => False
theorem repS_m {Q Q' : KD} (h : repSM x y Q) (k : ∀ r, Q r → Q' r) : repSM x y Q' := by
  unfold repSM at *
  split at h
  · exact ⟨h.1, k _ h.2⟩
  · exact h.elim
theorem we_repS {Φ : PyData → Bool → Prop} (h : WE X g a env (fun d1 _ => WE X g b env (fun d2 _ => repSM d1 d2 fun r => Φ r true) Ψ) Ψ) : WE X g (.BinOp a .Mult b pos) env Φ Ψ :=
  we_op (pe_op op_repS (peS a) (peS b)) (fun d1 z1 d2 z2 h => by
    unfold repSM at h
    split at h
    · exact dop_of h.2 fun σ F H v1 v2 Q st r1 r2 q => ⟨_, _, rd_str r1, rd_int r2, h.1.1, h.1.2.1, h.1.2.2, q _ (.str _)⟩
    · exact h.elim) h
end
end TL

namespace TL
open PySem PySem.Spec PyProof.Rows L2
/-! d.get(k, e) -/
def getdTM (kvs : List (List Key × PyData)) (key dflt : PyData) (K : KD) : Prop := match keyT key with
  | some k => K ((valP kvs k).getD dflt)
  | none => False
def getdKM (kvs : List (Key × PyData)) (key dflt : PyData) (K : KD) : Prop := match keyA key with
  | some k => K ((valP kvs k).getD dflt)
  | none => False
def getdDM (d key dflt : PyData) (K : KD) : Prop := match dictO d with
  | some (.inl m) => getdTM m key dflt K
  | some (.inr m) => getdKM m key dflt K
  | none => False
section
variable {kT : List (List Key × PyData)} {kA : List (Key × PyData)} {key d dflt : PyData}
theorem q_getdD_T {K : KD} : getdDM (dTd kT) key dflt K = getdTM kT key dflt K := by unfold getdDM; rw [dictO_T]
theorem q_getdD_K {K : KD} : getdDM (dKd kA) key dflt K = getdKM kA key dflt K := by unfold getdDM; rw [dictO_K]
theorem getdT_m {Q Q' : KD} (h : getdTM kT key dflt Q) (k : ∀ r, Q r → Q' r) : getdTM kT key dflt Q' := by
  unfold getdTM at *
  split at h
  · exact k _ h
  · exact h.elim
theorem getdK_m {Q Q' : KD} (h : getdKM kA key dflt Q) (k : ∀ r, Q r → Q' r) : getdKM kA key dflt Q' := by
  unfold getdKM at *
  split at h
  · exact k _ h
  · exact h.elim
theorem getdD_s {Q : KD} {Φ : PyData → Prop} (h : getdDM d key dflt Q) (k : ∀ r, Q r → Φ r) : ∃ o, GetD d key o ∧ Φ (o.getD dflt) := by
  unfold getdDM at h
  split at h
  · rename_i m e
    unfold getdTM at h
    split at h
    · rename_i q e1; exact ⟨_, .inl ⟨m, q, dictO_t e, e1, rfl⟩, k _ h⟩
    · exact h.elim
  · rename_i m e
    unfold getdKM at h
    split at h
    · rename_i q e1; exact ⟨_, .inr ⟨m, q, dictO_k e, e1, rfl⟩, k _ h⟩
    · exact h.elim
  · exact h.elim
end
section
variable {X : Cx} {g : G} {env env' : List Sl} {Ψ : Exc → Prop} {P : Po} {pos p lp : Pos} {a b c e f o tg iter : Expr} {es : List Expr} {rest body : List Stmt} {K : Frag} {F F' H H' : Hp} {σ σ' : SS} {x y : PyData} {z1 z2 : Bool} {k0 : Nat} {al : Addr} {xn : Str} {apos : Pos}
section
variable {Φ : PyData → Bool → Prop}
theorem we_getdD (hr : Room k0 X.A) (h : WE X g o env (fun d z => z = true ∧ (∃ m, dictO d = some m) ∧ WE X g e env (fun kd z => z = true ∧ WE X g f env (fun fd z => z = true ∧ ∃ r, GetD d kd r ∧ Φ (r.getD fd) true) Ψ) Ψ) Ψ)
    (m : M2 X o "get" apos e f pos := by exact ⟨by rfl, by rfl, by rfl, by rfl⟩) : WE X g (.Call (.Attribute o "get" apos) [e, f] [] pos) env Φ Ψ := fun W tk σ F H st hx Q hQ => by
  refine semE_of (pe_dget2 (by have := hr.units; omega) (peS o) (peS e) (peS f) m) ?_
  refine h W tk σ F H st hx _ fun d z v F1 H1 ⟨hz, ⟨m, hm⟩, h2⟩ s1 e1 r1 => ?_
  subst hz
  have isd : ∃ a, v = .ref a ∧ IsD H1 a := by
    cases m with
    | inl m =>
      have r1' : Dq X.K F1 v d := r1
      rw [dictO_t hm] at r1'
      obtain ⟨a, xs, rfl, hs, _⟩ := dq_dT r1'
      exact ⟨a, rfl, .inr ⟨xs, .inl (s1.ex _ _ hs)⟩⟩
    | inr m =>
      have r1' : Dq X.K F1 v d := r1
      rw [dictO_k hm] at r1'
      obtain ⟨a, xs, rfl, hs, _⟩ := dq_dK r1'
      exact ⟨a, rfl, .inl ⟨xs, .inl (s1.ex _ _ hs)⟩⟩
  obtain ⟨a, rfl, isd⟩ := isd
  refine ⟨a, rfl, isd, ?_⟩
  refine h2 W tk σ F1 H1 s1 hx _ fun kd z w F2 H2 ⟨hz, h3⟩ s2 e2 r2 => ?_
  subst hz
  refine h3 W tk σ F2 H2 s2 hx _ fun fd z u F3 H3 ⟨hz, r, hg, hp⟩ s3 e3 r3 => ?_
  subst hz
  obtain ⟨al, ov, ea, g1, g2, g3⟩ := getD_run hg (dp_mono (e2.trans e3) _ _ r1) (dp_mono e3 _ _ r2) s3.ex
  cases ea
  refine ⟨ov, g1, hQ _ true _ F3 H3 hp s3 ((e1.trans e2).trans e3) ?_⟩
  cases r with
  | some x =>
    obtain ⟨w', rfl, dw⟩ := g3 x rfl
    exact dw
  | none =>
    cases ov with
    | some _ => cases g2
    | none => exact r3
theorem we_getdT (i : Nat) {kvs : List (List Key × PyData)} {q : Pos} (hr : Room k0 X.A) (h : WE X g e env (fun kd z => z = true ∧ WE X g f env (fun fd z => z = true ∧ getdTM kvs kd fd fun r => Φ r true) Ψ) Ψ) (he : env[i]? = some (.dt al kvs) := by rfl) (hN : X.N[i]? = some xn := by rfl)
    (hv : Vis X.env.scope xn := by first | exact Or.inl rfl | exact Or.inr (Or.inl rfl) | exact Or.inr (Or.inr rfl)) (hd : (xn == ("__debug__" : Str)) = false := by decide)
    (hcd : (xn == ("__classdict__" : Str)) = false := by decide)
    (m : M2 X (.Name xn q) "get" apos e f pos := by exact ⟨by rfl, by rfl, by rfl, by rfl⟩) : WE X g (.Call (.Attribute (.Name xn q) "get" apos) [e, f] [] pos) env Φ Ψ := fun W tk σ F H st hx Q hQ => by
  refine semE_of (pe_dget2 (by have := hr.units; omega) (pe_var hN hv hd hcd) (peS e) (peS f) m) ?_
  obtain ⟨h1, vs, h2, h3⟩ := st.sl i _ he
  refine ⟨_, getD_some h1, al, rfl, .inr ⟨vs, .inl h2⟩, ?_⟩
  refine h W tk σ F H st hx _ fun kd z v F1 H1 ⟨hz, hw⟩ s1 e1 r1 => ?_
  subst hz
  refine hw W tk σ F1 H1 s1 hx _ fun fd z u F2 H2 ⟨hz, hp⟩ s2 e2 r2 => ?_
  subst hz
  unfold getdTM at hp
  split at hp
  · rename_i k hk
    obtain ⟨t, rfl, ht⟩ := keyT_dp (dp_mono e2 _ _ r1) hk
    obtain ⟨_, vs', h2', h3'⟩ := s2.sl i _ he
    refine ⟨_, DGet.t h2' (s2.ex _ _ ht), hQ _ true _ F2 H2 hp s2 (e1.trans e2) ?_⟩
    obtain ⟨w1, w2⟩ := kvp_val (k := k) h3'
    cases hq : valP kvs k with
    | some x =>
      obtain ⟨w', e', dw⟩ := w1 x hq
      rw [e']; exact dw
    | none =>
      rw [hq] at w2
      cases e' : valV vs' k with
      | some _ => rw [e'] at w2; cases w2
      | none => exact r2
  · exact hp.elim
theorem we_getdK (i : Nat) {kvs : List (Key × PyData)} {q : Pos} (hr : Room k0 X.A) (h : WE X g e env (fun kd z => z = true ∧ WE X g f env (fun fd z => z = true ∧ getdKM kvs kd fd fun r => Φ r true) Ψ) Ψ) (he : env[i]? = some (.dk al kvs) := by rfl) (hN : X.N[i]? = some xn := by rfl)
    (hv : Vis X.env.scope xn := by first | exact Or.inl rfl | exact Or.inr (Or.inl rfl) | exact Or.inr (Or.inr rfl)) (hd : (xn == ("__debug__" : Str)) = false := by decide)
    (hcd : (xn == ("__classdict__" : Str)) = false := by decide)
    (m : M2 X (.Name xn q) "get" apos e f pos := by exact ⟨by rfl, by rfl, by rfl, by rfl⟩) : WE X g (.Call (.Attribute (.Name xn q) "get" apos) [e, f] [] pos) env Φ Ψ := fun W tk σ F H st hx Q hQ => by
  refine semE_of (pe_dget2 (by have := hr.units; omega) (pe_var hN hv hd hcd) (peS e) (peS f) m) ?_
  obtain ⟨h1, vs, h2, h3⟩ := st.sl i _ he
  refine ⟨_, getD_some h1, al, rfl, .inl ⟨vs, .inl h2⟩, ?_⟩
  refine h W tk σ F H st hx _ fun kd z v F1 H1 ⟨hz, hw⟩ s1 e1 r1 => ?_
  subst hz
  refine hw W tk σ F1 H1 s1 hx _ fun fd z u F2 H2 ⟨hz, hp⟩ s2 e2 r2 => ?_
  subst hz
  unfold getdKM at hp
  split at hp
  · rename_i k hk
    have hv := keyA_dp (dp_mono e2 _ _ r1) hk
    subst hv
    obtain ⟨_, vs', h2', h3'⟩ := s2.sl i _ he
    refine ⟨_, DGet.k h2', hQ _ true _ F2 H2 hp s2 (e1.trans e2) ?_⟩
    obtain ⟨w1, w2⟩ := kvp_val (k := k) h3'
    cases hq : valP kvs k with
    | some x =>
      obtain ⟨w', e', dw⟩ := w1 x hq
      rw [e']; exact dw
    | none =>
      rw [hq] at w2
      cases e' : valV vs' k with
      | some _ => rw [e'] at w2; cases w2
      | none => exact r2
  · exact hp.elim
end
/-! {k: v, ..} -/
def zipE : List (Option Expr) → List Expr → List (Expr × Expr)
  | some k :: ks, v :: vs => (k, v) :: zipE ks vs
  | _, _ => []
def DqPs (K : Frag) (F : Hp) : List (V × V) → List (PyData × PyData) → Prop
  | [], [] => True
  | (v, w) :: r, (d, c) :: s => (Dq K F v d ∧ Dq K F w c) ∧ DqPs K F r s
  | _, _ => False
theorem dqps_mono (e : Ex F F') : ∀ {r : List (V × V)} {s : List (PyData × PyData)}, DqPs K F r s → DqPs K F' r s
  | [], [], _ => trivial
  | (v, w) :: r, (d, c) :: s, ⟨⟨h1, h2⟩, h3⟩ => ⟨⟨dp_mono e _ _ h1, dp_mono e _ _ h2⟩, dqps_mono e h3⟩
def WPs (X : Cx) (g : G) (ps : List (Expr × Expr)) (env : List Sl) (Φ : List (PyData × PyData) → Prop) (Ψ : Exc → Prop) : Prop :=
  ∀ (W : WX), Takes X W → ∀ (σ : SS) (F H : Hp), St X.K g F H σ env → HX X g env Ψ W σ →
    ∀ Q : List (V × V) → Hp → Prop, (∀ ds vs F' H', Φ ds → St X.K g F' H' σ env → Ex F F' → DqPs X.K F' vs ds → Q vs H') → tPairs (ps.map fun q => (semE X q.1, semE X q.2)) σ H Q
theorem wps_nil {Φ : List (PyData × PyData) → Prop} (h : Φ []) : WPs X g [] env Φ Ψ := fun W tk σ F H st hx Q hQ => hQ [] [] F H h st (Ex.refl F) trivial
theorem wps_cons {ps : List (Expr × Expr)} {Φ : List (PyData × PyData) → Prop} (h : WE X g a env (fun d1 z1 => z1 = true ∧ WE X g b env (fun d2 z2 => z2 = true ∧ WPs X g ps env (fun l => Φ ((d1, d2) :: l)) Ψ) Ψ) Ψ) : WPs X g ((a, b) :: ps) env Φ Ψ := fun W tk σ F H st hx Q hQ => by
  show semE X a σ H _
  refine h W tk σ F H st hx _ fun d1 z1 v1 F1 H1 ⟨hz, h2⟩ s1 e1 r1 => ?_
  subst hz
  refine h2 W tk σ F1 H1 s1 hx _ fun d2 z2 v2 F2 H2 ⟨hz, h3⟩ s2 e2 r2 => ?_
  subst hz
  refine h3 W tk σ F2 H2 s2 hx _ fun ds vs F3 H3 hp s3 e3 r3 => ?_
  exact hQ _ _ F3 H3 hp s3 ((e1.trans e2).trans e3) ⟨⟨dp_mono (e2.trans e3) _ _ r1, dp_mono e3 _ _ r2⟩, r3⟩
theorem pps_zip : ∀ {ks : List (Option Expr)} {vs : List Expr}, ks.all (·.isSome) = true → ks.length = vs.length → PPs X pos ks vs ((zipE ks vs).map fun q => (semE X q.1, semE X q.2))
  | [], [], _, _ => pps_nil
  | some k :: ks, v :: vs, h, hl => pps_cons (peS k) (peS v) (pps_zip (by simpa using h) (by simpa using hl))
  | [], _ :: _, _, hl => by cases hl
  | none :: _, _, h, _ => by simp at h
  | some _ :: _, [], _, hl => by cases hl
/-- the dict that pairs make: later ones win -/
def mergeP (kvs : List (Key × PyData)) : List (Key × PyData) := kvs.foldl (fun acc kv => putP acc kv.1 kv.2) []
theorem kvp_merge {xs : List (Key × V)} {kvs : List (Key × PyData)} (h : KVp K F xs kvs) : KVp K F (mergeK [] xs) (mergeP kvs) := by
  unfold mergeK mergeP
  have go : ∀ {xs : List (Key × V)} {kvs : List (Key × PyData)} {a : List (Key × V)} {b : List (Key × PyData)}, KVp K F xs kvs → KVp K F a b → KVp K F (xs.foldl (fun acc kv => putK acc kv.1 kv.2) a) (kvs.foldl (fun acc kv => putP acc kv.1 kv.2) b) := by
    intro xs kvs a b h
    induction h generalizing a b with
    | nil => exact id
    | cons r t ih =>
      intro hab
      refine ih ?_
      show KVp K F (putK _ _ _) (putP _ _ _)
      rw [r.1]
      exact kvp_put hab r.2
  exact go h .nil
theorem dqps_kv : ∀ {kvs : List (Key × PyData)} {vs : List (V × V)}, DqPs K F vs (kvs.map fun kv => (kD kv.1, kv.2)) → ∃ xs : List (Key × V), vs = xs.map (fun kv => (kV kv.1, kv.2)) ∧ KVp K F xs kvs
  | [], [], _ => ⟨[], rfl, .nil⟩
  | [], _ :: _, h => h.elim
  | _ :: _, [], h => h.elim
  | (k, d) :: kvs, (v, w) :: vs, ⟨⟨h1, h2⟩, h3⟩ => by
    obtain ⟨xs, e, h4⟩ := dqps_kv h3
    have hv := key_eq h1
    subst hv
    exact ⟨(k, w) :: xs, by rw [e]; rfl, .cons ⟨rfl, h2⟩ h4⟩
def WDk (X : Cx) (g : G) (e : Expr) (env : List Sl) (Φ : List (Key × PyData) → Prop) (Ψ : Exc → Prop) : Prop :=
  ∀ (W : WX), Takes X W → ∀ (σ : SS) (F H : Hp), St X.K g F H σ env → HX X g env Ψ W σ →
    ∀ Q : VK, (∀ kvs v F' H', Φ kvs → St X.K g F' H' σ env → Ex F F' → NewK X.K g F' H' env v kvs → Q v H') → semE X e σ H Q
def dispM (ps : List (PyData × PyData)) (K : List (Key × PyData) → Prop) : Prop := match asK ps with
  | some m => K (mergeP m)
  | none => False
theorem wdk_disp {ks : List (Option Expr)} {vs : List Expr} {Φ : List (Key × PyData) → Prop} (h : ∀ g' : G, WPs X g' (zipE ks vs) env (fun ps => ps.length ≤ 15 ∧ dispM ps Φ) Ψ) (hall : ks.all (·.isSome) = true := by rfl) (hl : ks.length = vs.length := by rfl)
    (h0 : ks ≠ [] := by (intro z; cases z)) (h15 : ks.length ≤ 15 := by decide) : WDk X g (.Dict ks vs pos) env Φ Ψ := fun W tk σ F H st hx Q hQ => by
  refine semE_of (pe_disp (pps_zip hall hl) hall hl h0 h15) fun p hn => ?_
  have s1 := st.alloc (o := .dK []) hn
  have no : ¬ Own env p := st.toSk.notown hn
  have hF : F p = none := st.ex.none hn
  have hpM : p ∉ fps env := fun z => no (own_fps.mpr z)
  refine h ⟨F, upd H p (.dK []), fps env⟩ W tk σ F _ s1.toSk.base (fun c F' H' hc s2 => hx c F' H' hc (s1.rebase s2 fun _ q => q)) _ fun ds vs' F2 H2 ⟨hlen, hd⟩ s2 e2 r2 => ?_
  have hp2 : H2 p = some (.dK []) := s2.g1 p _ upd_same hpM (fun _ z => by cases z)
  unfold dispM at hd
  split at hd
  · rename_i m em
    rw [asK_eq em] at r2 hlen
    obtain ⟨xs, ex, hkv⟩ := dqps_kv r2
    refine ⟨hp2, xs, ex, by rw [kvp_len hkv]; simpa using hlen, ?_⟩
    have s3 := s1.rebase s2 fun _ q => q
    have hF2 : F2 p = none := by
      cases z : F2 p with
      | none => rfl
      | some u =>
        rcases s2.g4 p (by rw [z]; intro y; cases y) with y | y
        · exact absurd hF y
        · have y : upd H p (.dK []) p = none := y
          rw [upd_same] at y; cases y
    have h0' : g.H0 p = none := st.h0 hn
    have s4 := s3.untracked (D := p) (o' := .dK (mergeK [] xs)) hF2 no h0'
    exact hQ _ (.ref p) F2 _ hd s4 e2 ⟨p, _, rfl, upd_same, kvp_merge hkv, hF2, no, h0'⟩
  · exact hd.elim
theorem wdk_new {Φ : List (Key × PyData) → Prop} (h : Φ []) : WDk X g (.Dict [] [] pos) env Φ Ψ := fun W tk σ F H st hx Q hQ => by
  refine semE_of pe_dnewK fun p hn => ?_
  exact hQ _ (.ref p) F _ h (st.alloc hn) (Ex.refl F) ⟨p, [], rfl, upd_same, .nil, st.ex.none hn, st.toSk.notown hn, st.h0 hn⟩
theorem wdt_new {Φ : List (List Key × PyData) → Prop} (h : Φ []) : WDt X g (.Dict [] [] pos) env Φ Ψ := fun W tk σ F H st hx Q hQ => by
  refine semE_of pe_dnewT fun p hn => ?_
  exact hQ _ (.ref p) F _ h (st.alloc hn) (Ex.refl F) ⟨p, [], rfl, upd_same, .nil, st.ex.none hn, st.toSk.notown hn, st.h0 hn⟩
theorem we_dictK {Φ : PyData → Bool → Prop} (h : WDk X g e env (fun kvs => Φ (dKd kvs) true) Ψ) : WE X g e env Φ Ψ := fun W tk σ F H st hx Q hQ => by
  refine h W tk σ F H st hx _ fun kvs v F' H' hp s' e' ⟨q, xs, hv, h1, h2, h3, h4, h5⟩ => ?_
  subst hv
  have e2 := Ex.new (o := .dK xs) h3
  exact hQ _ true (.ref q) (upd F' q (.dK xs)) H' hp (s'.freeze h1 h3 h4 h5) (e'.trans e2) (.dck upd_same (dqk_mono e2 _ _ (kvp_dqk h2)))
theorem St.setK {i : Nat} {q : Addr} {xs : List (Key × V)} {kvs : List (Key × PyData)} (st : St K g F H σ env) (hi : i < env.length) (hH : H q = some (.dK xs)) (hd : KVp K F xs kvs) (hF : F q = none) (hn : ¬ Own env q) (h0 : g.H0 q = none) :
    St K g F H (σ.set i (some (.ref q))) (env.set i (.dk q kvs)) := by
  have one : ∀ b ∈ (Sl.dk q kvs).fp, b = q := fun b hb => by simpa [Sl.fp] using hb
  exact st.set (s := .dk q kvs) hi ⟨rfl, xs, hH, hd⟩ (fun b hb => by rw [one b hb]; exact hF) (fun b hb j t _ e ht => hn ⟨j, t, e, by rw [← one b hb]; exact ht⟩) (fun b hb => by rw [one b hb]; exact .inl h0)
theorem w1_setKd (i : Nat) {x : Str} {pos' : Pos} (hN : X.N.Nodup) (h : WDk X g e env (fun kvs => ∀ q, q ∉ g.M → P.nx (env.set i (.dk q kvs))) (fun c => P.ex c env)) (hi : X.N[i]? = some x := by rfl) (hx : Loc X.env.scope x := by first | exact Or.inl rfl | exact Or.inr rfl) (hl : Nat.blt i env.length = true := by rfl)
    (hs : swapsWith e (some (.Name x pos')) pos.line X.env = pure false := by rfl) (hf : X.fn x = true ∨ X.env.scope.names.lookup x = some .local := by first | exact .inl rfl | exact .inr rfl) : W1 X g (.Assign [.Name x pos'] e pos) env P := fun W tk hx2 σ F H s0 D hD => by
  refine semP_of (ps_set hN hi hx (peS e) hs hf) ?_
  refine h W tk σ F H s0 (hx2.hx env σ) _ fun kvs v F' H' hp s' e' ⟨q, xs, hv, h1, h2, h3, h4, h5⟩ => ?_
  subst hv
  exact hD.nx _ _ F' _ (hp q fun m => s'.g6 q m h5) (s'.setK (ltB hl) h1 h2 h3 h4 h5) e'
theorem into_m {Q Q' : Int → Prop} (h : intO x Q) (k : ∀ r, Q r → Q' r) : intO x Q' := by
  obtain ⟨i, rfl, h⟩ := into_ob h
  exact k _ h
theorem getK_m {kvs : List (Key × PyData)} {Q Q' : KD} (h : getKM kvs x Q) (k : ∀ r, Q r → Q' r) : getKM kvs x Q' := by
  unfold getKM at *
  split at h
  · split at h
    · exact k _ h
    · exact h.elim
  · exact h.elim
theorem disp_m {ps : List (PyData × PyData)} {Q Q' : List (Key × PyData) → Prop} (h : dispM ps Q) (k : ∀ r, Q r → Q' r) : dispM ps Q' := by
  unfold dispM at *
  split at h
  · exact k _ h
  · exact h.elim
def dictIs (d : PyData) (Q : Prop) : Prop := (∃ m, dictO d = some m) ∧ Q
theorem dictIs_ob {Q : Prop} (h : dictIs x Q) : ∃ m, dictO x = some m ∧ Q := by
  obtain ⟨⟨m, e⟩, q⟩ := h
  exact ⟨m, e, q⟩
theorem q_dictIs_T {m : List (List Key × PyData)} {Q : Prop} : dictIs (dTd m) Q = Q := propext (and_iff_right ⟨_, dictO_T m⟩)
theorem q_dictIs_K {m : List (Key × PyData)} {Q : Prop} : dictIs (dKd m) Q = Q := propext (and_iff_right ⟨_, dictO_K m⟩)
/-! [..] * n -/
def repLM (ds : List PyData) : PyData → KD → Prop
  | .int n, K => (-(2 ^ 63) ≤ n ∧ n < 2 ^ 63 ∧ ds.length * n.toNat ≤ sizeLine) ∧ K (.list (List.replicate n.toNat ds).flatten)
  | _, _ => False
theorem repL_m {ds : List PyData} {Q Q' : KD} (h : repLM ds x Q) (k : ∀ r, Q r → Q' r) : repLM ds x Q' := by
  unfold repLM at *
  split at h
  · exact ⟨h.1, k _ h.2⟩
  · exact h.elim
theorem dpa_rep {vs : List V} {ds : List PyData} (h : DqAll K F vs ds) : ∀ n : Nat, DqAll K F (List.replicate n vs).flatten (List.replicate n ds).flatten
  | 0 => .nil
  | n + 1 => by
    rw [List.replicate_succ, List.replicate_succ, List.flatten_cons, List.flatten_cons]
    exact dpa_app h (dpa_rep h n)
theorem we_repL {Φ : PyData → Bool → Prop} (h : WN X g a env (fun ds => WE X g b env (fun d _ => repLM ds d fun r => Φ r true) Ψ) Ψ) : WE X g (.BinOp a .Mult b pos) env Φ Ψ := fun W tk σ F H st hx Q hQ => by
  refine semE_of (pe_op op_rep (peS a) (peS b)) ?_
  refine h W tk σ F H st hx _ fun ds v F1 H1 hw s1 e1 ⟨q, vs, hv, h1, h2, h3, h4, h5⟩ => ?_
  subst hv
  have e2 := Ex.new (o := .lst vs) h3
  refine hw W tk σ _ H1 (s1.freeze h1 h3 h4 h5) hx _ fun d z w F2 H2 hr s2 e3 r2 => ?_
  have hr : repLM ds d (fun r => Φ r true) := hr
  unfold repLM at hr
  split at hr
  · rename_i n _
    have hq : H2 q = some (.lst vs) := s2.ex _ _ (e3 _ _ upd_same)
    refine ⟨q, n, vs, rfl, rd_int r2, hq, hr.1.1, hr.1.2.1, by rw [dpa_len h2]; exact hr.1.2.2, fun p hp => ?_⟩
    exact put_lst s2 hp (dpa_rep (dpa_mono (e2.trans e3) _ _ h2) _) hr.2 fun d z v F' H' q1 q2 q3 q4 => hQ d z v F' H' q1 q2 (((e1.trans e2).trans e3).trans q3) q4
  · exact hr.elim
/-! d[k] += e, a dict of one's own -/
theorem w1_augK (i : Nat) {kvs : List (Key × PyData)} {q tpos : Pos} (hr : Room k0 X.A)
    (h : WE X g a env (fun kd z => z = true ∧ getKM kvs kd fun old => intO old fun u => WE X g e env (fun d _ => intO d fun m => putKM kvs kd (.int (u + m)) fun r => P.nx (env.set i (.dk al r))) (fun c => P.ex c env)) (fun c => P.ex c env)) (he : env[i]? = some (.dk al kvs) := by rfl) (hN : X.N[i]? = some xn := by rfl)
    (hv : Vis X.env.scope xn := by first | exact Or.inl rfl | exact Or.inr (Or.inl rfl) | exact Or.inr (Or.inr rfl)) (hd : (xn == ("__debug__" : Str)) = false := by decide)
    (hcd : (xn == ("__classdict__" : Str)) = false := by decide) (hs : ∀ ov iv new, augStore a ov iv new = (do holding [new, ov, iv] (setItem ov iv new); release [new, ov, iv] []; pure .next) := by exact fun _ _ _ => rfl) : W1 X g (.AugAssign (.Subscript (.Name xn q) a tpos) .Add e pos) env P := fun W tk hx2 σ F H s0 D hD => by
  refine semP_of (ps_daug (by have := hr.units; omega) (pe_var hN hv hd hcd) (peS a) (peS e) in_add hs) ?_
  obtain ⟨h1, vs, h2, h3⟩ := s0.sl i _ he
  refine ⟨_, getD_some h1, ?_⟩
  refine h W tk σ F H s0 (hx2.hx env σ) _ fun kd z v F1 H1 ⟨hz, hg⟩ s1 e1 r1 => ?_
  subst hz
  unfold getKM at hg
  split at hg
  · rename_i k hk
    split at hg
    · rename_i d hd'
      obtain ⟨u, rfl, hg⟩ := into_ob hg
      have hv' := keyA_dp r1 hk
      subst hv'
      obtain ⟨_, vs', h2', h3'⟩ := s1.sl i _ he
      obtain ⟨w, hw, dw⟩ := (kvp_val h3').1 _ hd'
      refine ⟨al, w, rfl, hw ▸ DGet.k h2', ?_⟩
      refine hg W tk σ F1 H1 s1 (hx2.hx env σ) _ fun d2 z2 v2 F2 H2 hi s2 e2 r2 => ?_
      obtain ⟨m, rfl, hp⟩ := into_ob hi
      unfold putKM at hp
      rw [hk] at hp
      dsimp only at hp
      obtain ⟨hlen, hp⟩ := hp
      refine ⟨u, m, dp_int dw, rd_int r2, ?_⟩
      obtain ⟨q1, vs2, q2, q3⟩ := s2.sl i _ he
      refine ⟨_, DPut.k q2 (by rw [kvp_len q3]; exact hlen), ?_⟩
      exact hD.nx _ _ F2 _ hp (s2.write (s' := .dk al (putP kvs k (.int (u + m)))) he rfl rfl ⟨q1, _, upd_same, kvp_put q3 (.int _)⟩) (e1.trans e2)
    · exact hg.elim
  · exact hg.elim
/-! str(x), f'..' -/
section
variable {Φ : PyData → Bool → Prop}
theorem call_strA : CallR X (.type "str") (fun xs H Q => (∃ i : Int, xs = [.int i] ∧ i.natAbs.log2 < 1920 ∧ Q (.str (toString i)) H) ∨ ∃ a, xs = [.str a] ∧ Q (.str a) H) := by
  intro pins s σ H xs us Q I r h
  rcases h with h | h
  · exact call_str_int pins s σ H xs us Q I r h
  · exact SkE.call_str_str pins s σ H xs us Q I r h
theorem we_str1 (hm : X.mg "str" = none) (h : WE X g a env (fun d _ => strM d fun r => Φ r true) Ψ) (hg : Gl X "str" := by rfl) (he : starEach [a] X.env = (false, eval a X.env) :: starEach [] X.env := by rfl) : WE X g (.Call (.Name "str" p) [a] [] pos) env Φ Ψ :=
  we_t1 call_strA hm (by decide +kernel) (fun d1 z1 h σ F H v1 st r1 Q hQ => by
    unfold strM at h
    split at h
    · exact .inl ⟨_, by rw [rd_int r1], h.1, hQ _ true _ F H h.2 st (Ex.refl F) (.str _)⟩
    · exact .inr ⟨_, by rw [rd_str r1], hQ _ true _ F H h st (Ex.refl F) (.str _)⟩
    · exact h.elim) h hg (he := he)
end
end
end TL

namespace TL
open PySem PySem.Spec PyProof.Rows L2
/-! list(d) of a dict -/
def keysK (kvs : List (Key × PyData)) : List PyData := kvs.map fun kv => kD kv.1
def keysDM (d : PyData) (K : KL) : Prop := match dictO d with
  | some (.inl m) => K (keysT m)
  | some (.inr m) => K (keysK m)
  | none => False
theorem q_keysD_T {m : List (List Key × PyData)} {K : KL} : keysDM (dTd m) K = K (keysT m) := by unfold keysDM; rw [dictO_T]
theorem q_keysD_K {m : List (Key × PyData)} {K : KL} : keysDM (dKd m) K = K (keysK m) := by unfold keysDM; rw [dictO_K]
section
variable {X : Cx} {g : G} {env env' : List Sl} {Ψ : Exc → Prop} {P : Po} {pos p lp : Pos} {a b c e f o tg iter : Expr} {es : List Expr} {rest body : List Stmt} {K : Frag} {F F' H H' : Hp} {σ σ' : SS} {x y : PyData} {z1 z2 : Bool} {k0 : Nat} {al : Addr} {xn : Str} {apos : Pos}
theorem keysD_m {Q Q' : KL} (h : keysDM x Q) (k : ∀ r, Q r → Q' r) : keysDM x Q' := by
  unfold keysDM at *
  split at h
  · exact k _ h
  · exact k _ h
  · exact h.elim
theorem keysK_dpa : ∀ {xs : List (Key × V)} {kvs : List (Key × PyData)}, KVp K F xs kvs → DqAll K F (xs.map fun kv => kV kv.1) (keysK kvs)
  | _, _, .nil => .nil
  | (k1, _) :: _, (k2, _) :: _, .cons h t => by
    obtain ⟨h1, _⟩ := h
    have h1 : k1 = k2 := h1
    subst h1
    exact .cons (dp_key k1) (keysK_dpa t)
def rListDT : List V → Hp → VK → Prop := fun xs H Q => rListD xs H Q ∨ ∃ d kvs, xs = [V.ref d] ∧ L2.Rd H d (.dT kvs) ∧ ∀ p bs, H p = none → IsKeys H kvs bs → Q (.ref p) (upd H p (.lst (bs.map V.ref)))
theorem call_listDT (hc : X.calm = true) : CallR X (.type "list") rListDT := by
  intro pins s σ H xs us Q I r h
  rcases h with h | h
  · exact call_list_dK hc pins s σ H xs us Q I r h
  · exact call_list_dT hc pins s σ H xs us Q I r h
theorem wn_listD {Φ : KL} (hm : X.mg "list" = none) (hc : X.calm = true) (h : WE X g a env (fun d z => z = true ∧ keysDM d Φ) Ψ) (hg : Gl X "list" := by rfl) (he : starEach [a] X.env = (false, eval a X.env) :: starEach [] X.env := by rfl) (hpl : (backTo pos (starEach ([] : List Expr) X.env)).any (·.1) = false := by rfl) : WN X g (.Call (.Name "list" p) [a] [] pos) env Φ Ψ := fun W tk σ F H st hx Q hQ => by
  refine semE_of (pe_callTy (call_listDT hc) hg hm (by decide +kernel) (pa_cons (peS a) pa_nil he) (by decide) (by decide) he hpl) ?_
  refine h W tk σ F H st hx _ fun d z v F1 H1 ⟨hz, hp⟩ s1 e1 r1 => ?_
  subst hz
  have r1' : Dq X.K F1 v d := r1
  unfold keysDM at hp
  split at hp
  · rename_i m em
    rw [dictO_t em] at r1'
    obtain ⟨q, xs, rfl, hs, hkv⟩ := dq_dT r1'
    exact .inr ⟨q, xs, rfl, .inl (s1.ex _ _ hs), fun pn bs hn hb => put_new s1 hn (keys_dpa (kvs := m) s1.tf hkv hb) hp fun ds v F' H' q1 q2 q3 q4 => hQ ds v F' H' q1 q2 (e1.trans q3) q4⟩
  · rename_i m em
    rw [dictO_k em] at r1'
    obtain ⟨q, xs, rfl, hs, hkv⟩ := dq_dK r1'
    exact .inl ⟨q, xs, rfl, s1.ex _ _ hs, fun pn hn => put_new s1 hn (keysK_dpa hkv) hp fun ds v F' H' q1 q2 q3 q4 => hQ ds v F' H' q1 q2 (e1.trans q3) q4⟩
  · exact hp.elim
theorem wn_listKv (i : Nat) {kvs : List (Key × PyData)} {q : Pos} {Φ : List PyData → Prop} (hm : X.mg "list" = none) (hc : X.calm = true) (h : Φ (keysK kvs)) (he : env[i]? = some (.dk al kvs) := by rfl) (hN : X.N[i]? = some xn := by rfl)
    (hv : Vis X.env.scope xn := by first | exact Or.inl rfl | exact Or.inr (Or.inl rfl) | exact Or.inr (Or.inr rfl)) (hd : (xn == ("__debug__" : Str)) = false := by decide)
    (hcd : (xn == ("__classdict__" : Str)) = false := by decide) (hg : Gl X "list" := by rfl) (hes : starEach [Expr.Name xn q] X.env = (false, eval (.Name xn q) X.env) :: starEach [] X.env := by rfl) (hpl : (backTo pos (starEach ([] : List Expr) X.env)).any (·.1) = false := by rfl) : WN X g (.Call (.Name "list" p) [.Name xn q] [] pos) env Φ Ψ := fun W tk σ F H st hx Q hQ => by
  refine semE_of (pe_callTy (call_list_dK hc) hg hm (by decide +kernel) (pa_cons (pe_var hN hv hd hcd) pa_nil hes) (by decide) (by decide) hes hpl) ?_
  obtain ⟨h1, vs, h2, h3⟩ := st.sl i _ he
  refine ⟨_, getD_some h1, al, vs, rfl, h2, fun pn hn => ?_⟩
  exact put_new st hn (keysK_dpa h3) h hQ
end
end TL

namespace TL
open PySem PySem.Spec PyProof.Rows L2
section
variable {X : Cx} {g : G} {env env' : List Sl} {Ψ : Exc → Prop} {P : Po} {pos p lp : Pos} {a b c e f o tg iter : Expr} {es : List Expr} {rest body : List Stmt} {K : Frag} {F F' H H' : Hp} {σ σ' : SS} {x y : PyData} {z1 z2 : Bool} {k0 : Nat} {al : Addr} {xn : Str} {apos : Pos}
/-! a name that stands alone (TupSets has a range_map too) -/
theorem rng_map (lo hi : Int) : rangeL lo hi = (List.range (hi - lo).toNat).map fun (i : Nat) => PyData.int (lo + (i : Nat)) := rfl
/-! a slot forgotten -/
theorem ws_forget (i : Nat) (h : WS X g rest (env.set i .un) P) (hi : env[i]?.isSome = true := by rfl) : WS X g rest env P := fun W tk hx σ F H st D hD => by
  obtain ⟨s, hs⟩ := Option.isSome_iff_exists.mp hi
  exact h W tk hx σ F H (st.weak hs (fun a m => by cases m) fun _ => trivial) D hD
/-! a, b = e1, e2 with plain names: stored from the right -/
theorem w1_par2 (i j : Nat) {x y : Str} {px py pt : Pos} {kt k2 : Nat} {pt2 : Pos} (hc : X.calm = true) (hN : X.N.Nodup) (hi : X.N[i]? = some x) (hj : X.N[j]? = some y) (hij : i ≠ j)
    (h : WAs X g [a, b] env (fun as => ∃ d1 d2, datas as = some [d1, d2] ∧ P.nx ((env.set i (.d d1)).set j (.d d2))) (fun c => P.ex c env))
    (hl : (Nat.blt i env.length && Nat.blt j env.length) = true := by rfl)
    (hx : X.env.scope.names.lookup x = some .local := by rfl) (hy : X.env.scope.names.lookup y = some .local := by rfl)
    (hw : swappedStores [.Tuple [.Name x px, .Name y py] kt pt] (.Tuple [a, b] k2 pt2) X.env = pure (some [x, y]) := by rfl)
    (hs : swapsWithSole [.Tuple [.Name x px, .Name y py] kt pt] (.Tuple [a, b] k2 pt2) pos.line X.env = pure false := by rfl) :
    W1 X g (.Assign [.Tuple [.Name x px, .Name y py] kt pt] (.Tuple [a, b] k2 pt2) pos) env P := fun W tk hx2 σ F H s0 D hD => by
  refine semP_of (ps_par hc hN hi hj hij hx hy (paS [a, b]) hw hs) ?_
  refine h W tk σ F H s0 (hx2.hx env σ) _ fun as vs F' H' ⟨d1, d2, e1, hp⟩ s' e' r' => ?_
  have hd := dpa_datas e1 r'
  obtain ⟨l1, l2⟩ := Bool.and_eq_true_iff.mp hl
  cases hd with
  | cons q1 hd =>
    cases hd with
    | cons q2 hd =>
      cases hd
      exact ⟨_, _, rfl, hD.nx _ _ F' H' hp ((s'.setD (ltB l1) q1).setD (by rw [List.length_set]; exact ltB l2) q2) e'⟩
theorem w1_par3 (i j l : Nat) {x y z : Str} {px py pz pt : Pos} {kt k2 : Nat} {pt2 : Pos} (hc : X.calm = true) (hN : X.N.Nodup) (hi : X.N[i]? = some x) (hj : X.N[j]? = some y) (hk : X.N[l]? = some z) (hij : i ≠ j) (hil : i ≠ l) (hjl : j ≠ l)
    (h : WAs X g [a, b, c] env (fun as => ∃ d1 d2 d3, datas as = some [d1, d2, d3] ∧ P.nx (((env.set i (.d d1)).set j (.d d2)).set l (.d d3))) (fun c => P.ex c env))
    (hl : (Nat.blt i env.length && Nat.blt j env.length && Nat.blt l env.length) = true := by rfl)
    (hx : X.env.scope.names.lookup x = some .local := by rfl) (hy : X.env.scope.names.lookup y = some .local := by rfl) (hz : X.env.scope.names.lookup z = some .local := by rfl)
    (hw : swappedStores [.Tuple [.Name x px, .Name y py, .Name z pz] kt pt] (.Tuple [a, b, c] k2 pt2) X.env = pure (some [x, y, z]) := by rfl)
    (hs : swapsWithSole [.Tuple [.Name x px, .Name y py, .Name z pz] kt pt] (.Tuple [a, b, c] k2 pt2) pos.line X.env = pure false := by rfl) :
    W1 X g (.Assign [.Tuple [.Name x px, .Name y py, .Name z pz] kt pt] (.Tuple [a, b, c] k2 pt2) pos) env P := fun W tk hx2 σ F H s0 D hD => by
  refine semP_of (ps_par3 hc hN hi hj hk hij hil hjl hx hy hz (paS [a, b, c]) hw hs) ?_
  refine h W tk σ F H s0 (hx2.hx env σ) _ fun as vs F' H' ⟨d1, d2, d3, e1, hp⟩ s' e' r' => ?_
  have hd := dpa_datas e1 r'
  obtain ⟨l1, l3⟩ := Bool.and_eq_true_iff.mp hl
  obtain ⟨l1, l2⟩ := Bool.and_eq_true_iff.mp l1
  cases hd with
  | cons q1 hd =>
    cases hd with
    | cons q2 hd =>
      cases hd with
      | cons q3 hd =>
        cases hd
        exact ⟨_, _, _, rfl, hD.nx _ _ F' H' hp (((s'.setD (ltB l1) q1).setD (by rw [List.length_set]; exact ltB l2) q2).setD (by rw [List.length_set, List.length_set]; exact ltB l3) q3) e'⟩
end
end TL

namespace TL
open PySem PySem.Spec PyProof.Rows L2
section
variable {X : Cx} {g : G} {env env' : List Sl} {Ψ : Exc → Prop} {P : Po} {pos p lp : Pos} {a b c e f o tg iter : Expr} {es : List Expr} {rest body : List Stmt} {K : Frag} {F F' H H' : Hp} {σ σ' : SS} {x y : PyData} {z1 z2 : Bool} {k0 : Nat} {al : Addr} {xn : Str} {apos : Pos}
/-! len(set(xs)), xs a list of tuples of ints -/
def intsD : List PyData → Option (List Int)
  | [] => some []
  | .int i :: r => (intsD r).map (i :: ·)
  | _ => none
def rowsD : List PyData → Option (List (List Int))
  | [] => some []
  | .tuple xs :: r => match intsD xs, rowsD r with
    | some x, some l => some (x :: l)
    | _, _ => none
  | _ => none
/-- each row once -/
def dd : List (List Int) → List (List Int)
  | [] => []
  | a :: l => if a ∈ l then dd l else a :: dd l
theorem mem_dd {x : List Int} : ∀ {l : List (List Int)}, x ∈ dd l ↔ x ∈ l
  | [] => Iff.rfl
  | a :: l => by
    unfold dd
    by_cases h : a ∈ l
    · rw [if_pos h, mem_dd, List.mem_cons]
      exact ⟨.inr, fun z => z.elim (fun e => e ▸ h) id⟩
    · rw [if_neg h, List.mem_cons, List.mem_cons, mem_dd]
theorem dd_nd : ∀ (l : List (List Int)), (dd l).Nodup
  | [] => List.Pairwise.nil
  | a :: l => by
    unfold dd
    by_cases h : a ∈ l
    · rw [if_pos h]; exact dd_nd l
    · rw [if_neg h]
      exact List.nodup_cons.mpr ⟨fun z => h (mem_dd.mp z), dd_nd l⟩
def lenSetL (ds : List PyData) (Q : KD) : Prop := match rowsD ds with
  | some rows => rows.length < 64 ∧ Q (.int (dd rows).length)
  | none => False
def lenSetM : PyData → KD → Prop
  | .list ds, Q => lenSetL ds Q
  | _, _ => False
theorem ints_dq {K : Frag} {F : Hp} : ∀ {ds : List PyData} {ns : List Int} {vs : List V}, intsD ds = some ns → DqAll K F vs ds → vs = ns.map V.int
  | [], ns, vs, h, hd => by
    cases h
    cases hd; rfl
  | .int i :: r, ns, vs, h, hd => by
    obtain ⟨l, e1, rfl⟩ := Option.map_eq_some_iff.mp (show (intsD r).map (i :: ·) = some ns from h)
    cases hd with
    | cons h1 h2 =>
      rw [ints_dq e1 h2, dp_int h1]; rfl
theorem rows_dq {K : Frag} {F : Hp} : ∀ {ds : List PyData} {rows : List (List Int)} {vs : List V}, rowsD ds = some rows → DqAll K F vs ds → ∃ ks : List (Addr × List Int), vs = ks.map (fun p => V.ref p.1) ∧ rows = ks.map (·.2) ∧ ∀ p ∈ ks, SqT K F p.1 (p.2.map V.int)
  | [], rows, vs, h, hd => by
    cases h
    cases hd
    exact ⟨[], rfl, rfl, fun p hp => (by cases hp)⟩
  | .tuple xs :: r, rows, vs, h, hd => by
    have h : (match intsD xs, rowsD r with | some x, some l => some (x :: l) | _, _ => none) = some rows := h
    cases e1 : intsD xs with
    | none => rw [e1] at h; cases h
    | some x =>
      cases e2 : rowsD r with
      | none => rw [e1, e2] at h; cases h
      | some l =>
        rw [e1, e2] at h
        cases h
        cases hd with
        | cons h1 h2 =>
          obtain ⟨a, ws, rfl, s1, d1⟩ := dp_tup h1
          have ew := ints_dq e1 d1
          subst ew
          obtain ⟨ks, q1, q2, q3⟩ := rows_dq e2 h2
          refine ⟨(a, x) :: ks, by rw [q1]; rfl, by rw [q2]; rfl, fun p hp => ?_⟩
          rcases List.mem_cons.mp hp with rfl | hp
          · exact s1
          · exact q3 p hp
theorem dedup_len {A B : List (List Int)} (nd : A.Nodup) (h1 : ∀ x ∈ A, x ∈ B) (h2 : ∀ x ∈ B, x ∈ A) : A.length = (dd B).length :=
  ((List.perm_ext_iff_of_nodup nd (dd_nd B)).mpr fun x => ⟨fun h => mem_dd.mpr (h1 x h), fun h => h2 x (mem_dd.mp h)⟩).length_eq
def rLenST (K : PySem.W.Frag) (P : Program) (w : World) : List V → Hp → VK → Prop := fun vs H Q => ∃ (a : Addr) (L : List (Addr × List Int)), vs = [V.ref a] ∧ H a = some (SetTO P w a L) ∧ (∀ p ∈ L, SqT K H p.1 (p.2.map V.int)) ∧ ((L.map (·.2)).Nodup → Q (.int L.length) H)
theorem call_lenST {X : Cx} : CallR X (.builtin "len") (rLenST X.K X.prog X.w) := by
  intro pins s σ H xs us Q I r h
  obtain ⟨a, L, rfl, hH, hk, q⟩ := h
  rw [Vals.ref1 r]
  have ok := I.hok a _ hH
  obtain ⟨es, ep, t, R⟩ := SetT0.full ok.1 fun p hp => I.isT (hk p hp)
  obtain ⟨o, ho, hex, hd⟩ := R.ob
  have he : es.size = L.length := by
    have := congrArg List.length R.rows
    unfold rowsOf at this
    simpa using this
  refine call_len_set ho hex hd R.fits (by rw [he]; have := R.few; omega) ⟨.int L.length, H, I.tok _, ⟨_, by rw [he]⟩, q R.nd⟩
theorem lenset_m {Q Q' : KD} (h : lenSetM x Q) (k : ∀ r, Q r → Q' r) : lenSetM x Q' := by
  cases x <;> first | exact h.elim | skip
  rename_i ds
  have h : lenSetL ds Q := h
  show lenSetL ds Q'
  unfold lenSetL at *
  cases e : rowsD ds with
  | none => rw [e] at h; exact h
  | some rows => rw [e] at h; exact ⟨h.1, k _ h.2⟩
theorem we_lenset {k : Nat} {p2 q : Pos} {Φ : PyData → Bool → Prop} (hm1 : X.mg "len" = none) (hm2 : X.mg "set" = none) (hr : Room k X.A) (hc : X.calm = true) (h : WE X g a env (fun d _ => lenSetM d fun r => Φ r true) Ψ)
    (hg1 : Gl X "len" := by rfl) (hg2 : Gl X "set" := by rfl)
    (he1 : starEach [Expr.Call (.Name "set" p2) [a] [] q] X.env = (false, eval (Expr.Call (.Name "set" p2) [a] [] q) X.env) :: starEach [] X.env := by rfl)
    (he2 : starEach [a] X.env = (false, eval a X.env) :: starEach [] X.env := by rfl)
    (hp1 : (backTo pos (starEach ([] : List Expr) X.env)).any (·.1) = false := by rfl) (hp2 : (backTo q (starEach ([] : List Expr) X.env)).any (·.1) = false := by rfl) : WE X g (.Call (.Name "len" p) [.Call (.Name "set" p2) [a] [] q] [] pos) env Φ Ψ := fun W tk σ F H st hx Q hQ => by
  refine semE_of (pe_callB call_lenST hg1 hm1 PySem.boot_len (pa_cons (pe_callTy (cr_setOfT hc (units65 hr |> fun h => by omega)) hg2 hm2 PyProof.Rows.boot_set (pa_cons (peS a) pa_nil he2) (by decide) (by decide) he2 hp2) pa_nil he1) (by decide) (by decide) he1 hp1) ?_
  refine h W tk σ F H st hx _ fun d1 z1 v1 F1 H1 h1 st1 e1 r1 => ?_
  cases d1 <;> first | exact h1.elim | skip
  rename_i ds
  have h1 : lenSetL ds fun r => Φ r true := h1
  unfold lenSetL at h1
  cases e : rowsD ds with
  | none => rw [e] at h1; exact h1.elim
  | some rows =>
    rw [e] at h1
    obtain ⟨hl, hq⟩ := h1
    obtain ⟨a1, vs1, rfl, s1, p1⟩ := rd_lst st1.toSk r1
    obtain ⟨ks, q1, q2, q3⟩ := rows_dq e p1
    subst q1
    subst q2
    rw [List.length_map] at hl
    refine ⟨a1, ks, rfl, s1, fun p hp => ex_t st1.ex (q3 p hp), hl, fun b L hn hsub hall => ?_⟩
    have st2 := st1.alloc (o := SetTO X.prog X.w b L) hn
    refine ⟨b, L, rfl, upd_same, fun p hp => ?_, fun nd => ?_⟩
    · exact ex_t (Ex.new hn) (ex_t st1.ex (q3 p (hsub p hp)))
    · have el : L.length = (dd (ks.map (·.2))).length := by
        rw [← List.length_map (f := (·.2)) (as := L)]
        refine dedup_len nd (fun x hx => ?_) fun x hx => ?_
        · obtain ⟨p, hp, rfl⟩ := List.mem_map.mp hx
          exact List.mem_map.mpr ⟨p, hsub p hp, rfl⟩
        · obtain ⟨p, hp, rfl⟩ := List.mem_map.mp hx
          exact hall p hp
      rw [← el] at hq
      exact hQ _ true (.int L.length) F1 _ hq st2 e1 (.int ..)
end
end TL

namespace TL
open PySem PySem.Spec PyProof.Rows L2
section
variable {X : Cx} {g : G} {env env' : List Sl} {Ψ : Exc → Prop} {P : Po} {pos p lp : Pos} {a b c e f o tg iter : Expr} {es : List Expr} {rest body : List Stmt} {K : Frag} {F F' H H' : Hp} {σ σ' : SS} {x y : PyData} {z1 z2 : Bool} {k0 : Nat} {al : Addr} {xn : Str} {apos : Pos}
/-! x = [e1, e2], both new lists -/
theorem w1_newOO2 (i : Nat) {x : Str} {pos' : Pos} {e1 e2 : Expr} {lp : Pos} (hN : X.N.Nodup)
    (h : WN X g e1 env (fun d1 => ∀ g' : G, WN X g' e2 env (fun d2 => ∀ q q1 q2, q ∉ g.M → P.nx (env.set i (ooS q [q1, q2] [d1, d2]))) (fun c => P.ex c env)) (fun c => P.ex c env))
    (hi : X.N[i]? = some x := by rfl) (hx : Loc X.env.scope x := by first | exact Or.inl rfl | exact Or.inr rfl) (hl : Nat.blt i env.length = true := by rfl)
    (he1 : starEach [e1, e2] X.env = (false, eval e1 X.env) :: starEach [e2] X.env := by rfl) (he2 : starEach [e2] X.env = (false, eval e2 X.env) :: starEach [] X.env := by rfl)
    (hs : swapsWith (.List [e1, e2] lp) (some (.Name x pos')) pos.line X.env = pure false := by rfl) (hf : X.fn x = true ∨ X.env.scope.names.lookup x = some .local := by first | exact .inl rfl | exact .inr rfl) : W1 X g (.Assign [.Name x pos'] (.List [e1, e2] lp) pos) env P := fun W tk hx2 σ F H s0 D hD => by
  refine semP_of (ps_set hN hi hx (pe_lst (pa_cons (peS e1) (pa_cons (peS e2) pa_nil he2) he1)) hs hf) ?_
  refine h W tk σ F H s0 (hx2.hx env σ) _ fun d1 v1 F1 H1 hp1 s1 ex1 ⟨q1, xs1, hv1, a1, a2, a3, a4, a5⟩ => ?_
  subst hv1
  refine hp1 ⟨F1, H1, fps env⟩ W tk σ F1 H1 s1.toSk.base (fun c F' H' hc s2 => hx2.hx env σ c F' H' hc (s1.rebase s2 fun _ q => q)) _ fun d2 v2 F2 H2 hp2 s2 ex2 ⟨q2, xs2, hv2, b1, b2, b3, b4, b5⟩ => ?_
  subst hv2
  have s3 := s1.rebase s2 (fun _ q => q)
  have nM : q1 ∉ fps env := fun z => a4 (own_fps.mpr z)
  have k1 : H2 q1 = some (.lst xs1) := s2.g1 q1 _ a1 nM (fun _ z => by cases z)
  have f1 : F2 q1 = none := by
    cases z : F2 q1 with
    | none => rfl
    | some u =>
      rcases s2.g4 q1 (by rw [z]; intro y; cases y) with y | y
      · exact absurd a3 y
      · have y : H1 q1 = none := y
        rw [a1] at y; cases y
  have hne : q1 ≠ q2 := fun z => by
    have b5 : H1 q2 = none := b5
    rw [← z, a1] at b5; cases b5
  refine ⟨by rw [sizeLine_eq]; show 2 ≤ 16777216; decide, fun p hn => ?_⟩
  have p1 : p ≠ q1 := fun z => by rw [z, k1] at hn; cases hn
  have p2 : p ≠ q2 := fun z => by rw [z, b1] at hn; cases hn
  have s4 := s3.alloc (o := .lst [.ref q1, .ref q2]) hn
  have own3 : ∀ b, b = p ∨ b = q1 ∨ b = q2 → ¬ Own env b ∧ F2 b = none ∧ g.H0 b = none := fun b hb => by
    rcases hb with rfl | rfl | rfl
    · exact ⟨s3.toSk.notown hn, s3.ex.none hn, s3.h0 hn⟩
    · exact ⟨a4, f1, a5⟩
    · exact ⟨b4, b3, s1.h0 b5⟩
  have inf : ∀ b ∈ (ooS p [q1, q2] [d1, d2]).fp, b = p ∨ b = q1 ∨ b = q2 := fun b hb => by
    have hb : b ∈ [p, q1, q2] := hb
    simpa using hb
  refine hD.nx _ _ F2 _ (hp2 p q1 q2 fun m => s3.g6 p m (s3.h0 hn)) (s4.set (s := ooS p [q1, q2] [d1, d2]) (ltB hl) ⟨rfl, upd_same, ?_, fun r hr => ?_⟩ (fun b hb => (own3 b (inf b hb)).2.1) (fun b hb j t _ e ht => (own3 b (inf b hb)).1 ⟨j, t, e, ht⟩) (fun b hb => .inl (own3 b (inf b hb)).2.2)) (ex1.trans ex2)
  · show [p, q1, q2].Nodup
    simp [p1, p2, hne]
  · have hr : r = (q1, d1) ∨ r = (q2, d2) := by
      have hr : r ∈ [(q1, d1), (q2, d2)] := hr
      simpa using hr
    rcases hr with rfl | rfl
    · exact ⟨xs1, by rw [upd_ne (Ne.symm p1)]; exact k1, dpa_mono ex2 _ _ a2⟩
    · exact ⟨xs2, by rw [upd_ne (Ne.symm p2)]; exact b1, b2⟩
end
end TL

/-! lambdas without parameters: made, kept in slots, called where they were made, handed to a def that calls them -/
namespace TL
open PySem PySem.Spec PyProof.Rows L2 LamX
theorem lamO_at {P : Program} {w : World} {H : Hp} {h : Heap} {f c : Addr} {l : Lam} (ok : HOk P w H h) (e : H f = some (LamO f l c)) : ∃ pm ct, h.get? f = some (l.ob c pm ct) := by
  obtain ⟨z, _, _⟩ := ok f _ e; exact z
theorem codeO_rec {P : Program} {w : World} {H : Hp} {h : Heap} {c : Addr} {q : Str} (ok : HOk P w H h) (e : H c = some (CodeO c q)) : h.CodeRec (.ref c) q := by
  obtain ⟨⟨oc, vs, t, z1, z2, z3⟩, _, _⟩ := ok c _ e
  exact ⟨c, oc, vs, t, rfl, z1, z2, z3⟩
theorem lamO_tup {f c : Addr} {l : Lam} {vs : List V} (z : LamO f l c = .tup vs) : False := by unfold LamO at z; cases z
theorem lamO_ntb {f c : Addr} {l : Lam} : ntb (LamO f l c) := fun _ z => by unfold LamO at z; cases z
theorem codeO_ntb {c : Addr} {q : Str} : ntb (CodeO c q) := fun _ z => by unfold CodeO at z; cases z
/-- the codes that a table tells are known -/
def TblK (H : Hp) (q : Str) (ps : Array Value) : Prop := TriplesOk ps.toList ∧ ∀ (pos : Pos) (cv : Value), codeAmong pos ps.toList = some cv → ∃ c, cv = .ref c ∧ H c = some (CodeO c q)
/-- the heap behind the making: as it was, or the table is longer by a new code object -/
inductive LmRes (H : Hp) (P : Addr) (ps : Array Value) (q : Str) (c : Addr) : Hp → Prop
  | hit (pos : Pos) : codeAmong pos ps.toList = some (.ref c) → LmRes H P ps q c H
  | new (more : Array Value) : H c = none → c ≠ P → TriplesOk (ps ++ more).toList → (∀ (pos : Pos) (cv : Value), codeAmong pos (ps ++ more).toList = some cv → codeAmong pos ps.toList = some cv ∨ cv = .ref c) →
      LmRes H P ps q c (upd (upd H P (.tbl (ps ++ more))) c (CodeO c q))
section
variable {X : Cx} {pins : List (Addr × Obj)} {σ : L2.St} {H : Hp} {s : Shared}
theorem inv_lam {l : Lam} {c : Addr} {o : Obj} {t' : Nat} {pm ct : Value} (I : Inv X pins σ H s) (ho : o = l.ob c pm ct) :
    Inv X pins σ (upd H s.heap.objs.size (LamO s.heap.objs.size l c)) { s with heap := s.heap.push o, toks := t' } := by
  subst ho
  have at_ : (s.heap.push (l.ob c pm ct)).get? s.heap.objs.size = some (l.ob c pm ct) := Heap.get?_push_size _ rfl
  exact I.laid (a := s.heap.objs.size) (fun _ _ z => Heap.get?_push_of_some _ z) (Nat.le_refl _) ⟨⟨pm, ct, at_⟩, ⟨_, at_⟩, fun _ _ ⟨p, t, z⟩ k => ⟨p, t, k _ z⟩⟩
theorem lam_mk {l : Lam} {c P : Addr} {pos : Pos} {ps : Array Value} {E Q : Value → Shared → Prop} (I : Inv X pins σ H s) (TB : TabB X.base X.mg c P) (hcode : X.env.code = .ref c)
    (hP : H P = some (.tbl ps)) (hk : TblK H l.q ps) (hq : l.q = X.env.qual ++ "<lambda>") (hcl : l.cl = cloFrom X.env.cells l.sc.names [])
    (hdef : defaultsOf l.ps X.env = ([], [])) (hfree : ∀ y ∈ l.sc.names, y.2 = .free → ∃ c, X.env.cells.lookup y.1 = some c)
    (h : ∀ (f c' : Addr) (H1 : Hp) (s' : Shared), LmRes H P ps l.q c' H1 → H1 f = none → Inv X pins σ (upd H1 f (LamO f l c')) s' → Q (.ref f) s') :
    wpAny (model X.prog X.w) X.A (eval (.Lambda l.ps l.bd l.sc pos) X.env) Q E s := by
  obtain ⟨lq, lps, lbd, lsc, lcl⟩ := l
  dsimp only at hq hcl hk hdef hfree h ⊢
  subst hq
  subst hcl
  obtain ⟨ht, ha⟩ := hk
  refine PySem.W.kla_eval hdef ?_
  have bP := TB.bm.keeps I.bk
  have oP : s.heap.get? P = some { cls := .none, data := .fields ps } := I.hok P _ hP
  cases hc : codeAmong pos ps.toList with
  | some cv =>
    obtain ⟨c', ec, hco⟩ := ha pos cv hc
    subst ec
    refine PySem.W.kla_makeFunctionHit (mg := X.mg) (c := c) (P := P) (ps := ps) (closure_ok hfree) I.ok.glob (I.mod.glob.keeps I.bk) hcode (TB.code.keeps I.bk) oP ht hc bP fun ct h2 tk kp _ => ?_
    have J : Inv X pins σ H { s with heap := h2, toks := tk } := I.kept kp
    exact h h2.objs.size c' H _ (.hit pos hc) (J.hok.fresh (Nat.le_refl _)) (inv_lam (s := { s with heap := h2, toks := tk }) (t' := tk) J rfl)
  | none =>
    refine PySem.W.kla_makeFunction (mg := X.mg) (c := c) (P := P) (ps := ps) (closure_ok hfree) I.ok.glob (I.mod.glob.keeps I.bk) hcode (TB.code.keeps I.bk) oP ht hc TB.gP bP fun c' ct h2 tk kp hge hlt rc htb => ?_
    obtain ⟨c2, oc, vs, t, ec, z1, z2, z3⟩ := rc
    cases ec
    have J := inv_table (t' := tk) (more := #[rawInt pos.line, rawInt pos.col, .ref c']) (h' := h2) I hP (fun b o nb z => kp b o nb z) htb hge ⟨oc, vs, t, z1, z2, z3⟩
    have eL : (ps ++ #[rawInt pos.line, rawInt pos.col, .ref c']).toList = ps.toList ++ [rawInt pos.line, rawInt pos.col, .ref c'] := by simp
    have nC : H c' = none := I.hok.fresh hge
    refine h h2.objs.size c' _ _ (.new _ nC (fun z => by rw [z, hP] at nC; cases nC) ?_ fun pos' cv hcv => ?_) (J.hok.fresh (Nat.le_refl _)) (inv_lam (s := { s with heap := h2, toks := tk }) (t' := tk) J rfl)
    · rw [eL]; exact PySem.TriplesOk_snoc _ _ _ _ ht
    · rw [eL] at hcv; exact among_app _ ht hcv
/-- the reading of a lambda -/
def tLm (P : Addr) (l : Lam) : TE := fun _ H Q => ∃ ps, H P = some (.tbl ps) ∧ TblK H l.q ps ∧ ∀ (f c' : Addr) (H1 : Hp), LmRes H P ps l.q c' H1 → H1 f = none → Q (.ref f) (upd H1 f (LamO f l c'))
/-- a lambda of this def -/
structure LamOk (X : Cx) (l : Lam) : Prop where
  q : l.q = X.env.qual ++ "<lambda>"
  cl : l.cl = cloFrom X.env.cells l.sc.names []
  sc : LamS X.env.scope l.sc
  df : defaultsOf l.ps X.env = ([], [])
  bi : ∀ pm cv ct : Value, bindArgs (PySem.W.kla_fn "<lambda>" l.q l.ps l.bd l.sc l.cl pm cv ct) ⟨[], []⟩ = pure []
/-- this def's code object, its table -/
structure LHas (X : Cx) (c P : Addr) : Prop where
  tb : TabB X.base X.mg c P
  code : X.env.code = .ref c
  mem : (P, X.env.qual ++ "<lambda>") ∈ tabsK X.K
  uq : ∀ p ∈ tabsK X.K, p.1 = P → p.2 = X.env.qual ++ "<lambda>"
theorem pe_lam {l : Lam} {c P : Addr} {pos : Pos} (L : LHas X c P) (ok : LamOk X l) : PE X (.Lambda l.ps l.bd l.sc pos) (tLm P l) :=
  ⟨fun pins s σ H Q I ⟨ps, h1, h2, h3⟩ => lam_mk I L.tb L.code h1 h2 ok.q ok.cl ok.df (ok.sc.has I.ok) fun f c' H1 s' r n J => ⟨.ref f, _, J, rfl, h3 f c' H1 r n⟩⟩
/-- f(), f a lambda that this def made -/
theorem lam_run {l : Lam} {k : Nat} {f c' : Addr} {A : Around} {outer : List Env} {H0 : Hp} {s0 : Shared} {pins0 : List (Addr × Obj)} {E : XK} {Q : VK} {σ : L2.St} (I : Inv X pins0 σ H0 s0) (ok : LamOk X l) (e0 : Env0 X.prog X.w X.K X.mg X.base A outer s H) (hr : Room (k + 1) A)
    (un : Un (frs X.stack) [] H0 H s0.heap s.heap) (hf : H f = some (LamO f l c')) (hc : H c' = some (CodeO c' l.q))
    (hb : ∀ s2 : Shared, Room k (A.deeper (lamEnv X l.sc s2.heap.objs.size f c')) → semE (lamCx X A outer s2 H E l.sc f c') l.bd σ H Q) :
    codeAny (model X.prog X.w) A (.call (.ref f) ⟨[], []⟩) (CR (L2.CX X.prog X.w) outer X.prog X.w H s Q E) s := by
  obtain ⟨lq, lps, lbd, lsc, lcl⟩ := l
  obtain ⟨hq, hcl, L, hdf, hbi⟩ := ok
  dsimp only at hq hcl L hdf hbi hf hc hb ⊢
  subst hq
  subst hcl
  obtain ⟨pm, ct, of1⟩ := lamO_at e0.hok hf
  refine PySem.W.kla_callFunE hr.depth of1 rfl L.co L.gen rfl (codeO_rec e0.hok hc) ?_
  rw [hbi]
  refine wpAny_pure (wpAny_newFunctionEnv (fun y hy => (L.own y hy).2) (fun y hy => absurd hy (by simp)) (fun h1 hns sb => ⟨(e0.mod.nolimit.keeps fun b o z => (e0.bs b o z).1).fresh _ sb, ?_⟩) L.kind)
  show codeAny _ _ (.expr lbd (lamEnv X lsc s.heap.objs.size f c')) _ _
  have kp : ∀ b o, s.heap.get? b = some o → h1.get? b = some o := fun b o z => sb.extBut b o (Nat.ne_of_lt (Heap.lt_size z)) (Heap.get?_push_of_some _ z)
  have J := lam_start2 (E := E) (f := f) (c' := c') (tk := s.toks + ([] : List (Str × Value)).length) I L e0 hr.hd un hns kp
  refine PySem.W.kla_codeExpr (wpAny_mono ((hb s (hr.deeper _)).run [] _ J) (fun v s' hq => ?_) fun _ _ z => z)
  obtain ⟨w', H', J', rv, q⟩ := hq
  exact ⟨w', H', J'.os, J'.bare, J'.base, J'.hok, rv, q⟩
end
theorem upd_comm {H : Hp} {a b : Addr} {x y : HO} (h : a ≠ b) : upd (upd H a x) b y = upd (upd H b y) a x := by
  funext c
  by_cases h1 : c = b
  · subst h1; rw [upd_same, upd_ne (Ne.symm h), upd_same]
  · by_cases h2 : c = a
    · subst h2; rw [upd_ne h1, upd_same, upd_same]
    · rw [upd_ne h1, upd_ne h2, upd_ne h2, upd_ne h1]
section
variable {K : Frag} {g : G} {env : List Sl} {F H H1 : Hp} {σ : SS} {P : Addr} {ps ps' : Array Value} {q : Str}
theorem St.tabw (st : St K g F H σ env) (hP : H P = some (.tbl ps)) (ht : TriplesOk ps'.toList) (hc : ∀ q, (P, q) ∈ tabsK K → ∀ (pos : Pos) (cv : Value), codeAmong pos ps'.toList = some cv → ∃ c, cv = .ref c ∧ F c = some (CodeO c q)) : St K g F (upd H P (.tbl ps')) σ env where
  len := st.len
  sl := fun i s e => slok_mono (Ex.refl F) (fun a ha u z => by
    have ne : a ≠ P := fun y => slok_ntb (st.sl i s e) ha ps (y ▸ hP)
    rw [upd_ne ne]; exact z) (st.sl i s e)
  nd := st.nd
  fr := st.fr
  ex := fun a u z => by
    by_cases y : a = P
    · subst y
      have z2 := st.ex a u z
      rw [hP] at z2; cases z2
      exact absurd z (st.tk.fn a ps)
    · rw [upd_ne y]; exact st.ex a u z
  tf := fun a vs z => by
    by_cases y : a = P
    · subst y; rw [upd_same] at z; cases z
    · rw [upd_ne y] at z; exact st.tf a vs z
  tk := ⟨st.tk.fn, fun p hp => by
    by_cases y : p.1 = P
    · obtain ⟨p1, p2⟩ := p
      have y : p1 = P := y
      subst y
      exact ⟨ps', upd_same, ht, hc p2 hp⟩
    · exact (st.tk.tb p hp).mono (Ex.refl F) fun u z => by rw [upd_ne y]; exact z⟩
  gt := st.gt.grow fun a z => by
    by_cases y : a = P
    · subst y; rw [upd_same] at z; cases z
    · rw [upd_ne y] at z; exact z
  g1 := fun a o z m n => by
    have z2 := st.g1 a o z m n
    have ne : a ≠ P := fun y => by
      subst y; rw [hP] at z2; exact n ps (Option.some.inj z2).symm
    rw [upd_ne ne]; exact z2
  g2 := st.g2
  g3 := st.g3
  g4 := st.g4
  g5 := fun a m z => by
    by_cases y : a = P
    · subst y; rw [upd_same] at z; cases z
    · rw [upd_ne y] at z; exact st.g5 a m z
  g6 := st.g6
theorem St.lam {l : Lam} {f c : Addr} (st : St K g F H σ env) (r : LmRes H P ps l.q c H1) (hP : H P = some (.tbl ps)) (hk : ∀ (pos : Pos) (cv : Value), codeAmong pos ps.toList = some cv → ∃ c, cv = .ref c ∧ F c = some (CodeO c l.q)) (hu : ∀ p ∈ tabsK K, p.1 = P → p.2 = l.q) (hn : H1 f = none) :
    ∃ F1, St K g F1 (upd H1 f (LamO f l c)) σ env ∧ Ex F F1 ∧ IsLam F1 (.ref f) l := by
  cases r with
  | hit pos hc =>
    obtain ⟨c0, e0, e1⟩ := hk pos _ hc
    cases e0
    have e := Ex.new (o := LamO f l c) (st.ex.none hn)
    exact ⟨upd F f (LamO f l c), st.allocF hn lamO_ntb, e, f, c, rfl, upd_same, e _ _ e1⟩
  | new more hc hcP ht hco =>
    rw [upd_comm (Ne.symm hcP)] at hn ⊢
    have hF := st.ex.none hc
    have e1 := Ex.new (o := CodeO c l.q) hF
    have s1 := st.allocF (o := CodeO c l.q) hc codeO_ntb
    have s2 : St K g (upd F c (CodeO c l.q)) (upd (upd H c (CodeO c l.q)) P (.tbl (ps ++ more))) σ env := s1.tabw (P := P) (ps := ps) (by rw [upd_ne (Ne.symm hcP)]; exact hP) ht fun q hq pos cv hcv => by
      have eq := hu (P, q) hq rfl
      have eq : q = l.q := eq
      subst eq
      rcases hco pos cv hcv with z | z
      · obtain ⟨c0, z1, z2⟩ := hk pos cv z
        exact ⟨c0, z1, e1 _ _ z2⟩
      · exact ⟨c, z, upd_same⟩
    have e2 := Ex.new (o := LamO f l c) (s2.ex.none hn)
    exact ⟨_, s2.allocF hn lamO_ntb, e1.trans e2, f, c, rfl, upd_same, e2 _ _ upd_same⟩
end
/-- an expression that gives the lambda l -/
def WF (X : Cx) (g : G) (e : Expr) (env : List Sl) (l : Lam) : Prop :=
  ∀ (W : WX), Takes X W → ∀ (σ : SS) (F H : Hp), St X.K g F H σ env → ∀ Q : VK, (∀ v F' H', St X.K g F' H' σ env → Ex F F' → IsLam F' v l → Q v H') → semE X e σ H Q
section
variable {X : Cx} {g : G} {env : List Sl} {Ψ : Exc → Prop} {Φ : PyData → Bool → Prop} {l : Lam} {c P : Addr} {pos : Pos} {k : Nat}
theorem wf_lam (L : LHas X c P) (ok : LamOk X l) : WF X g (.Lambda l.ps l.bd l.sc pos) env l := fun W tk σ F H st Q hQ => by
  refine semE_of (pe_lam L ok) ?_
  obtain ⟨ps, h1, h2, h3⟩ := st.tk.tb _ L.mem
  refine ⟨ps, h1, ⟨h2, fun pos cv hc => ?_⟩, fun f c' H1 r n => ?_⟩
  · obtain ⟨c0, e1, e2⟩ := h3 pos cv hc
    exact ⟨c0, e1, st.ex _ _ (by rw [ok.q]; exact e2)⟩
  · obtain ⟨F1, s1, e1, il⟩ := st.lam (l := l) r h1 (fun pos cv hc => by rw [ok.q]; exact h3 pos cv hc) (fun p hp z => by rw [ok.q]; exact L.uq p hp z) n
    exact hQ _ F1 _ s1 e1 il
/-- the contexts in which a lambda's body runs -/
abbrev LCx (X : Cx) (l : Lam) (A : Around) (outer : List Env) (s : Shared) (H : Hp) (E : XK) (f c : Addr) : Cx := lamCx X A outer s H E l.sc f c
def WLam (X : Cx) (g : G) (l : Lam) (env : List Sl) (k : Nat) (Φ : PyData → Bool → Prop) (Ψ : Exc → Prop) : Prop :=
  ∀ (A : Around) (outer : List Env) (s : Shared) (H : Hp) (E : XK) (f c : Addr), Room k (LCx X l A outer s H E f c).A → WE (LCx X l A outer s H E f c) g l.bd env Φ Ψ
theorem WLam.sem (h : WLam X g l env k Φ Ψ) {A : Around} {outer : List Env} {s : Shared} {H0 : Hp} {E : XK} {f c : Addr} (hr : Room k (A.deeper (lamEnv X l.sc s.heap.objs.size f c))) {σ : SS} {F H : Hp} (st : St X.K g F H σ env)
    (hx : ∀ n F' H', Ψ (.own n) → St X.K g F' H' σ env → E (.ref (He.ga X.K n)) none H') {Q : VK} (hQ : ∀ d z v F' H', Φ d z → St X.K g F' H' σ env → Ex F F' → Rd X.K F' env z v d → Q v H') : semE (LCx X l A outer s H0 E f c) l.bd σ H Q :=
  h A outer s H0 E f c hr (fun cls d _ H => E cls d H) (takes_of rfl rfl rfl rfl) σ F H st (fun c F' H' hc s' => by
    cases c with
    | own n => exact hx n F' H' hc s') Q hQ
/-- y(), a lambda of this def -/
theorem we_callF (i : Nat) {y : Str} {p1 p2 : Pos} (he : env[i]? = some (.fv l)) (ok : LamOk X l) (hr : Room (k + 1) X.A) (h : WLam X g l env k Φ Ψ) (hN : X.N[i]? = some y := by rfl)
    (hv : Vis X.env.scope y := by first | exact Or.inl rfl | exact Or.inr (Or.inl rfl) | exact Or.inr (Or.inr rfl)) (hd : (y == ("__debug__" : Str)) = false := by decide)
    (hcd : (y == ("__classdict__" : Str)) = false := by decide) : WE X g (.Call (.Name y p1) [] [] p2) env Φ Ψ := fun W tk σ F H st hx Q hQ => by
  obtain ⟨v, hs, f, c', rfl, h2, h3⟩ := st.sl i _ he
  have hH := st.ex _ _ h2
  have hC := st.ex _ _ h3
  refine ⟨fun pins s I => ?_⟩
  refine wpAny_Call_Name_kw (thn ((pe_var (pos := p1) hN hv hd hcd).run pins s σ H (fun v H1 => v = .ref f ∧ H1 = H) I ⟨.ref f, getD_some hs, rfl, rfl⟩) fun u s1 ⟨v, H1, I1, r1, q1⟩ => ?_)
  obtain ⟨rfl, rfl⟩ := q1
  cases r1
  obtain ⟨pm, ct, of1⟩ := lamO_at I1.hok hH
  refine PySem.W.callWith_F0 ⟨_, _, _, _, of1⟩ ?_
  have rc := lam_run (k := k) (E := fun cls d H' => W cls d σ H') (Q := Q) I1 ok I1.env0 hr Un.refl hH hC fun s2 hr2 => h.sem hr2 st (fun n F' H' hc s' => hx (.own n) F' H' hc s') hQ
  refine wpAny_call (codeAny_mono rc fun r s' hq => ?_)
  cases r with
  | error e => exact tk e s' (XE.of_call I1 (fun _ _ _ z => z) hq)
  | ok fl =>
    cases fl with
    | ret u => exact I1.after hq
    | next => exact False.elim hq
    | brk => exact False.elim hq
    | cont => exact False.elim hq
end
/-! handed to a def that calls it within a try -/
/-- what the def a(w = told; try: a() except n: w = r ..; return w) is -/
inductive HdW (w : Str) : List ExceptHandler → List (Str × Str) → Prop
  | nil : HdW w [] []
  | cons {n r : Str} {j : Nat} {p1 p2 p3 p4 p5 : Pos} {hds : List ExceptHandler} {l : List (Str × Str)} (t : HdW w hds l) : HdW w (.ExceptHandler (some (.Name n p1)) none [.Assign [.Name w p2] (.Constant (.str r) j p3) p4] p5 :: hds) ((n, r) :: l)
inductive BodyW (a w told : Str) (hs : List (Str × Str)) : List Stmt → Prop
  | mk {p1 p2 p3 p4 p5 p6 p7 p8 p9 : Pos} {j : Nat} {h0 : ExceptHandler} {hds : List ExceptHandler} (h : HdW w (h0 :: hds) hs) :
    BodyW a w told hs [.Assign [.Name w p1] (.Constant (.str told) j p2) p3, .Try [.Expr (.Call (.Name a p4) [] [] p5) p6] (h0 :: hds) [] [] p7, .Return (some (.Name w p8)) p9]
structure WordDef (K : Frag) (mg : Str → Option Value) (x a w told : Str) (hs : List (Str × Str)) (kn : List Str) : Prop where
  ex : ∃ (st : Stmt) (f : Addr) (fd : FuncData), FunD K x x (defArgs st) (defBody st) (defScope st) [] [] f fd ∧ mg x = some (.ref f) ∧ L2.Binds K fd [a] [] ∧ FnScope [a, w] [a] (defScope st) ∧ BodyW a w told hs (defBody st) ∧
    (∀ q ∈ hs, (defScope st).names.lookup q.1 = some .globalImplicit ∧ (q.1 == ("__debug__" : Str)) = false) ∧ (defScope st).names.lookup w = some .local
  nd : (a == ("__debug__" : Str)) = false ∧ (a == ("__classdict__" : Str)) = false ∧ (w == ("__debug__" : Str)) = false ∧ (w == ("__classdict__" : Str)) = false ∧ a ≠ w
  cl : ∀ q ∈ hs, mg q.1 = some (.ref (He.ga K q.1)) ∧ ∀ m ∈ kn, ExM K (.own m) q.1 = some (isE m q.1)
def wordC : List (Str × Str) → Str → (Str → Prop) → Prop
  | [], _, _ => False
  | (n, r) :: l, m, K => (isE m n = true → K r) ∧ (isE m n = false → wordC l m K)
/-- its meaning: bd, the lambda's body -/
def wordM (bd : (PyData → Prop) → (Exc → Prop) → Prop) (told : Str) (hs : List (Str × Str)) (kn : List Str) (K : PyData → Prop) : Prop :=
  bd (fun _ => K (.str told)) (fun c => match c with | .own m => m ∈ kn ∧ wordC hs m fun r => K (.str r))
def rdW (Q : VK) : Ends := { nx := fun σ H => ∃ v, σ[1]? = some (some v) ∧ Q v H, rt := Q }
def hdW (K : Frag) (Q : VK) : List (Str × Str) → List (Value × (Addr → Value → Option Addr → TS))
  | [] => []
  | (n, r) :: l => (.ref (He.ga K n), fun _ _ _ => tAsg (fun σ H Q => Q (.str r) H) (gName 1)) :: hdW K Q l
section
variable {X : Cx} {g : G} {env : List Sl} {Ψ : Exc → Prop} {Φ : PyData → Bool → Prop} {l : Lam} {pos : Pos} {k : Nat}
/-- x(), in the def that was handed it -/
theorem pe_callG {CXg : CXT} {Eg : XK} {Ng : List Str} {qg : Str} {sg : Scope} {gf f c' : Addr} {cdg : Value} {i : Nat} {a : Str} {pn : List (Addr × Obj)} {xe : Value → Shared → Prop} {W : WX} {p1 p2 : Pos} {pins : List (Addr × Obj)} {σ : L2.St} {H : Hp} {s : Shared}
    (I : Inv X pins σ H s) (ok : LamOk X l) (tk : Takes ((cxOf CXg X.prog X.w X.K X.mg X.base Ng qg sg gf cdg X.A X.stack s H Eg).tr pn xe) W) (hr : Room (k + 1) (X.A.deeper (envOfC qg sg s.heap.objs.size gf cdg)))
    (hN : Ng[i]? = some a) (hv : Vis sg a) (hd : (a == ("__debug__" : Str)) = false) (hcd : (a == ("__classdict__" : Str)) = false) :
    PE ((cxOf CXg X.prog X.w X.K X.mg X.base Ng qg sg gf cdg X.A X.stack s H Eg).tr pn xe) (.Call (.Name a p1) [] [] p2)
      (fun σZ HZ Q => ∃ E : XK, (∀ cls d H', E cls d H' → W cls d σZ H') ∧ σZ[i]? = some (some (.ref f)) ∧ HZ f = some (LamO f l c') ∧ HZ c' = some (CodeO c' l.q) ∧
        ∀ (A : Around) (outer : List Env) (s2 : Shared), Room k (A.deeper (lamEnv X l.sc s2.heap.objs.size f c')) → semE (LCx X l A outer s2 HZ E f c') l.bd σ HZ Q) := by
  refine ⟨fun pinsZ sZ σZ HZ Q IZ ⟨E, hW, hs, hf, hc, ht⟩ => ?_⟩
  refine wpAny_Call_Name_kw (thn ((pe_var (pos := p1) (i := i) hN hv hd hcd).run pinsZ sZ σZ HZ (fun v H1 => v = .ref f ∧ H1 = HZ) IZ ⟨.ref f, hs, rfl, rfl⟩) fun u s1 ⟨v, H1, I1, r1, q1⟩ => ?_)
  obtain ⟨rfl, rfl⟩ := q1
  cases r1
  obtain ⟨pm, ct, of1⟩ := lamO_at I1.hok hf
  refine PySem.W.callWith_F0 ⟨_, _, _, _, of1⟩ ?_
  have un : Un (frs X.stack) [] H H1 s.heap s1.heap := I1.base
  have rc := lam_run (k := k) (E := E) (Q := Q) I ok I1.env0 hr un hf hc fun s2 hr2 => ht _ _ s2 hr2
  refine wpAny_call (codeAny_mono rc fun r s' hq => ?_)
  cases r with
  | error e => exact tk e s' (XE.of_call I1 (fun cls d H' h => hW cls d H' h) hq)
  | ok fl =>
    cases fl with
    | ret u => exact I1.after hq
    | next => exact False.elim hq
    | brk => exact False.elim hq
    | cont => exact False.elim hq
theorem hdw_ok {Z : Cx} {w : Str} {Q : VK} (hN : Z.N.Nodup) (hi : Z.N[1]? = some w) (hl : Z.env.scope.names.lookup w = some .local) : ∀ {hds : List ExceptHandler} {hs : List (Str × Str)}, HdW w hds hs → (∀ q ∈ hs, Names Z q.1 (.ref (He.ga Z.K q.1))) → HdsOk Z hds (hdW Z.K Q hs)
  | _, _, .nil, _ => .nil
  | _, _, .cons t, h => .cons (h _ (List.mem_cons_self ..)) (fun a oe cls d pn _ _ => pss_one (ps_set (X := Z.suite a ((a, oe) :: pn)) hN hi (.inl hl) pe_str rfl (.inr hl))) (hdw_ok hN hi hl t fun q hq => h q (List.mem_cons_of_mem _ hq))
theorem wordC_run {K : Frag} {Q : VK} {σ1 : SS} {kn : List Str} {m : Str} {H' : Hp} {Kr : Str → Prop} (h1 : 1 < σ1.length) (hm : m ∈ kn) (hQ : ∀ r, Kr r → Q (.str r) H') :
    ∀ {hs : List (Str × Str)}, (∀ q ∈ hs, ∀ m ∈ kn, ExM K (.own m) q.1 = some (isE m q.1)) → wordC hs m Kr → wMany K (fun _ _ _ _ => False) (rdW Q) (hdW K Q hs) (.ref (He.ga K m)) none σ1 H'
  | [], _, h => h.elim
  | (n, r) :: l, hx, h => ⟨isE m n, hx _ (List.mem_cons_self ..) m hm, fun hb a _ => (by
      show ∃ v, (σ1.set 1 (some (.str r)))[1]? = some (some v) ∧ Q v H'
      exact ⟨.str r, by rw [List.getElem?_set, if_pos rfl, if_pos h1], hQ r (h.1 hb)⟩), fun hb => wordC_run h1 hm hQ (fun q hq => hx q (List.mem_cons_of_mem _ hq)) (h.2 hb)⟩
theorem we_give {x a w told : Str} {hs : List (Str × Str)} {kn : List Str} {ea : Expr} {p : Pos} {bd : (PyData → Prop) → (Exc → Prop) → Prop} {Kt : PyData → Prop} (D : WordDef X.K X.mg x a w told hs kn) (ok : LamOk X l) (hr : Room (k + 2) X.A) (hw : WF X g ea env l)
    (hm : wordM bd told hs kn Kt) (hkt : ∀ d, Kt d → Φ d true) (h : ∀ (F : Hp) (K : PyData → Prop) (E : Exc → Prop), bd K E → WLam X { g with F0 := F } l env k (fun d _ => K d) E)
    (hg : Gl X x := by rfl) (hdb : (x == ("__debug__" : Str)) = false := by decide) (hst : starEach [ea] X.env = [(false, eval ea X.env)] := by rfl) :
    WE X g (.Call (.Name x p) [ea] [] pos) env Φ Ψ := fun W tk σ F H st hx Q hQ => by
  obtain ⟨⟨sd, gf, fd, FD, hmg, hb, Sg, hB, hgl, hwl⟩, ⟨n1, n2, n3, n4, naw⟩, hcl⟩ := D
  obtain ⟨oc, od, dV, kV, doc, pm, an, cdv, ct, osl, rfl, lk, hcd, _, _⟩ := FD.ex
  have ha : PA X [ea] (tCons (semE X ea) tNil) := pa_cons (peS ea) pa_nil hst
  refine ⟨fun pins s I => ?_⟩
  refine wpAny_Call_Name_kw (ld_glob I hg hmg ?_ hdb)
  refine PySem.W.callWith_K (h₀ := X.base) I.ok.mod.kin FD.kp (thn (ha.run pos pins s σ H (fun vs H1 => ∃ f c' F1, vs = [V.ref f] ∧ St X.K g F1 H1 σ env ∧ Ex F F1 ∧ F1 f = some (LamO f l c') ∧ F1 c' = some (CodeO c' l.q)) I (hw W tk σ F H st _ fun v F1 H1 s1 e1 il => ?_)) fun us s1 ⟨vs, H1, I1, r, q⟩ => ⟨I1.kIn, ?_⟩) hst rfl
  · obtain ⟨f, c', rfl, h2, h3⟩ := il
    exact ⟨f, c', F1, rfl, s1, e1, h2, h3⟩
  obtain ⟨f, c', F1, rfl, st1, e1, hf, hc⟩ := q
  cases r with
  | cons r1 r2 =>
  cases r2
  cases r1
  have key : ∀ bg : List Stmt, BodyW a w told hs bg → Room (k + 1) (X.A.deeper (envOfC x (defScope sd) s1.heap.objs.size gf cdv)) →
      ∃ t, PSs (cxOf C8.CX0 X.prog X.w X.K X.mg X.base [a, w] x (defScope sd) gf cdv X.A X.stack s1 H1 C8.E0) bg t ∧ t { nx := fun _ H' => Q .non H', rt := Q } (L2.start [a, w] [.ref f]) H1 := fun bg hB hr' => by
    cases hB with
    | mk hh =>
    have hN : (cxOf C8.CX0 X.prog X.w X.K X.mg X.base [a, w] x (defScope sd) gf cdv X.A X.stack s1 H1 C8.E0).N.Nodup := by
      show [a, w].Nodup
      simp [naw]
    have hva : Vis (defScope sd) a := (Sg.par a (List.mem_cons_self ..)).elim .inl fun z => .inr (.inl z)
    refine ⟨_, pss_cons (ps_set (i := 1) hN rfl (.inl hwl) pe_str rfl (.inr hwl)) (pss_cons (ps_try_many rfl rfl L2.takes0 (fun W' pn xe tk' po => pss_one (ps_expr (pe_callG (f := f) (c' := c') (i := 0) (W := W') I1 ok tk' hr' rfl hva n1 n2)))
      (hdw_ok (Q := Q) (w := w) hN rfl hwl hh fun q hq => ⟨(hgl q hq).1, (hgl q hq).2, .inl (hcl q hq).1⟩)) (pss_one (ps_ret (pe_var (i := 1) rfl (.inl hwl) n3 n4)))), ?_⟩
    refine ⟨fun cls d H' => wMany X.K (fun _ _ _ _ => False) (rdW Q) (hdW X.K Q hs) cls d [some (.ref f), some (.str told)] H', fun cls d H' z => z, rfl, st1.ex _ _ hf, st1.ex _ _ hc, fun A outer s2 hr2 => ?_⟩
    refine (h F1 _ _ hm).sem hr2 st1.at (fun n F2 H2 hn s2' => ?_) fun d z v F2 H2 hd s2' e2 _ => ⟨.str told, rfl, hQ (.str told) true _ F2 H2 (hkt _ hd) (st1.ofAt s2') (e1.trans e2) (.str _)⟩
    have hn : n ∈ kn ∧ wordC hs n (fun r => Kt (.str r)) := hn
    exact wordC_run (σ1 := [some (.ref f), some (.str told)]) (Nat.le_refl 2) hn.1 (fun r hr => hQ (.str r) true _ F2 H2 (hkt _ hr) (st1.ofAt s2') (e1.trans s2'.g3) (.str _)) (fun q hq => (hcl q hq).2) hn.2
  have rc : codeAny (model X.prog X.w) X.A (.call (.ref gf) ⟨[.ref f], []⟩) (CR C8.CX0 X.stack X.prog X.w H1 s1 Q C8.E0) s1 :=
    run_ofS (N := [a, w]) (ps := [a]) (us := [.ref f]) (vs := [.ref f]) lk hcd Sg hr I1.env0 (hb s1 [.ref f] I1.kIn rfl) (.cons rfl .nil) rfl (key _ hB)
  refine wpAny_call (codeAny_mono rc fun r s2 hq => ?_)
  cases r with
  | error e => exact (show False from hq).elim
  | ok fl =>
    cases fl with
    | ret u => exact I1.after hq
    | next => exact False.elim hq
    | brk => exact False.elim hq
    | cont => exact False.elim hq
end
end TL

/-! the head with tables of code objects: tf, the defs that make lambdas, with the lambdas' names -/
namespace TL
open PySem PySem.Spec PyProof.Rows L2 He LamX
abbrev LamD : Type := Defn × Str
def markObj (P : Addr) (q : Str) : Obj := { cls := .none, data := .fields #[.str "lam!" 0, .ref P, .str q 0] }
def markK (tf : List LamD) (K : Frag) : Frag := K ++ tf.map fun p => ((cT K p.1).1, markObj (cT K p.1).2 p.2)
def lamB (g : Addr → Option Obj) (tf : List LamD) (K : Frag) : Bool :=
  (tf.all fun p => PySem.W.codeHdIn K (cT K p.1).1 (cT K p.1).2 && (match g (cT K p.1).2 with
    | some o => emptyTab o
    | none => false)) && (decide (tabsK (markK tf K) = tf.map fun p => ((cT K p.1).2, p.2)) && decide ((tf.map fun p => (cT K p.1).2).Nodup))
abbrev AlL : Type := AlD × Bool
def obsL (ex : List XF) (fa : List Fa) (fn : List DefD) (tf : List LamD) (g : Addr → Option Obj) (K : Frag) : AlL := (obsX ex fa fn (markK tf K), lamB g tf K)
def obsLG (n : Nat) (ex : List XF) (fa : List Fa) (fn : List DefD) (tf : List LamD) (g : Addr → Option Obj) : AlL := obsL ex fa fn tf g (frT g (asD g n))
structure SaysL (ex : List XF) (fa : List Fa) (fn : List DefD) (tf : List LamD) (h : Heap) (K0 : Frag) : Prop where
  x : SaysX ex fa fn (markK tf K0)
  hd : ∀ p ∈ tf, PySem.W.codeHdIn K0 (cT K0 p.1).1 (cT K0 p.1).2 = true
  out : ∀ p ∈ tf, K0.lookup (cT K0 p.1).2 = none
  empty : ∀ p ∈ tf, h.get? (cT K0 p.1).2 = some { cls := .none, data := .fields #[] }
  tabs : tabsK (markK tf K0) = tf.map fun p => ((cT K0 p.1).2, p.2)
  nd : (tf.map fun p => (cT K0 p.1).2).Nodup
theorem saysL_of {n : Nat} {ex : List XF} {fa : List Fa} {fn : List DefD} {tf : List LamD} {h : Heap} (e : obsLG n ex fa fn tf h.get? = (valD fn, true)) : SaysL ex fa fn tf h (frT h.get? (asD h.get? n)) := by
  have e1 : obsX ex fa fn (markK tf (frT h.get? (asD h.get? n))) = valD fn := congrArg (fun z : AlL => z.1) e
  have e2 : lamB h.get? tf (frT h.get? (asD h.get? n)) = true := congrArg (fun z : AlL => z.2) e
  obtain ⟨h1, h2⟩ := ba e2
  obtain ⟨h3, h4⟩ := ba h2
  have key : ∀ p ∈ tf, PySem.W.codeHdIn (frT h.get? (asD h.get? n)) (cT (frT h.get? (asD h.get? n)) p.1).1 (cT (frT h.get? (asD h.get? n)) p.1).2 = true ∧ ∃ o, h.get? (cT (frT h.get? (asD h.get? n)) p.1).2 = some o ∧ emptyTab o = true := fun p hp => by
    obtain ⟨k1, k2⟩ := ba (List.all_eq_true.mp h1 p hp)
    refine ⟨k1, ?_⟩
    cases q : h.get? (cT (frT h.get? (asD h.get? n)) p.1).2 with
    | none => rw [q] at k2; cases k2
    | some o => rw [q] at k2; exact ⟨o, rfl, k2⟩
  exact ⟨e1, fun p hp => (key p hp).1, fun p hp => by
    obtain ⟨_, o, q, z⟩ := key p hp
    exact frT_none q z, fun p hp => by
    obtain ⟨_, o, q, z⟩ := key p hp
    rw [q, emptyTab_eq z], of_decide_eq_true h3, of_decide_eq_true h4⟩
def hookL (n : Nat) (ex : List XF) (fa : List Fa) (fn : List DefD) (tf : List LamD) : PySem.W.Hook where
  α := AlL
  obs := fun s => obsLG n ex fa fn tf s.heap.get?
  val := fun _ => (valD fn, true)
  says := fun _ h => ∃ K0 : Frag, K0.In h ∧ SaysL ex fa fn tf h K0
  of := fun _ _ e => ⟨_, frT_in, saysL_of e⟩
  keeps := fun _ _ _ ⟨K0, hK, c⟩ k => ⟨K0, PySem.W.Frag.In.keeps hK k, ⟨c.x, c.hd, c.out, fun p hp => k _ _ (c.empty p hp), c.tabs, c.nd⟩⟩
theorem obsLG_eq {n : Nat} {ex : List XF} {fa : List Fa} {fn : List DefD} {tf : List LamD} {g : Addr → Option Obj} {s : Shared} (h : ∀ a, g a = s.heap.get? a) : obsLG n ex fa fn tf g = (hookL n ex fa fn tf).obs s := by
  have e : g = s.heap.get? := funext h
  rw [e] <;> rfl
theorem lookup_app {a : Addr} : ∀ {K M : Frag}, (K ++ M).lookup a = match K.lookup a with | some o => some o | none => M.lookup a
  | [], _ => rfl
  | (b, o) :: r, M => by
    show (match a == b with | true => some o | false => (r ++ M).lookup a) = match (match a == b with | true => some o | false => r.lookup a) with | some o => some o | none => M.lookup a
    cases a == b with
    | true => rfl
    | false => exact lookup_app (K := r) (M := M)
theorem codeHd_some {K : Frag} {c P : Addr} (h : PySem.W.codeHdIn K c P = true) : ∃ o, K.lookup c = some o := by
  unfold PySem.W.codeHdIn at h
  cases q : K.lookup c with
  | none => rw [q] at h; cases h
  | some o => exact ⟨o, rfl⟩
section
variable {ex : List XF} {fa : List Fa} {fn : List DefD} {tf : List LamD} {h : Heap} {K0 : Frag}
theorem SaysL.marks (c : SaysL ex fa fn tf h K0) {a : Addr} {o : Obj} (e : (tf.map fun p => ((cT K0 p.1).1, markObj (cT K0 p.1).2 p.2)).lookup a = some o) : ∃ o, K0.lookup a = some o := by
  obtain ⟨p, hp, ep⟩ := List.mem_map.mp (He.lookup_mem e)
  have e1 : (cT K0 p.1).1 = a := congrArg Prod.fst ep
  rw [← e1]
  exact codeHd_some (c.hd p hp)
theorem SaysL.look (c : SaysL ex fa fn tf h K0) (a : Addr) : (markK tf K0).lookup a = K0.lookup a := by
  unfold markK
  rw [lookup_app]
  cases q : K0.lookup a with
  | some o => rfl
  | none =>
    cases z : (tf.map fun p => ((cT K0 p.1).1, markObj (cT K0 p.1).2 p.2)).lookup a with
    | none => rfl
    | some o =>
      obtain ⟨o', e⟩ := c.marks z
      rw [q] at e; cases e
theorem SaysL.kin (c : SaysL ex fa fn tf h K0) (k : K0.In h) : (markK tf K0).In h := fun a o e => k a o (by rw [← c.look a]; exact e)
end
/-- what the maker of lambdas knows of its code object and its table -/
structure LTab (K : Frag) (mg : Str → Option Value) (base : Heap) (fd : FuncData) (q : Str) : Prop where
  ex : ∃ c P, fd.code = .ref c ∧ TabB base mg c P ∧ (P, q) ∈ tabsK K ∧ ∀ p ∈ tabsK K, p.1 = P → p.2 = q
theorem lhas_of {P : Program} {w : World} {K : Frag} {mg : Str → Option Value} {base : Heap} {N : List Str} {x : Str} {sc : Scope} {f : Addr} {fd : FuncData} {cdv : Value} {A : Around} {outer : List Env} {s : Shared} {H : Hp} {E : XK} {q : Str} (lt : LTab K mg base fd q) (hc : fd.code = cdv)
    (hq : (cxOf (L2.CX P w) P w K mg base N x sc f cdv A outer s H E).env.qual ++ "<lambda>" = q := by rfl) : ∃ c T, LHas (cxOf (L2.CX P w) P w K mg base N x sc f cdv A outer s H E) c T := by
  obtain ⟨c, T, h1, h2, h3, h4⟩ := lt.ex
  subst hq
  exact ⟨c, T, h2, hc.symm.trans h1, h3, h4⟩
section
variable {ex : List XF} {fa : List Fa} {fn : List DefD} {tf : List LamD} {h base : Heap} {K0 : Frag} {mg : Str → Option Value}
/-- the code objects and tables of the defs that make lambdas -/
def csOf (tf : List LamD) (K0 : Frag) : List (Addr × Addr) := tf.map fun p => cT K0 p.1
theorem SaysL.ltab (c : SaysL ex fa fn tf h K0) (hB : ∀ p ∈ csOf tf K0, TabB base mg p.1 p.2) {d : DefD} {q : Str} (hp : (d.at_, q) ∈ tf) {params : Arguments} {body : List Stmt} {scope : Scope} {x qual : Str} {fd : FuncData} (F : FunD (markK tf K0) x qual params body scope [] [] (He.fAd (markK tf K0) d.at_) fd)
    (hf : He.fAd (markK tf K0) d.at_ = He.fAd K0 d.at_) : LTab (markK tf K0) mg base fd q := by
  obtain ⟨oc, od, dV, kV, doc, pm, an, cdv, ct, osl, rfl, lk, hcd, _, _⟩ := F.ex
  obtain ⟨c1, hc1⟩ := codeIn_ref hcd
  subst hc1
  rw [hf, c.look] at lk
  have e : (cT K0 d.at_).1 = c1 := codeOf_eq lk rfl
  refine ⟨c1, (cT K0 d.at_).2, rfl, ?_, ?_, fun p hm e2 => ?_⟩
  · rw [← e]; exact hB _ (List.mem_map.mpr ⟨_, hp, rfl⟩)
  · rw [c.tabs]; exact List.mem_map.mpr ⟨_, hp, rfl⟩
  · rw [c.tabs] at hm
    obtain ⟨r, hr, er⟩ := List.mem_map.mp hm
    have e3 : (cT K0 r.1).2 = (cT K0 d.at_).2 := (congrArg Prod.fst er).trans e2
    have key : ∀ {l : List LamD}, (l.map fun p => (cT K0 p.1).2).Nodup → ∀ a ∈ l, ∀ b ∈ l, (cT K0 a.1).2 = (cT K0 b.1).2 → a = b := by
      intro l
      induction l with
      | nil => intro _ a ha; cases ha
      | cons y l ih =>
        intro nd a ha b hb eab
        obtain ⟨n1, n2⟩ := List.nodup_cons.mp nd
        rcases List.mem_cons.mp ha with rfl | ha2
        · rcases List.mem_cons.mp hb with rfl | hb
          · rfl
          · exact (n1 (List.mem_map.mpr ⟨b, hb, eab.symm⟩)).elim
        · rcases List.mem_cons.mp hb with rfl | hb
          · exact (n1 (List.mem_map.mpr ⟨a, ha2, eab⟩)).elim
          · exact ih n2 a ha2 b hb eab
    have e4 := key c.nd r hr _ hp e3
    rw [← er, e4]
end
/-- the end, with tables -/
theorem walk_xT {l : PySem.W.OpenLaw} {m j : Nat} {q : Program} {lo : List Str} {XP : (Str → Option Value) → Heap → Prop} {YP : World → Heap → Prop} {d : DefRec} {x : Str} (h1 : l.most = some m) (h2 : m ≤ sizeLine) (h3 : d.params.defaults = []) (h4 : Room j callerA)
    (h : ∀ (u : World) (mg : Str → Option Value) (a : Addr) (hp : Heap), YP u hp → hp.Ns mainGlobals mg → mg d.name = some (.ref a) → ∃ K : Frag, K.In hp ∧ LawAtS l u K (L2.CX l.prog u) j m x mg a hp) :
    PySem.W.WalkO q lo XP YP l.row.toRowW d [] (fun f vs => PySem.call f vs) :=
  walk_ofTsE h1 h2 h3 h4 h fun w H s e s' z => by
    obtain ⟨_, _, _, _, _, _, _, _, _, _, _, _, z⟩ := z
    exact z
theorem lawAt {l : PySem.W.OpenLaw} {u : World} {j : Nat} {x : Str} {mg : Str → Option Value} {a : Addr} {hp : Heap} {ex : List XF} {fa : List Fa} {fn : List DefD} {tf : List LamD} {K0 : Frag} (c : SaysL ex fa fn tf hp K0) (k : K0.In hp)
    (h : ∃ fd : FuncData, (∀ (s : Shared) (y : Value), BindsTo s fd ⟨[y], []⟩ [(x, y)]) ∧ ∀ base : Heap, (markK tf K0).In base → base.Ns mainGlobals mg → (∀ p ∈ csOf tf K0, TabB base mg p.1 p.2) → FnOk l.prog u (markK tf K0) mg base (L2.CX l.prog u) j a fd [x] (spOf (markK tf K0) 1 cLaw)) :
    LawAtS l u (markK tf K0) (L2.CX l.prog u) j 63 x mg a hp := by
  obtain ⟨fd, hb, hF⟩ := h
  have mem : ∀ p ∈ csOf tf K0, ∃ r ∈ tf, cT K0 r.1 = p := fun p hp => by
    obtain ⟨r, hr, e⟩ := List.mem_map.mp hp
    exact ⟨r, hr, e⟩
  refine ⟨fd, csOf tf K0, _, fun p hp => ?_, fun p hp => ?_, fun p hp => ?_, hb, fun H b ns hl _ hT hS => law_sp hl (fun p hp => ?_) hS, hF⟩
  · obtain ⟨r, hr, rfl⟩ := mem p hp; exact c.empty r hr
  · obtain ⟨r, hr, rfl⟩ := mem p hp; rw [c.look]; exact c.out r hr
  · obtain ⟨r, hr, rfl⟩ := mem p hp; exact PySem.W.codeHd_of_K k (c.hd r hr)
  · rw [c.tabs] at hp
    obtain ⟨r, hr, rfl⟩ := List.mem_map.mp hp
    exact hT _ (List.mem_map.mpr ⟨r, hr, rfl⟩)
end TL

namespace TL
open PySem PySem.Spec PyProof.Rows L2 LamX
theorem fad_look {K K0 : Frag} (h : ∀ a, K.lookup a = K0.lookup a) (x : Str) : He.fAd K (x, none) = He.fAd K0 (x, none) := by
  show He.ga K x = He.ga K0 x
  have e : PySem.W.nsIn K mainGlobals x = PySem.W.nsIn K0 mainGlobals x := by
    unfold PySem.W.nsIn
    rw [h]
  unfold He.ga
  rw [e]
theorem lt_of {ex : List XF} {fa : List He.Fa} {fn : List He.DefD} {tf : List LamD} {h base : Heap} {K0 K : Frag} {mg : Str → Option Value} (c : SaysL ex fa fn tf h K0) (hK : K = markK tf K0) (hB : ∀ p ∈ csOf tf K0, TabB base mg p.1 p.2) {d : He.DefD} {q : Str} (hp : (d.at_, q) ∈ tf) {params : Arguments} {body : List Stmt} {scope : Scope} {x qual : Str} {fd : FuncData} {f : Addr} (F : FunD K x qual params body scope [] [] f fd)
    (hf : f = He.fAd K d.at_) (hd : d.at_.2 = none := by rfl) : LTab K mg base fd q := by
  subst hK
  subst hf
  refine c.ltab hB hp F ?_
  have e : d.at_ = (d.at_.1, none) := by rw [← hd]
  rw [e]
  exact fad_look c.look _
theorem ws_lh {Pr : Program} {w : World} {K : Frag} {mg : Str → Option Value} {base : Heap} {N : List Str} {x : Str} {sc : Scope} {f : Addr} {fd : FuncData} {cdv : Value} {A : Around} {outer : List Env} {s : Shared} {H : Hp} {E : XK} {q : Str} {g : G} {sts : List Stmt} {env : List Sl} {P : Po} (lt : LTab K mg base fd q) (hc : fd.code = cdv)
    (h : ∀ c T, LHas (cxOf (L2.CX Pr w) Pr w K mg base N x sc f cdv A outer s H E) c T → WS (cxOf (L2.CX Pr w) Pr w K mg base N x sc f cdv A outer s H E) g sts env P)
    (hq : (cxOf (L2.CX Pr w) Pr w K mg base N x sc f cdv A outer s H E).env.qual ++ "<lambda>" = q := by rfl) : WS (cxOf (L2.CX Pr w) Pr w K mg base N x sc f cdv A outer s H E) g sts env P := by
  obtain ⟨c, T, lh⟩ := lhas_of lt hc hq
  exact h c T lh
abbrev mkLam (X : Cx) (ps : Arguments) (bd : Expr) (sc : Scope) : Lam := ⟨X.env.qual ++ "<lambda>", ps, bd, sc, cloFrom X.env.cells sc.names []⟩
section
variable {X : Cx} {g : G} {env : List Sl} {Ψ : Exc → Prop} {Φ : PyData → Bool → Prop} {P : Po} {pos lp apos : Pos} {k : Nat} {ps : Arguments} {bd : Expr} {sc : Scope} {c T : Addr} {es : List Expr} {a : Expr}
theorem lamOk_by (h1 : lamSB X.env.scope sc = true := by rfl) (h2 : defaultsOf ps X.env = ([], []) := by rfl) (h3 : ∀ (q : Str) (cl : List (Str × Addr)) (pm cv ct : Value), bindArgs (PySem.W.kla_fn "<lambda>" q ps bd sc cl pm cv ct) ⟨[], []⟩ = pure [] := by (intro _ _ _ _ _; rfl)) : LamOk X (mkLam X ps bd sc) :=
  ⟨rfl, rfl, lamS_by h1, h2, fun pm cv ct => h3 _ _ pm cv ct⟩
theorem we_giveL {x a w told : Str} {hs : List (Str × Str)} {kn : List Str} {p : Pos} {b : (PyData → Prop) → (Exc → Prop) → Prop} {Kt : PyData → Prop} (D : WordDef X.K X.mg x a w told hs kn) (hr : Room (k + 2) X.A) (L : LHas X c T)
    (hm : wordM b told hs kn Kt) (h : ∀ (F : Hp) (K : PyData → Prop) (E : Exc → Prop), b K E → WLam X { g with F0 := F } (mkLam X ps bd sc) env k (fun d _ => K d) E) (hkt : ∀ d, Kt d → Φ d true) (ok : LamOk X (mkLam X ps bd sc) := by exact lamOk_by)
    (hg : Gl X x := by rfl) (hdb : (x == ("__debug__" : Str)) = false := by decide) (hst : starEach [.Lambda ps bd sc lp] X.env = [(false, eval (.Lambda ps bd sc lp) X.env)] := by rfl) :
    WE X g (.Call (.Name x p) [.Lambda ps bd sc lp] [] pos) env Φ Ψ := we_give D ok hr (wf_lam L ok) hm hkt h hg hdb hst
/-- g(y), y a lambda of this def -/
theorem wf_name (i : Nat) {l : Lam} {y : Str} {p : Pos} (he : env[i]? = some (.fv l)) (hN : X.N[i]? = some y := by rfl)
    (hv : Vis X.env.scope y := by first | exact Or.inl rfl | exact Or.inr (Or.inl rfl) | exact Or.inr (Or.inr rfl)) (hd : (y == ("__debug__" : Str)) = false := by decide)
    (hcd : (y == ("__classdict__" : Str)) = false := by decide) : WF X g (.Name y p) env l := fun W tk σ F H st Q hQ => by
  obtain ⟨v, hs, il⟩ := st.sl i _ he
  exact semE_of (pe_var hN hv hd hcd) ⟨v, getD_some hs, hQ v F H st (Ex.refl F) il⟩
theorem we_giveN (i : Nat) {x a w told y : Str} {hs : List (Str × Str)} {kn : List Str} {p p2 : Pos} {b : (PyData → Prop) → (Exc → Prop) → Prop} {Kt : PyData → Prop} (D : WordDef X.K X.mg x a w told hs kn) (hr : Room (k + 2) X.A)
    (hm : wordM b told hs kn Kt) (h : ∀ (F : Hp) (K : PyData → Prop) (E : Exc → Prop), b K E → WLam X { g with F0 := F } (mkLam X ps bd sc) env k (fun d _ => K d) E) (hkt : ∀ d, Kt d → Φ d true) (he : env[i]? = some (.fv (mkLam X ps bd sc)) := by rfl) (ok : LamOk X (mkLam X ps bd sc) := by exact lamOk_by)
    (hN : X.N[i]? = some y := by rfl) (hv : Vis X.env.scope y := by first | exact Or.inl rfl | exact Or.inr (Or.inl rfl) | exact Or.inr (Or.inr rfl)) (hd : (y == ("__debug__" : Str)) = false := by decide)
    (hcd : (y == ("__classdict__" : Str)) = false := by decide)
    (hg : Gl X x := by rfl) (hdb : (x == ("__debug__" : Str)) = false := by decide) (hst : starEach [.Name y p2] X.env = [(false, eval (.Name y p2) X.env)] := by rfl) :
    WE X g (.Call (.Name x p) [.Name y p2] [] pos) env Φ Ψ := we_give D ok hr (wf_name i he hN hv hd hcd) hm hkt h hg hdb hst
/-- a row of lambdas -/
inductive LmEs (X : Cx) : List Expr → List Lam → Prop
  | nil : LmEs X [] []
  | cons {ps : Arguments} {bd : Expr} {sc : Scope} {pos : Pos} {es : List Expr} {ls : List Lam} (ok : LamOk X (mkLam X ps bd sc)) (t : LmEs X es ls) : LmEs X (.Lambda ps bd sc pos :: es) (mkLam X ps bd sc :: ls)
theorem lmes_run (L : LHas X c T) : ∀ {es : List Expr} {ls : List Lam}, LmEs X es ls → ∀ (W : WX), Takes X W → ∀ (σ : SS) (F H : Hp), St X.K g F H σ env →
    ∀ Q : List V → Hp → Prop, (∀ vs F' H', St X.K g F' H' σ env → Ex F F' → LamsAre F' vs ls → Q vs H') → semA X es σ H Q
  | _, _, .nil, W, tk, σ, F, H, st, Q, hQ => semA_of pa_nil (hQ [] F H st (Ex.refl F) trivial)
  | _, _, .cons (ps := ps) (bd := bd) (sc := sc) ok t, W, tk, σ, F, H, st, Q, hQ => by
    refine semA_of (pa_cons (peS _) (paS _) rfl) ?_
    refine wf_lam (l := mkLam X ps bd sc) L ok W tk σ F H st _ fun v F1 H1 s1 e1 il => ?_
    exact lmes_run L t W tk σ F1 H1 s1 _ fun vs F2 H2 s2 e2 is => hQ (v :: vs) F2 H2 s2 (e1.trans e2) ⟨il.mono e2, is⟩
theorem w1_setFl (i : Nat) {x : Str} {pos' : Pos} {ls : List Lam} (hN : X.N.Nodup) (L : LHas X c T) (hl : LmEs X es ls) (h : P.nx (env.set i (.fl ls))) (hz : es.length ≤ sizeLine := by exact szOk rfl) (hi : X.N[i]? = some x := by rfl) (hx : Loc X.env.scope x := by first | exact Or.inl rfl | exact Or.inr rfl) (hlt : Nat.blt i env.length = true := by rfl)
    (hs : swapsWith (.List es lp) (some (.Name x pos')) pos.line X.env = pure false := by rfl) (hf : X.fn x = true ∨ X.env.scope.names.lookup x = some .local := by first | exact .inl rfl | exact .inr rfl) : W1 X g (.Assign [.Name x pos'] (.List es lp) pos) env P := fun W tk hx2 σ F H s0 D hD => by
  have lenL : ∀ {es : List Expr} {ls : List Lam}, LmEs X es ls → es.length = ls.length := by
    intro es ls h
    induction h with
    | nil => rfl
    | cons _ _ ih => exact congrArg Nat.succ ih
  have lenV : ∀ {F : Hp} {vs : List V} {ls : List Lam}, LamsAre F vs ls → vs.length = ls.length := by
    intro F vs
    induction vs with
    | nil => intro ls h; cases ls with
      | nil => rfl
      | cons _ _ => exact h.elim
    | cons v vs ih => intro ls h; cases ls with
      | nil => exact h.elim
      | cons _ _ => exact congrArg Nat.succ (ih h.2)
  refine semP_of (ps_set hN hi hx (pe_lst (paS es)) hs hf) ?_
  refine lmes_run L hl W tk σ F H s0 _ fun vs F1 H1 s1 e1 is => ?_
  refine ⟨by rw [lenV is, ← lenL hl]; exact hz, fun p hn => ?_⟩
  have e2 := Ex.new (o := .lst vs) (s1.ex.none hn)
  have s2 := s1.allocF (o := .lst vs) hn
  exact hD.nx _ _ _ _ h (s2.set (s := .fl ls) (v := .ref p) (ltB hlt) ⟨p, vs, rfl, upd_same, is.mono e2⟩ (fun _ h => by cases h) (fun _ h => by cases h) (fun _ h => by cases h)) (e1.trans e2)
/-- y = x[e], x a row of lambdas -/
def lamIx (n : Nat) : PyData → (Nat → Prop) → Prop
  | .int i, K => match ixN n i with
    | some j => K j
    | none => False
  | _, _ => False
theorem lamIx_ob {n : Nat} {d : PyData} {R : Nat → Prop} (h : lamIx n d R) : ∃ i m, d = .int i ∧ ixN n i = some m ∧ R m := by
  unfold lamIx at h
  split at h
  · split at h
    · rename_i e; exact ⟨_, _, rfl, e, h⟩
    · exact h.elim
  · exact h.elim
theorem lamIx_m {n : Nat} {d : PyData} {R R' : Nat → Prop} (h : lamIx n d R) (k : ∀ j, R j → R' j) : lamIx n d R' := by
  obtain ⟨i, m, rfl, e, hr⟩ := lamIx_ob h
  unfold lamIx
  dsimp only
  rw [e]
  exact k m hr
theorem ixN_lt {n : Nat} {i : Int} {m : Nat} (e : ixN n i = some m) : m < n := by
  unfold ixN at e
  split at e
  · split at e
    · cases e; omega
    · cases e
  · split at e
    · cases e; omega
    · cases e
theorem lamsAre_get {F : Hp} : ∀ {vs : List V} {ls : List Lam} {j : Nat} {l : Lam}, LamsAre F vs ls → ls[j]? = some l → ∃ v, vs[j]? = some v ∧ IsLam F v l
  | [], [], _, _, _, h => by simp at h
  | v :: vs, l :: ls, 0, _, ⟨h1, _⟩, h => by
    have e := Option.some.inj h
    subst e
    exact ⟨v, rfl, h1⟩
  | v :: vs, l :: ls, j + 1, _, ⟨_, h2⟩, h => lamsAre_get (j := j) h2 h
  | [], _ :: _, _, _, h, _ => h.elim
  | _ :: _, [], _, _, h, _ => h.elim
theorem lamsAre_len {F : Hp} : ∀ {vs : List V} {ls : List Lam}, LamsAre F vs ls → vs.length = ls.length
  | [], [], _ => rfl
  | v :: vs, l :: ls, ⟨_, h2⟩ => congrArg Nat.succ (lamsAre_len h2)
  | [], _ :: _, h => h.elim
  | _ :: _, [], h => h.elim
theorem w1_setFx (i j : Nat) {x y : Str} {pos' q : Pos} {ls : List Lam} {R : Nat → Prop} (hN : X.N.Nodup) (h : WE X g a env (fun d _ => lamIx ls.length d R) (fun c => P.ex c env)) (hR : ∀ n l, ls[n]? = some l → R n → P.nx (env.set j (.fv l)))
    (he : env[i]? = some (.fl ls) := by rfl) (hi : X.N[i]? = some x := by rfl) (hv : Vis X.env.scope x := by first | exact Or.inl rfl | exact Or.inr (Or.inl rfl) | exact Or.inr (Or.inr rfl)) (hd : (x == ("__debug__" : Str)) = false := by decide)
    (hcd : (x == ("__classdict__" : Str)) = false := by decide) (hpl : PlainIx a := by exact fun _ _ => rfl)
    (hj : X.N[j]? = some y := by rfl) (hx : Loc X.env.scope y := by first | exact Or.inl rfl | exact Or.inr rfl) (hlt : Nat.blt j env.length = true := by rfl)
    (hs : swapsWith (.Subscript (.Name x q) a apos) (some (.Name y pos')) pos.line X.env = pure false := by rfl) (hf : X.fn y = true ∨ X.env.scope.names.lookup y = some .local := by first | exact .inl rfl | exact .inr rfl) : W1 X g (.Assign [.Name y pos'] (.Subscript (.Name x q) a apos) pos) env P := fun W tk hx2 σ F H s0 D hD => by
  refine semP_of (ps_set hN hj hx (pe_ix ix_list (pe_var hi hv hd hcd) (peS a) hpl) hs hf) ?_
  obtain ⟨al, vs, h1, h2, h3⟩ := s0.sl i _ he
  refine ⟨_, getD_some h1, ?_⟩
  refine h W tk σ F H s0 (hx2.hx env σ) _ fun d z v F1 H1 hr s1 e1 r1 => ?_
  have hr : lamIx ls.length d R := hr
  obtain ⟨n, m, rfl, em, hr⟩ := lamIx_ob hr
  have hm : m < ls.length := ixN_lt em
  obtain ⟨u, hu, il⟩ := lamsAre_get h3 (List.getElem?_eq_getElem hm)
  refine ⟨al, vs, n, u, rfl, rd_int r1, SqL.of (s1.ex _ _ (e1 _ _ h2)), ?_, ?_⟩
  · unfold atI
    rw [lamsAre_len h3, em]
    exact hu
  · exact hD.nx _ _ F1 H1 (hR m _ (List.getElem?_eq_getElem hm) hr) (s1.set (s := .fv _) (v := u) (ltB hlt) ⟨u, rfl, il.mono e1⟩ (fun _ h => by cases h) (fun _ h => by cases h) (fun _ h => by cases h)) e1
def lamP (d : PyData) (Rs : List Prop) : Prop := lamIx Rs.length d fun n => Rs[n]?.getD False
inductive LmAll (N : Lam → Prop) : List Lam → List Prop → Prop
  | nil : LmAll N [] []
  | cons {l : Lam} {R : Prop} {ls : List Lam} {Rs : List Prop} (h : R → N l) (t : LmAll N ls Rs) : LmAll N (l :: ls) (R :: Rs)
theorem LmAll.len {N : Lam → Prop} : ∀ {ls : List Lam} {Rs : List Prop}, LmAll N ls Rs → ls.length = Rs.length
  | _, _, .nil => rfl
  | _, _, .cons _ t => congrArg Nat.succ t.len
theorem LmAll.get {N : Lam → Prop} : ∀ {ls : List Lam} {Rs : List Prop} {n : Nat} {l : Lam}, LmAll N ls Rs → ls[n]? = some l → Rs[n]?.getD False → N l
  | _, _, 0, _, .cons h _, e, r => by
    have e := Option.some.inj e
    subst e
    exact h r
  | _, _, n + 1, _, .cons _ t, e, r => t.get (n := n) e r
  | _, _, _, _, .nil, e, _ => by simp at e
theorem w1_setFxP (i j : Nat) {x y : Str} {pos' q : Pos} {ls : List Lam} {Rs : List Prop} (hN : X.N.Nodup) (h : WE X g a env (fun d _ => lamP d Rs) (fun c => P.ex c env)) (hR : LmAll (fun l => P.nx (env.set j (.fv l))) ls Rs)
    (he : env[i]? = some (.fl ls) := by rfl) (hi : X.N[i]? = some x := by rfl) (hv : Vis X.env.scope x := by first | exact Or.inl rfl | exact Or.inr (Or.inl rfl) | exact Or.inr (Or.inr rfl)) (hd : (x == ("__debug__" : Str)) = false := by decide)
    (hcd : (x == ("__classdict__" : Str)) = false := by decide) (hpl : PlainIx a := by exact fun _ _ => rfl)
    (hj : X.N[j]? = some y := by rfl) (hx : Loc X.env.scope y := by first | exact Or.inl rfl | exact Or.inr rfl) (hlt : Nat.blt j env.length = true := by rfl)
    (hs : swapsWith (.Subscript (.Name x q) a apos) (some (.Name y pos')) pos.line X.env = pure false := by rfl) (hf : X.fn y = true ∨ X.env.scope.names.lookup y = some .local := by first | exact .inl rfl | exact .inr rfl) : W1 X g (.Assign [.Name y pos'] (.Subscript (.Name x q) a apos) pos) env P :=
  w1_setFx i j (R := fun n => Rs[n]?.getD False) hN (h.mono fun d z h => by
    have h : lamIx Rs.length d (fun n => Rs[n]?.getD False) := h
    rw [hR.len]; exact h) (fun n l e r => hR.get e r) he hi hv hd hcd hpl hj hx hlt hs hf
theorem we_callL (i : Nat) {y : Str} {p1 p2 : Pos} (hr : Room (k + 1) X.A) (h : WLam X g (mkLam X ps bd sc) env k Φ Ψ) (he : env[i]? = some (.fv (mkLam X ps bd sc)) := by rfl) (ok : LamOk X (mkLam X ps bd sc) := by exact lamOk_by) (hN : X.N[i]? = some y := by rfl)
    (hv : Vis X.env.scope y := by first | exact Or.inl rfl | exact Or.inr (Or.inl rfl) | exact Or.inr (Or.inr rfl)) (hd : (y == ("__debug__" : Str)) = false := by decide)
    (hcd : (y == ("__classdict__" : Str)) = false := by decide) : WE X g (.Call (.Name y p1) [] [] p2) env Φ Ψ := we_callF i he ok hr h hN hv hd hcd
/-- try, its body may change some slots ahead of what is raised -/
theorem w1_tryW {υ : Type} (mk : υ → List Sl) {h₀ : ExceptHandler} {hds : List ExceptHandler} {body : List Stmt} {l : List (Str × List Stmt)} {b : (Exc → Prop) → Prop} {kn : List Str} {hs : List (Str × Prop)} {E : Exc → Prop} (hm : tryM b kn hs E) (hr : HdR X (h₀ :: hds) l)
    (hH : ∀ u m, m ∈ kn → hdC hs m (E (.own m)) → TryH X g P l (.own m) (mk u))
    (hb : b (hdM kn hs E) → ∀ (pn : List (Addr × Obj)) (xe : Value → Shared → Prop) (F : Hp), PassesOwn (model X.prog X.w) X.A X.env xe → WS (X.tr pn xe) { g with F0 := F } body env (P.exn fun c e => hdM kn hs E c ∧ ∃ u, e = mk u))
    (hst : X.stack = X.env :: X.outer := by rfl) (hf : X.env.frame = some X.env.locals := by rfl) : W1 X g (.Try body (h₀ :: hds) [] [] pos) env P := by
  refine w1_try hr (fun pn xe F hp => ?_) hst hf
  refine (hb hm pn xe F hp).mono (fun _ q => q) (fun _ _ q => q) (fun _ q => q) (fun _ q => q) fun c e ⟨h1, u, h2⟩ => ?_
  subst h2
  cases c with
  | own m => exact hH u m h1.1 h1.2
/-! the same, by names -/
theorem w1_lams (i : Nat) {x : Str} {pos' : Pos} {ls : List Lam} (hN : X.N.Nodup) (L : LHas X c T) (hl : LmEs X es ls) (h : ∀ ls', ls' = ls → P.nx (env.set i (.fl ls'))) (hz : es.length ≤ sizeLine := by exact szOk rfl) (hi : X.N[i]? = some x := by rfl) (hx : Loc X.env.scope x := by first | exact Or.inl rfl | exact Or.inr rfl) (hlt : Nat.blt i env.length = true := by rfl)
    (hs : swapsWith (.List es lp) (some (.Name x pos')) pos.line X.env = pure false := by rfl) (hf : X.fn x = true ∨ X.env.scope.names.lookup x = some .local := by first | exact .inl rfl | exact .inr rfl) : W1 X g (.Assign [.Name x pos'] (.List es lp) pos) env P := w1_setFl i hN L hl (h ls rfl) hz hi hx hlt hs hf
theorem w1_lamAt (i j : Nat) {x y : Str} {pos' q : Pos} {ls ls' : List Lam} {Rs : List Prop} (hls : ls' = ls) (hN : X.N.Nodup) (h : WE X g a env (fun d _ => lamP d Rs) (fun c => P.ex c env)) (hR : LmAll (fun l => ∀ l', l' = l → P.nx (env.set j (.fv l'))) ls Rs)
    (he : env[i]? = some (.fl ls') := by rfl) (hi : X.N[i]? = some x := by rfl) (hv : Vis X.env.scope x := by first | exact Or.inl rfl | exact Or.inr (Or.inl rfl) | exact Or.inr (Or.inr rfl)) (hd : (x == ("__debug__" : Str)) = false := by decide)
    (hcd : (x == ("__classdict__" : Str)) = false := by decide) (hpl : PlainIx a := by exact fun _ _ => rfl)
    (hj : X.N[j]? = some y := by rfl) (hx : Loc X.env.scope y := by first | exact Or.inl rfl | exact Or.inr rfl) (hlt : Nat.blt j env.length = true := by rfl)
    (hs : swapsWith (.Subscript (.Name x q) a apos) (some (.Name y pos')) pos.line X.env = pure false := by rfl) (hf : X.fn y = true ∨ X.env.scope.names.lookup y = some .local := by first | exact .inl rfl | exact .inr rfl) : W1 X g (.Assign [.Name y pos'] (.Subscript (.Name x q) a apos) pos) env P := by
  subst hls
  have mo : ∀ {N N' : Lam → Prop} (_ : ∀ l, N l → N' l) {ls : List Lam} {Rs : List Prop}, LmAll N ls Rs → LmAll N' ls Rs := by
    intro N N' k ls Rs t
    induction t with
    | nil => exact .nil
    | cons h _ ih => exact .cons (fun r => k _ (h r)) ih
  exact w1_setFxP i j hN h (mo (fun l z => z l rfl) hR) he hi hv hd hcd hpl hj hx hlt hs hf
theorem w1_lamAtN (i j m : Nat) {x y z : Str} {pos' q qz : Pos} {ls ls' : List Lam} {Rs : List Prop} {d : PyData} (hd0 : lamP d Rs) (hls : ls' = ls) (hN : X.N.Nodup) (hR : LmAll (fun l => ∀ l', l' = l → P.nx (env.set j (.fv l'))) ls Rs) (hm : env[m]? = some (.d d) := by rfl) (hzN : X.N[m]? = some z := by rfl)
    (hzv : Vis X.env.scope z := by first | exact Or.inl rfl | exact Or.inr (Or.inl rfl) | exact Or.inr (Or.inr rfl)) (hzd : (z == ("__debug__" : Str)) = false := by decide) (hzc : (z == ("__classdict__" : Str)) = false := by decide)
    (he : env[i]? = some (.fl ls') := by rfl) (hi : X.N[i]? = some x := by rfl) (hv : Vis X.env.scope x := by first | exact Or.inl rfl | exact Or.inr (Or.inl rfl) | exact Or.inr (Or.inr rfl)) (hd : (x == ("__debug__" : Str)) = false := by decide)
    (hcd : (x == ("__classdict__" : Str)) = false := by decide) (hpl : PlainIx (.Name z qz) := by exact fun _ _ => rfl)
    (hj : X.N[j]? = some y := by rfl) (hx : Loc X.env.scope y := by first | exact Or.inl rfl | exact Or.inr rfl) (hlt : Nat.blt j env.length = true := by rfl)
    (hs : swapsWith (.Subscript (.Name x q) (.Name z qz) apos) (some (.Name y pos')) pos.line X.env = pure false := by rfl) (hf : X.fn y = true ∨ X.env.scope.names.lookup y = some .local := by first | exact .inl rfl | exact .inr rfl) : W1 X g (.Assign [.Name y pos'] (.Subscript (.Name x q) (.Name z qz) apos) pos) env P :=
  w1_lamAt i j hls hN (we_n m hd0 hm hzN hzv hzd hzc) hR he hi hv hd hcd hpl hj hx hlt hs hf
theorem we_callN (i : Nat) {l : Lam} {y : Str} {p1 p2 : Pos} (hl : l = mkLam X ps bd sc) (hr : Room (k + 1) X.A) (h : WLam X g (mkLam X ps bd sc) env k Φ Ψ) (he : env[i]? = some (.fv l) := by rfl) (ok : LamOk X (mkLam X ps bd sc) := by exact lamOk_by) (hN : X.N[i]? = some y := by rfl)
    (hv : Vis X.env.scope y := by first | exact Or.inl rfl | exact Or.inr (Or.inl rfl) | exact Or.inr (Or.inr rfl)) (hd : (y == ("__debug__" : Str)) = false := by decide)
    (hcd : (y == ("__classdict__" : Str)) = false := by decide) : WE X g (.Call (.Name y p1) [] [] p2) env Φ Ψ := we_callF i (he.trans (by rw [hl])) ok hr h hN hv hd hcd
theorem we_giveV (i : Nat) {l : Lam} {x a w told y : Str} {hs : List (Str × Str)} {kn : List Str} {p p2 : Pos} {b : (PyData → Prop) → (Exc → Prop) → Prop} {Kt : PyData → Prop} (D : WordDef X.K X.mg x a w told hs kn) (hl : l = mkLam X ps bd sc) (hr : Room (k + 2) X.A)
    (hm : wordM b told hs kn Kt) (h : ∀ (F : Hp) (K : PyData → Prop) (E : Exc → Prop), b K E → WLam X { g with F0 := F } (mkLam X ps bd sc) env k (fun d _ => K d) E) (hkt : ∀ d, Kt d → Φ d true) (he : env[i]? = some (.fv l) := by rfl) (ok : LamOk X (mkLam X ps bd sc) := by exact lamOk_by)
    (hN : X.N[i]? = some y := by rfl) (hv : Vis X.env.scope y := by first | exact Or.inl rfl | exact Or.inr (Or.inl rfl) | exact Or.inr (Or.inr rfl)) (hd : (y == ("__debug__" : Str)) = false := by decide)
    (hcd : (y == ("__classdict__" : Str)) = false := by decide)
    (hg : Gl X x := by rfl) (hdb : (x == ("__debug__" : Str)) = false := by decide) (hst : starEach [.Name y p2] X.env = [(false, eval (.Name y p2) X.env)] := by rfl) :
    WE X g (.Call (.Name x p) [.Name y p2] [] pos) env Φ Ψ := we_giveN i D hr hm h hkt (he.trans (by rw [hl])) ok hN hv hd hcd hg hdb hst
end
end TL

/-! a def that changes a dict it is handed and gives a new list: handed a new dict; added to a list of one's own -/
namespace TL
open PySem PySem.Spec PyProof.Rows L2
section
variable {X : Cx} {g : G} {env env' : List Sl} {Ψ : Exc → Prop} {P : Po} {pos p lp : Pos} {a b c e : Expr} {es : List Expr} {rest body : List Stmt} {K : Frag} {F F' H H' : Hp} {σ σ' : SS}
theorem Sk.snocS {s0 : Sl} {q : Addr} (st : Sk K F H σ env) (hs : s0.fp = [q]) (h1 : SlOk K F H (some (.ref q)) s0) (h3 : F q = none) (h4 : ¬ Own env q) : Sk K F H (σ ++ [some (.ref q)]) (env ++ [s0]) where
  len := by rw [List.length_append, List.length_append, st.len]; rfl
  sl := fun i s h => by
    rcases snoc_get h with h | ⟨rfl, rfl⟩
    · have hi : i < σ.length := by rw [st.len]; exact (List.getElem?_eq_some_iff.mp h).1
      rw [List.getElem?_append_left hi]
      exact st.sl i s h
    · rw [← st.len, List.getElem?_append_right (Nat.le_refl _), Nat.sub_self]
      exact h1
  nd := fun i j s t a hi hj m1 m2 => by
    rcases snoc_get hi with hi2 | ⟨ei, es⟩
    · rcases snoc_get hj with hj2 | ⟨ej, et⟩
      · exact st.nd i j s t a hi2 hj2 m1 m2
      · have e : a = q := by rw [et, hs] at m2; simpa using m2
        exact absurd ⟨i, s, hi2, e ▸ m1⟩ h4
    · rcases snoc_get hj with hj2 | ⟨ej, et⟩
      · have e : a = q := by rw [es, hs] at m1; simpa using m1
        exact absurd ⟨j, t, hj2, e ▸ m2⟩ h4
      · rw [ei, ej]
  fr := fun a ⟨i, s, hi, m⟩ => by
    rcases snoc_get hi with hi2 | ⟨_, rfl⟩
    · exact st.fr a ⟨i, s, hi2, m⟩
    · have e : a = q := by rw [hs] at m; simpa using m
      rw [e]; exact h3
  ex := st.ex
  tf := st.tf
  tk := st.tk
theorem St.snocS {s0 : Sl} {q : Addr} (st : St K g F H σ env) (hs : s0.fp = [q]) (h1 : SlOk K F H (some (.ref q)) s0) (h3 : F q = none) (h4 : ¬ Own env q) (h5 : g.H0 q = none) : St K g F H (σ ++ [some (.ref q)]) (env ++ [s0]) :=
  { st.toSk.snocS hs h1 h3 h4 with
    gt := st.gt, g1 := st.g1, g3 := st.g3, g4 := st.g4, g5 := st.g5, g6 := st.g6
    g2 := fun a ⟨i, s, hi, m⟩ => by
      rcases snoc_get hi with hi2 | ⟨_, rfl⟩
      · exact st.g2 a ⟨i, s, hi2, m⟩
      · have e : a = q := by rw [hs] at m; simpa using m
        rw [e]; exact .inl h5 }
/-- arguments, a new dict at the end -/
def WAd (X : Cx) (g : G) (es : List Expr) (env : List Sl) (Φ : List Ar → Prop) (Ψ : Exc → Prop) : Prop :=
  ∀ (W : WX), Takes X W → ∀ (σ : SS) (F H : Hp), St X.K g F H σ env → HX X g env Ψ W σ →
    ∀ Q : List V → Hp → Prop, (∀ as vs q F' H', Φ as → St X.K g F' H' σ env → Ex F F' → ArAll X.K F' σ vs as → H' q = some (.dT []) → F' q = none → ¬ Own env q → g.H0 q = none → Q (vs ++ [.ref q]) H') → semA X es σ H Q
section
variable {Φ : List Ar → Prop}
theorem wad_t (h : Φ []) (hs : starEach [.Dict [] [] lp] X.env = (false, eval (.Dict [] [] lp) X.env) :: starEach [] X.env := by rfl) : WAd X g [.Dict [] [] lp] env Φ Ψ := fun W tk σ F H st hx Q hQ => by
  refine semA_of (pa_cons pe_dnewT pa_nil hs) fun q hn => ?_
  exact hQ [] [] q F _ h (st.alloc hn) (Ex.refl F) trivial upd_same (st.ex.none hn) (st.toSk.notown hn) (st.h0 hn)
theorem wad_d (he : WE X g e env (fun d z => z = true ∧ WAd X g es env (fun as => Φ (.d d :: as)) Ψ) Ψ) (hs : starEach (e :: es) X.env = (false, eval e X.env) :: starEach es X.env := by rfl) : WAd X g (e :: es) env Φ Ψ := fun W tk σ F H st hx Q hQ => by
  refine semA_of (pa_cons (peS e) (paS es) hs) ?_
  refine he W tk σ F H st hx _ fun d z v F1 H1 ⟨hz, hp⟩ s1 e1 r1 => ?_
  subst hz
  exact hp W tk σ F1 H1 s1 hx _ fun as vs q F2 H2 hp2 s2 e2 r2 => hQ (.d d :: as) (v :: vs) q F2 H2 hp2 s2 (e1.trans e2) ⟨dp_mono e2 _ _ r1, r2⟩
end
theorem backE_snoc {as : List Ar} {env : List Sl} {s0 s1 : Sl} (h3 : ∀ i ∈ arIx as, i < env.length) : backE (env ++ [s0]) (as ++ [Ar.s env.length]) (as.map (slOf env) ++ [s1]) = env ++ [s1] := by
  have go : ∀ (as : List Ar) (env : List Sl) (n : Nat), n = env.length → (∀ i ∈ arIx as, i < env.length) → backE (env ++ [s0]) (as ++ [Ar.s n]) (as.map (slOf env) ++ [s1]) = env ++ [s1] := fun as env n hn => by
    subst hn
    induction as with
    | nil =>
      intro _
      show (env ++ [s0]).set env.length s1 = _
      rw [List.set_append_right _ _ (Nat.le_refl _), Nat.sub_self]
      rfl
    | cons a as ih =>
      intro hh
      cases a with
      | d d => exact ih hh
      | s i =>
        have hi := hh i (List.mem_cons_self ..)
        show (backE (env ++ [s0]) (as ++ [.s env.length]) (as.map (slOf env) ++ [s1])).set i (env[i]?.getD .un) = _
        rw [ih fun j hj => hh j (List.mem_cons_of_mem _ hj), List.getElem?_eq_getElem hi, List.set_append_left _ _ hi]
        show env.set i env[i] ++ _ = _
        rw [List.set_getElem_self hi]
  exact go as env _ rfl h3
/-- g(.., {}): a new list, the dict is let go -/
theorem wn_callD {j k : Nat} {x : Str} {ps : List Str} {S : CT} {Φ : List PyData → Prop} (hf : Has X.prog X.w X.K X.mg X.base j x ps S) (hr : Room k X.A)
    (h : WAd X g (e :: es) env (fun as => callOk as (ps.length - 1) env.length = true ∧ 1 ≤ ps.length ∧ ∀ q, S (as.map (slOf env) ++ [.dt q []]) (fun r args' => ∃ s ds, args' = as.map (slOf env) ++ [.dt q s] ∧ r = .nl ds ∧ Φ ds) (fun _ _ => False)) Ψ)
    (hj : j ≤ k := by omega) (hg : Gl X x := by rfl) (hdb : (x == ("__debug__" : Str)) = false := by decide)
    (he : starEach (e :: es) X.env = (false, eval e X.env) :: starEach es X.env := by rfl) (hpl : (backTo pos (starEach es X.env)).any (·.1) = false := by rfl) : WN X g (.Call (.Name x p) (e :: es) [] pos) env Φ Ψ := fun W tk σ F H st hx Q hQ => by
  obtain ⟨f, fd, hm, hk, hb, F0⟩ := hf.ex
  refine semE_of (pe_callS F0 (hr.mono hj) hg hm hk hb (fun σ => passAt tk σ) (paS (e :: es)) hdb he hpl) ?_
  refine h W tk σ F H st hx _ fun as vs q F1 H1 ⟨hok, hn1, hS⟩ s1 e1 ra g1 g2 g3 g4 => ?_
  obtain ⟨h1, h2, h3⟩ := callOk_ok hok
  have s2 := s1.snocS (s0 := .dt q []) rfl ⟨rfl, [], g1, .nil⟩ g2 g3 g4
  have ra2 := arall_snoc (x := some (.ref q)) (q := q) rfl (n := env.length) s1.len.symm ra
  have nd2 : (arIx (as ++ [Ar.s env.length])).Nodup := by
    rw [arix_snoc]
    refine List.nodup_append.mpr ⟨h2, by simp, fun a ha b hb z => ?_⟩
    have : b = env.length := by simpa using hb
    have := h3 a ha
    omega
  have hs2 : ∀ i ∈ arIx (as ++ [Ar.s env.length]), i < (env ++ [Sl.dt q []]).length := fun i hi => by
    rw [arix_snoc] at hi
    rw [List.length_append]
    rcases List.mem_append.mp hi with hi | hi
    · have := h3 i hi; simp; omega
    · have : i = env.length := by simpa using hi
      simp; omega
  have sk2 := s2.toSk.callee ra2 nd2 hs2
  rw [map_snoc h3] at sk2
  refine ⟨by rw [List.length_append, arall_len ra, h1]; simp; omega, F1, as.map (slOf env) ++ [.dt q []], _, _, hS q, sk2, fun r v args' F' H' ⟨s, ds, ea, hr2, hp⟩ sk hst _ pr => ?_, fun c args' F' H' hp _ _ _ => hp.elim⟩
  subst ea hr2
  have hst2 : Step F1 H1 ((as ++ [Ar.s env.length]).map (slOf (env ++ [Sl.dt q []]))) F' H' := by rw [map_snoc h3]; exact hst
  have s3 := st_back s2 ra2 nd2 hs2 sk hst2 (by rw [map_snoc h3, List.map_append, List.map_append]; rfl)
  rw [backE_snoc h3] at s3
  obtain ⟨p0, xs, hv, y1, y2, y3, y4, y5⟩ := pr
  exact hQ ds v F' H' hp s3.unsnoc (e1.trans hst.1) ⟨p0, xs, hv, y1, y2, y3, fun z => s1.there z y4, s1.h0 y4⟩
/-- x = x + g(..), g changes what it is handed -/
theorem w1_catM (i : Nat) {j k : Nat} {x gx : Str} {ps : List Str} {S : CT} {q : Addr} {ds : List PyData} {p1 p2 p3 p4 pb : Pos} (he0 : env[i]? = some (.ol q ds)) (hN : X.N.Nodup) (hf : Has X.prog X.w X.K X.mg X.base j gx ps S) (hr : Room k X.A)
    (h : WAs X g (e :: es) env (fun as => callOk as ps.length env.length = true ∧ (arIx as).contains i = false ∧ S (as.map (slOf env)) (fun r args' => args'.map Sl.fp = (as.map (slOf env)).map Sl.fp ∧ ∃ es', r = .nl es' ∧ ds.length + es'.length ≤ sizeLine ∧ ∀ q', q' ∉ g.M → P.nx ((backE env as args').set i (.ol q' (ds ++ es')))) (fun _ _ => False)) (fun c => P.ex c env))
    (hj : j ≤ k := by omega) (hg : Gl X gx := by rfl) (hdb : (gx == ("__debug__" : Str)) = false := by decide)
    (he : starEach (e :: es) X.env = (false, eval e X.env) :: starEach es X.env := by rfl) (hpl : (backTo pos (starEach es X.env)).any (·.1) = false := by rfl)
    (hi : X.N[i]? = some x := by rfl) (hx : Loc X.env.scope x := by first | exact Or.inl rfl | exact Or.inr rfl)
    (hv : Vis X.env.scope x := by first | exact Or.inl rfl | exact Or.inr (Or.inl rfl) | exact Or.inr (Or.inr rfl)) (hd : (x == ("__debug__" : Str)) = false := by decide)
    (hcd : (x == ("__classdict__" : Str)) = false := by decide)
    (hs : swapsWith (.BinOp (.Name x p2) .Add (.Call (.Name gx p3) (e :: es) [] pos) pb) (some (.Name x p1)) p4.line X.env = pure false := by rfl) (hfn : X.fn x = true ∨ X.env.scope.names.lookup x = some .local := by first | exact .inl rfl | exact .inr rfl) :
    W1 X g (.Assign [.Name x p1] (.BinOp (.Name x p2) .Add (.Call (.Name gx p3) (e :: es) [] pos) pb) p4) env P := fun W tk hx2 σ F H s0 D hD => by
  obtain ⟨f, fd, hm, hk, hb, F0⟩ := hf.ex
  refine semP_of (ps_set hN hi hx (pe_op op_catL (pe_var hi hv hd hcd) (pe_callS F0 (hr.mono hj) hg hm hk hb (fun σ => passAt tk σ) (paS (e :: es)) hdb he hpl)) hs hfn) ?_
  have l0 := s0.sl i _ he0
  refine ⟨_, getD_some l0.1, ?_⟩
  refine h W tk σ F H s0 (hx2.hx env σ) _ fun as vs F1 H1 ⟨hok, hni, hS⟩ s1 e1 ra => ?_
  obtain ⟨h1, h2, h3⟩ := callOk_ok hok
  refine ⟨by rw [arall_len ra, h1], F1, as.map (slOf env), _, _, hS, s1.toSk.callee ra h2 h3, fun r v args' F' H' ⟨hfp, es', er, hlen, hp⟩ sk hst _ pr => ?_, fun c args' F' H' hp _ _ _ => hp.elim⟩
  subst er
  have s2 := st_back s1 ra h2 h3 sk hst hfp
  obtain ⟨p0, xs, hv0, y1, y2, y3, y4, y5⟩ := pr
  subst hv0
  have hnot : i ∉ arIx as := fun z => by
    have : (arIx as).contains i = true := List.contains_iff_mem.mpr z
    rw [hni] at this; cases this
  have he2 : (backE env as args')[i]? = some (.ol q ds) := by rw [backE_out hnot]; exact he0
  obtain ⟨l1, vs0, l2, l3⟩ := s2.sl i _ he2
  refine ⟨q, p0, vs0, xs, rfl, rfl, SqL.of l2, SqL.of y1, by rw [dpa_len l3, dpa_len y2]; exact hlen, fun pn hn => ?_⟩
  have s3 := s2.alloc (o := .lst (vs0 ++ xs)) hn
  have hF : F' pn = none := s2.ex.none hn
  exact hD.nx _ _ F' _ (hp pn fun m => s2.g6 pn m (s2.h0 hn)) (s3.setL (by rw [backE_len]; exact (List.getElem?_eq_some_iff.mp he0).1) upd_same (dpa_app l3 y2) hF (s2.toSk.notown hn) (s2.h0 hn)) (e1.trans hst.1)
end
end TL

namespace TL
open PySem PySem.Spec PyProof.Rows L2
/-! an owned list of owned lists: seen as data; its rows reversed, cleared -/
open Classical in
noncomputable def ovlF (F H : Hp) (S : Addr → Prop) : Hp := fun b => if S b then H b else F b
open Classical in
noncomputable def cutS (F : Hp) (S : Addr → Prop) : Hp := fun b => if S b then none else F b
def rowFM (f : List PyData → List PyData) (ds : List (List PyData)) : PyData → (List (List PyData) → Prop) → Prop
  | .int n, K => match ixN ds.length n with
    | some j => match ds[j]? with
      | some l => K (ds.set j (f l))
      | none => False
    | none => False
  | _, _ => False
section
variable {X : Cx} {g : G} {env env' : List Sl} {Ψ : Exc → Prop} {P : Po} {pos p lp : Pos} {a b c e tg iter : Expr} {es : List Expr} {rest body : List Stmt} {K : Frag} {F F' H H' : Hp} {σ σ' : SS} {x y : PyData} {z1 z2 : Bool} {S : Addr → Prop}
theorem rowF_m {f : List PyData → List PyData} {ds : List (List PyData)} {Q Q' : List (List PyData) → Prop} (h : rowFM f ds x Q) (k : ∀ r, r.length = ds.length → Q r → Q' r) : rowFM f ds x Q' := by
  unfold rowFM at *
  split at h
  · split at h
    · split at h
      · exact k _ (by rw [List.length_set]) h
      · exact h.elim
    · exact h.elim
  · exact h.elim
theorem ovl_in {b : Addr} (h : S b) : ovlF F H S b = H b := by unfold ovlF; rw [if_pos h]
theorem ovl_out {b : Addr} (h : ¬ S b) : ovlF F H S b = F b := by unfold ovlF; rw [if_neg h]
theorem cutS_in {b : Addr} (h : S b) : cutS F S b = none := by unfold cutS; rw [if_pos h]
theorem cutS_out {b : Addr} (h : ¬ S b) : cutS F S b = F b := by unfold cutS; rw [if_neg h]
theorem ovl_ex (hF : ∀ b, S b → F b = none) : Ex F (ovlF F H S) := fun b u z => by
  rw [ovl_out fun h => by rw [hF b h] at z; cases z]; exact z
theorem view_inG {i : Nat} {v : V} {ds : List PyData} (st : St K g F H σ env) (hS : ∀ b, S b → Own env b) (hl : ∀ b, S b → ∃ vs, H b = some (.lst vs)) (hv : σ[i]?.getD none = some v) (hd : Dq K (ovlF F H S) v (.list ds)) :
    St K ⟨ovlF F H S, H, []⟩ (ovlF F H S) H σ (viewE i ds env) := by
  have hF : ∀ b, S b → F b = none := fun b h => st.fr b (hS b h)
  have ef := ovl_ex (H := H) hF
  refine { len := by unfold viewE; rw [List.length_mapIdx]; exact st.len, sl := fun j s h => ?_, nd := fun j k s t b h1 h2 h3 _ => ?_, fr := fun b h => (view_own h).elim, ex := fun b u z => ?_, tf := fun b us z => ?_, tk := ⟨fun a ps z => by
      by_cases e : S a
      · obtain ⟨vs, hv⟩ := hl a e
        rw [ovl_in e, hv] at z; cases z
      · rw [ovl_out e] at z; exact st.tk.fn a ps z, fun p hp => (st.tk.tb p hp).mono ef fun _ z => z⟩, gt := ⟨fun a ps h => (by show H a ≠ none; rw [show H a = _ from h]; intro z; cases z), fun p hp z => (by obtain ⟨ps, h1, _⟩ := st.tk.tb p hp; have z : H p.1 = none := z; rw [h1] at z; cases z)⟩, g1 := fun _ _ h _ _ => h, g2 := fun b h => (view_own h).elim, g3 := Ex.refl _, g4 := fun _ h => .inl h, g5 := fun _ h => (List.not_mem_nil h).elim, g6 := fun _ h => (List.not_mem_nil h).elim }
  · obtain ⟨t, h1, rfl⟩ := view_get h
    unfold viewS
    by_cases hj : j = i
    · rw [if_pos hj, hj, hv]
      exact ⟨_, rfl, hd⟩
    · rw [if_neg hj]
      by_cases h2 : t.fp.isEmpty = true
      · rw [if_pos h2]
        exact slok_mono ef (fun _ _ _ z => z) (st.sl j t h1)
      · rw [if_neg h2]; trivial
  · obtain ⟨u, _, rfl⟩ := view_get h1
    rw [view_fp] at h3
    cases h3
  · by_cases e : S b
    · rw [ovl_in e] at z; exact z
    · rw [ovl_out e] at z; exact st.ex b u z
  · by_cases e : S b
    · rw [ovl_in e]; exact z
    · rw [ovl_out e]; exact st.tf b us z
theorem view_outG {i : Nat} {ds : List PyData} (st : St K g F H σ env) (hS : ∀ b, S b → Own env b) (hl : ∀ b, S b → ∃ vs, H b = some (.lst vs))
    (s2 : St K ⟨ovlF F H S, H, []⟩ F' H' σ (viewE i ds env)) (ex : Ex (ovlF F H S) F') : St K g (cutS F' S) H' σ env ∧ Ex F (cutS F' S) := by
  have hF : ∀ b, S b → F b = none := fun b h => st.fr b (hS b h)
  have hx : ∀ b u, H b = some u → ntb u → H' b = some u := fun b u z n => s2.g1 b u z (List.not_mem_nil) n
  have hx2 : ∀ b, H' b = none → H b = none := fun b z => by
    cases y : H b with
    | none => rfl
    | some u =>
      by_cases ht : ∃ ps, u = .tbl ps
      · obtain ⟨ps, rfl⟩ := ht; exact absurd z (s2.gt.g7 b ps y)
      · rw [hx b u y fun ps e => ht ⟨ps, e⟩] at z; cases z
  have hl' : ∀ b, S b → ∃ vs, H' b = some (.lst vs) := fun b h => by
    obtain ⟨vs, e⟩ := hl b h
    exact ⟨vs, hx b _ e fun _ z => by cases z⟩
  have ef : Ex F (cutS F' S) := fun b u z => by
    have hne : ¬ S b := fun e => by rw [hF b e] at z; cases z
    rw [cutS_out hne]
    exact ex b u (by rw [ovl_out hne]; exact z)
  refine ⟨{ len := st.len, sl := fun j s h => slok_mono ef (fun b hb u z => hx b u z fun ps e => slok_ntb (st.sl j s h) hb ps (by rw [z, e])) (st.sl j s h), nd := st.nd, fr := fun b hb => ?_, ex := fun b u z => ?_, tf := fun b us z => ?_, tk := ⟨fun a ps z => by
      by_cases e : S a
      · rw [cutS_in e] at z; cases z
      · rw [cutS_out e] at z; exact s2.tk.fn a ps z, fun p hp => by
      obtain ⟨ps, h1, h2, h3⟩ := s2.tk.tb p hp
      refine ⟨ps, h1, h2, fun pos cv hc => ?_⟩
      obtain ⟨c, e1, e2⟩ := h3 pos cv hc
      refine ⟨c, e1, ?_⟩
      rw [cutS_out fun e => ?_]
      · exact e2
      · obtain ⟨vs, y⟩ := hl' c e
        rw [s2.ex _ _ e2] at y
        exact LamX.codeO_lst (Option.some.inj y)⟩, gt := st.gt.grow hx2, g1 := fun b u z m n => hx b u (st.g1 b u z m n) n, g2 := st.g2, g3 := st.g3.trans ef, g4 := fun b hb => ?_, g5 := fun b m z => ?_, g6 := st.g6 }, ef⟩
  · by_cases e : S b
    · rw [cutS_in e]
    · rw [cutS_out e]
      cases z : F' b with
      | none => rfl
      | some u =>
        rcases s2.g4 b (by rw [z]; intro y; cases y) with y | y
        · have y' : ovlF F H S b ≠ none := y
          rw [ovl_out e, st.fr b hb] at y'
          exact absurd rfl y'
        · exact absurd y (st.there hb)
  · by_cases e : S b
    · rw [cutS_in e] at z; cases z
    · rw [cutS_out e] at z; exact s2.ex b u z
  · have hne : ¬ S b := fun e => by
      obtain ⟨vs, y⟩ := hl' b e
      rw [z] at y
      cases y
    rw [cutS_out hne]
    exact s2.tf b us z
  · by_cases e : S b
    · rw [cutS_in e] at hb; exact absurd rfl hb
    · rw [cutS_out e] at hb
      rcases s2.g4 b hb with y | y
      · have y' : ovlF F H S b ≠ none := y
        rw [ovl_out e] at y'
        exact st.g4 b y'
      · exact .inr (st.h0 y)
  · exact st.g5 b m (hx2 b z)
theorem dqa_rows {G : Hp} : ∀ (as : List Addr) (ds : List (List PyData)), as.length = ds.length → (∀ r ∈ as.zip ds, ∃ vs, G r.1 = some (.lst vs) ∧ DqAll K G vs r.2) → DqAll K G ((as.zip ds).map fun r => V.ref r.1) (ds.map .list)
  | [], [], _, _ => .nil
  | a :: as, d :: ds, hl, h => by
    obtain ⟨vs, h1, h2⟩ := h (a, d) (List.mem_cons_self ..)
    exact .cons (.lst (SqL.of h1) h2) (dqa_rows as ds (by simpa using hl) fun r hr => h r (List.mem_cons_of_mem _ hr))
  | [], _ :: _, hl, _ => by simp at hl
  | _ :: _, [], hl, _ => by simp at hl
/-- an owned list of owned lists as data, for an expression whose answer is an atom -/
theorem we_viewOO (i : Nat) {al : Addr} {as : List Addr} {ds : List (List PyData)} {Φ : PyData → Bool → Prop} (hlen : as.length = ds.length) (he : env[i]? = some (ooS al as ds) := by rfl) (h : ∀ g' : G, WE X g' e (viewE i (ds.map .list) env) (fun d z => isAt d = true ∧ Φ d true) Ψ) : WE X g e env Φ Ψ := fun W tk σ F H st hx Q hQ => by
  obtain ⟨q1, q2, q3, q4⟩ := st.sl i _ he
  have hS : ∀ b, b ∈ (ooS al as ds).fp → Own env b := fun b hb => ⟨i, _, he, hb⟩
  have hl : ∀ b, b ∈ (ooS al as ds).fp → ∃ vs, H b = some (.lst vs) := fun b hb => by
    rcases List.mem_cons.mp hb with rfl | hb
    · exact ⟨_, q2⟩
    · obtain ⟨r, hr, rfl⟩ := List.mem_map.mp hb
      obtain ⟨vs, h1, _⟩ := q4 r hr
      exact ⟨vs, h1⟩
  have hF : ∀ b, b ∈ (ooS al as ds).fp → F b = none := fun b h => st.fr b (hS b h)
  have ef := ovl_ex (H := H) hF
  have hd : Dq X.K (ovlF F H fun b => b ∈ (ooS al as ds).fp) (.ref al) (.list (ds.map .list)) := by
    refine .lst (SqL.of ((ovl_in (List.mem_cons_self ..)).trans q2)) ?_
    refine dqa_rows as ds hlen fun r hr => ?_
    obtain ⟨vs, h1, h2⟩ := q4 r hr
    exact ⟨vs, (ovl_in (List.mem_cons_of_mem _ (List.mem_map.mpr ⟨r, hr, rfl⟩))).trans h1, dpa_mono ef _ _ h2⟩
  refine h _ W tk σ _ H (view_inG st hS hl q1 hd) (fun c F' H' hc s2 => ?_) Q fun d z v F' H' ⟨ha, hp⟩ s2 ex r => ?_
  · obtain ⟨s3, _⟩ := view_outG st hS hl s2 s2.g3
    exact hx c _ H' hc s3
  · obtain ⟨s3, ef⟩ := view_outG st hS hl s2 ex
    refine hQ d true v _ H' hp s3 ef ?_
    cases d with
    | none => rw [rd_non r]; exact .non
    | bool b => rw [rd_bl r]; exact .bl b
    | int n => rw [rd_int r]; exact .int n
    | str n => rw [rd_str r]; exact .str n
    | list _ => cases ha
    | tuple _ => cases ha
    | dict _ => cases ha
theorem rowF_ob {f : List PyData → List PyData} {ds : List (List PyData)} {Q : List (List PyData) → Prop} (h : rowFM f ds x Q) : ∃ n l, x = .int n ∧ atI ds n = some l ∧ ∀ j, ixN ds.length n = some j → Q (ds.set j (f l)) := by
  unfold rowFM at h
  split at h
  · split at h
    · rename_i e
      split at h
      · rename_i l0 e2
        refine ⟨_, l0, rfl, ?_, fun j' hj => ?_⟩
        · unfold atI; rw [e]; exact e2
        · rw [e] at hj; cases hj; exact h
      · exact h.elim
    · exact h.elim
  · exact h.elim
/-- one row is written -/
theorem row_write {i j : Nat} {al ar : Addr} {as : List Addr} {ds : List (List PyData)} {l l' : List PyData} {us' : List V} (s2 : St K g F H σ env) (he : env[i]? = some (ooS al as ds)) (hl : as.length = ds.length) (hz : (as.zip ds)[j]? = some (ar, l))
    (q1 : σ[i]?.getD none = some (.ref al)) (q2 : H al = some (.lst ((as.zip ds).map fun r => V.ref r.1))) (q3 : (al :: (as.zip ds).map Prod.fst).Nodup) (q4 : ∀ r ∈ as.zip ds, ∃ vs, H r.1 = some (.lst vs) ∧ DqAll K F vs r.2) (hd : DqAll K F us' l') :
    St K g F (upd H ar (.lst us')) σ (env.set i (ooS al as (ds.set j l'))) := by
  have hj1 : j < ds.length := by
    have := (List.getElem?_eq_some_iff.mp hz).1
    rw [List.length_zip] at this; omega
  have hmem : ar ∈ (as.zip ds).map (·.1) := List.mem_map.mpr ⟨_, List.mem_of_getElem? hz, rfl⟩
  have fpe : (ooS al as (ds.set j l')).fp = (ooS al as ds).fp := by
    show al :: (as.zip (ds.set j l')).map Prod.fst = al :: (as.zip ds).map Prod.fst
    rw [zip_set]
  have nd := List.nodup_cons.mp q3
  have hne : ar ≠ al := fun z => nd.1 (z ▸ hmem)
  have haj : as[j]? = some ar := (List.getElem?_zip_eq_some.mp hz).1
  refine s2.writeIn he (List.mem_cons_of_mem _ hmem) fpe ?_
  refine ⟨q1, ?_, ?_, fun r hr => ?_⟩
  · rw [upd_ne (Ne.symm hne), q2]
    congr 2
    have : ∀ L : List (Addr × List PyData), (L.map fun r => V.ref r.1) = (L.map Prod.fst).map V.ref := fun L => by rw [List.map_map]; rfl
    rw [this, this, zip_set]
  · show (al :: (as.zip (ds.set j l')).map Prod.fst).Nodup
    rw [zip_set]; exact q3
  · obtain ⟨k, hk⟩ := List.mem_iff_getElem?.mp hr
    have hk2 := List.getElem?_zip_eq_some.mp hk
    by_cases ek : k = j
    · subst ek
      have ea : ar = r.1 := by
        have := hk2.1
        rw [haj] at this
        exact Option.some.inj this
      have ed : r.2 = l' := by
        have := hk2.2
        rw [List.getElem?_set_self hj1] at this
        exact (Option.some.inj this).symm
      rw [← ea, ed, upd_same]
      exact ⟨us', rfl, hd⟩
    · have hr2 : r ∈ as.zip ds := by
        refine List.mem_of_getElem? (i := k) (List.getElem?_zip_eq_some.mpr ⟨hk2.1, ?_⟩)
        have := hk2.2
        rwa [List.getElem?_set_ne (Ne.symm ek)] at this
      obtain ⟨us', z1, z2⟩ := q4 _ hr2
      have hne2 : r.1 ≠ ar := fun z => by
        have hnd : ((as.zip ds).map Prod.fst).Nodup := nd.2
        have hk3 : ((as.zip ds).map Prod.fst)[k]? = some r.1 := by
          rw [List.getElem?_map, List.getElem?_zip_eq_some.mpr ⟨hk2.1, by have := hk2.2; rwa [List.getElem?_set_ne (Ne.symm ek)] at this⟩]; rfl
        have hj3 : ((as.zip ds).map Prod.fst)[j]? = some r.1 := by
          rw [List.getElem?_map, hz, z]; rfl
        obtain ⟨i1, i2⟩ := List.getElem?_eq_some_iff.mp hk3
        obtain ⟨i3, i4⟩ := List.getElem?_eq_some_iff.mp hj3
        exact ek ((List.getElem_inj hnd).mp (i2.trans i4.symm))
      exact ⟨us', by rw [upd_ne hne2]; exact z1, z2⟩
theorem w1_reverseOO (i : Nat) {al : Addr} {as : List Addr} {ds : List (List PyData)} {xn : Str} {q apos cpos spos : Pos} (hl : as.length = ds.length)
    (h : WE X g a env (fun kd _ => rowFM (List.reverse) ds kd fun r => P.nx (env.set i (ooS al as r))) (fun c => P.ex c env)) (he : env[i]? = some (ooS al as ds) := by rfl) (hN : X.N[i]? = some xn := by rfl)
    (hv : Vis X.env.scope xn := by first | exact Or.inl rfl | exact Or.inr (Or.inl rfl) | exact Or.inr (Or.inr rfl)) (hd : (xn == ("__debug__" : Str)) = false := by decide)
    (hcd : (xn == ("__classdict__" : Str)) = false := by decide) (hpx : PlainIx a := by exact fun _ _ => rfl)
    (hbase : attributeBase (.Subscript (.Name xn q) a spos) "reverse" X.env (eval (.Subscript (.Name xn q) a spos) X.env) = eval (.Subscript (.Name xn q) a spos) X.env := by rfl)
    (hline : (apos.endLine == cpos.line) = true := by rfl)
    (hs : swapsWith (.Call (.Attribute (.Subscript (.Name xn q) a spos) "reverse" apos) [] [] cpos) none pos.line X.env = pure false := by rfl) :
    W1 X g (.Expr (.Call (.Attribute (.Subscript (.Name xn q) a spos) "reverse" apos) [] [] cpos) pos) env P := fun W tk hx2 σ F H s0 D hD => by
  refine semP_of (ps_expr (pe_bm0 PySem.F.plainAttrs_list PySem.F.slot_list_reverse PySem.F.type_list_reverse mt_reverse (pe_ix ix_list (pe_var hN hv hd hcd) (peS a) hpx) hbase hline) hs) ?_
  obtain ⟨h1, _⟩ := s0.sl i _ he
  refine ⟨_, getD_some h1, ?_⟩
  refine h W tk σ F H s0 (hx2.hx env σ) _ fun kd z v F1 H1 hr s1 e1 r1 => ?_
  have hr : rowFM (List.reverse) ds kd fun r => P.nx (env.set i (ooS al as r)) := hr
  obtain ⟨n, l, rfl, hat, hp⟩ := rowF_ob hr
  obtain ⟨j, hj, hjl⟩ : ∃ j, ixN ds.length n = some j ∧ ds[j]? = some l := by
    unfold atI at hat
    obtain ⟨j, h5, h6⟩ := Option.bind_eq_some_iff.mp hat
    exact ⟨j, h5, h6⟩
  obtain ⟨hj1, hj2⟩ := List.getElem?_eq_some_iff.mp hjl
  have hz : (as.zip ds)[j]? = some (as[j]'(by omega), l) := by
    rw [List.getElem?_eq_getElem (by rw [List.length_zip]; omega), List.getElem_zip, hj2]
  have hat2 : atI ((as.zip ds).map fun r => V.ref r.1) n = some (.ref (as[j]'(by omega))) := by
    have e1 : ((as.zip ds).map fun r => V.ref r.1).length = ds.length := by rw [List.length_map, List.length_zip]; omega
    unfold atI
    rw [e1, hj]
    show ((as.zip ds).map fun r => V.ref r.1)[j]? = _
    rw [List.getElem?_map, hz]; rfl
  obtain ⟨q1, q2, q3, q4⟩ := s1.sl i _ he
  refine ⟨al, _, n, _, rfl, rd_int r1, SqL.of q2, hat2, ?_⟩
  obtain ⟨us, q5, q6⟩ := q4 _ (List.mem_of_getElem? hz)
  refine ⟨.inl ⟨rfl, us, SqL.of q5⟩, ?_⟩
  refine ⟨_, us, rfl, rfl, q5, ?_⟩
  exact hD.nx _ _ F1 _ (hp j hj) (row_write s1 he hl hz q1 q2 q3 q4 (dpa_rev q6)) e1
theorem w1_clearOO (i : Nat) {al : Addr} {as : List Addr} {ds : List (List PyData)} {xn : Str} {q apos cpos spos : Pos} (hl : as.length = ds.length)
    (h : WE X g a env (fun kd _ => rowFM (fun _ => []) ds kd fun r => P.nx (env.set i (ooS al as r))) (fun c => P.ex c env)) (he : env[i]? = some (ooS al as ds) := by rfl) (hN : X.N[i]? = some xn := by rfl)
    (hv : Vis X.env.scope xn := by first | exact Or.inl rfl | exact Or.inr (Or.inl rfl) | exact Or.inr (Or.inr rfl)) (hd : (xn == ("__debug__" : Str)) = false := by decide)
    (hcd : (xn == ("__classdict__" : Str)) = false := by decide) (hpx : PlainIx a := by exact fun _ _ => rfl)
    (hbase : attributeBase (.Subscript (.Name xn q) a spos) "clear" X.env (eval (.Subscript (.Name xn q) a spos) X.env) = eval (.Subscript (.Name xn q) a spos) X.env := by rfl)
    (hline : (apos.endLine == cpos.line) = true := by rfl)
    (hs : swapsWith (.Call (.Attribute (.Subscript (.Name xn q) a spos) "clear" apos) [] [] cpos) none pos.line X.env = pure false := by rfl) :
    W1 X g (.Expr (.Call (.Attribute (.Subscript (.Name xn q) a spos) "clear" apos) [] [] cpos) pos) env P := fun W tk hx2 σ F H s0 D hD => by
  refine semP_of (ps_expr (pe_bm0 PySem.F.plainAttrs_list PySem.F.slot_list_clear PySem.F.type_list_clear mt_clear (pe_ix ix_list (pe_var hN hv hd hcd) (peS a) hpx) hbase hline) hs) ?_
  obtain ⟨h1, _⟩ := s0.sl i _ he
  refine ⟨_, getD_some h1, ?_⟩
  refine h W tk σ F H s0 (hx2.hx env σ) _ fun kd z v F1 H1 hr s1 e1 r1 => ?_
  have hr : rowFM (fun _ => []) ds kd fun r => P.nx (env.set i (ooS al as r)) := hr
  obtain ⟨n, l, rfl, hat, hp⟩ := rowF_ob hr
  obtain ⟨j, hj, hjl⟩ : ∃ j, ixN ds.length n = some j ∧ ds[j]? = some l := by
    unfold atI at hat
    obtain ⟨j, h5, h6⟩ := Option.bind_eq_some_iff.mp hat
    exact ⟨j, h5, h6⟩
  obtain ⟨hj1, hj2⟩ := List.getElem?_eq_some_iff.mp hjl
  have hz : (as.zip ds)[j]? = some (as[j]'(by omega), l) := by
    rw [List.getElem?_eq_getElem (by rw [List.length_zip]; omega), List.getElem_zip, hj2]
  have hat2 : atI ((as.zip ds).map fun r => V.ref r.1) n = some (.ref (as[j]'(by omega))) := by
    have e1 : ((as.zip ds).map fun r => V.ref r.1).length = ds.length := by rw [List.length_map, List.length_zip]; omega
    unfold atI
    rw [e1, hj]
    show ((as.zip ds).map fun r => V.ref r.1)[j]? = _
    rw [List.getElem?_map, hz]; rfl
  obtain ⟨q1, q2, q3, q4⟩ := s1.sl i _ he
  refine ⟨al, _, n, _, rfl, rd_int r1, SqL.of q2, hat2, ?_⟩
  obtain ⟨us, q5, q6⟩ := q4 _ (List.mem_of_getElem? hz)
  refine ⟨.inl ⟨rfl, us, SqL.of q5⟩, ?_⟩
  refine ⟨_, us, rfl, rfl, q5, ?_⟩
  exact hD.nx _ _ F1 _ (hp j hj) (row_write s1 he hl hz q1 q2 q3 q4 .nil) e1
end
end TL

namespace TL
open PySem PySem.Spec PyProof.Rows L2
open Sem (wp)
/-! a dict display of one pair, its key a tuple -/
def tDispT1 (trs : List (TE × TE)) : TE := fun σ H Q => ∀ p, H p = none → tPairs trs σ (upd H p (.dT [])) fun ps H2 => H2 p = some (.dT []) ∧ ∃ (b : Addr) (ks : List Key) (y : V), ps = [(.ref b, y)] ∧ H2 b = some (.tup (ks.map kV)) ∧ Q (.ref p) (upd H2 p (.dT [(ks, y)]))
theorem pe_dispT1 {X : Cx} {pos : Pos} {k v : Expr} {trs : List (TE × TE)} (h : PPs X pos [some k] [v] trs) (hu : X.A.units + 1 < cLine) : PE X (.Dict [some k] [v] pos) (tDispT1 trs) := by
  refine ⟨fun pins s σ H Q I q => ?_⟩
  have hn := I.hok.fresh (Nat.le_refl s.heap.objs.size)
  have I1 := I.laid (a := s.heap.objs.size) (o := .dT []) (h' := s.heap.push { cls := .type "dict", data := .dict #[] }) (t' := s.toks) (fun _ _ q => Heap.get?_push_of_some _ q) (Nat.le_refl _) (dt_empty s.heap I.big)
  have hl1 : (pairTrees [some k] [v] X.env pos).length = 1 := pairTrees_length [some k] [v] X.env pos rfl rfl
  have h0 : pairTrees [some k] [v] X.env pos ≠ [] := fun z => by rw [z] at hl1; cases hl1
  rw [arm_eval_Dict, zip_pairTrees [some k] [v] X.env pos rfl rfl, dictDisplay_pairs _ h0 (by omega)]
  refine wpAny_bind (wpAny_standAt (wpAny_bind (wpAny_subDictH (knd := tupleKind (mixKind X.prog X.w)) (Q := fun d s' => wpAny (model X.prog X.w) X.A (pure (Value.ref d)) _ _ s') (show X.A.units < cLine by omega) (by omega) ?_)))
  refine thn (h.run pins _ σ _ _ I1 (q _ hn)) fun ws s2 ⟨ps, H2, I2, rel, e, b, ks, y, ep, eb, q2⟩ => ?_
  subst ep
  cases rel with
  | @cons _ w _ ws' r t =>
    cases t
    obtain ⟨w1, w2⟩ := w
    obtain ⟨r1, r2⟩ := r
    cases (show w1 = Value.ref b from r1)
    obtain ⟨z, hd, xs0, r0, dd⟩ := dt_of I2.hok e
    cases r0
    refine ⟨[(ks, b, w2)], ⟨rfl, rfl, key_of I2.hok eb, trivial⟩, dd, fun h' tk dd' hs => wpAny_pure ⟨.ref s.heap.objs.size, _, ?_, rfl, q2⟩⟩
    obtain ⟨o, es, ep, hq, h2, h3, h4, _, h5⟩ := dd'
    refine d_write I2 (by rw [e]; exact True.intro) hs ⟨o, hq⟩ ⟨by rw [sizeLine_eq]; show 1 ≤ 16777216; decide, hd, [(ks, b, w2)], .cons ⟨rfl, ?_, r2⟩ .nil, o, es, ep, hq, h2, h3, h4, h5⟩
    rw [upd_ne (ne_of eb e (fun z => nomatch z))]
    exact eb
def dispTM (ps : List (PyData × PyData)) (K : List (List Key × PyData) → Prop) : Prop := match ps with
  | [(k, d)] => match keyT k with
    | some q => K [(q, d)]
    | none => False
  | _ => False
section
variable {X : Cx} {g : G} {env env' : List Sl} {Ψ : Exc → Prop} {P : Po} {pos p lp : Pos} {a b c e : Expr} {es : List Expr} {K : Frag} {F F' H H' : Hp} {σ σ' : SS} {x y : PyData} {k0 : Nat}
theorem dispT_m {ps : List (PyData × PyData)} {Q Q' : List (List Key × PyData) → Prop} (h : dispTM ps Q) (k : ∀ r, Q r → Q' r) : dispTM ps Q' := by
  unfold dispTM at *
  split at h
  · split at h
    · exact k _ h
    · exact h.elim
  · exact h.elim
theorem wdt_disp1 {Φ : List (List Key × PyData) → Prop} (hr : Room k0 X.A) (h : ∀ g' : G, WPs X g' [(a, b)] env (fun ps => dispTM ps Φ) Ψ) : WDt X g (.Dict [some a] [b] pos) env Φ Ψ := fun W tk σ F H st hx Q hQ => by
  refine semE_of (pe_dispT1 (pps_zip (ks := [some a]) (vs := [b]) rfl rfl) (by have := units65 hr; omega)) fun p hn => ?_
  have s1 := st.alloc (o := .dT []) hn
  have no : ¬ Own env p := st.toSk.notown hn
  have hF : F p = none := st.ex.none hn
  have hpM : p ∉ fps env := fun z => no (own_fps.mpr z)
  refine h ⟨F, upd H p (.dT []), fps env⟩ W tk σ F _ s1.toSk.base (fun c F' H' hc s2 => hx c F' H' hc (s1.rebase s2 fun _ q => q)) _ fun ds vs' F2 H2 hd s2 e2 r2 => ?_
  have hp2 : H2 p = some (.dT []) := s2.g1 p _ upd_same hpM (fun _ z => by cases z)
  have hd : dispTM ds Φ := hd
  unfold dispTM at hd
  split at hd
  · rename_i kd d
    split at hd
    · rename_i q eq
      obtain ⟨v, w, rfl⟩ : ∃ v w, vs' = [(v, w)] := by
        cases vs' with
        | nil => exact r2.elim
        | cons a l =>
          cases l with
          | nil => exact ⟨a.1, a.2, rfl⟩
          | cons b l => exact r2.2.elim
      obtain ⟨⟨rk, rv⟩, _⟩ := r2
      obtain ⟨t, rfl, ht⟩ := keyT_dp rk eq
      refine ⟨hp2, t, q, w, rfl, s2.ex _ _ ht, ?_⟩
      have s3 := s1.rebase s2 fun _ q => q
      have hF2 : F2 p = none := by
        cases z : F2 p with
        | none => rfl
        | some u =>
          rcases s2.g4 p (by rw [z]; intro y; cases y) with y | y
          · exact absurd hF y
          · have y : upd H p (.dT []) p = none := y
            rw [upd_same] at y; cases y
      have h0' : g.H0 p = none := st.h0 hn
      have s4 := s3.untracked (D := p) (o' := .dT [(q, w)]) hF2 no h0'
      exact hQ _ (.ref p) F2 _ hd s4 e2 ⟨p, _, rfl, upd_same, .cons ⟨rfl, rv⟩ .nil, hF2, no, h0'⟩
    · exact hd.elim
  · exact hd.elim
/-- len of a dict of one's own -/
theorem we_lenDT (i : Nat) {al : Addr} {kvs : List (List Key × PyData)} {xn : Str} {q : Pos} {Φ : PyData → Bool → Prop} (hm : X.mg "len" = none) (h : Φ (.int (kvs.length : Nat)) true) (he : env[i]? = some (.dt al kvs) := by rfl) (hN : X.N[i]? = some xn := by rfl)
    (hv : Vis X.env.scope xn := by first | exact Or.inl rfl | exact Or.inr (Or.inl rfl) | exact Or.inr (Or.inr rfl)) (hd : (xn == ("__debug__" : Str)) = false := by decide)
    (hcd : (xn == ("__classdict__" : Str)) = false := by decide) (hg : Gl X "len" := by rfl)
    (he1 : starEach [Expr.Name xn q] X.env = (false, eval (Expr.Name xn q) X.env) :: starEach [] X.env := by rfl)
    (hp1 : (backTo pos (starEach ([] : List Expr) X.env)).any (·.1) = false := by rfl) : WE X g (.Call (.Name "len" p) [.Name xn q] [] pos) env Φ Ψ := fun W tk σ F H st hx Q hQ => by
  refine semE_of (pe_callB call_len_dT hg hm PySem.boot_len (pa_cons (pe_var hN hv hd hcd) pa_nil he1) (by decide) (by decide) he1 hp1) ?_
  obtain ⟨h1, vs', h2, h3⟩ := st.sl i _ he
  refine ⟨_, getD_some h1, al, vs', rfl, h2, ?_⟩
  rw [kvp_len h3]
  exact hQ _ true _ F H h st (Ex.refl F) (.int _)
end
end TL

namespace TL
open PySem PySem.Spec PyProof.Rows L2
/-! an own list held still while a statement runs: its slot is a bare value meanwhile -/
section
variable {X : Cx} {g : G} {env env2 : List Sl} {K : Frag} {F F2 H H2 : Hp} {σ σ2 : SS} {i : Nat} {a : Addr} {ds : List PyData} {vs : List V}
theorem own_hold {b : Addr} (h : Own (env.set i (.v (.ref a))) b) : Own env b ∧ ∃ j s, j ≠ i ∧ env[j]? = some s ∧ b ∈ s.fp := by
  obtain ⟨j, s, e, hb⟩ := h
  rcases set_get e with ⟨rfl, rfl⟩ | ⟨ne, e⟩
  · cases hb
  · exact ⟨⟨j, s, e, hb⟩, j, s, Ne.symm ne, e, hb⟩
theorem hold_in (st : St K g F H σ env) (he : env[i]? = some (.ol a ds)) : St K ⟨F, H, fps (env.set i (.v (.ref a)))⟩ F H σ (env.set i (.v (.ref a))) ∧ a ∉ fps (env.set i (.v (.ref a))) ∧ ∃ vs, H a = some (.lst vs) ∧ DqAll K F vs ds := by
  obtain ⟨q1, vs, q2, q3⟩ := st.sl i _ he
  have sk : Sk K F H σ (env.set i (.v (.ref a))) := by
    refine { len := by rw [List.length_set]; exact st.len, sl := fun j t e => ?_, nd := fun j k t u b ej ek ht hu => ?_, fr := fun b hb => st.fr b (own_hold hb).1, ex := st.ex, tf := st.tf, tk := st.tk }
    · rcases set_get e with ⟨rfl, rfl⟩ | ⟨ne, e⟩
      · exact q1
      · exact st.sl j t e
    · rcases set_get ej with ⟨rfl, rfl⟩ | ⟨ne, ej⟩
      · cases ht
      · rcases set_get ek with ⟨rfl, rfl⟩ | ⟨ne2, ek⟩
        · cases hu
        · exact st.nd j k t u b ej ek ht hu
  refine ⟨sk.base, fun z => ?_, vs, q2, q3⟩
  obtain ⟨_, j, s, hj, e, hb⟩ := own_hold (own_fps.mpr z)
  exact hj (st.nd j i s _ a e he hb (by simp [Sl.fp]))
theorem hold_out (st : St K g F H σ env) (he : env[i]? = some (.ol a ds)) (s2 : St K ⟨F, H, fps (env.set i (.v (.ref a)))⟩ F2 H2 σ2 env2) (he2 : env2[i]? = some (.v (.ref a))) : St K g F2 H2 σ2 (env2.set i (.ol a ds)) := by
  obtain ⟨_, hM, vs, hH, hd⟩ := hold_in st he
  have own : Own env a := ⟨i, _, he, by simp [Sl.fp]⟩
  have hFa : F a = none := st.fr a own
  have hH2 : H2 a = some (.lst vs) := s2.g1 a _ hH hM (fun _ z => by cases z)
  have hF2 : F2 a = none := by
    cases z : F2 a with
    | none => rfl
    | some u =>
      rcases s2.g4 a (by rw [z]; intro y; cases y) with y | y
      · exact absurd hFa y
      · have y : H a = none := y
        rw [hH] at y; cases y
  have no : ¬ Own env2 a := fun z => by
    rcases s2.g2 a z with y | y
    · have y : H a = none := y
      rw [hH] at y; cases y
    · exact hM y
  have mO : ∀ b, b ∈ fps (env.set i (.v (.ref a))) → Own env b := fun b hb => (own_hold (own_fps.mpr hb)).1
  have g1' : ∀ b o, H b = some o → b ∉ fps (env.set i (.v (.ref a))) → ntb o → H2 b = some o := fun b o h1 h2 h3 => s2.g1 b o h1 h2 h3
  have keep : ∀ b, H b ≠ none → H2 b ≠ none := fun b hb z => by
    by_cases h : b ∈ fps (env.set i (.v (.ref a)))
    · exact s2.g5 b h z
    · cases q : H b with
      | none => exact hb q
      | some u =>
        by_cases ht : ∃ ps, u = .tbl ps
        · obtain ⟨ps, rfl⟩ := ht; exact s2.gt.g7 b ps q z
        · rw [g1' b u q h fun ps y => ht ⟨ps, y⟩] at z; cases z
  have own2 : ∀ b, Own (env2.set i (.ol a ds)) b → b = a ∨ Own env2 b := fun b ⟨j, s, e, hb⟩ => by
    rcases set_get e with ⟨rfl, rfl⟩ | ⟨ne, e⟩
    · exact .inl (by simpa [Sl.fp] using hb)
    · exact .inr ⟨j, s, e, hb⟩
  refine { len := by rw [List.length_set]; exact s2.len, sl := fun j t e => ?_, nd := fun j k t u b ej ek ht hu => ?_, fr := fun b hb => ?_, ex := s2.ex, tf := s2.tf, tk := s2.tk, g1 := fun b o h m n => ?_, g2 := fun b hb => ?_, g3 := st.g3.trans s2.g3, g4 := fun b hb => ?_, g5 := fun b m => keep b (st.g5 b m), g6 := st.g6, gt := st.gt.grow fun b z => ?_ }
  · rcases set_get e with ⟨rfl, rfl⟩ | ⟨ne, e⟩
    · exact ⟨s2.sl _ _ he2, vs, hH2, dpa_mono s2.g3 _ _ hd⟩
    · exact s2.sl j t e
  · rcases set_get ej with ⟨rfl, rfl⟩ | ⟨ne, ej⟩
    · rcases set_get ek with ⟨rfl, rfl⟩ | ⟨ne2, ek⟩
      · rfl
      · have : b = a := by simpa [Sl.fp] using ht
        exact (no ⟨k, u, ek, this ▸ hu⟩).elim
    · rcases set_get ek with ⟨rfl, rfl⟩ | ⟨ne2, ek⟩
      · have : b = a := by simpa [Sl.fp] using hu
        exact (no ⟨j, t, ej, this ▸ ht⟩).elim
      · exact s2.nd j k t u b ej ek ht hu
  · rcases own2 b hb with rfl | h
    · exact hF2
    · exact s2.fr b h
  · refine g1' b o (st.g1 b o h m n) (fun z => ?_) n
    rcases st.g2 b (mO b z) with q | q
    · rw [q] at h; cases h
    · exact m q
  · rcases own2 b hb with rfl | h
    · exact st.g2 _ own
    · rcases s2.g2 b h with q | q
      · exact .inl (st.h0 q)
      · exact st.g2 b (mO b q)
  · rcases s2.g4 b hb with q | q
    · exact st.g4 b q
    · exact .inr (st.h0 q)
  · cases q : H b with
    | none => rfl
    | some u => exact absurd z (keep b (by rw [q]; intro y; cases y))
def holdP (i : Nat) (a : Addr) (ds : List PyData) (P : Po) : Po :=
  ⟨fun e => e[i]? = some (.v (.ref a)) ∧ P.nx (e.set i (.ol a ds)), fun r e => (∃ d, r = .rd d) ∧ e[i]? = some (.v (.ref a)) ∧ P.rt r (e.set i (.ol a ds)), fun e => e[i]? = some (.v (.ref a)) ∧ P.bk (e.set i (.ol a ds)), fun e => e[i]? = some (.v (.ref a)) ∧ P.ct (e.set i (.ol a ds)), fun c e => e[i]? = some (.v (.ref a)) ∧ P.ex c (e.set i (.ol a ds))⟩
theorem it_ol {xs : List PyData} {Q : List PyData → Prop} (h : itM (.list xs) Q) : Q xs := h
/-- for, over a list of one's own that the body leaves alone -/
theorem w1_forO (i : Nat) {P : Po} {pos q : Pos} {tg : Expr} {body : List Stmt} {xn : Str} {t : TG} {A : PyData → Option (List (Nat × PyData))} (hp : PassesOwn (model X.prog X.w) X.A X.env X.xe) (hc : X.calm = true) (hpg : PG X tg t) (htd : TGd X.K t A) (he : env[i]? = some (.ol a ds))
    (h : ∀ g' : G, ∃ Pv : Nat → List Sl → Prop, Pv 0 (env.set i (.v (.ref a))) ∧ (∀ k x, ds[k]? = some x → FT X g' body A (holdP i a ds P) Pv k x) ∧ ∀ e, Pv ds.length e → (holdP i a ds P).nx e)
    (hN : X.N[i]? = some xn := by rfl) (hv : Vis X.env.scope xn := by first | exact Or.inl rfl | exact Or.inr (Or.inl rfl) | exact Or.inr (Or.inr rfl)) (hd : (xn == ("__debug__" : Str)) = false := by decide)
    (hcd : (xn == ("__classdict__" : Str)) = false := by decide) (hs : ∀ x, foldedSetIterable (.Name xn q) X.env x = pure x := by intro _; rfl) : W1 X g (.For tg (.Name xn q) body [] pos) env P := fun W tk hx2 σ F H s0 D hD => by
  obtain ⟨s1, hM, vs, hH, hda⟩ := hold_in s0 he
  obtain ⟨q1, _⟩ := s0.sl i _ he
  obtain ⟨Pv, p0, pt, pe⟩ := h ⟨F, H, fps (env.set i (.v (.ref a)))⟩
  have hx' : XOk X ⟨F, H, fps (env.set i (.v (.ref a)))⟩ (holdP i a ds P) W := fun c env' σ' F' H' ⟨h1, h2⟩ s => hx2 c _ σ' F' H' h2 (hold_out s0 he s h1)
  have hD' : DOk X ⟨F, H, fps (env.set i (.v (.ref a)))⟩ F (holdP i a ds P) D :=
    ⟨fun env' σ' F' H' ⟨h1, h2⟩ s e => hD.nx _ σ' F' H' h2 (hold_out s0 he s h1) e,
     fun r v env' σ' F' H' ⟨⟨d, hr⟩, h1, h2⟩ s ok => by subst hr; exact hD.rt _ v _ σ' F' H' h2 (hold_out s0 he s h1) ok,
     fun env' σ' F' H' ⟨h1, h2⟩ s e => hD.bk _ σ' F' H' h2 (hold_out s0 he s h1) e,
     fun env' σ' F' H' ⟨h1, h2⟩ s e => hD.ct _ σ' F' H' h2 (hold_out s0 he s h1) e⟩
  refine semP_of (ps_for hp hc piS hpg (pssS body) hs) ?_
  refine semI_of (pi_any (pe_var hN hv hd hcd)) ?_
  refine ⟨_, getD_some q1, .inl ⟨a, vs, rfl, SqL.of hH, fun hl => ?_⟩⟩
  refine for_it walk_list (FJ X.K ⟨F, H, fps (env.set i (.v (.ref a)))⟩ F Pv) ⟨F, _, s1, Ex.refl F, p0⟩ (fun k σ' H' _ ⟨F2, e2, s2, ex2, _⟩ => SqL.of (s2.g1 a _ hH hM (fun _ z => by cases z))) (fun k x σ' H2 H3 hi2 hJ hY => ?_) (fun σ' H' ⟨F2, e2, s2, ex2, hp2⟩ => ?_)
  · obtain ⟨F2, e2, s2, ex2, hp2⟩ := hJ
    obtain ⟨y1, y2⟩ := hY
    subst y1
    have hk : k < ds.length := by rw [← dpa_len hda]; exact hi2
    obtain ⟨d, hdk⟩ : ∃ d, ds[k]? = some d := ⟨ds[k], by simp [hk]⟩
    obtain ⟨v', h1, h2⟩ := dpa_get hda hdk
    rw [y2] at h1
    cases h1
    exact for_turn2 tk hx' hD' htd (dp_mono ex2 _ _ h2) s2 ex2 hp2 (pt k d hdk)
  · rw [dpa_len hda] at hp2
    exact hD'.nx e2 σ' F2 H' (pe e2 hp2) s2 ex2
end
end TL

namespace TL
open PySem PySem.Spec PyProof.Rows L2
/-! owned things of any shape: made, given out, seen as data -/
def NewS (K : Frag) (g : G) (F H : Hp) (env : List Sl) (v : V) (s : Sl) : Prop := SlOk K F H (some v) s ∧ ∀ p ∈ s.fp, F p = none ∧ ¬ Own env p ∧ g.H0 p = none
def WO (X : Cx) (g : G) (e : Expr) (env : List Sl) (Φ : Sl → Prop) (Ψ : Exc → Prop) : Prop :=
  ∀ (W : WX), Takes X W → ∀ (σ : SS) (F H : Hp), St X.K g F H σ env → HX X g env Ψ W σ →
    ∀ Q : VK, (∀ s v F' H', Φ s → St X.K g F' H' σ env → Ex F F' → NewS X.K g F' H' env v s → Q v H') → semE X e σ H Q
section
variable {X : Cx} {g : G} {env env' : List Sl} {Ψ : Exc → Prop} {P : Po} {pos p lp : Pos} {a b c e e1 e2 : Expr} {es : List Expr} {rest body : List Stmt} {K : Frag} {F F' F1 F2 H H' H1 H2 : Hp} {σ σ' : SS} {s : Sl} {v : V} {x : PyData}
theorem news_keep (st1 : St K g F1 H1 σ env) (n : NewS K g F1 H1 env v s) (s2 : St K ⟨F1, H1, fps env⟩ F2 H2 σ' env') : NewS K g F2 H2 env v s := by
  obtain ⟨h1, h2⟩ := n
  refine ⟨slok_mono s2.g3 (fun b hb u z => s2.g1 b u z (fun m => (h2 b hb).2.1 (own_fps.mpr m)) fun ps y => slok_ntb h1 hb ps (y ▸ z)) h1, fun b hb => ⟨?_, (h2 b hb).2.1, (h2 b hb).2.2⟩⟩
  cases z : F2 b with
  | none => rfl
  | some u =>
    rcases s2.g4 b (by rw [z]; intro y; cases y) with y | y
    · exact absurd (h2 b hb).1 y
    · exact absurd y (slok_there h1 hb)
theorem newl_s {ds : List PyData} (h : NewL K g F H env v ds) : ∃ q, NewS K g F H env v (.ol q ds) := by
  obtain ⟨q, vs, rfl, h1, h2, h3, h4, h5⟩ := h
  refine ⟨q, ⟨rfl, vs, h1, h2⟩, fun b hb => ?_⟩
  have e : b = q := by simpa [Sl.fp] using hb
  subst e
  exact ⟨h3, h4, h5⟩
theorem wo_of_wn {Φ : Sl → Prop} (h : WN X g e env (fun ds => ∀ q, Φ (.ol q ds)) Ψ) : WO X g e env Φ Ψ := fun W tk σ F H st hx Q hQ =>
  h W tk σ F H st hx Q fun ds v F' H' hp st' e' n => by
    obtain ⟨q, n'⟩ := newl_s n
    exact hQ _ v F' H' (hp q) st' e' n'
theorem WO.mono {Φ Φ' : Sl → Prop} (h : WO X g e env Φ Ψ) (k : ∀ s, Φ s → Φ' s) : WO X g e env Φ' Ψ :=
  fun W tk σ F H st hx Q hQ => h W tk σ F H st hx Q fun s v F' H' p => hQ s v F' H' (k s p)
theorem wo_call {j k : Nat} {x : Str} {ps : List Str} {S : CT} {Φ : Sl → Prop} (hf : Has X.prog X.w X.K X.mg X.base j x ps S) (hr : Room k X.A)
    (h : WAs X g (e :: es) env (fun as => callOk as ps.length env.length = true ∧ S (as.map (slOf env)) (fun r args' => args' = as.map (slOf env) ∧ ∃ C, r = .sl C ∧ ∀ s, C s → Φ s) (fun c args' => args' = as.map (slOf env) ∧ Ψ c)) Ψ)
    (hj : j ≤ k := by omega) (hg : Gl X x := by rfl) (hdb : (x == ("__debug__" : Str)) = false := by decide)
    (he : starEach (e :: es) X.env = (false, eval e X.env) :: starEach es X.env := by rfl) (hpl : (backTo pos (starEach es X.env)).any (·.1) = false := by rfl) : WO X g (.Call (.Name x p) (e :: es) [] pos) env Φ Ψ := fun W tk σ F H st hx Q hQ => by
  refine call_run (Φ := fun r => ∃ C, r = .sl C ∧ ∀ s, C s → Φ s) hf hr h hj hg hdb he hpl tk st hx fun r vs v F1 H1 F' H' args' ⟨C, hd, hp⟩ s' e' s1 pr => ?_
  subst hd
  obtain ⟨s, c1, c2, c3⟩ := pr
  exact hQ s v F' H' (hp s c1) s' e' ⟨c2, fun b hb => ⟨(c3 b hb).1, fun z => s1.there z (c3 b hb).2.1, s1.h0 (c3 b hb).2.1⟩⟩
theorem St.setS {i : Nat} (st : St K g F H σ env) (hi : i < env.length) (n : NewS K g F H env v s) : St K g F H (σ.set i (some v)) (env.set i s) :=
  st.set hi n.1 (fun b hb => (n.2 b hb).1) (fun b hb j t _ e ht => (n.2 b hb).2.1 ⟨j, t, e, ht⟩) (fun b hb => .inl (n.2 b hb).2.2)
/-- x = e, a new owned thing -/
theorem w1_setO (i : Nat) {x : Str} {pos' : Pos} (hN : X.N.Nodup) (h : WO X g e env (fun s => (∀ b ∈ s.fp, b ∉ g.M) → P.nx (env.set i s)) (fun c => P.ex c env)) (hi : X.N[i]? = some x := by rfl) (hx : Loc X.env.scope x := by first | exact Or.inl rfl | exact Or.inr rfl) (hl : Nat.blt i env.length = true := by rfl)
    (hs : swapsWith e (some (.Name x pos')) pos.line X.env = pure false := by rfl) (hf : X.fn x = true ∨ X.env.scope.names.lookup x = some .local := by first | exact .inl rfl | exact .inr rfl) : W1 X g (.Assign [.Name x pos'] e pos) env P := fun W tk hx2 σ F H s0 D hD => by
  refine semP_of (ps_set hN hi hx (peS e) hs hf) ?_
  refine h W tk σ F H s0 (hx2.hx env σ) _ fun s v F' H' hp s' e' n => ?_
  exact hD.nx _ _ F' H' (hp fun b hb m => s'.g6 b m (n.2 b hb).2.2) (s'.setS (ltB hl) n) e'
/-- return e, a new owned thing -/
theorem w1_retE (h : WO X g e env (fun s => ∃ C : Sl → Prop, C s ∧ P.rt (.sl C) env) (fun c => P.ex c env)) : W1 X g (.Return (some e) pos) env P := fun W tk hx2 σ F H s0 D hD => by
  refine semP_of (ps_ret (peS e)) ?_
  refine h W tk σ F H s0 (hx2.hx env σ) _ fun s v F' H' ⟨C, hc, hp⟩ s' e' n => ?_
  exact hD.rt _ v env σ F' H' hp s' ⟨s, hc, n.1, fun b hb => n.2 b hb⟩
theorem slok_val {o : Option V} (h : SlOk K F H o s) (hne : s ≠ .un) : ∃ v, o = some v := by
  cases s with
  | un => exact absurd rfl hne
  | d x => exact ⟨_, h.choose_spec.1⟩
  | v x => exact ⟨_, h⟩
  | ol a ds => exact ⟨_, h.1⟩
  | bg a => exact ⟨_, h.1⟩
  | dt a ds => exact ⟨_, h.1⟩
  | dk a ds => exact ⟨_, h.1⟩
  | fv l => exact ⟨_, h.choose_spec.1⟩
  | fl l => obtain ⟨a, vs, h, _⟩ := h; exact ⟨_, h⟩
  | oo a ds => exact ⟨_, h.1⟩
  | ow t => exact ⟨_, h.choose_spec.1⟩
/-- return x, an owned thing of this def -/
theorem w1_retS (i : Nat) {x : Str} {q : Pos} {C : Sl → Prop} (hc : C s) (hne : s ≠ .un) (hm : ∀ b ∈ s.fp, b ∉ g.M) (h : P.rt (.sl C) (env.set i .un)) (he : env[i]? = some s := by rfl) (hN : X.N[i]? = some x := by rfl)
    (hv : Vis X.env.scope x := by first | exact Or.inl rfl | exact Or.inr (Or.inl rfl) | exact Or.inr (Or.inr rfl)) (hd : (x == ("__debug__" : Str)) = false := by decide)
    (hcd : (x == ("__classdict__" : Str)) = false := by decide) : W1 X g (.Return (some (.Name x q)) pos) env P := fun W tk hx2 σ F H s0 D hD => by
  refine semP_of (ps_ret (pe_var hN hv hd hcd)) ?_
  have h0 := s0.sl i s he
  obtain ⟨v, hv⟩ := slok_val h0 hne
  refine ⟨v, getD_some hv, hD.rt _ v _ σ F H h (s0.weak he (fun _ h => by cases h) fun _ => trivial) ⟨s, hc, by rw [← hv]; exact h0, fun b hb => ⟨s0.fr b ⟨i, s, he, hb⟩, fun ⟨j, t, ej, ht⟩ => ?_, ?_⟩⟩⟩
  · rcases set_get ej with ⟨_, rfl⟩ | ⟨ne, ej⟩
    · cases ht
    · exact ne (s0.nd i j _ t b he ej hb ht)
  · rcases s0.g2 b ⟨i, s, he, hb⟩ with z | z
    · exact z
    · exact absurd z (hm b hb)
/-! ### a thing of one's own as data, for a test -/
def ViewS (s : Sl) (x : PyData) : Prop := ∀ (K : Frag) (F H : Hp) (v : V), SlOk K F H (some v) s → (∀ b ∈ s.fp, F b = none) → Dq K (ovlF F H (· ∈ s.fp)) v x ∧ ∀ b ∈ s.fp, ∃ u, H b = some u ∧ plainO u = true
def viewW (i : Nat) (x : PyData) : Nat → Sl → Sl := fun j s => if j = i then .d x else if s.fp.isEmpty then s else .un
def viewX (i : Nat) (x : PyData) (env : List Sl) : List Sl := env.mapIdx (viewW i x)
theorem viewx_get {i j : Nat} {t : Sl} (h : (viewX i x env)[j]? = some t) : ∃ u, env[j]? = some u ∧ t = viewW i x j u := by
  unfold viewX at h
  rw [List.getElem?_mapIdx] at h
  obtain ⟨t, h1, h2⟩ := Option.map_eq_some_iff.mp h
  exact ⟨t, h1, h2.symm⟩
theorem viewx_fp {i j : Nat} {t : Sl} : (viewW i x j t).fp = [] := by
  unfold viewW
  by_cases h : j = i
  · rw [if_pos h]; rfl
  · rw [if_neg h]
    by_cases h2 : t.fp.isEmpty = true
    · rw [if_pos h2]; exact List.isEmpty_iff.mp h2
    · rw [if_neg h2]; rfl
theorem viewx_own {i : Nat} {q : Addr} (h : Own (viewX i x env) q) : False := by
  obtain ⟨j, t, h1, h2⟩ := h
  obtain ⟨u, _, rfl⟩ := viewx_get h1
  rw [viewx_fp] at h2
  cases h2
theorem plain_ntb {u : HO} (h : plainO u = true) : ntb u := fun ps z => by subst z; cases h
theorem viewx_in {i : Nat} {S : Addr → Prop} (st : St K g F H σ env) (hS : ∀ b, S b → Own env b) (hl : ∀ b, S b → ∃ u, H b = some u ∧ plainO u = true) (hv : σ[i]?.getD none = some v) (hd : Dq K (ovlF F H S) v x) :
    St K ⟨ovlF F H S, H, []⟩ (ovlF F H S) H σ (viewX i x env) := by
  have hF : ∀ b, S b → F b = none := fun b h => st.fr b (hS b h)
  have ef := ovl_ex (H := H) hF
  refine { len := by unfold viewX; rw [List.length_mapIdx]; exact st.len, sl := fun j t h => ?_, nd := fun j k t u b h1 h2 h3 _ => ?_, fr := fun b h => (viewx_own h).elim, ex := fun b u z => ?_, tf := fun b us z => ?_, tk := ⟨fun a ps z => by
      by_cases e : S a
      · obtain ⟨u, hv, hu⟩ := hl a e
        rw [ovl_in e, hv] at z; cases z; cases hu
      · rw [ovl_out e] at z; exact st.tk.fn a ps z, fun p hp => (st.tk.tb p hp).mono ef fun _ z => z⟩, gt := ⟨fun a ps h => (by show H a ≠ none; rw [show H a = _ from h]; intro z; cases z), fun p hp z => (by obtain ⟨ps, h1, _⟩ := st.tk.tb p hp; have z : H p.1 = none := z; rw [h1] at z; cases z)⟩, g1 := fun _ _ h _ _ => h, g2 := fun b h => (viewx_own h).elim, g3 := Ex.refl _, g4 := fun _ h => .inl h, g5 := fun _ h => (List.not_mem_nil h).elim, g6 := fun _ h => (List.not_mem_nil h).elim }
  · obtain ⟨u, h1, rfl⟩ := viewx_get h
    unfold viewW
    by_cases hj : j = i
    · rw [if_pos hj, hj, hv]
      exact ⟨_, rfl, hd⟩
    · rw [if_neg hj]
      by_cases h2 : u.fp.isEmpty = true
      · rw [if_pos h2]
        exact slok_mono ef (fun _ _ _ z => z) (st.sl j u h1)
      · rw [if_neg h2]; trivial
  · obtain ⟨u, _, rfl⟩ := viewx_get h1
    rw [viewx_fp] at h3
    cases h3
  · by_cases e : S b
    · rw [ovl_in e] at z; exact z
    · rw [ovl_out e] at z; exact st.ex b u z
  · by_cases e : S b
    · rw [ovl_in e]; exact z
    · rw [ovl_out e]; exact st.tf b us z
theorem viewx_out {i : Nat} {S : Addr → Prop} (st : St K g F H σ env) (hS : ∀ b, S b → Own env b) (hl : ∀ b, S b → ∃ u, H b = some u ∧ plainO u = true)
    (s2 : St K ⟨ovlF F H S, H, []⟩ F' H' σ (viewX i x env)) (ex : Ex (ovlF F H S) F') : St K g (cutS F' S) H' σ env ∧ Ex F (cutS F' S) := by
  have hF : ∀ b, S b → F b = none := fun b h => st.fr b (hS b h)
  have hx : ∀ b u, H b = some u → ntb u → H' b = some u := fun b u z n => s2.g1 b u z (List.not_mem_nil) n
  have hx2 : ∀ b, H' b = none → H b = none := fun b z => by
    cases y : H b with
    | none => rfl
    | some u =>
      by_cases ht : ∃ ps, u = .tbl ps
      · obtain ⟨ps, rfl⟩ := ht; exact absurd z (s2.gt.g7 b ps y)
      · rw [hx b u y fun ps e => ht ⟨ps, e⟩] at z; cases z
  have hl' : ∀ b, S b → ∃ u, H' b = some u ∧ plainO u = true := fun b h => by
    obtain ⟨u, e, hu⟩ := hl b h
    exact ⟨u, hx b _ e (plain_ntb hu), hu⟩
  have ef : Ex F (cutS F' S) := fun b u z => by
    have hne : ¬ S b := fun e => by rw [hF b e] at z; cases z
    rw [cutS_out hne]
    exact ex b u (by rw [ovl_out hne]; exact z)
  refine ⟨{ len := st.len, sl := fun j s h => slok_mono ef (fun b hb u z => hx b u z fun ps e => slok_ntb (st.sl j s h) hb ps (by rw [z, e])) (st.sl j s h), nd := st.nd, fr := fun b hb => ?_, ex := fun b u z => ?_, tf := fun b us z => ?_, tk := ⟨fun a ps z => by
      by_cases e : S a
      · rw [cutS_in e] at z; cases z
      · rw [cutS_out e] at z; exact s2.tk.fn a ps z, fun p hp => by
      obtain ⟨ps, h1, h2, h3⟩ := s2.tk.tb p hp
      refine ⟨ps, h1, h2, fun pos cv hc => ?_⟩
      obtain ⟨c, e1, e2⟩ := h3 pos cv hc
      refine ⟨c, e1, ?_⟩
      rw [cutS_out fun e => ?_]
      · exact e2
      · obtain ⟨u, y, hu⟩ := hl' c e
        rw [s2.ex _ _ e2] at y
        cases y
        unfold LamX.CodeO at hu
        cases hu⟩, gt := st.gt.grow hx2, g1 := fun b u z m n => hx b u (st.g1 b u z m n) n, g2 := st.g2, g3 := st.g3.trans ef, g4 := fun b hb => ?_, g5 := fun b m z => ?_, g6 := st.g6 }, ef⟩
  · by_cases e : S b
    · rw [cutS_in e]
    · rw [cutS_out e]
      cases z : F' b with
      | none => rfl
      | some u =>
        rcases s2.g4 b (by rw [z]; intro y; cases y) with y | y
        · have y' : ovlF F H S b ≠ none := y
          rw [ovl_out e, st.fr b hb] at y'
          exact absurd rfl y'
        · exact absurd y (st.there hb)
  · by_cases e : S b
    · rw [cutS_in e] at z; cases z
    · rw [cutS_out e] at z; exact s2.ex b u z
  · have hne : ¬ S b := fun e => by
      obtain ⟨u, y, hu⟩ := hl' b e
      rw [z] at y
      cases y
      cases hu
    rw [cutS_out hne]
    exact s2.tf b us z
  · by_cases e : S b
    · rw [cutS_in e] at hb; exact absurd rfl hb
    · rw [cutS_out e] at hb
      rcases s2.g4 b hb with y | y
      · have y' : ovlF F H S b ≠ none := y
        rw [ovl_out e] at y'
        exact st.g4 b y'
      · exact .inr (st.h0 y)
  · exact st.g5 b m (hx2 b z)
theorem wt_viewS (i : Nat) {Φ : Bool → Prop} (vs : ViewS s x) (hne : s ≠ .un) (h : ∀ g' : G, WT X g' e (viewX i x env) Φ Ψ) (he : env[i]? = some s := by rfl) : WT X g e env Φ Ψ := fun W tk σ F H st hx Q hQ => by
  have h0 := st.sl i _ he
  obtain ⟨v, hv⟩ := slok_val h0 hne
  rw [hv] at h0
  have hS : ∀ b, b ∈ s.fp → Own env b := fun b hb => ⟨i, _, he, hb⟩
  obtain ⟨hd, hl⟩ := vs X.K F H v h0 fun b hb => st.fr b (hS b hb)
  refine h _ W tk σ _ H (viewx_in st hS hl hv hd) (fun c F' H' hc s2 => ?_) Q fun b F' H' hp s2 ex => ?_
  · obtain ⟨s3, _⟩ := viewx_out st hS hl s2 s2.g3
    exact hx c _ H' hc s3
  · obtain ⟨s3, ef⟩ := viewx_out st hS hl s2 ex
    exact hQ b _ H' hp s3 ef
theorem we_viewS (i : Nat) {Φ : PyData → Bool → Prop} (vs : ViewS s x) (hne : s ≠ .un) (h : ∀ g' : G, WE X g' e (viewX i x env) (fun d z => isAt d = true ∧ Φ d true) Ψ) (he : env[i]? = some s := by rfl) : WE X g e env Φ Ψ := fun W tk σ F H st hx Q hQ => by
  have h0 := st.sl i _ he
  obtain ⟨v, hv⟩ := slok_val h0 hne
  rw [hv] at h0
  have hS : ∀ b, b ∈ s.fp → Own env b := fun b hb => ⟨i, _, he, hb⟩
  obtain ⟨hd, hl⟩ := vs X.K F H v h0 fun b hb => st.fr b (hS b hb)
  refine h _ W tk σ _ H (viewx_in st hS hl hv hd) (fun c F' H' hc s2 => ?_) Q fun d z v F' H' ⟨ha, hp⟩ s2 ex r => ?_
  · obtain ⟨s3, _⟩ := viewx_out st hS hl s2 s2.g3
    exact hx c _ H' hc s3
  · obtain ⟨s3, ef⟩ := viewx_out st hS hl s2 ex
    refine hQ d true v _ H' hp s3 ef ?_
    cases d with
    | none => rw [rd_non r]; exact .non
    | bool b => rw [rd_bl r]; exact .bl b
    | int n => rw [rd_int r]; exact .int n
    | str n => rw [rd_str r]; exact .str n
    | list _ => cases ha
    | tuple _ => cases ha
    | dict _ => cases ha
theorem view_ol {q : Addr} {ds : List PyData} : ViewS (.ol q ds) (.list ds) := fun K F H v ⟨h1, vs, h2, h3⟩ hF => by
  cases h1
  have hm : q ∈ (Sl.ol q ds).fp := by simp [Sl.fp]
  refine ⟨.lst (SqL.of ((ovl_in hm).trans h2)) (dpa_mono (ovl_ex hF) _ _ h3), fun b hb => ?_⟩
  have e : b = q := by simpa [Sl.fp] using hb
  subst e
  exact ⟨_, h2, rfl⟩
end
end TL

namespace TL
open PySem PySem.Spec PyProof.Rows L2
/-! lists and tuples of lists of one's own -/
def otT (a : Addr) (as : List Addr) (ds : List (List PyData)) : OwT where
  id := a
  fp := (as.zip ds).map (·.1)
  ok := fun K F H v => v = .ref a ∧ F a = some (.tup ((as.zip ds).map fun r => .ref r.1)) ∧ ((as.zip ds).map (·.1)).Nodup ∧ ∀ r ∈ as.zip ds, ∃ vs, H r.1 = some (.lst vs) ∧ DqAll K F vs r.2
  isr := fun h => h.1
  mono := fun {K F F' H H' v} e k h => by
    obtain ⟨h1, h2, h3, h4⟩ := h
    refine ⟨h1, e _ _ h2, h3, fun r hr => ?_⟩
    obtain ⟨vs, q1, q2⟩ := h4 r hr
    exact ⟨vs, k r.1 (List.mem_map_of_mem hr) _ q1, dpa_mono e _ _ q2⟩
  there := fun {K F H v} h b hb => by
    obtain ⟨r, hr, rfl⟩ := List.mem_map.mp hb
    obtain ⟨vs, q1, _⟩ := h.2.2.2 r hr
    exact ⟨_, q1, rfl⟩
  rows := as.zip ds
  held := fun {K F H v} h r hr => h.2.2.2 r hr
def IsNest (x : PyData) (s : Sl) : Prop := (∃ ds al as, x = .list (ds.map .list) ∧ s = ooS al as ds ∧ as.length = ds.length) ∨ ∃ ds a as, x = .tuple (ds.map .list) ∧ s = .ow (otT a as ds) ∧ as.length = ds.length
def nestRow : PyData → PyData → KL → Prop
  | .list xs, .int n, K => match atI xs n with
    | some (.list l) => K l
    | _ => False
  | .tuple xs, .int n, K => match atI xs n with
    | some (.list l) => K l
    | _ => False
  | _, _, _ => False
def nestSet (f : List PyData → List PyData) : PyData → PyData → KD → Prop
  | .list xs, .int n, K => match ixN xs.length n with
    | some j => match xs[j]? with
      | some (.list l) => K (.list (xs.set j (.list (f l))))
      | _ => False
    | none => False
  | .tuple xs, .int n, K => match ixN xs.length n with
    | some j => match xs[j]? with
      | some (.list l) => K (.tuple (xs.set j (.list (f l))))
      | _ => False
    | none => False
  | _, _, _ => False
section
variable {X : Cx} {g : G} {env env' : List Sl} {Ψ : Exc → Prop} {P : Po} {pos p lp : Pos} {a b c e e1 e2 : Expr} {es : List Expr} {rest body : List Stmt} {K : Frag} {F F' F1 F2 H H' H1 H2 : Hp} {σ σ' : SS} {s : Sl} {v : V} {x kd : PyData}
theorem IsNest.ne (h : IsNest x s) : s ≠ .un := by
  rcases h with ⟨_, _, _, _, rfl, _⟩ | ⟨_, _, _, _, rfl, _⟩ <;> (intro z; cases z)
theorem nestSet_m {f : List PyData → List PyData} {Q Q' : KD} (h : nestSet f x kd Q) (k : ∀ r, Q r → Q' r) : nestSet f x kd Q' := by
  unfold nestSet at *
  split at h <;> first
    | exact h.elim
    | (split at h <;> first | exact h.elim | (split at h <;> first | exact h.elim | exact k _ h))
theorem nestRow_m {Q Q' : KL} (h : nestRow x kd Q) (k : ∀ r, Q r → Q' r) : nestRow x kd Q' := by
  unfold nestRow at *
  split at h <;> first
    | exact h.elim
    | (split at h <;> first | exact h.elim | exact k _ h)
theorem nestRow_int {Q : KL} (h : nestRow x kd Q) : ∃ n, kd = .int n := by
  unfold nestRow at h
  split at h <;> first
    | exact h.elim
    | exact ⟨_, rfl⟩
theorem map_list_inj : ∀ {l : List (List PyData)} {j : Nat} {y : List PyData}, (l.map PyData.list)[j]? = some (.list y) → l[j]? = some y
  | l, j, y, h => by
    rw [List.getElem?_map] at h
    obtain ⟨z, h1, h2⟩ := Option.map_eq_some_iff.mp h
    injection h2 with h2
    rw [h1, h2]
theorem zmap : ∀ L : List (Addr × List PyData), (L.map fun r => V.ref r.1) = (L.map Prod.fst).map V.ref := fun L => by rw [List.map_map]; rfl
theorem atI_j {α : Type} {l : List α} {n : Int} {y : α} (h : atI l n = some y) : ∃ j, ixN l.length n = some j ∧ l[j]? = some y := by
  unfold atI at h
  obtain ⟨j, h5, h6⟩ := Option.bind_eq_some_iff.mp h
  exact ⟨j, h5, h6⟩
theorem rowZ {as : List Addr} {ds : List (List PyData)} {j : Nat} {l : List PyData} (hl : as.length = ds.length) (h : ds[j]? = some l) : ∃ q, (as.zip ds)[j]? = some (q, l) ∧ as[j]? = some q := by
  obtain ⟨hj1, hj2⟩ := List.getElem?_eq_some_iff.mp h
  exact ⟨as[j]'(by omega), by rw [List.getElem?_eq_getElem (by rw [List.length_zip]; omega), List.getElem_zip, hj2], List.getElem?_eq_getElem (by omega)⟩
/-- a row: where it stands, and what comes of writing it -/
theorem nest_row {n : Int} {Q : KL} (hs : IsNest x s) (hr : nestRow x (.int n) Q) :
    ∃ (al q : Addr) (l : List PyData), Q l ∧ ∀ {K : Frag} {g : G} {F H : Hp} {σ : SS} {env : List Sl} {i : Nat}, St K g F H σ env → env[i]? = some s → ∃ items us, σ[i]?.getD none = some (.ref al) ∧ (SqL K H al items ∨ SqT K H al items) ∧ atI items n = some (.ref q) ∧ H q = some (.lst us) ∧ DqAll K F us l ∧
      ∀ (f : List PyData → List PyData) (us' : List V) (R : PyData → Prop), DqAll K F us' (f l) → nestSet f x (.int n) R → ∃ x' s', R x' ∧ IsNest x' s' ∧ s'.fp = s.fp ∧ St K g F (upd H q (.lst us')) σ (env.set i s') := by
  rcases hs with ⟨ds, al, as, rfl, rfl, hl⟩ | ⟨ds, a, as, rfl, rfl, hl⟩
  · unfold nestRow at hr
    dsimp only at hr
    split at hr
    · rename_i l hat
      obtain ⟨j, hj, hjl⟩ := atI_j hat
      rw [List.length_map] at hj
      have hjl := map_list_inj hjl
      obtain ⟨q, hz, hq⟩ := rowZ hl hjl
      refine ⟨al, q, l, hr, fun {K g F H σ env i} st he => ?_⟩
      obtain ⟨h1, h2, h3, h4⟩ := st.sl i _ he
      obtain ⟨us, q5, q6⟩ := h4 _ (List.mem_of_getElem? hz)
      have hat2 : atI ((as.zip ds).map fun r => V.ref r.1) n = some (.ref q) := by
        unfold atI
        rw [List.length_map, List.length_zip, hl, Nat.min_self, hj]
        show ((as.zip ds).map fun r => V.ref r.1)[j]? = _
        rw [List.getElem?_map, hz]; rfl
      refine ⟨_, us, h1, .inl (SqL.of h2), hat2, q5, q6, fun f us' R hd hR => ?_⟩
      unfold nestSet at hR
      simp only [List.length_map, hj, List.getElem?_map, hjl, Option.map_some] at hR
      refine ⟨_, ooS al as (ds.set j (f l)), hR, .inl ⟨ds.set j (f l), al, as, by rw [List.map_set], rfl, by rw [List.length_set, hl]⟩, ?_, row_write st he hl hz h1 h2 h3 h4 hd⟩
      show al :: (as.zip (ds.set j (f l))).map Prod.fst = al :: (as.zip ds).map Prod.fst
      rw [zip_set]
    · exact hr.elim
  · unfold nestRow at hr
    dsimp only at hr
    split at hr
    · rename_i l hat
      obtain ⟨j, hj, hjl⟩ := atI_j hat
      rw [List.length_map] at hj
      have hjl := map_list_inj hjl
      obtain ⟨q, hz, hq⟩ := rowZ hl hjl
      refine ⟨a, q, l, hr, fun {K g F H σ env i} st he => ?_⟩
      obtain ⟨v, h1, rfl, h2, h3, h4⟩ := st.sl i _ he
      obtain ⟨us, q5, q6⟩ := h4 _ (List.mem_of_getElem? hz)
      have hat2 : atI ((as.zip ds).map fun r => V.ref r.1) n = some (.ref q) := by
        unfold atI
        rw [List.length_map, List.length_zip, hl, Nat.min_self, hj]
        show ((as.zip ds).map fun r => V.ref r.1)[j]? = _
        rw [List.getElem?_map, hz]; rfl
      refine ⟨_, us, h1, .inr (SqT.of (st.ex _ _ h2)), hat2, q5, q6, fun f us' R hd hR => ?_⟩
      unfold nestSet at hR
      simp only [List.length_map, hj, List.getElem?_map, hjl, Option.map_some] at hR
      have fpe : (Sl.ow (otT a as (ds.set j (f l)))).fp = (Sl.ow (otT a as ds)).fp := by
        show (as.zip (ds.set j (f l))).map Prod.fst = (as.zip ds).map Prod.fst
        rw [zip_set]
      refine ⟨_, .ow (otT a as (ds.set j (f l))), hR, .inr ⟨ds.set j (f l), a, as, by rw [List.map_set], rfl, by rw [List.length_set, hl]⟩, fpe, ?_⟩
      have hj1 : j < ds.length := (List.getElem?_eq_some_iff.mp hjl).1
      refine st.writeIn he (List.mem_map.mpr ⟨_, List.mem_of_getElem? hz, rfl⟩) fpe ⟨.ref a, h1, rfl, ?_, ?_, fun r hr => ?_⟩
      · rw [h2, zmap, zmap, zip_set]
      · rw [zip_set]; exact h3
      · obtain ⟨k, hk⟩ := List.mem_iff_getElem?.mp hr
        have hk2 := List.getElem?_zip_eq_some.mp hk
        by_cases ek : k = j
        · subst ek
          have ea : q = r.1 := by
            have := hk2.1
            rw [hq] at this
            exact Option.some.inj this
          have ed : r.2 = f l := by
            have := hk2.2
            rw [List.getElem?_set_self hj1] at this
            exact (Option.some.inj this).symm
          rw [← ea, ed, upd_same]
          exact ⟨us', rfl, hd⟩
        · have hk3 : (as.zip ds)[k]? = some r := List.getElem?_zip_eq_some.mpr ⟨hk2.1, by have := hk2.2; rwa [List.getElem?_set_ne (Ne.symm ek)] at this⟩
          obtain ⟨us2, z1, z2⟩ := h4 _ (List.mem_of_getElem? hk3)
          have hne2 : r.1 ≠ q := fun z => by
            have a1 : ((as.zip ds).map Prod.fst)[k]? = some r.1 := by rw [List.getElem?_map, hk3]; rfl
            have a2 : ((as.zip ds).map Prod.fst)[j]? = some r.1 := by rw [List.getElem?_map, hz, z]; rfl
            obtain ⟨i1, i2⟩ := List.getElem?_eq_some_iff.mp a1
            obtain ⟨i3, i4⟩ := List.getElem?_eq_some_iff.mp a2
            exact ek ((List.getElem_inj h3).mp (i2.trans i4.symm))
          exact ⟨us2, by rw [upd_ne hne2]; exact z1, z2⟩
    · exact hr.elim
theorem rix_seq {v1 v2 w : V} {al : Addr} {items : List V} {n : Int} {Q : VK} (h1 : v1 = .ref al) (h2 : v2 = .int n) (h3 : SqL K H al items ∨ SqT K H al items) (h4 : atI items n = some w) (h5 : Q w H) : rIx K v1 v2 H Q := by
  rcases h3 with h3 | h3
  · exact .inl ⟨al, items, n, w, h1, h2, h3, h4, h5⟩
  · exact .inr (.inl ⟨al, items, n, w, h1, h2, h3, h4, h5⟩)
theorem view_nest (h : IsNest x s) : ViewS s x := by
  rcases h with ⟨ds, al, as, rfl, rfl, hl⟩ | ⟨ds, a, as, rfl, rfl, hl⟩
  · intro K F H v ⟨h1, q2, q3, q4⟩ hF
    cases h1
    refine ⟨.lst (SqL.of ((ovl_in (List.mem_cons_self ..)).trans q2)) (dqa_rows as ds hl fun r hr => ?_), fun b hb => ?_⟩
    · obtain ⟨vs, h1, h2⟩ := q4 r hr
      exact ⟨vs, (ovl_in (List.mem_cons_of_mem _ (List.mem_map.mpr ⟨r, hr, rfl⟩))).trans h1, dpa_mono (ovl_ex hF) _ _ h2⟩
    · rcases List.mem_cons.mp hb with rfl | hb
      · exact ⟨_, q2, rfl⟩
      · obtain ⟨r, hr, rfl⟩ := List.mem_map.mp hb
        obtain ⟨vs, h1, _⟩ := q4 r hr
        exact ⟨_, h1, rfl⟩
  · intro K F H v ⟨v', h1, hv', q2, q3, q4⟩ hF
    subst hv'
    cases h1
    have hop : ¬ a ∈ (Sl.ow (otT a as ds)).fp := fun z => by rw [hF a z] at q2; cases q2
    refine ⟨.tup ((ovl_out hop).trans q2) (dqa_rows as ds hl fun r hr => ?_), fun b hb => ?_⟩
    · obtain ⟨vs, h1, h2⟩ := q4 r hr
      exact ⟨vs, (ovl_in (List.mem_map.mpr ⟨r, hr, rfl⟩)).trans h1, dpa_mono (ovl_ex hF) _ _ h2⟩
    · obtain ⟨r, hr, rfl⟩ := List.mem_map.mp hb
      obtain ⟨vs, h1, _⟩ := q4 r hr
      exact ⟨_, h1, rfl⟩
/-- x[k].append(e) -/
theorem w1_appN (i : Nat) {xn : Str} {q apos cpos spos : Pos} (hn : IsNest x s) (nM : ∀ b ∈ s.fp, b ∉ g.M)
    (h : WE X g a env (fun kd _ => nestRow x kd fun l => WE X g e env (fun d z => z = true ∧ l.length < sizeLine ∧ nestSet (fun l => l ++ [d]) x kd fun x' => ∀ s', IsNest x' s' → (∀ b ∈ s'.fp, b ∉ g.M) → P.nx (env.set i s')) (fun c => P.ex c env)) (fun c => P.ex c env)) (he : env[i]? = some s := by rfl) (hN : X.N[i]? = some xn := by rfl)
    (hv : Vis X.env.scope xn := by first | exact Or.inl rfl | exact Or.inr (Or.inl rfl) | exact Or.inr (Or.inr rfl)) (hd : (xn == ("__debug__" : Str)) = false := by decide)
    (hcd : (xn == ("__classdict__" : Str)) = false := by decide) (hpx : PlainIx a := by exact fun _ _ => rfl)
    (hbase : attributeBase (.Subscript (.Name xn q) a spos) "append" X.env (eval (.Subscript (.Name xn q) a spos) X.env) = eval (.Subscript (.Name xn q) a spos) X.env := by rfl)
    (hfew : ((backTo cpos (starEach [e] X.env)).all (fun x => !x.1) && (backToKw cpos (keywordEach [] X.env)).all (fun x => x.1.isSome)
      && decide ([e].length + ([] : List Keyword).length + (if ([] : List Keyword).isEmpty then 0 else 1) < 30)) = true := by rfl)
    (hline : (apos.endLine == cpos.line) = true := by rfl) (hs1 : starEach [e] X.env = (false, eval e X.env) :: starEach [] X.env := by rfl) (hplain : (backTo cpos (starEach ([] : List Expr) X.env)).any (·.1) = false := by rfl)
    (hs : swapsWith (.Call (.Attribute (.Subscript (.Name xn q) a spos) "append" apos) [e] [] cpos) none pos.line X.env = pure false := by rfl) :
    W1 X g (.Expr (.Call (.Attribute (.Subscript (.Name xn q) a spos) "append" apos) [e] [] cpos) pos) env P := fun W tk hx2 σ F H s0 D hD => by
  refine semP_of (ps_expr (pe_bm PySem.F.plainAttrs_list PySem.F.slot_list_append PySem.F.type_list_append mt_append (pe_ix ix_seq (pe_var hN hv hd hcd) (peS a) hpx) (pa_cons (peS e) pa_nil hs1) hbase hfew hline hs1 hplain) hs) ?_
  obtain ⟨v0, hv0⟩ := slok_val (s0.sl i _ he) hn.ne
  refine ⟨v0, getD_some hv0, ?_⟩
  refine h W tk σ F H s0 (hx2.hx env σ) _ fun kd z v F1 H1 hr s1 e1 r1 => ?_
  obtain ⟨n, rfl⟩ := nestRow_int hr
  obtain ⟨al, q, l, b7, bS⟩ := nest_row hn hr
  obtain ⟨items, us, b1, b3, b4, b5, b6, _⟩ := bS s1 he
  rw [hv0] at b1
  refine rix_seq (Option.some.inj b1) (rd_int r1) b3 b4 ⟨.inl ⟨rfl, us, SqL.of b5⟩, ?_⟩
  refine b7 W tk σ F1 H1 s1 (hx2.hx env σ) _ fun d z w F2 H2 ⟨hz, hlen, hp⟩ s2 e2 r2 => ?_
  subst hz
  obtain ⟨_, us2, _, _, _, c5, c6, cW⟩ := bS s2 he
  refine ⟨_, us2, w, rfl, rfl, c5, by rw [dpa_len c6]; exact hlen, ?_⟩
  obtain ⟨x', s', hR, hn', fpe, s3⟩ := cW (fun l => l ++ [d]) _ _ (dpa_app c6 (dpa_one r2)) hp
  exact hD.nx _ _ F2 _ (hR s' hn' fun b hb => nM b (fpe ▸ hb)) s3 (e1.trans e2)
/-- x[k].clear() -/
theorem w1_clrN (i : Nat) {xn : Str} {q apos cpos spos : Pos} (hn : IsNest x s) (nM : ∀ b ∈ s.fp, b ∉ g.M)
    (h : WE X g a env (fun kd _ => nestRow x kd fun _ => nestSet (fun _ => []) x kd fun x' => ∀ s', IsNest x' s' → (∀ b ∈ s'.fp, b ∉ g.M) → P.nx (env.set i s')) (fun c => P.ex c env)) (he : env[i]? = some s := by rfl) (hN : X.N[i]? = some xn := by rfl)
    (hv : Vis X.env.scope xn := by first | exact Or.inl rfl | exact Or.inr (Or.inl rfl) | exact Or.inr (Or.inr rfl)) (hd : (xn == ("__debug__" : Str)) = false := by decide)
    (hcd : (xn == ("__classdict__" : Str)) = false := by decide) (hpx : PlainIx a := by exact fun _ _ => rfl)
    (hbase : attributeBase (.Subscript (.Name xn q) a spos) "clear" X.env (eval (.Subscript (.Name xn q) a spos) X.env) = eval (.Subscript (.Name xn q) a spos) X.env := by rfl)
    (hline : (apos.endLine == cpos.line) = true := by rfl)
    (hs : swapsWith (.Call (.Attribute (.Subscript (.Name xn q) a spos) "clear" apos) [] [] cpos) none pos.line X.env = pure false := by rfl) :
    W1 X g (.Expr (.Call (.Attribute (.Subscript (.Name xn q) a spos) "clear" apos) [] [] cpos) pos) env P := fun W tk hx2 σ F H s0 D hD => by
  refine semP_of (ps_expr (pe_bm0 PySem.F.plainAttrs_list PySem.F.slot_list_clear PySem.F.type_list_clear mt_clear (pe_ix ix_seq (pe_var hN hv hd hcd) (peS a) hpx) hbase hline) hs) ?_
  obtain ⟨v0, hv0⟩ := slok_val (s0.sl i _ he) hn.ne
  refine ⟨v0, getD_some hv0, ?_⟩
  refine h W tk σ F H s0 (hx2.hx env σ) _ fun kd z v F1 H1 hr s1 e1 r1 => ?_
  obtain ⟨n, rfl⟩ := nestRow_int hr
  obtain ⟨al, q, l, b7, bS⟩ := nest_row hn hr
  obtain ⟨items, us, b1, b3, b4, b5, b6, cW⟩ := bS s1 he
  rw [hv0] at b1
  refine rix_seq (Option.some.inj b1) (rd_int r1) b3 b4 ⟨.inl ⟨rfl, us, SqL.of b5⟩, ?_⟩
  refine ⟨_, us, rfl, rfl, b5, ?_⟩
  obtain ⟨x', s', hR, hn', fpe, s3⟩ := cW (fun _ => []) [] _ .nil b7
  exact hD.nx _ _ F1 _ (hR s' hn' fun b hb => nM b (fpe ▸ hb)) s3 e1
/-! made -/
theorem news_oo0 {q : Addr} (h : NewS K g F H env v (.ol q [])) : NewS K g F H env v (ooS q [] []) := by
  obtain ⟨⟨h1, vs, h2, h3⟩, h4⟩ := h
  cases h3
  exact ⟨⟨h1, h2, by simp, fun r hr => by cases hr⟩, fun b hb => h4 b (by simpa [Sl.fp] using hb)⟩
/-- [] that will hold lists of one's own -/
theorem wo_nil {Φ : Sl → Prop} (h : ∀ s, IsNest (.list []) s → Φ s) : WO X g (.List [] pos) env Φ Ψ := fun W tk σ F H st hx Q hQ => by
  refine semE_of (pe_lst pa_nil) ⟨Nat.zero_le _, fun p hn => ?_⟩
  refine hQ (ooS p [] []) (.ref p) F _ (h _ (.inl ⟨[], p, [], rfl, rfl, rfl⟩)) (st.alloc hn) (Ex.refl F) (news_oo0 ⟨⟨rfl, [], upd_same, .nil⟩, fun b hb => ?_⟩)
  have e : b = p := by simpa [Sl.fp] using hb
  subst e
  exact ⟨st.ex.none hn, st.toSk.notown hn, st.h0 hn⟩
/-- (e1, e2), both new lists -/
theorem wo_tup2 {j : Nat} {Φ : Sl → Prop} (h : WN X g e1 env (fun d1 => ∀ g' : G, WN X g' e2 env (fun d2 => ∀ s, IsNest (.tuple [.list d1, .list d2]) s → Φ s) Ψ) Ψ)
    (he1 : starEach [e1, e2] X.env = (false, eval e1 X.env) :: starEach [e2] X.env := by rfl) (he2 : starEach [e2] X.env = (false, eval e2 X.env) :: starEach [] X.env := by rfl) : WO X g (.Tuple [e1, e2] j pos) env Φ Ψ := fun W tk σ F H st hx Q hQ => by
  refine semE_of (pe_tup (pa_cons (peS e1) (pa_cons (peS e2) pa_nil he2) he1)) ?_
  refine h W tk σ F H st hx _ fun d1 v1 F1 H1 hp1 s1 ex1 ⟨q1, xs1, hv1, a1, a2, a3, a4, a5⟩ => ?_
  subst hv1
  refine hp1 ⟨F1, H1, fps env⟩ W tk σ F1 H1 s1.toSk.base (fun c F' H' hc s2 => hx c F' H' hc (s1.rebase s2 fun _ q => q)) _ fun d2 v2 F2 H2 hp2 s2 ex2 ⟨q2, xs2, hv2, b1, b2, b3, b4, b5⟩ => ?_
  subst hv2
  have s3 := s1.rebase s2 (fun _ q => q)
  have nM : q1 ∉ fps env := fun z => a4 (own_fps.mpr z)
  have k1 : H2 q1 = some (.lst xs1) := s2.g1 q1 _ a1 nM (fun _ z => by cases z)
  have f1 : F2 q1 = none := by
    cases z : F2 q1 with
    | none => rfl
    | some u =>
      rcases s2.g4 q1 (by rw [z]; intro y; cases y) with y | y
      · exact absurd a3 y
      · have y : H1 q1 = none := y
        rw [a1] at y; cases y
  have hne : q1 ≠ q2 := fun z => by
    have b5 : H1 q2 = none := b5
    rw [← z, a1] at b5; cases b5
  refine ⟨by rw [sizeLine_eq]; show 2 ≤ 16777216; decide, fun p hn => ?_⟩
  have p1 : p ≠ q1 := fun z => by rw [z, k1] at hn; cases hn
  have p2 : p ≠ q2 := fun z => by rw [z, b1] at hn; cases hn
  have s4 := s3.allocF (o := .tup [.ref q1, .ref q2]) hn
  have hFp : F2 p = none := s3.ex.none hn
  have e4 := Ex.new (o := HO.tup [.ref q1, .ref q2]) hFp
  refine hQ (.ow (otT p [q1, q2] [d1, d2])) (.ref p) _ _ (hp2 _ (.inr ⟨[d1, d2], p, [q1, q2], rfl, rfl, rfl⟩)) s4 ((ex1.trans ex2).trans e4) ⟨⟨.ref p, rfl, rfl, upd_same, ?_, fun r hr => ?_⟩, fun b hb => ?_⟩
  · show [q1, q2].Nodup
    simp [hne]
  · have hr : r = (q1, d1) ∨ r = (q2, d2) := by
      have hr : r ∈ [(q1, d1), (q2, d2)] := hr
      simpa using hr
    rcases hr with rfl | rfl
    · exact ⟨xs1, by rw [upd_ne (Ne.symm p1)]; exact k1, dpa_mono (ex2.trans e4) _ _ a2⟩
    · exact ⟨xs2, by rw [upd_ne (Ne.symm p2)]; exact b1, dpa_mono e4 _ _ b2⟩
  · have hb : b = q1 ∨ b = q2 := by
      have hb : b ∈ [q1, q2] := hb
      simpa using hb
    rcases hb with rfl | rfl
    · exact ⟨by rw [upd_ne (Ne.symm p1)]; exact f1, a4, a5⟩
    · exact ⟨by rw [upd_ne (Ne.symm p2)]; exact b3, b4, s1.h0 b5⟩
theorem revD_l {l : List PyData} {Q : KD} (h : revDM (.list l) Q) : revM (.list l) fun r => Q (.list r) := h
end
end TL

namespace TL
open PySem PySem.Spec PyProof.Rows L2
section
variable {X : Cx} {g : G} {env env' : List Sl} {Ψ : Exc → Prop} {P : Po} {pos p lp : Pos} {a b c e e1 e2 elt tg iter : Expr} {es : List Expr} {rest body : List Stmt} {K : Frag} {F F' F1 F2 H H' H1 H2 : Hp} {σ σ' : SS} {s : Sl} {v : V} {x kd : PyData}
/-- an owned thing is changed in place and takes new things in -/
theorem St.writeG {i : Nat} {q : Addr} {s s' : Sl} {o' : HO} (st : St K g F H σ env) (hs : env[i]? = some s) (ha : q ∈ s.fp) (ha' : ∀ b ∈ s'.fp, b ∈ s.fp ∨ (F b = none ∧ ¬ Own env b ∧ g.H0 b = none)) (h : SlOk K F (upd H q o') (σ[i]?.getD none) s') (ht : ∀ vs, o' ≠ .tup vs := by intro _ z; cases z) : St K g F (upd H q o') σ (env.set i s') := by
  have own : Own env q := ⟨i, s, hs, ha⟩
  have hF : F q = none := st.fr q own
  have sub : ∀ b, Own (env.set i s') b → Own env b ∨ (F b = none ∧ g.H0 b = none) := fun b hb => by
    rcases own_set hb with h1 | h1
    · rcases ha' b h1 with h2 | h2
      · exact .inl ⟨i, s, hs, h2⟩
      · exact .inr ⟨h2.1, h2.2.2⟩
    · exact .inl h1
  have oth : ∀ (j : Nat) (t : Sl), i ≠ j → env[j]? = some t → q ∉ t.fp := fun j t ne e ht => ne (st.nd i j s t q hs e ha ht)
  refine { len := by rw [List.length_set]; exact st.len, sl := fun j t e => ?_, nd := fun j k t u b ej ek ht hu => ?_, fr := fun b hb => (sub b hb).elim (st.fr b) (·.1), ex := st.ex.mut hF, tf := fun b vs z => by
             by_cases e : b = q
             · subst e; rw [upd_same] at z; exact absurd (Option.some.inj z) (ht vs)
             · rw [upd_ne e] at z; exact st.tf b vs z, tk := st.tk.put (st.tk.ne (st.toSk.ntb own)), gt := st.gt.grow (fun b z => by
             by_cases e : b = q
             · subst e; rw [upd_same] at z; cases z
             · rw [upd_ne e] at z; exact z), g1 := fun b u z m n => ?_, g2 := fun b hb => (sub b hb).elim (st.g2 b) fun z => .inl z.2, g3 := st.g3, g4 := st.g4, g5 := fun b m z => ?_, g6 := st.g6 }
  · rcases set_get e with ⟨rfl, rfl⟩ | ⟨ne, e⟩
    · exact h
    · refine slok_mono (Ex.refl F) (fun b hb u z => ?_) (st.sl j t e)
      have hne : b ≠ q := fun z => oth j t ne e (z ▸ hb)
      rw [upd_ne hne]; exact z
  · rcases set_get ej with ⟨rfl, rfl⟩ | ⟨ne, ej2⟩
    · rcases set_get ek with ⟨rfl, rfl⟩ | ⟨ne2, ek⟩
      · rfl
      · rcases ha' b ht with h2 | h2
        · exact st.nd _ k s u b hs ek h2 hu
        · exact absurd ⟨k, u, ek, hu⟩ h2.2.1
    · rcases set_get ek with ⟨rfl, rfl⟩ | ⟨ne2, ek⟩
      · rcases ha' b hu with h2 | h2
        · exact st.nd j _ t s b ej2 hs ht h2
        · exact absurd ⟨j, t, ej2, ht⟩ h2.2.1
      · exact st.nd j k t u b ej2 ek ht hu
  · have hne : b ≠ q := fun e => by
      subst e
      rcases st.g2 b own with h1 | h1
      · rw [h1] at z; cases z
      · exact m h1
    rw [upd_ne hne]; exact st.g1 b u z m n
  · by_cases hb : b = q
    · subst hb; rw [upd_same] at z; cases z
    · rw [upd_ne hb] at z; exact st.g5 b m z
theorem isn_list {r : List PyData} (h : IsNest (.list r) s) : ∃ ds al as, r = ds.map .list ∧ s = ooS al as ds ∧ as.length = ds.length := by
  rcases h with ⟨ds, al, as, e, h2, h3⟩ | ⟨_, _, _, e, _⟩
  · injection e with e; exact ⟨ds, al, as, e, h2, h3⟩
  · cases e
/-- x.append(e), e a new list -/
theorem w1_pushN (i : Nat) {x : Str} {q apos cpos : Pos} {r : List PyData} (hn : IsNest (.list r) s) (nM : ∀ b ∈ s.fp, b ∉ g.M)
    (h : WN X g e env (fun d => r.length < sizeLine ∧ ∀ s', IsNest (.list (r ++ [.list d])) s' → (∀ b ∈ s'.fp, b ∉ g.M) → P.nx (env.set i s')) (fun c => P.ex c env)) (he : env[i]? = some s := by rfl) (hN : X.N[i]? = some x := by rfl)
    (hv : Vis X.env.scope x := by first | exact Or.inl rfl | exact Or.inr (Or.inl rfl) | exact Or.inr (Or.inr rfl)) (hd : (x == ("__debug__" : Str)) = false := by decide)
    (hcd : (x == ("__classdict__" : Str)) = false := by decide)
    (hbase : attributeBase (.Name x q) "append" X.env (eval (.Name x q) X.env) = eval (.Name x q) X.env := by rfl)
    (hfew : ((backTo cpos (starEach [e] X.env)).all (fun x => !x.1) && (backToKw cpos (keywordEach [] X.env)).all (fun x => x.1.isSome)
      && decide ([e].length + ([] : List Keyword).length + (if ([] : List Keyword).isEmpty then 0 else 1) < 30)) = true := by rfl)
    (hline : (apos.endLine == cpos.line) = true := by rfl) (hs1 : starEach [e] X.env = (false, eval e X.env) :: starEach [] X.env := by rfl) (hplain : (backTo cpos (starEach ([] : List Expr) X.env)).any (·.1) = false := by rfl)
    (hs : swapsWith (.Call (.Attribute (.Name x q) "append" apos) [e] [] cpos) none pos.line X.env = pure false := by rfl) :
    W1 X g (.Expr (.Call (.Attribute (.Name x q) "append" apos) [e] [] cpos) pos) env P := fun W tk hx2 σ F H s0 D hD => by
  obtain ⟨ds, al, as, rfl, rfl, hl⟩ := isn_list hn
  refine semP_of (ps_expr (pe_bm PySem.F.plainAttrs_list PySem.F.slot_list_append PySem.F.type_list_append mt_append (pe_var hN hv hd hcd) (pa_cons (peS e) pa_nil hs1) hbase hfew hline hs1 hplain) hs) ?_
  obtain ⟨h1, h2, _⟩ := s0.sl i _ he
  refine ⟨_, getD_some h1, .inl ⟨rfl, _, SqL.of h2⟩, ?_⟩
  refine h W tk σ F H s0 (hx2.hx env σ) _ fun d v F' H' ⟨hlen, hp⟩ s' e' ⟨q, us, hv', n1, n2, n3, n4, n5⟩ => ?_
  subst hv'
  obtain ⟨k1, k2, k3, k4⟩ := s'.sl i _ he
  have hmem : ∀ b ∈ (ooS al as ds).fp, Own env b := fun b hb => ⟨i, _, he, hb⟩
  have hqa : q ∉ (ooS al as ds).fp := fun z => n4 (hmem q z)
  have hlz : as.length = ds.length := hl
  have hzip : (as ++ [q]).zip (ds ++ [d]) = as.zip ds ++ [(q, d)] := by rw [List.zip_append hl]; rfl
  have hfp : ∀ b ∈ (ooS al (as ++ [q]) (ds ++ [d])).fp, b ∈ (ooS al as ds).fp ∨ b = q := fun b hb => by
    have hb : b ∈ al :: ((as ++ [q]).zip (ds ++ [d])).map Prod.fst := hb
    rw [hzip, List.map_append] at hb
    rcases List.mem_cons.mp hb with rfl | hb
    · exact .inl (List.mem_cons_self ..)
    · rcases List.mem_append.mp hb with hb | hb
      · exact .inl (List.mem_cons_of_mem _ hb)
      · exact .inr (by simpa using hb)
  refine ⟨al, _, _, rfl, rfl, k2, by rw [List.length_map, List.length_zip, hl, Nat.min_self]; rw [List.length_map] at hlen; exact hlen, ?_⟩
  have hne : ∀ b ∈ (ooS al as ds).fp, b ≠ q := fun b hb z => hqa (z ▸ hb)
  have hqal : q ≠ al := fun z => hqa (z ▸ List.mem_cons_self ..)
  have nd := List.nodup_cons.mp k3
  refine hD.nx _ _ F' _ (hp (ooS al (as ++ [q]) (ds ++ [d])) (.inl ⟨ds ++ [d], al, as ++ [q], by rw [List.map_append]; rfl, rfl, by simp [hl]⟩) fun b hb => ?_) (s'.writeG he (List.mem_cons_self ..) (fun b hb => ?_) ?_) e'
  · rcases hfp b hb with hb | rfl
    · exact nM b hb
    · exact fun m => s'.g6 _ m n5
  · rcases hfp b hb with hb | rfl
    · exact .inl hb
    · exact .inr ⟨n3, n4, n5⟩
  · refine ⟨k1, ?_, ?_, fun r hr => ?_⟩
    · show upd H' al _ al = _
      rw [upd_same, hzip, List.map_append]; rfl
    · show (al :: ((as ++ [q]).zip (ds ++ [d])).map Prod.fst).Nodup
      rw [hzip, List.map_append, ← List.cons_append, List.nodup_append]
      refine ⟨k3, by simp, fun b hb c hc z => ?_⟩
      have hc : c = q := by simpa using hc
      exact hne b hb (z.trans hc)
    · have hr : r ∈ (as ++ [q]).zip (ds ++ [d]) := hr
      rw [hzip] at hr
      rcases List.mem_append.mp hr with hr | hr
      · obtain ⟨vs, z1, z2⟩ := k4 r hr
        have : r.1 ≠ al := fun z => nd.1 (z ▸ List.mem_map.mpr ⟨r, hr, rfl⟩)
        exact ⟨vs, by rw [upd_ne this]; exact z1, z2⟩
      · have hr : r = (q, d) := by simpa using hr
        subst hr
        exact ⟨us, by rw [upd_ne hqal]; exact n1, n2⟩
theorem map_snoc2 {ds : List (List PyData)} {r : List PyData} {y : PyData} (h : ds.map PyData.list = r ++ [y]) : ∃ ds0 d, ds = ds0 ++ [d] ∧ r = ds0.map .list ∧ y = .list d := by
  have hne : ds ≠ [] := fun z => by subst z; simp at h
  obtain ⟨ds0, d, rfl⟩ : ∃ ds0 d, ds = ds0 ++ [d] := ⟨ds.dropLast, ds.getLast hne, (List.dropLast_concat_getLast hne).symm⟩
  rw [List.map_append] at h
  have := List.append_inj' h rfl
  exact ⟨ds0, d, rfl, this.1.symm, by simpa using this.2.symm⟩
/-- x.pop(), what goes is let go -/
theorem w1_popN (i : Nat) {xn : Str} {q apos cpos : Pos} {r : List PyData} (hn : IsNest (.list r) s) (nM : ∀ b ∈ s.fp, b ∉ g.M) (h : popM r fun r' _ => ∀ s', IsNest (.list r') s' → (∀ b ∈ s'.fp, b ∉ g.M) → P.nx (env.set i s')) (he : env[i]? = some s := by rfl) (hN : X.N[i]? = some xn := by rfl)
    (hv : Vis X.env.scope xn := by first | exact Or.inl rfl | exact Or.inr (Or.inl rfl) | exact Or.inr (Or.inr rfl)) (hd : (xn == ("__debug__" : Str)) = false := by decide)
    (hcd : (xn == ("__classdict__" : Str)) = false := by decide)
    (hbase : attributeBase (.Name xn q) "pop" X.env (eval (.Name xn q) X.env) = eval (.Name xn q) X.env := by rfl) (hline : (apos.endLine == cpos.line) = true := by rfl)
    (hs : swapsWith (.Call (.Attribute (.Name xn q) "pop" apos) [] [] cpos) none pos.line X.env = pure false := by rfl) :
    W1 X g (.Expr (.Call (.Attribute (.Name xn q) "pop" apos) [] [] cpos) pos) env P := fun W tk hx2 σ F H s0 D hD => by
  obtain ⟨ds, al, as, rfl, rfl, hl⟩ := isn_list hn
  obtain ⟨r', y, hr, hp⟩ := h
  obtain ⟨ds0, d, rfl, rfl, rfl⟩ := map_snoc2 hr
  obtain ⟨as0, q0, rfl⟩ : ∃ as0 q0, as = as0 ++ [q0] := by
    have hne : as ≠ [] := fun z => by subst z; simp at hl
    exact ⟨as.dropLast, as.getLast hne, (List.dropLast_concat_getLast hne).symm⟩
  have hl0 : as0.length = ds0.length := by simpa using hl
  have hzip : (as0 ++ [q0]).zip (ds0 ++ [d]) = as0.zip ds0 ++ [(q0, d)] := by rw [List.zip_append hl0]; rfl
  refine semP_of (ps_expr (pe_bm0 PySem.F.plainAttrs_list PySem.F.slot_list_pop PySem.F.type_list_pop mt_pop (pe_var hN hv hd hcd) hbase hline) hs) ?_
  obtain ⟨k1, k2, k3, k4⟩ := s0.sl i _ he
  refine ⟨_, getD_some k1, .inl ⟨rfl, _, SqL.of k2⟩, ?_⟩
  have fpe : (ooS al (as0 ++ [q0]) (ds0 ++ [d])).fp = (ooS al as0 ds0).fp ++ [q0] := by
    show al :: ((as0 ++ [q0]).zip (ds0 ++ [d])).map Prod.fst = (al :: (as0.zip ds0).map Prod.fst) ++ [q0]
    rw [hzip, List.map_append]; rfl
  have sub : ∀ b ∈ (ooS al as0 ds0).fp, b ∈ (ooS al (as0 ++ [q0]) (ds0 ++ [d])).fp := fun b hb => by rw [fpe]; exact List.mem_append_left _ hb
  have hz2 : ((as0 ++ [q0]).zip (ds0 ++ [d])).map (fun r => V.ref r.1) = (as0.zip ds0).map (fun r => V.ref r.1) ++ [.ref q0] := by rw [hzip, List.map_append]; rfl
  have k2' := k2
  rw [hz2] at k2'
  refine ⟨al, _, .ref q0, rfl, rfl, k2', by simp, ?_⟩
  have k3' : (al :: ((as0 ++ [q0]).zip (ds0 ++ [d])).map Prod.fst).Nodup := k3
  rw [hzip, List.map_append, ← List.cons_append] at k3'
  have k3'' := (List.nodup_append.mp k3').1
  refine hD.nx _ _ F _ (hp (ooS al as0 ds0) (.inl ⟨ds0, al, as0, rfl, rfl, hl0⟩) fun b hb => nM b (sub b hb)) (s0.writeG he (List.mem_cons_self ..) (fun b hb => .inl (sub b hb)) ⟨k1, by rw [upd_same, List.dropLast_concat], k3'', fun r hr => ?_⟩) (Ex.refl F)
  obtain ⟨vs, z1, z2⟩ := k4 r (by rw [hzip]; exact List.mem_append_left _ hr)
  have : r.1 ≠ al := fun z => (List.nodup_cons.mp k3'').1 (z ▸ List.mem_map.mpr ⟨r, hr, rfl⟩)
  exact ⟨vs, by rw [upd_ne this]; exact z1, z2⟩
theorem ixM_list {xs : List PyData} {Q : KD} (h : ixM (.list xs) kd Q) : ∃ n y, kd = .int n ∧ atI xs n = some y ∧ Q y := by
  cases kd with
  | int n =>
    have h : (match atI xs n with | some y => Q y | none => False) := h
    split at h
    · rename_i y e; exact ⟨n, y, rfl, e, h⟩
    · exact h.elim
  | _ => exact (show False from h).elim
/-- e[k], e a new list of new lists: the row is new -/
theorem wn_ixN {Φ : List PyData → Prop} (h : WO X g a env (fun s => ∃ r, IsNest (.list r) s ∧ ∀ g' : G, WE X g' b env (fun kd _ => ixM (.list r) kd fun y => ∀ l, y = .list l → Φ l) Ψ) Ψ) (hs : PlainIx b := by exact fun _ _ => rfl) : WN X g (.Subscript a b pos) env Φ Ψ := fun W tk σ F H st hx Q hQ => by
  refine semE_of (pe_ix ix_list (peS a) (peS b) hs) ?_
  refine h W tk σ F H st hx _ fun s v1 F1 H1 ⟨r, hn, hb⟩ s1 ex1 n1 => ?_
  refine hb ⟨F1, H1, fps env⟩ W tk σ F1 H1 s1.toSk.base (fun c F' H' hc s2 => hx c F' H' hc (s1.rebase s2 fun _ q => q)) _ fun kd z v2 F2 H2 hp s2 ex2 r2 => ?_
  have s3 := s1.rebase s2 (fun _ q => q)
  have n2 := news_keep s1 n1 s2
  obtain ⟨ds, al, as, rfl, rfl, hl⟩ := isn_list hn
  obtain ⟨⟨k1, k2, k3, k4⟩, k5⟩ := n2
  obtain ⟨n, y, rfl, hat, hp⟩ := ixM_list hp
  obtain ⟨j, hj, hjl⟩ := atI_j hat
  rw [List.length_map] at hj
  rw [List.getElem?_map] at hjl
  obtain ⟨l, hjl, hy⟩ := Option.map_eq_some_iff.mp hjl
  obtain ⟨q, hz, hq⟩ := rowZ hl hjl
  obtain ⟨us, q5, q6⟩ := k4 _ (List.mem_of_getElem? hz)
  have hat2 : atI ((as.zip ds).map fun r => V.ref r.1) n = some (.ref q) := by
    unfold atI
    rw [List.length_map, List.length_zip, hl, Nat.min_self, hj]
    show ((as.zip ds).map fun r => V.ref r.1)[j]? = _
    rw [List.getElem?_map, hz]; rfl
  have hqf : q ∈ (ooS al as ds).fp := List.mem_cons_of_mem _ (List.mem_map.mpr ⟨_, List.mem_of_getElem? hz, rfl⟩)
  exact ⟨al, _, n, _, Option.some.inj k1, rd_int r2, SqL.of k2, hat2, hQ l (.ref q) F2 H2 (hp l hy.symm) s3 (ex1.trans ex2) ⟨q, us, rfl, q5, q6, (k5 q hqf).1, (k5 q hqf).2.1, (k5 q hqf).2.2⟩⟩
end
end TL

namespace TL
open PySem PySem.Spec PyProof.Rows L2
/-! [new list for .. in ..]: a list of lists of one's own -/
def LTN (X : Cx) (env : List Sl) (scope : Scope) (elt : Expr) (vs : List Nat) (A : PyData → Option (List (Nat × PyData))) (Pv : Nat → List PyData → Prop) (i : Nat) (x : PyData) : Prop :=
  ∀ acc, Pv i acc → ∃ l, A x = some l ∧ (l.all fun q => vs.elem q.1 && Nat.blt q.1 env.length) = true ∧ ∀ (g' : G) s H0 C cl fp, WN (BX X scope s H0 C cl fp) g' elt (putsE (wipeE env vs) l) (fun ys => Pv (i + 1) (acc ++ [.list ys])) (fun _ => False)
def LJN (K : Frag) (g : G) (F1 : Hp) (σ : SS) (env : List Sl) (Pv : Nat → List PyData → Prop) (D : Addr) (i : Nat) (H : Hp) : Prop :=
  ∃ (F : Hp) (as : List Addr) (ds : List (List PyData)), St K g F H σ env ∧ Ex F1 F ∧ H D = some (.lst (as.map .ref)) ∧ F D = none ∧ ¬ Own env D ∧ g.H0 D = none ∧ (D :: as).Nodup ∧ as.length = ds.length ∧ as.length = i ∧ Pv i (ds.map .list) ∧
    ∀ r ∈ as.zip ds, ∃ vs, H r.1 = some (.lst vs) ∧ DqAll K F vs r.2 ∧ F r.1 = none ∧ ¬ Own env r.1 ∧ g.H0 r.1 = none
section
variable {X : Cx} {g : G} {env env' : List Sl} {Ψ : Exc → Prop} {P : Po} {pos p lp : Pos} {a b c e e1 e2 elt tg iter : Expr} {es : List Expr} {rest body : List Stmt} {K : Frag} {F F' F1 F2 H H' H1 H2 : Hp} {σ σ' : SS} {s : Sl} {v : V} {x kd : PyData}
theorem St.unputs {vs : List Nat} {l : List (Nat × PyData)} {r : List (Nat × V)} (st : St K g F H (wipe σ vs) (wipeE env vs)) (hl : ∀ q ∈ l, q.1 ∈ vs ∧ q.1 < env.length) (hidx : ∀ q ∈ r, q.1 ∈ vs)
    (s' : St K ⟨F, H, fps (wipeE env vs)⟩ F' H' (putsV (wipe σ vs) r) (putsE (wipeE env vs) l)) : St K ⟨F, H, fps (wipeE env vs)⟩ F' H' (wipe σ vs) (wipeE env vs) where
  len := by rw [wipe_length, wipeE_len]; have := s'.len; rw [putsE_len, wipeE_len] at this; rw [← this, putsV_len, wipe_length]
  sl := fun k s e => by
    by_cases hm : k ∈ vs
    · rw [wipeE_get, if_pos hm] at e
      obtain ⟨_, _, e⟩ := Option.map_eq_some_iff.mp e
      subst e
      trivial
    · have e2 : (putsE (wipeE env vs) l)[k]? = some s := by rw [putsE_get (i := k) fun q hq (z : q.1 = k) => hm (by rw [← z]; exact (hl q hq).1)]; exact e
      have q := s'.sl k s e2
      rw [putsV_get (i := k) fun q hq (z : q.1 = k) => hm (by rw [← z]; exact hidx q hq)] at q
      exact q
  nd := st.nd
  fr := fun a h => by
    obtain ⟨k, s, h1, h2⟩ := h
    by_cases hm : k ∈ vs
    · rw [wipeE_get, if_pos hm] at h1
      obtain ⟨_, _, e⟩ := Option.map_eq_some_iff.mp h1
      subst e
      cases h2
    · exact s'.fr a ⟨k, s, by rw [putsE_get (i := k) fun q hq (z : q.1 = k) => hm (by rw [← z]; exact (hl q hq).1)]; exact h1, h2⟩
  ex := s'.ex
  tf := s'.tf
  tk := s'.tk
  gt := s'.gt
  g1 := s'.g1
  g2 := fun a h => .inr (own_fps.mp h)
  g3 := s'.g3
  g4 := s'.g4
  g5 := s'.g5
  g6 := s'.g6
/-- what stood and no slot owns stays as it is, out of the frozen part -/
theorem St.keeps {D : Addr} {u : HO} (s2 : St K ⟨F, H, fps env⟩ F' H' σ' env') (hD : H D = some u) (hu : ntb u) (fD : F D = none) (oD : ¬ Own env D) : H' D = some u ∧ F' D = none := by
  refine ⟨s2.g1 D _ hD (fun z => oD (own_fps.mpr z)) hu, ?_⟩
  cases q : F' D with
  | none => rfl
  | some w =>
    rcases s2.g4 D (by rw [q]; intro z; cases z) with z | z
    · exact absurd fD z
    · have z' : H D = none := z
      rw [hD] at z'; cases z'
variable {scope : Scope} {own : List (Str × Nat)} {t : TG} {A : PyData → Option (List (Nat × PyData))} {Φ : Sl → Prop}
theorem wo_lcN (hc : X.calm = true) (hN : X.N.Nodup) (ok : BlkOk X.N X.env.scope scope own) (hpg : ∀ s H C cl fp, PG (BX X scope s H C cl fp) tg t) (htd : TGd X.K t A) (hwo : wipeOk env (own.map (·.2)) = true)
    (hi : WI X g tg iter env (fun xs => ∃ Pv : Nat → List PyData → Prop, Pv 0 [] ∧ (∀ i x, xs[i]? = some x → LTN X env scope elt (own.map (·.2)) A Pv i x) ∧ ∀ acc, Pv xs.length acc → ∀ s, IsNest (.list acc) s → Φ s) Ψ)
    (hs : ∀ x, foldedSetIterable iter X.env x = pure x := by intro _; rfl) : WO X g (.ListComp elt [⟨tg, iter, [], 0⟩] scope pos) env Φ Ψ := fun W tk σ F H st hx Q hQ => by
  refine semE_of (pe_lc hc hN piS ok hpg (ptsB (by decide)) peB hs) ?_
  refine hi W tk σ F H st hx _ fun xs J F1 H1 ⟨Pv, p0, pt, pe⟩ hlen s1 e1 ⟨GG, Y, hw, hG, hyy⟩ => fun D hD => ?_
  have st2 : St X.K g F1 (upd H1 D (.lst [])) (wipe σ (own.map (·.2))) (wipeE env (own.map (·.2))) := (s1.alloc hD).wiped _
  refine lc_it hw (LJN X.K g F1 (wipe σ (own.map (·.2))) (wipeE env (own.map (·.2))) Pv D) ⟨F1, [], [], st2, Ex.refl F1, upd_same, s1.ex.none hD, fun z => s1.there (own_wipe z) hD, s1.h0 hD, by simp, rfl, rfl, p0, fun r hr => by cases hr⟩ (fun i H2 _ ⟨F2, _, _, s3, e3, _⟩ => hG _ (e3.trans s3.ex)) (fun i x H2 H3 hi2 hJ hY => ?_) (fun H2 ⟨F2, as, ds, s3, e3, q1, q2, q3, q4, q5, q6, q7, q8, q9⟩ => ?_)
  · obtain ⟨F2, as, ds, s3, e3, q1, q2, q3, q4, q5, q6, q7, q8, q9⟩ := hJ
    obtain ⟨d, hd⟩ : ∃ d, xs[i]? = some d := ⟨xs[i], by simp [hi2]⟩
    obtain ⟨F3, s4, ex4, hv, exH, hF⟩ := hyy i d hd _ _ _ hY _ _ _ _ s3 e3
    obtain ⟨l, hAl, hl2, hb⟩ := pt i d hd _ q8
    have hl := lt_idx hl2
    have keep : ∀ b o, H2 b = some o → F2 b = none → F3 b = none := fun b o h1 h2 => by
      cases z : F3 b with
      | none => rfl
      | some u =>
        rcases hF b (by rw [z]; intro z; cases z) with w | w
        · exact absurd h2 w
        · rw [h1] at w; cases w
    refine htd d l (wipe σ (own.map (·.2))) F3 H3 x _ hAl s4.ex hv fun r sr => ?_
    have hidx : ∀ q ∈ r, q.1 ∈ own.map (·.2) := setsP_idx sr fun q hq => (hl q hq).1
    refine ⟨by rw [wipe_putsV hidx]; exact wipe_wipe σ _, ?_⟩
    unfold semTB tYes
    dsimp only
    rw [if_pos rfl]
    intro sh H0 C cl fp
    have st1 : St X.K ⟨F3, H3, fps (wipeE env (own.map (·.2)))⟩ F3 H3 (putsV (wipe σ (own.map (·.2))) r) (putsE (wipeE env (own.map (·.2))) l) := St.sets s4.toSk.base sr fun q hq => by rw [wipeE_len]; exact (hl q hq).2
    refine hb ⟨F3, H3, fps (wipeE env (own.map (·.2)))⟩ sh H0 C cl fp _ takesB _ F3 H3 st1 hxF _ fun ys w F4 H4 hp2 s5 e5 n5 => ?_
    obtain ⟨q, us, rfl, n1, n2, n3, n4, n6⟩ := n5
    have n6 : H3 q = none := n6
    have s6 := St.unputs s4 hl hidx s5
    have s7 := s4.rebase s6 fun _ h => h
    obtain ⟨kD1, kD2⟩ := St.keeps s6 (exH _ _ q1) (fun _ z => by cases z) (keep D _ q1 q2) q3
    have nqD : q ≠ D := fun z => by rw [z, exH _ _ q1] at n6; cases n6
    have nqa : ∀ b ∈ as, b ≠ q := fun b hb z => by
      have hb2 : b ∈ (as.zip ds).map Prod.fst := by rw [List.map_fst_zip (by omega)]; exact hb
      obtain ⟨r, hr, hrb⟩ := List.mem_map.mp hb2
      obtain ⟨vs, z1, _⟩ := q9 r hr
      have := exH _ _ z1
      rw [hrb, z, n6] at this; cases this
    refine ⟨as.map .ref, kD1, by rw [List.length_map]; omega, F4, as ++ [q], ds ++ [ys], ?_, e3.trans (ex4.trans e5), by rw [upd_same, List.map_append]; rfl, kD2, q3, q4, ?_, by simp [q6], by simp [q7], by rw [List.map_append]; exact hp2, fun r' hr' => ?_⟩
    · exact s7.untracked kD2 q3 q4
    · rw [← List.cons_append, List.nodup_append]
      refine ⟨q5, by simp, fun b hb c hc z => ?_⟩
      have hc : c = q := by simpa using hc
      rcases List.mem_cons.mp hb with rfl | hb
      · exact nqD (hc ▸ z.symm)
      · exact nqa b hb (z.trans hc)
    · rw [List.zip_append q6] at hr'
      rcases List.mem_append.mp hr' with hr' | hr'
      · obtain ⟨vs, z1, z2, z3, z4, z5⟩ := q9 r' hr'
        obtain ⟨k1, k2⟩ := St.keeps s6 (exH _ _ z1) (fun _ z => by cases z) (keep _ _ z1 z3) z4
        have ne : r'.1 ≠ D := fun z => (List.nodup_cons.mp q5).1 (z ▸ (List.of_mem_zip (a := r'.1) (b := r'.2) hr').1)
        exact ⟨vs, by rw [upd_ne ne]; exact k1, dpa_mono (ex4.trans e5) _ _ z2, k2, z4, z5⟩
      · have hr' : r' = (q, ys) := by simpa using hr'
        subst hr'
        refine ⟨us, by rw [upd_ne nqD]; exact n1, n2, n3, fun z => s4.there z n6, s4.h0 n6⟩
  · have s5 := s1.unwiped hwo s3 e3
    have no : ∀ b, ¬ Own (wipeE env (own.map (·.2))) b → ¬ Own env b := fun b h z => h (own_wipe' hwo z)
    have hzf : (as.zip ds).map Prod.fst = as := List.map_fst_zip (by omega)
    refine hQ (ooS D as ds) (.ref D) F2 H2 (pe _ q8 _ (.inl ⟨ds, D, as, rfl, rfl, q6⟩)) s5 (e1.trans e3) ⟨⟨rfl, ?_, ?_, fun r hr => ?_⟩, fun b hb => ?_⟩
    · rw [q1, zmap, hzf]
    · show (D :: (as.zip ds).map Prod.fst).Nodup
      rw [hzf]; exact q5
    · obtain ⟨vs, z1, z2, _⟩ := q9 r hr
      exact ⟨vs, z1, z2⟩
    · have hb : b ∈ D :: (as.zip ds).map Prod.fst := hb
      rcases List.mem_cons.mp hb with rfl | hb
      · exact ⟨q2, no _ q3, q4⟩
      · obtain ⟨r, hr, rfl⟩ := List.mem_map.mp hb
        obtain ⟨vs, z1, z2, z3, z4, z5⟩ := q9 r hr
        exact ⟨z3, no _ z4, z5⟩
theorem lcN {bd : PyData → KD → Prop → Prop} {Q : KL} {xs : List PyData} {vs : List Nat} (h : lcM bd Q xs [])
    (ht : ∀ x (kp : KD) (sk : Prop), bd x kp sk → ∃ l, A x = some l ∧ (l.all fun q => vs.elem q.1 && Nat.blt q.1 env.length) = true ∧ ∀ (g' : G) s H0 C cl fp, WN (BX X scope s H0 C cl fp) g' elt (putsE (wipeE env vs) l) (fun ys => kp (.list ys)) (fun _ => False)) (k : ∀ acc, Q acc → ∀ s, IsNest (.list acc) s → Φ s) :
    ∃ Pv : Nat → List PyData → Prop, Pv 0 [] ∧ (∀ i x, xs[i]? = some x → LTN X env scope elt vs A Pv i x) ∧ ∀ acc, Pv xs.length acc → ∀ s, IsNest (.list acc) s → Φ s := by
  refine ⟨fun i acc => lcM bd Q (xs.drop i) acc, h, fun i x hx acc hq => ?_, fun acc hq => k acc (by
    have hq : lcM bd Q (xs.drop xs.length) acc := hq
    rw [List.drop_length] at hq; exact hq)⟩
  have hi := (List.getElem?_eq_some_iff.mp hx).1
  have ed : xs.drop i = x :: xs.drop (i + 1) := by
    rw [List.drop_eq_getElem_cons hi]
    congr 1
    exact (List.getElem?_eq_some_iff.mp hx).2
  have hq : lcM bd Q (xs.drop i) acc := hq
  rw [ed] at hq
  exact ht x _ _ hq
/-! for x in a list of lists of one's own: the turn's thing is a row -/
theorem we_row (j i : Nat) {xn : Str} {q : Pos} {ak : Addr} {l : List PyData} {Φ : PyData → Bool → Prop} {al : Addr} {as : List Addr} {ds : List (List PyData)} (hz : (ak, l) ∈ as.zip ds) (h : Φ (.list l) false) (he : env[j]? = some (.v (.ref ak)) := by rfl) (he2 : env[i]? = some (ooS al as ds) := by rfl) (hN : X.N[j]? = some xn := by rfl)
    (hv : Vis X.env.scope xn := by first | exact Or.inl rfl | exact Or.inr (Or.inl rfl) | exact Or.inr (Or.inr rfl)) (hd : (xn == ("__debug__" : Str)) = false := by decide)
    (hcd : (xn == ("__classdict__" : Str)) = false := by decide) : WE X g (.Name xn q) env Φ Ψ := fun W tk σ F H st hx Q hQ => by
  have h1 : σ[j]?.getD none = some (.ref ak) := st.sl j _ he
  exact semE_of (pe_var hN hv hd hcd) ⟨_, getD_some h1, hQ _ false _ F H h st (Ex.refl F) ⟨ak, l, .inr (.inl ⟨i, al, _, he2, hz⟩), rfl, rfl⟩⟩
theorem w1_forN (i j : Nat) {yn : Str} {xn : Str} {q tp : Pos} {al : Addr} {as : List Addr} {ds : List (List PyData)} {τ υ : Type} {bd : PyData → τ → (τ → Prop) → (τ → Prop) → Prop} {Q : τ → Prop} {s0 : τ} (hp : PassesOwn (model X.prog X.w) X.A X.env X.xe) (hc : X.calm = true) (hNd : X.N.Nodup) (hl : as.length = ds.length)
    (h : forM bd Q (ds.map .list) s0) (mk : τ → υ → List Sl) (u0 : υ) (h0 : env = mk s0 u0) (hi : ∀ s u, (mk s u)[i]? = some (ooS al as ds)) (hj : ∀ s u, Nat.blt j (mk s u).length = true)
    (hend : ∀ s u, Q s → P.nx (mk s u))
    (hturn : (∀ s u, Q s → P.nx (mk s u)) → ∀ ak l s u (N : τ → Prop), (ak, l) ∈ as.zip ds → bd (.list l) s N Q → WS X g body ((mk s u).set j (.v (.ref ak))) (P.turn fun e => ∃ s' u', N s' ∧ e = mk s' u'))
    (hN : X.N[i]? = some xn := by rfl) (hv : Vis X.env.scope xn := by first | exact Or.inl rfl | exact Or.inr (Or.inl rfl) | exact Or.inr (Or.inr rfl)) (hd : (xn == ("__debug__" : Str)) = false := by decide)
    (hcd : (xn == ("__classdict__" : Str)) = false := by decide) (hNj : X.N[j]? = some yn := by rfl) (hy : Loc X.env.scope yn := by first | exact Or.inl rfl | exact Or.inr rfl) (hf : X.fn yn = true ∨ X.env.scope.names.lookup yn = some .local := by first | exact .inl rfl | exact .inr rfl) (hs : ∀ x, foldedSetIterable (.Name xn q) X.env x = pure x := by intro _; rfl) : W1 X g (.For (.Name yn tp) (.Name xn q) body [] pos) env P := fun W tk hx2 σ F H s0' D hD => by
  refine semP_of (ps_for hp hc piS (pg_name (i := j) hNd hNj hy hf) (pssS body) hs) ?_
  refine semI_of (pi_any (pe_var hN hv hd hcd)) ?_
  subst h0
  obtain ⟨k1, k2, k3, k4⟩ := s0'.sl i _ (hi _ _)
  refine ⟨_, getD_some k1, .inl ⟨al, _, rfl, SqL.of k2, fun hl2 => ?_⟩⟩
  have hzl : (as.zip ds).length = ds.length := by rw [List.length_zip]; omega
  let Pv : Nat → List Sl → Prop := fun m e => ∃ s u, forM bd Q ((ds.map PyData.list).drop m) s ∧ e = mk s u
  refine for_it walk_list (FJ X.K g F Pv) ⟨F, _, s0', Ex.refl F, _, _, h, rfl⟩ (fun m σ' H' _ ⟨F2, e2, s2, ex2, s, u, _, he2⟩ => SqL.of (by subst he2; exact (s2.sl i _ (hi _ _)).2.1)) (fun m x σ' H2 H3 hi2 hJ hY => ?_) (fun σ' H' hJ => ?_)
  · obtain ⟨F2, e2, s2, ex2, s, u, hf, he2⟩ := hJ
    subst he2
    obtain ⟨y1, y2⟩ := hY
    subst y1
    have hm : m < ds.length := by
      have : m < ((as.zip ds).map fun r => V.ref r.1).length := hi2
      rw [List.length_map, hzl] at this; exact this
    obtain ⟨ak, hz, hak⟩ := rowZ hl (List.getElem?_eq_getElem hm)
    have hx : x = .ref ak := by
      have y2' : ((as.zip ds).map fun r => V.ref r.1)[m]? = some x := y2
      rw [List.getElem?_map, hz] at y2'
      exact (Option.some.inj y2').symm
    subst hx
    have ed : (ds.map PyData.list).drop m = .list ds[m] :: (ds.map PyData.list).drop (m + 1) := by
      rw [List.drop_eq_getElem_cons (by rw [List.length_map]; exact hm), List.getElem_map]
    rw [ed] at hf
    have s3 := s2.setV (i := j) (v := .ref ak) (ltB (hj s u))
    exact hturn hend ak _ s u _ (List.mem_of_getElem? hz) hf W tk hx2 _ F2 _ s3 _ ⟨fun e2 σ' F' H' ⟨s', u', hq, he⟩ st' ex => ⟨F', e2, st', ex2.trans ex, _, _, hq, he⟩, hD.rt, fun e2 σ' F' H' q st' ex => hD.nx e2 σ' F' H' q st' (ex2.trans ex), fun e2 σ' F' H' ⟨s', u', hq, he⟩ st' ex => ⟨F', e2, st', ex2.trans ex, _, _, hq, he⟩⟩
  · obtain ⟨F2, e2, s2, ex2, s, u, hf, he2⟩ := hJ
    subst he2
    have hlen : ((as.zip ds).map fun r => V.ref r.1).length = ds.length := by rw [List.length_map, hzl]
    have hf : forM bd Q ((ds.map PyData.list).drop ((as.zip ds).map fun r => V.ref r.1).length) s := hf
    rw [hlen] at hf
    have ed : (ds.map PyData.list).drop ds.length = [] := by rw [List.drop_eq_nil_iff]; simp
    rw [ed] at hf
    exact hD.nx _ σ' F2 H' (hend s u hf) s2 ex2
/-- a row of s: where, what -/
def RowOf (s : Sl) (ak : Addr) (l : List PyData) : Prop := ∃ al as ds, s = ooS al as ds ∧ (ak, l) ∈ as.zip ds
theorem we_rowS (j i : Nat) {xn : Str} {q : Pos} {ak : Addr} {l : List PyData} {Φ : PyData → Bool → Prop} (hz : RowOf s ak l) (h : Φ (.list l) false) (he : env[j]? = some (.v (.ref ak)) := by rfl) (he2 : env[i]? = some s := by rfl) (hN : X.N[j]? = some xn := by rfl)
    (hv : Vis X.env.scope xn := by first | exact Or.inl rfl | exact Or.inr (Or.inl rfl) | exact Or.inr (Or.inr rfl)) (hd : (xn == ("__debug__" : Str)) = false := by decide)
    (hcd : (xn == ("__classdict__" : Str)) = false := by decide) : WE X g (.Name xn q) env Φ Ψ := by
  obtain ⟨al, as, ds, rfl, hz⟩ := hz
  exact we_row j i hz h he he2 hN hv hd hcd
theorem w1_forNS (i j : Nat) {yn : Str} {xn : Str} {q tp : Pos} {r : List PyData} {τ υ : Type} {bd : PyData → τ → (τ → Prop) → (τ → Prop) → Prop} {Q : τ → Prop} {s0 : τ} (hp : PassesOwn (model X.prog X.w) X.A X.env X.xe) (hc : X.calm = true) (hNd : X.N.Nodup) (hn : IsNest (.list r) s)
    (h : forM bd Q r s0) (mk : τ → υ → List Sl) (u0 : υ) (h0 : env = mk s0 u0) (hi : ∀ s' u, (mk s' u)[i]? = some s) (hj : ∀ s u, Nat.blt j (mk s u).length = true)
    (hend : ∀ s u, Q s → P.nx (mk s u))
    (hturn : (∀ s u, Q s → P.nx (mk s u)) → ∀ ak l s' u (N : τ → Prop), RowOf s ak l → bd (.list l) s' N Q → WS X g body ((mk s' u).set j (.v (.ref ak))) (P.turn fun e => ∃ s' u', N s' ∧ e = mk s' u'))
    (hN : X.N[i]? = some xn := by rfl) (hv : Vis X.env.scope xn := by first | exact Or.inl rfl | exact Or.inr (Or.inl rfl) | exact Or.inr (Or.inr rfl)) (hd : (xn == ("__debug__" : Str)) = false := by decide)
    (hcd : (xn == ("__classdict__" : Str)) = false := by decide) (hNj : X.N[j]? = some yn := by rfl) (hy : Loc X.env.scope yn := by first | exact Or.inl rfl | exact Or.inr rfl) (hf : X.fn yn = true ∨ X.env.scope.names.lookup yn = some .local := by first | exact .inl rfl | exact .inr rfl) (hs : ∀ x, foldedSetIterable (.Name xn q) X.env x = pure x := by intro _; rfl) : W1 X g (.For (.Name yn tp) (.Name xn q) body [] pos) env P := by
  obtain ⟨ds, al, as, rfl, rfl, hl⟩ := isn_list hn
  exact w1_forN i j hp hc hNd hl h mk u0 h0 hi hj hend (fun he ak l s' u N hz hb => hturn he ak l s' u N ⟨al, as, ds, rfl, hz⟩ hb) hN hv hd hcd hNj hy hf hs
def nestPop : PyData → KD → Prop
  | .list xs, K => popM xs fun r _ => K (.list r)
  | _, _ => False
theorem w1_popNX (i : Nat) {xn : Str} {q apos cpos : Pos} (hn : IsNest x s) (nM : ∀ b ∈ s.fp, b ∉ g.M) (h : nestPop x fun x' => ∀ s', IsNest x' s' → (∀ b ∈ s'.fp, b ∉ g.M) → P.nx (env.set i s')) (he : env[i]? = some s := by rfl) (hN : X.N[i]? = some xn := by rfl)
    (hv : Vis X.env.scope xn := by first | exact Or.inl rfl | exact Or.inr (Or.inl rfl) | exact Or.inr (Or.inr rfl)) (hd : (xn == ("__debug__" : Str)) = false := by decide)
    (hcd : (xn == ("__classdict__" : Str)) = false := by decide)
    (hbase : attributeBase (.Name xn q) "pop" X.env (eval (.Name xn q) X.env) = eval (.Name xn q) X.env := by rfl) (hline : (apos.endLine == cpos.line) = true := by rfl)
    (hs : swapsWith (.Call (.Attribute (.Name xn q) "pop" apos) [] [] cpos) none pos.line X.env = pure false := by rfl) :
    W1 X g (.Expr (.Call (.Attribute (.Name xn q) "pop" apos) [] [] cpos) pos) env P := by
  cases x with
  | list xs => exact w1_popN i hn nM h he hN hv hd hcd hbase hline hs
  | _ => exact (show False from h).elim
theorem nestPop_m {Q Q' : KD} (h : nestPop x Q) (k : ∀ r, Q r → Q' r) : nestPop x Q' := by
  cases x with
  | list xs => obtain ⟨r, y, e, h⟩ := h; exact ⟨r, y, e, k _ h⟩
  | _ => exact (show False from h).elim
theorem ws_joinSC {τ υ : Type} {st : Stmt} {bd : (τ → Prop) → Prop} {Q : τ → Prop} (h : joinM bd Q) (mk : τ → υ → List Sl) (C : τ → υ → Prop) (h1 : ∀ Q, bd Q → W1 X g st env (P.thn fun e => ∃ s u, Q s ∧ C s u ∧ e = mk s u)) (h2 : ∀ s u, C s u → Q s → WS X g rest (mk s u) P) : WS X g (st :: rest) env P :=
  ws_mid (fun e => ∃ s u, Q s ∧ C s u ∧ e = mk s u) (h1 Q h) fun e ⟨s, u, hq, hc, he⟩ => he ▸ h2 s u hc hq
theorem ixM_m {y : PyData} {Q Q' : KD} (h : ixM x y Q) (k : ∀ r, Q r → Q' r) : ixM x y Q' := by
  unfold ixM at *
  split at h
  · split at h
    · exact k _ h
    · exact h.elim
  · split at h
    · exact k _ h
    · exact h.elim
  · refine ⟨h.1, ?_⟩
    have h := h.2
    split at h
    · exact k _ h
    · exact h.elim
  · exact h.elim
theorem lstL {l : List PyData} {Q : KL} (h : lstO (.list l) Q) : Q l := h
end
end TL

namespace Tx
open PySem PySem.Spec PyProof.Rows L2 TL
/-! the row of products -/
def catl : List Int := [0, 1, 1, 2, 5, 14, 42, 132, 429, 1430, 4862, 16796, 58786, 208012, 742900, 2674440, 9694845, 35357670, 129644790, 477638700, 1767263190, 6564120420, 24466267020, 91482563640, 343059613650, 1289904147324, 4861946401452, 18367353072152, 69533550916004, 263747951750360, 1002242216651368, 3814986502092304, 14544636039226909, 55534064877048198, 212336130412243110, 812944042149730764, 3116285494907301262, 11959798385860453492, 45950804324621742364, 176733862787006701400, 680425371729975800390, 2622127042276492108820]
def cc (i : Nat) : Int := catl.getD i 0
abbrev ccD (i : Nat) : PyData := .int (cc i)
theorem cc_rec : ∀ m < 41, 2 ≤ m → ((List.range (m - 1)).map fun (j : Nat) => cc (1 + (j : Int)).toNat * cc ((m : Int) - (1 + (j : Int))).toNat).sum = cc m := by decide +kernel
theorem cc_lt : ∀ m < 42, (cc m).natAbs < 2 ^ 80 := by decide +kernel
theorem cc_pos : ∀ m < 42, 1 ≤ m → 0 < cc m := by decide +kernel
theorem cc_wide (i j : Int) (h : i.toNat < 42) (h2 : j.toNat < 42) : CMulW (cc i.toNat) (cc j.toNat) := wide_mul (cc_lt _ h) (cc_lt _ h2) (by decide) (by decide) (by decide)
theorem cc_div (i : Int) (m : Nat) (h0 : 1 ≤ m) (h : m < 42) : CDivW i (cc m) := wide_div (cc_pos m h h0) (cc_lt m h) (by decide) (by decide)
theorem cc_cat : ∀ m < 40, 1 ≤ m → cc m * 2 * (2 * (m : Int) - 1) / ((m : Int) + 1) = cc (m + 1) := by decide +kernel
/-! plans: numbers of faces and cuts -/
def lePP (p q : Int × Int) : Bool := decide (p.1 < q.1 ∨ (p.1 = q.1 ∧ p.2 ≤ q.2))
def ltPP (p q : Int × Int) : Bool := decide (p.1 < q.1 ∨ (p.1 = q.1 ∧ p.2 < q.2))
def sortPP (ps : List (Int × Int)) : List (Int × Int) := ps.mergeSort lePP
theorem srt_pp (ps : List (Int × Int)) : srt (ps.map ppD) = (sortPP ps).map ppD := by
  unfold srt sortPP
  have e := PySem.W.dataLe_ii (β := Int × Int) (fun p => p.1) (fun p => p.2)
  refine (List.map_mergeSort (r := lePP) (s := PySem.W.dataLe false id) fun a _ b _ => ?_).symm
  have e2 := congrFun (congrFun e a) b
  exact e2.symm
def planD (n : Int) (cs : List PyData) : PyData := .tuple [.int n, .tuple cs]
abbrev plD (n : Int) (cs : List (Int × Int)) : PyData := planD n (cs.map ppD)
def nrm (n : Int) (p : Int × Int) : Int × Int := (if p.2 % n < p.1 then p.2 % n else p.1, if p.2 % n > p.1 then p.2 % n else p.1)
def inF (p : Int × Int) (c : Int) : Bool := !decide (c = p.1) && !decide (c = p.2)
def inG (p : Int × Int) (c : Int) : Bool := decide (p.1 < c) && decide (c < p.2)
def two : List Bool → Bool
  | [a, b] => !decide (a = b)
  | _ => false
def crossB (p q : Int × Int) : Bool := two (([q.1, q.2].filter (inF p)).map (inG p))
def cutB (n : Int) (p : Int × Int) : Bool := decide (0 ≤ p.1) && (decide (p.1 + 1 < p.2) && decide (p.2 < n)) && !decide (p.1 = 0 ∧ p.2 = n - 1)
theorem eqv_ii (a b c d : Int) : PyData.eqv (.tuple [.int a, .int b]) (.tuple [.int c, .int d]) = decide (a = c ∧ b = d) := by
  simp only [PyData.eqv, PyData.eqvAll, Bool.and_true]
  by_cases h1 : a = c
  · by_cases h2 : b = d
    · simp [h1, h2]
    · simp [h1, h2]
  · simp [h1]
/-! pair_of -/
def o_pair_of : CT := fun args Φ Ψ => ∃ i j : Int, args = [.d (.int i), .d (.int j)] ∧ Φ (.rd (ppD (if j < i then j else i, if j > i then j else i))) args
/-! crossing -/
def o_crossing : CT := fun args Φ Ψ => ∃ p q : Int × Int, args = [.d (ppD p), .d (ppD q)] ∧ Φ (.rd (.bool (crossB p q))) args
/-! is_cut -/
def o_is_cut : CT := fun args Φ Ψ => ∃ (n : Int) (p : Int × Int), args = [.d (.int n), .d (ppD p)] ∧ Φ (.rd (.bool (cutB n p))) args
/-! is_plan -/
def adjB (cs : List (Int × Int)) : Bool := (List.range (cs.length - 1)).all fun i => ltPP (cs.getD i (0, 0)) (cs.getD (i + 1) (0, 0))
def nocB (cs : List (Int × Int)) : Bool := (List.range cs.length).all fun i => !((cs.take i).any fun d => crossB (cs.getD i (0, 0)) d)
def planB (n : Int) (cs : List (Int × Int)) : Bool := decide (3 ≤ n) && decide (n ≤ 40) && decide ((cs.length : Int) = n - 3) && cs.all (cutB n) && adjB cs && nocB cs
theorem ltPP_lex (p q : Int × Int) : HT.lexLt [p.1, p.2] [q.1, q.2] = ltPP p q := by
  unfold ltPP
  rw [HT.lexLt_cons, HT.lexLt_cons, HT.lexLt_nil_nil]
  by_cases h : p.1 = q.1
  · rw [if_pos h]
    by_cases h2 : p.2 = q.2
    · rw [if_pos h2]; symm; apply decide_eq_false; omega
    · rw [if_neg h2]; apply decide_eq_decide.mpr; omega
  · rw [if_neg h]; apply decide_eq_decide.mpr; omega
def o_is_plan : CT := fun args Φ Ψ => ∃ (n : Int) (cs : List (Int × Int)), args = [.d (plD n cs)] ∧ cs.length ≤ 1000 ∧ Φ (.rd (.bool (planB n cs))) args
/-! need_plan -/
def o_need_plan : CT := fun args Φ Ψ => ∃ (n : Int) (cs : List (Int × Int)), args = [.d (plD n cs)] ∧ cs.length ≤ 1000 ∧ (planB n cs = true → Φ (.rd .none) args) ∧ (planB n cs = false → Ψ (.own "BadPlan") args)
/-! what a good plan is -/
structure IsPlan (n : Int) (cs : List (Int × Int)) : Prop where
  lo : 3 ≤ n
  hi : n ≤ 40
  len : (cs.length : Int) = n - 3
  cut : ∀ c ∈ cs, 0 ≤ c.1 ∧ c.1 + 1 < c.2 ∧ c.2 < n ∧ ¬ (c.1 = 0 ∧ c.2 = n - 1)
  srt : cs.Pairwise fun p q => ltPP p q = true
  noc : ∀ c ∈ cs, ∀ d ∈ cs, crossB c d = false
theorem inF_t {p : Int × Int} {c : Int} (h1 : c ≠ p.1) (h2 : c ≠ p.2) : inF p c = true := by unfold inF; simp [h1, h2]
theorem inF_1 {p : Int × Int} {c : Int} (h1 : c = p.1) : inF p c = false := by unfold inF; simp [h1]
theorem inF_2 {p : Int × Int} {c : Int} (h1 : c = p.2) : inF p c = false := by unfold inF; simp [h1]
theorem cross_eq (p q : Int × Int) : crossB p q = decide (q.1 ≠ p.1 ∧ q.1 ≠ p.2 ∧ q.2 ≠ p.1 ∧ q.2 ≠ p.2 ∧ ¬ ((p.1 < q.1 ∧ q.1 < p.2) ↔ (p.1 < q.2 ∧ q.2 < p.2))) := by
  unfold crossB
  have k1 : ∀ x y : Bool, inF p q.1 = x → inF p q.2 = y → two (([q.1, q.2].filter (inF p)).map (inG p)) = (x && y && !decide (inG p q.1 = inG p q.2)) := fun x y h1 h2 => by
    cases x <;> cases y <;> simp [List.filter, h1, h2, two]
  have g : ∀ c, inG p c = decide (p.1 < c ∧ c < p.2) := fun c => by unfold inG; simp
  have key : (!decide (inG p q.1 = inG p q.2)) = decide (¬ ((p.1 < q.1 ∧ q.1 < p.2) ↔ (p.1 < q.2 ∧ q.2 < p.2))) := by
    rw [g, g]
    by_cases a : p.1 < q.1 ∧ q.1 < p.2 <;> by_cases b : p.1 < q.2 ∧ q.2 < p.2 <;> simp [a, b]
  by_cases h1 : q.1 = p.1
  · rw [k1 _ _ (inF_1 h1) rfl]; simp [h1]
  · by_cases h2 : q.1 = p.2
    · rw [k1 _ _ (inF_2 h2) rfl]; simp [h2]
    · by_cases h3 : q.2 = p.1
      · rw [k1 _ _ rfl (inF_1 h3)]; simp [h3]
      · by_cases h4 : q.2 = p.2
        · rw [k1 _ _ rfl (inF_2 h4)]; simp [h4]
        · rw [k1 _ _ (inF_t h1 h2) (inF_t h3 h4), key]
          apply decide_eq_decide.mpr
          constructor
          · exact fun h => ⟨h1, h2, h3, h4, h⟩
          · exact fun h => h.2.2.2.2
theorem cutB_iff (n : Int) (c : Int × Int) : cutB n c = true ↔ (0 ≤ c.1 ∧ c.1 + 1 < c.2 ∧ c.2 < n ∧ ¬ (c.1 = 0 ∧ c.2 = n - 1)) := by
  unfold cutB
  simp only [Bool.and_eq_true, decide_eq_true_eq, Bool.not_eq_true', decide_eq_false_iff_not]
  constructor
  · rintro ⟨⟨h1, h2, h3⟩, h4⟩; exact ⟨h1, h2, h3, h4⟩
  · rintro ⟨h1, h2, h3, h4⟩; exact ⟨⟨h1, h2, h3⟩, h4⟩
theorem ltPP_trans {p q r : Int × Int} (h1 : ltPP p q = true) (h2 : ltPP q r = true) : ltPP p r = true := by
  unfold ltPP at *
  have h1 := of_decide_eq_true h1
  have h2 := of_decide_eq_true h2
  apply decide_eq_true
  omega
theorem getD_at {cs : List (Int × Int)} {i : Nat} (h : i < cs.length) : cs.getD i (0, 0) = cs[i] := by rw [List.getD_eq_getElem?_getD, List.getElem?_eq_getElem h]; rfl
theorem planB_of {n : Int} {cs : List (Int × Int)} (h : IsPlan n cs) : planB n cs = true := by
  unfold planB
  rw [decide_eq_true h.lo, decide_eq_true h.hi, decide_eq_true h.len]
  have h4 : cs.all (cutB n) = true := List.all_eq_true.mpr fun c hc => (cutB_iff n c).mpr (h.cut c hc)
  have h5 : adjB cs = true := by
    unfold adjB
    refine List.all_eq_true.mpr fun i hi => ?_
    have hi := List.mem_range.mp hi
    rw [getD_at (by omega), getD_at (by omega)]
    exact List.pairwise_iff_getElem.mp h.srt i (i + 1) (by omega) (by omega) (by omega)
  have h6 : nocB cs = true := by
    unfold nocB
    refine List.all_eq_true.mpr fun i hi => ?_
    have hi := List.mem_range.mp hi
    rw [getD_at hi]
    have : (cs.take i).any (fun d => crossB cs[i] d) = false := List.any_eq_false.mpr fun d hd => by
      rw [h.noc _ (List.getElem_mem hi) d (List.mem_of_mem_take hd)]
      decide
    rw [this]
    rfl
  rw [h4, h5, h6]
  rfl
theorem cross_comm (p q : Int × Int) (hp : p.1 < p.2) (hq : q.1 < q.2) : crossB p q = crossB q p := by
  rw [cross_eq, cross_eq]
  apply decide_eq_decide.mpr
  omega
theorem cross_self (p : Int × Int) : crossB p p = false := by
  rw [cross_eq]
  apply decide_eq_false
  exact fun h => h.1 rfl
theorem planB_ok {n : Int} {cs : List (Int × Int)} (h : planB n cs = true) : IsPlan n cs := by
  unfold planB at h
  simp only [Bool.and_eq_true, decide_eq_true_eq] at h
  obtain ⟨⟨⟨⟨⟨h1, h2⟩, h3⟩, h4⟩, h5⟩, h6⟩ := h
  have hcut : ∀ c ∈ cs, 0 ≤ c.1 ∧ c.1 + 1 < c.2 ∧ c.2 < n ∧ ¬ (c.1 = 0 ∧ c.2 = n - 1) := fun c hc => (cutB_iff n c).mp (List.all_eq_true.mp h4 c hc)
  have adj : ∀ i, i + 1 < cs.length → ltPP (cs.getD i (0, 0)) (cs.getD (i + 1) (0, 0)) = true := fun i hi => List.all_eq_true.mp h5 i (List.mem_range.mpr (by omega))
  have far : ∀ d i, i + d + 1 < cs.length → ltPP (cs.getD i (0, 0)) (cs.getD (i + d + 1) (0, 0)) = true := fun d => by
    induction d with
    | zero => exact fun i hi => adj i hi
    | succ d ih => exact fun i hi => ltPP_trans (ih i (by omega)) (adj (i + d + 1) (by omega))
  have noc : ∀ i j, (hi : i < cs.length) → (hj : j < cs.length) → j < i → crossB cs[i] cs[j] = false := fun i j hi hj hji => by
    have q := List.all_eq_true.mp h6 i (List.mem_range.mpr hi)
    rw [getD_at hi] at q
    have q2 : (cs.take i).any (fun d => crossB cs[i] d) = false := by simpa using q
    have q3 := List.any_eq_false.mp q2 cs[j] (List.mem_take_iff_getElem.mpr ⟨j, by omega, rfl⟩)
    simpa using q3
  refine ⟨h1, h2, h3, hcut, List.pairwise_iff_getElem.mpr fun i j hi hj hij => ?_, fun c hc d hd => ?_⟩
  · have q := far (j - i - 1) i (by omega)
    rw [show i + (j - i - 1) + 1 = j by omega, getD_at hi, getD_at hj] at q
    exact q
  · obtain ⟨i, hi, rfl⟩ := List.getElem_of_mem hc
    obtain ⟨j, hj, rfl⟩ := List.getElem_of_mem hd
    have c1 := hcut _ (List.getElem_mem hi)
    have c2 := hcut _ (List.getElem_mem hj)
    rcases Nat.lt_trichotomy j i with z | z | z
    · exact noc i j hi hj z
    · subst z; exact cross_self _
    · rw [cross_comm _ _ (by omega) (by omega)]
      exact noc j i hj hi z
theorem lePP_total (p q : Int × Int) : (lePP p q || lePP q p) = true := by
  unfold lePP
  by_cases h : p.1 < q.1 ∨ (p.1 = q.1 ∧ p.2 ≤ q.2)
  · rw [decide_eq_true h]; rfl
  · rw [decide_eq_true (show q.1 < p.1 ∨ (q.1 = p.1 ∧ q.2 ≤ p.2) by omega), Bool.or_true]
theorem lePP_trans (p q r : Int × Int) (h1 : lePP p q = true) (h2 : lePP q r = true) : lePP p r = true := by
  unfold lePP at *
  have h1 := of_decide_eq_true h1
  have h2 := of_decide_eq_true h2
  apply decide_eq_true
  omega
theorem sortPP_perm (ps : List (Int × Int)) : (sortPP ps).Perm ps := List.mergeSort_perm ps lePP
theorem sortPP_lt {ps : List (Int × Int)} (nd : ps.Nodup) : (sortPP ps).Pairwise fun p q => ltPP p q = true := by
  have h1 : (sortPP ps).Pairwise fun p q => lePP p q = true := List.pairwise_mergeSort lePP_trans lePP_total ps
  have h2 : (sortPP ps).Nodup := (sortPP_perm ps).nodup_iff.mpr nd
  refine (h1.and h2).imp fun {p q} h => ?_
  have h3 := of_decide_eq_true h.1
  have h4 : p ≠ q := h.2
  apply decide_eq_true
  have : ¬ (p.1 = q.1 ∧ p.2 = q.2) := fun z => h4 (Prod.ext z.1 z.2)
  omega
/-! arcs as they are drawn -/
inductive Arcs : Int → Int → List (Int × Int) → Prop
  | leaf {s e : Int} : e - s ≤ 1 → Arcs s e []
  | node {s m e : Int} {a b : List (Int × Int)} : s < m → m < e → Arcs s m a → Arcs m e b → Arcs s e ((s, m) :: (m, e) :: (a ++ b))
theorem Arcs.len {s e : Int} {l : List (Int × Int)} (h : Arcs s e l) (hs : s < e) : (l.length : Int) ≤ 2 * (e - s) - 2 := by
  induction h with
  | leaf h => simp; omega
  | node h1 h2 _ _ ia ib =>
    have := ia h1
    have := ib h2
    simp only [List.length_cons, List.length_append]
    omega
def wide (p : Int × Int) : Bool := decide (p.2 - p.1 > 1)
def lam (p q : Int × Int) : Prop := p.2 ≤ q.1 ∨ q.2 ≤ p.1 ∨ (p.1 ≤ q.1 ∧ q.2 ≤ p.2) ∨ (q.1 ≤ p.1 ∧ p.2 ≤ q.2)
theorem Arcs.within {s e : Int} {l : List (Int × Int)} (h : Arcs s e l) (hs : s < e) : ∀ p ∈ l, s ≤ p.1 ∧ p.1 < p.2 ∧ p.2 ≤ e ∧ ¬ (p.1 = s ∧ p.2 = e) := by
  induction h with
  | leaf h => intro p hp; cases hp
  | node h1 h2 _ _ ia ib =>
    intro p hp
    rcases List.mem_cons.mp hp with rfl | hp
    · exact ⟨Int.le_refl _, h1, by omega, by omega⟩
    · rcases List.mem_cons.mp hp with rfl | hp
      · exact ⟨by omega, h2, Int.le_refl _, by omega⟩
      · rcases List.mem_append.mp hp with hp | hp
        · have := ia h1 p hp; omega
        · have := ib h2 p hp; omega
theorem Arcs.lams {s e : Int} {l : List (Int × Int)} (h : Arcs s e l) (hs : s < e) : ∀ p ∈ l, ∀ q ∈ l, lam p q := by
  induction h with
  | leaf h => intro p hp; cases hp
  | @node s m e a b h1 h2 ha hb ia ib =>
    have wa := ha.within h1
    have wb := hb.within h2
    have cases4 : ∀ p ∈ (s, m) :: (m, e) :: (a ++ b), p = (s, m) ∨ p = (m, e) ∨ p ∈ a ∨ p ∈ b := fun p hp => by
      rcases List.mem_cons.mp hp with h | hp
      · exact .inl h
      · rcases List.mem_cons.mp hp with h | hp
        · exact .inr (.inl h)
        · rcases List.mem_append.mp hp with h | h
          · exact .inr (.inr (.inl h))
          · exact .inr (.inr (.inr h))
    intro p hp q hq
    rcases cases4 p hp with rfl | rfl | hp | hp <;> rcases cases4 q hq with rfl | rfl | hq | hq
    all_goals first
      | exact ia h1 p hp q hq
      | exact ib h2 p hp q hq
      | (unfold lam; (try have x1 := wa p hp); (try have x2 := wb p hp); (try have x3 := wa q hq); (try have x4 := wb q hq); (try simp only at *); omega)
theorem Arcs.nodup {s e : Int} {l : List (Int × Int)} (h : Arcs s e l) (hs : s < e) : l.Nodup := by
  induction h with
  | leaf h => exact List.nodup_nil
  | @node s m e a b h1 h2 ha hb ia ib =>
    have wa := ha.within h1
    have wb := hb.within h2
    refine List.nodup_cons.mpr ⟨fun hm => ?_, List.nodup_cons.mpr ⟨fun hm => ?_, List.nodup_append.mpr ⟨ia h1, ib h2, fun x hx y hy z => ?_⟩⟩⟩
    · rcases List.mem_cons.mp hm with h | hm
      · have := congrArg Prod.fst h; simp only at this; omega
      · rcases List.mem_append.mp hm with h | h
        · exact (wa _ h).2.2.2 ⟨rfl, rfl⟩
        · exact absurd (show m ≤ s from (wb _ h).1) (by omega)
    · rcases List.mem_append.mp hm with h | h
      · exact absurd (show e ≤ m from (wa _ h).2.2.1) (by omega)
      · exact (wb _ h).2.2.2 ⟨rfl, rfl⟩
    · subst z
      have := wa _ hx
      have := wb _ hy
      omega
theorem Arcs.wides {s e : Int} {l : List (Int × Int)} (h : Arcs s e l) (hs : s < e) : ((l.filter wide).length : Int) = if e - s ≤ 1 then 0 else e - s - 2 := by
  induction h with
  | leaf h => rw [if_pos h]; rfl
  | @node s m e a b h1 h2 ha hb ia ib =>
    have x := ia h1
    have y := ib h2
    rw [if_neg (by omega)]
    have w1 : wide (s, m) = decide (m - s > 1) := rfl
    have w2 : wide (m, e) = decide (e - m > 1) := rfl
    by_cases c1 : m - s ≤ 1 <;> by_cases c2 : e - m ≤ 1
    all_goals
      (first | rw [if_pos c1] at x | rw [if_neg c1] at x)
      (first | rw [if_pos c2] at y | rw [if_neg c2] at y)
      have d1 : decide (m - s > 1) = !decide (m - s ≤ 1) := by by_cases h : m - s ≤ 1 <;> simp [h] <;> omega
      have d2 : decide (e - m > 1) = !decide (e - m ≤ 1) := by by_cases h : e - m ≤ 1 <;> simp [h] <;> omega
      simp only [List.filter_cons, List.filter_append, w1, w2, d1, d2, c1, c2, decide_true, decide_false, Bool.not_true, Bool.not_false, if_true, if_false, List.length_cons, List.length_append, Bool.false_eq_true]
      omega
/-- what a drawn row of arcs gives is a good plan -/
theorem arcs_plan {n : Int} {l : List (Int × Int)} (h3 : 3 ≤ n) (h40 : n ≤ 40) (h : Arcs 1 n l) : IsPlan n (sortPP ((l.filter wide).map (nrm n))) := by
  have hn : (1 : Int) < n := by omega
  have hw := h.within hn
  have hlm := h.lams hn
  have hlen := h.wides hn
  rw [if_neg (by omega)] at hlen
  have val : ∀ p ∈ l.filter wide, (p.2 < n ∧ nrm n p = p) ∨ (p.2 = n ∧ nrm n p = (0, p.1)) := fun p hp => by
    have hp1 := (List.mem_filter.mp hp).1
    have w := hw p hp1
    by_cases e : p.2 = n
    · right
      refine ⟨e, ?_⟩
      unfold nrm
      rw [e, Int.emod_self, if_pos (by omega), if_neg (by omega)]
    · left
      refine ⟨by omega, ?_⟩
      unfold nrm
      rw [Int.emod_eq_of_lt (by omega) (by omega), if_neg (by omega), if_pos (by omega)]
  have facts : ∀ p ∈ l.filter wide, 1 ≤ p.1 ∧ p.1 + 1 < p.2 ∧ p.2 ≤ n ∧ ¬ (p.1 = 1 ∧ p.2 = n) := fun p hp => by
    obtain ⟨hp1, hp2⟩ := List.mem_filter.mp hp
    have w := hw p hp1
    have w2 : p.2 - p.1 > 1 := of_decide_eq_true hp2
    omega
  have nd : ((l.filter wide).map (nrm n)).Nodup := by
    have nd0 : (l.filter wide).Nodup := (h.nodup hn).filter _
    refine List.pairwise_map.mpr (nd0.imp_of_mem fun {p q} hp hq hne z => hne ?_)
    have f1 := facts p hp
    have f2 := facts q hq
    rcases val p hp with ⟨a1, a2⟩ | ⟨a1, a2⟩ <;> rcases val q hq with ⟨b1, b2⟩ | ⟨b1, b2⟩
    · rw [a2, b2] at z; exact z
    · rw [a2, b2] at z
      have := congrArg Prod.fst z; simp only at this; omega
    · rw [a2, b2] at z
      have := congrArg Prod.fst z; simp only at this; omega
    · rw [a2, b2] at z
      have := congrArg Prod.snd z; simp only at this
      exact Prod.ext this (by omega)
  have mem : ∀ c ∈ sortPP ((l.filter wide).map (nrm n)), ∃ p ∈ l.filter wide, nrm n p = c := fun c hc => List.mem_map.mp ((sortPP_perm _).mem_iff.mp hc)
  refine ⟨h3, h40, ?_, fun c hc => ?_, sortPP_lt nd, fun c hc d hd => ?_⟩
  · rw [(sortPP_perm _).length_eq, List.length_map]; omega
  · obtain ⟨p, hp, rfl⟩ := mem c hc
    have f1 := facts p hp
    rcases val p hp with ⟨a1, a2⟩ | ⟨a1, a2⟩
    · rw [a2]; omega
    · rw [a2]; simp only; omega
  · obtain ⟨p, hp, rfl⟩ := mem c hc
    obtain ⟨q, hq, rfl⟩ := mem d hd
    have f1 := facts p hp
    have f2 := facts q hq
    have L := hlm p (List.mem_filter.mp hp).1 q (List.mem_filter.mp hq).1
    unfold lam at L
    rw [cross_eq]
    apply decide_eq_false
    rcases val p hp with ⟨a1, a2⟩ | ⟨a1, a2⟩ <;> rcases val q hq with ⟨b1, b2⟩ | ⟨b1, b2⟩ <;> rw [a2, b2] <;> (try simp only) <;> omega
/-! _law_pair -/
def o__law_pair : CT := fun args Φ Ψ => ∃ i j : Int, args = [.d (.int i), .d (.int j)] ∧ Φ (.rd (ppD (if j < i then j else i, if j > i then j else i))) args
/-! _law_bag -/
def absI (c : Int) : Int := if c < 0 then -c else c
theorem absI_nn (c : Int) : 0 ≤ absI c := by unfold absI; split <;> omega
def o__law_bag : CT := fun args Φ Ψ => ∃ ns : List Int, args = [.d (.list (ns.map .int))] ∧ ns.length ≤ 63 ∧ ∀ ds, BagD ds → Φ (.nl ds) args
/-! _law_pull -/
def o__law_pull : CT := fun args Φ Ψ => ∃ (b : Addr) (many : Int), args = [.bg b, .d (.int many)] ∧ 0 < many ∧ many.natAbs < 2 ^ 8000 ∧ ∀ r : Int, 0 ≤ r → r < many → Φ (.rd (.int r)) args
/-! _law_cut_arc -/
def o__law_cut_arc (N : Nat) : CT := fun args Φ Ψ => ∃ (b : Addr) (st en : Int) (f : Addr) (ds : List PyData), args = [.bg b, .d (.int st), .d (.int en), .ol f ds] ∧ st < en ∧ en - st ≤ N ∧ (ds.length : Int) + 2 * (en - st) ≤ 10000 ∧ ∀ l, Arcs st en l → Φ (.ar 3) [.bg b, .d (.int st), .d (.int en), .ol f (ds ++ l.map ppD)]
/-- the plan of the lines within the arc 1 .. n -/
def planOf (n : Int) (l : List (Int × Int)) : List (Int × Int) := sortPP ((l.filter wide).map (nrm n))
/-! _law_drawn_plan -/
def o__law_drawn_plan : CT := fun args Φ Ψ => ∃ (b : Addr) (n : Int), args = [.bg b, .d (.int n)] ∧ 3 ≤ n ∧ n ≤ 40 ∧ ∀ l, Arcs 1 n l → Φ (.rd (plD n (planOf n l))) args
/-! _law_plan -/
def o__law_plan : CT := fun args Φ Ψ => ∃ (b : Addr) (m : Int), args = [.bg b, .d (.int m)] ∧ 3 ≤ m ∧ m ≤ 40 ∧ ∀ n cs, IsPlan n cs → n ≤ m → Φ (.rd (plD n cs)) args
/-! follows -/
def o_follows : CT := fun args Φ Ψ => ∃ n i : Int, args = [.d (.int n), .d (.int i)] ∧ 0 < n ∧ Φ (.rd (.int ((i + 1) % n))) args
/-! all_lines: the sides and the cuts -/
def sides (n : Int) : List (Int × Int) := ((List.range (n.toNat - 1)).map fun (i : Nat) => ((i : Int), (i : Int) + 1)) ++ [(0, n - 1)]
def linesOf (n : Int) (cs : List (Int × Int)) : List (Int × Int) := sortPP (sides n ++ cs)
def sideAt (n i : Int) : Int × Int := (if (i + 1) % n < i then (i + 1) % n else i, if (i + 1) % n > i then (i + 1) % n else i)
theorem sides_eq {n : Int} (h : 2 ≤ n) : ((List.range n.toNat).map fun (i : Nat) => sideAt n i) = sides n := by
  unfold sides
  rw [show n.toNat = (n.toNat - 1) + 1 by omega, List.range_succ, List.map_append, Nat.add_sub_cancel]
  congr 1
  · refine List.map_congr_left fun i hi => ?_
    have hi := List.mem_range.mp hi
    unfold sideAt
    rw [Int.emod_eq_of_lt (by omega) (by omega), if_neg (by omega), if_pos (by omega)]
  · show [sideAt n ((n.toNat - 1 : Nat) : Int)] = _
    have e : (((n.toNat - 1 : Nat) : Int) + 1) % n = 0 := by
      rw [show ((n.toNat - 1 : Nat) : Int) + 1 = n by omega]; exact Int.emod_self
    unfold sideAt
    rw [e, if_pos (by omega), if_neg (by omega)]
    congr 2
    omega
theorem sides_len {n : Int} (h : 2 ≤ n) : ((sides n).length : Int) = n := by
  unfold sides
  simp only [List.length_append, List.length_map, List.length_range, List.length_cons, List.length_nil]
  omega
def o_all_lines : CT := fun args Φ Ψ => ∃ (n : Int) (cs : List (Int × Int)), args = [.d (plD n cs)] ∧ 2 ≤ n ∧ n ≤ 1000 ∧ cs.length ≤ 1000 ∧ Φ (.nl ((linesOf n cs).map ppD)) args
/-! _law_all_lines -/
def o__law_all_lines : CT := fun args Φ Ψ => ∃ (n : Int) (cs : List (Int × Int)), args = [.d (plD n cs)] ∧ 2 ≤ n ∧ n ≤ 1000 ∧ cs.length ≤ 1000 ∧ Φ (.nl ((linesOf n cs).map ppD)) args
/-! lines of a good plan -/
theorem pp_unique : ∀ {l m : List (Int × Int)}, l.Perm m → l.Pairwise (fun p q => ltPP p q = true) → m.Pairwise (fun p q => ltPP p q = true) → l = m
  | [], m, h, _, _ => (List.nil_perm.mp h).symm
  | a :: l, [], h, _, _ => absurd h.length_eq (by simp)
  | a :: l, b :: m, h, h1, h2 => by
    have no : ∀ {p q : Int × Int}, ltPP p q = true → ltPP q p = true → False := fun {p q} x y => by
      have x := of_decide_eq_true x
      have y := of_decide_eq_true y
      omega
    have e : a = b := by
      have ha : a ∈ b :: m := h.mem_iff.mp (List.mem_cons_self ..)
      have hb : b ∈ a :: l := h.mem_iff.mpr (List.mem_cons_self ..)
      rcases List.mem_cons.mp ha with e | ha
      · exact e
      · rcases List.mem_cons.mp hb with e | hb
        · exact e.symm
        · exact (no ((List.pairwise_cons.mp h1).1 b hb) ((List.pairwise_cons.mp h2).1 a ha)).elim
    subst e
    rw [pp_unique (List.perm_cons a |>.mp h) (List.pairwise_cons.mp h1).2 (List.pairwise_cons.mp h2).2]
theorem sortPP_eq {l m : List (Int × Int)} (h : l.Perm m) (nd : l.Nodup) : sortPP l = sortPP m :=
  pp_unique ((sortPP_perm l).trans (h.trans (sortPP_perm m).symm)) (sortPP_lt nd) (sortPP_lt (h.nodup_iff.mp nd))
structure LinesOk (n : Int) (L : List (Int × Int)) : Prop where
  nd : L.Nodup
  lt : ∀ p ∈ L, 0 ≤ p.1 ∧ p.1 < p.2 ∧ p.2 < n
theorem sides_mem {n : Int} (h : 2 ≤ n) {p : Int × Int} (hp : p ∈ sides n) : (0 ≤ p.1 ∧ p.2 = p.1 + 1 ∧ p.2 < n) ∨ (p.1 = 0 ∧ p.2 = n - 1) := by
  unfold sides at hp
  rcases List.mem_append.mp hp with hp | hp
  · obtain ⟨i, hi, rfl⟩ := List.mem_map.mp hp
    have hi := List.mem_range.mp hi
    exact .inl ⟨Int.natCast_nonneg i, rfl, show (i : Int) + 1 < n by omega⟩
  · have e : p = (0, n - 1) := by simpa using hp
    subst e
    right
    exact ⟨rfl, rfl⟩
theorem sides_nodup {n : Int} (h : 3 ≤ n) : (sides n).Nodup := by
  unfold sides
  refine List.nodup_append.mpr ⟨?_, by simp, fun a ha b hb z => ?_⟩
  · exact List.pairwise_map.mpr (List.nodup_range.imp fun hne z => hne (by have := congrArg Prod.fst z; simp only at this; omega))
  · obtain ⟨i, hi, rfl⟩ := List.mem_map.mp ha
    have hi := List.mem_range.mp hi
    have e : b = (0, n - 1) := by simpa using hb
    rw [e] at z
    have z1 := congrArg Prod.fst z
    have z2 := congrArg Prod.snd z
    simp only at z1 z2
    omega
theorem lines_nodup {n : Int} {cs : List (Int × Int)} (h : IsPlan n cs) : (sides n ++ cs).Nodup := by
  refine List.nodup_append.mpr ⟨sides_nodup h.lo, ?_, fun a ha b hb z => ?_⟩
  · exact h.srt.imp fun {p q} hl z => by
      subst z
      have := of_decide_eq_true hl
      omega
  · subst z
    have c := h.cut a hb
    have := h.lo
    rcases sides_mem (by omega) ha with s | s <;> omega
theorem lines_ok {n : Int} {cs : List (Int × Int)} (h : IsPlan n cs) : LinesOk n (linesOf n cs) where
  nd := (sortPP_perm _).nodup_iff.mpr (lines_nodup h)
  lt := fun p hp => by
    have hp := (sortPP_perm _).mem_iff.mp hp
    have := h.lo
    rcases List.mem_append.mp hp with s | s
    · rcases sides_mem (by omega) s with s | s <;> omega
    · have := h.cut p s
      omega
theorem lines_len {n : Int} {cs : List (Int × Int)} (h : IsPlan n cs) : ((linesOf n cs).length : Int) = 2 * n - 3 := by
  unfold linesOf
  rw [(sortPP_perm _).length_eq, List.length_append]
  have := sides_len (n := n) (by have := h.lo; omega)
  have := h.len
  omega
def swp (p : Int × Int) : Int × Int := (p.2, p.1)
def both (L : List (Int × Int)) : List (Int × Int) := L.flatMap fun p => [p, swp p]
theorem both_perm : ∀ L : List (Int × Int), (L ++ L.map swp).Perm (both L)
  | [] => .refl _
  | p :: L => by
    show (p :: (L ++ swp p :: L.map swp)).Perm (p :: swp p :: both L)
    exact .cons p ((List.perm_middle).trans (.cons _ (both_perm L)))
theorem both_nodup {n : Int} {L : List (Int × Int)} (h : LinesOk n L) : (L ++ L.map swp).Nodup := by
  have h2 : (L.map swp).Nodup := List.pairwise_map.mpr (h.nd.imp fun {p q} hne z => hne (Prod.ext (show p.1 = q.1 from congrArg Prod.snd z) (show p.2 = q.2 from congrArg Prod.fst z)))
  refine List.nodup_append.mpr ⟨h.nd, h2, fun a ha b hb z => ?_⟩
  obtain ⟨p, hp, rfl⟩ := List.mem_map.mp hb
  subst z
  have x := h.lt p hp
  have y := h.lt _ ha
  unfold swp at y
  simp only at y
  omega
def spots (n : Int) (cs : List (Int × Int)) : List (Int × Int) := sortPP (both (linesOf n cs))
def keyP (p : Int × Int) : List Key := [.inl p.1, .inl p.2]
def tied (L : List (Int × Int)) : List (List Key × PyData) := (both L).map fun p => (keyP p, .bool true)
theorem keyP_inj {p q : Int × Int} (h : keyP p = keyP q) : p = q := by
  unfold keyP at h
  injection h with h1 h2
  injection h2 with h2 _
  injection h1 with h1
  injection h2 with h2
  exact Prod.ext h1 h2
theorem both_app (L M : List (Int × Int)) : both (L ++ M) = both L ++ both M := List.flatMap_append ..
theorem tied_keys (L : List (Int × Int)) : (tied L).map (fun kv => PyData.tuple (kv.1.map kD)) = (both L).map ppD := by
  unfold tied
  rw [List.map_map]
  rfl
theorem shp_pp (L : List (Int × Int)) : SeqAt.shaped (.list (L.map ppD)) = true := by
  have h1 : ∀ M : List (Int × Int), PyData.canLayAll0 (M.map ppD) = true ∧ PyData.depthAll (M.map ppD) ≤ 1 := fun M => by
    induction M with
    | nil => exact ⟨rfl, Nat.zero_le _⟩
    | cons a M ih =>
      refine ⟨?_, ?_⟩
      · show (PyData.canLay0 (ppD a) && PyData.canLayAll0 (M.map ppD)) = true
        rw [ih.1]; rfl
      · show max (PyData.depth (ppD a)) (PyData.depthAll (M.map ppD)) ≤ 1
        exact Nat.max_le.mpr ⟨Nat.le_of_ble_eq_true rfl, ih.2⟩
  unfold SeqAt.shaped
  have e1 : PyData.canLay0 (.list (L.map ppD)) = true := (h1 L).1
  have e2 : PyData.depth (.list (L.map ppD)) ≤ 64 := by
    show PyData.depthAll (L.map ppD) + 1 ≤ 64
    have := (h1 L).2
    omega
  rw [e1, decide_eq_true e2]
  rfl
theorem any_pp (L : List (Int × Int)) (p : Int × Int) : ((L.map ppD).any fun z => PyData.eqv z (ppD p)) = decide (p ∈ L) := by
  have e : ∀ q : Int × Int, PyData.eqv (ppD q) (ppD p) = decide (q = p) := fun q => by
    have h := eqv_ii q.1 q.2 p.1 p.2
    refine h.trans (decide_eq_decide.mpr ⟨fun z => Prod.ext z.1 z.2, fun z => by subst z; exact ⟨rfl, rfl⟩⟩)
  induction L with
  | nil => rfl
  | cons a L ih =>
    show (PyData.eqv (ppD a) (ppD p) || (L.map ppD).any fun z => PyData.eqv z (ppD p)) = _
    rw [e, ih]
    by_cases h1 : a = p
    · simp [h1]
    · by_cases h2 : p ∈ L
      · simp [h2]
      · have h3 : ¬ p = a := fun z => h1 z.symm
        simp [h1, h2, h3]
theorem both_iff {n : Int} {L : List (Int × Int)} (h : LinesOk n L) (p : Int × Int) : p ∈ both L ↔ ((0 ≤ p.1 ∧ p.1 < n) ∧ (0 ≤ p.2 ∧ p.2 < n) ∧ ((if p.2 < p.1 then p.2 else p.1, if p.2 > p.1 then p.2 else p.1) : Int × Int) ∈ L) := by
  constructor
  · intro hm
    obtain ⟨t, ht, hp⟩ := List.mem_flatMap.mp hm
    have tl := h.lt t ht
    have hp : p = t ∨ p = swp t := by simpa using hp
    rcases hp with rfl | rfl
    · rw [if_neg (by omega), if_pos (by omega)]
      exact ⟨by omega, by omega, ht⟩
    · show (0 ≤ t.2 ∧ t.2 < n) ∧ (0 ≤ t.1 ∧ t.1 < n) ∧ ((if t.1 < t.2 then t.1 else t.2, if t.1 > t.2 then t.1 else t.2) : Int × Int) ∈ L
      rw [if_pos (by omega), if_neg (by omega)]
      exact ⟨by omega, by omega, ht⟩
  · rintro ⟨_, _, hm⟩
    have tl := h.lt _ hm
    simp only at tl
    by_cases c : p.1 < p.2
    · rw [if_neg (by omega), if_pos (by omega)] at hm
      exact List.mem_flatMap.mpr ⟨p, hm, List.mem_cons_self ..⟩
    · by_cases c2 : p.2 < p.1
      · rw [if_pos c2, if_neg (by omega)] at hm
        exact List.mem_flatMap.mpr ⟨(p.2, p.1), hm, by simp [swp]⟩
      · rw [if_neg c2, if_neg (by omega)] at tl
        omega
/-! _law_tied -/
def o__law_tied : CT := fun args Φ Ψ => ∃ (n : Int) (cs : List (Int × Int)), args = [.d (plD n cs)] ∧ IsPlan n cs ∧ Φ (.nt (tied (linesOf n cs))) args
/-! _law_spots -/
def o__law_spots : CT := fun args Φ Ψ => ∃ (n : Int) (cs : List (Int × Int)), args = [.d (plD n cs)] ∧ IsPlan n cs ∧ Φ (.nl ((spots n cs).map ppD)) args
/-! places -/
def o_places : CT := fun args Φ Ψ => ∃ (n : Int) (cs : List (Int × Int)), args = [.d (plD n cs)] ∧ IsPlan n cs ∧ Φ (.nl ((spots n cs).map ppD)) args
/-! _law_whole -/
def o__law_whole : CT := fun args Φ Ψ => ∃ d, args = [.d d] ∧ Φ (.rd (.bool (isTyB "int" d && !isTyB "bool" d))) args
/-! _law_alike -/
theorem ti_bool_bool (v : Bool) : isTyB "bool" (.bool v) = true := by show (L2.kitB "bool" "bool").getD false = true; decide +kernel
theorem ti_bool_int (v : Bool) : isTyB "int" (.bool v) = true := by show (L2.kitB "bool" "int").getD false = true; decide +kernel
theorem ti_bool_str (v : Bool) : isTyB "str" (.bool v) = false := by show (L2.kitB "bool" "str").getD false = false; decide +kernel
theorem ti_bool_list (v : Bool) : isTyB "list" (.bool v) = false := by show (L2.kitB "bool" "list").getD false = false; decide +kernel
theorem ti_bool_tuple (v : Bool) : isTyB "tuple" (.bool v) = false := by show (L2.kitB "bool" "tuple").getD false = false; decide +kernel
theorem ti_int_bool (v : Int) : isTyB "bool" (.int v) = false := by show (L2.kitB "int" "bool").getD false = false; decide +kernel
theorem ti_int_int (v : Int) : isTyB "int" (.int v) = true := by show (L2.kitB "int" "int").getD false = true; decide +kernel
theorem ti_int_str (v : Int) : isTyB "str" (.int v) = false := by show (L2.kitB "int" "str").getD false = false; decide +kernel
theorem ti_int_list (v : Int) : isTyB "list" (.int v) = false := by show (L2.kitB "int" "list").getD false = false; decide +kernel
theorem ti_int_tuple (v : Int) : isTyB "tuple" (.int v) = false := by show (L2.kitB "int" "tuple").getD false = false; decide +kernel
theorem ti_str_bool (v : Str) : isTyB "bool" (.str v) = false := by show (L2.kitB "str" "bool").getD false = false; decide +kernel
theorem ti_str_int (v : Str) : isTyB "int" (.str v) = false := by show (L2.kitB "str" "int").getD false = false; decide +kernel
theorem ti_str_str (v : Str) : isTyB "str" (.str v) = true := by show (L2.kitB "str" "str").getD false = true; decide +kernel
theorem ti_str_list (v : Str) : isTyB "list" (.str v) = false := by show (L2.kitB "str" "list").getD false = false; decide +kernel
theorem ti_str_tuple (v : Str) : isTyB "tuple" (.str v) = false := by show (L2.kitB "str" "tuple").getD false = false; decide +kernel
theorem ti_list_bool (v : List PyData) : isTyB "bool" (.list v) = false := by show (L2.kitB "list" "bool").getD false = false; decide +kernel
theorem ti_list_int (v : List PyData) : isTyB "int" (.list v) = false := by show (L2.kitB "list" "int").getD false = false; decide +kernel
theorem ti_list_str (v : List PyData) : isTyB "str" (.list v) = false := by show (L2.kitB "list" "str").getD false = false; decide +kernel
theorem ti_list_list (v : List PyData) : isTyB "list" (.list v) = true := by show (L2.kitB "list" "list").getD false = true; decide +kernel
theorem ti_list_tuple (v : List PyData) : isTyB "tuple" (.list v) = false := by show (L2.kitB "list" "tuple").getD false = false; decide +kernel
theorem ti_tuple_bool (v : List PyData) : isTyB "bool" (.tuple v) = false := by show (L2.kitB "tuple" "bool").getD false = false; decide +kernel
theorem ti_tuple_int (v : List PyData) : isTyB "int" (.tuple v) = false := by show (L2.kitB "tuple" "int").getD false = false; decide +kernel
theorem ti_tuple_str (v : List PyData) : isTyB "str" (.tuple v) = false := by show (L2.kitB "tuple" "str").getD false = false; decide +kernel
theorem ti_tuple_list (v : List PyData) : isTyB "list" (.tuple v) = false := by show (L2.kitB "tuple" "list").getD false = false; decide +kernel
theorem ti_tuple_tuple (v : List PyData) : isTyB "tuple" (.tuple v) = true := by show (L2.kitB "tuple" "tuple").getD false = true; decide +kernel
def okD : Nat → PyData → Bool
  | _, .none => true
  | _, .bool _ => true
  | _, .int _ => true
  | _, .str _ => true
  | N + 1, .list xs => decide (xs.length ≤ 10000000) && xs.all (okD N)
  | N + 1, .tuple xs => decide (xs.length ≤ 10000000) && xs.all (okD N)
  | _, _ => false
def o__law_alike (N : Nat) : CT := fun args Φ Ψ => ∃ x, args = [.d x, .d x] ∧ okD N x = true ∧ Φ (.rd (.bool true)) args
/-! need_place -/
def o_need_place : CT := fun args Φ Ψ => ∃ (n : Int) (cs : List (Int × Int)) (p : Int × Int), args = [.d (plD n cs), .d (ppD p)] ∧ IsPlan n cs ∧ (p ∈ both (linesOf n cs) → Φ (.rd .none) args) ∧ (p ∉ both (linesOf n cs) → Ψ (.own "BadPlace") args)
/-! over -/
def o_over : CT := fun args Φ Ψ => ∃ (n : Int) (cs : List (Int × Int)) (p : Int × Int), args = [.d (plD n cs), .d (ppD p)] ∧ IsPlan n cs ∧ (p ∈ both (linesOf n cs) → Φ (.rd (ppD (swp p))) args) ∧ (p ∉ both (linesOf n cs) → Ψ (.own "BadPlace") args)
end Tx

namespace Tx
open PySem PySem.Spec PyProof.Rows L2 TL
/-! the law's own draws, as plain transformers -/
def f__law_pull : PyData → KD → KX → Prop
  | .int m, K, _ => (0 < m ∧ m.natAbs < 2 ^ 8000) ∧ ∀ r : Int, 0 ≤ r → r < m → K (.int r)
  | _, _, _ => False
def c__law_pull : CT := fun args Φ Ψ => ∃ (b : Addr) (m : PyData) (K : KD) (E : KX), args = [.bg b, .d m] ∧ f__law_pull m K E ∧ (∀ r, K r → Φ (.rd r) args) ∧ ∀ c, E c → Ψ c args
def f__law_drawn_plan : PyData → KD → KX → Prop
  | .int n, K, _ => (3 ≤ n ∧ n ≤ 40) ∧ ∀ l, Arcs 1 n l → K (plD n (planOf n l))
  | _, _, _ => False
def c__law_drawn_plan : CT := fun args Φ Ψ => ∃ (b : Addr) (m : PyData) (K : KD) (E : KX), args = [.bg b, .d m] ∧ f__law_drawn_plan m K E ∧ (∀ r, K r → Φ (.rd r) args) ∧ ∀ c, E c → Ψ c args
def f__law_alike (x y : PyData) (K : KD) (_ : KX) : Prop := x = y ∧ okD 8 x = true ∧ K (.bool true)
def c__law_alike : CT := fun args Φ Ψ => ∃ (x y : PyData) (K : KD) (E : KX), args = [.d x, .d y] ∧ f__law_alike x y K E ∧ (∀ r, K r → Φ (.rd r) args) ∧ ∀ c, E c → Ψ c args
section
variable {n : Int} {cs : List (Int × Int)} {p q : Int × Int} {K : KD} {K2 : PyData → PyData → Prop} {Kb : KB} {m : Int} {E : KX} {x y : PyData}
theorem p_un_pl : un2 (plD n cs) K2 = K2 (.int n) (.tuple (cs.map ppD)) := rfl
theorem p_ix_pl0 : ixM (plD n cs) (.int 0) K = K (.int n) := rfl
theorem p_ix_pl1 : ixM (plD n cs) (.int 1) K = K (.tuple (cs.map ppD)) := rfl
theorem p_un_pp : un2 (ppD p) K2 = K2 (.int p.1) (.int p.2) := rfl
theorem p_ix_pp0 : ixM (ppD p) (.int 0) K = K (.int p.1) := rfl
theorem p_ix_pp1 : ixM (ppD p) (.int 1) K = K (.int p.2) := rfl
theorem p_mk {i j : Int} : PyData.tuple [.int i, .int j] = ppD (i, j) := rfl
theorem p_fold : ppD (p.1, p.2) = ppD p := rfl
theorem p_it_pp {Kl : KL} : itM (ppD p) Kl = Kl [.int p.1, .int p.2] := rfl
theorem shp_p (p : Int × Int) : SeqAt.shaped (ppD p) = true := rfl
theorem p_eq : eqM (ppD p) (ppD q) Kb = Kb (decide (p = q)) := by
  show (SeqAt.shaped (ppD p) = true ∧ SeqAt.shaped (ppD q) = true ∧ Kb (PyData.eqv (ppD p) (ppD q))) = _
  rw [show PyData.eqv (ppD p) (ppD q) = decide (p = q) by unfold ppD; rw [eqv_ii]; congr 1; exact propext ⟨fun h => Prod.ext h.1 h.2, fun h => by rw [h]; exact ⟨rfl, rfl⟩⟩]
  simp [shp_p]
theorem p_ne : neM (ppD p) (ppD q) Kb = Kb (!decide (p = q)) := by
  show (SeqAt.shaped (ppD p) = true ∧ SeqAt.shaped (ppD q) = true ∧ Kb (!PyData.eqv (ppD p) (ppD q))) = _
  rw [show PyData.eqv (ppD p) (ppD q) = decide (p = q) by unfold ppD; rw [eqv_ii]; congr 1; exact propext ⟨fun h => Prod.ext h.1 h.2, fun h => by rw [h]; exact ⟨rfl, rfl⟩⟩]
  simp [shp_p]
theorem p_in {L : List (Int × Int)} : inM (ppD p) (.list (L.map ppD)) Kb = Kb (decide (p ∈ L)) := by
  show inLstM (ppD p) (L.map ppD) Kb = _
  unfold inLstM
  rw [show fl (ppD p) = none from rfl]
  rw [any_pp]
  simp [shp_p, shp_pp]
theorem p_notIn {L : List (Int × Int)} : notInM (ppD p) (.list (L.map ppD)) Kb = Kb (!decide (p ∈ L)) := by unfold notInM; rw [p_in]
theorem p_lt : ltM (ppD p) (ppD q) Kb = Kb (ltPP p q) := by
  show Kb (HT.lexLt [p.1, p.2] [q.1, q.2]) = _
  rw [ltPP_lex]
theorem e__law_pull (h : 0 < m) (h2 : m < 1000000) : f__law_pull (.int m) K E = ∀ r : Int, 0 ≤ r → r < m → K (.int r) := by
  show ((0 < m ∧ m.natAbs < 2 ^ 8000) ∧ _) = _
  have e : m.natAbs < 2 ^ 8000 := nb (Nat.lt_of_lt_of_le (show m.natAbs < 2 ^ 20 by omega) (Nat.pow_le_pow_right (by decide) (by decide)))
  simp [h, e]
theorem e__law_drawn_plan (h : 3 ≤ m) (h2 : m ≤ 40) : f__law_drawn_plan (.int m) K E = ∀ l, Arcs 1 m l → K (plD m (planOf m l)) := by
  show ((3 ≤ m ∧ m ≤ 40) ∧ _) = _
  simp [h, h2]
theorem e__law_alike (h : okD 8 x = true) : f__law_alike x x K E = K (.bool true) := by unfold f__law_alike; simp [h]
end
end Tx

namespace Tx
open PySem PySem.Spec PyProof.Rows L2 TL
@[irreducible] def f_pair_of (one : PyData) (other : PyData) (K : KD) (E : KX) : Prop :=
  min2M one other fun r1 =>
  max2M one other fun r2 =>
  K (.tuple [r1, r2])
def c_pair_of : CT := fun args Φ Ψ => ∃ (one : PyData) (other : PyData) (K : KD) (E : KX), args = [.d one, .d other] ∧ f_pair_of one other K E ∧ (∀ r, K r → Φ (.rd r) args) ∧ ∀ c, E c → Ψ c args
@[irreducible] def f_crossing (one : PyData) (other : PyData) (K : KD) (E : KX) : Prop :=
  un2 one fun low1 high2 =>
  itM other fun xs4 =>
  lcM (fun corner5 kp sk => andM (fun Q => neM corner5 low1 fun b8 =>
  Q b8) (fun Q => neM corner5 high2 fun b9 =>
  Q b9) fun b7 =>
  (b7 = true → (andM (fun Q => ltM low1 corner5 Q) (fun Q => ltM corner5 high2 Q) fun b10 =>
  kp (.bool b10))) ∧ (b7 = false → sk)) (fun l6 =>
  andM (fun Q => lenM (.list l6) fun r13 =>
  eqM r13 (.int 2) fun b14 =>
  Q b14) (fun Q => ixM (.list l6) (.int 0) fun r15 =>
  ixM (.list l6) (.int 1) fun r16 =>
  neM r15 r16 fun b17 =>
  Q b17) fun b12 =>
  K (.bool b12)) xs4 []
def c_crossing : CT := fun args Φ Ψ => ∃ (one : PyData) (other : PyData) (K : KD) (E : KX), args = [.d one, .d other] ∧ f_crossing one other K E ∧ (∀ r, K r → Φ (.rd r) args) ∧ ∀ c, E c → Ψ c args
@[irreducible] def f_is_cut (faces : PyData) (cut : PyData) (K : KD) (E : KX) : Prop :=
  un2 cut fun low1 high2 =>
  andM (fun Q => leM (.int 0) low1 fun b5 =>
  Q b5) (fun Q => andM (fun Q => addM low1 (.int 1) fun r7 =>
  andM (fun Q => ltM r7 high2 Q) (fun Q => ltM high2 faces Q) fun b8 =>
  Q b8) (fun Q => subM faces (.int 1) fun r10 =>
  neM (.tuple [low1, high2]) (.tuple [(.int 0), r10]) fun b11 =>
  Q b11) fun b6 =>
  Q b6) fun b4 =>
  K (.bool b4)
def c_is_cut : CT := fun args Φ Ψ => ∃ (faces : PyData) (cut : PyData) (K : KD) (E : KX), args = [.d faces, .d cut] ∧ f_is_cut faces cut K E ∧ (∀ r, K r → Φ (.rd r) args) ∧ ∀ c, E c → Ψ c args
@[irreducible] def f_is_plan (plan : PyData) (K : KD) (E : KX) : Prop :=
  un2 plan fun faces1 cuts2 =>
  orM (fun Q => andM (fun Q => leM (.int 3) faces1 Q) (fun Q => leM faces1 (.int 40) Q) fun b5 =>
  Q (!b5)) (fun Q => lenM cuts2 fun r7 =>
  subM faces1 (.int 3) fun r8 =>
  neM r7 r8 fun b9 =>
  Q b9) fun b4 =>
  (b4 = true → (K (.bool false))) ∧ (b4 = false → (itM cuts2 fun xs13 =>
  lcM (fun cut14 kp sk => f_is_cut faces1 cut14 (fun r16 =>
  kp r16) (fun _ => False)) (fun l15 =>
  allM (.list l15) fun r17 =>
  boolM r17 fun b18 =>
  ((!b18) = true → (K (.bool false))) ∧ ((!b18) = false → (lenM cuts2 fun r23 =>
  rngM (.int 1) r23 fun xs22 =>
  forM (fun at_47 (_ : Unit) N48 B49 => subM at_47 (.int 1) fun r51 =>
  ixM cuts2 r51 fun r52 =>
  ixM cuts2 at_47 fun r53 =>
  ltM r52 r53 fun b54 =>
  ((!b54) = true → (K (.bool false))) ∧ ((!b54) = false → (N48 ()))) (fun (_ : Unit) =>
  enuM cuts2 fun xs25 =>
  forM (fun p28 (_ : Unit) N29 B30 => un2 p28 fun at_33 cut34 =>
  intO at_33 fun i37 =>
  slM cuts2 none (some i37) fun r38 =>
  itM r38 fun xs36 =>
  lcM (fun other39 kp sk => f_crossing cut34 other39 (fun r41 =>
  kp r41) (fun _ => False)) (fun l40 =>
  anyM (.list l40) fun r42 =>
  boolM r42 fun b43 =>
  (b43 = true → (K (.bool false))) ∧ (b43 = false → (N29 ()))) xs36 []) (fun (_ : Unit) =>
  K (.bool true)) xs25 ()) xs22 ()))) xs13 []))
def c_is_plan : CT := fun args Φ Ψ => ∃ (plan : PyData) (K : KD) (E : KX), args = [.d plan] ∧ f_is_plan plan K E ∧ (∀ r, K r → Φ (.rd r) args) ∧ ∀ c, E c → Ψ c args
@[irreducible] def f_need_plan (plan : PyData) (K : KD) (E : KX) : Prop :=
  f_is_plan plan (fun r1 =>
  boolM r1 fun b2 =>
  ((!b2) = true → (E (.own "BadPlan"))) ∧ ((!b2) = false → (K .none))) E
def c_need_plan : CT := fun args Φ Ψ => ∃ (plan : PyData) (K : KD) (E : KX), args = [.d plan] ∧ f_need_plan plan K E ∧ (∀ r, K r → Φ (.rd r) args) ∧ ∀ c, E c → Ψ c args
@[irreducible] def f_follows (faces : PyData) (face : PyData) (K : KD) (E : KX) : Prop :=
  addM face (.int 1) fun r1 =>
  modM r1 faces fun r2 =>
  K r2
def c_follows : CT := fun args Φ Ψ => ∃ (faces : PyData) (face : PyData) (K : KD) (E : KX), args = [.d faces, .d face] ∧ f_follows faces face K E ∧ (∀ r, K r → Φ (.rd r) args) ∧ ∀ c, E c → Ψ c args
@[irreducible] def f_all_lines (plan : PyData) (K : KL) (E : KX) : Prop :=
  un2 plan fun faces1 cuts2 =>
  rngM (.int 0) faces1 fun xs4 =>
  lcM (fun face5 kp sk => f_follows faces1 face5 (fun r7 =>
  f_pair_of face5 r7 (fun r8 =>
  kp r8) (fun _ => False)) (fun _ => False)) (fun l6 =>
  listM cuts2 fun l9 =>
  addM (.list l6) (.list l9) fun r10 =>
  sortM r10 fun l11 =>
  K l11) xs4 []
def c_all_lines : CT := fun args Φ Ψ => ∃ (plan : PyData) (K : KL) (E : KX), args = [.d plan] ∧ f_all_lines plan K E ∧ (∀ r, K r → Φ (.nl r) args) ∧ ∀ c, E c → Ψ c args
@[irreducible] def f_places (plan : PyData) (K : KL) (E : KX) : Prop :=
  f_need_plan plan (fun r1 =>
  f_all_lines plan (fun r2 =>
  itM (.list r2) fun xs3 =>
  lcM (fun p4 kp sk => un2 p4 fun low6 high7 =>
  kp (.tuple [high7, low6])) (fun l5 =>
  addM (.list r2) (.list l5) fun r9 =>
  sortM r9 fun l10 =>
  K l10) xs3 []) E) E
def c_places : CT := fun args Φ Ψ => ∃ (plan : PyData) (K : KL) (E : KX), args = [.d plan] ∧ f_places plan K E ∧ (∀ r, K r → Φ (.nl r) args) ∧ ∀ c, E c → Ψ c args
@[irreducible] def f_need_place (plan : PyData) (place : PyData) (K : KD) (E : KX) : Prop :=
  f_need_plan plan (fun r1 =>
  un2 place fun top2 under3 =>
  orM (fun Q => andM (fun Q => leM (.int 0) top2 Q) (fun Q => ixM plan (.int 0) fun r8 =>
  ltM top2 r8 Q) fun b6 =>
  Q (!b6)) (fun Q => orM (fun Q => andM (fun Q => leM (.int 0) under3 Q) (fun Q => ixM plan (.int 0) fun r12 =>
  ltM under3 r12 Q) fun b10 =>
  Q (!b10)) (fun Q => f_pair_of top2 under3 (fun r13 =>
  f_all_lines plan (fun r14 =>
  notInM r13 (.list r14) fun b15 =>
  Q b15) E) E) fun b9 =>
  Q b9) fun b5 =>
  (b5 = true → (E (.own "BadPlace"))) ∧ (b5 = false → (K .none))) E
def c_need_place : CT := fun args Φ Ψ => ∃ (plan : PyData) (place : PyData) (K : KD) (E : KX), args = [.d plan, .d place] ∧ f_need_place plan place K E ∧ (∀ r, K r → Φ (.rd r) args) ∧ ∀ c, E c → Ψ c args
@[irreducible] def f_over (plan : PyData) (place : PyData) (K : KD) (E : KX) : Prop :=
  f_need_place plan place (fun r1 =>
  ixM place (.int 1) fun r2 =>
  ixM place (.int 0) fun r3 =>
  K (.tuple [r2, r3])) E
def c_over : CT := fun args Φ Ψ => ∃ (plan : PyData) (place : PyData) (K : KD) (E : KX), args = [.d plan, .d place] ∧ f_over plan place K E ∧ (∀ r, K r → Φ (.rd r) args) ∧ ∀ c, E c → Ψ c args
@[irreducible] def f__law_all_lines (l_plan_here : PyData) (K : KL) (E : KX) : Prop :=
  un2 l_plan_here fun l_faces1 l_cuts2 =>
  subM l_faces1 (.int 1) fun r5 =>
  rngM (.int 0) r5 fun xs4 =>
  lcM (fun l_low6 kp sk => addM l_low6 (.int 1) fun r8 =>
  kp (.tuple [l_low6, r8])) (fun l7 =>
  subM l_faces1 (.int 1) fun r9 =>
  addM (.list l7) (.list [(.tuple [(.int 0), r9])]) fun r10 =>
  listM l_cuts2 fun l11 =>
  addM r10 (.list l11) fun r12 =>
  sortM r12 fun l13 =>
  K l13) xs4 []
def c__law_all_lines : CT := fun args Φ Ψ => ∃ (l_plan_here : PyData) (K : KL) (E : KX), args = [.d l_plan_here] ∧ f__law_all_lines l_plan_here K E ∧ (∀ r, K r → Φ (.nl r) args) ∧ ∀ c, E c → Ψ c args
@[irreducible] def f__law_pair (l_one : PyData) (l_other : PyData) (K : KD) (E : KX) : Prop :=
  min2M l_one l_other fun r1 =>
  max2M l_one l_other fun r2 =>
  K (.tuple [r1, r2])
def c__law_pair : CT := fun args Φ Ψ => ∃ (l_one : PyData) (l_other : PyData) (K : KD) (E : KX), args = [.d l_one, .d l_other] ∧ f__law_pair l_one l_other K E ∧ (∀ r, K r → Φ (.rd r) args) ∧ ∀ c, E c → Ψ c args
@[irreducible] def f__law_plan (l_most : PyData) (K : KD) (E : KX) : Prop :=
  subM l_most (.int 2) fun r1 =>
  f__law_pull r1 (fun r2 =>
  addM (.int 3) r2 fun r3 =>
  f__law_drawn_plan r3 (fun r4 =>
  K r4) E) E
def c__law_plan : CT := fun args Φ Ψ => ∃ (a_l_bag_here : Addr) (l_most : PyData) (K : KD) (E : KX), args = [.bg a_l_bag_here, .d l_most] ∧ f__law_plan l_most K E ∧ (∀ r, K r → Φ (.rd r) args) ∧ ∀ c, E c → Ψ c args
@[irreducible] def f__law_tied (l_plan_here : PyData) (K : (List (List Key × PyData) → Prop)) (E : KX) : Prop :=
  f__law_all_lines l_plan_here (fun r3 =>
  itM (.list r3) fun xs2 =>
  forM (fun p8 l_held11 N9 B10 => un2 p8 fun l_low15 l_high16 =>
  putTM l_held11 (.tuple [l_low15, l_high16]) (.bool true) fun kv18 =>
  putTM kv18 (.tuple [l_high16, l_low15]) (.bool true) fun kv19 =>
  N9 kv19) (fun l_held4 =>
  K l_held4) xs2 []) E
def c__law_tied : CT := fun args Φ Ψ => ∃ (l_plan_here : PyData) (K : (List (List Key × PyData) → Prop)) (E : KX), args = [.d l_plan_here] ∧ f__law_tied l_plan_here K E ∧ (∀ r, K r → Φ (.nt r) args) ∧ ∀ c, E c → Ψ c args
@[irreducible] def f__law_spots (l_plan_here : PyData) (K : KL) (E : KX) : Prop :=
  f__law_tied l_plan_here (fun r1 =>
  sortM (.list (keysT r1)) fun l2 =>
  K l2) E
def c__law_spots : CT := fun args Φ Ψ => ∃ (l_plan_here : PyData) (K : KL) (E : KX), args = [.d l_plan_here] ∧ f__law_spots l_plan_here K E ∧ (∀ r, K r → Φ (.nl r) args) ∧ ∀ c, E c → Ψ c args
@[irreducible] def f__law_whole (l_found : PyData) (K : KD) (E : KX) : Prop :=
  andM (fun Q => Q (isTyB "int" l_found)) (fun Q => Q (!(isTyB "bool" l_found))) fun b1 =>
  K (.bool b1)
def c__law_whole : CT := fun args Φ Ψ => ∃ (l_found : PyData) (K : KD) (E : KX), args = [.d l_found] ∧ f__law_whole l_found K E ∧ (∀ r, K r → Φ (.rd r) args) ∧ ∀ c, E c → Ψ c args
@[irreducible] def f_law_k11 (script : PyData) (K : KD) (E : KX) : Prop :=
  f__law_pull (.int 3) (fun r1 =>
  ixM (.list [(.int 6), (.int 12), (.int 40)]) r1 fun r2 =>
  f__law_plan r2 (fun r3 =>
  f__law_spots r3 (fun r4 =>
  rngM (.int 0) (.int 2) fun xs5 =>
  forM (fun l_turn16 (_ : Unit) N17 B18 => f_places r3 (fun r21 =>
  orM (fun Q => f__law_alike (.list r21) (.list r4) (fun r24 =>
  boolM r24 fun b25 =>
  Q (!b25)) E) (fun Q => lenM (.list r21) fun r27 =>
  ixM r3 (.int 0) fun r28 =>
  mulM (.int 4) r28 fun r29 =>
  subM r29 (.int 6) fun r30 =>
  neM r27 r30 fun b31 =>
  Q b31) fun b23 =>
  (b23 = true → (K (.bool false))) ∧ (b23 = false → (r21.length < sizeLine ∧ (N17 ())))) E) (fun (_ : Unit) =>
  itM (.list r4) fun xs8 =>
  lcM (fun l_spot9 kp sk => f_over r3 l_spot9 (fun r11 =>
  ixM l_spot9 (.int 1) fun r12 =>
  ixM l_spot9 (.int 0) fun r13 =>
  f__law_alike r11 (.tuple [r12, r13]) (fun r14 =>
  kp r14) (fun _ => False)) (fun _ => False)) (fun l10 =>
  allM (.list l10) fun r15 =>
  K r15) xs8 []) xs5 ()) E) E) E
section
variable {K : KD} {Kl : KL} {E : KX} {n i j : Int} {cs : List (Int × Int)} {p q : Int × Int}
def nrmP (i j : Int) : Int × Int := (if j < i then j else i, if j > i then j else i)
theorem e_pair_of : f_pair_of (.int i) (.int j) K E = K (ppD (nrmP i j)) := by
  unfold f_pair_of; simp only [q_add_ii, q_add_ss, q_add_ll, q_add_tt, q_addL, q_sub, q_mul, q_div, q_mod, q_neg, q_bool, q_eq_ii, q_eq_ss, q_eq_bb, q_ne_ii, q_ne_ss, q_ne_bb, q_lt, q_le, q_gt, q_ge, q_un2, q_un3, q_un4, q_intO, q_len_l, q_len_t, q_len_s, q_abs, q_int_i, q_int_b, q_tup_l, q_tup_t, q_list_l, q_list_t, q_min, q_max, q_it_l, q_it_t, q_rng, q_enu_l, q_enu_t, q_rev, q_sl_l, q_sl_t, q_sl_s, q_slL, q_all, q_any, q_sum, q_sort_pp, q_and, q_or, q_ite, q_join, cond_true, cond_false, true_and, and_true, decide_eq_true_eq, decide_true, decide_false, p_un_pl, p_ix_pl0, p_ix_pl1, p_un_pp, p_ix_pp0, p_ix_pp1, p_mk, p_eq, p_ne, p_in, p_notIn, p_lt]; rfl
theorem e__law_pair : f__law_pair (.int i) (.int j) K E = K (ppD (nrmP i j)) := by
  unfold f__law_pair; simp only [q_add_ii, q_add_ss, q_add_ll, q_add_tt, q_addL, q_sub, q_mul, q_div, q_mod, q_neg, q_bool, q_eq_ii, q_eq_ss, q_eq_bb, q_ne_ii, q_ne_ss, q_ne_bb, q_lt, q_le, q_gt, q_ge, q_un2, q_un3, q_un4, q_intO, q_len_l, q_len_t, q_len_s, q_abs, q_int_i, q_int_b, q_tup_l, q_tup_t, q_list_l, q_list_t, q_min, q_max, q_it_l, q_it_t, q_rng, q_enu_l, q_enu_t, q_rev, q_sl_l, q_sl_t, q_sl_s, q_slL, q_all, q_any, q_sum, q_sort_pp, q_and, q_or, q_ite, q_join, cond_true, cond_false, true_and, and_true, decide_eq_true_eq, decide_true, decide_false, p_un_pl, p_ix_pl0, p_ix_pl1, p_un_pp, p_ix_pp0, p_ix_pp1, p_mk, p_eq, p_ne, p_in, p_notIn, p_lt]; rfl
theorem e_follows (h : 0 < n) : f_follows (.int n) (.int i) K E = K (.int ((i + 1) % n)) := by
  unfold f_follows; simp only [q_add_ii, q_add_ss, q_add_ll, q_add_tt, q_addL, q_sub, q_mul, q_div, q_mod, q_neg, q_bool, q_eq_ii, q_eq_ss, q_eq_bb, q_ne_ii, q_ne_ss, q_ne_bb, q_lt, q_le, q_gt, q_ge, q_un2, q_un3, q_un4, q_intO, q_len_l, q_len_t, q_len_s, q_abs, q_int_i, q_int_b, q_tup_l, q_tup_t, q_list_l, q_list_t, q_min, q_max, q_it_l, q_it_t, q_rng, q_enu_l, q_enu_t, q_rev, q_sl_l, q_sl_t, q_sl_s, q_slL, q_all, q_any, q_sum, q_sort_pp, q_and, q_or, q_ite, q_join, cond_true, cond_false, true_and, and_true, decide_eq_true_eq, decide_true, decide_false, p_un_pl, p_ix_pl0, p_ix_pl1, p_un_pp, p_ix_pp0, p_ix_pp1, p_mk, p_eq, p_ne, p_in, p_notIn, p_lt, h]
theorem e_all_lines (h2 : 2 ≤ n) (hn : n ≤ 1000) (hc : cs.length ≤ 1000) : f_all_lines (plD n cs) Kl E = Kl ((linesOf n cs).map ppD) := by
  unfold f_all_lines
  have hsd := sides_len h2
  have hsl := sizeLine_eq
  have g1 : -1000000 ≤ n ∧ n ≤ 1000000 := by omega
  simp only [q_add_ii, q_add_ss, q_add_ll, q_add_tt, q_addL, q_sub, q_mul, q_div, q_mod, q_neg, q_bool, q_eq_ii, q_eq_ss, q_eq_bb, q_ne_ii, q_ne_ss, q_ne_bb, q_lt, q_le, q_gt, q_ge, q_un2, q_un3, q_un4, q_intO, q_len_l, q_len_t, q_len_s, q_abs, q_int_i, q_int_b, q_tup_l, q_tup_t, q_list_l, q_list_t, q_min, q_max, q_it_l, q_it_t, q_rng, q_enu_l, q_enu_t, q_rev, q_sl_l, q_sl_t, q_sl_s, q_slL, q_all, q_any, q_sum, q_sort_pp, q_and, q_or, q_ite, q_join, cond_true, cond_false, true_and, and_true, decide_eq_true_eq, decide_true, decide_false, p_un_pl, p_ix_pl0, p_ix_pl1, p_un_pp, p_ix_pp0, p_ix_pp1, p_mk, p_eq, p_ne, p_in, p_notIn, p_lt, range0]
  rw [q_lc_map _ _ (fun i : Nat => ppD (sideAt n i)) fun a ha k s => by
    simp only [e_follows (n := n) (by omega : 0 < n), e_pair_of]; rfl]
  have em : ((List.range n.toNat).map fun (j : Nat) => ppD (sideAt n j)) = (sides n).map ppD := by rw [← sides_eq h2, List.map_map]; rfl
  rw [List.nil_append, em]
  have g2 : ((sides n).map ppD).length + (cs.map ppD).length ≤ sizeLine := by simp only [List.length_map]; omega
  simp only [g1, g2, true_and, ← List.map_append, q_sort_pp, srt_pp, linesOf]
  simp
theorem e_crossing : f_crossing (ppD p) (ppD q) K E = K (.bool (crossB p q)) := by
  unfold f_crossing
  simp only [q_add_ii, q_add_ss, q_add_ll, q_add_tt, q_addL, q_sub, q_mul, q_div, q_mod, q_neg, q_bool, q_eq_ii, q_eq_ss, q_eq_bb, q_ne_ii, q_ne_ss, q_ne_bb, q_lt, q_le, q_gt, q_ge, q_un2, q_un3, q_un4, q_intO, q_len_l, q_len_t, q_len_s, q_abs, q_int_i, q_int_b, q_tup_l, q_tup_t, q_list_l, q_list_t, q_min, q_max, q_it_l, q_it_t, q_rng, q_enu_l, q_enu_t, q_rev, q_sl_l, q_sl_t, q_sl_s, q_slL, q_all, q_any, q_sum, q_sort_pp, q_and, q_or, q_ite, q_join, cond_true, cond_false, true_and, and_true, decide_eq_true_eq, decide_true, decide_false, p_un_pl, p_ix_pl0, p_ix_pl1, p_un_pp, p_ix_pp0, p_ix_pp1, p_mk, p_eq, p_ne, p_in, p_notIn, p_lt, p_it_pp]
  rw [show [PyData.int q.1, .int q.2] = [q.1, q.2].map .int from rfl]
  rw [q_lc_fil _ _ (inF p) (fun c => .bool (inG p c)) fun c hc k s => by
    simp only [q_add_ii, q_add_ss, q_add_ll, q_add_tt, q_addL, q_sub, q_mul, q_div, q_mod, q_neg, q_bool, q_eq_ii, q_eq_ss, q_eq_bb, q_ne_ii, q_ne_ss, q_ne_bb, q_lt, q_le, q_gt, q_ge, q_un2, q_un3, q_un4, q_intO, q_len_l, q_len_t, q_len_s, q_abs, q_int_i, q_int_b, q_tup_l, q_tup_t, q_list_l, q_list_t, q_min, q_max, q_it_l, q_it_t, q_rng, q_enu_l, q_enu_t, q_rev, q_sl_l, q_sl_t, q_sl_s, q_slL, q_all, q_any, q_sum, q_sort_pp, q_and, q_or, q_ite, q_join, cond_true, cond_false, true_and, and_true, decide_eq_true_eq, decide_true, decide_false, p_un_pl, p_ix_pl0, p_ix_pl1, p_un_pp, p_ix_pp0, p_ix_pp1, p_mk, p_eq, p_ne, p_in, p_notIn, p_lt, inF, inG]]
  rw [List.nil_append, show (([q.1, q.2].filter (inF p)).map fun c => PyData.bool (inG p c)) = (([q.1, q.2].filter (inF p)).map (inG p)).map .bool by rw [List.map_map]; rfl]
  unfold crossB
  generalize (([q.1, q.2].filter (inF p)).map (inG p)) = bs
  match bs with
  | [] => exact q_and' (b1 := false) (fun Q => rfl) (b2 := false) (fun e => by cases e)
  | [a] => exact q_and' (b1 := false) (fun Q => rfl) (b2 := false) (fun e => by cases e)
  | [a, b] => exact q_and' (b1 := true) (fun Q => rfl) (fun e Q => rfl)
  | a :: b :: c :: r =>
    refine q_and' (b1 := false) (fun Q => ?_) (b2 := false) (fun e => by cases e)
    show Q (decide (((List.length (PyData.bool a :: PyData.bool b :: PyData.bool c :: r.map PyData.bool) : Nat) : Int) = 2)) = _
    rw [decide_eq_false (by simp only [List.length_cons]; omega)]
theorem dec_pair {a b c d : Int} : decide ((a, b) = (c, d)) = decide (a = c ∧ b = d) := by
  congr 1; exact propext (Prod.ext_iff (x := (a, b)) (y := (c, d)))
theorem e_is_cut : f_is_cut (.int n) (ppD p) K E = K (.bool (cutB n p)) := by
  unfold f_is_cut
  simp only [q_add_ii, q_add_ss, q_add_ll, q_add_tt, q_addL, q_sub, q_mul, q_div, q_mod, q_neg, q_bool, q_eq_ii, q_eq_ss, q_eq_bb, q_ne_ii, q_ne_ss, q_ne_bb, q_lt, q_le, q_gt, q_ge, q_un2, q_un3, q_un4, q_intO, q_len_l, q_len_t, q_len_s, q_abs, q_int_i, q_int_b, q_tup_l, q_tup_t, q_list_l, q_list_t, q_min, q_max, q_it_l, q_it_t, q_rng, q_enu_l, q_enu_t, q_rev, q_sl_l, q_sl_t, q_sl_s, q_slL, q_all, q_any, q_sum, q_sort_pp, q_and, q_or, q_ite, q_join, cond_true, cond_false, true_and, and_true, decide_eq_true_eq, decide_true, decide_false, p_un_pl, p_ix_pl0, p_ix_pl1, p_un_pp, p_ix_pp0, p_ix_pp1, p_mk, p_eq, p_ne, p_in, p_notIn, p_lt, dec_pair]
  simp only [cutB, Bool.and_assoc]
theorem at_cs {i : Int} (h0 : 0 ≤ i) (h : i < cs.length) : ixM (.tuple (cs.map ppD)) (.int i) K = K (ppD (cs.getD i.toNat (0, 0))) := by
  show (match atI (cs.map ppD) i with | some y => K y | none => False) = _
  have e : (cs.map ppD)[i.toNat]? = some (ppD (cs.getD i.toNat (0, 0))) := by
    rw [List.getElem?_map, List.getD_eq_getElem?_getD]
    rw [List.getElem?_eq_getElem (show i.toNat < cs.length by omega)]
    rfl
  rw [at_nat h0 e]
theorem cut_pp {j : Int} (h0 : 0 ≤ j) (h : j ≤ cs.length) : cut (cs.map ppD) none (some j) = (cs.take j.toNat).map ppD := by
  obtain ⟨k, rfl⟩ : ∃ k : Nat, j = k := ⟨j.toNat, by omega⟩
  unfold cut
  rw [HT.sIx_none, HT.sIx_nat, List.drop_zero, Nat.sub_zero, List.length_map, Nat.min_eq_left (by omega), List.map_take, Int.toNat_natCast]
theorem e_is_plan (hc : cs.length ≤ 1000) : f_is_plan (plD n cs) K E = K (.bool (planB n cs)) := by
  have hsl := sizeLine_eq
  unfold f_is_plan
  simp only [q_add_ii, q_add_ss, q_add_ll, q_add_tt, q_addL, q_sub, q_mul, q_div, q_mod, q_neg, q_bool, q_eq_ii, q_eq_ss, q_eq_bb, q_ne_ii, q_ne_ss, q_ne_bb, q_lt, q_le, q_gt, q_ge, q_un2, q_un3, q_un4, q_intO, q_len_l, q_len_t, q_len_s, q_abs, q_int_i, q_int_b, q_tup_l, q_tup_t, q_list_l, q_list_t, q_min, q_max, q_it_l, q_it_t, q_rng, q_enu_l, q_enu_t, q_rev, q_sl_l, q_sl_t, q_sl_s, q_slL, q_all, q_any, q_sum, q_sort_pp, q_and, q_or, q_ite, q_join, cond_true, cond_false, true_and, and_true, decide_eq_true_eq, decide_true, decide_false, p_un_pl, p_ix_pl0, p_ix_pl1, p_un_pp, p_ix_pp0, p_ix_pp1, p_mk, p_eq, p_ne, p_in, p_notIn, p_lt, List.length_map]
  unfold planB
  have e0 : (!(decide (3 ≤ n) && decide (n ≤ 40)) || !decide ((cs.length : Int) = n - 3)) = !(decide (3 ≤ n) && decide (n ≤ 40) && decide ((cs.length : Int) = n - 3)) := by
    cases decide (3 ≤ n) <;> cases decide (n ≤ 40) <;> cases decide ((cs.length : Int) = n - 3) <;> rfl
  rw [e0]
  cases e : (decide (3 ≤ n) && decide (n ≤ 40) && decide ((cs.length : Int) = n - 3))
  · rfl
  rw [Bool.true_and]
  show lcM _ _ _ _ = _
  rw [q_lc_map _ _ (fun c => PyData.bool (cutB n c)) fun c hc k s => by simp only [e_is_cut]]
  rw [List.nil_append, show (cs.map fun c => PyData.bool (cutB n c)) = (cs.map (cutB n)).map .bool by rw [List.map_map]; rfl, q_all]
  simp only [q_add_ii, q_add_ss, q_add_ll, q_add_tt, q_addL, q_sub, q_mul, q_div, q_mod, q_neg, q_bool, q_eq_ii, q_eq_ss, q_eq_bb, q_ne_ii, q_ne_ss, q_ne_bb, q_lt, q_le, q_gt, q_ge, q_un2, q_un3, q_un4, q_intO, q_len_l, q_len_t, q_len_s, q_abs, q_int_i, q_int_b, q_tup_l, q_tup_t, q_list_l, q_list_t, q_min, q_max, q_it_l, q_it_t, q_rng, q_enu_l, q_enu_t, q_rev, q_sl_l, q_sl_t, q_sl_s, q_slL, q_all, q_any, q_sum, q_sort_pp, q_and, q_or, q_ite, q_join, cond_true, cond_false, true_and, and_true, decide_eq_true_eq, decide_true, decide_false, p_un_pl, p_ix_pl0, p_ix_pl1, p_un_pp, p_ix_pp0, p_ix_pp1, p_mk, p_eq, p_ne, p_in, p_notIn, p_lt]
  have e2 : (cs.map (cutB n)).all id = cs.all (cutB n) := by rw [List.all_map]; rfl
  rw [e2]
  cases cs.all (cutB n)
  · rfl
  rw [Bool.true_and]
  show ((_ ∧ _) : Prop) = _
  refine Eq.trans (propext (and_iff_right (by omega))) ?_
  rw [rng_map, show ((cs.length : Int) - 1).toNat = cs.length - 1 by omega]
  rw [q_for_all _ _ (fun i => ltPP (cs.getD i (0, 0)) (cs.getD (i + 1) (0, 0))) (R := K (.bool false)) fun i hi N => ?_]
  · show cond (adjB cs) _ _ = _
    cases adjB cs
    · rfl
    show forM _ _ _ _ = _
    rw [enum_map, q_for_all _ _ (fun q => !((cs.take q.1).any fun d => crossB q.2 d)) (R := K (.bool false)) fun q hq N => ?_]
    · have e3 : (cs.mapIdx fun i a => (i, a)).all (fun q => !((cs.take q.1).any fun d => crossB q.2 d)) = nocB cs := by
        unfold nocB
        rw [Bool.eq_iff_iff, List.all_eq_true, List.all_eq_true]
        refine ⟨fun h i hi => ?_, fun h q hq => ?_⟩
        · have hi := List.mem_range.mp hi
          rw [getD_at hi]
          exact h (i, cs[i]) (List.mem_iff_getElem?.mpr ⟨i, by rw [List.getElem?_mapIdx, List.getElem?_eq_getElem hi]; rfl⟩)
        · obtain ⟨j, hj⟩ := List.mem_iff_getElem?.mp hq
          rw [List.getElem?_mapIdx] at hj
          obtain ⟨c, hc, rfl⟩ := Option.map_eq_some_iff.mp hj
          obtain ⟨hjl, hjc⟩ := List.getElem?_eq_some_iff.mp hc
          have := h j (List.mem_range.mpr hjl)
          rw [getD_at hjl, hjc] at this
          exact this
      rw [e3]
      cases nocB cs <;> rfl
    · obtain ⟨i, c⟩ := q
      have hi : i < cs.length := by
        obtain ⟨j, hj⟩ := List.mem_iff_getElem?.mp hq
        rw [List.getElem?_mapIdx] at hj
        obtain ⟨c, hc, e⟩ := Option.map_eq_some_iff.mp hj
        cases e
        exact (List.getElem?_eq_some_iff.mp hc).1
      simp only [q_add_ii, q_add_ss, q_add_ll, q_add_tt, q_addL, q_sub, q_mul, q_div, q_mod, q_neg, q_bool, q_eq_ii, q_eq_ss, q_eq_bb, q_ne_ii, q_ne_ss, q_ne_bb, q_lt, q_le, q_gt, q_ge, q_un2, q_un3, q_un4, q_intO, q_len_l, q_len_t, q_len_s, q_abs, q_int_i, q_int_b, q_tup_l, q_tup_t, q_list_l, q_list_t, q_min, q_max, q_it_l, q_it_t, q_rng, q_enu_l, q_enu_t, q_rev, q_sl_l, q_sl_t, q_sl_s, q_slL, q_all, q_any, q_sum, q_sort_pp, q_and, q_or, q_ite, q_join, cond_true, cond_false, true_and, and_true, decide_eq_true_eq, decide_true, decide_false, p_un_pl, p_ix_pl0, p_ix_pl1, p_un_pp, p_ix_pp0, p_ix_pp1, p_mk, p_eq, p_ne, p_in, p_notIn, p_lt]
      rw [cut_pp (by omega) (by omega)]
      rw [q_lc_map _ _ (fun d => PyData.bool (crossB c d)) fun d hd k s => by simp only [e_crossing]]
      rw [List.nil_append, show ∀ L : List (Int × Int), (L.map fun d => PyData.bool (crossB c d)) = (L.map (crossB c)).map .bool from fun L => by rw [List.map_map]; rfl, q_any]
      simp only [q_add_ii, q_add_ss, q_add_ll, q_add_tt, q_addL, q_sub, q_mul, q_div, q_mod, q_neg, q_bool, q_eq_ii, q_eq_ss, q_eq_bb, q_ne_ii, q_ne_ss, q_ne_bb, q_lt, q_le, q_gt, q_ge, q_un2, q_un3, q_un4, q_intO, q_len_l, q_len_t, q_len_s, q_abs, q_int_i, q_int_b, q_tup_l, q_tup_t, q_list_l, q_list_t, q_min, q_max, q_it_l, q_it_t, q_rng, q_enu_l, q_enu_t, q_rev, q_sl_l, q_sl_t, q_sl_s, q_slL, q_all, q_any, q_sum, q_sort_pp, q_and, q_or, q_ite, q_join, cond_true, cond_false, true_and, and_true, decide_eq_true_eq, decide_true, decide_false, p_un_pl, p_ix_pl0, p_ix_pl1, p_un_pp, p_ix_pp0, p_ix_pp1, p_mk, p_eq, p_ne, p_in, p_notIn, p_lt]
      rw [show ∀ L : List (Int × Int), (L.map (crossB c)).any id = L.any (crossB c) from fun L => by rw [List.any_map]; rfl, Int.toNat_natCast]
      show cond ((cs.take i).any (crossB c)) _ _ = cond (!(cs.take i).any (crossB c)) _ _
      cases (cs.take i).any (crossB c) <;> rfl
  · have hi := List.mem_range.mp hi
    simp only [q_add_ii, q_add_ss, q_add_ll, q_add_tt, q_addL, q_sub, q_mul, q_div, q_mod, q_neg, q_bool, q_eq_ii, q_eq_ss, q_eq_bb, q_ne_ii, q_ne_ss, q_ne_bb, q_lt, q_le, q_gt, q_ge, q_un2, q_un3, q_un4, q_intO, q_len_l, q_len_t, q_len_s, q_abs, q_int_i, q_int_b, q_tup_l, q_tup_t, q_list_l, q_list_t, q_min, q_max, q_it_l, q_it_t, q_rng, q_enu_l, q_enu_t, q_rev, q_sl_l, q_sl_t, q_sl_s, q_slL, q_all, q_any, q_sum, q_sort_pp, q_and, q_or, q_ite, q_join, cond_true, cond_false, true_and, and_true, decide_eq_true_eq, decide_true, decide_false, p_un_pl, p_ix_pl0, p_ix_pl1, p_un_pp, p_ix_pp0, p_ix_pp1, p_mk, p_eq, p_ne, p_in, p_notIn, p_lt]
    rw [at_cs (by omega) (by omega), at_cs (by omega) (by omega)]
    simp only [q_add_ii, q_add_ss, q_add_ll, q_add_tt, q_addL, q_sub, q_mul, q_div, q_mod, q_neg, q_bool, q_eq_ii, q_eq_ss, q_eq_bb, q_ne_ii, q_ne_ss, q_ne_bb, q_lt, q_le, q_gt, q_ge, q_un2, q_un3, q_un4, q_intO, q_len_l, q_len_t, q_len_s, q_abs, q_int_i, q_int_b, q_tup_l, q_tup_t, q_list_l, q_list_t, q_min, q_max, q_it_l, q_it_t, q_rng, q_enu_l, q_enu_t, q_rev, q_sl_l, q_sl_t, q_sl_s, q_slL, q_all, q_any, q_sum, q_sort_pp, q_and, q_or, q_ite, q_join, cond_true, cond_false, true_and, and_true, decide_eq_true_eq, decide_true, decide_false, p_un_pl, p_ix_pl0, p_ix_pl1, p_un_pp, p_ix_pp0, p_ix_pp1, p_mk, p_eq, p_ne, p_in, p_notIn, p_lt]
    rw [show ((1 : Int) + (i : Nat) - 1).toNat = i by omega, show ((1 : Int) + (i : Nat)).toNat = i + 1 by omega]
    cases ltPP (cs.getD i (0, 0)) (cs.getD (i + 1) (0, 0)) <;> rfl
theorem e_need_plan (hc : cs.length ≤ 1000) : f_need_plan (plD n cs) K E = cond (planB n cs) (K .none) (E (.own "BadPlan")) := by
  unfold f_need_plan
  simp only [q_add_ii, q_add_ss, q_add_ll, q_add_tt, q_addL, q_sub, q_mul, q_div, q_mod, q_neg, q_bool, q_eq_ii, q_eq_ss, q_eq_bb, q_ne_ii, q_ne_ss, q_ne_bb, q_lt, q_le, q_gt, q_ge, q_un2, q_un3, q_un4, q_intO, q_len_l, q_len_t, q_len_s, q_abs, q_int_i, q_int_b, q_tup_l, q_tup_t, q_list_l, q_list_t, q_min, q_max, q_it_l, q_it_t, q_rng, q_enu_l, q_enu_t, q_rev, q_sl_l, q_sl_t, q_sl_s, q_slL, q_all, q_any, q_sum, q_sort_pp, q_and, q_or, q_ite, q_join, cond_true, cond_false, true_and, and_true, decide_eq_true_eq, decide_true, decide_false, p_un_pl, p_ix_pl0, p_ix_pl1, p_un_pp, p_ix_pp0, p_ix_pp1, p_mk, p_eq, p_ne, p_in, p_notIn, p_lt, e_is_plan hc]
  cases planB n cs <;> rfl
theorem e_need_ok (h : IsPlan n cs) : f_need_plan (plD n cs) K E = K .none := by
  rw [e_need_plan (by have := h.len; have := h.hi; omega), planB_of h]; rfl
section
variable (hp : IsPlan n cs)
include hp
theorem e_all_lines' : f_all_lines (plD n cs) Kl E = Kl ((linesOf n cs).map ppD) := by
  have := hp.len; have := hp.hi; have := hp.lo
  exact e_all_lines (by omega) (by omega) (by omega)
theorem e_places : f_places (plD n cs) Kl E = Kl ((spots n cs).map ppD) := by
  have hsl := sizeLine_eq
  have lok := lines_ok hp
  have llen := lines_len hp
  have h40 := hp.hi
  unfold f_places
  simp only [q_add_ii, q_add_ss, q_add_ll, q_add_tt, q_addL, q_sub, q_mul, q_div, q_mod, q_neg, q_bool, q_eq_ii, q_eq_ss, q_eq_bb, q_ne_ii, q_ne_ss, q_ne_bb, q_lt, q_le, q_gt, q_ge, q_un2, q_un3, q_un4, q_intO, q_len_l, q_len_t, q_len_s, q_abs, q_int_i, q_int_b, q_tup_l, q_tup_t, q_list_l, q_list_t, q_min, q_max, q_it_l, q_it_t, q_rng, q_enu_l, q_enu_t, q_rev, q_sl_l, q_sl_t, q_sl_s, q_slL, q_all, q_any, q_sum, q_sort_pp, q_and, q_or, q_ite, q_join, cond_true, cond_false, true_and, and_true, decide_eq_true_eq, decide_true, decide_false, p_un_pl, p_ix_pl0, p_ix_pl1, p_un_pp, p_ix_pp0, p_ix_pp1, p_mk, p_eq, p_ne, p_in, p_notIn, p_lt, e_need_ok hp, e_all_lines' hp]
  rw [q_lc_map _ _ (fun p => ppD (swp p)) fun p _ k s => rfl]
  rw [List.nil_append, show ((linesOf n cs).map fun p => ppD (swp p)) = ((linesOf n cs).map swp).map ppD by rw [List.map_map]; rfl]
  simp only [List.length_map, ← List.map_append, q_sort_pp, srt_pp]
  rw [sortPP_eq (both_perm _) (both_nodup lok)]
  exact propext (and_iff_right (by omega))
theorem e_need_place : f_need_place (plD n cs) (ppD p) K E = cond (decide (p ∈ both (linesOf n cs))) (K .none) (E (.own "BadPlace")) := by
  have lok := lines_ok hp
  unfold f_need_place
  simp only [q_add_ii, q_add_ss, q_add_ll, q_add_tt, q_addL, q_sub, q_mul, q_div, q_mod, q_neg, q_bool, q_eq_ii, q_eq_ss, q_eq_bb, q_ne_ii, q_ne_ss, q_ne_bb, q_lt, q_le, q_gt, q_ge, q_un2, q_un3, q_un4, q_intO, q_len_l, q_len_t, q_len_s, q_abs, q_int_i, q_int_b, q_tup_l, q_tup_t, q_list_l, q_list_t, q_min, q_max, q_it_l, q_it_t, q_rng, q_enu_l, q_enu_t, q_rev, q_sl_l, q_sl_t, q_sl_s, q_slL, q_all, q_any, q_sum, q_sort_pp, q_and, q_or, q_ite, q_join, cond_true, cond_false, true_and, and_true, decide_eq_true_eq, decide_true, decide_false, p_un_pl, p_ix_pl0, p_ix_pl1, p_un_pp, p_ix_pp0, p_ix_pp1, p_mk, p_eq, p_ne, p_in, p_notIn, p_lt, e_need_ok hp, e_all_lines' hp, e_pair_of]
  have e : decide (p ∈ both (linesOf n cs)) = !(!(decide (0 ≤ p.1) && decide (p.1 < n)) || (!(decide (0 ≤ p.2) && decide (p.2 < n)) || !decide (nrmP p.1 p.2 ∈ linesOf n cs))) := by
    rw [Bool.eq_iff_iff]
    simp only [decide_eq_true_eq, both_iff lok, Bool.not_or, Bool.not_not, Bool.and_eq_true]
    rfl
  rw [e]
  generalize (!(decide (0 ≤ p.1) && decide (p.1 < n)) || (!(decide (0 ≤ p.2) && decide (p.2 < n)) || !decide (nrmP p.1 p.2 ∈ linesOf n cs))) = b
  cases b <;> rfl
theorem e_over : f_over (plD n cs) (ppD p) K E = cond (decide (p ∈ both (linesOf n cs))) (K (ppD (swp p))) (E (.own "BadPlace")) := by
  unfold f_over
  simp only [q_add_ii, q_add_ss, q_add_ll, q_add_tt, q_addL, q_sub, q_mul, q_div, q_mod, q_neg, q_bool, q_eq_ii, q_eq_ss, q_eq_bb, q_ne_ii, q_ne_ss, q_ne_bb, q_lt, q_le, q_gt, q_ge, q_un2, q_un3, q_un4, q_intO, q_len_l, q_len_t, q_len_s, q_abs, q_int_i, q_int_b, q_tup_l, q_tup_t, q_list_l, q_list_t, q_min, q_max, q_it_l, q_it_t, q_rng, q_enu_l, q_enu_t, q_rev, q_sl_l, q_sl_t, q_sl_s, q_slL, q_all, q_any, q_sum, q_sort_pp, q_and, q_or, q_ite, q_join, cond_true, cond_false, true_and, and_true, decide_eq_true_eq, decide_true, decide_false, p_un_pl, p_ix_pl0, p_ix_pl1, p_un_pp, p_ix_pp0, p_ix_pp1, p_mk, p_eq, p_ne, p_in, p_notIn, p_lt, e_need_place hp]
  rfl
theorem e__law_all_lines : f__law_all_lines (plD n cs) Kl E = Kl ((linesOf n cs).map ppD) := by
  have h1 := hp.len; have h2 := hp.hi; have h3 := hp.lo
  have hsl := sizeLine_eq
  unfold f__law_all_lines
  simp only [q_add_ii, q_add_ss, q_add_ll, q_add_tt, q_addL, q_sub, q_mul, q_div, q_mod, q_neg, q_bool, q_eq_ii, q_eq_ss, q_eq_bb, q_ne_ii, q_ne_ss, q_ne_bb, q_lt, q_le, q_gt, q_ge, q_un2, q_un3, q_un4, q_intO, q_len_l, q_len_t, q_len_s, q_abs, q_int_i, q_int_b, q_tup_l, q_tup_t, q_list_l, q_list_t, q_min, q_max, q_it_l, q_it_t, q_rng, q_enu_l, q_enu_t, q_rev, q_sl_l, q_sl_t, q_sl_s, q_slL, q_all, q_any, q_sum, q_sort_pp, q_and, q_or, q_ite, q_join, cond_true, cond_false, true_and, and_true, decide_eq_true_eq, decide_true, decide_false, p_un_pl, p_ix_pl0, p_ix_pl1, p_un_pp, p_ix_pp0, p_ix_pp1, p_mk, p_eq, p_ne, p_in, p_notIn, p_lt, range0]
  rw [q_lc_map _ _ (fun i : Nat => ppD ((i : Int), (i : Int) + 1)) fun a ha k s => by simp only [q_add_ii, q_add_ss, q_add_ll, q_add_tt, q_addL, q_sub, q_mul, q_div, q_mod, q_neg, q_bool, q_eq_ii, q_eq_ss, q_eq_bb, q_ne_ii, q_ne_ss, q_ne_bb, q_lt, q_le, q_gt, q_ge, q_un2, q_un3, q_un4, q_intO, q_len_l, q_len_t, q_len_s, q_abs, q_int_i, q_int_b, q_tup_l, q_tup_t, q_list_l, q_list_t, q_min, q_max, q_it_l, q_it_t, q_rng, q_enu_l, q_enu_t, q_rev, q_sl_l, q_sl_t, q_sl_s, q_slL, q_all, q_any, q_sum, q_sort_pp, q_and, q_or, q_ite, q_join, cond_true, cond_false, true_and, and_true, decide_eq_true_eq, decide_true, decide_false, p_un_pl, p_ix_pl0, p_ix_pl1, p_un_pp, p_ix_pp0, p_ix_pp1, p_mk, p_eq, p_ne, p_in, p_notIn, p_lt]]
  have em : ((List.range (n - 1).toNat).map fun (j : Nat) => ppD ((j : Int), (j : Int) + 1)) ++ [ppD (0, n - 1)] = (sides n).map ppD := by
    unfold sides
    rw [List.map_append, List.map_map, show (n - 1).toNat = n.toNat - 1 by omega]
    rfl
  have hsd := sides_len (by omega : 2 ≤ n)
  simp only [q_add_ii, q_add_ss, q_add_ll, q_add_tt, q_addL, q_sub, q_mul, q_div, q_mod, q_neg, q_bool, q_eq_ii, q_eq_ss, q_eq_bb, q_ne_ii, q_ne_ss, q_ne_bb, q_lt, q_le, q_gt, q_ge, q_un2, q_un3, q_un4, q_intO, q_len_l, q_len_t, q_len_s, q_abs, q_int_i, q_int_b, q_tup_l, q_tup_t, q_list_l, q_list_t, q_min, q_max, q_it_l, q_it_t, q_rng, q_enu_l, q_enu_t, q_rev, q_sl_l, q_sl_t, q_sl_s, q_slL, q_all, q_any, q_sum, q_sort_pp, q_and, q_or, q_ite, q_join, cond_true, cond_false, true_and, and_true, decide_eq_true_eq, decide_true, decide_false, p_un_pl, p_ix_pl0, p_ix_pl1, p_un_pp, p_ix_pp0, p_ix_pp1, p_mk, p_eq, p_ne, p_in, p_notIn, p_lt, List.nil_append, em, ← List.map_append, srt_pp, List.length_map, List.length_range, List.length_append, List.length_cons, List.length_nil]
  refine Eq.trans (propext (and_iff_right (by omega))) (Eq.trans (propext (and_iff_right (by omega))) (Eq.trans (propext (and_iff_right (by omega))) rfl))
theorem e__law_tied {Kt : List (List Key × PyData) → Prop} : f__law_tied (plD n cs) Kt E = Kt (tied (linesOf n cs)) := by
  have hsl := sizeLine_eq
  have lok := lines_ok hp
  have llen := lines_len hp
  have h40 := hp.hi
  unfold f__law_tied
  simp only [q_add_ii, q_add_ss, q_add_ll, q_add_tt, q_addL, q_sub, q_mul, q_div, q_mod, q_neg, q_bool, q_eq_ii, q_eq_ss, q_eq_bb, q_ne_ii, q_ne_ss, q_ne_bb, q_lt, q_le, q_gt, q_ge, q_un2, q_un3, q_un4, q_intO, q_len_l, q_len_t, q_len_s, q_abs, q_int_i, q_int_b, q_tup_l, q_tup_t, q_list_l, q_list_t, q_min, q_max, q_it_l, q_it_t, q_rng, q_enu_l, q_enu_t, q_rev, q_sl_l, q_sl_t, q_sl_s, q_slL, q_all, q_any, q_sum, q_sort_pp, q_and, q_or, q_ite, q_join, cond_true, cond_false, true_and, and_true, decide_eq_true_eq, decide_true, decide_false, p_un_pl, p_ix_pl0, p_ix_pl1, p_un_pp, p_ix_pp0, p_ix_pp1, p_mk, p_eq, p_ne, p_in, p_notIn, p_lt, e__law_all_lines hp]
  generalize hL : linesOf n cs = L at *
  have tl : ∀ i, (tied (L.take i)).length ≤ 2 * i := fun i => by
    have e : ∀ M : List (Int × Int), (both M).length = 2 * M.length := fun M => by
      induction M with
      | nil => rfl
      | cons a M ih => show (a :: swp a :: both M).length = _; simp only [List.length_cons, ih]; omega
    unfold tied
    rw [List.length_map, e, List.length_take]
    omega
  rw [show ([] : List (List Key × PyData)) = (fun i => tied (L.take i)) 0 from rfl, q_for_seq L ppD (fun i => tied (L.take i)) fun i p hp1 N => ?_]
  · simp only [List.take_length]
  have hi := (List.getElem?_eq_some_iff.mp hp1).1
  have pl := lok.lt p (List.mem_of_getElem? hp1)
  have fresh : p ∉ L.take i := fun hm => by
    obtain ⟨j, hj, e⟩ := List.mem_take_iff_getElem.mp hm
    have e2 := (List.getElem?_eq_some_iff.mp hp1).2
    have := (List.getElem_inj lok.nd).mp (e.trans e2.symm)
    omega
  have key1 : ∀ kv ∈ tied (L.take i), kv.1 ≠ keyP p ∧ kv.1 ≠ keyP (swp p) := fun kv hkv => by
    obtain ⟨r, hr1, rfl⟩ := List.mem_map.mp hkv
    obtain ⟨t, ht, hr2⟩ := List.mem_flatMap.mp hr1
    have htL := List.mem_of_mem_take ht
    have tl := lok.lt t htL
    have hne : t ≠ p := fun z => fresh (z ▸ ht)
    have hr3 : r = t ∨ r = swp t := by simpa using hr2
    refine ⟨fun z => ?_, fun z => ?_⟩
    · have z := keyP_inj z
      rcases hr3 with rfl | rfl
      · exact hne z
      · rw [← z] at pl; unfold swp at pl; simp only at pl; omega
    · have z := keyP_inj z
      rcases hr3 with rfl | rfl
      · rw [z] at tl; unfold swp at tl; simp only at tl; omega
      · have z1 : t.2 = p.2 := congrArg Prod.fst z
        have z2 : t.1 = p.1 := congrArg Prod.snd z
        exact hne (Prod.ext z2 z1)
  have et : tied (L.take (i + 1)) = tied (L.take i) ++ [(keyP p, .bool true)] ++ [(keyP (swp p), .bool true)] := by
    unfold tied
    rw [List.take_succ, hp1, both_app, List.map_append]
    simp [both]
  have tli := tl i
  simp only [p_un_pp]
  refine Eq.trans (propext (and_iff_right (by omega))) ?_
  show putTM (putP (tied (L.take i)) (keyP p) (.bool true)) (ppD (swp p)) _ _ = _
  rw [putP_new fun kv hkv => (key1 kv hkv).1]
  refine Eq.trans (propext (and_iff_right (by simp only [List.length_append, List.length_cons, List.length_nil]; omega))) ?_
  show N (putP _ (keyP (swp p)) _) = _
  rw [putP_new fun kv hkv => by
      rcases List.mem_append.mp hkv with h | h
      · exact (key1 kv h).2
      · have e : kv = (keyP p, .bool true) := by simpa using h
        rw [e]
        intro z
        have z1 : p.1 = p.2 := congrArg Prod.fst (keyP_inj z)
        omega]
  rw [et]
theorem e__law_spots : f__law_spots (plD n cs) Kl E = Kl ((spots n cs).map ppD) := by
  unfold f__law_spots
  simp only [q_add_ii, q_add_ss, q_add_ll, q_add_tt, q_addL, q_sub, q_mul, q_div, q_mod, q_neg, q_bool, q_eq_ii, q_eq_ss, q_eq_bb, q_ne_ii, q_ne_ss, q_ne_bb, q_lt, q_le, q_gt, q_ge, q_un2, q_un3, q_un4, q_intO, q_len_l, q_len_t, q_len_s, q_abs, q_int_i, q_int_b, q_tup_l, q_tup_t, q_list_l, q_list_t, q_min, q_max, q_it_l, q_it_t, q_rng, q_enu_l, q_enu_t, q_rev, q_sl_l, q_sl_t, q_sl_s, q_slL, q_all, q_any, q_sum, q_sort_pp, q_and, q_or, q_ite, q_join, cond_true, cond_false, true_and, and_true, decide_eq_true_eq, decide_true, decide_false, p_un_pl, p_ix_pl0, p_ix_pl1, p_un_pp, p_ix_pp0, p_ix_pp1, p_mk, p_eq, p_ne, p_in, p_notIn, p_lt, e__law_tied hp, keysT, tied_keys, srt_pp]
  rfl
end
theorem e__law_plan {m : Int} (h : 3 ≤ m) (h2 : m ≤ 40) : f__law_plan (.int m) K E = ∀ n, 3 ≤ n → n ≤ m → ∀ l, Arcs 1 n l → K (plD n (planOf n l)) := by
  unfold f__law_plan
  simp only [q_add_ii, q_add_ss, q_add_ll, q_add_tt, q_addL, q_sub, q_mul, q_div, q_mod, q_neg, q_bool, q_eq_ii, q_eq_ss, q_eq_bb, q_ne_ii, q_ne_ss, q_ne_bb, q_lt, q_le, q_gt, q_ge, q_un2, q_un3, q_un4, q_intO, q_len_l, q_len_t, q_len_s, q_abs, q_int_i, q_int_b, q_tup_l, q_tup_t, q_list_l, q_list_t, q_min, q_max, q_it_l, q_it_t, q_rng, q_enu_l, q_enu_t, q_rev, q_sl_l, q_sl_t, q_sl_s, q_slL, q_all, q_any, q_sum, q_sort_pp, q_and, q_or, q_ite, q_join, cond_true, cond_false, true_and, and_true, decide_eq_true_eq, decide_true, decide_false, p_un_pl, p_ix_pl0, p_ix_pl1, p_un_pp, p_ix_pp0, p_ix_pp1, p_mk, p_eq, p_ne, p_in, p_notIn, p_lt]
  rw [e__law_pull (by omega) (by omega)]
  simp only [q_add_ii]
  refine propext ⟨fun hh n hn hn2 l hl => ?_, fun hh r r0 r1 => ?_⟩
  · have := hh (n - 3) (by omega) (by omega)
    rw [show 3 + (n - 3) = n by omega, e__law_drawn_plan hn (by omega)] at this
    exact this l hl
  · rw [e__law_drawn_plan (by omega) (by omega)]
    exact hh _ (by omega) (by omega)
theorem okD_int (N : Nat) (i : Int) : okD N (.int i) = true := by cases N <;> rfl
theorem okD_p (N : Nat) (p : Int × Int) : okD (N + 1) (ppD p) = true := by
  show (decide (2 ≤ 10000000) && (okD N (.int p.1) && (okD N (.int p.2) && true))) = true
  rw [okD_int, okD_int]
  rfl
theorem okD_pp (N : Nat) (L : List (Int × Int)) (h : L.length ≤ 10000) : okD (N + 2) (.list (L.map ppD)) = true := by
  show (decide ((L.map ppD).length ≤ 10000000) && (L.map ppD).all (okD (N + 1))) = true
  rw [decide_eq_true (by rw [List.length_map]; omega), Bool.true_and]
  refine List.all_eq_true.mpr fun d hd => ?_
  obtain ⟨p, _, rfl⟩ := List.mem_map.mp hd
  exact okD_p N p
theorem both_len : ∀ M : List (Int × Int), (both M).length = 2 * M.length
  | [] => rfl
  | a :: M => by show (a :: swp a :: both M).length = _; simp only [List.length_cons, both_len M]; omega
theorem spots_len {n : Int} {cs : List (Int × Int)} (h : IsPlan n cs) : ((spots n cs).length : Int) = 4 * n - 6 := by
  unfold spots
  rw [(sortPP_perm _).length_eq, both_len]
  have := lines_len h
  omega
theorem e_law_k11 (ns : List Int) (h : ns.length ≤ 63) : f_law_k11 (.list (ns.map .int)) (fun r => r = .bool true) (fun _ => False) := by
  have hsl := sizeLine_eq
  unfold f_law_k11
  rw [e__law_pull (by decide) (by decide)]
  intro r r0 r1
  have er : r = 0 ∨ r = 1 ∨ r = 2 := by omega
  have main : ∀ m : Int, 3 ≤ m → m ≤ 40 → ∀ K' : KD, (∀ n cs, IsPlan n cs → K' (plD n cs)) → f__law_plan (.int m) K' (fun _ => False) := fun m h3 h40 K' hK' => by
    rw [e__law_plan h3 h40]
    exact fun n hn hnm l hl => hK' _ _ (arcs_plan hn (by omega) hl)
  rcases er with rfl | rfl | rfl <;> refine main _ (by decide) (by decide) _ fun n cs hp => ?_
  all_goals
    rw [e__law_spots hp]
    have hl := spots_len hp
    have h40 := hp.hi
    have ok := okD_pp 6 (spots n cs) (by omega)
    have cm : CMul 4 n := by unfold CMul; omega
    have ne : (!decide (((spots n cs).length : Int) = 4 * n - 6)) = false := by rw [hl]; simp
    have al : lcM (fun l_spot9 (kp : PyData → Prop) sk => f_over (plD n cs) l_spot9 (fun r11 => ixM l_spot9 (.int 1) fun r12 => ixM l_spot9 (.int 0) fun r13 => f__law_alike r11 (.tuple [r12, r13]) (fun r14 => kp r14) (fun _ => False)) (fun _ => False)) (fun l10 => allM (.list l10) fun r15 => r15 = .bool true) ((spots n cs).map ppD) [] := by
      rw [q_lc_map _ _ (fun _ => PyData.bool true) fun p hp1 k s => by
        have hm : p ∈ both (linesOf n cs) := (sortPP_perm _).mem_iff.mp hp1
        simp only [q_add_ii, q_add_ss, q_add_ll, q_add_tt, q_addL, q_sub, q_mul, q_div, q_mod, q_neg, q_bool, q_eq_ii, q_eq_ss, q_eq_bb, q_ne_ii, q_ne_ss, q_ne_bb, q_lt, q_le, q_gt, q_ge, q_un2, q_un3, q_un4, q_intO, q_len_l, q_len_t, q_len_s, q_abs, q_int_i, q_int_b, q_tup_l, q_tup_t, q_list_l, q_list_t, q_min, q_max, q_it_l, q_it_t, q_rng, q_enu_l, q_enu_t, q_rev, q_sl_l, q_sl_t, q_sl_s, q_slL, q_all, q_any, q_sum, q_sort_pp, q_and, q_or, q_ite, q_join, cond_true, cond_false, true_and, and_true, decide_eq_true_eq, decide_true, decide_false, p_un_pl, p_ix_pl0, p_ix_pl1, p_un_pp, p_ix_pp0, p_ix_pp1, p_mk, p_eq, p_ne, p_in, p_notIn, p_lt, e_over hp, hm, show PyData.tuple [.int p.2, .int p.1] = ppD (swp p) from rfl]
        rw [e__law_alike (okD_p 7 _)]]
      rw [List.nil_append, show ((spots n cs).map fun _ => PyData.bool true) = ((spots n cs).map fun _ => true).map .bool by rw [List.map_map]; rfl, q_all]
      simp
    simp only [q_add_ii, q_add_ss, q_add_ll, q_add_tt, q_addL, q_sub, q_mul, q_div, q_mod, q_neg, q_bool, q_eq_ii, q_eq_ss, q_eq_bb, q_ne_ii, q_ne_ss, q_ne_bb, q_lt, q_le, q_gt, q_ge, q_un2, q_un3, q_un4, q_intO, q_len_l, q_len_t, q_len_s, q_abs, q_int_i, q_int_b, q_tup_l, q_tup_t, q_list_l, q_list_t, q_min, q_max, q_it_l, q_it_t, q_rng, q_enu_l, q_enu_t, q_rev, q_sl_l, q_sl_t, q_sl_s, q_slL, q_all, q_any, q_sum, q_sort_pp, q_and, q_or, q_ite, q_join, cond_true, cond_false, true_and, and_true, decide_eq_true_eq, decide_true, decide_false, p_un_pl, p_ix_pl0, p_ix_pl1, p_un_pp, p_ix_pp0, p_ix_pp1, p_mk, p_eq, p_ne, p_in, p_notIn, p_lt, e_places hp, e__law_alike ok, List.length_map, cm, true_or, ne, Bool.not_true, Bool.or_false]
    refine ⟨by decide, ?_⟩
    show (spots n cs).length < sizeLine ∧ (spots n cs).length < sizeLine ∧ _
    exact ⟨by omega, by omega, al⟩
end
end Tx

namespace Tx
open PySem PySem.Spec PyProof.Rows L2 TL
@[irreducible] def f_neighbours (plan : PyData) (K : KL) (E : KX) : Prop :=
  un2 plan fun faces1 cuts2 =>
  rngM (.int 0) faces1 fun xs4 =>
  f_all_lines plan (fun r10 =>
  itM (.list r10) fun xs9 =>
  forM (fun p24 found27 N25 B26 => un2 p24 fun low30 high31 =>
  rowM found27 low30 fun l33 =>
  subM high31 low30 fun r34 =>
  modM r34 faces1 fun r35 =>
  rowAppM found27 low30 r35 fun rows36 =>
  rowM rows36 high31 fun l39 =>
  subM low30 high31 fun r40 =>
  modM r40 faces1 fun r41 =>
  rowAppM rows36 high31 r41 fun rows42 =>
  N25 rows42) (fun found11 =>
  rngM (.int 0) faces1 fun xs14 =>
  lcM (fun face15 kp sk => rowM found11 face15 fun l18 =>
  sortM (.list l18) fun l19 =>
  itM (.list l19) fun xs17 =>
  lcM (fun step20 kp sk => addM face15 step20 fun r22 =>
  modM r22 faces1 fun r23 =>
  kp r23) (fun l21 =>
  kp (.list l21)) xs17 []) (fun l16 =>
  K l16) xs14 []) xs9 (List.replicate xs4.length ([] : List PyData))) E
def c_neighbours : CT := fun args Φ Ψ => ∃ (plan : PyData) (K : KL) (E : KX), args = [.d plan] ∧ f_neighbours plan K E ∧ (∀ r, K r → Φ (.nl r) args) ∧ ∀ c, E c → Ψ c args
@[irreducible] def f_parts (plan : PyData) (K : KL) (E : KX) : Prop :=
  f_need_plan plan (fun r1 =>
  f_neighbours plan (fun r2 =>
  f_all_lines plan (fun r4 =>
  itM (.list r4) fun xs3 =>
  forM (fun p9 found12 N10 B11 => un2 p9 fun low15 high16 =>
  ixM (.list r2) low15 fun r19 =>
  itM r19 fun xs18 =>
  lcM (fun other20 kp sk => andM (fun Q => gtM other20 high16 fun b23 =>
  Q b23) (fun Q => ixM (.list r2) high16 fun r24 =>
  inM other20 r24 fun b25 =>
  Q b25) fun b22 =>
  (b22 = true → (kp (.tuple [low15, high16, other20]))) ∧ (b22 = false → sk)) (fun l21 =>
  addM found12 (.list l21) fun r26 =>
  N10 r26) xs18 []) (fun found5 =>
  sortM found5 fun l8 =>
  K l8) xs3 (.list [])) E) E) E
def c_parts : CT := fun args Φ Ψ => ∃ (plan : PyData) (K : KL) (E : KX), args = [.d plan] ∧ f_parts plan K E ∧ (∀ r, K r → Φ (.nl r) args) ∧ ∀ c, E c → Ψ c args
@[irreducible] def f_lines (plan : PyData) (K : KL) (E : KX) : Prop :=
  f_need_plan plan (fun r1 =>
  f_all_lines plan (fun r2 =>
  K r2) E) E
def c_lines : CT := fun args Φ Ψ => ∃ (plan : PyData) (K : KL) (E : KX), args = [.d plan] ∧ f_lines plan K E ∧ (∀ r, K r → Φ (.nl r) args) ∧ ∀ c, E c → Ψ c args
@[irreducible] def f__law_all_parts (l_plan_here : PyData) (K : KL) (E : KX) : Prop :=
  f__law_tied l_plan_here (fun r2 =>
  f__law_all_lines l_plan_here (fun r5 =>
  itM (.list r5) fun xs4 =>
  forM (fun p12 l_found15 N13 B14 => un2 p12 fun l_low20 l_high21 =>
  addM l_high21 (.int 1) fun r24 =>
  ixM l_plan_here (.int 0) fun r25 =>
  rngM r24 r25 fun xs23 =>
  forM (fun l_corner29 l_found32 N30 B31 => andM (fun Q => inTM r2 (.tuple [l_low20, l_corner29]) fun b36 =>
  Q b36) (fun Q => inTM r2 (.tuple [l_high21, l_corner29]) fun b37 =>
  Q b37) fun b35 =>
  (b35 = true → (l_found32.length < sizeLine ∧ (N30 (l_found32 ++ ([(.tuple [l_low20, l_high21, l_corner29])] : List PyData))))) ∧ (b35 = false → (N30 l_found32))) (fun l_found26 =>
  N13 l_found26) xs23 l_found15) (fun l_found6 =>
  sortM (.list l_found6) fun l11 =>
  K l11) xs4 []) E) E
def c__law_all_parts : CT := fun args Φ Ψ => ∃ (l_plan_here : PyData) (K : KL) (E : KX), args = [.d l_plan_here] ∧ f__law_all_parts l_plan_here K E ∧ (∀ r, K r → Φ (.nl r) args) ∧ ∀ c, E c → Ψ c args
/-! ints in order -/
abbrev sortI (ns : List Int) : List Int := ns.mergeSort fun a b => decide (a ≤ b)
theorem srt_ints (ns : List Int) : srt (ns.map .int) = (sortI ns).map .int := by
  unfold srt sortI
  have e := PySem.W.dataLe_int (β := Int) (fun p => p)
  exact (List.map_mergeSort (r := fun a b => decide (a ≤ b)) (s := PySem.W.dataLe false id) fun a _ b _ => (congrFun (congrFun e a) b).symm).symm
theorem q_sort_ints (ns : List Int) {Kl : KL} : sortM (.list (ns.map .int)) Kl = Kl ((sortI ns).map .int) := by
  rw [← srt_ints]
  show ((_ ∧ _) : Prop) = _
  refine propext (and_iff_right ⟨.of fun _ _ => by simp [PySem.W.alike], .others fun b => ⟨(by intro z; cases z), fun xs z => (by cases z)⟩, fun d hd => ?_⟩)
  obtain ⟨p, _, rfl⟩ := List.mem_map.mp hd
  rfl
theorem lt_unique : ∀ {l m : List Int}, l.Perm m → l.Pairwise (· < ·) → m.Pairwise (· < ·) → l = m
  | [], m, h, _, _ => (List.nil_perm.mp h).symm
  | a :: l, [], h, _, _ => absurd h.length_eq (by simp)
  | a :: l, b :: m, h, h1, h2 => by
    have e : a = b := by
      have ha : a ∈ b :: m := h.mem_iff.mp (List.mem_cons_self ..)
      have hb : b ∈ a :: l := h.mem_iff.mpr (List.mem_cons_self ..)
      rcases List.mem_cons.mp ha with e | ha
      · exact e
      · rcases List.mem_cons.mp hb with e | hb
        · exact e.symm
        · have := (List.pairwise_cons.mp h1).1 b hb
          have := (List.pairwise_cons.mp h2).1 a ha
          omega
    subst e
    rw [lt_unique (List.perm_cons a |>.mp h) (List.pairwise_cons.mp h1).2 (List.pairwise_cons.mp h2).2]
theorem sortI_lt {ns : List Int} (nd : ns.Nodup) : (sortI ns).Pairwise (· < ·) := by
  have h1 : (sortI ns).Pairwise fun a b => decide (a ≤ b) = true := List.pairwise_mergeSort (fun a b c h1 h2 => by have := of_decide_eq_true h1; have := of_decide_eq_true h2; exact decide_eq_true (by omega)) (fun a b => by
    rcases Int.le_total a b with h | h <;> simp [h]) ns
  have h2 : (sortI ns).Nodup := (List.mergeSort_perm ns _).nodup_iff.mpr nd
  have h3 := h1.and h2
  exact h3.imp fun ⟨a, b⟩ => by have := of_decide_eq_true a; omega
/-- sorted of items without doubles: any rising list with the same items -/
theorem sortI_eq {ns ms : List Int} (nd : ns.Nodup) (h : ms.Pairwise (· < ·)) (m : ∀ x, x ∈ ns ↔ x ∈ ms) : sortI ns = ms := by
  have nd2 : ms.Nodup := h.imp fun h => Int.ne_of_lt h
  refine lt_unique (((List.mergeSort_perm ns _)).trans ?_) (sortI_lt nd) h
  exact (List.perm_ext_iff_of_nodup nd nd2).mpr m
/-! neighbours -/
def tieB (n : Int) (cs : List (Int × Int)) (a b : Int) : Bool := decide ((a, b) ∈ both (linesOf n cs))
/-- the corners that have a line with f, from the one that follows it on -/
def near (n : Int) (cs : List (Int × Int)) (f : Int) : List Int := ((List.range (n.toNat - 1)).filter fun (k : Nat) => tieB n cs f ((f + k + 1) % n)).map fun (k : Nat) => (f + k + 1) % n
def stp (n : Int) (L : List (Int × Int)) (f : Int) : List Int := L.flatMap fun p => (if p.1 = f then [(p.2 - p.1) % n] else []) ++ (if p.2 = f then [(p.1 - p.2) % n] else [])
theorem set_rg {β : Type} (m : Nat) (f : Nat → β) (j : Nat) (y : β) : ((List.range m).map f).set j y = (List.range m).map fun x => if x = j then y else f x := by
  refine List.ext_getElem? fun i => ?_
  rw [List.getElem?_set, List.getElem?_map, List.getElem?_map, List.length_map, List.length_range]
  by_cases h : j = i
  · subst h
    rw [if_pos rfl]
    by_cases h2 : j < m
    · rw [if_pos h2, List.getElem?_range h2]; simp
    · rw [if_neg h2, List.getElem?_eq_none (by simpa using h2)]; rfl
  · rw [if_neg h]
    by_cases h2 : i < m
    · rw [List.getElem?_range h2]
      show some (f i) = some (if i = j then y else f i)
      rw [if_neg fun z => h z.symm]
    · rw [List.getElem?_eq_none (by simpa using h2)]; rfl
section
variable {K : KD} {Kl : KL} {E : KX} {n i j : Int} {cs : List (Int × Int)} {p q : Int × Int}
theorem rg_at {β : Type} {m : Nat} {f : Nat → β} {a : Int} (h0 : 0 ≤ a) (h : a < m) : atI ((List.range m).map f) a = some (f a.toNat) := by
  refine at_nat h0 ?_
  rw [List.getElem?_map, List.getElem?_range (by omega)]; rfl
theorem rg_ixN {m : Nat} {a : Int} (h0 : 0 ≤ a) (h : a < m) : ixN m a = some a.toNat := by
  have := rg_at (β := Nat) (f := fun x => x) h0 h
  unfold atI at this
  obtain ⟨j, h1, h2⟩ := Option.bind_eq_some_iff.mp this
  rw [List.length_map, List.length_range] at h1
  rw [h1]
  rw [List.getElem?_map] at h2
  obtain ⟨k, h3, h4⟩ := Option.map_eq_some_iff.mp h2
  obtain ⟨h5, h6⟩ := List.getElem?_eq_some_iff.mp h3
  rw [List.getElem_range] at h6
  have h4 : k = a.toNat := h4
  congr 1
  omega
theorem row_rg {m : Nat} {f : Nat → List PyData} {a : Int} (h0 : 0 ≤ a) (h : a < m) : rowM ((List.range m).map f) (.int a) Kl = Kl (f a.toNat) := by
  show (match atI _ a with | some l => Kl l | none => False) = _
  rw [rg_at h0 h]
theorem rowApp_rg {m : Nat} {f : Nat → List PyData} {a : Int} {y : PyData} {Kr : List (List PyData) → Prop} (h0 : 0 ≤ a) (h : a < m) (hl : (f a.toNat).length < sizeLine) : rowAppM ((List.range m).map f) (.int a) y Kr = Kr ((List.range m).map fun x => if x = a.toNat then f x ++ [y] else f x) := by
  show (match ixN ((List.range m).map f).length a with | some j => (match ((List.range m).map f)[j]? with | some l => l.length < sizeLine ∧ Kr (((List.range m).map f).set j (l ++ [y])) | none => False) | none => False) = _
  rw [List.length_map, List.length_range, rg_ixN h0 h]
  simp only [List.getElem?_map, List.getElem?_range (show a.toNat < m by omega), Option.map_some]
  rw [set_rg]
  refine Eq.trans (propext (and_iff_right hl)) ?_
  congr 1
  refine List.map_congr_left fun x _ => ?_
  by_cases e : x = a.toNat
  · subst e; simp
  · simp [e]
variable (hp : IsPlan n cs)
include hp
theorem stp_len (L : List (Int × Int)) (f : Int) : (stp n L f).length ≤ 2 * L.length := by
  unfold stp
  induction L with
  | nil => simp
  | cons a L ih =>
    rw [List.flatMap_cons, List.length_append, List.length_append, List.length_cons]
    have e1 : (if a.1 = f then [(a.2 - a.1) % n] else []).length ≤ 1 := by split <;> simp
    have e2 : (if a.2 = f then [(a.1 - a.2) % n] else []).length ≤ 1 := by split <;> simp
    omega
theorem mem_both {L : List (Int × Int)} {a b : Int} : (a, b) ∈ both L ↔ (a, b) ∈ L ∨ (b, a) ∈ L := by
  unfold both
  rw [List.mem_flatMap]
  refine ⟨fun ⟨p, h1, h2⟩ => ?_, fun h => ?_⟩
  · have h2 : (a, b) = p ∨ (a, b) = swp p := by simpa using h2
    rcases h2 with h | h
    · exact .inl (h ▸ h1)
    · have : p = (b, a) := by
        unfold swp at h
        exact Prod.ext (congrArg Prod.snd h).symm (congrArg Prod.fst h).symm
      exact .inr (this ▸ h1)
  · rcases h with h | h
    · exact ⟨_, h, by simp⟩
    · exact ⟨_, h, by simp [swp]⟩
theorem tie_lt {a b : Int} (h : tieB n cs a b = true) : 0 ≤ a ∧ a < n ∧ 0 ≤ b ∧ b < n ∧ a ≠ b := by
  have lok := lines_ok hp
  rcases (mem_both hp).mp (of_decide_eq_true h) with h | h
  · have := lok.lt _ h; simp only at this; omega
  · have := lok.lt _ h; simp only at this; omega
theorem emod_ab {a b : Int} (h1 : 0 ≤ a) (h2 : a < b) (h3 : b < n) : (b - a) % n = b - a ∧ (a - b) % n = a - b + n := by
  refine ⟨Int.emod_eq_of_lt (by omega) (by omega), ?_⟩
  rw [← Int.add_emod_right, Int.emod_eq_of_lt (by omega) (by omega)]
theorem stp_near (f : Nat) (hf : (f : Int) < n) : (sortI (stp n (linesOf n cs) f)).map (fun s => ((f : Int) + s) % n) = near n cs f := by
  have lok := lines_ok hp
  have h3 := hp.lo
  have el : ∀ p ∈ linesOf n cs, ∀ x, x ∈ ((if p.1 = (f : Int) then [(p.2 - p.1) % n] else []) ++ (if p.2 = (f : Int) then [(p.1 - p.2) % n] else [])) ↔ (p.1 = f ∧ x = p.2 - p.1) ∨ (p.2 = f ∧ x = p.1 - p.2 + n) := fun p hm x => by
    have pl := lok.lt p hm
    obtain ⟨e1, e2⟩ := emod_ab hp pl.1 pl.2.1 pl.2.2
    rw [List.mem_append, e1, e2]
    by_cases h1 : p.1 = (f : Int) <;> by_cases h2 : p.2 = (f : Int) <;> simp [h1, h2]
  have nd : (stp n (linesOf n cs) f).Nodup := by
    unfold stp
    refine List.pairwise_flatMap.mpr ⟨fun p hm => ?_, ?_⟩
    · have pl := lok.lt p hm
      by_cases h1 : p.1 = (f : Int)
      · rw [if_pos h1, if_neg (by omega)]; simp
      · rw [if_neg h1]; split <;> simp
    · refine List.Pairwise.imp_of_mem (fun {p q} hm hq hne x hx y hy e => ?_) lok.nd
      subst e
      have pl := lok.lt p hm
      have ql := lok.lt q hq
      have hx := (el p hm x).mp hx
      have hy := (el q hq x).mp hy
      exact hne (Prod.ext (by omega) (by omega))
  have e : sortI (stp n (linesOf n cs) f) = ((List.range (n.toNat - 1)).filter fun (k : Nat) => tieB n cs f (((f : Int) + k + 1) % n)).map fun (k : Nat) => (k : Int) + 1 := by
    refine sortI_eq nd ?_ fun x => ?_
    · refine List.pairwise_map.mpr ((List.pairwise_lt_range.filter _).imp fun h => by omega)
    · unfold stp
      rw [List.mem_flatMap, List.mem_map]
      refine ⟨fun ⟨p, hm, hx⟩ => ?_, fun ⟨k, hk, hx⟩ => ?_⟩
      · have pl := lok.lt p hm
        have hx := (el p hm x).mp hx
        refine ⟨(x - 1).toNat, List.mem_filter.mpr ⟨List.mem_range.mpr (by omega), ?_⟩, by omega⟩
        have ex : ((f : Int) + ((x - 1).toNat : Nat) + 1) = f + x := by omega
        rw [ex]
        unfold tieB
        refine decide_eq_true ((mem_both hp).mpr ?_)
        rcases hx with ⟨h1, h2⟩ | ⟨h1, h2⟩
        · rw [Int.emod_eq_of_lt (by omega) (by omega), show (f : Int) + x = p.2 by omega, ← h1]
          exact .inl hm
        · rw [show (f : Int) + x = p.1 + n by omega, Int.add_emod_right, Int.emod_eq_of_lt (by omega) (by omega), ← h1]
          exact .inr hm
      · obtain ⟨hk1, hk2⟩ := List.mem_filter.mp hk
        have hk1 := List.mem_range.mp hk1
        have hb := (mem_both hp).mp (of_decide_eq_true hk2)
        have eg : ((f : Int) + k + 1) % n = if (f : Int) + k + 1 < n then (f : Int) + k + 1 else (f : Int) + k + 1 - n := by
          split
          · exact Int.emod_eq_of_lt (by omega) (by omega)
          · rw [← Int.sub_emod_right, Int.emod_eq_of_lt (by omega) (by omega)]
        rw [eg] at hb
        rcases hb with hb | hb
        · have pl := lok.lt _ hb
          simp only at pl
          refine ⟨_, hb, (el _ hb x).mpr (.inl ⟨rfl, ?_⟩)⟩
          simp only
          split at pl <;> rename_i h9 <;> simp only [h9, if_true, if_false] <;> omega
        · have pl := lok.lt _ hb
          simp only at pl
          refine ⟨_, hb, (el _ hb x).mpr (.inr ⟨rfl, ?_⟩)⟩
          simp only
          split at pl <;> rename_i h9 <;> simp only [h9, if_true, if_false] <;> omega
  rw [e, List.map_map]
  unfold near
  refine List.map_congr_left fun k _ => ?_
  show ((f : Int) + ((k : Int) + 1)) % n = _
  rw [Int.add_assoc]
theorem e_neighbours : f_neighbours (plD n cs) Kl E = Kl ((List.range n.toNat).map fun (i : Nat) => .list ((near n cs i).map .int)) := by
  have hsl := sizeLine_eq
  have lok := lines_ok hp
  have llen := lines_len hp
  have h3 := hp.lo
  have h40 := hp.hi
  unfold f_neighbours
  simp only [q_add_ii, q_add_ss, q_add_ll, q_add_tt, q_addL, q_sub, q_mul, q_div, q_mod, q_neg, q_bool, q_eq_ii, q_eq_ss, q_eq_bb, q_ne_ii, q_ne_ss, q_ne_bb, q_lt, q_le, q_gt, q_ge, q_un2, q_un3, q_un4, q_intO, q_len_l, q_len_t, q_len_s, q_abs, q_int_i, q_int_b, q_tup_l, q_tup_t, q_list_l, q_list_t, q_min, q_max, q_it_l, q_it_t, q_rng, q_enu_l, q_enu_t, q_rev, q_sl_l, q_sl_t, q_sl_s, q_slL, q_all, q_any, q_sum, q_sort_pp, q_and, q_or, q_ite, q_join, cond_true, cond_false, true_and, and_true, decide_eq_true_eq, decide_true, decide_false, p_un_pl, p_ix_pl0, p_ix_pl1, p_un_pp, p_ix_pp0, p_ix_pp1, p_mk, p_eq, p_ne, p_in, p_notIn, p_lt, e_all_lines' hp, range0]
  refine Eq.trans (propext (and_iff_right (by omega))) ?_
  have base : List.replicate ((List.range n.toNat).map fun (i : Nat) => PyData.int i).length ([] : List PyData) = (fun i => (List.range n.toNat).map fun (f : Nat) => (stp n ((linesOf n cs).take i) f).map PyData.int) 0 := by
    refine List.ext_getElem? fun i => ?_
    rw [List.length_map, List.length_range]
    by_cases h : i < n.toNat
    · rw [List.getElem?_replicate, if_pos h, List.getElem?_map, List.getElem?_range h]; rfl
    · rw [List.getElem?_replicate, if_neg h, List.getElem?_eq_none (by simpa using h)]
  rw [base, q_for_seq (linesOf n cs) ppD (fun i => (List.range n.toNat).map fun (f : Nat) => (stp n ((linesOf n cs).take i) f).map PyData.int) fun i p hp1 N => ?_]
  · simp only [q_add_ii, q_add_ss, q_add_ll, q_add_tt, q_addL, q_sub, q_mul, q_div, q_mod, q_neg, q_bool, q_eq_ii, q_eq_ss, q_eq_bb, q_ne_ii, q_ne_ss, q_ne_bb, q_lt, q_le, q_gt, q_ge, q_un2, q_un3, q_un4, q_intO, q_len_l, q_len_t, q_len_s, q_abs, q_int_i, q_int_b, q_tup_l, q_tup_t, q_list_l, q_list_t, q_min, q_max, q_it_l, q_it_t, q_rng, q_enu_l, q_enu_t, q_rev, q_sl_l, q_sl_t, q_sl_s, q_slL, q_all, q_any, q_sum, q_sort_pp, q_and, q_or, q_ite, q_join, cond_true, cond_false, true_and, and_true, decide_eq_true_eq, decide_true, decide_false, p_un_pl, p_ix_pl0, p_ix_pl1, p_un_pp, p_ix_pp0, p_ix_pp1, p_mk, p_eq, p_ne, p_in, p_notIn, p_lt, List.take_length]
    refine Eq.trans (propext (and_iff_right (by omega))) ?_
    rw [q_lc_map _ _ (fun (i : Nat) => PyData.list ((near n cs i).map .int)) fun f hf k s => ?_]
    · rfl
    · have hf := List.mem_range.mp hf
      rw [row_rg (by omega) (by omega), Int.toNat_natCast, q_sort_ints]
      rw [q_lc_map _ _ (fun s => PyData.int (((f : Int) + s) % n)) fun s _ k s => by simp only [q_add_ii, q_add_ss, q_add_ll, q_add_tt, q_addL, q_sub, q_mul, q_div, q_mod, q_neg, q_bool, q_eq_ii, q_eq_ss, q_eq_bb, q_ne_ii, q_ne_ss, q_ne_bb, q_lt, q_le, q_gt, q_ge, q_un2, q_un3, q_un4, q_intO, q_len_l, q_len_t, q_len_s, q_abs, q_int_i, q_int_b, q_tup_l, q_tup_t, q_list_l, q_list_t, q_min, q_max, q_it_l, q_it_t, q_rng, q_enu_l, q_enu_t, q_rev, q_sl_l, q_sl_t, q_sl_s, q_slL, q_all, q_any, q_sum, q_sort_pp, q_and, q_or, q_ite, q_join, cond_true, cond_false, true_and, and_true, decide_eq_true_eq, decide_true, decide_false, p_un_pl, p_ix_pl0, p_ix_pl1, p_un_pp, p_ix_pp0, p_ix_pp1, p_mk, p_eq, p_ne, p_in, p_notIn, p_lt, show 0 < n by omega]]
      rw [List.nil_append, ← stp_near hp f (by omega), List.map_map]
      rfl
  · have hi := (List.getElem?_eq_some_iff.mp hp1).1
    have pl := lok.lt p (List.mem_of_getElem? hp1)
    have b1 : ∀ f : Int, (stp n ((linesOf n cs).take i) f).length ≤ 2 * i := fun f => by
      have := stp_len hp ((linesOf n cs).take i) f
      rw [List.length_take] at this
      omega
    have c1 := b1 p.1
    have c2 := b1 p.2
    simp only [q_add_ii, q_add_ss, q_add_ll, q_add_tt, q_addL, q_sub, q_mul, q_div, q_mod, q_neg, q_bool, q_eq_ii, q_eq_ss, q_eq_bb, q_ne_ii, q_ne_ss, q_ne_bb, q_lt, q_le, q_gt, q_ge, q_un2, q_un3, q_un4, q_intO, q_len_l, q_len_t, q_len_s, q_abs, q_int_i, q_int_b, q_tup_l, q_tup_t, q_list_l, q_list_t, q_min, q_max, q_it_l, q_it_t, q_rng, q_enu_l, q_enu_t, q_rev, q_sl_l, q_sl_t, q_sl_s, q_slL, q_all, q_any, q_sum, q_sort_pp, q_and, q_or, q_ite, q_join, cond_true, cond_false, true_and, and_true, decide_eq_true_eq, decide_true, decide_false, p_un_pl, p_ix_pl0, p_ix_pl1, p_un_pp, p_ix_pp0, p_ix_pp1, p_mk, p_eq, p_ne, p_in, p_notIn, p_lt, show 0 < n by omega]
    rw [row_rg (by omega) (by omega), rowApp_rg (by omega) (by omega) (by rw [List.length_map, show ((p.1.toNat : Nat) : Int) = p.1 by omega]; omega)]
    have ne : p.2.toNat ≠ p.1.toNat := by omega
    rw [row_rg (by omega) (by omega), rowApp_rg (by omega) (by omega) (by
      rw [if_neg ne, List.length_map, show ((p.2.toNat : Nat) : Int) = p.2 by omega]; omega)]
    refine congrArg N (List.map_congr_left fun x hx => ?_)
    have et : stp n ((linesOf n cs).take (i + 1)) x = stp n ((linesOf n cs).take i) x ++ ((if p.1 = (x : Int) then [(p.2 - p.1) % n] else []) ++ (if p.2 = (x : Int) then [(p.1 - p.2) % n] else [])) := by
      unfold stp
      rw [List.take_succ, hp1, List.flatMap_append]
      simp
    rw [et, List.map_append]
    by_cases h1 : x = p.1.toNat
    · have h2 : x ≠ p.2.toNat := by omega
      rw [if_neg h2, if_pos h1, if_pos (by omega), if_neg (by omega)]
      simp
    · rw [if_neg h1, if_neg (show ¬ p.1 = (x : Int) by omega)]
      by_cases h2 : x = p.2.toNat
      · rw [if_pos h2, if_pos (by omega)]; simp
      · rw [if_neg h2, if_neg (by omega)]; simp
end
end Tx

namespace Tx
open PySem PySem.Spec PyProof.Rows L2 TL
@[irreducible] def f_middle_corners (plan : PyData) (place : PyData) (K : KD) (E : KX) : Prop :=
  un2 place fun top1 under2 =>
  f_neighbours plan (fun r4 =>
  ixM (.list r4) top1 fun r5 =>
  lstO r5 fun l6 =>
  indexM l6 under2 fun r7 =>
  modM r7 (.int 3) fun r8 =>
  lenM r5 fun r9 =>
  subM r7 r9 fun r10 =>
  addM r10 (.int 1) fun r11 =>
  modM r11 (.int 3) fun r12 =>
  K (.tuple [r8, r12])) E
def c_middle_corners : CT := fun args Φ Ψ => ∃ (plan : PyData) (place : PyData) (K : KD) (E : KX), args = [.d plan, .d place] ∧ f_middle_corners plan place K E ∧ (∀ r, K r → Φ (.rd r) args) ∧ ∀ c, E c → Ψ c args
@[irreducible] def f_middles (plan : PyData) (place : PyData) (K : KD) (E : KX) : Prop :=
  f_need_place plan place (fun r1 =>
  f_middle_corners plan place (fun r2 =>
  K r2) E) E
def c_middles : CT := fun args Φ Ψ => ∃ (plan : PyData) (place : PyData) (K : KD) (E : KX), args = [.d plan, .d place] ∧ f_middles plan place K E ∧ (∀ r, K r → Φ (.rd r) args) ∧ ∀ c, E c → Ψ c args
@[irreducible] def f__law_fan (l_plan_here : PyData) (l_face : PyData) (K : KL) (E : KX) : Prop :=
  f__law_tied l_plan_here (fun r2 =>
  ixM l_plan_here (.int 0) fun r3 =>
  rngM (.int 1) r3 fun xs4 =>
  lcM (fun l_step5 kp sk => addM l_face l_step5 fun r7 =>
  modM r7 r3 fun r8 =>
  inTM r2 (.tuple [l_face, r8]) fun b9 =>
  (b9 = true → (addM l_face l_step5 fun r10 =>
  modM r10 r3 fun r11 =>
  kp r11)) ∧ (b9 = false → sk)) (fun l6 =>
  K l6) xs4 []) E
def c__law_fan : CT := fun args Φ Ψ => ∃ (l_plan_here : PyData) (l_face : PyData) (K : KL) (E : KX), args = [.d l_plan_here, .d l_face] ∧ f__law_fan l_plan_here l_face K E ∧ (∀ r, K r → Φ (.nl r) args) ∧ ∀ c, E c → Ψ c args
@[irreducible] def f__law_middles (l_plan_here : PyData) (l_spot_here : PyData) (K : KD) (E : KX) : Prop :=
  ixM l_spot_here (.int 0) fun r1 =>
  f__law_fan l_plan_here r1 (fun r2 =>
  lstO (.list r2) fun l3 =>
  ixM l_spot_here (.int 1) fun r4 =>
  indexM l3 r4 fun r5 =>
  lenM (.list r2) fun r6 =>
  subM r6 (.int 1) fun r7 =>
  subM r7 r5 fun r8 =>
  modM r5 (.int 3) fun r9 =>
  mulM (.int 2) r8 fun r10 =>
  modM r10 (.int 3) fun r11 =>
  K (.tuple [r9, r11])) E
def c__law_middles : CT := fun args Φ Ψ => ∃ (l_plan_here : PyData) (l_spot_here : PyData) (K : KD) (E : KX), args = [.d l_plan_here, .d l_spot_here] ∧ f__law_middles l_plan_here l_spot_here K E ∧ (∀ r, K r → Φ (.rd r) args) ∧ ∀ c, E c → Ψ c args
@[irreducible] def f__law_spot (l_plan_here : PyData) (K : KD) (E : KX) : Prop :=
  f__law_spots l_plan_here (fun r1 =>
  lenM (.list r1) fun r2 =>
  f__law_pull r2 (fun r3 =>
  ixM (.list r1) r3 fun r4 =>
  K r4) E) E
def c__law_spot : CT := fun args Φ Ψ => ∃ (a_l_bag_here : Addr) (l_plan_here : PyData) (K : KD) (E : KX), args = [.bg a_l_bag_here, .d l_plan_here] ∧ f__law_spot l_plan_here K E ∧ (∀ r, K r → Φ (.rd r) args) ∧ ∀ c, E c → Ψ c args
@[irreducible] def f_law_k30 (script : PyData) (K : KD) (E : KX) : Prop :=
  f__law_pull (.int 3) (fun r1 =>
  ixM (.list [(.int 6), (.int 12), (.int 40)]) r1 fun r2 =>
  f__law_plan r2 (fun r3 =>
  f__law_spots r3 (fun r4 =>
  joinM (fun (Q : PyData → Prop) => lenM (.list r4) fun r5 =>
  gtM r5 (.int 42) fun b6 =>
  (b6 = true → (rngM (.int 0) (.int 30) fun xs10 =>
  lcM (fun l_turn11 kp sk => f__law_spot r3 (fun r13 =>
  kp r13) (fun _ => False)) (fun l12 =>
  Q (.list l12)) xs10 [])) ∧ (b6 = false → (Q (.list r4)))) (fun l_rows14 =>
  itM l_rows14 fun xs15 =>
  forM (fun l_spot_here17 (_ : Unit) N18 B19 => f_middles r3 l_spot_here17 (fun r21 =>
  f__law_middles r3 l_spot_here17 (fun r22 =>
  f__law_alike r21 r22 (fun r23 =>
  boolM r23 fun b24 =>
  ((!b24) = true → (K (.bool false))) ∧ ((!b24) = false → (andM (fun Q => ixM l_spot_here17 (.int 0) fun r29 =>
  addM r29 (.int 1) fun r30 =>
  ixM r3 (.int 0) fun r31 =>
  modM r30 r31 fun r32 =>
  ixM l_spot_here17 (.int 1) fun r33 =>
  eqM r32 r33 fun b34 =>
  Q b34) (fun Q => f_middles r3 l_spot_here17 (fun r35 =>
  ixM r35 (.int 0) fun r36 =>
  neM r36 (.int 0) fun b37 =>
  Q b37) E) fun b28 =>
  (b28 = true → (K (.bool false))) ∧ (b28 = false → (andM (fun Q => ixM l_spot_here17 (.int 1) fun r42 =>
  addM r42 (.int 1) fun r43 =>
  ixM r3 (.int 0) fun r44 =>
  modM r43 r44 fun r45 =>
  ixM l_spot_here17 (.int 0) fun r46 =>
  eqM r45 r46 fun b47 =>
  Q b47) (fun Q => f_middles r3 l_spot_here17 (fun r48 =>
  ixM r48 (.int 1) fun r49 =>
  neM r49 (.int 0) fun b50 =>
  Q b50) E) fun b41 =>
  (b41 = true → (K (.bool false))) ∧ (b41 = false → (N18 ()))))))) E) E) E) (fun (_ : Unit) =>
  K (.bool true)) xs15 ())) E) E) E
section
variable {K : KD} {Kl : KL} {E : KX} {Kb : KB} {n i j : Int} {cs : List (Int × Int)} {p q : Int × Int}
theorem q_ixr {m : Nat} {f : Nat → PyData} {a : Int} (h0 : 0 ≤ a) (h : a < m) : ixM (.list ((List.range m).map f)) (.int a) K = K (f a.toNat) := by
  show (match atI ((List.range m).map f) a with | some y => K y | none => False) = _
  rw [rg_at h0 h]
theorem shp_ints (L : List Int) : SeqAt.shaped (.list (L.map .int)) = true := by
  have h1 : ∀ M : List Int, PyData.canLayAll0 (M.map .int) = true ∧ PyData.depthAll (M.map .int) ≤ 0 := fun M => by
    induction M with
    | nil => exact ⟨rfl, Nat.zero_le _⟩
    | cons a M ih =>
      refine ⟨?_, ?_⟩
      · show (PyData.canLay0 (.int a) && PyData.canLayAll0 (M.map .int)) = true
        rw [ih.1]; rfl
      · show max (PyData.depth (.int a)) (PyData.depthAll (M.map .int)) ≤ 0
        exact Nat.max_le.mpr ⟨Nat.le_of_ble_eq_true rfl, ih.2⟩
  unfold SeqAt.shaped
  have e1 : PyData.canLay0 (.list (L.map .int)) = true := (h1 L).1
  have e2 : PyData.depth (.list (L.map .int)) ≤ 64 := by
    show PyData.depthAll (L.map .int) + 1 ≤ 64
    have := (h1 L).2
    omega
  rw [e1, decide_eq_true e2]
  rfl
theorem find_ints {L : List Int} (h : i ∈ L) : (L.map PyData.int).findIdx? (fun z => PyData.eqv z (.int i)) = some (L.idxOf i) := by
  have e : ∀ a b : Int, PyData.eqv (.int a) (.int b) = decide (a = b) := fun a b => rfl
  induction L with
  | nil => cases h
  | cons a L ih =>
    rw [List.map_cons, List.findIdx?_cons, e, List.idxOf_cons]
    by_cases z : a = i
    · subst z; simp
    · rw [ih ((List.mem_cons.mp h).resolve_left fun z2 => z z2.symm)]
      have z' : (a == i) = false := by simpa using z
      simp [z, z']
theorem q_lstO {xs : List PyData} : lstO (.list xs) Kl = Kl xs := rfl
theorem q_index {L : List Int} (h : i ∈ L) : indexM (L.map .int) (.int i) K = K (.int (L.idxOf i : Nat)) := by
  unfold indexM
  rw [find_ints h]
  exact propext (and_iff_right ⟨shp_ints L, rfl⟩)
theorem q_inT : inTM (tied (linesOf n cs)) (ppD p) Kb = Kb (tieB n cs p.1 p.2) := by
  show Kb (valP (tied (linesOf n cs)) (keyP p)).isSome = _
  refine congrArg Kb ?_
  unfold valP tied tieB
  generalize both (linesOf n cs) = L
  induction L with
  | nil => simp
  | cons a L ih =>
    rw [List.map_cons, List.find?_cons]
    by_cases e : a = p
    · subst e; simp
    · have : ¬ keyP a = keyP p := fun z => e (keyP_inj z)
      simp only [this, decide_false]
      rw [ih]
      have e' : ¬ (p.1, p.2) = a := fun z => e z.symm
      simp [e']
variable (hp : IsPlan n cs)
include hp
theorem mem_near {a b : Int} (h : tieB n cs a b = true) : b ∈ near n cs a := by
  obtain ⟨h1, h2, h3, h4, h5⟩ := tie_lt hp h
  unfold near
  have eg : ∃ k : Nat, k < n.toNat - 1 ∧ (a + k + 1) % n = b := by
    by_cases hab : a < b
    · exact ⟨(b - a - 1).toNat, by omega, by rw [show a + ((b - a - 1).toNat : Nat) + 1 = b by omega]; exact Int.emod_eq_of_lt h3 h4⟩
    · exact ⟨(b - a - 1 + n).toNat, by omega, by rw [show a + ((b - a - 1 + n).toNat : Nat) + 1 = b + n by omega, Int.add_emod_right]; exact Int.emod_eq_of_lt h3 h4⟩
  obtain ⟨k, k1, k2⟩ := eg
  exact List.mem_map.mpr ⟨k, List.mem_filter.mpr ⟨List.mem_range.mpr k1, by rw [k2]; exact h⟩, k2⟩
theorem near_len (a : Int) : (near n cs a).length ≤ 40 := by
  unfold near
  rw [List.length_map]
  have := List.length_filter_le (fun (k : Nat) => tieB n cs a ((a + k + 1) % n)) (List.range (n.toNat - 1))
  rw [List.length_range] at this
  have := hp.hi
  omega
theorem near_first {a b : Int} (h : tieB n cs a b = true) (e : (a + 1) % n = b) : (near n cs a).idxOf b = 0 := by
  have h3 := hp.lo
  unfold near
  obtain ⟨m, hm⟩ : ∃ m, n.toNat - 1 = m + 1 := ⟨n.toNat - 2, by omega⟩
  rw [hm, List.range_succ_eq_map, List.filter_cons]
  have e0 : (a + ((0 : Nat) : Int) + 1) % n = b := by rw [show a + ((0 : Nat) : Int) + 1 = a + 1 by omega]; exact e
  rw [if_pos (by rw [e0]; exact h), List.map_cons, e0, List.idxOf_cons]
  simp
theorem near_last {a b : Int} (h : tieB n cs a b = true) (e : (b + 1) % n = a) : (near n cs a).idxOf b + 1 = (near n cs a).length := by
  have h3 := hp.lo
  obtain ⟨h1, h2, h3', h4, h5⟩ := tie_lt hp h
  unfold near
  obtain ⟨m, hm⟩ : ∃ m, n.toNat - 1 = m + 1 := ⟨n.toNat - 2, by omega⟩
  have ev : ∀ k : Nat, k ≤ m → (a + k + 1) % n = if a + k + 1 < n then a + k + 1 else a + k + 1 - n := fun k hk => by
    split
    · exact Int.emod_eq_of_lt (by omega) (by omega)
    · rw [← Int.sub_emod_right, Int.emod_eq_of_lt (by omega) (by omega)]
  have eb : (b + 1) % n = if b + 1 < n then b + 1 else b + 1 - n := by
    split
    · exact Int.emod_eq_of_lt (by omega) (by omega)
    · rw [← Int.sub_emod_right, Int.emod_eq_of_lt (by omega) (by omega)]
  have em : (a + (m : Nat) + 1) % n = b := by
    rw [ev m (Nat.le_refl _)]
    rw [eb] at e
    split at e <;> split <;> omega
  rw [hm, List.range_succ, List.filter_append, List.filter_cons, em, if_pos h, List.filter_nil, List.map_append, List.map_cons, List.map_nil, em]
  have nb : ¬ b ∈ ((List.range m).filter fun (k : Nat) => tieB n cs a ((a + k + 1) % n)).map fun (k : Nat) => (a + k + 1) % n := by
    intro hb
    obtain ⟨k, hk, hkb⟩ := List.mem_map.mp hb
    have hk := List.mem_range.mp (List.mem_filter.mp hk).1
    rw [ev k (by omega)] at hkb
    rw [ev m (Nat.le_refl _)] at em
    split at hkb <;> split at em <;> omega
  rw [List.idxOf_append, if_neg nb, List.length_append]
  simp
theorem e__law_fan {f : Int} (h0 : 0 ≤ f) (h : f < n) : f__law_fan (plD n cs) (.int f) Kl E = Kl ((near n cs f).map .int) := by
  have h3 := hp.lo
  have h40 := hp.hi
  unfold f__law_fan
  simp only [q_add_ii, q_add_ss, q_add_ll, q_add_tt, q_addL, q_sub, q_mul, q_div, q_mod, q_neg, q_bool, q_eq_ii, q_eq_ss, q_eq_bb, q_ne_ii, q_ne_ss, q_ne_bb, q_lt, q_le, q_gt, q_ge, q_un2, q_un3, q_un4, q_intO, q_len_l, q_len_t, q_len_s, q_abs, q_int_i, q_int_b, q_tup_l, q_tup_t, q_list_l, q_list_t, q_min, q_max, q_it_l, q_it_t, q_rng, q_enu_l, q_enu_t, q_rev, q_sl_l, q_sl_t, q_sl_s, q_slL, q_all, q_any, q_sum, q_sort_pp, q_and, q_or, q_ite, q_join, cond_true, cond_false, true_and, and_true, decide_eq_true_eq, decide_true, decide_false, p_un_pl, p_ix_pl0, p_ix_pl1, p_un_pp, p_ix_pp0, p_ix_pp1, p_mk, p_eq, p_ne, p_in, p_notIn, p_lt, e__law_tied hp]
  refine Eq.trans (propext (and_iff_right (by omega))) ?_
  rw [rng_map]
  rw [q_lc_fil _ _ (fun (k : Nat) => tieB n cs f ((f + k + 1) % n)) (fun (k : Nat) => PyData.int ((f + k + 1) % n)) fun k hk kp sk => ?_]
  · rw [List.nil_append]
    unfold near
    rw [List.map_map, show (n - 1).toNat = n.toNat - 1 by omega]
    rfl
  · simp only [q_add_ii, q_add_ss, q_add_ll, q_add_tt, q_addL, q_sub, q_mul, q_div, q_mod, q_neg, q_bool, q_eq_ii, q_eq_ss, q_eq_bb, q_ne_ii, q_ne_ss, q_ne_bb, q_lt, q_le, q_gt, q_ge, q_un2, q_un3, q_un4, q_intO, q_len_l, q_len_t, q_len_s, q_abs, q_int_i, q_int_b, q_tup_l, q_tup_t, q_list_l, q_list_t, q_min, q_max, q_it_l, q_it_t, q_rng, q_enu_l, q_enu_t, q_rev, q_sl_l, q_sl_t, q_sl_s, q_slL, q_all, q_any, q_sum, q_sort_pp, q_and, q_or, q_ite, q_join, cond_true, cond_false, true_and, and_true, decide_eq_true_eq, decide_true, decide_false, p_un_pl, p_ix_pl0, p_ix_pl1, p_un_pp, p_ix_pp0, p_ix_pp1, p_mk, p_eq, p_ne, p_in, p_notIn, p_lt, q_inT, show 0 < n by omega]
    rw [show f + (1 + (k : Int)) = f + k + 1 by omega]
/-- the rests of the counts ahead and behind -/
def mid (n : Int) (cs : List (Int × Int)) (p : Int × Int) : Int × Int := ((((near n cs p.1).idxOf p.2 : Nat) : Int) % 3, (((near n cs p.1).idxOf p.2 : Nat) - ((near n cs p.1).length : Int) + 1) % 3)
theorem e_middle_corners (h : tieB n cs p.1 p.2 = true) : f_middle_corners (plD n cs) (ppD p) K E = K (ppD (mid n cs p)) := by
  obtain ⟨h1, h2, h3', h4, h5⟩ := tie_lt hp h
  unfold f_middle_corners
  simp only [q_add_ii, q_add_ss, q_add_ll, q_add_tt, q_addL, q_sub, q_mul, q_div, q_mod, q_neg, q_bool, q_eq_ii, q_eq_ss, q_eq_bb, q_ne_ii, q_ne_ss, q_ne_bb, q_lt, q_le, q_gt, q_ge, q_un2, q_un3, q_un4, q_intO, q_len_l, q_len_t, q_len_s, q_abs, q_int_i, q_int_b, q_tup_l, q_tup_t, q_list_l, q_list_t, q_min, q_max, q_it_l, q_it_t, q_rng, q_enu_l, q_enu_t, q_rev, q_sl_l, q_sl_t, q_sl_s, q_slL, q_all, q_any, q_sum, q_sort_pp, q_and, q_or, q_ite, q_join, cond_true, cond_false, true_and, and_true, decide_eq_true_eq, decide_true, decide_false, p_un_pl, p_ix_pl0, p_ix_pl1, p_un_pp, p_ix_pp0, p_ix_pp1, p_mk, p_eq, p_ne, p_in, p_notIn, p_lt, e_neighbours hp]
  rw [q_ixr (by omega) (by omega), show ((p.1.toNat : Nat) : Int) = p.1 by omega]
  simp only [q_add_ii, q_add_ss, q_add_ll, q_add_tt, q_addL, q_sub, q_mul, q_div, q_mod, q_neg, q_bool, q_eq_ii, q_eq_ss, q_eq_bb, q_ne_ii, q_ne_ss, q_ne_bb, q_lt, q_le, q_gt, q_ge, q_un2, q_un3, q_un4, q_intO, q_len_l, q_len_t, q_len_s, q_abs, q_int_i, q_int_b, q_tup_l, q_tup_t, q_list_l, q_list_t, q_min, q_max, q_it_l, q_it_t, q_rng, q_enu_l, q_enu_t, q_rev, q_sl_l, q_sl_t, q_sl_s, q_slL, q_all, q_any, q_sum, q_sort_pp, q_and, q_or, q_ite, q_join, cond_true, cond_false, true_and, and_true, decide_eq_true_eq, decide_true, decide_false, p_un_pl, p_ix_pl0, p_ix_pl1, p_un_pp, p_ix_pp0, p_ix_pp1, p_mk, p_eq, p_ne, p_in, p_notIn, p_lt, q_lstO, q_index (mem_near hp h), List.length_map, show (0 : Int) < 3 by decide]
  rfl
theorem e_middles (h : tieB n cs p.1 p.2 = true) : f_middles (plD n cs) (ppD p) K E = K (ppD (mid n cs p)) := by
  unfold f_middles
  simp only [e_need_place hp, show p ∈ both (linesOf n cs) from of_decide_eq_true h, e_middle_corners hp h, decide_true, cond_true]
theorem e__law_middles (h : tieB n cs p.1 p.2 = true) : f__law_middles (plD n cs) (ppD p) K E = K (ppD (mid n cs p)) := by
  obtain ⟨h1, h2, h3', h4, h5⟩ := tie_lt hp h
  have hi : (near n cs p.1).idxOf p.2 < (near n cs p.1).length := List.idxOf_lt_length_of_mem (mem_near hp h)
  have hl := near_len hp p.1
  unfold f__law_middles
  simp only [q_add_ii, q_add_ss, q_add_ll, q_add_tt, q_addL, q_sub, q_mul, q_div, q_mod, q_neg, q_bool, q_eq_ii, q_eq_ss, q_eq_bb, q_ne_ii, q_ne_ss, q_ne_bb, q_lt, q_le, q_gt, q_ge, q_un2, q_un3, q_un4, q_intO, q_len_l, q_len_t, q_len_s, q_abs, q_int_i, q_int_b, q_tup_l, q_tup_t, q_list_l, q_list_t, q_min, q_max, q_it_l, q_it_t, q_rng, q_enu_l, q_enu_t, q_rev, q_sl_l, q_sl_t, q_sl_s, q_slL, q_all, q_any, q_sum, q_sort_pp, q_and, q_or, q_ite, q_join, cond_true, cond_false, true_and, and_true, decide_eq_true_eq, decide_true, decide_false, p_un_pl, p_ix_pl0, p_ix_pl1, p_un_pp, p_ix_pp0, p_ix_pp1, p_mk, p_eq, p_ne, p_in, p_notIn, p_lt, e__law_fan hp h1 h2, q_lstO, q_index (mem_near hp h), List.length_map, show (0 : Int) < 3 by decide]
  refine Eq.trans (propext (and_iff_right (by unfold CMul; omega))) ?_
  refine congrArg K (congrArg ppD (Prod.ext rfl ?_))
  show 2 * (((near n cs p.1).length : Int) - 1 - (((near n cs p.1).idxOf p.2 : Nat) : Int)) % 3 = _
  unfold mid
  simp only
  omega
theorem i__law_spot (hK : ∀ p, p ∈ both (linesOf n cs) → K (ppD p)) : f__law_spot (plD n cs) K E := by
  unfold f__law_spot
  have hl := spots_len hp
  have h3 := hp.lo
  have h40 := hp.hi
  simp only [q_add_ii, q_add_ss, q_add_ll, q_add_tt, q_addL, q_sub, q_mul, q_div, q_mod, q_neg, q_bool, q_eq_ii, q_eq_ss, q_eq_bb, q_ne_ii, q_ne_ss, q_ne_bb, q_lt, q_le, q_gt, q_ge, q_un2, q_un3, q_un4, q_intO, q_len_l, q_len_t, q_len_s, q_abs, q_int_i, q_int_b, q_tup_l, q_tup_t, q_list_l, q_list_t, q_min, q_max, q_it_l, q_it_t, q_rng, q_enu_l, q_enu_t, q_rev, q_sl_l, q_sl_t, q_sl_s, q_slL, q_all, q_any, q_sum, q_sort_pp, q_and, q_or, q_ite, q_join, cond_true, cond_false, true_and, and_true, decide_eq_true_eq, decide_true, decide_false, p_un_pl, p_ix_pl0, p_ix_pl1, p_un_pp, p_ix_pp0, p_ix_pp1, p_mk, p_eq, p_ne, p_in, p_notIn, p_lt, e__law_spots hp, List.length_map]
  rw [e__law_pull (by omega) (by omega)]
  intro r r0 r1
  obtain ⟨x, hx⟩ : ∃ x, (spots n cs)[r.toNat]? = some x := ⟨_, List.getElem?_eq_getElem (show r.toNat < (spots n cs).length by omega)⟩
  show (match atI ((spots n cs).map ppD) r with | some y => K y | none => False)
  rw [at_nat r0 (by rw [List.getElem?_map, hx]; rfl)]
  exact hK x ((sortPP_perm _).mem_iff.mp (List.mem_of_getElem? hx))
omit hp in
theorem lc_any {bd : PyData → (PyData → Prop) → Prop → Prop} {K : List PyData → Prop} (S : Int × Int → Prop) : ∀ (xs : List PyData) (h : ∀ a ∈ xs, ∀ (k : PyData → Prop) (s : Prop), (∀ p, S p → k (ppD p)) → bd a k s) (acc : List PyData) (hK : ∀ L : List (Int × Int), (∀ p ∈ L, S p) → L.length ≤ xs.length → K (acc ++ L.map ppD)), lcM bd K xs acc
  | [], _, acc, hK => by have := hK [] (fun _ h => by cases h) (Nat.le_refl _); rw [List.map_nil, List.append_nil] at this; exact this
  | x :: xs, h, acc, hK => by
    show bd x _ _
    refine h x (List.mem_cons_self ..) _ _ fun p hp => ?_
    refine lc_any S xs (fun a ha => h a (List.mem_cons_of_mem _ ha)) _ fun L hL hl => ?_
    have := hK (p :: L) (fun q hq => by rcases List.mem_cons.mp hq with rfl | hq; exact hp; exact hL q hq) (by simp; omega)
    rwa [List.map_cons, List.append_cons] at this
omit hp in
theorem joinM_of {bd : (PyData → Prop) → Prop} {K : PyData → Prop} (S : List (Int × Int) → Prop) (h1 : ∀ Q : PyData → Prop, (∀ L, S L → Q (.list (L.map ppD))) → bd Q) (h2 : ∀ L, S L → K (.list (L.map ppD))) : joinM bd K := h1 K h2
end
theorem e_law_k30 (ns : List Int) (h : ns.length ≤ 63) : f_law_k30 (.list (ns.map .int)) (fun r => r = .bool true) (fun _ => False) := by
  have hsl := sizeLine_eq
  unfold f_law_k30
  rw [e__law_pull (by decide) (by decide)]
  intro r r0 r1
  have er : r = 0 ∨ r = 1 ∨ r = 2 := by omega
  have main : ∀ m : Int, 3 ≤ m → m ≤ 40 → ∀ K' : KD, (∀ n cs, IsPlan n cs → K' (plD n cs)) → f__law_plan (.int m) K' (fun _ => False) := fun m h3 h40 K' hK' => by
    rw [e__law_plan h3 h40]
    exact fun n hn hnm l hl => hK' _ _ (arcs_plan hn (by omega) hl)
  have pull : ∀ K' : KD, (∀ n cs, IsPlan n cs → K' (plD n cs)) → ixM (.list [(.int 6), (.int 12), (.int 40)]) (.int r) fun r2 => f__law_plan r2 K' (fun _ => False) := fun K' hK' => by
    rcases er with rfl | rfl | rfl <;> exact main _ (by decide) (by decide) _ hK'
  refine pull _ fun n cs hp => ?_
  have h3 := hp.lo
  have h40 := hp.hi
  rw [e__law_spots hp]
  have sm : ∀ p, p ∈ spots n cs → p ∈ both (linesOf n cs) := fun p hp1 => (sortPP_perm _).mem_iff.mp hp1
  have ok := fun p : Int × Int => okD_p 7 p
  refine joinM_of (fun L => ∀ p ∈ L, p ∈ both (linesOf n cs)) (fun Q hQ => ?_) fun L hL => ?_
  · simp only [q_add_ii, q_add_ss, q_add_ll, q_add_tt, q_addL, q_sub, q_mul, q_div, q_mod, q_neg, q_bool, q_eq_ii, q_eq_ss, q_eq_bb, q_ne_ii, q_ne_ss, q_ne_bb, q_lt, q_le, q_gt, q_ge, q_un2, q_un3, q_un4, q_intO, q_len_l, q_len_t, q_len_s, q_abs, q_int_i, q_int_b, q_tup_l, q_tup_t, q_list_l, q_list_t, q_min, q_max, q_it_l, q_it_t, q_rng, q_enu_l, q_enu_t, q_rev, q_sl_l, q_sl_t, q_sl_s, q_slL, q_all, q_any, q_sum, q_sort_pp, q_and, q_or, q_ite, q_join, cond_true, cond_false, true_and, and_true, decide_eq_true_eq, decide_true, decide_false, p_un_pl, p_ix_pl0, p_ix_pl1, p_un_pp, p_ix_pp0, p_ix_pp1, p_mk, p_eq, p_ne, p_in, p_notIn, p_lt, List.length_map]
    cases decide (42 < ((spots n cs).length : Int)) with
    | false => exact hQ _ sm
    | true =>
      refine ⟨by decide, lc_any (fun p => p ∈ both (linesOf n cs)) _ (fun a ha k s hk => ?_) [] fun L hL hl => hQ L hL⟩
      exact i__law_spot hp hk
  · simp only [q_add_ii, q_add_ss, q_add_ll, q_add_tt, q_addL, q_sub, q_mul, q_div, q_mod, q_neg, q_bool, q_eq_ii, q_eq_ss, q_eq_bb, q_ne_ii, q_ne_ss, q_ne_bb, q_lt, q_le, q_gt, q_ge, q_un2, q_un3, q_un4, q_intO, q_len_l, q_len_t, q_len_s, q_abs, q_int_i, q_int_b, q_tup_l, q_tup_t, q_list_l, q_list_t, q_min, q_max, q_it_l, q_it_t, q_rng, q_enu_l, q_enu_t, q_rev, q_sl_l, q_sl_t, q_sl_s, q_slL, q_all, q_any, q_sum, q_sort_pp, q_and, q_or, q_ite, q_join, cond_true, cond_false, true_and, and_true, decide_eq_true_eq, decide_true, decide_false, p_un_pl, p_ix_pl0, p_ix_pl1, p_un_pp, p_ix_pp0, p_ix_pp1, p_mk, p_eq, p_ne, p_in, p_notIn, p_lt]
    rw [q_for_all (R := True) _ _ (fun _ => true) fun p hp1 N => ?_]
    · simp
    · have hm := hL p hp1
      have ht : tieB n cs p.1 p.2 = true := decide_eq_true hm
      obtain ⟨h1, h2, h3', h4, h5⟩ := tie_lt hp ht
      have f1 : (decide ((p.1 + 1) % n = p.2) && !decide ((mid n cs p).1 = 0)) = false := by
        by_cases e : (p.1 + 1) % n = p.2
        · have := near_first hp ht e
          simp [mid, this]
        · simp [e]
      have f2 : (decide ((p.2 + 1) % n = p.1) && !decide ((mid n cs p).2 = 0)) = false := by
        by_cases e : (p.2 + 1) % n = p.1
        · have := near_last hp ht e
          have e2 : (mid n cs p).2 = 0 := by
            unfold mid
            simp only
            omega
          simp [e2]
        · simp [e]
      simp only [q_add_ii, q_add_ss, q_add_ll, q_add_tt, q_addL, q_sub, q_mul, q_div, q_mod, q_neg, q_bool, q_eq_ii, q_eq_ss, q_eq_bb, q_ne_ii, q_ne_ss, q_ne_bb, q_lt, q_le, q_gt, q_ge, q_un2, q_un3, q_un4, q_intO, q_len_l, q_len_t, q_len_s, q_abs, q_int_i, q_int_b, q_tup_l, q_tup_t, q_list_l, q_list_t, q_min, q_max, q_it_l, q_it_t, q_rng, q_enu_l, q_enu_t, q_rev, q_sl_l, q_sl_t, q_sl_s, q_slL, q_all, q_any, q_sum, q_sort_pp, q_and, q_or, q_ite, q_join, cond_true, cond_false, true_and, and_true, decide_eq_true_eq, decide_true, decide_false, p_un_pl, p_ix_pl0, p_ix_pl1, p_un_pp, p_ix_pp0, p_ix_pp1, p_mk, p_eq, p_ne, p_in, p_notIn, p_lt, e_middles hp ht, e__law_middles hp ht, e__law_alike (ok _), show 0 < n by omega, Bool.not_true]
      rw [f1]
      simp only [q_add_ii, q_add_ss, q_add_ll, q_add_tt, q_addL, q_sub, q_mul, q_div, q_mod, q_neg, q_bool, q_eq_ii, q_eq_ss, q_eq_bb, q_ne_ii, q_ne_ss, q_ne_bb, q_lt, q_le, q_gt, q_ge, q_un2, q_un3, q_un4, q_intO, q_len_l, q_len_t, q_len_s, q_abs, q_int_i, q_int_b, q_tup_l, q_tup_t, q_list_l, q_list_t, q_min, q_max, q_it_l, q_it_t, q_rng, q_enu_l, q_enu_t, q_rev, q_sl_l, q_sl_t, q_sl_s, q_slL, q_all, q_any, q_sum, q_sort_pp, q_and, q_or, q_ite, q_join, cond_true, cond_false, true_and, and_true, decide_eq_true_eq, decide_true, decide_false, p_un_pl, p_ix_pl0, p_ix_pl1, p_un_pp, p_ix_pp0, p_ix_pp1, p_mk, p_eq, p_ne, p_in, p_notIn, p_lt]
      rw [f2]
      simp only [q_add_ii, q_add_ss, q_add_ll, q_add_tt, q_addL, q_sub, q_mul, q_div, q_mod, q_neg, q_bool, q_eq_ii, q_eq_ss, q_eq_bb, q_ne_ii, q_ne_ss, q_ne_bb, q_lt, q_le, q_gt, q_ge, q_un2, q_un3, q_un4, q_intO, q_len_l, q_len_t, q_len_s, q_abs, q_int_i, q_int_b, q_tup_l, q_tup_t, q_list_l, q_list_t, q_min, q_max, q_it_l, q_it_t, q_rng, q_enu_l, q_enu_t, q_rev, q_sl_l, q_sl_t, q_sl_s, q_slL, q_all, q_any, q_sum, q_sort_pp, q_and, q_or, q_ite, q_join, cond_true, cond_false, true_and, and_true, decide_eq_true_eq, decide_true, decide_false, p_un_pl, p_ix_pl0, p_ix_pl1, p_un_pp, p_ix_pp0, p_ix_pp1, p_mk, p_eq, p_ne, p_in, p_notIn, p_lt]
end Tx

namespace Tx
open PySem PySem.Spec PyProof.Rows L2 TL
/-! the tree of arcs that a drawn plan has -/
theorem Arcs.fill {s e : Int} {l : List (Int × Int)} (h : Arcs s e l) : ∀ p ∈ (s, e) :: l, 1 < p.2 - p.1 → ∃ m, p.1 < m ∧ m < p.2 ∧ (p.1, m) ∈ (s, e) :: l ∧ (m, p.2) ∈ (s, e) :: l := by
  induction h with
  | leaf h =>
    intro p hp hw
    have := List.mem_singleton.mp hp
    subst this
    simp only at hw; omega
  | @node s m e a b h1 h2 _ _ ia ib =>
    intro p hp hw
    have la : ∀ q, q ∈ (s, m) :: a → q ∈ (s, e) :: (s, m) :: (m, e) :: (a ++ b) := fun q hq => by
      rcases List.mem_cons.mp hq with rfl | hq <;> simp [*]
    have lb : ∀ q, q ∈ (m, e) :: b → q ∈ (s, e) :: (s, m) :: (m, e) :: (a ++ b) := fun q hq => by
      rcases List.mem_cons.mp hq with rfl | hq <;> simp [*]
    have go : p = (s, e) ∨ p ∈ (s, m) :: a ∨ p ∈ (m, e) :: b := by
      simp only [List.mem_cons, List.mem_append] at hp ⊢
      rcases hp with h | h | h | h | h <;> simp [h]
    rcases go with rfl | hq | hq
    · exact ⟨m, h1, h2, la _ (List.mem_cons_self ..), lb _ (List.mem_cons_self ..)⟩
    · obtain ⟨k, k1, k2, k3, k4⟩ := ia p hq hw
      exact ⟨k, k1, k2, la _ k3, la _ k4⟩
    · obtain ⟨k, k1, k2, k3, k4⟩ := ib p hq hw
      exact ⟨k, k1, k2, lb _ k3, lb _ k4⟩
theorem Arcs.unit {s e : Int} {l : List (Int × Int)} (h : Arcs s e l) (hs : s < e) : ∀ x, s ≤ x → x < e → (x, x + 1) ∈ (s, e) :: l := by
  induction h with
  | @leaf s e h =>
    intro x h1 h2
    rw [show x = s by omega, show s + 1 = e by omega]
    exact List.mem_cons_self ..
  | @node s m e a b h1 h2 _ _ ia ib =>
    intro x x1 x2
    by_cases hx : x < m
    · have := ia h1 x x1 hx
      simp only [List.mem_cons, List.mem_append] at this ⊢
      rcases this with h | h <;> simp [h]
    · have := ib h2 x (by omega) x2
      simp only [List.mem_cons, List.mem_append] at this ⊢
      rcases this with h | h <;> simp [h]
theorem mem_lines {n : Int} {cs : List (Int × Int)} {p : Int × Int} (h : 3 ≤ n) : p ∈ linesOf n cs ↔ (0 ≤ p.1 ∧ p.2 = p.1 + 1 ∧ p.2 < n) ∨ p = (0, n - 1) ∨ p ∈ cs := by
  unfold linesOf
  rw [(sortPP_perm _).mem_iff, List.mem_append]
  unfold sides
  rw [List.mem_append, List.mem_map, List.mem_singleton]
  refine ⟨fun z => ?_, fun z => ?_⟩
  · rcases z with (⟨i, hi, rfl⟩ | z) | z
    · have := List.mem_range.mp hi
      exact .inl ⟨by simp, rfl, by simp only; omega⟩
    · exact .inr (.inl z)
    · exact .inr (.inr z)
  · rcases z with ⟨z1, z2, z3⟩ | z | z
    · exact .inl (.inl ⟨p.1.toNat, List.mem_range.mpr (by omega), Prod.ext (by simp only; omega) (by simp only; omega)⟩)
    · exact .inl (.inr z)
    · exact .inr z
section
variable {n : Int} {l : List (Int × Int)}
theorem mem_plan {c : Int × Int} : c ∈ planOf n l ↔ ∃ p ∈ l, wide p = true ∧ nrm n p = c := by
  unfold planOf
  rw [(sortPP_perm _).mem_iff, List.mem_map]
  refine ⟨fun ⟨p, h1, h2⟩ => ⟨p, (List.mem_filter.mp h1).1, (List.mem_filter.mp h1).2, h2⟩, fun ⟨p, h1, h2, h3⟩ => ⟨p, List.mem_filter.mpr ⟨h1, h2⟩, h3⟩⟩
theorem nrm_in {p : Int × Int} (h1 : 1 ≤ p.1) (h2 : p.1 < p.2) (h3 : p.2 < n) : nrm n p = p := by
  unfold nrm
  rw [Int.emod_eq_of_lt (by omega) (by omega), if_neg (by omega), if_pos (by omega)]
theorem nrm_top {p : Int × Int} (h1 : 1 ≤ p.1) (h3 : p.2 = n) : nrm n p = (0, p.1) := by
  unfold nrm
  rw [h3, Int.emod_self, if_pos (by omega), if_neg (by omega)]
/-- lines of a drawn plan: the arcs, n read as 0 -/
theorem tie_arc (h3 : 3 ≤ n) (h : Arcs 1 n l) {x y : Int} (hx : 1 ≤ x) (hy : x < y) (hn : y ≤ n) : tieB n (planOf n l) x (y % n) = true ↔ (x, y) ∈ (1, n) :: l := by
  have hn1 : (1 : Int) < n := by omega
  have hw := h.within hn1
  have hu := h.unit hn1
  unfold tieB
  rw [decide_eq_true_iff]
  have mb : ∀ a b : Int, (a, b) ∈ both (linesOf n (planOf n l)) ↔ (a, b) ∈ linesOf n (planOf n l) ∨ (b, a) ∈ linesOf n (planOf n l) := fun a b => by
    unfold both
    rw [List.mem_flatMap]
    refine ⟨fun ⟨p, q1, q2⟩ => ?_, fun q => ?_⟩
    · have q2 : (a, b) = p ∨ (a, b) = swp p := by simpa using q2
      rcases q2 with z | z
      · exact .inl (z ▸ q1)
      · have : p = (b, a) := by
          unfold swp at z
          exact Prod.ext (congrArg Prod.snd z).symm (congrArg Prod.fst z).symm
        exact .inr (this ▸ q1)
    · rcases q with z | z
      · exact ⟨_, z, by simp⟩
      · exact ⟨_, z, by simp [swp]⟩
  rw [mb, mem_lines h3, mem_lines h3, mem_plan, mem_plan]
  by_cases e : y = n
  · subst e
    rw [Int.emod_self]
    refine ⟨fun z => ?_, fun z => ?_⟩
    · rcases z with (⟨z1, z2, z3⟩ | z | ⟨p, p1, p2, p3⟩) | (⟨z1, z2, z3⟩ | z | ⟨p, p1, p2, p3⟩)
      · simp only at z2; omega
      · have := congrArg Prod.fst z; simp only at this; omega
      · have w := hw p p1
        by_cases pe : p.2 = y
        · rw [nrm_top (by omega) pe] at p3
          have := congrArg Prod.fst p3; simp only at this; omega
        · rw [nrm_in (by omega) (by omega) (by omega)] at p3
          have := congrArg Prod.snd p3; simp only at this; omega
      · simp only at z2
        rw [show x = 1 by omega]
        exact List.mem_cons_self ..
      · have := congrArg Prod.snd z
        simp only at this
        have q := hu x hx hy
        rwa [show x + 1 = y by omega] at q
      · have w := hw p p1
        by_cases pe : p.2 = y
        · rw [nrm_top (by omega) pe] at p3
          have := congrArg Prod.snd p3
          simp only at this
          rw [show (x, y) = p from Prod.ext this.symm pe.symm]
          exact List.mem_cons_of_mem _ p1
        · rw [nrm_in (by omega) (by omega) (by omega)] at p3
          have := congrArg Prod.fst p3; simp only at this; omega
    · right
      rcases List.mem_cons.mp z with z | z
      · have := congrArg Prod.fst z
        simp only at this
        exact .inl ⟨Int.le_refl _, by simp only; omega, by simp only; omega⟩
      · have w := hw _ z
        simp only at w
        by_cases wd : y - x > 1
        · exact .inr (.inr ⟨_, z, decide_eq_true wd, nrm_top hx rfl⟩)
        · exact .inr (.inl (Prod.ext rfl (by simp only; omega)))
  · rw [Int.emod_eq_of_lt (by omega) (by omega)]
    refine ⟨fun z => ?_, fun z => ?_⟩
    · rcases z with (⟨z1, z2, z3⟩ | z | ⟨p, p1, p2, p3⟩) | (⟨z1, z2, z3⟩ | z | ⟨p, p1, p2, p3⟩)
      · simp only at z2
        rw [z2]
        exact hu x hx (by omega)
      · have := congrArg Prod.fst z; simp only at this; omega
      · have w := hw p p1
        by_cases pe : p.2 = n
        · rw [nrm_top (by omega) pe] at p3
          have := congrArg Prod.fst p3; simp only at this; omega
        · rw [nrm_in (by omega) (by omega) (by omega)] at p3
          rw [← p3]
          exact List.mem_cons_of_mem _ p1
      · simp only at z2; omega
      · have := congrArg Prod.fst z; simp only at this; omega
      · have w := hw p p1
        by_cases pe : p.2 = n
        · rw [nrm_top (by omega) pe] at p3
          have := congrArg Prod.fst p3; simp only at this; omega
        · rw [nrm_in (by omega) (by omega) (by omega)] at p3
          have a1 := congrArg Prod.fst p3
          have a2 := congrArg Prod.snd p3
          simp only at a1 a2; omega
    · left
      rcases List.mem_cons.mp z with z | z
      · have := congrArg Prod.snd z; simp only at this; omega
      · have w := hw _ z
        simp only at w
        by_cases wd : y - x > 1
        · exact .inr (.inr ⟨_, z, decide_eq_true wd, nrm_in hx hy (by simp only; omega)⟩)
        · exact .inl ⟨by simp only; omega, by simp only; omega, by simp only; omega⟩
theorem tie_sym {cs : List (Int × Int)} {a b : Int} : tieB n cs a b = tieB n cs b a := by
  unfold tieB
  refine decide_eq_decide.mpr ?_
  unfold both
  simp only [List.mem_flatMap, List.mem_cons, List.not_mem_nil, or_false]
  have go : ∀ a b : Int, (∃ p, p ∈ linesOf n cs ∧ ((a, b) = p ∨ (a, b) = swp p)) → ∃ p, p ∈ linesOf n cs ∧ ((b, a) = p ∨ (b, a) = swp p) := fun a b ⟨p, h1, h2⟩ => by
    refine ⟨p, h1, ?_⟩
    rcases h2 with h | h
    · right; rw [← h]; rfl
    · left; unfold swp at h; exact Prod.ext (congrArg Prod.snd h) (congrArg Prod.fst h)
  exact ⟨go a b, go b a⟩
/-- the first corner between s and e (counted from s + 1 on) that has a line with both -/
def corJ (n : Int) (cs : List (Int × Int)) (s e : Int) : Option Nat := (List.range (e - s - 1).toNat).find? fun (j : Nat) => tieB n cs s (s + j + 1) && tieB n cs (s + j + 1) (e % n)
theorem corJ_some (h3 : 3 ≤ n) (h : Arcs 1 n l) {s e : Int} (ha : (s, e) ∈ (1, n) :: l) (hw : 1 < e - s) : ∃ j : Nat, corJ n (planOf n l) s e = some j ∧ (j : Int) + 1 < e - s ∧ (s, s + j + 1) ∈ (1, n) :: l ∧ (s + j + 1, e) ∈ (1, n) :: l := by
  have hb : 1 ≤ s ∧ s < e ∧ e ≤ n := by
    rcases List.mem_cons.mp ha with z | z
    · have a1 := congrArg Prod.fst z
      have a2 := congrArg Prod.snd z
      simp only at a1 a2; omega
    · have := h.within (by omega) _ z; simp only at this; omega
  obtain ⟨m, m1, m2, m3, m4⟩ := h.fill _ ha hw
  simp only at m1 m2 m3 m4
  have key : ∀ j : Nat, (j : Int) + 1 < e - s → ((tieB n (planOf n l) s (s + j + 1) && tieB n (planOf n l) (s + j + 1) (e % n)) = true ↔ (s, s + j + 1) ∈ (1, n) :: l ∧ (s + j + 1, e) ∈ (1, n) :: l) := fun j hj => by
    rw [Bool.and_eq_true_iff, ← tie_arc h3 h (x := s) (y := s + j + 1) (by omega) (by omega) (by omega), ← tie_arc h3 h (x := s + j + 1) (y := e) (by omega) (by omega) (by omega), Int.emod_eq_of_lt (a := s + (j : Int) + 1) (by omega) (by omega)]
  cases e0 : corJ n (planOf n l) s e with
  | none =>
    unfold corJ at e0
    have := List.find?_eq_none.mp e0 (m - s - 1).toNat (List.mem_range.mpr (by omega))
    refine absurd ((key _ (by omega)).mpr ?_) this
    rw [show s + ((m - s - 1).toNat : Int) + 1 = m by omega]
    exact ⟨m3, m4⟩
  | some j =>
    unfold corJ at e0
    have h1 := List.find?_some e0
    have h2 := List.mem_range.mp (List.mem_of_find?_eq_some e0)
    exact ⟨j, rfl, by omega, (key j (by omega)).mp h1⟩
end
end Tx

namespace Tx
open PySem PySem.Spec PyProof.Rows L2 TL
@[irreducible] def f_between (faces : PyData) (start : PyData) (corner : PyData) (end_ : PyData) (K : KD) (E : KX) : Prop :=
  subM corner start fun r1 =>
  modM r1 faces fun r2 =>
  andM (fun Q => ltM (.int 0) r2 Q) (fun Q => subM end_ start fun r5 =>
  modM r5 faces fun r6 =>
  ltM r2 r6 Q) fun b3 =>
  K (.bool b3)
def c_between : CT := fun args Φ Ψ => ∃ (faces : PyData) (start : PyData) (corner : PyData) (end_ : PyData) (K : KD) (E : KX), args = [.d faces, .d start, .d corner, .d end_] ∧ f_between faces start corner end_ K E ∧ (∀ r, K r → Φ (.rd r) args) ∧ ∀ c, E c → Ψ c args
@[irreducible] def f_part_corner (faces : PyData) (near : PyData) (start : PyData) (end_ : PyData) (K : KD) (E : KX) : Prop :=
  modM start faces fun r2 =>
  ixM near r2 fun r3 =>
  itM r3 fun xs1 =>
  forM (fun corner5 (_ : Unit) N6 B7 => andM (fun Q => modM end_ faces fun r10 =>
  ixM near r10 fun r11 =>
  inM corner5 r11 fun b12 =>
  Q b12) (fun Q => modM start faces fun r13 =>
  modM end_ faces fun r14 =>
  f_between faces r13 corner5 r14 (fun r15 =>
  boolM r15 fun b16 =>
  Q b16) E) fun b9 =>
  (b9 = true → (subM corner5 start fun r20 =>
  modM r20 faces fun r21 =>
  addM start r21 fun r22 =>
  K r22)) ∧ (b9 = false → (N6 ()))) (fun (_ : Unit) =>
  K PyData.none) xs1 ()
def c_part_corner : CT := fun args Φ Ψ => ∃ (faces : PyData) (near : PyData) (start : PyData) (end_ : PyData) (K : KD) (E : KX), args = [.d faces, .d near, .d start, .d end_] ∧ f_part_corner faces near start end_ K E ∧ (∀ r, K r → Φ (.rd r) args) ∧ ∀ c, E c → Ψ c args
@[irreducible] def f_put_down_s (rec : PyData → PyData → PyData → PyData → KD → KX → Prop) (faces : PyData) (near : PyData) (arc : PyData) (crossed : PyData) (K : KD) (E : KX) : Prop :=
  un2 arc fun start1 end_2 =>
  subM end_2 start1 fun r4 =>
  eqM r4 (.int 1) fun b5 =>
  (b5 = true → (K (.list [start1]))) ∧ (b5 = false → (f_part_corner faces near start1 end_2 (fun r9 =>
  boolM crossed fun b10 =>
  rec faces near (.tuple [start1, r9]) (.bool (!b10)) (fun r11 =>
  boolM crossed fun b12 =>
  rec faces near (.tuple [r9, end_2]) (.bool (!b12)) (fun r13 =>
  boolM crossed fun b14 =>
  (b14 = true → (addM r13 r11 fun r18 =>
  K r18)) ∧ (b14 = false → (addM r11 r13 fun r19 =>
  K r19))) E) E) E))
def f_put_down : Nat → PyData → PyData → PyData → PyData → KD → KX → Prop
  | 0 => fun _ _ _ _ _ _ => False
  | n + 1 => f_put_down_s (f_put_down n)
def c_put_down (n : Nat) : CT := fun args Φ Ψ => ∃ (faces : PyData) (near : PyData) (arc : PyData) (crossed : PyData) (K : KD) (E : KX), args = [.d faces, .d near, .d arc, .d crossed] ∧ f_put_down n faces near arc crossed K E ∧ (∀ r, K r → Φ (.rd r) args) ∧ ∀ c, E c → Ψ c args
@[irreducible] def f_order_of (plan : PyData) (K : KL) (E : KX) : Prop :=
  ixM plan (.int 0) fun r1 =>
  f_neighbours plan (fun r2 =>
  f_put_down 64 r1 (.list r2) (.tuple [(.int 1), r1]) (.bool false) (fun r3 =>
  addLM (.list [(.int 0)]) r3 fun l4 =>
  K l4) E) E
def c_order_of : CT := fun args Φ Ψ => ∃ (plan : PyData) (K : KL) (E : KX), args = [.d plan] ∧ f_order_of plan K E ∧ (∀ r, K r → Φ (.nl r) args) ∧ ∀ c, E c → Ψ c args
@[irreducible] def f_strip_order (plan : PyData) (K : KL) (E : KX) : Prop :=
  f_need_plan plan (fun r1 =>
  f_order_of plan (fun r2 =>
  K r2) E) E
def c_strip_order : CT := fun args Φ Ψ => ∃ (plan : PyData) (K : KL) (E : KX), args = [.d plan] ∧ f_strip_order plan K E ∧ (∀ r, K r → Φ (.nl r) args) ∧ ∀ c, E c → Ψ c args
@[irreducible] def f__law_going (l_faces : PyData) (l_start : PyData) (l_end : PyData) (K : KL) (E : KX) : Prop :=
  addM l_start (.int 1) fun r2 =>
  modM r2 l_faces fun r3 =>
  ∃ n : Nat, whileM (fun (s : (List PyData) × PyData) N7 B8 => match s with
  | (l_found9, l_here10) => neM l_here10 l_end fun b12 =>
  (b12 = true → (l_found9.length < sizeLine ∧ (addM l_here10 (.int 1) fun r15 =>
  modM r15 l_faces fun r16 =>
  N7 ((l_found9 ++ ([l_here10] : List PyData)), r16)))) ∧ (b12 = false → B8 (l_found9, l_here10))) (fun (s : (List PyData) × PyData) =>
  match s with
  | (l_found4, l_here5) => K l_found4) n ([], r3)
def c__law_going : CT := fun args Φ Ψ => ∃ (l_faces : PyData) (l_start : PyData) (l_end : PyData) (K : KL) (E : KX), args = [.d l_faces, .d l_start, .d l_end] ∧ f__law_going l_faces l_start l_end K E ∧ (∀ r, K r → Φ (.nl r) args) ∧ ∀ c, E c → Ψ c args
@[irreducible] def f__law_down_s (rec : PyData → PyData → PyData → PyData → PyData → KD → KX → Prop) (l_plan_here : PyData) (l_held : PyData) (l_start : PyData) (l_end : PyData) (l_crossed : PyData) (K : KD) (E : KX) : Prop :=
  ixM l_plan_here (.int 0) fun r1 =>
  addM l_start (.int 1) fun r2 =>
  modM r2 r1 fun r3 =>
  modM l_end r1 fun r4 =>
  eqM r3 r4 fun b5 =>
  (b5 = true → (modM l_start r1 fun r9 =>
  K (.list [r9]))) ∧ (b5 = false → (modM l_start r1 fun r11 =>
  modM l_end r1 fun r12 =>
  f__law_going r1 r11 r12 (fun r13 =>
  itM (.list r13) fun xs10 =>
  forM (fun l_corner17 (_ : Unit) N18 B19 => andM (fun Q => modM l_start r1 fun r24 =>
  inDM l_held (.tuple [l_corner17, r24]) fun b25 =>
  Q b25) (fun Q => modM l_end r1 fun r26 =>
  inDM l_held (.tuple [l_corner17, r26]) fun b27 =>
  Q b27) fun b23 =>
  (b23 = true → (modM l_start r1 fun r31 =>
  boolM l_crossed fun b32 =>
  rec l_plan_here l_held r31 l_corner17 (.bool (!b32)) (fun r33 =>
  modM l_end r1 fun r34 =>
  boolM l_crossed fun b35 =>
  rec l_plan_here l_held l_corner17 r34 (.bool (!b35)) (fun r36 =>
  addM r33 r36 fun r37 =>
  addM r36 r33 fun r38 =>
  intM l_crossed fun r39 =>
  ixM (.list [r37, r38]) r39 fun r40 =>
  K r40) E) E)) ∧ (b23 = false → (N18 ()))) (fun (_ : Unit) =>
  K (.list [])) xs10 ()) E))
def f__law_down : Nat → PyData → PyData → PyData → PyData → PyData → KD → KX → Prop
  | 0 => fun _ _ _ _ _ _ _ => False
  | n + 1 => f__law_down_s (f__law_down n)
def c__law_down (n : Nat) : CT := fun args Φ Ψ => ∃ (l_plan_here : PyData) (l_held : PyData) (l_start : PyData) (l_end : PyData) (l_crossed : PyData) (K : KD) (E : KX), args = [.d l_plan_here, .d l_held, .d l_start, .d l_end, .d l_crossed] ∧ f__law_down n l_plan_here l_held l_start l_end l_crossed K E ∧ (∀ r, K r → Φ (.rd r) args) ∧ ∀ c, E c → Ψ c args
@[irreducible] def f__law_order (l_plan_here : PyData) (K : KL) (E : KX) : Prop :=
  f__law_tied l_plan_here (fun r1 =>
  f__law_down 64 l_plan_here (dTd r1) (.int 1) (.int 0) (.bool false) (fun r2 =>
  addLM (.list [(.int 0)]) r2 fun l3 =>
  K l3) E) E
def c__law_order : CT := fun args Φ Ψ => ∃ (l_plan_here : PyData) (K : KL) (E : KX), args = [.d l_plan_here] ∧ f__law_order l_plan_here K E ∧ (∀ r, K r → Φ (.nl r) args) ∧ ∀ c, E c → Ψ c args
@[irreducible] def f_law_k17 (script : PyData) (K : KD) (E : KX) : Prop :=
  rngM (.int 0) (.int 2) fun xs1 =>
  forM (fun l_turn7 (_ : Unit) N8 B9 => f__law_pull (.int 3) (fun r15 =>
  ixM (.list [(.int 6), (.int 12), (.int 40)]) r15 fun r16 =>
  f__law_plan r16 (fun r17 =>
  f__law_order r17 (fun r18 =>
  rngM (.int 0) (.int 2) fun xs19 =>
  forM (fun l_again22 (_ : Unit) N23 B24 => f_strip_order r17 (fun r27 =>
  orM (fun Q => f__law_alike (.list r27) (.list r18) (fun r30 =>
  boolM r30 fun b31 =>
  Q (!b31)) E) (fun Q => sortM (.list r27) fun l33 =>
  ixM r17 (.int 0) fun r35 =>
  rngM (.int 0) r35 fun l34 =>
  neM (.list l33) (.list l34) fun b36 =>
  Q b36) fun b29 =>
  (b29 = true → (K (.bool false))) ∧ (b29 = false → (N23 ()))) E) (fun (_ : Unit) =>
  N8 ()) xs19 ()) E) E) E) (fun (_ : Unit) =>
  K (.bool true)) xs1 ()
section
variable {K : KD} {Kl : KL} {Kb : KB} {E : KX} {n i j : Int} {l cs : List (Int × Int)} {p q : Int × Int}
theorem q_for_find {α : Type} {bd : PyData → Unit → (Unit → Prop) → (Unit → Prop) → Prop} {K : Unit → Prop} (L : List α) (d : α → PyData) (p : α → Bool) (R : α → Prop) (h : ∀ a ∈ L, ∀ (N : Unit → Prop), bd (d a) () N K = cond (p a) (R a) (N ())) : forM bd K (L.map d) () = (match L.find? p with | some a => R a | none => K ()) := by
  induction L with
  | nil => rfl
  | cons a L ih =>
    show bd (d a) () _ K = _
    rw [h a (List.mem_cons_self ..), List.find?_cons]
    cases p a with
    | true => rfl
    | false => exact ih fun b hb => h b (List.mem_cons_of_mem _ hb)
theorem q_in_ints {L : List Int} : inM (.int i) (.list (L.map .int)) Kb = Kb (decide (i ∈ L)) := by
  show inLstM (.int i) (L.map .int) Kb = _
  have e : flAll (L.map PyData.int) = some (L.map V.int) := by
    induction L with
    | nil => rfl
    | cons a L ih =>
      show (match fl (.int a), flAll (L.map PyData.int) with | some v, some l => some (v :: l) | _, _ => none) = _
      rw [ih]; rfl
  unfold inLstM
  rw [e]
  show Kb (inV (.int i) (L.map V.int)) = _
  rw [inV_ints]
theorem find_fil {α : Type} {L : List α} {f p : α → Bool} : (L.filter f).find? p = L.find? fun a => f a && p a := by
  induction L with
  | nil => rfl
  | cons a L ih =>
    rw [List.filter_cons, List.find?_cons]
    cases e : f a with
    | true =>
      rw [if_pos rfl, List.find?_cons, ih, Bool.true_and]
    | false =>
      rw [if_neg (by decide), ih, Bool.false_and]
theorem find_congr {α : Type} {L : List α} {P Q : α → Bool} (h : ∀ a ∈ L, P a = Q a) : L.find? P = L.find? Q := by
  induction L with
  | nil => rfl
  | cons a L ih =>
    rw [List.find?_cons, List.find?_cons, h a (List.mem_cons_self ..), ih fun b hb => h b (List.mem_cons_of_mem _ hb)]
theorem find_range {P Q : Nat → Bool} (b d : Nat) (h1 : ∀ k, k < b → P k = Q k) (h2 : ∀ k, b ≤ k → k < b + d → P k = false) : (List.range (b + d)).find? P = (List.range b).find? Q := by
  induction d with
  | zero => exact find_congr fun k hk => h1 k (List.mem_range.mp hk)
  | succ d ih =>
    rw [show b + (d + 1) = (b + d) + 1 by omega, List.range_succ, List.find?_append, ih fun k k1 k2 => h2 k k1 (by omega), List.find?_cons, h2 (b + d) (by omega) (by omega), List.find?_nil, Option.or_none]
/-- how the leaves of an arc lie -/
def ordA (n : Int) (cs : List (Int × Int)) : Nat → Int → Int → Bool → List Int
  | 0, _, _, _ => []
  | f + 1, s, e, x => if e - s = 1 then [s] else match corJ n cs s e with
    | some j => if x then ordA n cs f (s + j + 1) e (!x) ++ ordA n cs f s (s + j + 1) (!x) else ordA n cs f s (s + j + 1) (!x) ++ ordA n cs f (s + j + 1) e (!x)
    | none => []
section
variable (h3 : 3 ≤ n) (h40 : n ≤ 40) (h : Arcs 1 n l)
include h3 h40 h
theorem arc_b {s e : Int} (ha : (s, e) ∈ (1, n) :: l) : 1 ≤ s ∧ s < e ∧ e ≤ n := by
  rcases List.mem_cons.mp ha with z | z
  · have a1 := congrArg Prod.fst z
    have a2 := congrArg Prod.snd z
    simp only at a1 a2; omega
  · have := h.within (by omega) _ z; simp only at this; omega
theorem ord_mem : ∀ (f : Nat) (s e : Int) (x : Bool), (s, e) ∈ (1, n) :: l → e - s ≤ f → ((ordA n (planOf n l) f s e x).length : Int) = e - s ∧ ∀ y, y ∈ ordA n (planOf n l) f s e x ↔ s ≤ y ∧ y < e := by
  intro f
  induction f with
  | zero =>
    intro s e x ha hf
    have := arc_b h3 h40 h ha
    omega
  | succ f ih =>
    intro s e x ha hf
    have hb := arc_b h3 h40 h ha
    unfold ordA
    by_cases h1 : e - s = 1
    · rw [if_pos h1]
      exact ⟨by simp [h1], fun y => by rw [List.mem_singleton]; omega⟩
    · rw [if_neg h1]
      obtain ⟨j, hj, j1, j2, j3⟩ := corJ_some h3 h ha (by omega)
      rw [hj]
      obtain ⟨a1, a2⟩ := ih s (s + j + 1) (!x) j2 (by omega)
      obtain ⟨b1, b2⟩ := ih (s + j + 1) e (!x) j3 (by omega)
      cases x <;> simp only [if_true, if_false, Bool.false_eq_true, List.length_append, List.mem_append, a2, b2] <;> refine ⟨by omega, fun y => by omega⟩
end
variable (hp : IsPlan n cs)
include hp
theorem near_mem {a b : Int} (ha : 0 ≤ a) (ha2 : a < n) : b ∈ near n cs a ↔ tieB n cs a b = true := by
  refine ⟨fun z => ?_, mem_near hp⟩
  unfold near at z
  obtain ⟨k, k1, k2⟩ := List.mem_map.mp z
  have := (List.mem_filter.mp k1).2
  rw [k2] at this
  exact this
theorem e_between {a b c : Int} : f_between (.int n) (.int a) (.int b) (.int c) K E = K (.bool (decide (0 < (b - a) % n) && decide ((b - a) % n < (c - a) % n))) := by
  have h3 := hp.lo
  unfold f_between
  simp only [q_add_ii, q_add_ss, q_add_ll, q_add_tt, q_addL, q_sub, q_mul, q_div, q_mod, q_neg, q_bool, q_eq_ii, q_eq_ss, q_eq_bb, q_ne_ii, q_ne_ss, q_ne_bb, q_lt, q_le, q_gt, q_ge, q_un2, q_un3, q_un4, q_intO, q_len_l, q_len_t, q_len_s, q_abs, q_int_i, q_int_b, q_tup_l, q_tup_t, q_list_l, q_list_t, q_min, q_max, q_it_l, q_it_t, q_rng, q_enu_l, q_enu_t, q_rev, q_sl_l, q_sl_t, q_sl_s, q_slL, q_all, q_any, q_sum, q_sort_pp, q_and, q_or, q_ite, q_join, cond_true, cond_false, true_and, and_true, decide_eq_true_eq, decide_true, decide_false, p_un_pl, p_ix_pl0, p_ix_pl1, p_un_pp, p_ix_pp0, p_ix_pp1, p_mk, p_eq, p_ne, p_in, p_notIn, p_lt, show 0 < n by omega]
theorem e_part_corner {s e : Int} (h1 : 1 ≤ s) (h2 : s < e) (h4 : e ≤ n) : f_part_corner (.int n) (.list ((List.range n.toNat).map fun (i : Nat) => .list ((near n cs i).map .int))) (.int s) (.int e) K E = (match corJ n cs s e with | some j => K (.int (s + j + 1)) | none => K .none) := by
  have h3 := hp.lo
  have hs : s % n = s := Int.emod_eq_of_lt (by omega) (by omega)
  have he : 0 ≤ e % n ∧ e % n < n := ⟨Int.emod_nonneg _ (by omega), Int.emod_lt_of_pos _ (by omega)⟩
  unfold f_part_corner
  simp only [q_add_ii, q_add_ss, q_add_ll, q_add_tt, q_addL, q_sub, q_mul, q_div, q_mod, q_neg, q_bool, q_eq_ii, q_eq_ss, q_eq_bb, q_ne_ii, q_ne_ss, q_ne_bb, q_lt, q_le, q_gt, q_ge, q_un2, q_un3, q_un4, q_intO, q_len_l, q_len_t, q_len_s, q_abs, q_int_i, q_int_b, q_tup_l, q_tup_t, q_list_l, q_list_t, q_min, q_max, q_it_l, q_it_t, q_rng, q_enu_l, q_enu_t, q_rev, q_sl_l, q_sl_t, q_sl_s, q_slL, q_all, q_any, q_sum, q_sort_pp, q_and, q_or, q_ite, q_join, cond_true, cond_false, true_and, and_true, decide_eq_true_eq, decide_true, decide_false, p_un_pl, p_ix_pl0, p_ix_pl1, p_un_pp, p_ix_pp0, p_ix_pp1, p_mk, p_eq, p_ne, p_in, p_notIn, p_lt, show 0 < n by omega, hs, e_between hp]
  rw [q_ixr (by omega) (by omega), show ((s.toNat : Nat) : Int) = s by omega]
  simp only [q_add_ii, q_add_ss, q_add_ll, q_add_tt, q_addL, q_sub, q_mul, q_div, q_mod, q_neg, q_bool, q_eq_ii, q_eq_ss, q_eq_bb, q_ne_ii, q_ne_ss, q_ne_bb, q_lt, q_le, q_gt, q_ge, q_un2, q_un3, q_un4, q_intO, q_len_l, q_len_t, q_len_s, q_abs, q_int_i, q_int_b, q_tup_l, q_tup_t, q_list_l, q_list_t, q_min, q_max, q_it_l, q_it_t, q_rng, q_enu_l, q_enu_t, q_rev, q_sl_l, q_sl_t, q_sl_s, q_slL, q_all, q_any, q_sum, q_sort_pp, q_and, q_or, q_ite, q_join, cond_true, cond_false, true_and, and_true, decide_eq_true_eq, decide_true, decide_false, p_un_pl, p_ix_pl0, p_ix_pl1, p_un_pp, p_ix_pp0, p_ix_pp1, p_mk, p_eq, p_ne, p_in, p_notIn, p_lt]
  have en : (near n cs s).map PyData.int = ((List.range (n.toNat - 1)).filter fun (k : Nat) => tieB n cs s ((s + k + 1) % n)).map fun (k : Nat) => PyData.int ((s + k + 1) % n) := by unfold near; rw [List.map_map]; rfl
  rw [en]
  rw [q_for_find _ _ (fun (k : Nat) => decide ((s + (k : Int) + 1) % n ∈ near n cs (e % n)) && (decide (0 < ((s + (k : Int) + 1) % n - s) % n) && decide (((s + (k : Int) + 1) % n - s) % n < (e % n - s) % n))) (fun (k : Nat) => K (.int (s + ((s + (k : Int) + 1) % n - s) % n))) fun k hk N => ?_]
  · rw [find_fil]
    have ec : (List.range (n.toNat - 1)).find? (fun (k : Nat) => tieB n cs s ((s + k + 1) % n) && (decide ((s + (k : Int) + 1) % n ∈ near n cs (e % n)) && (decide (0 < ((s + (k : Int) + 1) % n - s) % n) && decide (((s + (k : Int) + 1) % n - s) % n < (e % n - s) % n)))) = corJ n cs s e := by
      unfold corJ
      rw [show n.toNat - 1 = (e - s - 1).toNat + (n.toNat - 1 - (e - s - 1).toNat) by omega]
      have d1 : ∀ k : Nat, k < n.toNat - 1 → ((s + (k : Int) + 1) % n - s) % n = k + 1 := fun k hk => by
        rw [Int.emod_sub_emod, show s + (k : Int) + 1 - s = k + 1 by omega]
        exact Int.emod_eq_of_lt (by omega) (by omega)
      have d2 : (e % n - s) % n = e - s := by
        rw [Int.emod_sub_emod]
        exact Int.emod_eq_of_lt (by omega) (by omega)
      refine find_range _ _ (fun k hk => ?_) fun k k1 k2 => ?_
      · rw [d1 k (by omega), d2, decide_eq_true (by omega : (0 : Int) < (k : Int) + 1), decide_eq_true (by omega : (k : Int) + 1 < e - s), Int.emod_eq_of_lt (a := s + (k : Int) + 1) (by omega) (by omega)]
        have e9 : decide (s + (k : Int) + 1 ∈ near n cs (e % n)) = tieB n cs (s + k + 1) (e % n) := by
          rw [tie_sym (a := s + (k : Int) + 1)]
          have q := near_mem hp (b := s + (k : Int) + 1) he.1 he.2
          cases z : tieB n cs (e % n) (s + (k : Int) + 1) with
          | true => exact decide_eq_true (q.mpr z)
          | false => exact decide_eq_false fun m => by rw [q.mp m] at z; cases z
        rw [Bool.and_self, Bool.and_true, e9]
      · rw [d1 k (by omega), d2, decide_eq_false (by omega : ¬ (k : Int) + 1 < e - s)]
        simp
    rw [ec]
    cases e0 : corJ n cs s e with
    | none => rfl
    | some j =>
      have hj := List.mem_range.mp (List.mem_of_find?_eq_some (show (List.range (e - s - 1).toNat).find? _ = some j from e0))
      show K (.int (s + ((s + (j : Int) + 1) % n - s) % n)) = _
      rw [Int.emod_sub_emod, show s + (j : Int) + 1 - s = j + 1 by omega, Int.emod_eq_of_lt (by omega) (by omega), show s + ((j : Int) + 1) = s + j + 1 by omega]
  · have ei : ∀ K : KD, ixM (.list ((List.range n.toNat).map fun (i : Nat) => PyData.list ((near n cs i).map .int))) (.int (e % n)) K = K (.list ((near n cs (e % n)).map .int)) := fun K => by
      rw [q_ixr he.1 (by omega), show (((e % n).toNat : Nat) : Int) = e % n by omega]
    simp only [q_add_ii, q_add_ss, q_add_ll, q_add_tt, q_addL, q_sub, q_mul, q_div, q_mod, q_neg, q_bool, q_eq_ii, q_eq_ss, q_eq_bb, q_ne_ii, q_ne_ss, q_ne_bb, q_lt, q_le, q_gt, q_ge, q_un2, q_un3, q_un4, q_intO, q_len_l, q_len_t, q_len_s, q_abs, q_int_i, q_int_b, q_tup_l, q_tup_t, q_list_l, q_list_t, q_min, q_max, q_it_l, q_it_t, q_rng, q_enu_l, q_enu_t, q_rev, q_sl_l, q_sl_t, q_sl_s, q_slL, q_all, q_any, q_sum, q_sort_pp, q_and, q_or, q_ite, q_join, cond_true, cond_false, true_and, and_true, decide_eq_true_eq, decide_true, decide_false, p_un_pl, p_ix_pl0, p_ix_pl1, p_un_pp, p_ix_pp0, p_ix_pp1, p_mk, p_eq, p_ne, p_in, p_notIn, p_lt, ei, q_in_ints]
    refine Eq.trans (q_and' (b1 := decide ((s + (k : Int) + 1) % n ∈ near n cs (e % n))) (b2 := (decide (0 < ((s + (k : Int) + 1) % n - s) % n) && decide (((s + (k : Int) + 1) % n - s) % n < (e % n - s) % n))) (fun Q => rfl) fun _ Q => by rw [e_between hp]; rfl) ?_
    exact congrArg (fun z => cond _ z _) (propext (and_iff_right (by omega)))
omit hp in
theorem while_seq2 {τ : Type} {st : τ → (τ → Prop) → (τ → Prop) → Prop} {K : τ → Prop} (k : Nat) (S : Nat → τ) (h : ∀ i < k, ∀ N : τ → Prop, N (S (i + 1)) → st (S i) N K) (hend : ∀ N : τ → Prop, st (S k) N K) : ∃ n, whileM st K n (S 0) := by
  refine ⟨k + 1, ?_⟩
  have go : ∀ d i, i + d = k → whileM st K (d + 1) (S i) := by
    intro d
    induction d with
    | zero => intro i e; rw [show i = k by omega]; exact hend _
    | succ d ih => intro i e; exact h i (by omega) _ (ih (i + 1) (by omega))
  exact go k 0 (by omega)
theorem i__law_going {s e : Int} (h1 : 1 ≤ s) (h2 : s < e) (h4 : e ≤ n) (hK : Kl ((List.range (e - s - 1).toNat).map fun (j : Nat) => PyData.int (s + j + 1))) : f__law_going (.int n) (.int s) (.int (e % n)) Kl E := by
  have h3 := hp.lo
  have h40 := hp.hi
  have hsl := sizeLine_eq
  unfold f__law_going
  simp only [q_add_ii, q_add_ss, q_add_ll, q_add_tt, q_addL, q_sub, q_mul, q_div, q_mod, q_neg, q_bool, q_eq_ii, q_eq_ss, q_eq_bb, q_ne_ii, q_ne_ss, q_ne_bb, q_lt, q_le, q_gt, q_ge, q_un2, q_un3, q_un4, q_intO, q_len_l, q_len_t, q_len_s, q_abs, q_int_i, q_int_b, q_tup_l, q_tup_t, q_list_l, q_list_t, q_min, q_max, q_it_l, q_it_t, q_rng, q_enu_l, q_enu_t, q_rev, q_sl_l, q_sl_t, q_sl_s, q_slL, q_all, q_any, q_sum, q_sort_pp, q_and, q_or, q_ite, q_join, cond_true, cond_false, true_and, and_true, decide_eq_true_eq, decide_true, decide_false, p_un_pl, p_ix_pl0, p_ix_pl1, p_un_pp, p_ix_pp0, p_ix_pp1, p_mk, p_eq, p_ne, p_in, p_notIn, p_lt, show 0 < n by omega]
  have he : e % n = if e = n then 0 else e := by
    split
    · rename_i z; rw [z, Int.emod_self]
    · exact Int.emod_eq_of_lt (by omega) (by omega)
  rw [show PyData.int ((s + 1) % n) = PyData.int ((s + 1 + ((0 : Nat) : Int)) % n) by simp]
  refine while_seq2 (e - s - 1).toNat (fun i => (((List.range i).map fun (j : Nat) => PyData.int (s + j + 1)), PyData.int ((s + 1 + (i : Int)) % n))) (fun i hi N hN => ?_) (fun N => ?_)
  · have e1 : (s + 1 + (i : Int)) % n = s + 1 + i := Int.emod_eq_of_lt (by omega) (by omega)
    simp only [q_add_ii, q_add_ss, q_add_ll, q_add_tt, q_addL, q_sub, q_mul, q_div, q_mod, q_neg, q_bool, q_eq_ii, q_eq_ss, q_eq_bb, q_ne_ii, q_ne_ss, q_ne_bb, q_lt, q_le, q_gt, q_ge, q_un2, q_un3, q_un4, q_intO, q_len_l, q_len_t, q_len_s, q_abs, q_int_i, q_int_b, q_tup_l, q_tup_t, q_list_l, q_list_t, q_min, q_max, q_it_l, q_it_t, q_rng, q_enu_l, q_enu_t, q_rev, q_sl_l, q_sl_t, q_sl_s, q_slL, q_all, q_any, q_sum, q_sort_pp, q_and, q_or, q_ite, q_join, cond_true, cond_false, true_and, and_true, decide_eq_true_eq, decide_true, decide_false, p_un_pl, p_ix_pl0, p_ix_pl1, p_un_pp, p_ix_pp0, p_ix_pp1, p_mk, p_eq, p_ne, p_in, p_notIn, p_lt, show 0 < n by omega, List.length_map, List.length_range, e1]
    rw [decide_eq_false (by rw [he]; split <;> omega : ¬ (s + 1 + (i : Int) = e % n)), Bool.not_false, cond_true]
    refine ⟨by omega, ?_⟩
    rw [List.range_succ, List.map_append, List.map_cons, List.map_nil] at hN
    rw [show s + 1 + (i : Int) = s + i + 1 by omega]
    rw [show s + 1 + ((i + 1 : Nat) : Int) = s + i + 1 + 1 by omega] at hN
    exact hN
  · simp only [q_add_ii, q_add_ss, q_add_ll, q_add_tt, q_addL, q_sub, q_mul, q_div, q_mod, q_neg, q_bool, q_eq_ii, q_eq_ss, q_eq_bb, q_ne_ii, q_ne_ss, q_ne_bb, q_lt, q_le, q_gt, q_ge, q_un2, q_un3, q_un4, q_intO, q_len_l, q_len_t, q_len_s, q_abs, q_int_i, q_int_b, q_tup_l, q_tup_t, q_list_l, q_list_t, q_min, q_max, q_it_l, q_it_t, q_rng, q_enu_l, q_enu_t, q_rev, q_sl_l, q_sl_t, q_sl_s, q_slL, q_all, q_any, q_sum, q_sort_pp, q_and, q_or, q_ite, q_join, cond_true, cond_false, true_and, and_true, decide_eq_true_eq, decide_true, decide_false, p_un_pl, p_ix_pl0, p_ix_pl1, p_un_pp, p_ix_pp0, p_ix_pp1, p_mk, p_eq, p_ne, p_in, p_notIn, p_lt]
    rw [show s + 1 + ((e - s - 1).toNat : Int) = e by omega, decide_eq_true rfl]
    simp only [Bool.not_true, cond_false]
    exact hK
end
section
variable (h3 : 3 ≤ n) (h40 : n ≤ 40) (h : Arcs 1 n l)
include h3 h40 h
theorem i_put_down : ∀ (f : Nat) (s e : Int) (x : Bool) (K : KD), (s, e) ∈ (1, n) :: l → e - s ≤ f → K (.list ((ordA n (planOf n l) f s e x).map .int)) → f_put_down f (.int n) (.list ((List.range n.toNat).map fun (i : Nat) => .list ((near n (planOf n l) i).map .int))) (ppD (s, e)) (.bool x) K E := by
  have hp : IsPlan n (planOf n l) := arcs_plan h3 h40 h
  have hsl := sizeLine_eq
  intro f
  induction f with
  | zero =>
    intro s e x K ha hf hK
    have := arc_b h3 h40 h ha
    omega
  | succ f ih =>
    intro s e x K ha hf hK
    have hb := arc_b h3 h40 h ha
    show f_put_down_s (f_put_down f) _ _ _ _ _ _
    unfold f_put_down_s
    simp only [q_add_ii, q_add_ss, q_add_ll, q_add_tt, q_addL, q_sub, q_mul, q_div, q_mod, q_neg, q_bool, q_eq_ii, q_eq_ss, q_eq_bb, q_ne_ii, q_ne_ss, q_ne_bb, q_lt, q_le, q_gt, q_ge, q_un2, q_un3, q_un4, q_intO, q_len_l, q_len_t, q_len_s, q_abs, q_int_i, q_int_b, q_tup_l, q_tup_t, q_list_l, q_list_t, q_min, q_max, q_it_l, q_it_t, q_rng, q_enu_l, q_enu_t, q_rev, q_sl_l, q_sl_t, q_sl_s, q_slL, q_all, q_any, q_sum, q_sort_pp, q_and, q_or, q_ite, q_join, cond_true, cond_false, true_and, and_true, decide_eq_true_eq, decide_true, decide_false, p_un_pl, p_ix_pl0, p_ix_pl1, p_un_pp, p_ix_pp0, p_ix_pp1, p_mk, p_eq, p_ne, p_in, p_notIn, p_lt, e_part_corner hp hb.1 hb.2.1 hb.2.2]
    unfold ordA at hK
    by_cases h1 : e - s = 1
    · rw [decide_eq_true h1, cond_true]
      rw [if_pos h1] at hK
      exact hK
    · rw [decide_eq_false h1, cond_false]
      rw [if_neg h1] at hK
      obtain ⟨j, hj, j1, j2, j3⟩ := corJ_some h3 h ha (by omega)
      rw [hj] at hK ⊢
      dsimp only at hK ⊢
      have a1 := (ord_mem h3 h40 h f s (s + j + 1) (!x) j2 (by omega)).1
      have b1 := (ord_mem h3 h40 h f (s + j + 1) e (!x) j3 (by omega)).1
      refine ih s (s + j + 1) (!x) _ j2 (by omega) ?_
      refine ih (s + j + 1) e (!x) _ j3 (by omega) ?_
      simp only [q_add_ii, q_add_ss, q_add_ll, q_add_tt, q_addL, q_sub, q_mul, q_div, q_mod, q_neg, q_bool, q_eq_ii, q_eq_ss, q_eq_bb, q_ne_ii, q_ne_ss, q_ne_bb, q_lt, q_le, q_gt, q_ge, q_un2, q_un3, q_un4, q_intO, q_len_l, q_len_t, q_len_s, q_abs, q_int_i, q_int_b, q_tup_l, q_tup_t, q_list_l, q_list_t, q_min, q_max, q_it_l, q_it_t, q_rng, q_enu_l, q_enu_t, q_rev, q_sl_l, q_sl_t, q_sl_s, q_slL, q_all, q_any, q_sum, q_sort_pp, q_and, q_or, q_ite, q_join, cond_true, cond_false, true_and, and_true, decide_eq_true_eq, decide_true, decide_false, p_un_pl, p_ix_pl0, p_ix_pl1, p_un_pp, p_ix_pp0, p_ix_pp1, p_mk, p_eq, p_ne, p_in, p_notIn, p_lt, List.length_map]
      cases x with
      | true =>
        rw [cond_true]
        rw [if_pos rfl, List.map_append] at hK
        exact ⟨by omega, hK⟩
      | false =>
        rw [cond_false]
        rw [if_neg (by decide), List.map_append] at hK
        exact ⟨by omega, hK⟩
theorem i__law_down : ∀ (f : Nat) (s e : Int) (x : Bool) (K : KD), (s, e) ∈ (1, n) :: l → e - s ≤ f → K (.list ((ordA n (planOf n l) f s e x).map .int)) → f__law_down f (plD n (planOf n l)) (dTd (tied (linesOf n (planOf n l)))) (.int s) (.int (e % n)) (.bool x) K E := by
  have hp : IsPlan n (planOf n l) := arcs_plan h3 h40 h
  have hsl := sizeLine_eq
  have hne : tied (linesOf n (planOf n l)) ≠ [] := fun z => by
    have q := both_len (linesOf n (planOf n l))
    have q2 := lines_len hp
    have q3 := congrArg List.length z
    unfold tied at q3
    rw [List.length_map] at q3
    simp only [List.length_nil] at q3
    omega
  intro f
  induction f with
  | zero =>
    intro s e x K ha hf hK
    have := arc_b h3 h40 h ha
    omega
  | succ f ih =>
    intro s e x K ha hf hK
    have hb := arc_b h3 h40 h ha
    have hs : s % n = s := Int.emod_eq_of_lt (by omega) (by omega)
    have he : e % n = if e = n then 0 else e := by
      split
      · rename_i z; rw [z, Int.emod_self]
      · exact Int.emod_eq_of_lt (by omega) (by omega)
    have hs1 : (s + 1) % n = if s + 1 = n then 0 else s + 1 := by
      split
      · rename_i z; rw [z, Int.emod_self]
      · exact Int.emod_eq_of_lt (by omega) (by omega)
    show f__law_down_s (f__law_down f) _ _ _ _ _ _ _
    unfold f__law_down_s
    simp only [q_add_ii, q_add_ss, q_add_ll, q_add_tt, q_addL, q_sub, q_mul, q_div, q_mod, q_neg, q_bool, q_eq_ii, q_eq_ss, q_eq_bb, q_ne_ii, q_ne_ss, q_ne_bb, q_lt, q_le, q_gt, q_ge, q_un2, q_un3, q_un4, q_intO, q_len_l, q_len_t, q_len_s, q_abs, q_int_i, q_int_b, q_tup_l, q_tup_t, q_list_l, q_list_t, q_min, q_max, q_it_l, q_it_t, q_rng, q_enu_l, q_enu_t, q_rev, q_sl_l, q_sl_t, q_sl_s, q_slL, q_all, q_any, q_sum, q_sort_pp, q_and, q_or, q_ite, q_join, cond_true, cond_false, true_and, and_true, decide_eq_true_eq, decide_true, decide_false, p_un_pl, p_ix_pl0, p_ix_pl1, p_un_pp, p_ix_pp0, p_ix_pp1, p_mk, p_eq, p_ne, p_in, p_notIn, p_lt, show 0 < n by omega, Int.emod_emod, hs]
    unfold ordA at hK
    by_cases h1 : e - s = 1
    · rw [decide_eq_true (by rw [show s + 1 = e by omega] : (s + 1) % n = e % n), cond_true]
      rw [if_pos h1] at hK
      exact hK
    · rw [decide_eq_false (by rw [he, hs1]; split <;> split <;> omega : ¬ (s + 1) % n = e % n), cond_false]
      rw [if_neg h1] at hK
      obtain ⟨j, hj, j1, j2, j3⟩ := corJ_some h3 h ha (by omega)
      rw [hj] at hK
      dsimp only at hK
      have a1 := (ord_mem h3 h40 h f s (s + j + 1) (!x) j2 (by omega)).1
      have b1 := (ord_mem h3 h40 h f (s + j + 1) e (!x) j3 (by omega)).1
      refine i__law_going hp hb.1 hb.2.1 hb.2.2 ?_
      rw [q_for_find _ _ (fun (k : Nat) => tieB n (planOf n l) s (s + k + 1) && tieB n (planOf n l) (s + k + 1) (e % n)) (fun (k : Nat) => f__law_down f (plD n (planOf n l)) (dTd (tied (linesOf n (planOf n l)))) (.int s) (.int (s + k + 1)) (.bool (!x)) (fun r33 => f__law_down f (plD n (planOf n l)) (dTd (tied (linesOf n (planOf n l)))) (.int (s + k + 1)) (.int (e % n)) (.bool (!x)) (fun r36 => addM r33 r36 fun r37 => addM r36 r33 fun r38 => ixM (.list [r37, r38]) (.int (if x then 1 else 0)) fun r40 => K r40) E) E) fun k hk N => ?_]
      · rw [show (List.range (e - s - 1).toNat).find? (fun (k : Nat) => tieB n (planOf n l) s (s + k + 1) && tieB n (planOf n l) (s + k + 1) (e % n)) = some j from hj]
        dsimp only
        have ej : (s + (j : Int) + 1) % n = s + j + 1 := Int.emod_eq_of_lt (by omega) (by omega)
        have q1 := fun K => ih s (s + j + 1) (!x) K j2 (by omega)
        rw [ej] at q1
        refine q1 _ ?_
        refine ih (s + j + 1) e (!x) _ j3 (by omega) ?_
        simp only [q_add_ii, q_add_ss, q_add_ll, q_add_tt, q_addL, q_sub, q_mul, q_div, q_mod, q_neg, q_bool, q_eq_ii, q_eq_ss, q_eq_bb, q_ne_ii, q_ne_ss, q_ne_bb, q_lt, q_le, q_gt, q_ge, q_un2, q_un3, q_un4, q_intO, q_len_l, q_len_t, q_len_s, q_abs, q_int_i, q_int_b, q_tup_l, q_tup_t, q_list_l, q_list_t, q_min, q_max, q_it_l, q_it_t, q_rng, q_enu_l, q_enu_t, q_rev, q_sl_l, q_sl_t, q_sl_s, q_slL, q_all, q_any, q_sum, q_sort_pp, q_and, q_or, q_ite, q_join, cond_true, cond_false, true_and, and_true, decide_eq_true_eq, decide_true, decide_false, p_un_pl, p_ix_pl0, p_ix_pl1, p_un_pp, p_ix_pp0, p_ix_pp1, p_mk, p_eq, p_ne, p_in, p_notIn, p_lt, List.length_map, ← List.map_append]
        cases x with
        | true => exact ⟨by omega, by omega, hK⟩
        | false => exact ⟨by omega, by omega, hK⟩
      · simp only [q_add_ii, q_add_ss, q_add_ll, q_add_tt, q_addL, q_sub, q_mul, q_div, q_mod, q_neg, q_bool, q_eq_ii, q_eq_ss, q_eq_bb, q_ne_ii, q_ne_ss, q_ne_bb, q_lt, q_le, q_gt, q_ge, q_un2, q_un3, q_un4, q_intO, q_len_l, q_len_t, q_len_s, q_abs, q_int_i, q_int_b, q_tup_l, q_tup_t, q_list_l, q_list_t, q_min, q_max, q_it_l, q_it_t, q_rng, q_enu_l, q_enu_t, q_rev, q_sl_l, q_sl_t, q_sl_s, q_slL, q_all, q_any, q_sum, q_sort_pp, q_and, q_or, q_ite, q_join, cond_true, cond_false, true_and, and_true, decide_eq_true_eq, decide_true, decide_false, p_un_pl, p_ix_pl0, p_ix_pl1, p_un_pp, p_ix_pp0, p_ix_pp1, p_mk, p_eq, p_ne, p_in, p_notIn, p_lt, q_inD hne, q_inT, show 0 < n by omega]
        rw [tie_sym (a := s + (k : Int) + 1) (b := s)]
theorem ord_nd : ∀ (f : Nat) (s e : Int) (x : Bool), (s, e) ∈ (1, n) :: l → e - s ≤ f → (ordA n (planOf n l) f s e x).Nodup := by
  intro f
  induction f with
  | zero =>
    intro s e x ha hf
    have := arc_b h3 h40 h ha
    omega
  | succ f ih =>
    intro s e x ha hf
    have hb := arc_b h3 h40 h ha
    unfold ordA
    by_cases h1 : e - s = 1
    · rw [if_pos h1]; simp
    · rw [if_neg h1]
      obtain ⟨j, hj, j1, j2, j3⟩ := corJ_some h3 h ha (by omega)
      rw [hj]
      dsimp only
      have a2 := (ord_mem h3 h40 h f s (s + j + 1) (!x) j2 (by omega)).2
      have b2 := (ord_mem h3 h40 h f (s + j + 1) e (!x) j3 (by omega)).2
      have a1 := ih s (s + j + 1) (!x) j2 (by omega)
      have b1 := ih (s + j + 1) e (!x) j3 (by omega)
      split
      · refine List.nodup_append.mpr ⟨b1, a1, fun u hu v hv => ?_⟩
        have := (b2 u).mp hu
        have := (a2 v).mp hv
        omega
      · refine List.nodup_append.mpr ⟨a1, b1, fun u hu v hv => ?_⟩
        have := (a2 u).mp hu
        have := (b2 v).mp hv
        omega
def ordP (n : Int) (l : List (Int × Int)) : List Int := 0 :: ordA n (planOf n l) 64 1 n false
theorem ordP_len : ((ordP n l).length : Int) = n := by
  have q := (ord_mem h3 h40 h 64 1 n false (List.mem_cons_self ..) (by omega)).1
  unfold ordP
  rw [List.length_cons]
  omega
theorem i_strip_order (hK : Kl ((ordP n l).map .int)) : f_strip_order (plD n (planOf n l)) Kl E := by
  have hp : IsPlan n (planOf n l) := arcs_plan h3 h40 h
  have hsl := sizeLine_eq
  have hl := ordP_len h3 h40 h
  have key : f_order_of (plD n (planOf n l)) Kl E := by
    unfold f_order_of
    simp only [q_add_ii, q_add_ss, q_add_ll, q_add_tt, q_addL, q_sub, q_mul, q_div, q_mod, q_neg, q_bool, q_eq_ii, q_eq_ss, q_eq_bb, q_ne_ii, q_ne_ss, q_ne_bb, q_lt, q_le, q_gt, q_ge, q_un2, q_un3, q_un4, q_intO, q_len_l, q_len_t, q_len_s, q_abs, q_int_i, q_int_b, q_tup_l, q_tup_t, q_list_l, q_list_t, q_min, q_max, q_it_l, q_it_t, q_rng, q_enu_l, q_enu_t, q_rev, q_sl_l, q_sl_t, q_sl_s, q_slL, q_all, q_any, q_sum, q_sort_pp, q_and, q_or, q_ite, q_join, cond_true, cond_false, true_and, and_true, decide_eq_true_eq, decide_true, decide_false, p_un_pl, p_ix_pl0, p_ix_pl1, p_un_pp, p_ix_pp0, p_ix_pp1, p_mk, p_eq, p_ne, p_in, p_notIn, p_lt, e_neighbours hp]
    refine i_put_down h3 h40 h 64 1 n false _ (List.mem_cons_self ..) (by omega) ?_
    rw [q_addL]
    unfold ordP at hK hl
    rw [List.length_cons] at hl
    simp only [List.length_map, List.length_cons, List.length_nil]
    exact ⟨by omega, hK⟩
  unfold f_strip_order
  rw [e_need_ok hp]
  exact key
theorem i__law_order (hK : Kl ((ordP n l).map .int)) : f__law_order (plD n (planOf n l)) Kl E := by
  have hp : IsPlan n (planOf n l) := arcs_plan h3 h40 h
  have hsl := sizeLine_eq
  have hl := ordP_len h3 h40 h
  unfold f__law_order
  rw [e__law_tied hp]
  have q := fun K => i__law_down (E := E) h3 h40 h 64 1 n false K (List.mem_cons_self ..) (by omega)
  rw [Int.emod_self] at q
  refine q _ ?_
  rw [q_addL]
  unfold ordP at hK hl
  rw [List.length_cons] at hl
  simp only [List.length_map, List.length_cons, List.length_nil]
  exact ⟨by omega, hK⟩
theorem ordP_sort : sortI (ordP n l) = (List.range n.toNat).map fun (i : Nat) => (i : Int) := by
  obtain ⟨q1, q2⟩ := ord_mem h3 h40 h 64 1 n false (List.mem_cons_self ..) (by omega)
  have mm : ∀ x, x ∈ ordP n l ↔ x ∈ (List.range n.toNat).map fun (i : Nat) => (i : Int) := fun x => by
    unfold ordP
    rw [List.mem_cons, q2, List.mem_map]
    refine ⟨fun z => ⟨x.toNat, List.mem_range.mpr (by omega), by omega⟩, fun ⟨i, hi, z⟩ => ?_⟩
    have := List.mem_range.mp hi
    omega
  have pw : ((List.range n.toNat).map fun (i : Nat) => (i : Int)).Pairwise (· < ·) := List.pairwise_map.mpr (List.pairwise_lt_range.imp fun h => by omega)
  have nd : (ordP n l).Nodup := by
    unfold ordP
    refine List.nodup_cons.mpr ⟨fun z => ?_, ord_nd h3 h40 h 64 1 n false (List.mem_cons_self ..) (by omega)⟩
    have := (q2 0).mp z
    omega
  exact sortI_eq nd pw mm
end
theorem eqv_ints (L : List Int) : PyData.eqv (.list (L.map .int)) (.list (L.map .int)) = true := by
  show PyData.eqvAll (L.map .int) (L.map .int) = true
  induction L with
  | nil => rfl
  | cons a L ih =>
    show (PyData.eqv (.int a) (.int a) && PyData.eqvAll (L.map .int) (L.map .int)) = true
    rw [ih, show PyData.eqv (.int a) (.int a) = (a == a) from rfl, beq_self_eq_true]
    rfl
theorem okD_ints (N : Nat) (L : List Int) (h : L.length ≤ 10000) : okD (N + 1) (.list (L.map .int)) = true := by
  show (decide ((L.map PyData.int).length ≤ 10000000) && (L.map PyData.int).all (okD N)) = true
  rw [decide_eq_true (by rw [List.length_map]; omega), Bool.true_and]
  refine List.all_eq_true.mpr fun x hx => ?_
  obtain ⟨i, _, rfl⟩ := List.mem_map.mp hx
  exact okD_int ..
theorem e_law_k17 (ns : List Int) (h : ns.length ≤ 63) : f_law_k17 (.list (ns.map .int)) (fun r => r = .bool true) (fun _ => False) := by
  have hsl := sizeLine_eq
  unfold f_law_k17
  rw [q_rng]
  refine ⟨by decide, ?_⟩
  rw [range0]
  refine forM_inv (List.range (2 : Int).toNat) (fun (i : Nat) => PyData.int i) (fun _ _ => True) (fun i a ha u hu N hN => ?_) (fun u hu => rfl) _ trivial
  rw [e__law_pull (by decide) (by decide)]
  intro r r0 r1
  have er : r = 0 ∨ r = 1 ∨ r = 2 := by omega
  have main : ∀ m : Int, 3 ≤ m → m ≤ 40 → ∀ K' : KD, (∀ n l, 3 ≤ n → n ≤ 40 → Arcs 1 n l → K' (plD n (planOf n l))) → f__law_plan (.int m) K' (fun _ => False) := fun m h3 h40 K' hK' => by
    rw [e__law_plan h3 h40]
    exact fun n hn hnm l hl => hK' n l hn (by omega) hl
  have pull : ∀ K' : KD, (∀ n l, 3 ≤ n → n ≤ 40 → Arcs 1 n l → K' (plD n (planOf n l))) → ixM (.list [(.int 6), (.int 12), (.int 40)]) (.int r) fun r2 => f__law_plan r2 K' (fun _ => False) := fun K' hK' => by
    rcases er with rfl | rfl | rfl <;> exact main _ (by decide) (by decide) _ hK'
  refine pull _ fun n l h3 h40 hl => ?_
  refine i__law_order h3 h40 hl ?_
  have hlen := ordP_len h3 h40 hl
  rw [q_rng]
  refine ⟨by decide, ?_⟩
  rw [range0]
  refine forM_inv (List.range (2 : Int).toNat) (fun (i : Nat) => PyData.int i) (fun _ _ => True) (fun i a ha u hu N2 hN2 => ?_) (fun u hu => hN _ trivial) _ trivial
  refine i_strip_order h3 h40 hl ?_
  have es : ((List.range n.toNat).map fun (i : Nat) => PyData.int i) = ((List.range n.toNat).map fun (i : Nat) => (i : Int)).map .int := by rw [List.map_map]; rfl
  have ene : neM (.list (((List.range n.toNat).map fun (i : Nat) => (i : Int)).map .int)) (.list (((List.range n.toNat).map fun (i : Nat) => (i : Int)).map .int)) = fun Q : KB => Q false := funext fun Q => by
    rw [q_ne_ll, eqv_ints]
    exact propext ((and_iff_right (shp_ints _)).trans (and_iff_right (shp_ints _)))
  simp only [q_add_ii, q_add_ss, q_add_ll, q_add_tt, q_addL, q_sub, q_mul, q_div, q_mod, q_neg, q_bool, q_eq_ii, q_eq_ss, q_eq_bb, q_ne_ii, q_ne_ss, q_ne_bb, q_lt, q_le, q_gt, q_ge, q_un2, q_un3, q_un4, q_intO, q_len_l, q_len_t, q_len_s, q_abs, q_int_i, q_int_b, q_tup_l, q_tup_t, q_list_l, q_list_t, q_min, q_max, q_it_l, q_it_t, q_rng, q_enu_l, q_enu_t, q_rev, q_sl_l, q_sl_t, q_sl_s, q_slL, q_all, q_any, q_sum, q_sort_pp, q_and, q_or, q_ite, q_join, cond_true, cond_false, true_and, and_true, decide_eq_true_eq, decide_true, decide_false, p_un_pl, p_ix_pl0, p_ix_pl1, p_un_pp, p_ix_pp0, p_ix_pp1, p_mk, p_eq, p_ne, p_in, p_notIn, p_lt, e__law_alike (okD_ints 7 (ordP n l) (by omega)), q_sort_ints, ordP_sort h3 h40 hl, range0, es, ene, Bool.not_true, Bool.or_false]
  have eb : (fun Q : KB => (-1000000 ≤ (0 : Int) ∧ (0 : Int) ≤ 1000000 ∧ -1000000 ≤ n ∧ n ≤ 1000000) ∧ Q false) = fun Q => Q false := funext fun Q => propext (and_iff_right (by omega))
  rw [eb, q_or]
  exact hN2 _ trivial
end Tx

namespace Tx
open PySem PySem.Spec PyProof.Rows L2 TL
@[irreducible] def f_fan (plan : PyData) (face : PyData) (K : KD) (E : KX) : Prop :=
  f_need_plan plan (fun r1 =>
  andM (fun Q => leM (.int 0) face Q) (fun Q => ixM plan (.int 0) fun r4 =>
  ltM face r4 Q) fun b2 =>
  ((!b2) = true → (E (.own "BadFace"))) ∧ ((!b2) = false → (f_neighbours plan (fun r8 =>
  ixM (.list r8) face fun r9 =>
  K r9) E))) E
def c_fan : CT := fun args Φ Ψ => ∃ (plan : PyData) (face : PyData) (K : KD) (E : KX), args = [.d plan, .d face] ∧ f_fan plan face K E ∧ (∀ r, K r → Φ (.rd r) args) ∧ ∀ c, E c → Ψ c args
@[irreducible] def f__law_fan_word (l_plan_here : PyData) (l_face : PyData) (K : KD) (E : KX) : Prop :=
  joinM (fun (Q : PyData → Prop) => tryM (fun E18 => f_fan l_plan_here l_face (fun r19 =>
  Q (.str "told")) E18) ["BadPlan", "BadFace"] [("BadFace", Q (.str "BadFace")), ("PinchError", Q (.str "other"))] E) (fun l_word20 =>
  K l_word20)
def c__law_fan_word : CT := fun args Φ Ψ => ∃ (l_plan_here : PyData) (l_face : PyData) (K : KD) (E : KX), args = [.d l_plan_here, .d l_face] ∧ f__law_fan_word l_plan_here l_face K E ∧ (∀ r, K r → Φ (.rd r) args) ∧ ∀ c, E c → Ψ c args
@[irreducible] def f_law_k03 (script : PyData) (K : KD) (E : KX) : Prop :=
  f__law_pull (.int 3) (fun r1 =>
  ixM (.list [(.int 6), (.int 12), (.int 40)]) r1 fun r2 =>
  f__law_plan r2 (fun r3 =>
  ixM r3 (.int 0) fun r5 =>
  rngM (.int 0) r5 fun xs4 =>
  forM (fun l_face26 (_ : Unit) N27 B28 => f__law_fan r3 l_face26 (fun r32 =>
  f_fan r3 l_face26 (fun r34 => lstO r34 fun r33 =>
  f__law_alike (.list r33) (.list r32) (fun r36 =>
  boolM r36 fun b37 =>
  ((!b37) = true → (K (.bool false))) ∧ ((!b37) = false → (f_fan r3 l_face26 (fun r42 =>
  f__law_alike r42 (.list r32) (fun r43 =>
  boolM r43 fun b44 =>
  ((!b44) = true → (K (.bool false))) ∧ ((!b44) = false → (N27 ()))) E) E))) E) E) E) (fun (_ : Unit) =>
  subM (.int 0) (.int 1) fun r10 =>
  ixM r3 (.int 0) fun r11 =>
  ixM r3 (.int 0) fun r12 =>
  addM r12 (.int 1) fun r13 =>
  f__law_pull (.int 100000000000000000000) (fun r14 =>
  addM r13 r14 fun r15 =>
  itM (.tuple [r10, r11, r15]) fun xs9 =>
  forM (fun l_face17 (_ : Unit) N18 B19 => f__law_fan_word r3 l_face17 (fun r21 =>
  neM r21 (.str "BadFace") fun b22 =>
  (b22 = true → (K (.bool false))) ∧ (b22 = false → (N18 ()))) E) (fun (_ : Unit) =>
  K (.bool true)) xs9 ()) E) xs4 ()) E) E
theorem e__law_pull20 {K : KD} {E : KX} : f__law_pull (.int 100000000000000000000) K E = ∀ r : Int, 0 ≤ r → r < 100000000000000000000 → K (.int r) := by
  show (((0 : Int) < 100000000000000000000 ∧ (100000000000000000000 : Int).natAbs < 2 ^ 8000) ∧ _) = _
  refine propext ⟨fun h => h.2, fun h => ⟨⟨by decide, Nat.lt_of_lt_of_le (show (100000000000000000000 : Int).natAbs < 2 ^ 100 by decide) (Nat.pow_le_pow_right (by decide) (by decide))⟩, h⟩⟩
section
variable {n : Int} {cs : List (Int × Int)} {K : KD} {E : KX} (hp : IsPlan n cs)
include hp
theorem i_fan {f : Int} (f0 : 0 ≤ f) (f1 : f < n) (hK : K (.list ((near n cs f).map .int))) : f_fan (plD n cs) (.int f) K E := by
  unfold f_fan
  rw [e_need_ok hp]
  show TL.andM (fun Q => Q (decide (0 ≤ f))) (fun Q => Q (decide (f < n))) _
  rw [q_and, decide_eq_true f0, decide_eq_true f1]
  refine ⟨fun z => (by cases z), fun _ => ?_⟩
  rw [e_neighbours hp, q_ixr (by omega) (by omega)]
  rw [show ((f.toNat : Nat) : Int) = f by omega]
  exact hK
theorem i_fan_bad {f : Int} (h : ¬ (0 ≤ f ∧ f < n)) (hE : E (.own "BadFace")) : f_fan (plD n cs) (.int f) K E := by
  unfold f_fan
  rw [e_need_ok hp]
  show TL.andM (fun Q => Q (decide (0 ≤ f))) (fun Q => Q (decide (f < n))) _
  rw [q_and]
  have : (decide (0 ≤ f) && decide (f < n)) = false := by simp; omega
  rw [this]
  exact ⟨fun _ => hE, fun z => (by cases z)⟩
theorem i_fan_word {f : Int} (h : ¬ (0 ≤ f ∧ f < n)) (hK : K (.str "BadFace")) : f__law_fan_word (plD n cs) (.int f) K E := by
  unfold f__law_fan_word TL.joinM tryM
  refine i_fan_bad hp h ?_
  exact ⟨by decide, fun _ => hK, fun z => absurd z (by decide)⟩
end
theorem e_law_k03 (ns : List Int) (h : ns.length ≤ 63) : f_law_k03 (.list (ns.map .int)) (fun r => r = .bool true) (fun _ => False) := by
  have hsl := sizeLine_eq
  unfold f_law_k03
  rw [e__law_pull (by decide) (by decide)]
  intro r r0 r1
  have er : r = 0 ∨ r = 1 ∨ r = 2 := by omega
  have main : ∀ m : Int, 3 ≤ m → m ≤ 40 → ∀ K' : KD, (∀ n cs, IsPlan n cs → K' (plD n cs)) → f__law_plan (.int m) K' (fun _ => False) := fun m h3 h40 K' hK' => by
    rw [e__law_plan h3 h40]
    exact fun n hn hnm l hl => hK' _ _ (arcs_plan hn (by omega) hl)
  have pull : ∀ K' : KD, (∀ n cs, IsPlan n cs → K' (plD n cs)) → ixM (.list [(.int 6), (.int 12), (.int 40)]) (.int r) fun r2 => f__law_plan r2 K' (fun _ => False) := fun K' hK' => by
    rcases er with rfl | rfl | rfl <;> exact main _ (by decide) (by decide) _ hK'
  refine pull _ fun n cs hp => ?_
  have h3 := hp.lo
  have h40 := hp.hi
  rw [p_ix_pl0, q_rng]
  refine ⟨by omega, ?_⟩
  rw [range0]
  refine forM_inv (List.range n.toNat) (fun (i : Nat) => PyData.int i) (fun _ _ => True) (fun i a ha u hu N hN => ?_) (fun u hu => ?_) _ trivial
  · have hi : a < n.toNat := List.mem_range.mp (List.mem_of_getElem? ha)
    have ok := okD_ints 7 (near n cs a) (by have := near_len hp (a : Int); omega)
    rw [e__law_fan hp (by omega) (by omega)]
    refine i_fan hp (by omega) (by omega) ?_
    rw [q_lstO, e__law_alike ok, q_bool]
    refine ⟨fun z => (by cases z), fun _ => ?_⟩
    refine i_fan hp (by omega) (by omega) ?_
    rw [e__law_alike ok, q_bool]
    exact ⟨fun z => (by cases z), fun _ => hN _ trivial⟩
  · rw [q_sub, p_ix_pl0, p_ix_pl0, q_add_ii, e__law_pull20]
    intro x x0 x1
    rw [q_add_ii, q_it_t]
    have one : ∀ (f : Int) (N : Unit → Prop) (B : Unit → Prop), ¬ (0 ≤ f ∧ f < n) → N () → f__law_fan_word (plD n cs) (.int f) (fun r21 => neM r21 (.str "BadFace") fun b22 => (b22 = true → ((PyData.bool false) = .bool true)) ∧ (b22 = false → (N ()))) (fun _ => False) := fun f N B hf hN => by
      refine i_fan_word hp hf ?_
      rw [q_ne_ss, decide_eq_true rfl]
      exact ⟨fun z => (by cases z), fun _ => hN⟩
    exact one _ _ (fun _ => True) (by omega) (one _ _ (fun _ => True) (by omega) (one _ _ (fun _ => True) (by omega) rfl))
end Tx

namespace Tx
open PySem PySem.Spec PyProof.Rows L2
set_option maxRecDepth 100000
def topS (i : Nat) : Stmt := PySem.Challenge.pw_pinchfold_k03_fans_told.main.body.getD i (.Pass ⟨0, 0, 0, 0⟩)
abbrev s_crossing : Stmt := topS 7
abbrev s_is_cut : Stmt := topS 8
abbrev s_is_plan : Stmt := topS 9
abbrev s_need_plan : Stmt := topS 10
abbrev s_follows : Stmt := topS 11
abbrev s_pair_of : Stmt := topS 12
abbrev s_all_lines : Stmt := topS 13
abbrev s_neighbours : Stmt := topS 14
abbrev s_fan : Stmt := topS 15
abbrev s__law_alike : Stmt := topS 17
abbrev s__law_all_lines : Stmt := topS 18
abbrev s__law_bag : Stmt := topS 19
abbrev s__law_cut_arc : Stmt := topS 20
abbrev s__law_drawn_plan : Stmt := topS 21
abbrev s__law_fan : Stmt := topS 22
abbrev s__law_fan_word : Stmt := topS 23
abbrev s__law_pair : Stmt := topS 24
abbrev s__law_plan : Stmt := topS 25
abbrev s__law_pull : Stmt := topS 26
abbrev s__law_tied : Stmt := topS 27
abbrev s__law_whole : Stmt := topS 28
abbrev s_law : Stmt := topS 29
theorem sc_crossing : FnScope ["one", "other", "low", "high", "inside", "corner"] ["one", "other"] (defScope s_crossing) := ⟨rfl, rfl, rfl, by decide +kernel, rfl, by decide +kernel, by decide +kernel⟩
theorem sc_is_cut : FnScope ["faces", "cut", "low", "high"] ["faces", "cut"] (defScope s_is_cut) := ⟨rfl, rfl, rfl, by decide +kernel, rfl, by decide +kernel, by decide +kernel⟩
theorem sc_is_plan : FnScope ["plan", "faces", "cuts", "cut", "at", "other"] ["plan"] (defScope s_is_plan) := ⟨rfl, rfl, rfl, by decide +kernel, rfl, by decide +kernel, by decide +kernel⟩
theorem sc_need_plan : FnScope ["plan"] ["plan"] (defScope s_need_plan) := ⟨rfl, rfl, rfl, by decide +kernel, rfl, by decide +kernel, by decide +kernel⟩
theorem sc_follows : FnScope ["faces", "face"] ["faces", "face"] (defScope s_follows) := ⟨rfl, rfl, rfl, by decide +kernel, rfl, by decide +kernel, by decide +kernel⟩
theorem sc_pair_of : FnScope ["one", "other"] ["one", "other"] (defScope s_pair_of) := ⟨rfl, rfl, rfl, by decide +kernel, rfl, by decide +kernel, by decide +kernel⟩
theorem sc_all_lines : FnScope ["plan", "faces", "cuts", "face"] ["plan"] (defScope s_all_lines) := ⟨rfl, rfl, rfl, by decide +kernel, rfl, by decide +kernel, by decide +kernel⟩
theorem sc_neighbours : FnScope ["plan", "faces", "cuts", "found", "face", "low", "high", "step"] ["plan"] (defScope s_neighbours) := ⟨rfl, rfl, rfl, by decide +kernel, rfl, by decide +kernel, by decide +kernel⟩
theorem sc_fan : FnScope ["plan", "face"] ["plan", "face"] (defScope s_fan) := ⟨rfl, rfl, rfl, by decide +kernel, rfl, by decide +kernel, by decide +kernel⟩
theorem sc__law_alike : FnScope ["_law_found", "_law_due", "_law_at"] ["_law_found", "_law_due"] (defScope s__law_alike) := ⟨rfl, rfl, rfl, by decide +kernel, rfl, by decide +kernel, by decide +kernel⟩
theorem sc__law_all_lines : FnScope ["_law_plan_here", "_law_faces", "_law_cuts", "_law_sides", "_law_low"] ["_law_plan_here"] (defScope s__law_all_lines) := ⟨rfl, rfl, rfl, by decide +kernel, rfl, by decide +kernel, by decide +kernel⟩
theorem sc__law_bag : FnScope ["_law_script", "_law_cells", "_law_one", "_law_salt"] ["_law_script"] (defScope s__law_bag) := ⟨rfl, rfl, rfl, by decide +kernel, rfl, by decide +kernel, by decide +kernel⟩
theorem sc__law_cut_arc : FnScope ["_law_bag_here", "_law_start", "_law_end", "_law_found", "_law_wide", "_law_way", "_law_middle"] ["_law_bag_here", "_law_start", "_law_end", "_law_found"] (defScope s__law_cut_arc) := ⟨rfl, rfl, rfl, by decide +kernel, rfl, by decide +kernel, by decide +kernel⟩
theorem sc__law_drawn_plan : FnScope ["_law_bag_here", "_law_faces", "_law_rows", "_law_low", "_law_high"] ["_law_bag_here", "_law_faces"] (defScope s__law_drawn_plan) := ⟨rfl, rfl, rfl, by decide +kernel, rfl, by decide +kernel, by decide +kernel⟩
theorem sc__law_fan : FnScope ["_law_plan_here", "_law_face", "_law_held", "_law_faces", "_law_step"] ["_law_plan_here", "_law_face"] (defScope s__law_fan) := ⟨rfl, rfl, rfl, by decide +kernel, rfl, by decide +kernel, by decide +kernel⟩
theorem sc__law_fan_word : FnScope ["_law_plan_here", "_law_face", "_law_word"] ["_law_plan_here", "_law_face"] (defScope s__law_fan_word) := ⟨rfl, rfl, rfl, by decide +kernel, rfl, by decide +kernel, by decide +kernel⟩
theorem sc__law_pair : FnScope ["_law_one", "_law_other"] ["_law_one", "_law_other"] (defScope s__law_pair) := ⟨rfl, rfl, rfl, by decide +kernel, rfl, by decide +kernel, by decide +kernel⟩
theorem sc__law_plan : FnScope ["_law_bag_here", "_law_most", "_law_faces"] ["_law_bag_here", "_law_most"] (defScope s__law_plan) := ⟨rfl, rfl, rfl, by decide +kernel, rfl, by decide +kernel, by decide +kernel⟩
theorem sc__law_pull : FnScope ["_law_bag_here", "_law_many", "_law_seed", "_law_blend", "_law_drawn"] ["_law_bag_here", "_law_many"] (defScope s__law_pull) := ⟨rfl, rfl, rfl, by decide +kernel, rfl, by decide +kernel, by decide +kernel⟩
theorem sc__law_tied : FnScope ["_law_plan_here", "_law_held", "_law_low", "_law_high"] ["_law_plan_here"] (defScope s__law_tied) := ⟨rfl, rfl, rfl, by decide +kernel, rfl, by decide +kernel, by decide +kernel⟩
theorem sc__law_whole : FnScope ["_law_found"] ["_law_found"] (defScope s__law_whole) := ⟨rfl, rfl, rfl, by decide +kernel, rfl, by decide +kernel, by decide +kernel⟩
theorem sc_law : FnScope ["_law_script", "_law_bag_here", "_law_plan_here", "_law_face", "_law_due", "_law_found"] ["_law_script"] (defScope s_law) := ⟨rfl, rfl, rfl, by decide +kernel, rfl, by decide +kernel, by decide +kernel⟩
end Tx

namespace Tx
open PySem PySem.Spec PyProof.Rows L2 TL
section
variable {P : Program} {w : World} {K : PySem.W.Frag} {mg : Str → Option Value} {base : Heap} {f : Addr} {fd : FuncData} {k : Nat}
abbrev FnP (K : PySem.W.Frag) (x : Str) (st : Stmt) (f : Addr) (fd : FuncData) : Prop := FunD K x x (defArgs st) (defBody st) (defScope st) [] [] f fd
theorem ok_o__law_bag (F : FnP K "_law_bag" s__law_bag f fd) (hm : mg "_law_bag" = some (.ref f)) (hb : Binds K fd ["_law_script"] []) (m_len : mg "len" = none) (m_abs : mg "abs" = none) (m_int : mg "int" = none) :
    Has P w K mg base (k + 1) "_law_bag" ["_law_script"] o__law_bag := by
  refine fn_has F hm sc__law_bag hb rfl ?_
  rintro cdv A outer s H E g args Φ Ψ hr hp hM hl ⟨ns, rfl, hn, hΦ⟩
  have hcut : cut (ns.map PyData.int) none (some 63) = ns.map .int := cut_le _ _ (by decide) (by simp; omega)
  refine ws_cons (w1_setLc 1 (own := [("_law_one", 2)]) rfl sc__law_bag.nd (pi_list (peI _)) (blkOk_by (by rfl)) (fun _ _ _ _ _ => (pg_name (i := 2) sc__law_bag.nd rfl (by first | exact Or.inl rfl | exact Or.inr rfl))) (by decide) (nt_lcL (tgd_name 2) rfl ?_))
  refine we_of_wn ?_
  refine wn_sliceL ?_
  refine we_n 0 ?_
  refine ⟨_, rfl, ?_⟩
  refine wp_none ?_
  refine wp_e ?_
  refine we_int ?_
  refine ⟨_, rfl, ?_⟩
  refine ⟨rfl, _, fun i acc => acc = (ns.take i).map fun c => .int (absI c), rfl, rfl, fun i x hx => ⟨_, rfl, rfl, ?_⟩, fun acc ha => ?_⟩
  · intro acc ha g1 s1 H1 C1 cl1 fp1
    rw [hcut] at hx
    obtain ⟨n, rfl, hn2⟩ := ints_get hx
    refine ⟨fun _ s1 H1 C1 cl1 fp1 => ?_, fun z => by cases z⟩
    refine we_abs m_abs ?_
    refine we_n 2 ?_
    refine ⟨_, rfl, ?_⟩
    refine ⟨rfl, ?_⟩
    subst ha
    exact tk_succ (fun c => .int (absI c)) hn2
  · subst ha
    rw [hcut, List.length_map, List.take_length]
    have em : (ns.map fun c => PyData.int (absI c)) = (ns.map absI).map .int := by simp
    rw [em]
    refine ws_cons (w1_set 3 sc__law_bag.nd ?_)
    refine we_add ?_
    refine we_int ?_
    refine we_len m_len ?_
    refine we_n 1 ?_
    refine .lst ?_
    refine .int ?_
    refine ⟨rfl, ?_⟩
    refine ws_cons (w1_forL hp rfl (pg_name (i := 2) sc__law_bag.nd rfl (by first | exact Or.inl rfl | exact Or.inr rfl)) (tgd_name 2) ?_)
    refine we_of_wn ?_
    refine wn_sliceL ?_
    refine we_n 0 ?_
    refine ⟨_, rfl, ?_⟩
    refine wp_none ?_
    refine wp_e ?_
    refine we_int ?_
    refine ⟨_, rfl, ?_⟩
    refine ⟨rfl, _, fun i e => ∃ (x : Sl) (t : Int), 0 ≤ t ∧ t < 2147483629 ∧ e = [.d (.list (ns.map .int)), .d (.list ((ns.map absI).map .int)), x, .d (.int t)], rfl, ⟨.un, _, ?_, ?_, rfl⟩, ?_, ?_⟩
    · omega
    · simp; omega
    · rintro i x hx _ ⟨x2, t, t0, t1, rfl⟩
      rw [hcut] at hx
      obtain ⟨n, rfl, hn2⟩ := ints_get hx
      refine ⟨_, rfl, rfl, ?_⟩
      refine ws_cons (w1_set 3 sc__law_bag.nd ?_)
      refine we_mod ?_
      refine we_add ?_
      refine we_add ?_
      refine we_mul ?_
      refine we_n 3 ?_
      refine we_int ?_
      refine ⟨?_, by unfold L2.CMul; omega⟩
      refine we_abs m_abs ?_
      refine we_n 2 ?_
      refine ⟨_, rfl, ?_⟩
      refine .int ?_
      refine we_mul ?_
      refine we_int ?_
      refine we_intof m_int ?_
      refine we_cp (op_ltA hr) ?_
      refine we_n 2 ?_
      refine we_int ?_
      refine ⟨_, cp_lt, ?_⟩
      refine .bool ?_
      refine ⟨?_, by unfold L2.CMul; omega⟩
      refine .int ?_
      refine we_int ?_
      refine ⟨?_, by decide⟩
      refine ⟨rfl, ?_⟩
      refine ws_nil ?_
      exact ⟨_, _, Int.emod_nonneg _ (by decide), Int.emod_lt_of_pos _ (by decide), rfl⟩
    · rintro _ ⟨x2, t, t0, t1, rfl⟩
      refine ws_cons (w1_retN ?_)
      refine wn_list ?_
      refine wa_d ?_
      refine we_n 1 ?_
      refine ⟨rfl, ?_⟩
      refine wa_d ?_
      refine we_int ?_
      refine ⟨rfl, ?_⟩
      refine wa_d ?_
      refine we_int ?_
      refine ⟨rfl, ?_⟩
      refine wa_d ?_
      refine we_n 3 ?_
      refine ⟨rfl, ?_⟩
      refine wa_nil ?_
      refine ⟨_, rfl, szOk rfl, ?_⟩
      refine ⟨_, hΦ _ ⟨ns.map absI, 0, 0, t, rfl, fun c hc => ?_, by decide, by decide, t0, t1⟩, trivial, rfl, rfl⟩
      obtain ⟨z, _, rfl⟩ := List.mem_map.mp hc
      exact absI_nn z

theorem ok_o__law_pull (F : FnP K "_law_pull" s__law_pull f fd) (hm : mg "_law_pull" = some (.ref f)) (hb : Binds K fd ["_law_bag_here", "_law_many"] []) (m_len : mg "len" = none) :
    Has P w K mg base (k + 1) "_law_pull" ["_law_bag_here", "_law_many"] o__law_pull := by
  refine fn_has F hm sc__law_pull hb rfl ?_
  rintro cdv A outer s H E g args Φ Ψ hr hp hM hl ⟨b, many, rfl, m0, m1, hΦ⟩
  have hd : ∀ i, CDivW i many := fun i => wide_div m0 m1 (by decide) (by decide)
  refine ws_open 0 rfl fun cells i z t hc i0 z0 t0 t1 => ?_
  have bag : ∀ z' : Int, 0 ≤ z' → BagD [.list (cells.map .int), .int (i + 1), .int z', .int t] := fun z' h => ⟨cells, i + 1, z', t, rfl, hc, by omega, h, t0, t1⟩
  refine ws_cons (w1_if ?_)
  refine wt_cp (op_ltA hr) ?_
  refine we_ix ?_
  refine we_nl 0 ?_
  refine we_int ?_
  refine ix_lst (by decide) rfl ?_
  refine we_int ?_
  refine ⟨_, cp_lt, ?_⟩
  refine ⟨fun b1 => ?_, fun b1 => ?_⟩
  · -- then
    refine ws_cons (w1_augix 0 rfl ?_)
    refine we_int ?_
    refine ⟨1, 1, _, rfl, rfl, rfl, ?_⟩
    refine we_int ?_
    refine ⟨_, rfl, ?_⟩
    refine ws_cons (w1_set 2 sc__law_pull.nd ?_)
    refine we_ix ?_
    refine we_nl 0 ?_
    refine we_int ?_
    refine ix_lst (by decide) rfl ?_
    refine ⟨rfl, ?_⟩
    refine ws_mid (fun e => ∃ y : Int, 0 ≤ y ∧ e = [.ol b [.list (cells.map .int), .int (i + 1), .int z, .int t], .d (.int many), .d (.int y), .un, .un]) (w1_if ?_) ?_
    · refine wt_cp op_le ?_
      refine we_ix ?_
      refine we_nl 0 ?_
      refine we_int ?_
      refine ix_lst (by decide) rfl ?_
      refine we_len m_len ?_
      refine we_ix ?_
      refine we_nl 0 ?_
      refine we_int ?_
      refine ix_lst (by decide) rfl ?_
      refine .lst ?_
      refine ⟨_, cp_le, ?_⟩
      refine ⟨fun b2 => ?_, fun b2 => ?_⟩
      · -- then
        have b2 := of_decide_eq_true b2
        rw [List.length_map] at b2
        refine ws_cons (w1_set 2 sc__law_pull.nd ?_)
        refine we_ix ?_
        refine we_ix ?_
        refine we_nl 0 ?_
        refine we_int ?_
        refine ix_lst (by decide) rfl ?_
        refine we_sub ?_
        refine we_ix ?_
        refine we_nl 0 ?_
        refine we_int ?_
        refine ix_lst (by decide) rfl ?_
        refine we_int ?_
        refine ⟨?_, trivial⟩
        refine ix_ints (by omega) (by omega) fun n hn => ?_
        have n0 := hc n hn
        refine ⟨rfl, ?_⟩
        refine ws_cons (w1_if ?_)
        refine wt_cp op_ge ?_
        refine we_n 2 ?_
        refine we_pow ?_
        refine we_int ?_
        refine we_int ?_
        refine ⟨?_, by unfold L2.CPow; decide⟩
        refine ⟨_, cp_ge, ?_⟩
        refine ⟨fun b3 => ?_, fun b3 => ?_⟩
        · -- then
          refine ws_cons (w1_setix 0 rfl ?_)
          refine we_div ?_
          refine we_n 2 ?_
          refine we_n 1 ?_
          refine ⟨?_, hd _⟩
          refine ⟨rfl, ?_⟩
          refine we_int ?_
          refine ⟨2, 2, rfl, rfl, ?_⟩
          refine ws_cons (w1_ret ?_)
          refine we_mod ?_
          refine we_n 2 ?_
          refine we_n 1 ?_
          refine ⟨?_, m0⟩
          refine ⟨rfl, ?_⟩
          exact ⟨_, hΦ _ (Int.emod_nonneg _ (by omega)) (Int.emod_lt_of_pos _ m0), trivial, ⟨rfl, bag _ (Int.ediv_nonneg n0 (by omega)), rfl⟩, rfl, rfl⟩
        · -- else
          refine ws_nil (ws_nil ?_)
          exact ⟨n, n0, rfl⟩
      · -- else
        refine ws_nil ?_
        exact ⟨i + 1, by omega, rfl⟩
    rintro _ ⟨y, y0, rfl⟩
    refine ws_cons (w1_set 3 sc__law_pull.nd ?_)
    refine we_mod ?_
    refine we_add ?_
    refine we_add ?_
    refine we_n 2 ?_
    refine we_mul ?_
    refine we_ix ?_
    refine we_nl 0 ?_
    refine we_int ?_
    refine ix_lst (by decide) rfl ?_
    refine we_int ?_
    refine ⟨?_, by unfold L2.CMul; omega⟩
    refine .int ?_
    refine we_mul ?_
    refine we_ix ?_
    refine we_nl 0 ?_
    refine we_int ?_
    refine ix_lst (by decide) rfl ?_
    refine we_int ?_
    refine ⟨?_, by unfold L2.CMul; omega⟩
    refine .int ?_
    refine we_int ?_
    refine ⟨?_, by decide⟩
    refine ⟨rfl, ?_⟩
    generalize (y + t * 31 + (i + 1) * 69061) = y1
    refine ws_cons (w1_set 3 sc__law_pull.nd ?_)
    refine we_mod ?_
    refine we_add ?_
    refine we_mul ?_
    refine we_n 3 ?_
    refine we_n 3 ?_
    have y2 := Int.emod_nonneg y1 (b := 2147483629) (by decide)
    have y3 := Int.emod_lt_of_pos y1 (b := 2147483629) (by decide)
    refine ⟨?_, by unfold L2.CMul; omega⟩
    refine we_int ?_
    refine .int ?_
    refine we_int ?_
    refine ⟨?_, by decide⟩
    refine ⟨rfl, ?_⟩
    generalize (y1 % 2147483629 * (y1 % 2147483629) + 40961) = y4
    refine ws_cons (w1_ret ?_)
    refine we_mod ?_
    refine we_div ?_
    refine we_mod ?_
    refine we_add ?_
    refine we_mul ?_
    refine we_n 3 ?_
    refine we_n 3 ?_
    have y5 := Int.emod_nonneg y4 (b := 2147483587) (by decide)
    have y6 := Int.emod_lt_of_pos y4 (b := 2147483587) (by decide)
    refine ⟨?_, by unfold L2.CMul; omega⟩
    refine we_ix ?_
    refine we_nl 0 ?_
    refine we_int ?_
    refine ix_lst (by decide) rfl ?_
    refine .int ?_
    refine we_int ?_
    refine ⟨?_, by decide⟩
    refine we_int ?_
    refine ⟨?_, cdiv_small _ (by decide) (by decide)⟩
    refine we_n 1 ?_
    refine ⟨?_, m0⟩
    refine ⟨rfl, ?_⟩
    exact ⟨_, hΦ _ (Int.emod_nonneg _ (by omega)) (Int.emod_lt_of_pos _ m0), trivial, ⟨rfl, bag z z0, rfl⟩, rfl, rfl⟩
  · -- else
    refine ws_nil ?_
    refine ws_cons (w1_set 4 sc__law_pull.nd ?_)
    refine we_mod ?_
    refine we_ix ?_
    refine we_nl 0 ?_
    refine we_int ?_
    refine ix_lst (by decide) rfl ?_
    refine we_n 1 ?_
    refine ⟨?_, m0⟩
    refine ⟨rfl, ?_⟩
    refine ws_cons (w1_setix 0 rfl ?_)
    refine we_div ?_
    refine we_ix ?_
    refine we_nl 0 ?_
    refine we_int ?_
    refine ix_lst (by decide) rfl ?_
    refine we_n 1 ?_
    refine ⟨?_, hd _⟩
    refine ⟨rfl, ?_⟩
    refine we_int ?_
    refine ⟨2, 2, rfl, rfl, ?_⟩
    refine ws_cons (w1_ret ?_)
    refine we_n 4 ?_
    refine ⟨rfl, ?_⟩
    exact ⟨_, hΦ _ (Int.emod_nonneg _ (by omega)) (Int.emod_lt_of_pos _ m0), trivial, ⟨rfl, ⟨cells, i, z / many, t, rfl, hc, i0, Int.ediv_nonneg z0 (by omega), t0, t1⟩, rfl⟩, rfl, rfl⟩
theorem ok__law_pull (h : Has P w K mg base k "_law_pull" ["_law_bag_here", "_law_many"] o__law_pull) : Has P w K mg base k "_law_pull" ["_law_bag_here", "_law_many"] c__law_pull := h.imp fun args Φ Ψ ⟨b, m, Kf, Ef, e, hf, h1, h2⟩ => by
  subst e
  cases m with
  | int m => exact ⟨b, m, rfl, hf.1.1, hf.1.2, fun r r0 r1 => h1 _ (hf.2 r r0 r1)⟩
  | _ => exact (show False from hf).elim

--@ args=0 64 level=66
theorem ok_o__law_cut_arc (F : FnP K "_law_cut_arc" s__law_cut_arc f fd) (hm : mg "_law_cut_arc" = some (.ref f)) (hb : Binds K fd ["_law_bag_here", "_law_start", "_law_end", "_law_found"] []) (ho__law_pull : Has P w K mg base 1 "_law_pull" ["_law_bag_here", "_law_many"] o__law_pull) (k0 : Nat) :
    ∀ N : Nat, Has P w K mg base (k0 + N + 2) "_law_cut_arc" ["_law_bag_here", "_law_start", "_law_end", "_law_found"] (o__law_cut_arc N)
  | 0 => by
    refine fn_has F hm sc__law_cut_arc hb rfl ?_
    rintro cdv A outer s H E g args Φ Ψ hr hp hM hl ⟨b, st, en, fa, ds, rfl, h1, h2, _⟩
    omega
  | N + 1 => by
    have ih := ok_o__law_cut_arc F hm hb ho__law_pull k0 N
    refine fn_has F hm sc__law_cut_arc hb rfl ?_
    rintro cdv A outer s H E g args Φ Ψ hr hp hM hl ⟨b, st, en, fa, ds, rfl, h1, h2, h3, hΦ⟩
    have hsl := sizeLine_eq
    refine ws_cons (w1_if ?_)
    refine wt_cp op_gt ?_
    refine we_sub ?_
    refine we_n 2 ?_
    refine we_n 1 ?_
    refine ⟨?_, trivial⟩
    refine we_int ?_
    refine ⟨_, cp_gt, ?_⟩
    refine ⟨fun b1 => ?_, fun b1 => ?_⟩
    · -- then
      have b1 := of_decide_eq_true b1
      refine ws_cons (w1_set 4 sc__law_cut_arc.nd ?_)
      refine we_sub ?_
      refine we_sub ?_
      refine we_n 2 ?_
      refine we_n 1 ?_
      refine ⟨?_, trivial⟩
      refine we_int ?_
      refine ⟨?_, trivial⟩
      refine ⟨rfl, ?_⟩
      refine ws_cons (w1_set 5 sc__law_cut_arc.nd ?_)
      refine we_call ho__law_pull hr ?_
      refine wa_s 0 ?_
      refine wa_d ?_
      refine we_int ?_
      refine ⟨rfl, ?_⟩
      refine wa_nil ?_
      refine ⟨rfl, b, _, rfl, by decide, nb (by decide), fun wy y0 y1 => ⟨rfl, _, rfl, ?_⟩⟩
      refine ⟨rfl, ?_⟩
      refine ws_cons (w1_set 6 sc__law_cut_arc.nd ?_)
      refine we_add ?_
      refine we_add ?_
      refine we_n 1 ?_
      refine we_int ?_
      refine .int ?_
      refine we_ix ?_
      refine we_list ?_
      refine wa_d ?_
      refine we_call ho__law_pull hr ?_
      refine wa_s 0 ?_
      refine wa_d ?_
      refine we_n 4 ?_
      refine ⟨rfl, ?_⟩
      refine wa_nil ?_
      have hw : (en - st - 1).natAbs < 2 ^ 120 := by omega
      refine ⟨rfl, b, _, rfl, by omega, nb hw, fun r r0 r1 => ⟨rfl, _, rfl, ?_⟩⟩
      refine ⟨rfl, ?_⟩
      refine wa_d ?_
      refine we_int ?_
      refine ⟨rfl, ?_⟩
      refine wa_d ?_
      refine we_sub ?_
      refine we_n 4 ?_
      refine we_int ?_
      refine ⟨?_, trivial⟩
      refine ⟨rfl, ?_⟩
      refine wa_d ?_
      refine we_div ?_
      refine we_n 4 ?_
      refine we_int ?_
      refine ⟨?_, cdiv_small _ (by decide) (by decide)⟩
      refine ⟨rfl, ?_⟩
      refine wa_d ?_
      refine we_call ho__law_pull hr ?_
      refine wa_s 0 ?_
      refine wa_d ?_
      refine we_n 4 ?_
      refine ⟨rfl, ?_⟩
      refine wa_nil ?_
      refine ⟨rfl, b, _, rfl, by omega, nb hw, fun r' r0' r1' => ⟨rfl, _, rfl, ?_⟩⟩
      refine ⟨rfl, ?_⟩
      refine wa_nil ?_
      refine ⟨_, rfl, szOk rfl, ?_⟩
      refine we_n 5 ?_
      refine ix_mem 5 y0 (by omega) fun x hx => ?_
      obtain ⟨v, rfl, v0, v1⟩ : ∃ v : Int, x = .int v ∧ 0 ≤ v ∧ v < en - st - 1 := by
        simp at hx
        rcases hx with rfl | rfl | rfl | rfl | rfl
        · exact ⟨_, rfl, r0, r1⟩
        · exact ⟨_, rfl, by omega, by omega⟩
        · exact ⟨_, rfl, by omega, by omega⟩
        · exact ⟨_, rfl, by omega, by omega⟩
        · exact ⟨_, rfl, r0', r1'⟩
      refine .int ?_
      refine ⟨rfl, ?_⟩
      obtain ⟨m, hm1⟩ : ∃ m : Int, st + 1 + v = m := ⟨_, rfl⟩
      rw [hm1]
      have m1 : st < m := by omega
      have m2 : m < en := by omega
      refine ws_cons (w1_append 3 rfl ?_)
      refine we_tuple ?_
      refine wa_d ?_
      refine we_n 1 ?_
      refine ⟨rfl, ?_⟩
      refine wa_d ?_
      refine we_n 6 ?_
      refine ⟨rfl, ?_⟩
      refine wa_nil ?_
      refine ⟨_, rfl, szOk rfl, ?_⟩
      refine ⟨rfl, by omega, ?_⟩
      refine ws_cons (w1_append 3 rfl ?_)
      refine we_tuple ?_
      refine wa_d ?_
      refine we_n 6 ?_
      refine ⟨rfl, ?_⟩
      refine wa_d ?_
      refine we_n 2 ?_
      refine ⟨rfl, ?_⟩
      refine wa_nil ?_
      refine ⟨_, rfl, szOk rfl, ?_⟩
      refine ⟨rfl, by simp; omega, ?_⟩
      refine ws_cons (w1_callM ih hr ?_)
      refine wa_s 0 ?_
      refine wa_d ?_
      refine we_n 1 ?_
      refine ⟨rfl, ?_⟩
      refine wa_d ?_
      refine we_n 6 ?_
      refine ⟨rfl, ?_⟩
      refine wa_s 3 ?_
      refine wa_nil ?_
      refine ⟨rfl, b, st, m, fa, _, rfl, m1, by omega, by simp; omega, fun la ha => ⟨rfl, ?_⟩⟩
      have hla := ha.len m1
      refine ws_cons (w1_callM ih hr ?_)
      refine wa_s 0 ?_
      refine wa_d ?_
      refine we_n 6 ?_
      refine ⟨rfl, ?_⟩
      refine wa_d ?_
      refine we_n 2 ?_
      refine ⟨rfl, ?_⟩
      refine wa_s 3 ?_
      refine wa_nil ?_
      refine ⟨rfl, b, m, en, fa, _, rfl, m2, by omega, by simp; omega, fun lb hb2 => ⟨rfl, ?_⟩⟩
      refine ws_nil ?_
      refine ws_cons (w1_retA 3 rfl (by intro z; cases z) ?_)
      have hq := hΦ _ (Arcs.node m1 m2 ha hb2)
      refine ⟨_, hq, ⟨ltB rfl, fun s' h => by cases h; intro z; cases z⟩, ⟨rfl, rfl⟩, rfl, rfl, ⟨rfl, ?_⟩, rfl⟩
      simp [ppD]
    · -- else
      have b1 := of_decide_eq_false b1
      refine ws_nil ?_
      refine ws_cons (w1_retA 3 rfl (by intro z; cases z) ?_)
      have hq := hΦ _ (Arcs.leaf (by omega))
      refine ⟨_, hq, ⟨ltB rfl, fun s' h => by cases h; intro z; cases z⟩, ⟨rfl, rfl⟩, rfl, rfl, ⟨rfl, ?_⟩, rfl⟩
      simp

theorem ok__law_pair (F : FnP K "_law_pair" s__law_pair f fd) (hm : mg "_law_pair" = some (.ref f)) (hb : Binds K fd ["_law_one", "_law_other"] []) (m_min : mg "min" = none) (m_max : mg "max" = none) :
    Has P w K mg base (k + 1) "_law_pair" ["_law_one", "_law_other"] c__law_pair := by
  refine fn_has F hm sc__law_pair hb rfl ?_
  rintro cdv A outer s H E g args Φ Ψ hr hp hM hl ⟨l_one, l_other, Kf, Ef, rfl, h, hK, hE⟩
  unfold f__law_pair at h
  refine ws_env (env' := [.d l_one, .d l_other]) rfl ?_
  refine ws_cons (w1_ret ?_)
  refine we_tuple ?_
  refine wa_d ?_
  refine we_min2A m_min rfl ?_
  refine we_n 0 ?_
  refine we_n 1 ?_
  refine min2_m h fun r1 h => ?_
  refine ⟨rfl, ?_⟩
  refine wa_d ?_
  refine we_max2A m_max rfl ?_
  refine we_n 0 ?_
  refine we_n 1 ?_
  refine max2_m h fun r2 h => ?_
  refine ⟨rfl, ?_⟩
  refine wa_nil ?_
  refine ⟨_, rfl, szOk rfl, ?_⟩
  exact ⟨rfl, _, hK _ h, trivial, rfl, rfl, rfl⟩
theorem ok_o__law_pair (F : FnP K "_law_pair" s__law_pair f fd) (hm : mg "_law_pair" = some (.ref f)) (hb : Binds K fd ["_law_one", "_law_other"] []) (m_min : mg "min" = none) (m_max : mg "max" = none) :
    Has P w K mg base (k + 1) "_law_pair" ["_law_one", "_law_other"] o__law_pair := by
  refine fn_has F hm sc__law_pair hb rfl ?_
  rintro cdv A outer s H E g args Φ Ψ hr hp hM hl ⟨i, j, rfl, hΦ⟩
  refine ws_cons (w1_ret ?_)
  refine we_tuple ?_
  refine wa_d ?_
  refine we_min2 m_min rfl ?_
  refine we_n 0 ?_
  refine we_n 1 ?_
  refine ⟨i, j, rfl, rfl, rfl, ?_⟩
  refine wa_d ?_
  refine we_max2 m_max rfl ?_
  refine we_n 0 ?_
  refine we_n 1 ?_
  refine ⟨i, j, rfl, rfl, rfl, ?_⟩
  refine wa_nil ?_
  refine ⟨_, rfl, szOk rfl, rfl, ?_⟩
  exact ⟨_, hΦ, trivial, rfl, rfl, rfl⟩

theorem ok_o__law_drawn_plan (F : FnP K "_law_drawn_plan" s__law_drawn_plan f fd) (hm : mg "_law_drawn_plan" = some (.ref f)) (hb : Binds K fd ["_law_bag_here", "_law_faces"] []) (m_tuple : mg "tuple" = none) (ho__law_cut_arc : Has P w K mg base k "_law_cut_arc" ["_law_bag_here", "_law_start", "_law_end", "_law_found"] (o__law_cut_arc 64)) (m_sorted : mg "sorted" = none) (ho__law_pair : Has P w K mg base k "_law_pair" ["_law_one", "_law_other"] o__law_pair) :
    Has P w K mg base (k + 1) "_law_drawn_plan" ["_law_bag_here", "_law_faces"] o__law_drawn_plan := by
  refine fn_has F hm sc__law_drawn_plan hb rfl ?_
  rintro cdv A outer s H E g args Φ Ψ hr hp hM hl ⟨b, n, rfl, n3, n40, hΦ⟩
  refine ws_cons (w1_setLc 2 (own := [("_law_low", 3), ("_law_high", 4)]) rfl sc__law_drawn_plan.nd (pi_list (peI _)) (blkOk_by (by rfl)) (fun _ _ _ _ _ => (pg_tup rfl (pgs_cons (pg_name (i := 3) sc__law_drawn_plan.nd rfl (by first | exact Or.inl rfl | exact Or.inr rfl)) (pgs_cons (pg_name (i := 4) sc__law_drawn_plan.nd rfl (by first | exact Or.inl rfl | exact Or.inr rfl)) pgs_nil)))) (by decide) (nt_lcL (tgd_tup (tgds_cons (tgd_name 3) (tgds_cons (tgd_name 4) tgds_nil)) rfl) rfl ?_))
  refine we_of_wn ?_
  refine wn_callN ho__law_cut_arc hr ?_
  refine wan_s 0 ?_
  refine wan_d ?_
  refine we_int ?_
  refine ⟨rfl, ?_⟩
  refine wan_d ?_
  refine we_n 1 ?_
  refine ⟨rfl, ?_⟩
  refine wan_l ?_
  refine ⟨rfl, by decide, fun q => ⟨b, 1, n, q, [], rfl, by omega, by omega, by simp; omega, fun l hl => ⟨_, rfl, rfl, ?_⟩⟩⟩
  rw [List.nil_append]
  refine ⟨rfl, _, fun i acc => acc = ((l.take i).filter wide).map ppD, rfl, rfl, fun i x hx => ?_, fun acc ha => ?_⟩
  · obtain ⟨p, hp1, rfl⟩ := map_get hx
    refine ⟨_, rfl, rfl, ?_⟩
    intro acc ha g1 s1 H1 C1 cl1 fp1
    subst ha
    show WT _ _ _ _ _ _
    refine wt_cp op_gt ?_
    refine we_sub ?_
    refine we_n 4 ?_
    refine we_n 3 ?_
    refine ⟨?_, trivial⟩
    refine we_int ?_
    refine ⟨_, cp_gt, ?_⟩
    refine ⟨fun b s1 H1 C1 cl1 fp1 => ?_, fun b => tkf_f ppD hp1 b⟩
    refine we_tuple ?_
    refine wa_d ?_
    refine we_n 3 ?_
    refine ⟨rfl, ?_⟩
    refine wa_d ?_
    refine we_n 4 ?_
    refine ⟨rfl, ?_⟩
    refine wa_nil ?_
    refine ⟨_, rfl, szOk rfl, ?_⟩
    exact ⟨rfl, tkf_t ppD hp1 b⟩
  · subst ha
    rw [List.length_map, List.take_length]
    obtain ⟨ws, hws⟩ : ∃ ws, l.filter wide = ws := ⟨_, rfl⟩
    rw [hws]
    refine ws_cons (w1_ret ?_)
    refine we_tuple ?_
    refine wa_d ?_
    refine we_n 1 ?_
    refine ⟨rfl, ?_⟩
    refine wa_d ?_
    refine we_tupof m_tuple ?_
    refine we_of_wn ?_
    refine wn_sorted m_sorted hr ?_
    refine we_of_wn ?_
    refine wn_lcL (own := [("_law_low", 3), ("_law_high", 4)]) rfl sc__law_drawn_plan.nd (blkOk_by (by rfl)) (fun _ _ _ _ _ => (pg_tup rfl (pgs_cons (pg_name (i := 3) sc__law_drawn_plan.nd rfl (by first | exact Or.inl rfl | exact Or.inr rfl)) (pgs_cons (pg_name (i := 4) sc__law_drawn_plan.nd rfl (by first | exact Or.inl rfl | exact Or.inr rfl)) pgs_nil)))) (tgd_tup (tgds_cons (tgd_name 3) (tgds_cons (tgd_name 4) tgds_nil)) rfl) (by decide) rfl ?_
    refine we_n 2 ?_
    refine ⟨rfl, _, fun i acc => acc = (ws.take i).map fun p => ppD (nrm n p), rfl, rfl, fun i x hx => ?_, fun acc ha => ?_⟩
    · obtain ⟨p, hp1, rfl⟩ := map_get hx
      refine ⟨_, rfl, rfl, ?_⟩
      intro acc ha g1 s1 H1 C1 cl1 fp1
      refine ⟨fun _ s1 H1 C1 cl1 fp1 => ?_, fun z => by cases z⟩
      refine we_call ho__law_pair hr ?_
      refine wa_d ?_
      refine we_n 3 ?_
      refine ⟨rfl, ?_⟩
      refine wa_d ?_
      refine we_mod ?_
      refine we_n 4 ?_
      refine we_n 1 ?_
      refine ⟨?_, by omega⟩
      refine ⟨rfl, ?_⟩
      refine wa_nil ?_
      refine ⟨rfl, p.1, p.2 % n, rfl, rfl, _, rfl, ?_⟩
      refine ⟨rfl, ?_⟩
      subst ha
      exact tk_succ (fun p => ppD (nrm n p)) hp1
    · subst ha
      rw [List.length_map, List.take_length]
      have em : (ws.map fun p => ppD (nrm n p)) = (ws.map (nrm n)).map ppD := by simp
      rw [em]
      refine ⟨_, rfl, pairs_alike _, pairs_sortable _, pairs_depth _, ?_⟩
      refine .lst ?_
      refine ⟨rfl, ?_⟩
      refine wa_nil ?_
      refine ⟨_, rfl, szOk rfl, ?_⟩
      rw [srt_pp]
      have hq := hΦ l hl
      unfold planOf at hq
      rw [hws] at hq
      exact ⟨rfl, _, hq, trivial, ⟨rfl, rfl⟩, rfl, rfl⟩
theorem ok__law_drawn_plan (h : Has P w K mg base k "_law_drawn_plan" ["_law_bag_here", "_law_faces"] o__law_drawn_plan) : Has P w K mg base k "_law_drawn_plan" ["_law_bag_here", "_law_faces"] c__law_drawn_plan := h.imp fun args Φ Ψ ⟨b, m, Kf, Ef, e, hf, h1, h2⟩ => by
  subst e
  cases m with
  | int m => exact ⟨b, m, rfl, hf.1.1, hf.1.2, fun l hl => h1 _ (hf.2 l hl)⟩
  | _ => exact (show False from hf).elim

theorem ok__law_plan (F : FnP K "_law_plan" s__law_plan f fd) (hm : mg "_law_plan" = some (.ref f)) (hb : Binds K fd ["_law_bag_here", "_law_most"] []) (h__law_pull : Has P w K mg base k "_law_pull" ["_law_bag_here", "_law_many"] c__law_pull) (h__law_drawn_plan : Has P w K mg base k "_law_drawn_plan" ["_law_bag_here", "_law_faces"] c__law_drawn_plan) :
    Has P w K mg base (k + 1) "_law_plan" ["_law_bag_here", "_law_most"] c__law_plan := by
  refine fn_has F hm sc__law_plan hb rfl ?_
  rintro cdv A outer s H E g args Φ Ψ hr hp hM hl ⟨a_l_bag_here, l_most, Kf, Ef, rfl, h, hK, hE⟩
  unfold f__law_plan at h
  refine ws_env (env' := [.bg a_l_bag_here, .d l_most, .un]) rfl ?_
  refine ws_cons (w1_set 2 sc__law_plan.nd ?_)
  refine we_add ?_
  refine we_int ?_
  refine we_call h__law_pull hr ?_
  refine wa_s 0 ?_
  refine wa_d ?_
  refine we_sub ?_
  refine we_n 1 ?_
  refine we_int ?_
  refine sub_sh h fun r1 h => ?_
  refine ⟨rfl, ?_⟩
  refine wa_nil ?_
  refine ⟨rfl, _, _, _, _, rfl, h, fun r2 h => ⟨rfl, _, rfl, ?_⟩, fun c hc => ⟨rfl, ⟨_, hE _ hc, ⟨rfl, rfl⟩, rfl, rfl⟩⟩⟩
  refine add_sh h fun r3 h => ?_
  refine ⟨rfl, ?_⟩
  refine ws_env (env' := [.bg a_l_bag_here, .d l_most, .d r3]) rfl ?_
  refine ws_cons (w1_ret ?_)
  refine we_call h__law_drawn_plan hr ?_
  refine wa_s 0 ?_
  refine wa_d ?_
  refine we_n 2 ?_
  refine ⟨rfl, ?_⟩
  refine wa_nil ?_
  refine ⟨rfl, _, _, _, _, rfl, h, fun r4 h => ⟨rfl, _, rfl, ?_⟩, fun c hc => ⟨rfl, ⟨_, hE _ hc, ⟨rfl, rfl⟩, rfl, rfl⟩⟩⟩
  exact ⟨rfl, _, hK _ h, trivial, ⟨rfl, rfl⟩, rfl, rfl⟩
theorem ok__law_all_lines (F : FnP K "_law_all_lines" s__law_all_lines f fd) (hm : mg "_law_all_lines" = some (.ref f)) (hb : Binds K fd ["_law_plan_here"] []) (m_range : mg "range" = none) (m_sorted : mg "sorted" = none) (m_list : mg "list" = none) :
    Has P w K mg base (k + 1) "_law_all_lines" ["_law_plan_here"] c__law_all_lines := by
  refine fn_has F hm sc__law_all_lines hb rfl ?_
  rintro cdv A outer s H E g args Φ Ψ hr hp hM hl ⟨l_plan_here, Kf, Ef, rfl, h, hK, hE⟩
  unfold f__law_all_lines at h
  refine ws_env (env' := [.d l_plan_here, .un, .un, .un, .un]) rfl ?_
  refine ws_cons (w1_unpack (pg_tup rfl (pgs_cons (pg_name (i := 1) sc__law_all_lines.nd rfl (by first | exact Or.inl rfl | exact Or.inr rfl)) (pgs_cons (pg_name (i := 2) sc__law_all_lines.nd rfl (by first | exact Or.inl rfl | exact Or.inr rfl)) pgs_nil))) (tgd_tup (tgds_cons (tgd_name 1) (tgds_cons (tgd_name 2) tgds_nil)) rfl) ?_)
  refine we_n 0 ?_
  obtain ⟨l_faces1, l_cuts2, he3, h⟩ := un2_sh h
  refine ⟨rfl, [(1, l_faces1), (2, l_cuts2)], (by rw [he3]; rfl), rfl, ?_⟩
  refine ws_env (env' := [.d l_plan_here, .d l_faces1, .d l_cuts2, .un, .un]) rfl ?_
  refine ws_cons (w1_set 3 sc__law_all_lines.nd ?_)
  refine we_add ?_
  refine we_of_wn ?_
  refine wn_lc (own := [("_law_low", 4)]) rfl sc__law_all_lines.nd (blkOk_by (by rfl)) (fun _ _ _ _ _ => (pg_name (i := 4) sc__law_all_lines.nd rfl (by first | exact Or.inl rfl | exact Or.inr rfl))) (tgd_name 4) (by decide) rfl ?_
  refine wi_r1 m_range ?_
  refine we_sub ?_
  refine we_n 1 ?_
  refine we_int ?_
  refine sub_sh h fun r5 h => ?_
  refine rng_sh h fun xs4 h => ?_
  refine lcS h (fun l_low6 kp sk h => ?_) fun l7 h => ?_
  · refine ⟨[(4, l_low6)], rfl, rfl, fun g' s1 H1 C1 cl1 fp1 => ?_⟩
    refine ⟨fun _ s1 H1 C1 cl1 fp1 => ?_, fun z => by cases z⟩
    refine we_tuple ?_
    refine wa_d ?_
    refine we_n 4 ?_
    refine ⟨rfl, ?_⟩
    refine wa_d ?_
    refine we_add ?_
    refine we_n 4 ?_
    refine we_int ?_
    refine add_sh h fun r8 h => ?_
    refine ⟨rfl, ?_⟩
    refine wa_nil ?_
    refine ⟨_, rfl, szOk rfl, ?_⟩
    exact ⟨rfl, h⟩
  refine we_list ?_
  refine wa_d ?_
  refine we_tuple ?_
  refine wa_d ?_
  refine we_int ?_
  refine ⟨rfl, ?_⟩
  refine wa_d ?_
  refine we_sub ?_
  refine we_n 1 ?_
  refine we_int ?_
  refine sub_sh h fun r9 h => ?_
  refine ⟨rfl, ?_⟩
  refine wa_nil ?_
  refine ⟨_, rfl, szOk rfl, ?_⟩
  refine ⟨rfl, ?_⟩
  refine wa_nil ?_
  refine ⟨_, rfl, szOk rfl, ?_⟩
  refine add_sh h fun r10 h => ?_
  refine ⟨rfl, ?_⟩
  refine ws_env (env' := [.d l_plan_here, .d l_faces1, .d l_cuts2, .d r10, .un]) rfl ?_
  refine ws_cons (w1_retN ?_)
  refine wn_sortedA m_sorted hr ?_
  refine we_add ?_
  refine we_n 3 ?_
  refine we_of_wn ?_
  refine wn_listof m_list ?_
  refine we_n 2 ?_
  refine list_sh h fun l11 h => ?_
  refine add_sh h fun r12 h => ?_
  refine sort_m h fun l13 h => ?_
  exact ⟨_, hK _ h, trivial, rfl, rfl⟩
theorem ok__law_tied (F : FnP K "_law_tied" s__law_tied f fd) (hm : mg "_law_tied" = some (.ref f)) (hb : Binds K fd ["_law_plan_here"] []) (h__law_all_lines : Has P w K mg base k "_law_all_lines" ["_law_plan_here"] c__law_all_lines) :
    Has P w K mg base (k + 1) "_law_tied" ["_law_plan_here"] c__law_tied := by
  refine fn_has F hm sc__law_tied hb rfl ?_
  rintro cdv A outer s H E g args Φ Ψ hr hp hM hl ⟨l_plan_here, Kf, Ef, rfl, h, hK, hE⟩
  unfold f__law_tied at h
  refine ws_env (env' := [.d l_plan_here, .un, .un, .un]) rfl ?_
  refine ws_cons (w1_newT 1 sc__law_tied.nd fun a1 n_a1 => ?_)
  refine ws_env (env' := [.d l_plan_here, .dt a1 [], .un, .un]) rfl ?_
  refine ws_cons (w1_for hp rfl (pg_tup rfl (pgs_cons (pg_name (i := 2) sc__law_tied.nd rfl (by first | exact Or.inl rfl | exact Or.inr rfl)) (pgs_cons (pg_name (i := 3) sc__law_tied.nd rfl (by first | exact Or.inl rfl | exact Or.inr rfl)) pgs_nil))) (tgd_tup (tgds_cons (tgd_name 2) (tgds_cons (tgd_name 3) tgds_nil)) rfl) ?_)
  refine wi_d ?_
  refine we_call h__law_all_lines hr ?_
  refine wa_d ?_
  refine we_n 0 ?_
  refine ⟨rfl, ?_⟩
  refine wa_nil ?_
  refine ⟨rfl, _, _, _, rfl, h, fun r3 h => ⟨rfl, _, rfl, ?_⟩, fun c hc => ⟨rfl, ⟨_, hE _ hc, rfl, rfl⟩⟩⟩
  refine ⟨rfl, it_sh h fun xs2 h => ?_⟩
  refine forS h (fun (s : (List (List Key × PyData))) (u : {a : Addr // a ∉ g.M} × Sl × Sl) => [.d l_plan_here, .dt u.1.1 s, u.2.1, u.2.2]) (⟨a1, n_a1⟩, (.un), (.un)) rfl ?_ ?_
  · rintro l_held4 ⟨⟨a5, n_a5⟩, w6, w7⟩ h
    refine ws_env (env' := [.d l_plan_here, .dt a5 l_held4, w6, w7]) rfl ?_
    exact ws_cons (w1_retT 1 rfl n_a5 ⟨_, hK _ h, trivial, rfl, rfl⟩)
  · rintro hend p8 l_held11 ⟨⟨a12, n_a12⟩, w13, w14⟩ N9 h
    obtain ⟨l_low15, l_high16, he17, h⟩ := un2_sh h
    refine ⟨[(2, l_low15), (3, l_high16)], (by rw [he17]; rfl), rfl, ?_⟩
    refine ws_env (env' := [.d l_plan_here, .dt a12 l_held11, .d l_low15, .d l_high16]) rfl ?_
    refine ws_cons (w1_storeTB 1 hr ?_)
    refine we_bool ?_
    refine ⟨rfl, ?_⟩
    refine we_tuple ?_
    refine wa_d ?_
    refine we_n 2 ?_
    refine ⟨rfl, ?_⟩
    refine wa_d ?_
    refine we_n 3 ?_
    refine ⟨rfl, ?_⟩
    refine wa_nil ?_
    refine ⟨_, rfl, szOk rfl, ?_⟩
    refine ⟨rfl, putT_m h fun kv18 h => ?_⟩
    refine ws_env (env' := [.d l_plan_here, .dt a12 kv18, .d l_low15, .d l_high16]) rfl ?_
    refine ws_cons (w1_storeTB 1 hr ?_)
    refine we_bool ?_
    refine ⟨rfl, ?_⟩
    refine we_tuple ?_
    refine wa_d ?_
    refine we_n 3 ?_
    refine ⟨rfl, ?_⟩
    refine wa_d ?_
    refine we_n 2 ?_
    refine ⟨rfl, ?_⟩
    refine wa_nil ?_
    refine ⟨_, rfl, szOk rfl, ?_⟩
    refine ⟨rfl, putT_m h fun kv19 h => ?_⟩
    refine ws_env (env' := [.d l_plan_here, .dt a12 kv19, .d l_low15, .d l_high16]) rfl ?_
    exact ws_nil ⟨kv19, (⟨a12, n_a12⟩, (.d l_low15), (.d l_high16)), h, rfl⟩
theorem ok__law_fan (F : FnP K "_law_fan" s__law_fan f fd) (hm : mg "_law_fan" = some (.ref f)) (hb : Binds K fd ["_law_plan_here", "_law_face"] []) (h__law_tied : Has P w K mg base k "_law_tied" ["_law_plan_here"] c__law_tied) (m_range : mg "range" = none) :
    Has P w K mg base (k + 1) "_law_fan" ["_law_plan_here", "_law_face"] c__law_fan := by
  refine fn_has F hm sc__law_fan hb rfl ?_
  rintro cdv A outer s H E g args Φ Ψ hr hp hM hl ⟨l_plan_here, l_face, Kf, Ef, rfl, h, hK, hE⟩
  unfold f__law_fan at h
  refine ws_env (env' := [.d l_plan_here, .d l_face, .un, .un, .un]) rfl ?_
  refine ws_cons (w1_setT 2 sc__law_fan.nd ?_)
  refine wd_call h__law_tied hr ?_
  refine wa_d ?_
  refine we_n 0 ?_
  refine ⟨rfl, ?_⟩
  refine wa_nil ?_
  refine ⟨rfl, _, _, _, rfl, h, fun r2 h => ⟨rfl, _, rfl, ?_⟩, fun c hc => ⟨rfl, ⟨_, hE _ hc, rfl, rfl, rfl⟩⟩⟩
  intro a1 n_a1
  refine ws_env (env' := [.d l_plan_here, .d l_face, .dt a1 r2, .un, .un]) rfl ?_
  refine ws_cons (w1_set 3 sc__law_fan.nd ?_)
  refine we_ix ?_
  refine we_n 0 ?_
  refine we_int ?_
  refine ix_sh h fun r3 h => ?_
  refine ⟨rfl, ?_⟩
  refine ws_env (env' := [.d l_plan_here, .d l_face, .dt a1 r2, .d r3, .un]) rfl ?_
  refine ws_cons (w1_retN ?_)
  refine wn_lc (own := [("_law_step", 4)]) rfl sc__law_fan.nd (blkOk_by (by rfl)) (fun _ _ _ _ _ => (pg_name (i := 4) sc__law_fan.nd rfl (by first | exact Or.inl rfl | exact Or.inr rfl))) (tgd_name 4) (by decide) rfl ?_
  refine wi_r2 m_range ?_
  refine we_int ?_
  refine we_n 3 ?_
  refine rng_sh h fun xs4 h => ?_
  refine lcS h (fun l_step5 kp sk h => ?_) fun l6 h => ?_
  · refine ⟨[(4, l_step5)], rfl, rfl, fun g' s1 H1 C1 cl1 fp1 => ?_⟩
    show WT _ _ _ _ _ _
    refine wt_inTA 2 hr ?_
    refine we_tuple ?_
    refine wa_d ?_
    refine we_n 1 ?_
    refine ⟨rfl, ?_⟩
    refine wa_d ?_
    refine we_mod ?_
    refine we_add ?_
    refine we_n 1 ?_
    refine we_n 4 ?_
    refine add_sh h fun r7 h => ?_
    refine we_n 3 ?_
    refine mod_sh h fun r8 h => ?_
    refine ⟨rfl, ?_⟩
    refine wa_nil ?_
    refine ⟨_, rfl, szOk rfl, ?_⟩
    refine ⟨rfl, inT_m h fun b9 h => ?_⟩
    refine ⟨fun e s1 H1 C1 cl1 fp1 => ?_, h.2⟩
    replace h := h.1 e
    refine we_mod ?_
    refine we_add ?_
    refine we_n 1 ?_
    refine we_n 4 ?_
    refine add_sh h fun r10 h => ?_
    refine we_n 3 ?_
    refine mod_sh h fun r11 h => ?_
    exact ⟨rfl, h⟩
  exact ⟨_, hK _ h, trivial, rfl, rfl, rfl⟩
theorem ok_is_cut (F : FnP K "is_cut" s_is_cut f fd) (hm : mg "is_cut" = some (.ref f)) (hb : Binds K fd ["faces", "cut"] [])  :
    Has P w K mg base (k + 1) "is_cut" ["faces", "cut"] c_is_cut := by
  refine fn_has F hm sc_is_cut hb rfl ?_
  rintro cdv A outer s H E g args Φ Ψ hr hp hM hl ⟨faces, cut, Kf, Ef, rfl, h, hK, hE⟩
  unfold f_is_cut at h
  refine ws_env (env' := [.d faces, .d cut, .un, .un]) rfl ?_
  refine ws_cons (w1_unpack (pg_tup rfl (pgs_cons (pg_name (i := 2) sc_is_cut.nd rfl (by first | exact Or.inl rfl | exact Or.inr rfl)) (pgs_cons (pg_name (i := 3) sc_is_cut.nd rfl (by first | exact Or.inl rfl | exact Or.inr rfl)) pgs_nil))) (tgd_tup (tgds_cons (tgd_name 2) (tgds_cons (tgd_name 3) tgds_nil)) rfl) ?_)
  refine we_n 1 ?_
  obtain ⟨low1, high2, he3, h⟩ := un2_sh h
  refine ⟨rfl, [(2, low1), (3, high2)], (by rw [he3]; rfl), rfl, ?_⟩
  refine ws_env (env' := [.d faces, .d cut, .d low1, .d high2]) rfl ?_
  refine ws_cons (w1_ret ?_)
  refine we_andS h (fun Q h => ?_) (fun Q h => ?_) fun b4 h => ?_
  · refine we_cp (op_leA hr) ?_
    refine we_int ?_
    refine we_n 2 ?_
    refine le_sh h fun b5 h => ?_
    refine ⟨_, rfl, ?_⟩
    exact h
  · refine we_andS h (fun Q h => ?_) (fun Q h => ?_) fun b6 h => ?_
    · refine we_ch (op_ltA hr) (op_ltA hr) ?_
      refine we_add ?_
      refine we_n 2 ?_
      refine we_int ?_
      refine add_sh h fun r7 h => ?_
      refine we_n 3 ?_
      refine ch_sh2 h (fun Q h => lt_sh h fun _ h => h) (fun Q h => ?_) fun b8 h => ?_
      · refine we_n 0 ?_
        exact lt_sh h fun _ h => h
      refine ⟨_, rfl, ?_⟩
      exact h
    · refine we_one ?_
      refine we_cp (op_neA hr) ?_
      refine we_tuple ?_
      refine wa_d ?_
      refine we_n 2 ?_
      refine ⟨rfl, ?_⟩
      refine wa_d ?_
      refine we_n 3 ?_
      refine ⟨rfl, ?_⟩
      refine wa_nil ?_
      refine ⟨_, rfl, szOk rfl, ?_⟩
      refine we_tuple ?_
      refine wa_d ?_
      refine we_int ?_
      refine ⟨rfl, ?_⟩
      refine wa_d ?_
      refine we_sub ?_
      refine we_n 0 ?_
      refine we_int ?_
      refine sub_sh h fun r10 h => ?_
      refine ⟨rfl, ?_⟩
      refine wa_nil ?_
      refine ⟨_, rfl, szOk rfl, ?_⟩
      refine ne_sh h fun b11 h => ?_
      refine ⟨_, rfl, ?_⟩
      exact h
    exact ⟨_, rfl, h⟩
  exact ⟨rfl, _, hK _ h, trivial, rfl, rfl, rfl⟩
theorem ok_crossing (F : FnP K "crossing" s_crossing f fd) (hm : mg "crossing" = some (.ref f)) (hb : Binds K fd ["one", "other"] []) (m_len : mg "len" = none) :
    Has P w K mg base (k + 1) "crossing" ["one", "other"] c_crossing := by
  refine fn_has F hm sc_crossing hb rfl ?_
  rintro cdv A outer s H E g args Φ Ψ hr hp hM hl ⟨one, other, Kf, Ef, rfl, h, hK, hE⟩
  unfold f_crossing at h
  refine ws_env (env' := [.d one, .d other, .un, .un, .un, .un]) rfl ?_
  refine ws_cons (w1_unpack (pg_tup rfl (pgs_cons (pg_name (i := 2) sc_crossing.nd rfl (by first | exact Or.inl rfl | exact Or.inr rfl)) (pgs_cons (pg_name (i := 3) sc_crossing.nd rfl (by first | exact Or.inl rfl | exact Or.inr rfl)) pgs_nil))) (tgd_tup (tgds_cons (tgd_name 2) (tgds_cons (tgd_name 3) tgds_nil)) rfl) ?_)
  refine we_n 0 ?_
  obtain ⟨low1, high2, he3, h⟩ := un2_sh h
  refine ⟨rfl, [(2, low1), (3, high2)], (by rw [he3]; rfl), rfl, ?_⟩
  refine ws_env (env' := [.d one, .d other, .d low1, .d high2, .un, .un]) rfl ?_
  refine ws_cons (w1_setLc 4 (own := [("corner", 5)]) rfl sc_crossing.nd piS (blkOk_by (by rfl)) (fun _ _ _ _ _ => (pg_name (i := 5) sc_crossing.nd rfl (by first | exact Or.inl rfl | exact Or.inr rfl))) (by decide) (nt_lc (tgd_name 5) rfl ?_))
  refine wi_d ?_
  refine we_n 1 ?_
  refine ⟨rfl, it_sh h fun xs4 h => ?_⟩
  refine lcS h (fun corner5 kp sk h => ?_) fun l6 h => ?_
  · refine ⟨[(5, corner5)], rfl, rfl, fun g' s1 H1 C1 cl1 fp1 => ?_⟩
    show WT _ _ _ _ _ _
    refine wt_ww ?_
    refine ww_andS h (fun Q h => ?_) (fun Q h => ?_) fun b7 h => ?_
    · refine wt_cp (op_neA hr) ?_
      refine we_n 5 ?_
      refine we_n 2 ?_
      refine ne_sh h fun b8 h => ?_
      exact h
    · refine ww_and1 ?_
      refine wt_cp (op_neA hr) ?_
      refine we_n 5 ?_
      refine we_n 3 ?_
      refine ne_sh h fun b9 h => ?_
      exact h
    refine ⟨fun e s1 H1 C1 cl1 fp1 => ?_, h.2⟩
    replace h := h.1 e
    refine we_ch (op_ltA hr) (op_ltA hr) ?_
    refine we_n 2 ?_
    refine we_n 5 ?_
    refine ch_sh2 h (fun Q h => lt_sh h fun _ h => h) (fun Q h => ?_) fun b10 h => ?_
    · refine we_n 3 ?_
      exact lt_sh h fun _ h => h
    exact ⟨rfl, h⟩
  refine ws_env (env' := [.d one, .d other, .d low1, .d high2, .d (.list l6), .un]) rfl ?_
  refine ws_cons (w1_ret ?_)
  refine we_andS h (fun Q h => ?_) (fun Q h => ?_) fun b12 h => ?_
  · refine we_cp (op_eqA hr) ?_
    refine we_len m_len ?_
    refine we_n 4 ?_
    refine len_sh h fun r13 h => ?_
    refine we_int ?_
    refine eq_sh h fun b14 h => ?_
    refine ⟨_, rfl, ?_⟩
    exact h
  · refine we_one ?_
    refine we_cp (op_neA hr) ?_
    refine we_ix ?_
    refine we_n 4 ?_
    refine we_int ?_
    refine ix_sh h fun r15 h => ?_
    refine we_ix ?_
    refine we_n 4 ?_
    refine we_int ?_
    refine ix_sh h fun r16 h => ?_
    refine ne_sh h fun b17 h => ?_
    refine ⟨_, rfl, ?_⟩
    exact h
  exact ⟨rfl, _, hK _ h, trivial, rfl, rfl, rfl⟩
theorem ok_is_plan (F : FnP K "is_plan" s_is_plan f fd) (hm : mg "is_plan" = some (.ref f)) (hb : Binds K fd ["plan"] []) (g_LEAST : ∃ t, mg "LEAST" = some (.int 3 t)) (g_MOST : ∃ t, mg "MOST" = some (.int 40 t)) (m_len : mg "len" = none) (m_all : mg "all" = none) (h_is_cut : Has P w K mg base k "is_cut" ["faces", "cut"] c_is_cut) (m_range : mg "range" = none) (m_enumerate : mg "enumerate" = none) (m_any : mg "any" = none) (h_crossing : Has P w K mg base k "crossing" ["one", "other"] c_crossing) :
    Has P w K mg base (k + 1) "is_plan" ["plan"] c_is_plan := by
  refine fn_has F hm sc_is_plan hb rfl ?_
  rintro cdv A outer s H E g args Φ Ψ hr hp hM hl ⟨plan, Kf, Ef, rfl, h, hK, hE⟩
  unfold f_is_plan at h
  refine ws_env (env' := [.d plan, .un, .un, .un, .un, .un]) rfl ?_
  refine ws_cons (w1_unpack (pg_tup rfl (pgs_cons (pg_name (i := 1) sc_is_plan.nd rfl (by first | exact Or.inl rfl | exact Or.inr rfl)) (pgs_cons (pg_name (i := 2) sc_is_plan.nd rfl (by first | exact Or.inl rfl | exact Or.inr rfl)) pgs_nil))) (tgd_tup (tgds_cons (tgd_name 1) (tgds_cons (tgd_name 2) tgds_nil)) rfl) ?_)
  refine we_n 0 ?_
  obtain ⟨faces1, cuts2, he3, h⟩ := un2_sh h
  refine ⟨rfl, [(1, faces1), (2, cuts2)], (by rw [he3]; rfl), rfl, ?_⟩
  refine ws_env (env' := [.d plan, .d faces1, .d cuts2, .un, .un, .un]) rfl ?_
  refine ws_cons (w1_if ?_)
  refine wt_ww ?_
  refine ww_orS h (fun Q h => ?_) (fun Q h => ?_) fun b4 h => ?_
  · refine wt_not ?_
    refine wt_ch (op_leA hr) (op_leA hr) ?_
    refine we_gint g_LEAST ?_
    refine we_n 1 ?_
    refine ch_sh2 h (fun Q h => le_sh h fun _ h => h) (fun Q h => ?_) fun b5 h => ?_
    · refine we_gint g_MOST ?_
      exact le_sh h fun _ h => h
    exact h
  · refine ww_or1 ?_
    refine wt_cp (op_neA hr) ?_
    refine we_len m_len ?_
    refine we_n 2 ?_
    refine len_sh h fun r7 h => ?_
    refine we_sub ?_
    refine we_n 1 ?_
    refine we_int ?_
    refine sub_sh h fun r8 h => ?_
    refine ne_sh h fun b9 h => ?_
    exact h
  obtain ⟨h10, h11⟩ := h
  refine ⟨fun e12 => ?_, fun e12 => ?_⟩
  · replace h := h10 e12
    refine ws_cons (w1_ret ?_)
    refine we_bool ?_
    exact ⟨rfl, _, hK _ h, trivial, rfl, rfl⟩
  · replace h := h11 e12
    refine ws_nil ?_
    refine ws_cons (w1_if ?_)
    refine wt_not ?_
    refine wt_e ?_
    refine we_allA m_all rfl ?_
    refine we_of_wn ?_
    refine wn_lc (own := [("cut", 3)]) rfl sc_is_plan.nd (blkOk_by (by rfl)) (fun _ _ _ _ _ => (pg_name (i := 3) sc_is_plan.nd rfl (by first | exact Or.inl rfl | exact Or.inr rfl))) (tgd_name 3) (by decide) rfl ?_
    refine wi_d ?_
    refine we_n 2 ?_
    refine ⟨rfl, it_sh h fun xs13 h => ?_⟩
    refine lcS h (fun cut14 kp sk h => ?_) fun l15 h => ?_
    · refine ⟨[(3, cut14)], rfl, rfl, fun g' s1 H1 C1 cl1 fp1 => ?_⟩
      refine ⟨fun _ s1 H1 C1 cl1 fp1 => ?_, fun z => by cases z⟩
      refine we_call h_is_cut hr ?_
      refine wa_d ?_
      refine we_n 1 ?_
      refine ⟨rfl, ?_⟩
      refine wa_d ?_
      refine we_n 3 ?_
      refine ⟨rfl, ?_⟩
      refine wa_nil ?_
      refine ⟨rfl, _, _, _, _, rfl, h, fun r16 h => ⟨rfl, _, rfl, ?_⟩, fun c hc => ⟨rfl, hc.elim⟩⟩
      exact ⟨rfl, h⟩
    refine all_m h fun r17 h => ?_
    refine bool_sh h fun b18 h => ?_
    obtain ⟨h19, h20⟩ := h
    refine ⟨fun e21 => ?_, fun e21 => ?_⟩
    · replace h := h19 e21
      refine ws_cons (w1_ret ?_)
      refine we_bool ?_
      exact ⟨rfl, _, hK _ h, trivial, rfl, rfl⟩
    · replace h := h20 e21
      refine ws_nil ?_
      refine ws_cons (w1_for hp rfl (pg_name (i := 4) sc_is_plan.nd rfl (by first | exact Or.inl rfl | exact Or.inr rfl)) (tgd_name 4) ?_)
      refine wi_r2 m_range ?_
      refine we_int ?_
      refine we_len m_len ?_
      refine we_n 2 ?_
      refine len_sh h fun r23 h => ?_
      refine rng_sh h fun xs22 h => ?_
      refine forS h (fun (s : Unit) (u : Sl) => [.d plan, .d faces1, .d cuts2, .un, u, .un]) (.un) rfl ?_ ?_
      · rintro _ w24 h
        refine ws_env (env' := [.d plan, .d faces1, .d cuts2, .un, w24, .un]) rfl ?_
        refine ws_cons (w1_for hp rfl (pg_tup rfl (pgs_cons (pg_name (i := 4) sc_is_plan.nd rfl (by first | exact Or.inl rfl | exact Or.inr rfl)) (pgs_cons (pg_name (i := 3) sc_is_plan.nd rfl (by first | exact Or.inl rfl | exact Or.inr rfl)) pgs_nil))) (tgd_tup (tgds_cons (tgd_name 4) (tgds_cons (tgd_name 3) tgds_nil)) rfl) ?_)
        refine wi_en m_enumerate ?_
        refine we_n 2 ?_
        refine ⟨rfl, enu_sh h fun xs25 h => ?_⟩
        refine forS h (fun (s : Unit) (u : Sl × Sl) => [.d plan, .d faces1, .d cuts2, u.2, u.1, .un]) ((w24), (.un)) rfl ?_ ?_
        · rintro _ ⟨w26, w27⟩ h
          refine ws_env (env' := [.d plan, .d faces1, .d cuts2, w27, w26, .un]) rfl ?_
          refine ws_cons (w1_ret ?_)
          refine we_bool ?_
          exact ⟨rfl, _, hK _ h, trivial, rfl, rfl⟩
        · rintro hend p28 _ ⟨w31, w32⟩ N29 h
          obtain ⟨at_33, cut34, he35, h⟩ := un2_sh h
          refine ⟨[(4, at_33), (3, cut34)], (by rw [he35]; rfl), rfl, ?_⟩
          refine ws_env (env' := [.d plan, .d faces1, .d cuts2, .d cut34, .d at_33, .un]) rfl ?_
          refine ws_cons (w1_if ?_)
          refine wt_e ?_
          refine we_anyA m_any rfl ?_
          refine we_of_wn ?_
          refine wn_lc (own := [("other", 5)]) rfl sc_is_plan.nd (blkOk_by (by rfl)) (fun _ _ _ _ _ => (pg_name (i := 5) sc_is_plan.nd rfl (by first | exact Or.inl rfl | exact Or.inr rfl))) (tgd_name 5) (by decide) rfl ?_
          refine wi_d ?_
          refine we_slA ?_
          refine we_n 2 ?_
          refine ⟨rfl, ?_⟩
          refine wp_none ?_
          refine wp_e ?_
          refine we_n 4 ?_
          refine into_sh h fun i37 h => ?_
          refine sl_sh h fun r38 h => ?_
          refine ⟨rfl, it_sh h fun xs36 h => ?_⟩
          refine lcS h (fun other39 kp sk h => ?_) fun l40 h => ?_
          · refine ⟨[(5, other39)], rfl, rfl, fun g' s1 H1 C1 cl1 fp1 => ?_⟩
            refine ⟨fun _ s1 H1 C1 cl1 fp1 => ?_, fun z => by cases z⟩
            refine we_call h_crossing hr ?_
            refine wa_d ?_
            refine we_n 3 ?_
            refine ⟨rfl, ?_⟩
            refine wa_d ?_
            refine we_n 5 ?_
            refine ⟨rfl, ?_⟩
            refine wa_nil ?_
            refine ⟨rfl, _, _, _, _, rfl, h, fun r41 h => ⟨rfl, _, rfl, ?_⟩, fun c hc => ⟨rfl, hc.elim⟩⟩
            exact ⟨rfl, h⟩
          refine any_m h fun r42 h => ?_
          refine bool_sh h fun b43 h => ?_
          obtain ⟨h44, h45⟩ := h
          refine ⟨fun e46 => ?_, fun e46 => ?_⟩
          · replace h := h44 e46
            refine ws_cons (w1_ret ?_)
            refine we_bool ?_
            exact ⟨rfl, _, hK _ h, trivial, rfl, rfl⟩
          · replace h := h45 e46
            refine ws_nil ?_
            exact ws_nil ⟨(), ((.d at_33), (.d cut34)), h, rfl⟩
      · rintro hend at_47 _ w50 N48 h
        refine ⟨[(4, at_47)], rfl, rfl, ?_⟩
        refine ws_env (env' := [.d plan, .d faces1, .d cuts2, .un, .d at_47, .un]) rfl ?_
        refine ws_cons (w1_if ?_)
        refine wt_not ?_
        refine wt_cp (op_ltA hr) ?_
        refine we_ix ?_
        refine we_n 2 ?_
        refine we_sub ?_
        refine we_n 4 ?_
        refine we_int ?_
        refine sub_sh h fun r51 h => ?_
        refine ix_sh h fun r52 h => ?_
        refine we_ix ?_
        refine we_n 2 ?_
        refine we_n 4 ?_
        refine ix_sh h fun r53 h => ?_
        refine lt_sh h fun b54 h => ?_
        obtain ⟨h55, h56⟩ := h
        refine ⟨fun e57 => ?_, fun e57 => ?_⟩
        · replace h := h55 e57
          refine ws_cons (w1_ret ?_)
          refine we_bool ?_
          exact ⟨rfl, _, hK _ h, trivial, rfl, rfl⟩
        · replace h := h56 e57
          refine ws_nil ?_
          exact ws_nil ⟨(), (.d at_47), h, rfl⟩
theorem ok_need_plan (F : FnP K "need_plan" s_need_plan f fd) (hm : mg "need_plan" = some (.ref f)) (hb : Binds K fd ["plan"] []) (h_is_plan : Has P w K mg base k "is_plan" ["plan"] c_is_plan) (x_BadPlan : ExK K mg "BadPlan") :
    Has P w K mg base (k + 1) "need_plan" ["plan"] c_need_plan := by
  refine fn_has F hm sc_need_plan hb rfl ?_
  rintro cdv A outer s H E g args Φ Ψ hr hp hM hl ⟨plan, Kf, Ef, rfl, h, hK, hE⟩
  unfold f_need_plan at h
  refine ws_env (env' := [.d plan]) rfl ?_
  refine ws_cons (w1_if ?_)
  refine wt_not ?_
  refine wt_e ?_
  refine we_call h_is_plan hr ?_
  refine wa_d ?_
  refine we_n 0 ?_
  refine ⟨rfl, ?_⟩
  refine wa_nil ?_
  refine ⟨rfl, _, _, _, rfl, h, fun r1 h => ⟨rfl, _, rfl, ?_⟩, fun c hc => ⟨rfl, ⟨_, hE _ hc, rfl, rfl⟩⟩⟩
  refine bool_sh h fun b2 h => ?_
  obtain ⟨h3, h4⟩ := h
  refine ⟨fun e5 => ?_, fun e5 => ?_⟩
  · replace h := h3 e5
    exact ws_cons (w1_raise rfl x_BadPlan ⟨_, hE _ h, rfl, rfl⟩)
  · replace h := h4 e5
    refine ws_nil ?_
    exact ws_nil ⟨_, hK _ h, rfl, rfl⟩
theorem ok_pair_of (F : FnP K "pair_of" s_pair_of f fd) (hm : mg "pair_of" = some (.ref f)) (hb : Binds K fd ["one", "other"] []) (m_min : mg "min" = none) (m_max : mg "max" = none) :
    Has P w K mg base (k + 1) "pair_of" ["one", "other"] c_pair_of := by
  refine fn_has F hm sc_pair_of hb rfl ?_
  rintro cdv A outer s H E g args Φ Ψ hr hp hM hl ⟨one, other, Kf, Ef, rfl, h, hK, hE⟩
  unfold f_pair_of at h
  refine ws_env (env' := [.d one, .d other]) rfl ?_
  refine ws_cons (w1_ret ?_)
  refine we_tuple ?_
  refine wa_d ?_
  refine we_min2A m_min rfl ?_
  refine we_n 0 ?_
  refine we_n 1 ?_
  refine min2_m h fun r1 h => ?_
  refine ⟨rfl, ?_⟩
  refine wa_d ?_
  refine we_max2A m_max rfl ?_
  refine we_n 0 ?_
  refine we_n 1 ?_
  refine max2_m h fun r2 h => ?_
  refine ⟨rfl, ?_⟩
  refine wa_nil ?_
  refine ⟨_, rfl, szOk rfl, ?_⟩
  exact ⟨rfl, _, hK _ h, trivial, rfl, rfl, rfl⟩
theorem ok_follows (F : FnP K "follows" s_follows f fd) (hm : mg "follows" = some (.ref f)) (hb : Binds K fd ["faces", "face"] [])  :
    Has P w K mg base (k + 1) "follows" ["faces", "face"] c_follows := by
  refine fn_has F hm sc_follows hb rfl ?_
  rintro cdv A outer s H E g args Φ Ψ hr hp hM hl ⟨faces, face, Kf, Ef, rfl, h, hK, hE⟩
  unfold f_follows at h
  refine ws_env (env' := [.d faces, .d face]) rfl ?_
  refine ws_cons (w1_ret ?_)
  refine we_mod ?_
  refine we_add ?_
  refine we_n 1 ?_
  refine we_int ?_
  refine add_sh h fun r1 h => ?_
  refine we_n 0 ?_
  refine mod_sh h fun r2 h => ?_
  exact ⟨rfl, _, hK _ h, trivial, rfl, rfl, rfl⟩
theorem ok_all_lines (F : FnP K "all_lines" s_all_lines f fd) (hm : mg "all_lines" = some (.ref f)) (hb : Binds K fd ["plan"] []) (m_sorted : mg "sorted" = none) (m_range : mg "range" = none) (h_pair_of : Has P w K mg base k "pair_of" ["one", "other"] c_pair_of) (h_follows : Has P w K mg base k "follows" ["faces", "face"] c_follows) (m_list : mg "list" = none) :
    Has P w K mg base (k + 1) "all_lines" ["plan"] c_all_lines := by
  refine fn_has F hm sc_all_lines hb rfl ?_
  rintro cdv A outer s H E g args Φ Ψ hr hp hM hl ⟨plan, Kf, Ef, rfl, h, hK, hE⟩
  unfold f_all_lines at h
  refine ws_env (env' := [.d plan, .un, .un, .un]) rfl ?_
  refine ws_cons (w1_unpack (pg_tup rfl (pgs_cons (pg_name (i := 1) sc_all_lines.nd rfl (by first | exact Or.inl rfl | exact Or.inr rfl)) (pgs_cons (pg_name (i := 2) sc_all_lines.nd rfl (by first | exact Or.inl rfl | exact Or.inr rfl)) pgs_nil))) (tgd_tup (tgds_cons (tgd_name 1) (tgds_cons (tgd_name 2) tgds_nil)) rfl) ?_)
  refine we_n 0 ?_
  obtain ⟨faces1, cuts2, he3, h⟩ := un2_sh h
  refine ⟨rfl, [(1, faces1), (2, cuts2)], (by rw [he3]; rfl), rfl, ?_⟩
  refine ws_env (env' := [.d plan, .d faces1, .d cuts2, .un]) rfl ?_
  refine ws_cons (w1_retN ?_)
  refine wn_sortedA m_sorted hr ?_
  refine we_add ?_
  refine we_of_wn ?_
  refine wn_lc (own := [("face", 3)]) rfl sc_all_lines.nd (blkOk_by (by rfl)) (fun _ _ _ _ _ => (pg_name (i := 3) sc_all_lines.nd rfl (by first | exact Or.inl rfl | exact Or.inr rfl))) (tgd_name 3) (by decide) rfl ?_
  refine wi_r1 m_range ?_
  refine we_n 1 ?_
  refine rng_sh h fun xs4 h => ?_
  refine lcS h (fun face5 kp sk h => ?_) fun l6 h => ?_
  · refine ⟨[(3, face5)], rfl, rfl, fun g' s1 H1 C1 cl1 fp1 => ?_⟩
    refine ⟨fun _ s1 H1 C1 cl1 fp1 => ?_, fun z => by cases z⟩
    refine we_call h_pair_of hr ?_
    refine wa_d ?_
    refine we_n 3 ?_
    refine ⟨rfl, ?_⟩
    refine wa_d ?_
    refine we_call h_follows hr ?_
    refine wa_d ?_
    refine we_n 1 ?_
    refine ⟨rfl, ?_⟩
    refine wa_d ?_
    refine we_n 3 ?_
    refine ⟨rfl, ?_⟩
    refine wa_nil ?_
    refine ⟨rfl, _, _, _, _, rfl, h, fun r7 h => ⟨rfl, _, rfl, ?_⟩, fun c hc => ⟨rfl, hc.elim⟩⟩
    refine ⟨rfl, ?_⟩
    refine wa_nil ?_
    refine ⟨rfl, _, _, _, _, rfl, h, fun r8 h => ⟨rfl, _, rfl, ?_⟩, fun c hc => ⟨rfl, hc.elim⟩⟩
    exact ⟨rfl, h⟩
  refine we_of_wn ?_
  refine wn_listof m_list ?_
  refine we_n 2 ?_
  refine list_sh h fun l9 h => ?_
  refine add_sh h fun r10 h => ?_
  refine sort_m h fun l11 h => ?_
  exact ⟨_, hK _ h, trivial, rfl, rfl⟩
theorem ok_neighbours (F : FnP K "neighbours" s_neighbours f fd) (hm : mg "neighbours" = some (.ref f)) (hb : Binds K fd ["plan"] []) (m_range : mg "range" = none) (h_all_lines : Has P w K mg base k "all_lines" ["plan"] c_all_lines) (m_sorted : mg "sorted" = none) :
    Has P w K mg base (k + 1) "neighbours" ["plan"] c_neighbours := by
  refine fn_has F hm sc_neighbours hb rfl ?_
  rintro cdv A outer s H E g args Φ Ψ hr hp hM hl ⟨plan, Kf, Ef, rfl, h, hK, hE⟩
  unfold f_neighbours at h
  refine ws_env (env' := [.d plan, .un, .un, .un, .un, .un, .un, .un]) rfl ?_
  refine ws_cons (w1_unpack (pg_tup rfl (pgs_cons (pg_name (i := 1) sc_neighbours.nd rfl (by first | exact Or.inl rfl | exact Or.inr rfl)) (pgs_cons (pg_name (i := 2) sc_neighbours.nd rfl (by first | exact Or.inl rfl | exact Or.inr rfl)) pgs_nil))) (tgd_tup (tgds_cons (tgd_name 1) (tgds_cons (tgd_name 2) tgds_nil)) rfl) ?_)
  refine we_n 0 ?_
  obtain ⟨faces1, cuts2, he3, h⟩ := un2_sh h
  refine ⟨rfl, [(1, faces1), (2, cuts2)], (by rw [he3]; rfl), rfl, ?_⟩
  refine ws_env (env' := [.d plan, .d faces1, .d cuts2, .un, .un, .un, .un, .un]) rfl ?_
  refine ws_cons (w1_newOOc 3 (own := [("face", 4)]) rfl sc_neighbours.nd (blkOk_by (by rfl)) (fun _ _ _ _ _ => (pg_name (i := 4) sc_neighbours.nd rfl (by first | exact Or.inl rfl | exact Or.inr rfl))) (tgd_name 4) rfl ?_)
  refine wi_r1 m_range ?_
  refine we_n 1 ?_
  refine rng_sh h fun xs4 h => ?_
  refine ⟨fun x _ => ⟨_, rfl, rfl⟩, fun a5 as6 n_a5 hl7 => ?_⟩
  have hl8 : as6.length = (List.replicate xs4.length ([] : List PyData)).length := by rw [hl7, List.length_replicate]
  refine ws_env (env' := [.d plan, .d faces1, .d cuts2, ooS a5 as6 (List.replicate xs4.length ([] : List PyData)), .un, .un, .un, .un]) rfl ?_
  refine ws_cons (w1_for hp rfl (pg_tup rfl (pgs_cons (pg_name (i := 5) sc_neighbours.nd rfl (by first | exact Or.inl rfl | exact Or.inr rfl)) (pgs_cons (pg_name (i := 6) sc_neighbours.nd rfl (by first | exact Or.inl rfl | exact Or.inr rfl)) pgs_nil))) (tgd_tup (tgds_cons (tgd_name 5) (tgds_cons (tgd_name 6) tgds_nil)) rfl) ?_)
  refine wi_d ?_
  refine we_call h_all_lines hr ?_
  refine wa_d ?_
  refine we_n 0 ?_
  refine ⟨rfl, ?_⟩
  refine wa_nil ?_
  refine ⟨rfl, _, _, _, rfl, h, fun r10 h => ⟨rfl, _, rfl, ?_⟩, fun c hc => ⟨rfl, ⟨_, hE _ hc, rfl, rfl⟩⟩⟩
  refine ⟨rfl, it_sh h fun xs9 h => ?_⟩
  refine forSC h (fun (s : (List (List PyData))) (u : Sl × Sl) => [.d plan, .d faces1, .d cuts2, ooS a5 as6 s, .un, u.1, u.2, .un]) (fun (s : (List (List PyData))) (u : Sl × Sl) => as6.length = s.length) ((.un), (.un)) rfl hl8 ?_ ?_
  · rintro found11 ⟨w12, w13⟩ hc h
    refine ws_env (env' := [.d plan, .d faces1, .d cuts2, ooS a5 as6 found11, .un, w12, w13, .un]) rfl ?_
    refine ws_cons (w1_retN ?_)
    refine wn_lc (own := [("face", 4)]) rfl sc_neighbours.nd (blkOk_by (by rfl)) (fun _ _ _ _ _ => (pg_name (i := 4) sc_neighbours.nd rfl (by first | exact Or.inl rfl | exact Or.inr rfl))) (tgd_name 4) (by decide) rfl ?_
    refine wi_r1 m_range ?_
    refine we_n 1 ?_
    refine rng_sh h fun xs14 h => ?_
    refine lcS h (fun face15 kp sk h => ?_) fun l16 h => ?_
    · refine ⟨[(4, face15)], rfl, rfl, fun g' s1 H1 C1 cl1 fp1 => ?_⟩
      refine ⟨fun _ s1 H1 C1 cl1 fp1 => ?_, fun z => by cases z⟩
      refine we_of_wn ?_
      refine wn_lc (own := [("step", 7)]) rfl sc_neighbours.nd (blkOk_by (by rfl)) (fun _ _ _ _ _ => (pg_name (i := 7) sc_neighbours.nd rfl (by first | exact Or.inl rfl | exact Or.inr rfl))) (tgd_name 7) (by decide) rfl ?_
      refine wi_d ?_
      refine we_of_wn ?_
      refine wn_sortedA m_sorted hr ?_
      refine we_ixOO 3 hc ?_
      refine we_n 4 ?_
      refine row_m h fun l18 h => ?_
      refine sort_m h fun l19 h => ?_
      refine ⟨rfl, it_sh h fun xs17 h => ?_⟩
      refine lcS h (fun step20 kp sk h => ?_) fun l21 h => ?_
      · refine ⟨[(7, step20)], rfl, rfl, fun g' s1 H1 C1 cl1 fp1 => ?_⟩
        refine ⟨fun _ s1 H1 C1 cl1 fp1 => ?_, fun z => by cases z⟩
        refine we_mod ?_
        refine we_add ?_
        refine we_n 4 ?_
        refine we_n 7 ?_
        refine add_sh h fun r22 h => ?_
        refine we_n 1 ?_
        refine mod_sh h fun r23 h => ?_
        exact ⟨rfl, h⟩
      exact ⟨rfl, h⟩
    exact ⟨_, hK _ h, trivial, rfl, rfl⟩
  · rintro hend p24 found27 ⟨w28, w29⟩ N25 hc h
    obtain ⟨low30, high31, he32, h⟩ := un2_sh h
    refine ⟨[(5, low30), (6, high31)], (by rw [he32]; rfl), rfl, ?_⟩
    refine ws_env (env' := [.d plan, .d faces1, .d cuts2, ooS a5 as6 found27, .un, .d low30, .d high31, .un]) rfl ?_
    refine ws_cons (w1_appendOO 3 hc ?_)
    refine we_n 5 ?_
    refine row_m h fun l33 h => ?_
    refine we_mod ?_
    refine we_sub ?_
    refine we_n 6 ?_
    refine we_n 5 ?_
    refine sub_sh h fun r34 h => ?_
    refine we_n 1 ?_
    refine mod_sh h fun r35 h => ?_
    refine ⟨rfl, rowApp_m h fun rows36 hq37 h => ?_⟩
    have hl38 : as6.length = rows36.length := by rw [hq37]; exact hc
    refine ws_env (env' := [.d plan, .d faces1, .d cuts2, ooS a5 as6 rows36, .un, .d low30, .d high31, .un]) rfl ?_
    refine ws_cons (w1_appendOO 3 hl38 ?_)
    refine we_n 6 ?_
    refine row_m h fun l39 h => ?_
    refine we_mod ?_
    refine we_sub ?_
    refine we_n 5 ?_
    refine we_n 6 ?_
    refine sub_sh h fun r40 h => ?_
    refine we_n 1 ?_
    refine mod_sh h fun r41 h => ?_
    refine ⟨rfl, rowApp_m h fun rows42 hq43 h => ?_⟩
    have hl44 : as6.length = rows42.length := by rw [hq43]; exact hl38
    refine ws_env (env' := [.d plan, .d faces1, .d cuts2, ooS a5 as6 rows42, .un, .d low30, .d high31, .un]) rfl ?_
    exact ws_nil ⟨rows42, ((.d low30), (.d high31)), h, hl44, rfl⟩
theorem ok_fan (F : FnP K "fan" s_fan f fd) (hm : mg "fan" = some (.ref f)) (hb : Binds K fd ["plan", "face"] []) (h_need_plan : Has P w K mg base k "need_plan" ["plan"] c_need_plan) (x_BadFace : ExK K mg "BadFace") (h_neighbours : Has P w K mg base k "neighbours" ["plan"] c_neighbours) :
    Has P w K mg base (k + 1) "fan" ["plan", "face"] c_fan := by
  refine fn_has F hm sc_fan hb rfl ?_
  rintro cdv A outer s H E g args Φ Ψ hr hp hM hl ⟨plan, face, Kf, Ef, rfl, h, hK, hE⟩
  unfold f_fan at h
  refine ws_env (env' := [.d plan, .d face]) rfl ?_
  refine ws_cons (w1_expr ?_)
  refine we_call h_need_plan hr ?_
  refine wa_d ?_
  refine we_n 0 ?_
  refine ⟨rfl, ?_⟩
  refine wa_nil ?_
  refine ⟨rfl, _, _, _, rfl, h, fun r1 h => ⟨rfl, _, rfl, ?_⟩, fun c hc => ⟨rfl, ⟨_, hE _ hc, rfl, rfl, rfl⟩⟩⟩
  refine ws_cons (w1_if ?_)
  refine wt_not ?_
  refine wt_ch (op_leA hr) (op_ltA hr) ?_
  refine we_int ?_
  refine we_n 1 ?_
  refine ch_sh2 h (fun Q h => le_sh h fun _ h => h) (fun Q h => ?_) fun b2 h => ?_
  · refine we_ix ?_
    refine we_n 0 ?_
    refine we_int ?_
    refine ix_sh h fun r4 h => ?_
    exact lt_sh h fun _ h => h
  obtain ⟨h5, h6⟩ := h
  refine ⟨fun e7 => ?_, fun e7 => ?_⟩
  · replace h := h5 e7
    exact ws_cons (w1_raise rfl x_BadFace ⟨_, hE _ h, rfl, rfl, rfl⟩)
  · replace h := h6 e7
    refine ws_nil ?_
    refine ws_cons (w1_ret ?_)
    refine we_ix ?_
    refine we_call h_neighbours hr ?_
    refine wa_d ?_
    refine we_n 0 ?_
    refine ⟨rfl, ?_⟩
    refine wa_nil ?_
    refine ⟨rfl, _, _, _, rfl, h, fun r8 h => ⟨rfl, _, rfl, ?_⟩, fun c hc => ⟨rfl, ⟨_, hE _ hc, rfl, rfl, rfl⟩⟩⟩
    refine we_n 1 ?_
    refine ix_sh h fun r9 h => ?_
    exact ⟨rfl, _, hK _ h, trivial, rfl, rfl, rfl⟩
theorem ok__law_whole (F : FnP K "_law_whole" s__law_whole f fd) (hm : mg "_law_whole" = some (.ref f)) (hb : Binds K fd ["_law_found"] []) (m_isinstance : mg "isinstance" = none) (m_int : mg "int" = none) (m_bool : mg "bool" = none) :
    Has P w K mg base (k + 1) "_law_whole" ["_law_found"] c__law_whole := by
  refine fn_has F hm sc__law_whole hb rfl ?_
  rintro cdv A outer s H E g args Φ Ψ hr hp hM hl ⟨l_found, Kf, Ef, rfl, h, hK, hE⟩
  unfold f__law_whole at h
  refine ws_env (env' := [.d l_found]) rfl ?_
  refine ws_cons (w1_ret ?_)
  refine we_andS h (fun Q h => ?_) (fun Q h => ?_) fun b1 h => ?_
  · refine we_isi "int" m_isinstance m_int ?_
    refine we_n 0 ?_
    refine ⟨_, rfl, ?_⟩
    exact h
  · refine we_one ?_
    refine we_not ?_
    refine we_isi "bool" m_isinstance m_bool ?_
    refine we_n 0 ?_
    refine ⟨_, rfl, ?_⟩
    refine ⟨_, rfl, ?_⟩
    exact h
  exact ⟨rfl, _, hK _ h, trivial, rfl, rfl⟩
theorem ok_o__law_whole (F : FnP K "_law_whole" s__law_whole f fd) (hm : mg "_law_whole" = some (.ref f)) (hb : Binds K fd ["_law_found"] []) (m_isinstance : mg "isinstance" = none) (m_int : mg "int" = none) (m_bool : mg "bool" = none) :
    Has P w K mg base (k + 1) "_law_whole" ["_law_found"] o__law_whole := by
  refine fn_has F hm sc__law_whole hb rfl ?_
  rintro cdv A outer s H E g args Φ Ψ hr hp hM hl ⟨d, rfl, hΦ⟩
  refine ws_cons (w1_ret ?_)
  refine we_and ?_
  refine we_isi "int" m_isinstance m_int ?_
  refine we_n 0 ?_
  refine ⟨_, rfl, fun b1 => ?_, fun b1 => by rw [b1] at hΦ; exact ⟨rfl, _, hΦ, trivial, rfl, rfl⟩⟩
  rw [b1, Bool.true_and] at hΦ
  refine we_one ?_
  refine we_not ?_
  refine we_isi "bool" m_isinstance m_bool ?_
  refine we_n 0 ?_
  refine ⟨_, rfl, ?_⟩
  exact ⟨rfl, _, hΦ, trivial, rfl, rfl⟩

--@ args=0 8 level=10
theorem ok_o__law_alike (F : FnP K "_law_alike" s__law_alike f fd) (hm : mg "_law_alike" = some (.ref f)) (hb : Binds K fd ["_law_found", "_law_due"] []) (m_isinstance : mg "isinstance" = none) (m_bool : mg "bool" = none) (m_int : mg "int" = none) (m_str : mg "str" = none) (m_all : mg "all" = none) (ho__law_whole : Has P w K mg base 1 "_law_whole" ["_law_found"] o__law_whole) (m_list : mg "list" = none) (m_tuple : mg "tuple" = none) (m_len : mg "len" = none) (m_range : mg "range" = none) (k0 : Nat) :
    ∀ N : Nat, Has P w K mg base (k0 + N + 2) "_law_alike" ["_law_found", "_law_due"] (o__law_alike N) := by
  intro N
  induction N with
  | zero => ?_
  | succ N ih => ?_
  all_goals
    refine fn_has F hm sc__law_alike hb rfl ?_
    rintro cdv A outer s H E g args Φ Ψ hr hp hM hl ⟨x, rfl, hok, hΦ⟩
    have ret : ∀ b : Bool, b = true → ∀ x2 : Sl, (endOf [.d x, .d x] Φ Ψ).rt (.rd (.bool b)) [.d x, .d x, x2] := fun b h x2 => by rw [h]; exact ⟨_, hΦ, trivial, rfl, rfl, rfl⟩
    cases x with
    | dict kvs => cases hok
    | none =>
      refine ws_cons (w1_if ?_)
      refine wt_cp op_isN ?_
      refine we_n 1 ?_
      refine we_none ?_
      refine ⟨_, cp_isN, fun _ => ?_, fun b => (by cases b)⟩
      refine ws_cons (w1_ret ?_)
      refine we_cp op_isN ?_
      refine we_n 0 ?_
      refine we_none ?_
      exact ⟨_, cp_isN, rfl, ret _ rfl _⟩
    | bool v =>
      refine ws_cons (w1_if ?_)
      refine wt_cp op_isN ?_
      refine we_n 1 ?_
      refine we_none ?_
      refine ⟨_, cp_isN, fun b => (by cases b), fun _ => ws_nil ?_⟩
      refine ws_cons (w1_if ?_)
      refine wt_e ?_
      refine we_isi "bool" m_isinstance m_bool ?_
      refine we_n 1 ?_
      refine ⟨_, rfl, ?_⟩
      rw [ti_bool_bool]
      refine ⟨fun _ => ?_, fun b => (by cases b)⟩
      refine ws_cons (w1_ret ?_)
      refine we_and ?_
      refine we_isi "bool" m_isinstance m_bool ?_
      refine we_n 0 ?_
      rw [ti_bool_bool]
      refine ⟨_, rfl, fun _ => ?_, fun b => (by cases b)⟩
      refine we_one ?_
      refine we_cp (op_eqA hr) ?_
      refine we_n 0 ?_
      refine we_n 1 ?_
      exact ⟨_, cp_eqB, rfl, ret _ (decide_eq_true rfl) _⟩
    | int v =>
      refine ws_cons (w1_if ?_)
      refine wt_cp op_isN ?_
      refine we_n 1 ?_
      refine we_none ?_
      refine ⟨_, cp_isN, fun b => (by cases b), fun _ => ws_nil ?_⟩
      refine ws_cons (w1_if ?_)
      refine wt_e ?_
      refine we_isi "bool" m_isinstance m_bool ?_
      refine we_n 1 ?_
      refine ⟨_, rfl, ?_⟩
      rw [ti_int_bool]
      refine ⟨fun b => (by cases b), fun _ => ws_nil ?_⟩
      refine ws_cons (w1_if ?_)
      refine wt_e ?_
      refine we_isi "int" m_isinstance m_int ?_
      refine we_n 1 ?_
      refine ⟨_, rfl, ?_⟩
      rw [ti_int_int]
      refine ⟨fun _ => ?_, fun b => (by cases b)⟩
      refine ws_cons (w1_ret ?_)
      refine we_and ?_
      refine we_call ho__law_whole hr ?_
      refine wa_d ?_
      refine we_n 0 ?_
      refine ⟨rfl, ?_⟩
      refine wa_nil ?_
      refine ⟨rfl, _, rfl, rfl, _, rfl, ?_⟩
      rw [ti_int_int, ti_int_bool]
      refine ⟨_, rfl, fun _ => ?_, fun b => (by cases b)⟩
      refine we_one ?_
      refine we_cp (op_eqA hr) ?_
      refine we_n 0 ?_
      refine we_n 1 ?_
      exact ⟨_, cp_eqI, rfl, ret _ (decide_eq_true rfl) _⟩
    | str v =>
      refine ws_cons (w1_if ?_)
      refine wt_cp op_isN ?_
      refine we_n 1 ?_
      refine we_none ?_
      refine ⟨_, cp_isN, fun b => (by cases b), fun _ => ws_nil ?_⟩
      refine ws_cons (w1_if ?_)
      refine wt_e ?_
      refine we_isi "bool" m_isinstance m_bool ?_
      refine we_n 1 ?_
      refine ⟨_, rfl, ?_⟩
      rw [ti_str_bool]
      refine ⟨fun b => (by cases b), fun _ => ws_nil ?_⟩
      refine ws_cons (w1_if ?_)
      refine wt_e ?_
      refine we_isi "int" m_isinstance m_int ?_
      refine we_n 1 ?_
      refine ⟨_, rfl, ?_⟩
      rw [ti_str_int]
      refine ⟨fun b => (by cases b), fun _ => ws_nil ?_⟩
      refine ws_cons (w1_if ?_)
      refine wt_e ?_
      refine we_isi "str" m_isinstance m_str ?_
      refine we_n 1 ?_
      refine ⟨_, rfl, ?_⟩
      rw [ti_str_str]
      refine ⟨fun _ => ?_, fun b => (by cases b)⟩
      refine ws_cons (w1_ret ?_)
      refine we_and ?_
      refine we_isi "str" m_isinstance m_str ?_
      refine we_n 0 ?_
      rw [ti_str_str]
      refine ⟨_, rfl, fun _ => ?_, fun b => (by cases b)⟩
      refine we_one ?_
      refine we_cp (op_eqA hr) ?_
      refine we_n 0 ?_
      refine we_n 1 ?_
      exact ⟨_, cp_eqS, rfl, ret _ (decide_eq_true rfl) _⟩
    | list v =>
      first
        | (cases hok; done)
        | skip
          refine ws_cons (w1_if ?_)
          refine wt_cp op_isN ?_
          refine we_n 1 ?_
          refine we_none ?_
          refine ⟨_, cp_isN, fun b => (by cases b), fun _ => ws_nil ?_⟩
          refine ws_cons (w1_if ?_)
          refine wt_e ?_
          refine we_isi "bool" m_isinstance m_bool ?_
          refine we_n 1 ?_
          refine ⟨_, rfl, ?_⟩
          rw [ti_list_bool]
          refine ⟨fun b => (by cases b), fun _ => ws_nil ?_⟩
          refine ws_cons (w1_if ?_)
          refine wt_e ?_
          refine we_isi "int" m_isinstance m_int ?_
          refine we_n 1 ?_
          refine ⟨_, rfl, ?_⟩
          rw [ti_list_int]
          refine ⟨fun b => (by cases b), fun _ => ws_nil ?_⟩
          refine ws_cons (w1_if ?_)
          refine wt_e ?_
          refine we_isi "str" m_isinstance m_str ?_
          refine we_n 1 ?_
          refine ⟨_, rfl, ?_⟩
          rw [ti_list_str]
          refine ⟨fun b => (by cases b), fun _ => ws_nil ?_⟩
          refine ws_cons (w1_if ?_)
          refine wt_ww ?_
          refine ww_or ?_
          refine wt_cp (op_neA hr) ?_
          refine we_isi "list" m_isinstance m_list ?_
          refine we_n 1 ?_
          refine we_isi "list" m_isinstance m_list ?_
          refine we_n 0 ?_
          refine ⟨_, cp_neB, ?_⟩
          rw [ne_b]
          refine ⟨fun b => (by cases b), fun _ => ?_⟩
          refine ww_or1 ?_
          refine wt_cp (op_neA hr) ?_
          refine we_isi "tuple" m_isinstance m_tuple ?_
          refine we_n 1 ?_
          refine we_isi "tuple" m_isinstance m_tuple ?_
          refine we_n 0 ?_
          refine ⟨_, cp_neB, ?_⟩
          rw [ne_b]
          refine ⟨fun b => (by cases b), fun _ => ws_nil ?_⟩
          refine ws_cons (w1_if ?_)
          refine wt_ww ?_
          refine ww_or ?_
          refine wt_not ?_
          refine wt_e ?_
          refine we_isiLT m_isinstance m_list m_tuple ?_
          refine we_n 0 ?_
          refine ⟨_, rfl, ?_⟩
          rw [ti_list_list, ti_list_tuple]
          refine ⟨fun b => (by cases b), fun _ => ?_⟩
          refine ww_or1 ?_
          refine wt_cp (op_neA hr) ?_
          refine we_len m_len ?_
          refine we_n 0 ?_
          refine .lst ?_
          refine we_len m_len ?_
          refine we_n 1 ?_
          refine .lst ?_
          refine ⟨_, cp_neI, ?_⟩
          rw [decide_eq_true rfl]
          refine ⟨fun b => (by cases b), fun _ => ws_nil ?_⟩
          have hok1 := Bool.and_eq_true_iff.mp hok
          have hsz := of_decide_eq_true hok1.1
          refine ws_cons (w1_ret ?_)
          refine we_all m_all rfl ?_
          refine we_of_wn ?_
          refine wn_lcR1 m_range (own := [("_law_at", 2)]) rfl sc__law_alike.nd (blkOk_by (by rfl)) (fun _ _ _ _ _ => (pg_name (i := 2) sc__law_alike.nd rfl (by first | exact Or.inl rfl | exact Or.inr rfl))) (tgd_name 2) (by decide) rfl ?_
          refine we_len m_len ?_
          refine we_n 1 ?_
          refine .lst ?_
          refine ⟨_, fun i acc => acc = (List.replicate i true).map .bool, rfl, by omega, rfl, fun i hi => ⟨_, rfl, rfl, ?_⟩, fun acc ha => ?_⟩
          · intro acc ha g1 s1 H1 C1 cl1 fp1
            refine ⟨fun _ s1 H1 C1 cl1 fp1 => ?_, fun z => by cases z⟩
            have hi2 : i < v.length := by omega
            refine we_call ih hr ?_
            refine wa_d ?_
            refine we_ix ?_
            refine we_n 0 ?_
            refine we_n 2 ?_
            refine ix_lst (x := v[i]) (by omega) (by simp [hi2]) ?_
            refine ⟨rfl, ?_⟩
            refine wa_d ?_
            refine we_ix ?_
            refine we_n 1 ?_
            refine we_n 2 ?_
            refine ix_lst (x := v[i]) (by omega) (by simp [hi2]) ?_
            refine ⟨rfl, ?_⟩
            refine wa_nil ?_
            refine ⟨rfl, v[i], rfl, List.all_eq_true.mp hok1.2 _ (List.getElem_mem hi2), rfl, _, rfl, ?_⟩
            refine ⟨rfl, ?_⟩
            subst ha
            show _ = _
            rw [List.replicate_succ', List.map_append]
            rfl
          · subst ha
            refine ⟨List.replicate v.length true, by simp, ?_⟩
            exact ⟨rfl, ret _ (by simp) _⟩
    | tuple v =>
      first
        | (cases hok; done)
        | skip
          refine ws_cons (w1_if ?_)
          refine wt_cp op_isN ?_
          refine we_n 1 ?_
          refine we_none ?_
          refine ⟨_, cp_isN, fun b => (by cases b), fun _ => ws_nil ?_⟩
          refine ws_cons (w1_if ?_)
          refine wt_e ?_
          refine we_isi "bool" m_isinstance m_bool ?_
          refine we_n 1 ?_
          refine ⟨_, rfl, ?_⟩
          rw [ti_tuple_bool]
          refine ⟨fun b => (by cases b), fun _ => ws_nil ?_⟩
          refine ws_cons (w1_if ?_)
          refine wt_e ?_
          refine we_isi "int" m_isinstance m_int ?_
          refine we_n 1 ?_
          refine ⟨_, rfl, ?_⟩
          rw [ti_tuple_int]
          refine ⟨fun b => (by cases b), fun _ => ws_nil ?_⟩
          refine ws_cons (w1_if ?_)
          refine wt_e ?_
          refine we_isi "str" m_isinstance m_str ?_
          refine we_n 1 ?_
          refine ⟨_, rfl, ?_⟩
          rw [ti_tuple_str]
          refine ⟨fun b => (by cases b), fun _ => ws_nil ?_⟩
          refine ws_cons (w1_if ?_)
          refine wt_ww ?_
          refine ww_or ?_
          refine wt_cp (op_neA hr) ?_
          refine we_isi "list" m_isinstance m_list ?_
          refine we_n 1 ?_
          refine we_isi "list" m_isinstance m_list ?_
          refine we_n 0 ?_
          refine ⟨_, cp_neB, ?_⟩
          rw [ne_b]
          refine ⟨fun b => (by cases b), fun _ => ?_⟩
          refine ww_or1 ?_
          refine wt_cp (op_neA hr) ?_
          refine we_isi "tuple" m_isinstance m_tuple ?_
          refine we_n 1 ?_
          refine we_isi "tuple" m_isinstance m_tuple ?_
          refine we_n 0 ?_
          refine ⟨_, cp_neB, ?_⟩
          rw [ne_b]
          refine ⟨fun b => (by cases b), fun _ => ws_nil ?_⟩
          refine ws_cons (w1_if ?_)
          refine wt_ww ?_
          refine ww_or ?_
          refine wt_not ?_
          refine wt_e ?_
          refine we_isiLT m_isinstance m_list m_tuple ?_
          refine we_n 0 ?_
          refine ⟨_, rfl, ?_⟩
          rw [ti_tuple_list, ti_tuple_tuple]
          refine ⟨fun b => (by cases b), fun _ => ?_⟩
          refine ww_or1 ?_
          refine wt_cp (op_neA hr) ?_
          refine we_len m_len ?_
          refine we_n 0 ?_
          refine .tup ?_
          refine we_len m_len ?_
          refine we_n 1 ?_
          refine .tup ?_
          refine ⟨_, cp_neI, ?_⟩
          rw [decide_eq_true rfl]
          refine ⟨fun b => (by cases b), fun _ => ws_nil ?_⟩
          have hok1 := Bool.and_eq_true_iff.mp hok
          have hsz := of_decide_eq_true hok1.1
          refine ws_cons (w1_ret ?_)
          refine we_all m_all rfl ?_
          refine we_of_wn ?_
          refine wn_lcR1 m_range (own := [("_law_at", 2)]) rfl sc__law_alike.nd (blkOk_by (by rfl)) (fun _ _ _ _ _ => (pg_name (i := 2) sc__law_alike.nd rfl (by first | exact Or.inl rfl | exact Or.inr rfl))) (tgd_name 2) (by decide) rfl ?_
          refine we_len m_len ?_
          refine we_n 1 ?_
          refine .tup ?_
          refine ⟨_, fun i acc => acc = (List.replicate i true).map .bool, rfl, by omega, rfl, fun i hi => ⟨_, rfl, rfl, ?_⟩, fun acc ha => ?_⟩
          · intro acc ha g1 s1 H1 C1 cl1 fp1
            refine ⟨fun _ s1 H1 C1 cl1 fp1 => ?_, fun z => by cases z⟩
            have hi2 : i < v.length := by omega
            refine we_call ih hr ?_
            refine wa_d ?_
            refine we_ix ?_
            refine we_n 0 ?_
            refine we_n 2 ?_
            refine ix_tup (x := v[i]) (by omega) (by simp [hi2]) ?_
            refine ⟨rfl, ?_⟩
            refine wa_d ?_
            refine we_ix ?_
            refine we_n 1 ?_
            refine we_n 2 ?_
            refine ix_tup (x := v[i]) (by omega) (by simp [hi2]) ?_
            refine ⟨rfl, ?_⟩
            refine wa_nil ?_
            refine ⟨rfl, v[i], rfl, List.all_eq_true.mp hok1.2 _ (List.getElem_mem hi2), rfl, _, rfl, ?_⟩
            refine ⟨rfl, ?_⟩
            subst ha
            show _ = _
            rw [List.replicate_succ', List.map_append]
            rfl
          · subst ha
            refine ⟨List.replicate v.length true, by simp, ?_⟩
            exact ⟨rfl, ret _ (by simp) _⟩
theorem ok__law_alike (h : Has P w K mg base k "_law_alike" ["_law_found", "_law_due"] (o__law_alike 8)) : Has P w K mg base k "_law_alike" ["_law_found", "_law_due"] c__law_alike := h.imp fun args Φ Ψ ⟨x, y, Kf, Ef, e, hf, h1, h2⟩ => by
  subst e
  obtain ⟨rfl, hx, hk⟩ := hf
  exact ⟨x, rfl, hx, h1 _ hk⟩

theorem ok__law_fan_word (F : FnP K "_law_fan_word" s__law_fan_word f fd) (hm : mg "_law_fan_word" = some (.ref f)) (hb : Binds K fd ["_law_plan_here", "_law_face"] []) (h_fan : Has P w K mg base k "fan" ["plan", "face"] c_fan) (xg_BadFace : mg "BadFace" = some (.ref (He.ga K "BadFace"))) (xm_BadFace : ∀ m ∈ (["BadPlan", "BadFace"] : List Str), ExM K (.own m) "BadFace" = some (isE m "BadFace")) (xg_PinchError : mg "PinchError" = some (.ref (He.ga K "PinchError"))) (xm_PinchError : ∀ m ∈ (["BadPlan", "BadFace"] : List Str), ExM K (.own m) "PinchError" = some (isE m "PinchError")) :
    Has P w K mg base (k + 1) "_law_fan_word" ["_law_plan_here", "_law_face"] c__law_fan_word := by
  refine fn_has F hm sc__law_fan_word hb rfl ?_
  rintro cdv A outer s H E g args Φ Ψ hr hp hM hl ⟨l_plan_here, l_face, Kf, Ef, rfl, h, hK, hE⟩
  unfold f__law_fan_word at h
  refine ws_env (env' := [.d l_plan_here, .d l_face, .un]) rfl ?_
  refine ws_cons (w1_set 2 sc__law_fan_word.nd ?_)
  refine we_str ?_
  refine ⟨rfl, ?_⟩
  refine ws_env (env' := [.d l_plan_here, .d l_face, .d (.str "told")]) rfl ?_
  refine ws_joinS h (fun (s : PyData) (u : Unit) => [.d l_plan_here, .d l_face, .d s]) (fun Q h => ?_) ?_
  · refine w1_tryS h (.cons ⟨rfl, rfl, Or.inl xg_BadFace⟩ (.cons ⟨rfl, rfl, Or.inl xg_PinchError⟩ .nil)) (fun m1 hm2 h => ?_) (fun h pn3 xe4 F5 hp => ?_)
    · obtain ⟨h6, h7⟩ := h
      refine ⟨_, xm_BadFace m1 hm2, fun e8 a9 q10 pn11 => ?_, fun e8 => ?_⟩
      · replace h := h6 e8
        refine ws_cons (w1_set 2 sc__law_fan_word.nd ?_)
        refine we_str ?_
        refine ⟨rfl, ?_⟩
        refine ws_env (env' := [.d l_plan_here, .d l_face, .d (.str "BadFace")]) rfl ?_
        exact ws_nil ⟨(.str "BadFace"), (), h, rfl⟩
      replace h := h7 e8
      obtain ⟨h12, h13⟩ := h
      refine ⟨_, xm_PinchError m1 hm2, fun e14 a15 q16 pn17 => ?_, fun e14 => ?_⟩
      · replace h := h12 e14
        refine ws_cons (w1_set 2 sc__law_fan_word.nd ?_)
        refine we_str ?_
        refine ⟨rfl, ?_⟩
        refine ws_env (env' := [.d l_plan_here, .d l_face, .d (.str "other")]) rfl ?_
        exact ws_nil ⟨(.str "other"), (), h, rfl⟩
      replace h := h13 e14
      exact ⟨_, hE _ h, rfl, rfl, rfl⟩
    · refine ws_cons (w1_expr ?_)
      refine we_call h_fan hr ?_
      refine wa_d ?_
      refine we_n 0 ?_
      refine ⟨rfl, ?_⟩
      refine wa_d ?_
      refine we_n 1 ?_
      refine ⟨rfl, ?_⟩
      refine wa_nil ?_
      refine ⟨rfl, _, _, _, _, rfl, h, fun r19 h => ⟨rfl, _, rfl, ?_⟩, fun c hc => ⟨rfl, ⟨hc, rfl⟩⟩⟩
      exact ws_nil ⟨(.str "told"), (), h, rfl⟩
  · rintro l_word20 _ h
    refine ws_env (env' := [.d l_plan_here, .d l_face, .d l_word20]) rfl ?_
    refine ws_cons (w1_ret ?_)
    refine we_n 2 ?_
    exact ⟨rfl, _, hK _ h, trivial, rfl, rfl, rfl⟩
def w_neighbours : CT := fun args Φ Ψ => ∃ (plan : PyData) (K : KL) (E : KX), args = [.d plan] ∧ f_neighbours plan K E ∧ (∀ r, K r → Φ (.sl (IsNest (.list r))) args) ∧ ∀ c, E c → Ψ c args
theorem ok_w_neighbours (F : FnP K "neighbours" s_neighbours f fd) (hm : mg "neighbours" = some (.ref f)) (hb : Binds K fd ["plan"] []) (m_range : mg "range" = none) (h_all_lines : Has P w K mg base k "all_lines" ["plan"] c_all_lines) (m_sorted : mg "sorted" = none) :
    Has P w K mg base (k + 1) "neighbours" ["plan"] w_neighbours := by
  refine fn_has F hm sc_neighbours hb rfl ?_
  rintro cdv A outer s H E g args Φ Ψ hr hp hM hl ⟨plan, Kf, Ef, rfl, h, hK, hE⟩
  unfold f_neighbours at h
  refine ws_env (env' := [.d plan, .un, .un, .un, .un, .un, .un, .un]) rfl ?_
  refine ws_cons (w1_unpack (pg_tup rfl (pgs_cons (pg_name (i := 1) sc_neighbours.nd rfl (by first | exact Or.inl rfl | exact Or.inr rfl)) (pgs_cons (pg_name (i := 2) sc_neighbours.nd rfl (by first | exact Or.inl rfl | exact Or.inr rfl)) pgs_nil))) (tgd_tup (tgds_cons (tgd_name 1) (tgds_cons (tgd_name 2) tgds_nil)) rfl) ?_)
  refine we_n 0 ?_
  obtain ⟨faces1, cuts2, he3, h⟩ := un2_sh h
  refine ⟨rfl, [(1, faces1), (2, cuts2)], (by rw [he3]; rfl), rfl, ?_⟩
  refine ws_env (env' := [.d plan, .d faces1, .d cuts2, .un, .un, .un, .un, .un]) rfl ?_
  refine ws_cons (w1_newOOc 3 (own := [("face", 4)]) rfl sc_neighbours.nd (blkOk_by (by rfl)) (fun _ _ _ _ _ => (pg_name (i := 4) sc_neighbours.nd rfl (by first | exact Or.inl rfl | exact Or.inr rfl))) (tgd_name 4) rfl ?_)
  refine wi_r1 m_range ?_
  refine we_n 1 ?_
  refine rng_sh h fun xs4 h => ?_
  refine ⟨fun x _ => ⟨_, rfl, rfl⟩, fun a5 as6 n_a5 hl7 => ?_⟩
  have hl8 : as6.length = (List.replicate xs4.length ([] : List PyData)).length := by rw [hl7, List.length_replicate]
  refine ws_env (env' := [.d plan, .d faces1, .d cuts2, ooS a5 as6 (List.replicate xs4.length ([] : List PyData)), .un, .un, .un, .un]) rfl ?_
  refine ws_cons (w1_for hp rfl (pg_tup rfl (pgs_cons (pg_name (i := 5) sc_neighbours.nd rfl (by first | exact Or.inl rfl | exact Or.inr rfl)) (pgs_cons (pg_name (i := 6) sc_neighbours.nd rfl (by first | exact Or.inl rfl | exact Or.inr rfl)) pgs_nil))) (tgd_tup (tgds_cons (tgd_name 5) (tgds_cons (tgd_name 6) tgds_nil)) rfl) ?_)
  refine wi_d ?_
  refine we_call h_all_lines hr ?_
  refine wa_d ?_
  refine we_n 0 ?_
  refine ⟨rfl, ?_⟩
  refine wa_nil ?_
  refine ⟨rfl, _, _, _, rfl, h, fun r10 h => ⟨rfl, _, rfl, ?_⟩, fun c hc => ⟨rfl, ⟨_, hE _ hc, rfl, rfl⟩⟩⟩
  refine ⟨rfl, it_sh h fun xs9 h => ?_⟩
  refine forSC h (fun (s : (List (List PyData))) (u : Sl × Sl) => [.d plan, .d faces1, .d cuts2, ooS a5 as6 s, .un, u.1, u.2, .un]) (fun (s : (List (List PyData))) (u : Sl × Sl) => as6.length = s.length) ((.un), (.un)) rfl hl8 ?_ ?_
  · rintro found11 ⟨w12, w13⟩ hc h
    refine ws_env (env' := [.d plan, .d faces1, .d cuts2, ooS a5 as6 found11, .un, w12, w13, .un]) rfl ?_
    refine ws_cons (w1_retE ?_)
    refine wo_lcN (own := [("face", 4)]) rfl sc_neighbours.nd (blkOk_by (by rfl)) (fun _ _ _ _ _ => (pg_name (i := 4) sc_neighbours.nd rfl (by first | exact Or.inl rfl | exact Or.inr rfl))) (tgd_name 4) rfl ?_
    refine wi_r1 m_range ?_
    refine we_n 1 ?_
    refine rng_sh h fun xs14 h => ?_
    refine lcN h (fun face15 kp sk h => ?_) fun l16 h s hn17 => ?_
    · refine ⟨[(4, face15)], rfl, rfl, fun g' s1 H1 C1 cl1 fp1 => ?_⟩
      refine wn_lc (own := [("step", 7)]) rfl sc_neighbours.nd (blkOk_by (by rfl)) (fun _ _ _ _ _ => (pg_name (i := 7) sc_neighbours.nd rfl (by first | exact Or.inl rfl | exact Or.inr rfl))) (tgd_name 7) (by decide) rfl ?_
      refine wi_d ?_
      refine we_of_wn ?_
      refine wn_sortedA m_sorted hr ?_
      refine we_ixOO 3 hc ?_
      refine we_n 4 ?_
      refine row_m h fun l19 h => ?_
      refine sort_m h fun l20 h => ?_
      refine ⟨rfl, it_sh h fun xs18 h => ?_⟩
      refine lcS h (fun step21 kp sk h => ?_) fun l22 h => ?_
      · refine ⟨[(7, step21)], rfl, rfl, fun g' s1 H1 C1 cl1 fp1 => ?_⟩
        refine ⟨fun _ s1 H1 C1 cl1 fp1 => ?_, fun z => by cases z⟩
        refine we_mod ?_
        refine we_add ?_
        refine we_n 4 ?_
        refine we_n 7 ?_
        refine add_sh h fun r23 h => ?_
        refine we_n 1 ?_
        refine mod_sh h fun r24 h => ?_
        exact ⟨rfl, h⟩
      exact h
    exact ⟨_, hn17, ⟨_, hK _ h, trivial, rfl, rfl⟩⟩
  · rintro hend p25 found28 ⟨w29, w30⟩ N26 hc h
    obtain ⟨low31, high32, he33, h⟩ := un2_sh h
    refine ⟨[(5, low31), (6, high32)], (by rw [he33]; rfl), rfl, ?_⟩
    refine ws_env (env' := [.d plan, .d faces1, .d cuts2, ooS a5 as6 found28, .un, .d low31, .d high32, .un]) rfl ?_
    refine ws_cons (w1_appendOO 3 hc ?_)
    refine we_n 5 ?_
    refine row_m h fun l34 h => ?_
    refine we_mod ?_
    refine we_sub ?_
    refine we_n 6 ?_
    refine we_n 5 ?_
    refine sub_sh h fun r35 h => ?_
    refine we_n 1 ?_
    refine mod_sh h fun r36 h => ?_
    refine ⟨rfl, rowApp_m h fun rows37 hq38 h => ?_⟩
    have hl39 : as6.length = rows37.length := by rw [hq38]; exact hc
    refine ws_env (env' := [.d plan, .d faces1, .d cuts2, ooS a5 as6 rows37, .un, .d low31, .d high32, .un]) rfl ?_
    refine ws_cons (w1_appendOO 3 hl39 ?_)
    refine we_n 6 ?_
    refine row_m h fun l40 h => ?_
    refine we_mod ?_
    refine we_sub ?_
    refine we_n 5 ?_
    refine we_n 6 ?_
    refine sub_sh h fun r41 h => ?_
    refine we_n 1 ?_
    refine mod_sh h fun r42 h => ?_
    refine ⟨rfl, rowApp_m h fun rows43 hq44 h => ?_⟩
    have hl45 : as6.length = rows43.length := by rw [hq44]; exact hl39
    refine ws_env (env' := [.d plan, .d faces1, .d cuts2, ooS a5 as6 rows43, .un, .d low31, .d high32, .un]) rfl ?_
    exact ws_nil ⟨rows43, ((.d low31), (.d high32)), h, hl45, rfl⟩
def w_fan : CT := fun args Φ Ψ => ∃ (plan : PyData) (face : PyData) (K : KD) (E : KX), args = [.d plan, .d face] ∧ f_fan plan face K E ∧ (∀ l, K (.list l) → Φ (.nl l) args) ∧ ∀ c, E c → Ψ c args
theorem ok_w_fan (F : FnP K "fan" s_fan f fd) (hm : mg "fan" = some (.ref f)) (hb : Binds K fd ["plan", "face"] []) (h_need_plan : Has P w K mg base k "need_plan" ["plan"] c_need_plan) (x_BadFace : ExK K mg "BadFace") (h_w_neighbours : Has P w K mg base k "neighbours" ["plan"] w_neighbours) :
    Has P w K mg base (k + 1) "fan" ["plan", "face"] w_fan := by
  refine fn_has F hm sc_fan hb rfl ?_
  rintro cdv A outer s H E g args Φ Ψ hr hp hM hl ⟨plan, face, Kf, Ef, rfl, h, hK, hE⟩
  unfold f_fan at h
  refine ws_env (env' := [.d plan, .d face]) rfl ?_
  refine ws_cons (w1_expr ?_)
  refine we_call h_need_plan hr ?_
  refine wa_d ?_
  refine we_n 0 ?_
  refine ⟨rfl, ?_⟩
  refine wa_nil ?_
  refine ⟨rfl, _, _, _, rfl, h, fun r1 h => ⟨rfl, _, rfl, ?_⟩, fun c hc => ⟨rfl, ⟨_, hE _ hc, rfl, rfl, rfl⟩⟩⟩
  refine ws_cons (w1_if ?_)
  refine wt_not ?_
  refine wt_ch (op_leA hr) (op_ltA hr) ?_
  refine we_int ?_
  refine we_n 1 ?_
  refine ch_sh2 h (fun Q h => le_sh h fun _ h => h) (fun Q h => ?_) fun b2 h => ?_
  · refine we_ix ?_
    refine we_n 0 ?_
    refine we_int ?_
    refine ix_sh h fun r4 h => ?_
    exact lt_sh h fun _ h => h
  obtain ⟨h5, h6⟩ := h
  refine ⟨fun e7 => ?_, fun e7 => ?_⟩
  · replace h := h5 e7
    exact ws_cons (w1_raise rfl x_BadFace ⟨_, hE _ h, rfl, rfl, rfl⟩)
  · replace h := h6 e7
    refine ws_nil ?_
    refine ws_cons (w1_retN (wn_ixN ?_))
    refine wo_call h_w_neighbours hr ?_
    refine wa_d ?_
    refine we_n 0 ?_
    refine ⟨rfl, ?_⟩
    refine wa_nil ?_
    refine ⟨rfl, _, _, _, rfl, h, fun r8 h => ⟨rfl, _, rfl, ?_⟩, fun c hc => ⟨rfl, ⟨_, hE _ hc, rfl, rfl, rfl⟩⟩⟩
    intro s9 hn10
    refine ⟨_, hn10, fun g2 => ?_⟩
    refine we_n 1 ?_
    refine ixM_m h fun r11 h l12 el12 => ?_
    exact ⟨_, hK _ (el12 ▸ h), trivial, rfl, rfl, rfl⟩
theorem ok_law (F : FnP K "law" s_law f fd) (ho__law_bag : Has P w K mg base k "_law_bag" ["_law_script"] o__law_bag) (h__law_plan : Has P w K mg base k "_law_plan" ["_law_bag_here", "_law_most"] c__law_plan) (h__law_pull : Has P w K mg base k "_law_pull" ["_law_bag_here", "_law_many"] c__law_pull) (m_range : mg "range" = none) (h__law_fan_word : Has P w K mg base k "_law_fan_word" ["_law_plan_here", "_law_face"] c__law_fan_word) (h__law_fan : Has P w K mg base k "_law_fan" ["_law_plan_here", "_law_face"] c__law_fan) (h_w_fan : Has P w K mg base k "fan" ["plan", "face"] w_fan) (h__law_alike : Has P w K mg base k "_law_alike" ["_law_found", "_law_due"] c__law_alike) (h_fan : Has P w K mg base k "fan" ["plan", "face"] c_fan) :
    FnOk P w K mg base (L2.CX P w) (k + 1) f fd ["_law_script"] (spOf K 1 cLaw) := by
  refine fn_ok (ps := ["_law_script"]) F sc_law rfl ?_
  rintro cdv A outer s H E g args Φ Ψ hr hp hM hl ⟨ns, rfl, hns, hΦ⟩
  have h := e_law_k03 ns hns
  unfold f_law_k03 at h
  have hK : ∀ r, r = PyData.bool true → Φ (.rd r) [.d (.list (ns.map .int))] := fun r e => e ▸ hΦ
  have hE : ∀ c, False → Ψ c [.d (.list (ns.map .int))] := fun c h => h.elim
  refine ws_env (env' := [.d (.list (ns.map .int)), .un, .un, .un, .un, .un]) rfl ?_
  refine ws_cons (w1_setN 1 sc_law.nd ?_)
  refine wn_call ho__law_bag hr ?_
  refine wa_d ?_
  refine we_n 0 ?_
  refine ⟨rfl, ?_⟩
  refine wa_nil ?_
  refine ⟨rfl, ns, rfl, hns, fun ds hds => ⟨rfl, ds, rfl, ?_⟩⟩
  intro a_bag n_bag
  refine ws_close 1 rfl hds ?_
  refine ws_env (env' := [.d (.list (ns.map .int)), .bg a_bag, .un, .un, .un, .un]) rfl ?_
  refine ws_cons (w1_set 2 sc_law.nd ?_)
  refine we_call h__law_plan hr ?_
  refine wa_s 1 ?_
  refine wa_d ?_
  refine we_ix ?_
  refine we_list ?_
  refine wa_d ?_
  refine we_int ?_
  refine ⟨rfl, ?_⟩
  refine wa_d ?_
  refine we_int ?_
  refine ⟨rfl, ?_⟩
  refine wa_d ?_
  refine we_int ?_
  refine ⟨rfl, ?_⟩
  refine wa_nil ?_
  refine ⟨_, rfl, szOk rfl, ?_⟩
  refine we_call h__law_pull hr ?_
  refine wa_s 1 ?_
  refine wa_d ?_
  refine we_int ?_
  refine ⟨rfl, ?_⟩
  refine wa_nil ?_
  refine ⟨rfl, _, _, _, _, rfl, h, fun r1 h => ⟨rfl, _, rfl, ?_⟩, fun c hc => ⟨rfl, ⟨_, hE _ hc, rfl, rfl⟩⟩⟩
  refine ix_sh h fun r2 h => ?_
  refine ⟨rfl, ?_⟩
  refine wa_nil ?_
  refine ⟨rfl, _, _, _, _, rfl, h, fun r3 h => ⟨rfl, _, rfl, ?_⟩, fun c hc => ⟨rfl, ⟨_, hE _ hc, rfl, rfl⟩⟩⟩
  refine ⟨rfl, ?_⟩
  refine ws_env (env' := [.d (.list (ns.map .int)), .bg a_bag, .d r3, .un, .un, .un]) rfl ?_
  refine ws_cons (w1_for hp rfl (pg_name (i := 3) sc_law.nd rfl (by first | exact Or.inl rfl | exact Or.inr rfl)) (tgd_name 3) ?_)
  refine wi_r1 m_range ?_
  refine we_ix ?_
  refine we_n 2 ?_
  refine we_int ?_
  refine ix_sh h fun r5 h => ?_
  refine rng_sh h fun xs4 h => ?_
  refine forS h (fun (s : Unit) (u : Sl × Sl × Sl) => [.d (.list (ns.map .int)), .bg a_bag, .d r3, u.2.2, u.1, u.2.1]) ((.un), (.un), (.un)) rfl ?_ ?_
  · rintro _ ⟨w6, w7, w8⟩ h
    refine ws_env (env' := [.d (.list (ns.map .int)), .bg a_bag, .d r3, w8, w6, w7]) rfl ?_
    refine ws_cons (w1_for hp rfl (pg_name (i := 3) sc_law.nd rfl (by first | exact Or.inl rfl | exact Or.inr rfl)) (tgd_name 3) ?_)
    refine wi_d ?_
    refine we_tuple ?_
    refine wa_d ?_
    refine we_sub ?_
    refine we_int ?_
    refine we_int ?_
    refine sub_sh h fun r10 h => ?_
    refine ⟨rfl, ?_⟩
    refine wa_d ?_
    refine we_ix ?_
    refine we_n 2 ?_
    refine we_int ?_
    refine ix_sh h fun r11 h => ?_
    refine ⟨rfl, ?_⟩
    refine wa_d ?_
    refine we_add ?_
    refine we_add ?_
    refine we_ix ?_
    refine we_n 2 ?_
    refine we_int ?_
    refine ix_sh h fun r12 h => ?_
    refine we_int ?_
    refine add_sh h fun r13 h => ?_
    refine we_call h__law_pull hr ?_
    refine wa_s 1 ?_
    refine wa_d ?_
    refine we_pow ?_
    refine we_int ?_
    refine we_int ?_
    refine powP (v := 100000000000000000000) (by decide +kernel) ?_ (by unfold L2.CPow; decide)
    refine ⟨rfl, ?_⟩
    refine wa_nil ?_
    refine ⟨rfl, _, _, _, _, rfl, h, fun r14 h => ⟨rfl, _, rfl, ?_⟩, fun c hc => ⟨rfl, ⟨_, hE _ hc, rfl, rfl⟩⟩⟩
    refine add_sh h fun r15 h => ?_
    refine ⟨rfl, ?_⟩
    refine wa_nil ?_
    refine ⟨_, rfl, szOk rfl, ?_⟩
    refine ⟨rfl, it_sh h fun xs9 h => ?_⟩
    refine forS h (fun (s : Unit) (u : Sl) => [.d (.list (ns.map .int)), .bg a_bag, .d r3, u, w6, w7]) (w8) rfl ?_ ?_
    · rintro _ w16 h
      refine ws_env (env' := [.d (.list (ns.map .int)), .bg a_bag, .d r3, w16, w6, w7]) rfl ?_
      refine ws_cons (w1_ret ?_)
      refine we_bool ?_
      exact ⟨rfl, _, hK _ h, trivial, rfl, rfl⟩
    · rintro hend l_face17 _ w20 N18 h
      refine ⟨[(3, l_face17)], rfl, rfl, ?_⟩
      refine ws_env (env' := [.d (.list (ns.map .int)), .bg a_bag, .d r3, .d l_face17, w6, w7]) rfl ?_
      refine ws_cons (w1_if ?_)
      refine wt_cp (op_neA hr) ?_
      refine we_call h__law_fan_word hr ?_
      refine wa_d ?_
      refine we_n 2 ?_
      refine ⟨rfl, ?_⟩
      refine wa_d ?_
      refine we_n 3 ?_
      refine ⟨rfl, ?_⟩
      refine wa_nil ?_
      refine ⟨rfl, _, _, _, _, rfl, h, fun r21 h => ⟨rfl, _, rfl, ?_⟩, fun c hc => ⟨rfl, ⟨_, hE _ hc, rfl, rfl⟩⟩⟩
      refine we_str ?_
      refine ne_sh h fun b22 h => ?_
      obtain ⟨h23, h24⟩ := h
      refine ⟨fun e25 => ?_, fun e25 => ?_⟩
      · replace h := h23 e25
        refine ws_cons (w1_ret ?_)
        refine we_bool ?_
        exact ⟨rfl, _, hK _ h, trivial, rfl, rfl⟩
      · replace h := h24 e25
        refine ws_nil ?_
        exact ws_nil ⟨(), (.d l_face17), h, rfl⟩
  · rintro hend l_face26 _ ⟨w29, w30, w31⟩ N27 h
    refine ⟨[(3, l_face26)], rfl, rfl, ?_⟩
    refine ws_env (env' := [.d (.list (ns.map .int)), .bg a_bag, .d r3, .d l_face26, w29, w30]) rfl ?_
    refine ws_cons (w1_set 4 sc_law.nd ?_)
    refine we_call h__law_fan hr ?_
    refine wa_d ?_
    refine we_n 2 ?_
    refine ⟨rfl, ?_⟩
    refine wa_d ?_
    refine we_n 3 ?_
    refine ⟨rfl, ?_⟩
    refine wa_nil ?_
    refine ⟨rfl, _, _, _, _, rfl, h, fun r32 h => ⟨rfl, _, rfl, ?_⟩, fun c hc => ⟨rfl, ⟨_, hE _ hc, rfl, rfl⟩⟩⟩
    refine ⟨rfl, ?_⟩
    refine ws_env (env' := [.d (.list (ns.map .int)), .bg a_bag, .d r3, .d l_face26, .d (.list r32), w30]) rfl ?_
    refine ws_cons (w1_setN 5 sc_law.nd ?_)
    refine wn_call h_w_fan hr ?_
    refine wa_d ?_
    refine we_n 2 ?_
    refine ⟨rfl, ?_⟩
    refine wa_d ?_
    refine we_n 3 ?_
    refine ⟨rfl, ?_⟩
    refine wa_nil ?_
    refine ⟨rfl, _, _, _, _, rfl, h, fun r33 h => ⟨rfl, _, rfl, ?_⟩, fun c hc => ⟨rfl, ⟨_, hE _ hc, rfl, rfl⟩⟩⟩
    replace h := lstL h
    intro a35 n_a35
    refine ws_env (env' := [.d (.list (ns.map .int)), .bg a_bag, .d r3, .d l_face26, .d (.list r32), .ol a35 r33]) rfl ?_
    refine ws_cons (w1_if ?_)
    refine wt_not ?_
    refine wt_e ?_
    refine we_view 5 rfl fun g2 => ?_
    refine we_call h__law_alike hr ?_
    refine wa_d ?_
    refine we_n 5 ?_
    refine ⟨rfl, ?_⟩
    refine wa_d ?_
    refine we_n 4 ?_
    refine ⟨rfl, ?_⟩
    refine wa_nil ?_
    refine ⟨rfl, _, _, _, _, rfl, h, fun r36 h => ⟨rfl, _, rfl, ?_⟩, fun c hc => ⟨rfl, ⟨_, hE _ hc, rfl, rfl⟩⟩⟩
    obtain ⟨b37, he38, h⟩ := bool_ob h
    refine ⟨by rw [he38]; rfl, b37, he38, ?_⟩
    obtain ⟨h39, h40⟩ := h
    refine ⟨fun e41 => ?_, fun e41 => ?_⟩
    · replace h := h39 e41
      refine ws_cons (w1_ret ?_)
      refine we_bool ?_
      exact ⟨rfl, _, hK _ h, trivial, rfl, rfl⟩
    · replace h := h40 e41
      refine ws_nil ?_
      refine ws_cons (w1_reverse 5 rfl ?_)
      refine ws_env (env' := [.d (.list (ns.map .int)), .bg a_bag, .d r3, .d l_face26, .d (.list r32), .ol a35 r33.reverse]) rfl ?_
      refine ws_cons (w1_if ?_)
      refine wt_not ?_
      refine wt_e ?_
      refine we_call h__law_alike hr ?_
      refine wa_d ?_
      refine we_call h_fan hr ?_
      refine wa_d ?_
      refine we_n 2 ?_
      refine ⟨rfl, ?_⟩
      refine wa_d ?_
      refine we_n 3 ?_
      refine ⟨rfl, ?_⟩
      refine wa_nil ?_
      refine ⟨rfl, _, _, _, _, rfl, h, fun r42 h => ⟨rfl, _, rfl, ?_⟩, fun c hc => ⟨rfl, ⟨_, hE _ hc, rfl, rfl⟩⟩⟩
      refine ⟨rfl, ?_⟩
      refine wa_d ?_
      refine we_n 4 ?_
      refine ⟨rfl, ?_⟩
      refine wa_nil ?_
      refine ⟨rfl, _, _, _, _, rfl, h, fun r43 h => ⟨rfl, _, rfl, ?_⟩, fun c hc => ⟨rfl, ⟨_, hE _ hc, rfl, rfl⟩⟩⟩
      refine bool_sh h fun b44 h => ?_
      obtain ⟨h45, h46⟩ := h
      refine ⟨fun e47 => ?_, fun e47 => ?_⟩
      · replace h := h45 e47
        refine ws_cons (w1_ret ?_)
        refine we_bool ?_
        exact ⟨rfl, _, hK _ h, trivial, rfl, rfl⟩
      · replace h := h46 e47
        refine ws_nil ?_
        exact ws_nil ⟨(), ((.d (.list r32)), (.ol a35 r33.reverse), (.d l_face26)), h, rfl⟩
end
end Tx
namespace Tx
open PySem PySem.Spec PyProof.Rows L2 TL
set_option maxRecDepth 100000
def d_crossing : He.DefD := ⟨("crossing", none), "crossing", "crossing", defArgs s_crossing, defBody s_crossing, defScope s_crossing, [], []⟩
def d_is_cut : He.DefD := ⟨("is_cut", none), "is_cut", "is_cut", defArgs s_is_cut, defBody s_is_cut, defScope s_is_cut, [], []⟩
def d_is_plan : He.DefD := ⟨("is_plan", none), "is_plan", "is_plan", defArgs s_is_plan, defBody s_is_plan, defScope s_is_plan, [], []⟩
def d_need_plan : He.DefD := ⟨("need_plan", none), "need_plan", "need_plan", defArgs s_need_plan, defBody s_need_plan, defScope s_need_plan, [], []⟩
def d_follows : He.DefD := ⟨("follows", none), "follows", "follows", defArgs s_follows, defBody s_follows, defScope s_follows, [], []⟩
def d_pair_of : He.DefD := ⟨("pair_of", none), "pair_of", "pair_of", defArgs s_pair_of, defBody s_pair_of, defScope s_pair_of, [], []⟩
def d_all_lines : He.DefD := ⟨("all_lines", none), "all_lines", "all_lines", defArgs s_all_lines, defBody s_all_lines, defScope s_all_lines, [], []⟩
def d_neighbours : He.DefD := ⟨("neighbours", none), "neighbours", "neighbours", defArgs s_neighbours, defBody s_neighbours, defScope s_neighbours, [], []⟩
def d_fan : He.DefD := ⟨("fan", none), "fan", "fan", defArgs s_fan, defBody s_fan, defScope s_fan, [], []⟩
def d__law_alike : He.DefD := ⟨("_law_alike", none), "_law_alike", "_law_alike", defArgs s__law_alike, defBody s__law_alike, defScope s__law_alike, [], []⟩
def d__law_all_lines : He.DefD := ⟨("_law_all_lines", none), "_law_all_lines", "_law_all_lines", defArgs s__law_all_lines, defBody s__law_all_lines, defScope s__law_all_lines, [], []⟩
def d__law_bag : He.DefD := ⟨("_law_bag", none), "_law_bag", "_law_bag", defArgs s__law_bag, defBody s__law_bag, defScope s__law_bag, [], []⟩
def d__law_cut_arc : He.DefD := ⟨("_law_cut_arc", none), "_law_cut_arc", "_law_cut_arc", defArgs s__law_cut_arc, defBody s__law_cut_arc, defScope s__law_cut_arc, [], []⟩
def d__law_drawn_plan : He.DefD := ⟨("_law_drawn_plan", none), "_law_drawn_plan", "_law_drawn_plan", defArgs s__law_drawn_plan, defBody s__law_drawn_plan, defScope s__law_drawn_plan, [], []⟩
def d__law_fan : He.DefD := ⟨("_law_fan", none), "_law_fan", "_law_fan", defArgs s__law_fan, defBody s__law_fan, defScope s__law_fan, [], []⟩
def d__law_fan_word : He.DefD := ⟨("_law_fan_word", none), "_law_fan_word", "_law_fan_word", defArgs s__law_fan_word, defBody s__law_fan_word, defScope s__law_fan_word, [], []⟩
def d__law_pair : He.DefD := ⟨("_law_pair", none), "_law_pair", "_law_pair", defArgs s__law_pair, defBody s__law_pair, defScope s__law_pair, [], []⟩
def d__law_plan : He.DefD := ⟨("_law_plan", none), "_law_plan", "_law_plan", defArgs s__law_plan, defBody s__law_plan, defScope s__law_plan, [], []⟩
def d__law_pull : He.DefD := ⟨("_law_pull", none), "_law_pull", "_law_pull", defArgs s__law_pull, defBody s__law_pull, defScope s__law_pull, [], []⟩
def d__law_tied : He.DefD := ⟨("_law_tied", none), "_law_tied", "_law_tied", defArgs s__law_tied, defBody s__law_tied, defScope s__law_tied, [], []⟩
def d__law_whole : He.DefD := ⟨("_law_whole", none), "_law_whole", "_law_whole", defArgs s__law_whole, defBody s__law_whole, defScope s__law_whole, [], []⟩
def d_law : He.DefD := ⟨("law", none), "law", "law", defArgs s_law, defBody s_law, defScope s_law, [], []⟩
def fn : List He.DefD := [d_crossing, d_is_cut, d_is_plan, d_need_plan, d_follows, d_pair_of, d_all_lines, d_neighbours, d_fan, d__law_alike, d__law_all_lines, d__law_bag, d__law_cut_arc, d__law_drawn_plan, d__law_fan, d__law_fan_word, d__law_pair, d__law_plan, d__law_pull, d__law_tied, d__law_whole, d_law]
def fa : List He.Fa := [.glo "crossing",
  .glo "is_cut",
  .glo "is_plan",
  .glo "need_plan",
  .glo "follows",
  .glo "pair_of",
  .glo "all_lines",
  .glo "neighbours",
  .glo "fan",
  .glo "_law_alike",
  .glo "_law_all_lines",
  .glo "_law_bag",
  .glo "_law_cut_arc",
  .glo "_law_drawn_plan",
  .glo "_law_fan",
  .glo "_law_fan_word",
  .glo "_law_pair",
  .glo "_law_plan",
  .glo "_law_pull",
  .glo "_law_tied",
  .glo "_law_whole",
  .glo "law",
  .glo "PinchError",
  .glo "BadPlan",
  .glo "BadFace",
  .free "abs",
  .free "all",
  .free "any",
  .free "bool",
  .free "enumerate",
  .free "int",
  .free "isinstance",
  .free "len",
  .free "list",
  .free "max",
  .free "min",
  .free "range",
  .free "sorted",
  .free "str",
  .free "tuple",
  .int "LEAST" 3,
  .int "MOST" 40,
  .exc "PinchError",
  .exc "BadPlan",
  .exc "BadFace",
  .exm "BadPlan" "BadFace" false,
  .exm "BadPlan" "PinchError" true,
  .exm "BadFace" "BadFace" true,
  .exm "BadFace" "PinchError" true]
def xf : List XF := []
abbrev R : PySem.W.OpenRow := PySem.W.OpenLaw.row PySem.Challenge.rw_pinchfold_k03_fans_told
def tf : List LamD := []
abbrev hk : PySem.W.Hook := hookL 4 xf fa fn tf
def ob (s : PySem.W.SharedT) : AlL := obsLG 4 xf fa fn tf (HandSHeadRun.getT s)
theorem ob_eq (s : PySem.W.SharedT) : ob s = hk.obs s.abs := obsLG_eq (HandSHeadRun.getT_eq s)
def loose : List PySem.Str := (["PinchError", "BadPlan", "BadFace", "LEAST", "MOST", "crossing", "is_cut", "is_plan", "need_plan", "follows", "pair_of", "all_lines", "neighbours", "fan", "_law_alike", "_law_all_lines", "_law_bag", "_law_cut_arc", "_law_drawn_plan", "_law_fan", "_law_fan_word", "_law_pair", "_law_plan", "_law_pull", "_law_tied", "_law_whole"] : List PySem.Str)
theorem run (w : World) : HandSHeadRun.RunEq R (PySem.W.view R.prog [29]) hk ob 6000 loose w := by
  intro os
  kernel_rfl
theorem facts {P : Program} {w : World} {K0 K : PySem.W.Frag} (hK : K = markK tf K0) {h : Heap} {mg : Str → Option Value} {f : Addr} (X0 : K0.In h) (G : h.Ns mainGlobals mg) (hfa : mg ("law" : Str) = some (.ref f)) (sl : SaysL xf fa fn tf h K0) :
    ∃ fd : FuncData, (∀ (s : Shared) (v : Value), BindsTo s fd ⟨[v], []⟩ [("_law_script", v)]) ∧ ∀ base : Heap, K.In base → base.Ns mainGlobals mg → (∀ p ∈ csOf tf K0, LamX.TabB base mg p.1 p.2) → FnOk P w K mg base (L2.CX P w) 69 f fd ["_law_script"] (spOf K 1 cLaw) := by
  have X : K.In h := by rw [hK]; exact sl.kin X0
  have c : SaysX xf fa fn K := by rw [hK]; exact sl.x
  obtain ⟨fd_crossing, F_crossing⟩ := c.d.def_ 0 (d := d_crossing) rfl
  obtain ⟨fd_is_cut, F_is_cut⟩ := c.d.def_ 1 (d := d_is_cut) rfl
  obtain ⟨fd_is_plan, F_is_plan⟩ := c.d.def_ 2 (d := d_is_plan) rfl
  obtain ⟨fd_need_plan, F_need_plan⟩ := c.d.def_ 3 (d := d_need_plan) rfl
  obtain ⟨fd_follows, F_follows⟩ := c.d.def_ 4 (d := d_follows) rfl
  obtain ⟨fd_pair_of, F_pair_of⟩ := c.d.def_ 5 (d := d_pair_of) rfl
  obtain ⟨fd_all_lines, F_all_lines⟩ := c.d.def_ 6 (d := d_all_lines) rfl
  obtain ⟨fd_neighbours, F_neighbours⟩ := c.d.def_ 7 (d := d_neighbours) rfl
  obtain ⟨fd_fan, F_fan⟩ := c.d.def_ 8 (d := d_fan) rfl
  obtain ⟨fd__law_alike, F__law_alike⟩ := c.d.def_ 9 (d := d__law_alike) rfl
  obtain ⟨fd__law_all_lines, F__law_all_lines⟩ := c.d.def_ 10 (d := d__law_all_lines) rfl
  obtain ⟨fd__law_bag, F__law_bag⟩ := c.d.def_ 11 (d := d__law_bag) rfl
  obtain ⟨fd__law_cut_arc, F__law_cut_arc⟩ := c.d.def_ 12 (d := d__law_cut_arc) rfl
  obtain ⟨fd__law_drawn_plan, F__law_drawn_plan⟩ := c.d.def_ 13 (d := d__law_drawn_plan) rfl
  obtain ⟨fd__law_fan, F__law_fan⟩ := c.d.def_ 14 (d := d__law_fan) rfl
  obtain ⟨fd__law_fan_word, F__law_fan_word⟩ := c.d.def_ 15 (d := d__law_fan_word) rfl
  obtain ⟨fd__law_pair, F__law_pair⟩ := c.d.def_ 16 (d := d__law_pair) rfl
  obtain ⟨fd__law_plan, F__law_plan⟩ := c.d.def_ 17 (d := d__law_plan) rfl
  obtain ⟨fd__law_pull, F__law_pull⟩ := c.d.def_ 18 (d := d__law_pull) rfl
  obtain ⟨fd__law_tied, F__law_tied⟩ := c.d.def_ 19 (d := d__law_tied) rfl
  obtain ⟨fd__law_whole, F__law_whole⟩ := c.d.def_ 20 (d := d__law_whole) rfl
  obtain ⟨fd_law, F_law⟩ := c.d.def_ 21 (d := d_law) rfl
  have e := hfa.symm.trans (He.glo_ok X G (c.d.fact 21 (f := .glo "law") rfl))
  cases e
  have bl := FunD.bindsA (ps := ["_law_script"]) F_law fun _ _ _ _ _ _ us hl => match us, hl with | [_], _ => rfl
  refine ⟨fd_law, fun s v => bl s [v] rfl, fun base _ _ hB => ?_⟩
  have h_o__law_bag := ok_o__law_bag (P := P) (w := w) (K := K) (mg := mg) (base := base) (k := 0) F__law_bag (He.glo_ok X G (c.d.fact 11 (f := .glo "_law_bag") rfl)) (F__law_bag.bindsN fun _ _ _ _ _ _ us hl => match us, hl with | [_], _ => rfl) (He.free_ok X G (c.d.fact 32 (f := .free "len") rfl)) (He.free_ok X G (c.d.fact 25 (f := .free "abs") rfl)) (He.free_ok X G (c.d.fact 30 (f := .free "int") rfl))
  have h_o__law_pull := ok_o__law_pull (P := P) (w := w) (K := K) (mg := mg) (base := base) (k := 0) F__law_pull (He.glo_ok X G (c.d.fact 18 (f := .glo "_law_pull") rfl)) (F__law_pull.bindsN fun _ _ _ _ _ _ us hl => match us, hl with | [_, _], _ => rfl) (He.free_ok X G (c.d.fact 32 (f := .free "len") rfl))
  have h__law_pull := ok__law_pull (P := P) (w := w) (K := K) (mg := mg) (base := base) (k := 1) (h_o__law_pull.mono (by decide))
  have h_o__law_cut_arc := ok_o__law_cut_arc (P := P) (w := w) (K := K) (mg := mg) (base := base) F__law_cut_arc (He.glo_ok X G (c.d.fact 12 (f := .glo "_law_cut_arc") rfl)) (F__law_cut_arc.bindsN fun _ _ _ _ _ _ us hl => match us, hl with | [_, _, _, _], _ => rfl) (h_o__law_pull.mono (by decide)) 0 64
  have h__law_pair := ok__law_pair (P := P) (w := w) (K := K) (mg := mg) (base := base) (k := 0) F__law_pair (He.glo_ok X G (c.d.fact 16 (f := .glo "_law_pair") rfl)) (F__law_pair.bindsN fun _ _ _ _ _ _ us hl => match us, hl with | [_, _], _ => rfl) (He.free_ok X G (c.d.fact 35 (f := .free "min") rfl)) (He.free_ok X G (c.d.fact 34 (f := .free "max") rfl))
  have h_o__law_pair := ok_o__law_pair (P := P) (w := w) (K := K) (mg := mg) (base := base) (k := 0) F__law_pair (He.glo_ok X G (c.d.fact 16 (f := .glo "_law_pair") rfl)) (F__law_pair.bindsN fun _ _ _ _ _ _ us hl => match us, hl with | [_, _], _ => rfl) (He.free_ok X G (c.d.fact 35 (f := .free "min") rfl)) (He.free_ok X G (c.d.fact 34 (f := .free "max") rfl))
  have h_o__law_drawn_plan := ok_o__law_drawn_plan (P := P) (w := w) (K := K) (mg := mg) (base := base) (k := 66) F__law_drawn_plan (He.glo_ok X G (c.d.fact 13 (f := .glo "_law_drawn_plan") rfl)) (F__law_drawn_plan.bindsN fun _ _ _ _ _ _ us hl => match us, hl with | [_, _], _ => rfl) (He.free_ok X G (c.d.fact 39 (f := .free "tuple") rfl)) (h_o__law_cut_arc.mono (by decide)) (He.free_ok X G (c.d.fact 37 (f := .free "sorted") rfl)) (h_o__law_pair.mono (by decide))
  have h__law_drawn_plan := ok__law_drawn_plan (P := P) (w := w) (K := K) (mg := mg) (base := base) (k := 67) (h_o__law_drawn_plan.mono (by decide))
  have h__law_plan := ok__law_plan (P := P) (w := w) (K := K) (mg := mg) (base := base) (k := 67) F__law_plan (He.glo_ok X G (c.d.fact 17 (f := .glo "_law_plan") rfl)) (F__law_plan.bindsN fun _ _ _ _ _ _ us hl => match us, hl with | [_, _], _ => rfl) (h__law_pull.mono (by decide)) (h__law_drawn_plan.mono (by decide))
  have h__law_all_lines := ok__law_all_lines (P := P) (w := w) (K := K) (mg := mg) (base := base) (k := 0) F__law_all_lines (He.glo_ok X G (c.d.fact 10 (f := .glo "_law_all_lines") rfl)) (F__law_all_lines.bindsN fun _ _ _ _ _ _ us hl => match us, hl with | [_], _ => rfl) (He.free_ok X G (c.d.fact 36 (f := .free "range") rfl)) (He.free_ok X G (c.d.fact 37 (f := .free "sorted") rfl)) (He.free_ok X G (c.d.fact 33 (f := .free "list") rfl))
  have h__law_tied := ok__law_tied (P := P) (w := w) (K := K) (mg := mg) (base := base) (k := 1) F__law_tied (He.glo_ok X G (c.d.fact 19 (f := .glo "_law_tied") rfl)) (F__law_tied.bindsN fun _ _ _ _ _ _ us hl => match us, hl with | [_], _ => rfl) (h__law_all_lines.mono (by decide))
  have h__law_fan := ok__law_fan (P := P) (w := w) (K := K) (mg := mg) (base := base) (k := 2) F__law_fan (He.glo_ok X G (c.d.fact 14 (f := .glo "_law_fan") rfl)) (F__law_fan.bindsN fun _ _ _ _ _ _ us hl => match us, hl with | [_, _], _ => rfl) (h__law_tied.mono (by decide)) (He.free_ok X G (c.d.fact 36 (f := .free "range") rfl))
  have h_is_cut := ok_is_cut (P := P) (w := w) (K := K) (mg := mg) (base := base) (k := 0) F_is_cut (He.glo_ok X G (c.d.fact 1 (f := .glo "is_cut") rfl)) (F_is_cut.bindsN fun _ _ _ _ _ _ us hl => match us, hl with | [_, _], _ => rfl)
  have h_crossing := ok_crossing (P := P) (w := w) (K := K) (mg := mg) (base := base) (k := 0) F_crossing (He.glo_ok X G (c.d.fact 0 (f := .glo "crossing") rfl)) (F_crossing.bindsN fun _ _ _ _ _ _ us hl => match us, hl with | [_, _], _ => rfl) (He.free_ok X G (c.d.fact 32 (f := .free "len") rfl))
  have h_is_plan := ok_is_plan (P := P) (w := w) (K := K) (mg := mg) (base := base) (k := 1) F_is_plan (He.glo_ok X G (c.d.fact 2 (f := .glo "is_plan") rfl)) (F_is_plan.bindsN fun _ _ _ _ _ _ us hl => match us, hl with | [_], _ => rfl) (He.int_ok X G (c.d.fact 40 (f := .int "LEAST" 3) rfl)) (He.int_ok X G (c.d.fact 41 (f := .int "MOST" 40) rfl)) (He.free_ok X G (c.d.fact 32 (f := .free "len") rfl)) (He.free_ok X G (c.d.fact 26 (f := .free "all") rfl)) (h_is_cut.mono (by decide)) (He.free_ok X G (c.d.fact 36 (f := .free "range") rfl)) (He.free_ok X G (c.d.fact 29 (f := .free "enumerate") rfl)) (He.free_ok X G (c.d.fact 27 (f := .free "any") rfl)) (h_crossing.mono (by decide))
  have h_need_plan := ok_need_plan (P := P) (w := w) (K := K) (mg := mg) (base := base) (k := 2) F_need_plan (He.glo_ok X G (c.d.fact 3 (f := .glo "need_plan") rfl)) (F_need_plan.bindsN fun _ _ _ _ _ _ us hl => match us, hl with | [_], _ => rfl) (h_is_plan.mono (by decide)) (exk_of (He.glo_ok X G (c.d.fact 23 (f := .glo "BadPlan") rfl)) (He.exc_ok (c.d.fact 43 (f := .exc "BadPlan") rfl)))
  have h_pair_of := ok_pair_of (P := P) (w := w) (K := K) (mg := mg) (base := base) (k := 0) F_pair_of (He.glo_ok X G (c.d.fact 5 (f := .glo "pair_of") rfl)) (F_pair_of.bindsN fun _ _ _ _ _ _ us hl => match us, hl with | [_, _], _ => rfl) (He.free_ok X G (c.d.fact 35 (f := .free "min") rfl)) (He.free_ok X G (c.d.fact 34 (f := .free "max") rfl))
  have h_follows := ok_follows (P := P) (w := w) (K := K) (mg := mg) (base := base) (k := 0) F_follows (He.glo_ok X G (c.d.fact 4 (f := .glo "follows") rfl)) (F_follows.bindsN fun _ _ _ _ _ _ us hl => match us, hl with | [_, _], _ => rfl)
  have h_all_lines := ok_all_lines (P := P) (w := w) (K := K) (mg := mg) (base := base) (k := 1) F_all_lines (He.glo_ok X G (c.d.fact 6 (f := .glo "all_lines") rfl)) (F_all_lines.bindsN fun _ _ _ _ _ _ us hl => match us, hl with | [_], _ => rfl) (He.free_ok X G (c.d.fact 37 (f := .free "sorted") rfl)) (He.free_ok X G (c.d.fact 36 (f := .free "range") rfl)) (h_pair_of.mono (by decide)) (h_follows.mono (by decide)) (He.free_ok X G (c.d.fact 33 (f := .free "list") rfl))
  have h_neighbours := ok_neighbours (P := P) (w := w) (K := K) (mg := mg) (base := base) (k := 2) F_neighbours (He.glo_ok X G (c.d.fact 7 (f := .glo "neighbours") rfl)) (F_neighbours.bindsN fun _ _ _ _ _ _ us hl => match us, hl with | [_], _ => rfl) (He.free_ok X G (c.d.fact 36 (f := .free "range") rfl)) (h_all_lines.mono (by decide)) (He.free_ok X G (c.d.fact 37 (f := .free "sorted") rfl))
  have h_fan := ok_fan (P := P) (w := w) (K := K) (mg := mg) (base := base) (k := 3) F_fan (He.glo_ok X G (c.d.fact 8 (f := .glo "fan") rfl)) (F_fan.bindsN fun _ _ _ _ _ _ us hl => match us, hl with | [_, _], _ => rfl) (h_need_plan.mono (by decide)) (exk_of (He.glo_ok X G (c.d.fact 24 (f := .glo "BadFace") rfl)) (He.exc_ok (c.d.fact 44 (f := .exc "BadFace") rfl))) (h_neighbours.mono (by decide))
  have h__law_whole := ok__law_whole (P := P) (w := w) (K := K) (mg := mg) (base := base) (k := 0) F__law_whole (He.glo_ok X G (c.d.fact 20 (f := .glo "_law_whole") rfl)) (F__law_whole.bindsN fun _ _ _ _ _ _ us hl => match us, hl with | [_], _ => rfl) (He.free_ok X G (c.d.fact 31 (f := .free "isinstance") rfl)) (He.free_ok X G (c.d.fact 30 (f := .free "int") rfl)) (He.free_ok X G (c.d.fact 28 (f := .free "bool") rfl))
  have h_o__law_whole := ok_o__law_whole (P := P) (w := w) (K := K) (mg := mg) (base := base) (k := 0) F__law_whole (He.glo_ok X G (c.d.fact 20 (f := .glo "_law_whole") rfl)) (F__law_whole.bindsN fun _ _ _ _ _ _ us hl => match us, hl with | [_], _ => rfl) (He.free_ok X G (c.d.fact 31 (f := .free "isinstance") rfl)) (He.free_ok X G (c.d.fact 30 (f := .free "int") rfl)) (He.free_ok X G (c.d.fact 28 (f := .free "bool") rfl))
  have h_o__law_alike := ok_o__law_alike (P := P) (w := w) (K := K) (mg := mg) (base := base) F__law_alike (He.glo_ok X G (c.d.fact 9 (f := .glo "_law_alike") rfl)) (F__law_alike.bindsN fun _ _ _ _ _ _ us hl => match us, hl with | [_, _], _ => rfl) (He.free_ok X G (c.d.fact 31 (f := .free "isinstance") rfl)) (He.free_ok X G (c.d.fact 28 (f := .free "bool") rfl)) (He.free_ok X G (c.d.fact 30 (f := .free "int") rfl)) (He.free_ok X G (c.d.fact 38 (f := .free "str") rfl)) (He.free_ok X G (c.d.fact 26 (f := .free "all") rfl)) (h_o__law_whole.mono (by decide)) (He.free_ok X G (c.d.fact 33 (f := .free "list") rfl)) (He.free_ok X G (c.d.fact 39 (f := .free "tuple") rfl)) (He.free_ok X G (c.d.fact 32 (f := .free "len") rfl)) (He.free_ok X G (c.d.fact 36 (f := .free "range") rfl)) 0 8
  have h__law_alike := ok__law_alike (P := P) (w := w) (K := K) (mg := mg) (base := base) (k := 10) (h_o__law_alike.mono (by decide))
  have h__law_fan_word := ok__law_fan_word (P := P) (w := w) (K := K) (mg := mg) (base := base) (k := 4) F__law_fan_word (He.glo_ok X G (c.d.fact 15 (f := .glo "_law_fan_word") rfl)) (F__law_fan_word.bindsN fun _ _ _ _ _ _ us hl => match us, hl with | [_, _], _ => rfl) (h_fan.mono (by decide)) (He.glo_ok X G (c.d.fact 24 (f := .glo "BadFace") rfl)) (exm_cons (He.exm_ok (c.d.fact 45 (f := .exm "BadPlan" "BadFace" false) rfl)) (exm_cons (He.exm_ok (c.d.fact 47 (f := .exm "BadFace" "BadFace" true) rfl)) exm_nil)) (He.glo_ok X G (c.d.fact 22 (f := .glo "PinchError") rfl)) (exm_cons (He.exm_ok (c.d.fact 46 (f := .exm "BadPlan" "PinchError" true) rfl)) (exm_cons (He.exm_ok (c.d.fact 48 (f := .exm "BadFace" "PinchError" true) rfl)) exm_nil))
  have h_w_neighbours := ok_w_neighbours (P := P) (w := w) (K := K) (mg := mg) (base := base) (k := 2) F_neighbours (He.glo_ok X G (c.d.fact 7 (f := .glo "neighbours") rfl)) (F_neighbours.bindsN fun _ _ _ _ _ _ us hl => match us, hl with | [_], _ => rfl) (He.free_ok X G (c.d.fact 36 (f := .free "range") rfl)) (h_all_lines.mono (by decide)) (He.free_ok X G (c.d.fact 37 (f := .free "sorted") rfl))
  have h_w_fan := ok_w_fan (P := P) (w := w) (K := K) (mg := mg) (base := base) (k := 3) F_fan (He.glo_ok X G (c.d.fact 8 (f := .glo "fan") rfl)) (F_fan.bindsN fun _ _ _ _ _ _ us hl => match us, hl with | [_, _], _ => rfl) (h_need_plan.mono (by decide)) (exk_of (He.glo_ok X G (c.d.fact 24 (f := .glo "BadFace") rfl)) (He.exc_ok (c.d.fact 44 (f := .exc "BadFace") rfl))) (h_w_neighbours.mono (by decide))
  exact ok_law (P := P) (w := w) (K := K) (mg := mg) (base := base) (k := 68) F_law (h_o__law_bag.mono (by decide)) (h__law_plan.mono (by decide)) (h__law_pull.mono (by decide)) (He.free_ok X G (c.d.fact 36 (f := .free "range") rfl)) (h__law_fan_word.mono (by decide)) (h__law_fan.mono (by decide)) (h_w_fan.mono (by decide)) (h__law_alike.mono (by decide)) (h_fan.mono (by decide))
end Tx
open PySem PySem.W PySem.Calls PyProof.Rows
theorem PySem.Challenge.cw_pinchfold_k03_fans_told_holds : PySem.Challenge.rw_pinchfold_k03_fans_told.Holds := by
  w_on; o_law
  refine HandSHeadRun.head_any (r := OpenLaw.row PySem.Challenge.rw_pinchfold_k03_fans_told) (q := view (OpenLaw.row PySem.Challenge.rw_pinchfold_k03_fans_told).prog [29]) (H := Tx.hk) (ob := Tx.ob) (M := 6000) (loose := Tx.loose) (d := HandSHeadRun.topDef (OpenLaw.row PySem.Challenge.rw_pinchfold_k03_fans_told).prog 29) (kwd := []) Tx.ob_eq
    (by kernel_rfl) (fun s => by kernel_rfl) Tx.run (by kernel_rfl) (by kernel_rfl) (by kernel_rfl) (by rfl) (by first | assumption | decide +kernel) (by decide +kernel) ⟨rfl, rfl, rfl, rfl, rfl, by decide +kernel⟩ ?hw ?hc
  case hw => w_witness2
  case hc =>
    refine TL.walk_xT (l := PySem.Challenge.rw_pinchfold_k03_fans_told) (m := 63) (j := 69) (x := "_law_script") rfl (by decide) (by kernel_rfl) ⟨rfl, by decide, by decide⟩ ?_
    intro w mg fa h Y G hmg0
    obtain ⟨K0, KX, c⟩ := Y
    have hmg : mg ("law" : PySem.Str) = some (.ref fa) := by
      have e : (HandSHeadRun.topDef (OpenLaw.row PySem.Challenge.rw_pinchfold_k03_fans_told).prog 29).name = ("law" : PySem.Str) := by kernel_rfl
      rw [← e]
      exact hmg0
    exact ⟨_, c.kin KX, TL.lawAt c KX (Tx.facts (P := (PySem.Challenge.rw_pinchfold_k03_fans_told).prog) (w := w) rfl KX G hmg c)⟩
