import PyProof.Rows.All
import Wide.All
import OpenK.AllK
import Wide.FinOn
import HandS.Base
import HandS.Call
import HandS.List
import HandS.Exc
import HandS.ExcOwn
import HandS.Defaults
import HandS.HeadHook1
import HandS.HeadHook2
import HandS.Lambda
import HandS.Deep
import HandS.Wide
import HandS.TupAny
import HandS.SortInts
import KE.SortData
import HandS.Comp
import HandS.TryMany
import HandS.TryOnly
import HandS.HeadEnd
import HandS.Words
import HandS.WordsExc
import HandS.EndBits
import HandS.Iter
import HandS.Walk
import KE.GoesEnum
import KE.GoesMore
import HandS.IsInst
import HandS.Text
import HandS.Dict
import HandS.Conv
import HandS.Style
import HandS.TupLe
import PyProof.StrOps2
import HandS.FStr
import HandS.RaiseMore
import HandS.TupSets
import HandS.HeadHook4
import HandS.HeadWalk
import KE.KDictDisplayH
import HandS.TupLen
import KE.DataMinMax
import KE.KStateDown
import Lean
import HandS.Head0
import HandS.Head1
import HandS.Head2
import PySem.Challenge.RW_pinchfold_k06_plans_refused_at_every_doo
set_option Elab.async false
set_option linter.all false
set_option maxRecDepth 100000
set_option maxHeartbeats 4000000
namespace TL
open PySem PySem.Spec PyProof.Rows L2
abbrev Frag := PySem.W.Frag
abbrev SS := L2.St
def Ex (H H' : Hp) : Prop := ∀ a o, H a = some o → H' a = some o
theorem Ex.refl (H : Hp) : Ex H H := fun _ _ h => h
theorem Ex.trans {H H1 H2 : Hp} (a : Ex H H1) (b : Ex H1 H2) : Ex H H2 := fun x o h => b x o (a x o h)
theorem Ex.new {H : Hp} {p : Addr} {o : HO} (h : H p = none) : Ex H (upd H p o) := fun a u e => by
  rw [upd_ne (ne_of_none e h)]; exact e
theorem Ex.mut {H H' : Hp} {p : Addr} {o : HO} (e : Ex H H') (h : H p = none) : Ex H (upd H' p o) := fun a u ha => by
  rw [upd_ne (ne_of_none ha h)]; exact e a u ha
theorem Ex.none {H H' : Hp} (e : Ex H H') {a : Addr} (h : H' a = none) : H a = none := by
  cases q : H a with
  | none => rfl
  | some o => rw [e a o q] at h; cases h
theorem ex_rd {H H' : Hp} {a : Addr} {u : HO} (e : Ex H H') (h : Rd H a u) : Rd H' a u := by
  rcases h with h | ⟨o, h⟩
  · exact .inl (e a _ h)
  · exact .inr ⟨o, e a _ h⟩
theorem ex_l {K : Frag} {H H' : Hp} {a : Addr} {xs : List V} (e : Ex H H') (h : SqL K H a xs) : SqL K H' a xs := by
  rcases h with h | h
  · exact .inl (ex_rd e h)
  · exact .inr h
theorem ex_t {K : Frag} {H H' : Hp} {a : Addr} {xs : List V} (e : Ex H H') (h : SqT K H a xs) : SqT K H' a xs := by
  rcases h with h | h
  · exact .inl (ex_rd e h)
  · exact .inr h
def kD : Key → PyData
  | .inl i => .int i
  | .inr s => .str s
def kitTys : List String := ["NoneType", "bool", "int", "str", "list", "tuple", "dict"]
/-- a class of the program's own that is none of the kit's types -/
structure InsK (K : Frag) (n : Str) : Prop where
  cls : Cls K (He.ga K n)
  c1 : PySem.W.findIn K (.ref (He.ga K n)) (Str.ofString "__class__") = some (some (.builtin "object.__class__"))
  c2 : PySem.W.specialIn K (.builtin "object.__class__") (Str.ofString "__get__") = some (some (.builtin "getset_descriptor.__get__"))
  c3 : PySem.W.takesIn K (.builtin "object.__class__") = some true
  c4 : PySem.W.mroIn K (He.ga K n) (.type "object") = some true
  kit : ∀ T ∈ kitTys, PySem.W.kitOne K (.ref (He.ga K n)) (.type T) = some false
mutual
inductive Dq (K : Frag) (H : Hp) : V → PyData → Prop
  | non : Dq K H .non .none
  | bl (b : Bool) : Dq K H (.bl b) (.bool b)
  | int (i : Int) : Dq K H (.int i) (.int i)
  | str (x : Str) : Dq K H (.str x) (.str x)
  | lst {a : Addr} {xs : List V} {ds : List PyData} : SqL K H a xs → DqAll K H xs ds → Dq K H (.ref a) (.list ds)
  | tup {a : Addr} {xs : List V} {ds : List PyData} : H a = some (.tup xs) → DqAll K H xs ds → Dq K H (.ref a) (.tuple ds)
  | dct {a : Addr} {vs : List (List Key × V)} {kvs : List (PyData × PyData)} : H a = some (.dT vs) → DqT K H vs kvs → Dq K H (.ref a) (.dict ((.none, .none) :: kvs))
  | dck {a : Addr} {vs : List (Key × V)} {kvs : List (PyData × PyData)} : H a = some (.dK vs) → DqK K H vs kvs → Dq K H (.ref a) (.dict kvs)
  | ins {a dx : Addr} {n : Str} {vs : List (Str × V)} {kvs : List (PyData × PyData)} : InsK K n → H a = some (.ins (He.ga K n) dx vs) → DqF K H vs kvs → Dq K H (.ref a) (.dict ((.bool true, .str n) :: kvs))
inductive DqAll (K : Frag) (H : Hp) : List V → List PyData → Prop
  | nil : DqAll K H [] []
  | cons {v : V} {vs : List V} {d : PyData} {ds : List PyData} : Dq K H v d → DqAll K H vs ds → DqAll K H (v :: vs) (d :: ds)
inductive DqT (K : Frag) (H : Hp) : List (List Key × V) → List (PyData × PyData) → Prop
  | nil : DqT K H [] []
  | cons {k : List Key} {v : V} {vs : List (List Key × V)} {d : PyData} {ds : List (PyData × PyData)} : Dq K H v d → DqT K H vs ds → DqT K H ((k, v) :: vs) ((.tuple (k.map kD), d) :: ds)
inductive DqK (K : Frag) (H : Hp) : List (Key × V) → List (PyData × PyData) → Prop
  | nil : DqK K H [] []
  | cons {k : Key} {v : V} {vs : List (Key × V)} {d : PyData} {ds : List (PyData × PyData)} : Dq K H v d → DqK K H vs ds → DqK K H ((k, v) :: vs) ((kD k, d) :: ds)
inductive DqF (K : Frag) (H : Hp) : List (Str × V) → List (PyData × PyData) → Prop
  | nil : DqF K H [] []
  | cons {k : Str} {v : V} {vs : List (Str × V)} {d : PyData} {ds : List (PyData × PyData)} : Dq K H v d → DqF K H vs ds → DqF K H ((k, v) :: vs) ((.str k, d) :: ds)
end
section
variable {K : Frag} {H H' : Hp}
mutual
theorem dp_mono (e : Ex H H') : ∀ (d : PyData) (v : V), Dq K H v d → Dq K H' v d
  | _, _, .non => .non
  | _, _, .bl b => .bl b
  | _, _, .int i => .int i
  | _, _, .str x => .str x
  | _, _, .lst hs ha => .lst (ex_l e hs) (dpa_mono e _ _ ha)
  | _, _, .tup hs ha => .tup (e _ _ hs) (dpa_mono e _ _ ha)
  | _, _, .dct hs ha => .dct (e _ _ hs) (dqt_mono e _ _ ha)
  | _, _, .dck hs ha => .dck (e _ _ hs) (dqk_mono e _ _ ha)
  | _, _, .ins hk hs ha => .ins hk (e _ _ hs) (dqf_mono e _ _ ha)
theorem dpa_mono (e : Ex H H') : ∀ (ds : List PyData) (vs : List V), DqAll K H vs ds → DqAll K H' vs ds
  | _, _, .nil => .nil
  | _, _, .cons h1 h2 => .cons (dp_mono e _ _ h1) (dpa_mono e _ _ h2)
theorem dqt_mono (e : Ex H H') : ∀ (ds : List (PyData × PyData)) (vs : List (List Key × V)), DqT K H vs ds → DqT K H' vs ds
  | _, _, .nil => .nil
  | _, _, .cons h1 h2 => .cons (dp_mono e _ _ h1) (dqt_mono e _ _ h2)
theorem dqk_mono (e : Ex H H') : ∀ (ds : List (PyData × PyData)) (vs : List (Key × V)), DqK K H vs ds → DqK K H' vs ds
  | _, _, .nil => .nil
  | _, _, .cons h1 h2 => .cons (dp_mono e _ _ h1) (dqk_mono e _ _ h2)
theorem dqf_mono (e : Ex H H') : ∀ (ds : List (PyData × PyData)) (vs : List (Str × V)), DqF K H vs ds → DqF K H' vs ds
  | _, _, .nil => .nil
  | _, _, .cons h1 h2 => .cons (dp_mono e _ _ h1) (dqf_mono e _ _ h2)
end
mutual
theorem dq_dp : ∀ (d : PyData) (v : V), d.canLay0 = true → Dq K H v d → Dp K H v d
  | .none, _, _, h => by cases h; exact .non
  | .bool b, _, _, h => by cases h; exact .bl b
  | .int i, _, _, h => by cases h; exact .int i
  | .str x, _, _, h => by cases h; exact .str x
  | .list ds, _, c, h => by
    cases h with
    | lst hs ha => exact .lst hs (dqa_dpa ds _ (by simpa [PyData.canLay0] using c) ha)
  | .tuple ds, _, c, h => by
    cases h with
    | tup hs ha => exact .tup (SqT.of hs) (dqa_dpa ds _ (by simpa [PyData.canLay0] using c) ha)
  | .dict _, _, c, _ => nomatch c
theorem dqa_dpa : ∀ (ds : List PyData) (vs : List V), PyData.canLayAll0 ds = true → DqAll K H vs ds → DpAll K H vs ds
  | [], _, _, h => by cases h; exact .nil
  | d :: ds, _, c, h => by
    have c' : d.canLay0 = true ∧ PyData.canLayAll0 ds = true := by simpa [PyData.canLayAll0] using c
    cases h with
    | cons h1 h2 => exact .cons (dq_dp d _ c'.1 h1) (dqa_dpa ds _ c'.2 h2)
end
theorem shp_lay {d : PyData} (h : SeqAt.shaped d = true) : d.canLay0 = true := (Bool.and_eq_true_iff.mp h).1
theorem dp_int {v : V} {i : Int} (h : Dq K H v (.int i)) : v = .int i := by cases h; rfl
theorem dp_str {v : V} {i : Str} (h : Dq K H v (.str i)) : v = .str i := by cases h; rfl
theorem dp_bl {v : V} {i : Bool} (h : Dq K H v (.bool i)) : v = .bl i := by cases h; rfl
theorem dp_non {v : V} (h : Dq K H v .none) : v = .non := by cases h; rfl
theorem dp_lst {v : V} {ds : List PyData} (h : Dq K H v (.list ds)) : ∃ a xs, v = .ref a ∧ SqL K H a xs ∧ DqAll K H xs ds := by
  cases h with
  | lst hs ha => exact ⟨_, _, rfl, hs, ha⟩
theorem dp_tup {v : V} {ds : List PyData} (h : Dq K H v (.tuple ds)) : ∃ a xs, v = .ref a ∧ SqT K H a xs ∧ DqAll K H xs ds := by
  cases h with
  | tup hs ha => exact ⟨_, _, rfl, SqT.of hs, ha⟩
theorem dp_tup' {v : V} {ds : List PyData} (h : Dq K H v (.tuple ds)) : ∃ a xs, v = .ref a ∧ H a = some (.tup xs) ∧ DqAll K H xs ds := by
  cases h with
  | tup hs ha => exact ⟨_, _, rfl, hs, ha⟩
theorem dpa_len : ∀ {vs : List V} {ds : List PyData}, DqAll K H vs ds → vs.length = ds.length
  | _, [], h => by cases h; rfl
  | _, _ :: _, h => by
    cases h with
    | cons h1 h2 => exact congrArg Nat.succ (dpa_len h2)
theorem dpa_get : ∀ {ds : List PyData} {vs : List V} {i : Nat} {d : PyData}, DqAll K H vs ds → ds[i]? = some d → ∃ v, vs[i]? = some v ∧ Dq K H v d
  | [], _, _, _, _, e => by simp at e
  | x :: ds, _, 0, d, h, e => by
    cases h with
    | cons h1 h2 =>
      have e' : x = d := Option.some.inj e
      subst e'
      exact ⟨_, rfl, h1⟩
  | x :: ds, _, i + 1, d, h, e => by
    cases h with
    | cons h1 h2 => exact dpa_get (i := i) h2 e
theorem dpa_of : ∀ {ds : List PyData} {vs : List V} {i : Nat} {v : V}, DqAll K H vs ds → vs[i]? = some v → ∃ d, ds[i]? = some d ∧ Dq K H v d
  | [], _, _, _, h, e => by cases h; simp at e
  | x :: ds, _, 0, v, h, e => by
    cases h with
    | cons h1 h2 =>
      have e' := Option.some.inj e
      subst e'
      exact ⟨_, rfl, h1⟩
  | x :: ds, _, i + 1, d, h, e => by
    cases h with
    | cons h1 h2 => exact dpa_of (i := i) h2 e
theorem dpa_app : ∀ {ds es : List PyData} {vs ws : List V}, DqAll K H vs ds → DqAll K H ws es → DqAll K H (vs ++ ws) (ds ++ es)
  | [], _, _, _, h, g => by cases h; exact g
  | _ :: _, _, _, _, h, g => by
    cases h with
    | cons h1 h2 => exact .cons h1 (dpa_app h2 g)
theorem dpa_one {v : V} {d : PyData} (h : Dq K H v d) : DqAll K H [v] [d] := .cons h .nil
theorem dpa_set : ∀ {ds : List PyData} {vs : List V} (i : Nat) {v : V} {d : PyData}, DqAll K H vs ds → Dq K H v d → DqAll K H (vs.set i v) (ds.set i d)
  | [], _, _, _, _, h, _ => by cases h; exact .nil
  | _ :: _, _, 0, _, _, h, g => by
    cases h with
    | cons h1 h2 => exact .cons g h2
  | _ :: _, _, i + 1, _, _, h, g => by
    cases h with
    | cons h1 h2 => exact .cons h1 (dpa_set i h2 g)
theorem dpa_take : ∀ (n : Nat) {ds : List PyData} {vs : List V}, DqAll K H vs ds → DqAll K H (vs.take n) (ds.take n)
  | 0, _, _, _ => .nil
  | _ + 1, [], _, h => by cases h; exact .nil
  | n + 1, _ :: _, _, h => by
    cases h with
    | cons h1 h2 => exact .cons h1 (dpa_take n h2)
theorem dpa_drop : ∀ (n : Nat) {ds : List PyData} {vs : List V}, DqAll K H vs ds → DqAll K H (vs.drop n) (ds.drop n)
  | 0, _, _, h => h
  | _ + 1, [], _, h => by cases h; exact .nil
  | n + 1, _ :: _, _, h => by
    cases h with
    | cons h1 h2 => exact dpa_drop n h2
theorem dpa_rev : ∀ {ds : List PyData} {vs : List V}, DqAll K H vs ds → DqAll K H vs.reverse ds.reverse
  | [], _, h => by cases h; exact .nil
  | d :: ds, _, h => by
    cases h with
    | cons h1 h2 =>
      rw [List.reverse_cons, List.reverse_cons]
      exact dpa_app (dpa_rev h2) (dpa_one h1)
theorem dpa_ints : ∀ (ns : List Int), DqAll K H (ns.map V.int) (ns.map PyData.int)
  | [] => .nil
  | n :: ns => .cons (.int n) (dpa_ints ns)
theorem dpa_ints_eq : ∀ {ns : List Int} {vs : List V}, DqAll K H vs (ns.map PyData.int) → vs = ns.map V.int
  | [], _, h => by
    have h' : DqAll K H _ [] := h
    cases h'; rfl
  | n :: ns, _, h => by
    have h' : DqAll K H _ (.int n :: ns.map PyData.int) := h
    cases h' with
    | cons h1 h2 => rw [dp_int h1, dpa_ints_eq h2]; rfl
end
structure Lam where
  q : Str
  ps : Arguments
  bd : Expr
  sc : Scope
  cl : List (Str × Addr)
abbrev Lam.ob (l : Lam) (c : Addr) (pm ct : Value) : Obj := PySem.W.kla_obj "<lambda>" l.q l.ps l.bd l.sc l.cl pm c ct
def LamO (f : Addr) (l : Lam) (c : Addr) : HO := .ext fun h => ∃ pm ct, h.get? f = some (l.ob c pm ct)
def IsLam (F : Hp) (v : V) (l : Lam) : Prop := ∃ f c, v = .ref f ∧ F f = some (LamO f l c) ∧ F c = some (LamX.CodeO c l.q)
def LamsAre (F : Hp) : List V → List Lam → Prop
  | [], [] => True
  | v :: vs, l :: ls => IsLam F v l ∧ LamsAre F vs ls
  | _, _ => False
theorem IsLam.mono {F F' : Hp} {v : V} {l : Lam} (h : IsLam F v l) (e : Ex F F') : IsLam F' v l := by
  obtain ⟨f, c, h1, h2, h3⟩ := h
  exact ⟨f, c, h1, e _ _ h2, e _ _ h3⟩
theorem LamsAre.mono {F F' : Hp} (e : Ex F F') : ∀ {vs : List V} {ls : List Lam}, LamsAre F vs ls → LamsAre F' vs ls
  | [], [], _ => trivial
  | _ :: _, _ :: _, ⟨h1, h2⟩ => ⟨h1.mono e, h2.mono e⟩
/-- a bag of draws -/
def BagD (ds : List PyData) : Prop := ∃ (cells : List Int) (i s t : Int), ds = [.list (cells.map .int), .int i, .int s, .int t] ∧ (∀ c ∈ cells, 0 ≤ c) ∧ 0 ≤ i ∧ 0 ≤ s ∧ 0 ≤ t ∧ t < 2147483629
/-- what an owned thing of another shape is: told by the addresses that it owns and by what stands there -/
def plainO : HO → Bool
  | .lst _ => true
  | .dK _ => true
  | .dT _ => true
  | .ins _ _ _ => true
  | .own _ => true
  | _ => false
structure OwT where
  id : Addr
  fp : List Addr
  ok : Frag → Hp → Hp → V → Prop
  isr : ∀ {K : Frag} {F H : Hp} {v : V}, ok K F H v → v = .ref id
  mono : ∀ {K : Frag} {F F' H H' : Hp} {v : V}, Ex F F' → (∀ a ∈ fp, ∀ u, H a = some u → H' a = some u) → ok K F H v → ok K F' H' v
  there : ∀ {K : Frag} {F H : Hp} {v : V}, ok K F H v → ∀ a ∈ fp, ∃ u, H a = some u ∧ plainO u = true
  /-- the lists in it -/
  rows : List (Addr × List PyData)
  held : ∀ {K : Frag} {F H : Hp} {v : V}, ok K F H v → ∀ r ∈ rows, ∃ vs, H r.1 = some (.lst vs) ∧ DqAll K F vs r.2
inductive Sl where
  | un
  | d (x : PyData)
  | ol (a : Addr) (ds : List PyData)
  | bg (b : Addr)
  | v (x : V)
  | dt (a : Addr) (kvs : List (List Key × PyData))
  | dk (a : Addr) (kvs : List (Key × PyData))
  | oo (a : Addr) (rows : List (Addr × List PyData))
  | fv (l : Lam)
  | fl (ls : List Lam)
  | ow (t : OwT)
def Sl.fp : Sl → List Addr
  | .ol a _ => [a]
  | .bg a => [a]
  | .dt a _ => [a]
  | .dk a _ => [a]
  | .oo a rows => a :: rows.map (·.1)
  | .ow t => t.fp
  | _ => []
def KVp {κ : Type} (K : Frag) (F : Hp) : List (κ × V) → List (κ × PyData) → Prop := Paired fun p q => p.1 = q.1 ∧ Dq K F p.2 q.2
def SlOk (K : Frag) (F H : Hp) (o : Option V) : Sl → Prop
  | .un => True
  | .d x => ∃ v, o = some v ∧ Dq K F v x
  | .ol a ds => o = some (.ref a) ∧ ∃ vs, H a = some (.lst vs) ∧ DqAll K F vs ds
  | .bg a => o = some (.ref a) ∧ ∃ ds vs, BagD ds ∧ H a = some (.lst vs) ∧ DqAll K F vs ds
  | .v x => o = some x
  | .dt a kvs => o = some (.ref a) ∧ ∃ kvs', H a = some (.dT kvs') ∧ KVp K F kvs' kvs
  | .dk a kvs => o = some (.ref a) ∧ ∃ kvs', H a = some (.dK kvs') ∧ KVp K F kvs' kvs
  | .fv l => ∃ v, o = some v ∧ IsLam F v l
  | .fl ls => ∃ a vs, o = some (.ref a) ∧ F a = some (.lst vs) ∧ LamsAre F vs ls
  | .ow t => ∃ v, o = some v ∧ t.ok K F H v
  | .oo a rows => o = some (.ref a) ∧ H a = some (.lst (rows.map fun r => .ref r.1)) ∧ (a :: rows.map (·.1)).Nodup ∧ ∀ r ∈ rows, ∃ vs, H r.1 = some (.lst vs) ∧ DqAll K F vs r.2
def Own (env : List Sl) (a : Addr) : Prop := ∃ (i : Nat) (s : Sl), env[i]? = some s ∧ a ∈ s.fp
theorem paired_imp {α β : Type} {R S : α → β → Prop} : ∀ {xs : List α} {ys : List β}, Paired R xs ys → (∀ a b, R a b → S a b) → Paired S xs ys
  | _, _, .nil, _ => .nil
  | _, _, .cons r t, f => .cons (f _ _ r) (paired_imp t f)
theorem kvp_mono {κ : Type} {K : Frag} {F F' : Hp} (e : Ex F F') {a : List (κ × V)} {b : List (κ × PyData)} (h : KVp K F a b) : KVp K F' a b :=
  paired_imp h fun _ _ z => ⟨z.1, dp_mono e _ _ z.2⟩
theorem slok_mono {K : Frag} {F F' H H' : Hp} {o : Option V} {s : Sl} (e : Ex F F') (k : ∀ a ∈ s.fp, ∀ u, H a = some u → H' a = some u) (h : SlOk K F H o s) : SlOk K F' H' o s := by
  cases s with
  | un => trivial
  | d x => obtain ⟨v, h1, h2⟩ := h; exact ⟨v, h1, dp_mono e _ _ h2⟩
  | ol a ds => obtain ⟨h1, vs, h2, h3⟩ := h; exact ⟨h1, vs, k a (by simp [Sl.fp]) _ h2, dpa_mono e _ _ h3⟩
  | bg a => obtain ⟨h1, ds, vs, h4, h2, h3⟩ := h; exact ⟨h1, ds, vs, h4, k a (by simp [Sl.fp]) _ h2, dpa_mono e _ _ h3⟩
  | v x => exact h
  | dt a kvs => obtain ⟨h1, vs, h2, h3⟩ := h; exact ⟨h1, vs, k a (by simp [Sl.fp]) _ h2, kvp_mono e h3⟩
  | dk a kvs => obtain ⟨h1, vs, h2, h3⟩ := h; exact ⟨h1, vs, k a (by simp [Sl.fp]) _ h2, kvp_mono e h3⟩
  | fv l => obtain ⟨v, h1, h2⟩ := h; exact ⟨v, h1, h2.mono e⟩
  | fl ls => obtain ⟨a, vs, h1, h2, h3⟩ := h; exact ⟨a, vs, h1, e _ _ h2, h3.mono e⟩
  | ow t => obtain ⟨v, h1, h2⟩ := h; exact ⟨v, h1, t.mono e k h2⟩
  | oo a rows =>
    obtain ⟨h1, h2, h3, h4⟩ := h
    refine ⟨h1, k a (by simp [Sl.fp]) _ h2, h3, fun r hr => ?_⟩
    obtain ⟨vs, q1, q2⟩ := h4 r hr
    exact ⟨vs, k r.1 (List.mem_cons_of_mem _ (List.mem_map_of_mem hr)) _ q1, dpa_mono e _ _ q2⟩
theorem slok_there {K : Frag} {F H : Hp} {o : Option V} {s : Sl} (h : SlOk K F H o s) {a : Addr} (ha : a ∈ s.fp) : H a ≠ none := by
  cases s with
  | un => cases ha
  | ow t => obtain ⟨v, _, h2⟩ := h; obtain ⟨u, h3, _⟩ := t.there h2 a ha; rw [h3]; intro z; cases z
  | fv l => cases ha
  | fl l => cases ha
  | d x => cases ha
  | v x => cases ha
  | ol b ds => obtain ⟨_, vs, h2, _⟩ := h; have e : a = b := by simpa [Sl.fp] using ha
               subst e; rw [h2]; intro z; cases z
  | bg b => obtain ⟨_, ds, vs, _, h2, _⟩ := h; have e : a = b := by simpa [Sl.fp] using ha
            subst e; rw [h2]; intro z; cases z
  | dt b ds => obtain ⟨_, vs, h2, _⟩ := h; have e : a = b := by simpa [Sl.fp] using ha
               subst e; rw [h2]; intro z; cases z
  | dk b ds => obtain ⟨_, vs, h2, _⟩ := h; have e : a = b := by simpa [Sl.fp] using ha
               subst e; rw [h2]; intro z; cases z
  | oo b rows =>
    obtain ⟨_, h2, _, h4⟩ := h
    have ha : a = b ∨ a ∈ rows.map (·.1) := List.mem_cons.mp ha
    rcases ha with rfl | ha
    · rw [h2]; intro z; cases z
    · obtain ⟨r, hr, rfl⟩ := List.mem_map.mp ha
      obtain ⟨vs, q1, _⟩ := h4 r hr
      rw [q1]; intro z; cases z
/-- what stood at a def's entry: the frozen part, the heap, the objects that may be changed -/
structure G where
  F0 : Hp
  H0 : Hp
  M : List Addr
def markOf (q : Addr × Obj) : Option (Addr × Str) := match q.2.data with
  | .fields vs => match vs.toList with
    | [.str m _, .ref P, .str n _] => if m = ("lam!" : Str) then some (P, n) else none
    | _ => none
  | _ => none
def tabsK (K : Frag) : List (Addr × Str) := K.filterMap markOf
def ntb (o : HO) : Prop := ∀ ps, o ≠ .tbl ps
def TabF (F H : Hp) (P : Addr) (q : Str) : Prop := ∃ ps : Array Value, H P = some (.tbl ps) ∧ TriplesOk ps.toList ∧ ∀ (pos : Pos) (cv : Value), codeAmong pos ps.toList = some cv → ∃ c, cv = .ref c ∧ F c = some (LamX.CodeO c q)
structure TkOk (K : Frag) (F H : Hp) : Prop where
  fn : ∀ a ps, F a ≠ some (.tbl ps)
  tb : ∀ p ∈ tabsK K, TabF F H p.1 p.2
structure Sk (K : Frag) (F H : Hp) (σ : SS) (env : List Sl) : Prop where
  len : σ.length = env.length
  sl : ∀ (i : Nat) (s : Sl), env[i]? = some s → SlOk K F H (σ[i]?.getD none) s
  nd : ∀ (i j : Nat) (s t : Sl) (a : Addr), env[i]? = some s → env[j]? = some t → a ∈ s.fp → a ∈ t.fp → i = j
  fr : ∀ a, Own env a → F a = none
  ex : Ex F H
  tf : ∀ (a : Addr) (vs : List V), H a = some (.tup vs) → F a = some (.tup vs)
  tk : TkOk K F H
structure GtOk (K : Frag) (g : G) (H : Hp) : Prop where
  g7 : ∀ a ps, g.H0 a = some (.tbl ps) → H a ≠ none
  g8 : ∀ p ∈ tabsK K, g.H0 p.1 ≠ none
structure St (K : Frag) (g : G) (F H : Hp) (σ : SS) (env : List Sl) : Prop extends Sk K F H σ env where
  g1 : ∀ a o, g.H0 a = some o → a ∉ g.M → ntb o → H a = some o
  g2 : ∀ a, Own env a → g.H0 a = none ∨ a ∈ g.M
  g3 : Ex g.F0 F
  g4 : ∀ a, F a ≠ none → g.F0 a ≠ none ∨ g.H0 a = none
  g5 : ∀ a ∈ g.M, H a ≠ none
  g6 : ∀ a ∈ g.M, g.H0 a ≠ none
  gt : GtOk K g H
section
variable {K : Frag} {g : G} {F F' H H' : Hp} {σ : SS} {env : List Sl} {p : Addr} {o : HO}
theorem TabF.mono {P : Addr} {q : Str} (t : TabF F H P q) (e : Ex F F') (h : ∀ u, H P = some u → H' P = some u) : TabF F' H' P q := by
  obtain ⟨ps, h1, h2, h3⟩ := t
  exact ⟨ps, h _ h1, h2, fun pos cv hc => by obtain ⟨c, e1, e2⟩ := h3 pos cv hc; exact ⟨c, e1, e _ _ e2⟩⟩
theorem TkOk.grow (t : TkOk K F H) (e : Ex H H') : TkOk K F H' := ⟨t.fn, fun p hp => (t.tb p hp).mono (Ex.refl F) fun u q => e _ u q⟩
theorem TkOk.put {p' : Addr} (t : TkOk K F H) (h : ∀ p ∈ tabsK K, p.1 ≠ p') : TkOk K F (upd H p' o) := ⟨t.fn, fun p hp => (t.tb p hp).mono (Ex.refl F) fun u q => by rw [upd_ne (h p hp)]; exact q⟩
theorem TkOk.ne (t : TkOk K F H) {a : Addr} (h : ∀ ps, H a ≠ some (.tbl ps)) : ∀ p ∈ tabsK K, p.1 ≠ a := fun p hp z => by
  obtain ⟨ps, h1, _⟩ := t.tb p hp
  exact h ps (z ▸ h1)
theorem slok_ntb {o : Option V} {s : Sl} (h : SlOk K F H o s) {a : Addr} (ha : a ∈ s.fp) : ∀ ps, H a ≠ some (.tbl ps) := by
  cases s with
  | un => cases ha
  | ow t => obtain ⟨v, _, h2⟩ := h; obtain ⟨u, h3, h4⟩ := t.there h2 a ha; rw [h3]; intro ps z; cases z; cases h4
  | fv l => cases ha
  | fl l => cases ha
  | d x => cases ha
  | v x => cases ha
  | ol b ds => obtain ⟨_, vs, h2, _⟩ := h; have e : a = b := by simpa [Sl.fp] using ha
               subst e; rw [h2]; intro _ z; cases z
  | bg b => obtain ⟨_, ds, vs, _, h2, _⟩ := h; have e : a = b := by simpa [Sl.fp] using ha
            subst e; rw [h2]; intro _ z; cases z
  | dt b ds => obtain ⟨_, vs, h2, _⟩ := h; have e : a = b := by simpa [Sl.fp] using ha
               subst e; rw [h2]; intro _ z; cases z
  | dk b ds => obtain ⟨_, vs, h2, _⟩ := h; have e : a = b := by simpa [Sl.fp] using ha
               subst e; rw [h2]; intro _ z; cases z
  | oo b rows =>
    obtain ⟨_, h2, _, h4⟩ := h
    have ha : a = b ∨ a ∈ rows.map (·.1) := List.mem_cons.mp ha
    rcases ha with rfl | ha
    · rw [h2]; intro _ z; cases z
    · obtain ⟨r, hr, rfl⟩ := List.mem_map.mp ha
      obtain ⟨vs, q1, _⟩ := h4 r hr
      rw [q1]; intro _ z; cases z
theorem Sk.ntb (st : Sk K F H σ env) {a : Addr} (h : Own env a) : ∀ ps, H a ≠ some (.tbl ps) := by
  obtain ⟨i, s, h1, h2⟩ := h
  exact slok_ntb (st.sl i s h1) h2
theorem GtOk.grow (t : GtOk K g H) (e : ∀ a, H' a = none → H a = none) : GtOk K g H' := ⟨fun a ps h z => t.g7 a ps h (e a z), t.g8⟩
theorem Sk.there (st : Sk K F H σ env) {a : Addr} (h : Own env a) : H a ≠ none := by
  obtain ⟨i, s, h1, h2⟩ := h
  exact slok_there (st.sl i s h1) h2
theorem Sk.notown (st : Sk K F H σ env) (h : H p = none) : ¬ Own env p := fun z => st.there z h
/-- the heap grows -/
theorem Sk.grow (st : Sk K F H σ env) (e : Ex H H') (t : ∀ (a : Addr) (vs : List V), H' a = some (.tup vs) → H a = some (.tup vs)) : Sk K F H' σ env :=
  ⟨st.len, fun i s h => slok_mono (Ex.refl F) (fun a _ u q => e a u q) (st.sl i s h), st.nd, st.fr, st.ex.trans e, fun a vs h => st.tf a vs (t a vs h), st.tk.grow e⟩
theorem St.grow (st : St K g F H σ env) (e : Ex H H') (t : ∀ (a : Addr) (vs : List V), H' a = some (.tup vs) → H a = some (.tup vs)) : St K g F H' σ env :=
  { st.toSk.grow e t with g1 := fun a o h m n => e a o (st.g1 a o h m n), gt := st.gt.grow fun a z => e.none z, g2 := st.g2, g3 := st.g3, g4 := st.g4, g5 := fun a m z => st.g5 a m (e.none z), g6 := st.g6 }
theorem St.alloc (st : St K g F H σ env) (h : H p = none) (ht : ∀ vs, o ≠ .tup vs := by intro _ z; cases z) : St K g F (upd H p o) σ env := st.grow (Ex.new h) fun a vs q => by
  by_cases e : a = p
  · subst e; rw [upd_same] at q; exact absurd (Option.some.inj q) (ht vs)
  · rw [upd_ne e] at q; exact q
/-- frozen part and heap grow by what is fresh -/
theorem St.h0 (st : St K g F H σ env) (h : H p = none) : g.H0 p = none := by
  cases q : g.H0 p with
  | none => rfl
  | some u =>
    by_cases m : p ∈ g.M
    · exact absurd h (st.g5 p m)
    · have hn : TL.ntb u := fun ps z => st.gt.g7 p ps (by rw [q, z]) h
      rw [st.g1 p u q m hn] at h; cases h
theorem Sk.freeze (st : Sk K F H σ env) (h : H p = some o) (hF : F p = none) (hn : ¬ Own env p) (hb : TL.ntb o := by intro _ z; cases z) : Sk K (upd F p o) H σ env where
  len := st.len
  sl := fun i s e => slok_mono (Ex.new hF) (fun a _ u q => q) (st.sl i s e)
  nd := st.nd
  fr := fun a ha => by
    have hne : a ≠ p := fun z => hn (z ▸ ha)
    rw [upd_ne hne]; exact st.fr a ha
  ex := fun a u q => by
    by_cases hp : a = p
    · subst hp; rw [upd_same] at q; cases q; exact h
    · rw [upd_ne hp] at q; exact st.ex a u q
  tf := fun a vs q => by
    by_cases hp : a = p
    · subst hp; rw [h] at q; cases q; exact upd_same
    · rw [upd_ne hp]; exact st.tf a vs q
  tk := ⟨fun a ps q => by
    by_cases hp : a = p
    · subst hp; rw [upd_same] at q; exact hb ps (Option.some.inj q)
    · rw [upd_ne hp] at q; exact st.tk.fn a ps q, fun r hr => (st.tk.tb r hr).mono (Ex.new hF) fun _ q => q⟩
theorem St.freeze (st : St K g F H σ env) (h : H p = some o) (hF : F p = none) (hn : ¬ Own env p) (h0 : g.H0 p = none) (hb : TL.ntb o := by intro _ z; cases z) : St K g (upd F p o) H σ env :=
  { st.toSk.freeze h hF hn hb with
    gt := st.gt,
    g1 := st.g1, g2 := st.g2, g3 := st.g3.trans (Ex.new hF), g5 := st.g5, g6 := st.g6,
    g4 := fun a ha => by
      by_cases hp : a = p
      · subst hp; exact .inr h0
      · rw [upd_ne hp] at ha; exact st.g4 a ha }
theorem St.allocF (st : St K g F H σ env) (h : H p = none) (hb : TL.ntb o := by intro _ z; cases z) : St K g (upd F p o) (upd H p o) σ env where
  len := st.len
  sl := fun i s e => slok_mono (Ex.new (st.ex.none h)) (fun a _ u q => Ex.new h a u q) (st.sl i s e)
  nd := st.nd
  fr := fun a ha => by
    have hne : a ≠ p := fun z => st.toSk.notown h (z ▸ ha)
    rw [upd_ne hne]; exact st.fr a ha
  ex := fun a u q => by
    by_cases e : a = p
    · subst e; rw [upd_same] at q; rw [upd_same]; exact q
    · rw [upd_ne e] at q; rw [upd_ne e]; exact st.ex a u q
  tf := fun a vs q => by
    by_cases e : a = p
    · subst e; rw [upd_same] at q; rw [upd_same]; exact q
    · rw [upd_ne e] at q; rw [upd_ne e]; exact st.tf a vs q
  tk := ⟨fun a ps q => by
    by_cases hp : a = p
    · subst hp; rw [upd_same] at q; exact hb ps (Option.some.inj q)
    · rw [upd_ne hp] at q; exact st.tk.fn a ps q, fun r hr => (st.tk.tb r hr).mono (Ex.new (st.ex.none h)) fun u q => Ex.new h _ u q⟩
  gt := st.gt.grow fun a z => by
    by_cases e : a = p
    · subst e; exact h
    · rw [upd_ne e] at z; exact z
  g1 := fun a u q m n => by
    have hne : a ≠ p := fun z => by subst z; have := st.g1 a u q m n; rw [h] at this; cases this
    rw [upd_ne hne]; exact st.g1 a u q m n
  g2 := st.g2
  g3 := st.g3.trans (Ex.new (st.ex.none h))
  g4 := fun a ha => by
    by_cases e : a = p
    · subst e; exact .inr (st.h0 h)
    · rw [upd_ne e] at ha; exact st.g4 a ha
  g5 := fun a m z => by
    by_cases e : a = p
    · subst e; rw [upd_same] at z; cases z
    · rw [upd_ne e] at z; exact st.g5 a m z
  g6 := st.g6
theorem getD_set {σ : SS} {i j : Nat} {v : V} (hl : i < σ.length) : ((σ.set i (some v))[j]?.getD none) = if i = j then some v else (σ[j]?.getD none) := by
  rw [List.getElem?_set]
  by_cases h : i = j
  · subst h; rw [if_pos rfl, if_pos rfl, if_pos hl]; rfl
  · rw [if_neg h, if_neg h]
theorem set_get {env : List Sl} {i j : Nat} {s t : Sl} (h : (env.set i s)[j]? = some t) : (i = j ∧ t = s) ∨ (i ≠ j ∧ env[j]? = some t) := by
  rw [List.getElem?_set] at h
  by_cases e : i = j
  · subst e
    rw [if_pos rfl] at h
    split at h
    · exact .inl ⟨rfl, (Option.some.inj h).symm⟩
    · cases h
  · rw [if_neg e] at h; exact .inr ⟨e, h⟩
theorem own_set {i : Nat} {s : Sl} {a : Addr} (h : Own (env.set i s) a) : a ∈ s.fp ∨ Own env a := by
  obtain ⟨j, t, h1, h2⟩ := h
  rcases set_get h1 with ⟨_, rfl⟩ | ⟨_, h1⟩
  · exact .inl h2
  · exact .inr ⟨j, t, h1, h2⟩
/-- a slot is stored: s is a new description, its footprint new or the slot's own -/
theorem Sk.set {i : Nat} {v : V} {s : Sl} (st : Sk K F H σ env) (hi : i < env.length) (h : SlOk K F H (some v) s) (hfr : ∀ a ∈ s.fp, F a = none)
    (hn : ∀ a ∈ s.fp, ∀ (j : Nat) (t : Sl), j ≠ i → env[j]? = some t → a ∉ t.fp) : Sk K F H (σ.set i (some v)) (env.set i s) where
  len := by rw [List.length_set, List.length_set]; exact st.len
  sl := fun j t e => by
    rw [getD_set (by rw [st.len]; exact hi)]
    rcases set_get e with ⟨rfl, rfl⟩ | ⟨ne, e⟩
    · rw [if_pos rfl]; exact h
    · rw [if_neg ne]; exact st.sl j t e
  nd := fun j k t u a ej ek ht hu => by
    rcases set_get ej with ⟨rfl, rfl⟩ | ⟨ne, ej2⟩
    · rcases set_get ek with ⟨rfl, rfl⟩ | ⟨ne2, ek⟩
      · rfl
      · exact absurd hu (hn a ht k u (Ne.symm ne2) ek)
    · rcases set_get ek with ⟨rfl, rfl⟩ | ⟨ne2, ek⟩
      · exact absurd ht (hn a hu j t (Ne.symm ne) ej2)
      · exact st.nd j k t u a ej2 ek ht hu
  fr := fun a ha => by
    rcases own_set ha with h1 | h1
    · exact hfr a h1
    · exact st.fr a h1
  ex := st.ex
  tf := st.tf
  tk := st.tk
theorem St.set {i : Nat} {v : V} {s : Sl} (st : St K g F H σ env) (hi : i < env.length) (h : SlOk K F H (some v) s) (hfr : ∀ a ∈ s.fp, F a = none)
    (hn : ∀ a ∈ s.fp, ∀ (j : Nat) (t : Sl), j ≠ i → env[j]? = some t → a ∉ t.fp) (hg : ∀ a ∈ s.fp, g.H0 a = none ∨ a ∈ g.M) : St K g F H (σ.set i (some v)) (env.set i s) :=
  { st.toSk.set hi h hfr hn with
    g1 := st.g1, gt := st.gt, g3 := st.g3, g4 := st.g4, g5 := st.g5, g6 := st.g6,
    g2 := fun a ha => by
      rcases own_set ha with h1 | h1
      · exact hg a h1
      · exact st.g2 a h1 }
theorem St.setD {i : Nat} {v : V} {x : PyData} (st : St K g F H σ env) (hi : i < env.length) (h : Dq K F v x) : St K g F H (σ.set i (some v)) (env.set i (.d x)) :=
  st.set hi ⟨v, rfl, h⟩ (fun _ h => by cases h) (fun _ h => by cases h) (fun _ h => by cases h)
theorem St.setL {i : Nat} {a : Addr} {vs : List V} {ds : List PyData} (st : St K g F H σ env) (hi : i < env.length) (hH : H a = some (.lst vs)) (hd : DqAll K F vs ds) (hF : F a = none) (hn : ¬ Own env a) (h0 : g.H0 a = none) :
    St K g F H (σ.set i (some (.ref a))) (env.set i (.ol a ds)) := by
  have one : ∀ b ∈ (Sl.ol a ds).fp, b = a := fun b hb => by simpa [Sl.fp] using hb
  exact st.set (s := .ol a ds) hi ⟨rfl, vs, hH, hd⟩ (fun b hb => by rw [one b hb]; exact hF) (fun b hb j t _ e ht => hn ⟨j, t, e, by rw [← one b hb]; exact ht⟩) (fun b hb => by rw [one b hb]; exact .inl h0)
/-- an object of a slot is changed in place -/
theorem St.write {i : Nat} {a : Addr} {s s' : Sl} {o' : HO} (st : St K g F H σ env) (hs : env[i]? = some s) (ha : s.fp = [a]) (ha' : s'.fp = [a]) (h : SlOk K F (upd H a o') (σ[i]?.getD none) s') (ht : ∀ vs, o' ≠ .tup vs := by intro _ z; cases z) : St K g F (upd H a o') σ (env.set i s') := by
  have own : Own env a := ⟨i, s, hs, by rw [ha]; simp⟩
  have hF : F a = none := st.fr a own
  have hi : i < env.length := (List.getElem?_eq_some_iff.mp hs).1
  have sub : ∀ b, Own (env.set i s') b → Own env b := fun b hb => by
    rcases own_set hb with h1 | h1
    · rw [ha'] at h1
      have e : b = a := by simpa using h1
      rw [e]; exact own
    · exact h1
  have oth : ∀ (j : Nat) (t : Sl), i ≠ j → env[j]? = some t → a ∉ t.fp := fun j t ne e ht => ne (st.nd i j s t a hs e (by rw [ha]; simp) ht)
  refine { len := by rw [List.length_set]; exact st.len, sl := fun j t e => ?_, nd := fun j k t u b ej ek ht hu => ?_, fr := fun b hb => st.fr b (sub b hb), ex := st.ex.mut hF, tf := fun b vs q => by
             by_cases e : b = a
             · subst e; rw [upd_same] at q; exact absurd (Option.some.inj q) (ht vs)
             · rw [upd_ne e] at q; exact st.tf b vs q, tk := st.tk.put (st.tk.ne (st.toSk.ntb own)), gt := st.gt.grow fun b z => by
             by_cases e : b = a
             · subst e; rw [upd_same] at z; cases z
             · rw [upd_ne e] at z; exact z, g1 := fun b u q m n => ?_, g2 := fun b hb => st.g2 b (sub b hb), g3 := st.g3, g4 := st.g4, g5 := fun b m z => ?_, g6 := st.g6 }
  · rcases set_get e with ⟨rfl, rfl⟩ | ⟨ne, e⟩
    · exact h
    · refine slok_mono (Ex.refl F) (fun b hb u q => ?_) (st.sl j t e)
      have hne : b ≠ a := fun z => oth j t ne e (z ▸ hb)
      rw [upd_ne hne]; exact q
  · rcases set_get ej with ⟨rfl, rfl⟩ | ⟨ne, ej2⟩
    · rcases set_get ek with ⟨rfl, rfl⟩ | ⟨ne2, ek⟩
      · rfl
      · rw [ha'] at ht
        have e : b = a := by simpa using ht
        exact absurd (e ▸ hu) (oth k u ne2 ek)
    · rcases set_get ek with ⟨rfl, rfl⟩ | ⟨ne2, ek⟩
      · rw [ha'] at hu
        have e : b = a := by simpa using hu
        exact absurd (e ▸ ht) (oth j t ne ej2)
      · exact st.nd j k t u b ej2 ek ht hu
  · have hne : b ≠ a := fun z => by
      subst z
      rcases st.g2 b own with h1 | h1
      · rw [h1] at q; cases q
      · exact m h1
    rw [upd_ne hne]; exact st.g1 b u q m n
  · by_cases hb : b = a
    · subst hb; rw [upd_same] at z; cases z
    · rw [upd_ne hb] at z; exact st.g5 b m z
/-- a slot's description is weakened -/
theorem St.weak {i : Nat} {s s' : Sl} (st : St K g F H σ env) (hs : env[i]? = some s) (hfp : ∀ a ∈ s'.fp, a ∈ s.fp) (h : SlOk K F H (σ[i]?.getD none) s → SlOk K F H (σ[i]?.getD none) s') : St K g F H σ (env.set i s') := by
  have sub : ∀ b, Own (env.set i s') b → Own env b := fun b hb => by
    rcases own_set hb with h1 | h1
    · exact ⟨i, s, hs, hfp b h1⟩
    · exact h1
  refine { len := by rw [List.length_set]; exact st.len, sl := fun j t e => ?_, nd := fun j k t u b ej ek ht hu => ?_, fr := fun b hb => st.fr b (sub b hb), ex := st.ex, tf := st.tf, tk := st.tk, gt := st.gt,
           g1 := st.g1, g2 := fun b hb => st.g2 b (sub b hb), g3 := st.g3, g4 := st.g4, g5 := st.g5, g6 := st.g6 }
  · rcases set_get e with ⟨rfl, rfl⟩ | ⟨ne, e⟩
    · exact h (st.sl i s hs)
    · exact st.sl j t e
  · rcases set_get ej with ⟨rfl, rfl⟩ | ⟨ne, ej2⟩
    · rcases set_get ek with ⟨rfl, rfl⟩ | ⟨ne2, ek⟩
      · rfl
      · exact st.nd i k s u b hs ek (hfp b ht) hu
    · rcases set_get ek with ⟨rfl, rfl⟩ | ⟨ne2, ek⟩
      · exact st.nd j i t s b ej2 hs ht (hfp b hu)
      · exact st.nd j k t u b ej2 ek ht hu
end
end TL
namespace TL
open PySem PySem.Spec PyProof.Rows L2
inductive Exc where
  | own (n : Str)
def ExcW (K : Frag) (W : WX) (σ : SS) (H : Hp) : Exc → Prop
  | .own n => W (.ref (He.ga K n)) none σ H
structure SemE (X : Cx) (e : Expr) (σ : SS) (H : Hp) (Q : VK) : Prop where
  run : ∀ (pins : List (Addr × Obj)) (s : Shared), Inv X pins σ H s → wpAny (model X.prog X.w) X.A (eval e X.env) (EP X pins σ Q) X.xe s
def semE (X : Cx) (e : Expr) : TE := fun σ H Q => SemE X e σ H Q
structure SemT (X : Cx) (e : Expr) (σ : SS) (H : Hp) (Q : Bool → Hp → Prop) : Prop where
  run : ∀ (pins : List (Addr × Obj)) (s : Shared), Inv X pins σ H s → wpAny (model X.prog X.w) X.A (isTrue e X.env (eval e X.env)) (TP X pins σ Q) X.xe s
def semT (X : Cx) (e : Expr) : TT := fun σ H Q => SemT X e σ H Q
structure SemS (X : Cx) (st : List Stmt) (D : Ends) (σ : SS) (H : Hp) : Prop where
  run : ∀ (pins : List (Addr × Obj)) (s : Shared), Inv X pins σ H s → wpAny (model X.prog X.w) X.A (execs st X.env) (SP X pins D) X.xe s
def semS (X : Cx) (st : List Stmt) : TS := fun D σ H => SemS X st D σ H
section
variable {X : Cx}
theorem peS (e : Expr) : PE X e (semE X e) := ⟨fun pins s _ _ _ I h => h.run pins s I⟩
theorem ptS (e : Expr) : PT X e (semT X e) := ⟨fun pins s _ _ _ I h => h.run pins s I⟩
theorem pssS (st : List Stmt) : PSs X st (semS X st) := ⟨fun pins s _ _ _ I h => h.run pins s I⟩
theorem semE_of {e : Expr} {t : TE} (h : PE X e t) {σ : SS} {H : Hp} {Q : VK} (q : t σ H Q) : semE X e σ H Q := ⟨fun pins s I => h.run pins s σ H Q I q⟩
theorem semT_of {e : Expr} {t : TT} (h : PT X e t) {σ : SS} {H : Hp} {Q : Bool → Hp → Prop} (q : t σ H Q) : semT X e σ H Q := ⟨fun pins s I => h.run pins s σ H Q I q⟩
theorem semS_of {st : List Stmt} {t : TS} (h : PSs X st t) {D : Ends} {σ : SS} {H : Hp} (q : t D σ H) : semS X st D σ H := ⟨fun pins s I => h.run pins s σ H D I q⟩
end
def Hld (env : List Sl) (a : Addr) (ds : List PyData) : Prop := (∃ i : Nat, env[i]? = some (Sl.ol a ds)) ∨ (∃ (i : Nat) (b : Addr) (rows : List (Addr × List PyData)), env[i]? = some (Sl.oo b rows) ∧ (a, ds) ∈ rows) ∨ ∃ (i : Nat) (t : OwT), env[i]? = some (Sl.ow t) ∧ (a, ds) ∈ t.rows
/-- how a value is known: z: by the frozen part; else it is an object that a slot holds -/
def Rd (K : Frag) (F : Hp) (env : List Sl) (z : Bool) (v : V) (d : PyData) : Prop :=
  match z with
  | true => Dq K F v d
  | false => ∃ a ds, Hld env a ds ∧ v = .ref a ∧ d = .list ds
def HX (X : Cx) (g : G) (env : List Sl) (Ψ : Exc → Prop) (W : WX) (σ : SS) : Prop := ∀ c F' H', Ψ c → St X.K g F' H' σ env → ExcW X.K W σ H' c
def WE (X : Cx) (g : G) (e : Expr) (env : List Sl) (Φ : PyData → Bool → Prop) (Ψ : Exc → Prop) : Prop :=
  ∀ (W : WX), Takes X W → ∀ (σ : SS) (F H : Hp), St X.K g F H σ env → HX X g env Ψ W σ →
    ∀ Q : VK, (∀ d z v F' H', Φ d z → St X.K g F' H' σ env → Ex F F' → Rd X.K F' env z v d → Q v H') → semE X e σ H Q
/-- a test -/
def WT (X : Cx) (g : G) (e : Expr) (env : List Sl) (Φ : Bool → Prop) (Ψ : Exc → Prop) : Prop :=
  ∀ (W : WX), Takes X W → ∀ (σ : SS) (F H : Hp), St X.K g F H σ env → HX X g env Ψ W σ →
    ∀ Q : Bool → Hp → Prop, (∀ b F' H', Φ b → St X.K g F' H' σ env → Ex F F' → Q b H') → semT X e σ H Q
/-- a new list, no slot's -/
def NewL (K : Frag) (g : G) (F H : Hp) (env : List Sl) (v : V) (ds : List PyData) : Prop :=
  ∃ p vs, v = .ref p ∧ H p = some (.lst vs) ∧ DqAll K F vs ds ∧ F p = none ∧ ¬ Own env p ∧ g.H0 p = none
def WN (X : Cx) (g : G) (e : Expr) (env : List Sl) (Φ : List PyData → Prop) (Ψ : Exc → Prop) : Prop :=
  ∀ (W : WX), Takes X W → ∀ (σ : SS) (F H : Hp), St X.K g F H σ env → HX X g env Ψ W σ →
    ∀ Q : VK, (∀ ds v F' H', Φ ds → St X.K g F' H' σ env → Ex F F' → NewL X.K g F' H' env v ds → Q v H') → semE X e σ H Q
/-- arguments: data, or a slot handed on -/
inductive Ar where
  | d (x : PyData)
  | s (i : Nat)
def ArOk (K : Frag) (F : Hp) (σ : SS) (v : V) : Ar → Prop
  | .d x => Dq K F v x
  | .s i => σ[i]? = some (some v)
def ArAll (K : Frag) (F : Hp) (σ : SS) : List V → List Ar → Prop
  | [], [] => True
  | v :: vs, a :: as => ArOk K F σ v a ∧ ArAll K F σ vs as
  | _, _ => False
section
variable {X : Cx} {g : G} {env : List Sl} {Ψ : Exc → Prop} {pos : Pos} {a b c e : Expr} {K : Frag} {F F' H : Hp} {σ : SS}
theorem rd_mono {z : Bool} {v : V} {d : PyData} (e : Ex F F') (h : Rd K F env z v d) : Rd K F' env z v d := by
  cases z with
  | true => exact dp_mono e _ _ h
  | false => exact h
theorem hld_at {a : Addr} {ds : List PyData} (st : Sk K F H σ env) (h : Hld env a ds) : ∃ vs, H a = some (.lst vs) ∧ DqAll K F vs ds := by
  rcases h with ⟨i, hi⟩ | ⟨i, b, rows, hi, hm⟩ | ⟨i, t, hi, hm⟩
  · exact (st.sl i _ hi).2
  · exact (st.sl i _ hi).2.2.2 _ hm
  · obtain ⟨v, _, h⟩ := st.sl i _ hi
    exact t.held h _ hm
/-- as it stands now -/
theorem rd_now {z : Bool} {v : V} {d : PyData} (st : Sk K F H σ env) (h : Rd K F env z v d) : Dq K H v d := by
  cases z with
  | true => exact dp_mono st.ex _ _ h
  | false =>
    obtain ⟨a, ds, hi, rfl, rfl⟩ := h
    obtain ⟨vs, h2, h3⟩ := hld_at st hi
    exact .lst (SqL.of h2) (dpa_mono st.ex _ _ h3)
theorem rd_nowP {z : Bool} {v : V} {d : PyData} (st : Sk K F H σ env) (h : Rd K F env z v d) (c : SeqAt.shaped d = true) : Dp K H v d := dq_dp _ _ (shp_lay c) (rd_now st h)
/-- a list: where it stands, its items by the frozen part -/
theorem rd_lst {z : Bool} {v : V} {ds : List PyData} (st : Sk K F H σ env) (h : Rd K F env z v (.list ds)) : ∃ a vs, v = .ref a ∧ SqL K H a vs ∧ DqAll K F vs ds := by
  cases z with
  | true =>
    obtain ⟨a, xs, rfl, h2, h3⟩ := dp_lst h
    exact ⟨a, xs, rfl, ex_l st.ex h2, h3⟩
  | false =>
    obtain ⟨a, ds', hi, rfl, e⟩ := h
    injection e with e
    subst e
    obtain ⟨vs, h2, h3⟩ := hld_at st hi
    exact ⟨a, vs, rfl, SqL.of h2, h3⟩
theorem rd_tup {z : Bool} {v : V} {ds : List PyData} (st : Sk K F H σ env) (h : Rd K F env z v (.tuple ds)) : ∃ a vs, v = .ref a ∧ SqT K H a vs ∧ DqAll K F vs ds := by
  cases z with
  | true =>
    obtain ⟨a, xs, rfl, h2, h3⟩ := dp_tup h
    exact ⟨a, xs, rfl, ex_t st.ex h2, h3⟩
  | false => obtain ⟨_, _, _, _, e⟩ := h; cases e
theorem rd_int {z : Bool} {v : V} {i : Int} (h : Rd K F env z v (.int i)) : v = .int i := by
  cases z with
  | true => exact dp_int h
  | false => obtain ⟨_, _, _, _, e⟩ := h; cases e
theorem rd_str {z : Bool} {v : V} {i : Str} (h : Rd K F env z v (.str i)) : v = .str i := by
  cases z with
  | true => exact dp_str h
  | false => obtain ⟨_, _, _, _, e⟩ := h; cases e
theorem rd_bl {z : Bool} {v : V} {i : Bool} (h : Rd K F env z v (.bool i)) : v = .bl i := by
  cases z with
  | true => exact dp_bl h
  | false => obtain ⟨_, _, _, _, e⟩ := h; cases e
theorem rd_non {z : Bool} {v : V} (h : Rd K F env z v .none) : v = .non := by
  cases z with
  | true => exact dp_non h
  | false => obtain ⟨_, _, _, _, e⟩ := h; cases e
theorem WE.mono {Φ Φ' : PyData → Bool → Prop} (h : WE X g e env Φ Ψ) (k : ∀ d z, Φ d z → Φ' d z) : WE X g e env Φ' Ψ :=
  fun W tk σ F H st hx Q hQ => h W tk σ F H st hx Q fun d z v F' H' p => hQ d z v F' H' (k d z p)
/-- a two-place operation on data -/
def DOp (K : Frag) (g : G) (env : List Sl) (r : R2) (d1 : PyData) (z1 : Bool) (d2 : PyData) (z2 : Bool) (Φ : PyData → Bool → Prop) : Prop :=
  ∀ (σ : SS) (F H : Hp) (v1 v2 : V), St K g F H σ env → Rd K F env z1 v1 d1 → Rd K F env z2 v2 d2 →
    ∀ Q : VK, (∀ d z v F' H', Φ d z → St K g F' H' σ env → Ex F F' → Rd K F' env z v d → Q v H') → r v1 v2 H Q
theorem we_op {Φ : PyData → Bool → Prop} {R : PyData → Bool → PyData → Bool → Prop} {r : R2} (hop : PE X e (tOp r (semE X a) (semE X b)))
    (hr : ∀ d1 z1 d2 z2, R d1 z1 d2 z2 → DOp X.K g env r d1 z1 d2 z2 Φ)
    (h : WE X g a env (fun d1 z1 => WE X g b env (fun d2 z2 => R d1 z1 d2 z2) Ψ) Ψ) : WE X g e env Φ Ψ := by
  intro W tk σ F H st hx Q hQ
  refine semE_of hop ?_
  refine h W tk σ F H st hx _ fun d1 z1 v1 F1 H1 h1 st1 e1 r1 => ?_
  refine h1 W tk σ F1 H1 st1 hx _ fun d2 z2 v2 F2 H2 h2 st2 e2 r2 => ?_
  exact hr _ _ _ _ h2 σ F2 H2 v1 v2 st2 (rd_mono e2 r1) r2 Q fun d z v F' H' hp s3 e3 r3 => hQ d z v F' H' hp s3 ((e1.trans e2).trans e3) r3
theorem wt_op {Φ : Bool → Prop} {R : PyData → Bool → PyData → Bool → Prop} {r : R2} (hop : PT X e (tTest (tOp r (semE X a) (semE X b))))
    (hr : ∀ d1 z1 d2 z2, R d1 z1 d2 z2 → DOp X.K g env r d1 z1 d2 z2 (fun d _ => ∃ k, d = .bool k ∧ Φ k))
    (h : WE X g a env (fun d1 z1 => WE X g b env (fun d2 z2 => R d1 z1 d2 z2) Ψ) Ψ) : WT X g e env Φ Ψ := by
  intro W tk σ F H st hx Q hQ
  refine semT_of hop ?_
  refine h W tk σ F H st hx _ fun d1 z1 v1 F1 H1 h1 st1 e1 r1 => ?_
  refine h1 W tk σ F1 H1 st1 hx _ fun d2 z2 v2 F2 H2 h2 st2 e2 r2 => ?_
  refine hr _ _ _ _ h2 σ F2 H2 v1 v2 st2 (rd_mono e2 r1) r2 _ fun d z v F' H' ⟨k, hd, hp⟩ s3 e3 r3 => ?_
  subst hd
  exact ⟨k, rd_bl r3, hQ k F' H' hp s3 ((e1.trans e2).trans e3)⟩
def DUn (K : Frag) (g : G) (env : List Sl) (r : V → Hp → VK → Prop) (d1 : PyData) (z1 : Bool) (Φ : PyData → Bool → Prop) : Prop :=
  ∀ (σ : SS) (F H : Hp) (v1 : V), St K g F H σ env → Rd K F env z1 v1 d1 →
    ∀ Q : VK, (∀ d z v F' H', Φ d z → St K g F' H' σ env → Ex F F' → Rd K F' env z v d → Q v H') → r v1 H Q
theorem dop_of {r : R2} {d1 d2 d : PyData} {z1 z2 z : Bool} {Φ : PyData → Bool → Prop} (hp : Φ d z)
    (h : ∀ (σ : SS) (F H : Hp) (v1 v2 : V) (Q : VK), St K g F H σ env → Rd K F env z1 v1 d1 → Rd K F env z2 v2 d2 → (∀ v, Rd K F env z v d → Q v H) → r v1 v2 H Q) : DOp K g env r d1 z1 d2 z2 Φ :=
  fun σ F H v1 v2 st r1 r2 Q hQ => h σ F H v1 v2 Q st r1 r2 fun v rv => hQ d z v F H hp st (Ex.refl F) rv
theorem dop_l {r r' : R2} {d1 d2 : PyData} {z1 z2 : Bool} {Φ : PyData → Bool → Prop} (h : DOp K g env r d1 z1 d2 z2 Φ) : DOp K g env (fun x y H Q => r x y H Q ∨ r' x y H Q) d1 z1 d2 z2 Φ :=
  fun σ F H v1 v2 st r1 r2 Q hQ => .inl (h σ F H v1 v2 st r1 r2 Q hQ)
theorem dop_r {r r' : R2} {d1 d2 : PyData} {z1 z2 : Bool} {Φ : PyData → Bool → Prop} (h : DOp K g env r' d1 z1 d2 z2 Φ) : DOp K g env (fun x y H Q => r x y H Q ∨ r' x y H Q) d1 z1 d2 z2 Φ :=
  fun σ F H v1 v2 st r1 r2 Q hQ => .inr (h σ F H v1 v2 st r1 r2 Q hQ)
/-- a new object, frozen at once -/
theorem put_lst {p : Addr} {vs : List V} {ds : List PyData} {Φ : PyData → Bool → Prop} {Q : VK} (st : St K g F H σ env) (hn : H p = none) (hd : DqAll K F vs ds) (hp : Φ (.list ds) true)
    (hQ : ∀ d z v F' H', Φ d z → St K g F' H' σ env → Ex F F' → Rd K F' env z v d → Q v H') : Q (.ref p) (upd H p (.lst vs)) := by
  have hF : F p = none := st.ex.none hn
  exact hQ (.list ds) true (.ref p) (upd F p (.lst vs)) _ hp (st.allocF hn) (Ex.new hF) (.lst (SqL.of upd_same) (dpa_mono (Ex.new hF) _ _ hd))
theorem put_tup {p : Addr} {vs : List V} {ds : List PyData} {Φ : PyData → Bool → Prop} {Q : VK} (st : St K g F H σ env) (hn : H p = none) (hd : DqAll K F vs ds) (hp : Φ (.tuple ds) true)
    (hQ : ∀ d z v F' H', Φ d z → St K g F' H' σ env → Ex F F' → Rd K F' env z v d → Q v H') : Q (.ref p) (upd H p (.tup vs)) := by
  have hF : F p = none := st.ex.none hn
  exact hQ (.tuple ds) true (.ref p) (upd F p (.tup vs)) _ hp (st.allocF hn) (Ex.new hF) (.tup upd_same (dpa_mono (Ex.new hF) _ _ hd))
theorem put_new {p : Addr} {vs : List V} {ds : List PyData} {Φ : List PyData → Prop} {Q : VK} (st : St K g F H σ env) (hn : H p = none) (hd : DqAll K F vs ds) (hp : Φ ds)
    (hQ : ∀ ds v F' H', Φ ds → St K g F' H' σ env → Ex F F' → NewL K g F' H' env v ds → Q v H') : Q (.ref p) (upd H p (.lst vs)) :=
  hQ ds (.ref p) F _ hp (st.alloc hn) (Ex.refl F) ⟨p, vs, rfl, upd_same, hd, st.ex.none hn, st.toSk.notown hn, st.h0 hn⟩
theorem we_of_wn {Φ : PyData → Bool → Prop} (h : WN X g e env (fun ds => Φ (.list ds) true) Ψ) : WE X g e env Φ Ψ := fun W tk σ F H st hx Q hQ =>
  h W tk σ F H st hx Q fun ds v F' H' hp st' e' ⟨p, vs, hv, h1, h2, h3, h4, h5⟩ => by
    subst hv
    have e2 := Ex.new (o := .lst vs) h3
    exact hQ (.list ds) true (.ref p) (upd F' p (.lst vs)) H' hp (st'.freeze h1 h3 h4 h5) (e'.trans e2) (.lst (SqL.of upd_same) (dpa_mono e2 _ _ h2))
section
variable {Φ : PyData → Bool → Prop}
theorem we_int {i : Int} {j : Nat} (h : Φ (.int i) true) : WE X g (.Constant (.int i) j pos) env Φ Ψ :=
  fun W tk σ F H st hx Q hQ => semE_of pe_int (hQ _ true _ F H h st (Ex.refl F) (.int i))
theorem we_str {i : Str} {j : Nat} (h : Φ (.str i) true) : WE X g (.Constant (.str i) j pos) env Φ Ψ :=
  fun W tk σ F H st hx Q hQ => semE_of pe_str (hQ _ true _ F H h st (Ex.refl F) (.str i))
theorem we_bool {i : Bool} {j : Nat} (h : Φ (.bool i) true) : WE X g (.Constant (.bool i) j pos) env Φ Ψ :=
  fun W tk σ F H st hx Q hQ => semE_of pe_bl (hQ _ true _ F H h st (Ex.refl F) (.bl i))
theorem we_none {j : Nat} (h : Φ .none true) : WE X g (.Constant .none j pos) env Φ Ψ :=
  fun W tk σ F H st hx Q hQ => semE_of pe_non (hQ _ true _ F H h st (Ex.refl F) .non)
theorem getD_some {σ : SS} {i : Nat} {v : V} (h : σ[i]?.getD none = some v) : σ[i]? = some (some v) := by
  cases e : σ[i]? with
  | none => rw [e] at h; cases h
  | some o => rw [e] at h; exact congrArg some h
/-- a name that holds data -/
theorem we_n (i : Nat) {d : PyData} {x : Str} (h : Φ d true) (he : env[i]? = some (.d d) := by rfl) (hN : X.N[i]? = some x := by rfl)
    (hv : Vis X.env.scope x := by first | exact Or.inl rfl | exact Or.inr (Or.inl rfl) | exact Or.inr (Or.inr rfl)) (hd : (x == ("__debug__" : Str)) = false := by decide)
    (hcd : (x == ("__classdict__" : Str)) = false := by decide) : WE X g (.Name x pos) env Φ Ψ := fun W tk σ F H st hx Q hQ => by
  obtain ⟨v, h1, h2⟩ := st.sl i _ he
  exact semE_of (pe_var hN hv hd hcd) ⟨v, getD_some h1, hQ d true v F H h st (Ex.refl F) h2⟩
/-- a name that holds a list of one's own -/
theorem we_nl (i : Nat) {al : Addr} {ds : List PyData} {x : Str} (h : Φ (.list ds) false) (he : env[i]? = some (.ol al ds) := by rfl) (hN : X.N[i]? = some x := by rfl)
    (hv : Vis X.env.scope x := by first | exact Or.inl rfl | exact Or.inr (Or.inl rfl) | exact Or.inr (Or.inr rfl)) (hd : (x == ("__debug__" : Str)) = false := by decide)
    (hcd : (x == ("__classdict__" : Str)) = false := by decide) : WE X g (.Name x pos) env Φ Ψ := fun W tk σ F H st hx Q hQ => by
  obtain ⟨h1, h2⟩ := st.sl i _ he
  exact semE_of (pe_var hN hv hd hcd) ⟨_, getD_some h1, hQ _ false _ F H h st (Ex.refl F) ⟨al, ds, .inl ⟨i, he⟩, rfl, rfl⟩⟩
/-- a module's int, a module's text -/
theorem we_gint {n : Int} {x : Str} (hm : ∃ t, X.mg x = some (.int n t)) (h : Φ (.int n) true) (hg : Gl X x := by rfl) (hd : (x == ("__debug__" : Str)) = false := by decide) : WE X g (.Name x pos) env Φ Ψ :=
  fun W tk σ F H st hx Q hQ => by
    obtain ⟨t, ht⟩ := hm
    exact semE_of (pe_glob hg ht (v := .int n) ⟨t, rfl⟩ hd) (hQ _ true _ F H h st (Ex.refl F) (.int n))
end
end
end TL
namespace TL
open PySem PySem.Spec PyProof.Rows L2
section
variable {X : Cx} {g : G} {env : List Sl} {Ψ : Exc → Prop} {pos : Pos} {a b c e : Expr} {K : Frag} {F F' H : Hp} {σ : SS}
def rCatL (K : Frag) : R2 := fun x y H Q => ∃ l b xs zs, x = .ref l ∧ y = .ref b ∧ SqL K H l xs ∧ SqL K H b zs ∧ xs.length + zs.length ≤ sizeLine ∧ ∀ p, H p = none → Q (.ref p) (upd H p (.lst (xs ++ zs)))
theorem op_catL : OpR X (binaryOp .Add) (rCatL X.K) := by
  intro pins s σ H x y v u Q I rx ry h
  obtain ⟨l, b, xs, zs, rfl, rfl, hH, hB, hz, q⟩ := h
  cases rx
  cases ry
  obtain ⟨vs, r, ⟨⟨cls, dd, data, sl⟩, n, ho, hc, hdn, hd⟩, hl⟩ := I.list hH
  obtain ⟨ws, r2, ⟨⟨cls2, dd2, data2, sl2⟩, n2, ho2, hc2, hdn2, hd2⟩, hl2⟩ := I.list hB
  simp only at hc hd hc2 hd2
  subst hc hd hc2 hd2
  have e1 := r.length
  have e2 := r2.length
  have e : vs.toArray ++ ws.toArray = (vs ++ ws).toArray := by simp
  refine concat_meets ⟨_, ho, rfl⟩ ⟨_, ho2, rfl⟩ noFill_list_add seq_list_add PySem.F.slot_list_add PySem.F.entry_list_add (PySem.F.args_list_add_2 _ _) (list_addW l b vs.toArray ws.toArray n n2 dd dd2 sl sl2 (by simp only [List.size_toArray]; omega)) ⟨ho, ho2, ?_⟩
  rw [e]
  exact ⟨.ref _, _, I.lnew (t' := s.toks) (r.append r2) (by rw [List.length_append]; omega), rfl, q _ I.fresh⟩
theorem dop_I0 {f : Int → Int → V} {i j : Int} {z1 z2 : Bool} {Φ : PyData → Bool → Prop} {d : PyData} (h : Φ d true) (hf : ∀ F, Dq K F (f i j) d) : DOp K g env (rI0 f) (.int i) z1 (.int j) z2 Φ :=
  dop_of h fun σ F H v1 v2 Q st r1 r2 q => ⟨i, j, rd_int r1, rd_int r2, q _ (hf F)⟩
theorem dop_I {C : Int → Int → Prop} {f : Int → Int → V} {i j : Int} {z1 z2 : Bool} {Φ : PyData → Bool → Prop} {d : PyData} (hc : C i j) (h : Φ d true) (hf : ∀ F, Dq K F (f i j) d) : DOp K g env (rI C f) (.int i) z1 (.int j) z2 Φ :=
  dop_of h fun σ F H v1 v2 Q st r1 r2 q => ⟨i, j, rd_int r1, rd_int r2, hc, q _ (hf F)⟩
inductive AddP (Φ : PyData → Bool → Prop) : PyData → Bool → PyData → Bool → Prop
  | int {i j : Int} {z1 z2 : Bool} : Φ (.int (i + j)) true → AddP Φ (.int i) z1 (.int j) z2
  | str {i j : Str} {z1 z2 : Bool} : Φ (.str (i ++ j)) true → i.length + j.length ≤ sizeLine → AddP Φ (.str i) z1 (.str j) z2
  | lst {xs ys : List PyData} {z1 z2 : Bool} : Φ (.list (xs ++ ys)) true → xs.length + ys.length ≤ sizeLine → AddP Φ (.list xs) z1 (.list ys) z2
  | tup {xs ys : List PyData} {z1 z2 : Bool} : Φ (.tuple (xs ++ ys)) true → xs.length + ys.length ≤ sizeLine → AddP Φ (.tuple xs) z1 (.tuple ys) z2
abbrev rAddS : R2 := fun x y H Q => ∃ i j, x = .str i ∧ y = .str j ∧ i.length + j.length ≤ sizeLine ∧ Q (.str (i ++ j)) H
abbrev rAddA (K : Frag) : R2 := fun x y H Q => (rI0 fun i j => .int (i + j)) x y H Q ∨ (fun x y H Q => rAddS x y H Q ∨ (fun x y H Q => rCatL K x y H Q ∨ rCatA K x y H Q) x y H Q) x y H Q
theorem op_addA : OpR X (binaryOp .Add) (rAddA X.K) := op_add.or (op_add_str.or (op_catL.or op_catA))
theorem dop_add {Φ : PyData → Bool → Prop} {d1 d2 : PyData} {z1 z2 : Bool} (h : AddP Φ d1 z1 d2 z2) : DOp K g env (rAddA K) d1 z1 d2 z2 Φ := by
  cases h with
  | int h => exact dop_l (dop_I0 h fun F => .int _)
  | str h hl => exact dop_r (dop_l (dop_of h fun σ F H v1 v2 Q st r1 r2 q => ⟨_, _, rd_str r1, rd_str r2, hl, q _ (.str _)⟩))
  | lst h hl =>
    refine dop_r (dop_r (dop_l fun σ F H v1 v2 st r1 r2 Q hQ => ?_))
    obtain ⟨a1, vs1, rfl, s1, p1⟩ := rd_lst st.toSk r1
    obtain ⟨a2, vs2, rfl, s2, p2⟩ := rd_lst st.toSk r2
    exact ⟨a1, a2, vs1, vs2, rfl, rfl, s1, s2, by rw [dpa_len p1, dpa_len p2]; exact hl, fun p hp => put_lst st hp (dpa_app p1 p2) h hQ⟩
  | tup h hl =>
    refine dop_r (dop_r (dop_r fun σ F H v1 v2 st r1 r2 Q hQ => ?_))
    obtain ⟨a1, vs1, rfl, s1, p1⟩ := rd_tup st.toSk r1
    obtain ⟨a2, vs2, rfl, s2, p2⟩ := rd_tup st.toSk r2
    refine ⟨a1, a2, vs1, vs2, rfl, rfl, s1, s2, by rw [dpa_len p1, dpa_len p2]; exact hl, fun e => ?_, fun _ e => ?_, fun _ _ p hp => put_tup st hp (dpa_app p1 p2) h hQ⟩
    · subst e
      cases p1
      rw [List.nil_append] at h
      refine hQ _ z2 _ F H ?_ st (Ex.refl F) r2
      cases z2 with
      | true => exact h
      | false => obtain ⟨_, _, _, _, e⟩ := r2; cases e
    subst e
    cases p2
    rw [List.append_nil] at h
    refine hQ _ z1 _ F H ?_ st (Ex.refl F) r1
    cases z1 with
    | true => exact h
    | false => obtain ⟨_, _, _, _, e⟩ := r1; cases e
section
variable {Φ : PyData → Bool → Prop}
theorem we_add (h : WE X g a env (fun d1 z1 => WE X g b env (fun d2 z2 => AddP Φ d1 z1 d2 z2) Ψ) Ψ) : WE X g (.BinOp a .Add b pos) env Φ Ψ :=
  we_op (pe_op op_addA (peS a) (peS b)) (fun _ _ _ _ => dop_add) h
inductive IntP (C : Int → Int → Prop) (f : Int → Int → Int) (Φ : PyData → Bool → Prop) : PyData → Bool → PyData → Bool → Prop
  | mk {i j : Int} {z1 z2 : Bool} : Φ (.int (f i j)) true → C i j → IntP C f Φ (.int i) z1 (.int j) z2
theorem we_sub (h : WE X g a env (fun d1 z1 => WE X g b env (fun d2 z2 => IntP (fun _ _ => True) (fun i j => i - j) Φ d1 z1 d2 z2) Ψ) Ψ) : WE X g (.BinOp a .Sub b pos) env Φ Ψ :=
  we_op (pe_op op_sub (peS a) (peS b)) (fun _ _ _ _ ⟨h, _⟩ => dop_I0 h fun F => .int _) h
theorem we_mul (h : WE X g a env (fun d1 z1 => WE X g b env (fun d2 z2 => IntP CMul (fun i j => i * j) Φ d1 z1 d2 z2) Ψ) Ψ) : WE X g (.BinOp a .Mult b pos) env Φ Ψ :=
  we_op (pe_op op_mul (peS a) (peS b)) (fun _ _ _ _ ⟨h, hc⟩ => dop_I hc h fun F => .int _) h
theorem we_div (h : WE X g a env (fun d1 z1 => WE X g b env (fun d2 z2 => IntP CDivW (fun i j => i / j) Φ d1 z1 d2 z2) Ψ) Ψ) : WE X g (.BinOp a .FloorDiv b pos) env Φ Ψ :=
  we_op (pe_op op_fdivW (peS a) (peS b)) (fun _ _ _ _ ⟨h, hc⟩ => dop_I hc h fun F => .int _) h
theorem we_mod (h : WE X g a env (fun d1 z1 => WE X g b env (fun d2 z2 => IntP (fun _ j => 0 < j) (fun i j => i % j) Φ d1 z1 d2 z2) Ψ) Ψ) : WE X g (.BinOp a .Mod b pos) env Φ Ψ :=
  we_op (pe_op op_mod (peS a) (peS b)) (fun _ _ _ _ ⟨h, hc⟩ => dop_I hc h fun F => .int _) h
theorem we_pow (h : WE X g a env (fun d1 z1 => WE X g b env (fun d2 z2 => IntP CPow (fun i j => i ^ j.toNat) Φ d1 z1 d2 z2) Ψ) Ψ) : WE X g (.BinOp a .Pow b pos) env Φ Ψ :=
  we_op (pe_op op_pow (peS a) (peS b)) (fun _ _ _ _ ⟨h, hc⟩ => dop_I hc h fun F => .int _) h
theorem cdiv_small {j : Int} (i : Int) (h : 0 < j) (h2 : j < 4611686018427387904) : CDivW i j := wide_div h (b := 62) (by omega) (by decide) (by decide)
end
def CP (K : Frag) (g : G) (env : List Sl) (r : R2) (d1 : PyData) (z1 : Bool) (d2 : PyData) (z2 : Bool) (k : Bool) : Prop :=
  ∀ (σ : SS) (F H : Hp) (v1 v2 : V), St K g F H σ env → Rd K F env z1 v1 d1 → Rd K F env z2 v2 d2 → ∀ Q : VK, Q (.bl k) H → r v1 v2 H Q
theorem cp_l {r r' : R2} {d1 d2 : PyData} {z1 z2 k : Bool} (h : CP K g env r d1 z1 d2 z2 k) : CP K g env (fun x y H Q => r x y H Q ∨ r' x y H Q) d1 z1 d2 z2 k := fun σ F H v1 v2 st r1 r2 Q q => .inl (h σ F H v1 v2 st r1 r2 Q q)
theorem cp_r {r r' : R2} {d1 d2 : PyData} {z1 z2 k : Bool} (h : CP K g env r' d1 z1 d2 z2 k) : CP K g env (fun x y H Q => r x y H Q ∨ r' x y H Q) d1 z1 d2 z2 k := fun σ F H v1 v2 st r1 r2 Q q => .inr (h σ F H v1 v2 st r1 r2 Q q)
theorem we_cp {Φ : PyData → Bool → Prop} {op : CmpOp} {r : R2} (ho : OpR X (compareOp op) r) (h : WE X g a env (fun d1 z1 => WE X g b env (fun d2 z2 => ∃ k, CP X.K g env r d1 z1 d2 z2 k ∧ Φ (.bool k) true) Ψ) Ψ)
    (hm : behindInMarks op b = false := by first | exact nomark _ | rfl) : WE X g (.Compare a [op] [b] pos) env Φ Ψ :=
  we_op (pe_cmpR ho (peS a) (peS b) hm) (fun _ _ _ _ ⟨k, hc, hp⟩ σ F H v1 v2 st r1 r2 Q hQ => hc σ F H v1 v2 st r1 r2 Q (hQ _ true _ F H hp st (Ex.refl F) (.bl k))) h
theorem wt_cp {Φ : Bool → Prop} {op : CmpOp} {r : R2} (ho : OpR X (compareOp op) r) (h : WE X g a env (fun d1 z1 => WE X g b env (fun d2 z2 => ∃ k, CP X.K g env r d1 z1 d2 z2 k ∧ Φ k) Ψ) Ψ)
    (hm : behindInMarks op b = false := by first | exact nomark _ | rfl) : WT X g (.Compare a [op] [b] pos) env Φ Ψ :=
  wt_op (pt_cmpR ho (peS a) (peS b) hm) (fun _ _ _ _ ⟨k, hc, hp⟩ σ F H v1 v2 st r1 r2 Q hQ => hc σ F H v1 v2 st r1 r2 Q (hQ (.bool k) true _ F H ⟨k, rfl, hp⟩ st (Ex.refl F) (.bl k))) h
/-- a op b op' c -/
theorem chain_run {r r' : R2} {C : Bool → Prop} (h : WE X g a env (fun d1 z1 => WE X g b env (fun d2 z2 => ∃ k, CP X.K g env r d1 z1 d2 z2 k ∧ (k = true → WE X g c env (fun d3 z3 => ∃ k', CP X.K g env r' d2 z2 d3 z3 k' ∧ C k') Ψ) ∧ (k = false → C false)) Ψ) Ψ)
    {W : WX} (tk : Takes X W) {F H : Hp} (st : St X.K g F H σ env) (hx : HX X g env Ψ W σ) {Q : VK} (hQ : ∀ k F' H', C k → St X.K g F' H' σ env → Ex F F' → Q (.bl k) H') : tChain r r' (semE X a) (semE X b) (semE X c) σ H Q := by
  refine h W tk σ F H st hx _ fun d1 z1 v1 F1 H1 h1 st1 e1 r1 => ?_
  refine h1 W tk σ F1 H1 st1 hx _ fun d2 z2 v2 F2 H2 h2 st2 e2 r2 => ?_
  obtain ⟨k, hc, ht, hf⟩ := h2
  refine hc σ F2 H2 v1 v2 st2 (rd_mono e2 r1) r2 _ ⟨k, rfl, ?_⟩
  cases k with
  | true =>
    rw [if_pos rfl]
    refine ht rfl W tk σ F2 H2 st2 hx _ fun d3 z3 v3 F3 H3 h3 st3 e3 r3 => ?_
    obtain ⟨k', hc', hp⟩ := h3
    exact hc' σ F3 H3 v2 v3 st3 (rd_mono e3 r2) r3 Q (hQ k' F3 H3 hp st3 ((e1.trans e2).trans e3))
  | false =>
    rw [if_neg Bool.false_ne_true]
    exact hQ false F2 H2 (hf rfl) st2 (e1.trans e2)
theorem we_ch {Φ : PyData → Bool → Prop} {op op' : CmpOp} {r r' : R2} (ho : OpR X (compareOp op) r) (ho' : OpR X (compareOp op') r')
    (h : WE X g a env (fun d1 z1 => WE X g b env (fun d2 z2 => ∃ k, CP X.K g env r d1 z1 d2 z2 k ∧ (k = true → WE X g c env (fun d3 z3 => ∃ k', CP X.K g env r' d2 z2 d3 z3 k' ∧ Φ (.bool k') true) Ψ) ∧ (k = false → Φ (.bool false) true)) Ψ) Ψ)
    (hm : lastMarks [op, op'] [b, c] = false := by with_unfolding_all rfl) : WE X g (.Compare a [op, op'] [b, c] pos) env Φ Ψ := fun W tk σ F H st hx Q hQ =>
  semE_of (pe_chain ho ho' (peS a) (peS b) (peS c) hm) (chain_run (C := fun k => Φ (.bool k) true) h tk st hx fun k F' H' hp s e => hQ _ true _ F' H' hp s e (.bl k))
theorem wt_ch {Φ : Bool → Prop} {op op' : CmpOp} {r r' : R2} (ho : OpR X (compareOp op) r) (ho' : OpR X (compareOp op') r')
    (h : WE X g a env (fun d1 z1 => WE X g b env (fun d2 z2 => ∃ k, CP X.K g env r d1 z1 d2 z2 k ∧ (k = true → WE X g c env (fun d3 z3 => ∃ k', CP X.K g env r' d2 z2 d3 z3 k' ∧ Φ k') Ψ) ∧ (k = false → Φ false)) Ψ) Ψ)
    (hm : lastMarks [op, op'] [b, c] = false := by with_unfolding_all rfl) : WT X g (.Compare a [op, op'] [b, c] pos) env Φ Ψ := fun W tk σ F H st hx Q hQ =>
  semT_of (pt_chain ho ho' (peS a) (peS b) (peS c) hm) (chain_run h tk st hx fun k F' H' hp s e => ⟨k, rfl, hQ k F' H' hp s e⟩)
/-- the operators' rules, by what they take -/
abbrev rLtA (K : Frag) : R2 := fun x y H Q => (rI0 fun i j => .bl (decide (i < j))) x y H Q ∨ rLtT K x y H Q
theorem op_ltA {k : Nat} (hr : Room k X.A) : OpR X (compareOp .Lt) (rLtA X.K) := op_lt.or (op_ltT hr.units0)
abbrev rEqA (K : Frag) : R2 := fun x y H Q => rEq x y H Q ∨ rEqD K x y H Q
theorem op_eqA {k : Nat} (hr : Room k X.A) : OpR X (compareOp .Eq) (rEqA X.K) := op_eq.or (op_eqD hr.units)
abbrev rNeA (K : Frag) : R2 := fun x y H Q => rNe x y H Q ∨ rNeD K x y H Q
theorem op_neA {k : Nat} (hr : Room k X.A) : OpR X (compareOp .NotEq) (rNeA X.K) := op_ne.or (op_neD hr.units)
theorem units65 {k : Nat} {A : Around} (hr : Room k A) : A.units + 65 < cLine := by have := hr.un; omega
abbrev rInS : R2 := fun x y H Q => ∃ i j, x = .str i ∧ y = .str j ∧ Q (.bl (!(Builtin.Str.occurrences j i 0 j.length 1).isEmpty)) H
abbrev rNotInS : R2 := fun x y H Q => ∃ i j, x = .str i ∧ y = .str j ∧ Q (.bl (!(!(Builtin.Str.occurrences j i 0 j.length 1).isEmpty))) H
def rInTD (K : Frag) : R2 := fun x y H Q => ∃ d ds, Dp K H x d ∧ Dp K H y (.tuple ds) ∧ SeqAt.shaped d = true ∧ SeqAt.shaped (.tuple ds) = true ∧ Q (.bl (ds.any fun z => PyData.eqv z d)) H
def rNotInTD (K : Frag) : R2 := fun x y H Q => ∃ d ds, Dp K H x d ∧ Dp K H y (.tuple ds) ∧ SeqAt.shaped d = true ∧ SeqAt.shaped (.tuple ds) = true ∧ Q (.bl (!ds.any fun z => PyData.eqv z d)) H
theorem op_inTD (hu : X.A.units + 65 < cLine) : OpR X (compareOp .In) (rInTD X.K) := by
  intro pins s σ H x y v u Q I rx ry h
  obtain ⟨d, ds, hd, he, sd, se, q⟩ := h
  obtain ⟨as, r1⟩ := Dp.reads I d x v hd rx
  obtain ⟨bs, r2⟩ := Dp.reads I (.tuple ds) y u he ry
  exact SeqAt.in_tuple_reads r2 r1 (SeqAt.canLay_of_shaped se) (SeqAt.canLay_of_shaped sd) (room_in_shaped sd hu) ⟨.bl _, H, I, rfl, q⟩
theorem op_notInTD (hu : X.A.units + 65 < cLine) : OpR X (compareOp .NotIn) (rNotInTD X.K) := by
  intro pins s σ H x y v u Q I rx ry h
  obtain ⟨d, ds, hd, he, sd, se, q⟩ := h
  obtain ⟨as, r1⟩ := Dp.reads I d x v hd rx
  obtain ⟨bs, r2⟩ := Dp.reads I (.tuple ds) y u he ry
  exact SeqAt.notIn_tuple_reads r2 r1 (SeqAt.canLay_of_shaped se) (SeqAt.canLay_of_shaped sd) (room_in_shaped sd hu) ⟨.bl _, H, I, rfl, q⟩
abbrev rInA (K : Frag) : R2 := fun x y H Q => rIn K false x y H Q ∨ (fun x y H Q => rInD K x y H Q ∨ (fun x y H Q => rInS x y H Q ∨ rInTD K x y H Q) x y H Q) x y H Q
abbrev rNotInA (K : Frag) : R2 := fun x y H Q => rIn K true x y H Q ∨ (fun x y H Q => rNotInD K x y H Q ∨ (fun x y H Q => rNotInS x y H Q ∨ rNotInTD K x y H Q) x y H Q) x y H Q
theorem op_inA {k : Nat} (hr : Room k X.A) : OpR X (compareOp .In) (rInA X.K) := op_in_seq.or ((op_inD (units65 hr)).or (op_in_str.or (op_inTD (units65 hr))))
theorem op_notInA {k : Nat} (hr : Room k X.A) : OpR X (compareOp .NotIn) (rNotInA X.K) := op_notIn_seq.or ((op_notInD (units65 hr)).or (op_notin_str.or (op_notInTD (units65 hr))))
abbrev rIsN : R2 := fun x y H Q => y = .non ∧ Q (.bl (decide (x = .non))) H
abbrev rNotN : R2 := fun x y H Q => y = .non ∧ Q (.bl (!decide (x = .non))) H
section
variable {z1 z2 : Bool} {i j : Int} {s t : Str} {d1 d2 : PyData}
theorem cp_I0 {f : Int → Int → Bool} : CP K g env (rI0 fun i j => .bl (f i j)) (.int i) z1 (.int j) z2 (f i j) := fun σ F H v1 v2 st r1 r2 Q q => ⟨i, j, rd_int r1, rd_int r2, q⟩
theorem cp_lt : CP K g env (rLtA K) (.int i) z1 (.int j) z2 (decide (i < j)) := cp_l cp_I0
theorem cp_ltT {ns ms : List Int} : CP K g env (rLtA K) (.tuple (ns.map .int)) z1 (.tuple (ms.map .int)) z2 (HT.lexLt ns ms) := cp_r fun σ F H v1 v2 st r1 r2 Q q => by
  obtain ⟨a1, vs1, rfl, s1, p1⟩ := rd_tup st.toSk r1
  obtain ⟨a2, vs2, rfl, s2, p2⟩ := rd_tup st.toSk r2
  rw [dpa_ints_eq p1] at s1
  rw [dpa_ints_eq p2] at s2
  exact ⟨a1, a2, ns, ms, rfl, rfl, s1, s2, q⟩
theorem cp_le : CP K g env (rI0 fun i j => .bl (decide (i ≤ j))) (.int i) z1 (.int j) z2 (decide (i ≤ j)) := cp_I0
theorem cp_gt : CP K g env (rI0 fun i j => .bl (decide (j < i))) (.int i) z1 (.int j) z2 (decide (j < i)) := cp_I0 (f := fun i j => decide (j < i))
theorem cp_ge : CP K g env (rI0 fun i j => .bl (decide (j ≤ i))) (.int i) z1 (.int j) z2 (decide (j ≤ i)) := cp_I0 (f := fun i j => decide (j ≤ i))
theorem vint_dec : decide (V.int i = V.int j) = decide (i = j) := by
  by_cases h : i = j
  · subst h; simp
  · rw [decide_eq_false h, decide_eq_false fun z => h (V.int.inj z)]
theorem vstr_dec : decide (V.str s = V.str t) = decide (s = t) := by
  by_cases h : s = t
  · subst h; simp
  · rw [decide_eq_false h, decide_eq_false fun z => h (V.str.inj z)]
theorem vbl_dec {k l : Bool} : decide (V.bl k = V.bl l) = decide (k = l) := by
  by_cases h : k = l
  · subst h; simp
  · rw [decide_eq_false h, decide_eq_false fun z => h (V.bl.inj z)]
theorem cp_eqI : CP K g env (rEqA K) (.int i) z1 (.int j) z2 (decide (i = j)) := cp_l fun σ F H v1 v2 st r1 r2 Q q => by
  rw [rd_int r1, rd_int r2]; exact ⟨rfl, by rw [vint_dec]; exact q⟩
theorem cp_eqS : CP K g env (rEqA K) (.str s) z1 (.str t) z2 (decide (s = t)) := cp_l fun σ F H v1 v2 st r1 r2 Q q => by
  rw [rd_str r1, rd_str r2]; exact ⟨rfl, by rw [vstr_dec]; exact q⟩
theorem cp_eqB {k l : Bool} : CP K g env (rEqA K) (.bool k) z1 (.bool l) z2 (decide (k = l)) := cp_l fun σ F H v1 v2 st r1 r2 Q q => by
  rw [rd_bl r1, rd_bl r2]; exact ⟨rfl, by rw [vbl_dec]; exact q⟩
theorem cp_eqD (h1 : SeqAt.shaped d1 = true) (h2 : SeqAt.shaped d2 = true) : CP K g env (rEqA K) d1 z1 d2 z2 (PyData.eqv d1 d2) := cp_r fun σ F H v1 v2 st r1 r2 Q q => ⟨d1, d2, rd_nowP st.toSk r1 h1, rd_nowP st.toSk r2 h2, h1, h2, q⟩
theorem cp_neI : CP K g env (rNeA K) (.int i) z1 (.int j) z2 (!decide (i = j)) := cp_l fun σ F H v1 v2 st r1 r2 Q q => by
  rw [rd_int r1, rd_int r2]; exact ⟨rfl, by rw [vint_dec]; exact q⟩
theorem cp_neS : CP K g env (rNeA K) (.str s) z1 (.str t) z2 (!decide (s = t)) := cp_l fun σ F H v1 v2 st r1 r2 Q q => by
  rw [rd_str r1, rd_str r2]; exact ⟨rfl, by rw [vstr_dec]; exact q⟩
theorem cp_neB {k l : Bool} : CP K g env (rNeA K) (.bool k) z1 (.bool l) z2 (!decide (k = l)) := cp_l fun σ F H v1 v2 st r1 r2 Q q => by
  rw [rd_bl r1, rd_bl r2]; exact ⟨rfl, by rw [vbl_dec]; exact q⟩
theorem cp_neD (h1 : SeqAt.shaped d1 = true) (h2 : SeqAt.shaped d2 = true) : CP K g env (rNeA K) d1 z1 d2 z2 (!PyData.eqv d1 d2) := cp_r fun σ F H v1 v2 st r1 r2 Q q => ⟨d1, d2, rd_nowP st.toSk r1 h1, rd_nowP st.toSk r2 h2, h1, h2, q⟩
/-- x is None -/
def isNone : PyData → Bool
  | .none => true
  | _ => false
theorem dp_isnone {v : V} {d : PyData} (h : Dq K H v d) : decide (v = .non) = isNone d := by
  cases h <;> first | rfl | exact decide_eq_false (fun z => by cases z)
theorem cp_isN : CP K g env rIsN d1 z1 .none z2 (isNone d1) := fun σ F H v1 v2 st r1 r2 Q q => ⟨rd_non r2, by rw [dp_isnone (rd_now st.toSk r1)]; exact q⟩
theorem cp_notN : CP K g env rNotN d1 z1 .none z2 (!isNone d1) := fun σ F H v1 v2 st r1 r2 Q q => ⟨rd_non r2, by rw [dp_isnone (rd_now st.toSk r1)]; exact q⟩
/-- flat things in a list or tuple -/
def fl : PyData → Option V
  | .int i => some (.int i)
  | .str s => some (.str s)
  | .none => some .non
  | _ => none
theorem fl_dp {v x : V} {d : PyData} (h : Dq K H v d) (e : fl d = some x) : v = x := by
  cases h <;> first | exact Option.some.inj e | cases e
theorem fl_flat {x : V} {d : PyData} (e : fl d = some x) : flatV x = true := by
  cases d <;> first | (have e' := Option.some.inj e; subst e'; rfl) | cases e
/-- data in a list -/
theorem cp_inD {ds : List PyData} (h1 : SeqAt.shaped d1 = true) (h2 : SeqAt.shaped (.list ds) = true) : CP K g env (rInA K) d1 z1 (.list ds) z2 (ds.any fun z => PyData.eqv z d1) :=
  cp_r (cp_l fun σ F H v1 v2 st r1 r2 Q q => ⟨d1, ds, rd_nowP st.toSk r1 h1, rd_nowP st.toSk r2 h2, h1, h2, q⟩)
theorem cp_notInD {ds : List PyData} (h1 : SeqAt.shaped d1 = true) (h2 : SeqAt.shaped (.list ds) = true) : CP K g env (rNotInA K) d1 z1 (.list ds) z2 (!ds.any fun z => PyData.eqv z d1) :=
  cp_r (cp_l fun σ F H v1 v2 st r1 r2 Q q => ⟨d1, ds, rd_nowP st.toSk r1 h1, rd_nowP st.toSk r2 h2, h1, h2, q⟩)
theorem cp_inS : CP K g env (rInA K) (.str s) z1 (.str t) z2 (!(Builtin.Str.occurrences t s 0 t.length 1).isEmpty) := cp_r (cp_r (cp_l fun σ F H v1 v2 st r1 r2 Q q => ⟨s, t, rd_str r1, rd_str r2, q⟩))
theorem cp_notInS : CP K g env (rNotInA K) (.str s) z1 (.str t) z2 (!(!(Builtin.Str.occurrences t s 0 t.length 1).isEmpty)) := cp_r (cp_r (cp_l fun σ F H v1 v2 st r1 r2 Q q => ⟨s, t, rd_str r1, rd_str r2, q⟩))
theorem cp_inTD {ds : List PyData} (h1 : SeqAt.shaped d1 = true) (h2 : SeqAt.shaped (.tuple ds) = true) : CP K g env (rInA K) d1 z1 (.tuple ds) z2 (ds.any fun z => PyData.eqv z d1) :=
  cp_r (cp_r (cp_r fun σ F H v1 v2 st r1 r2 Q q => ⟨d1, ds, rd_nowP st.toSk r1 h1, rd_nowP st.toSk r2 h2, h1, h2, q⟩))
theorem cp_notInTD {ds : List PyData} (h1 : SeqAt.shaped d1 = true) (h2 : SeqAt.shaped (.tuple ds) = true) : CP K g env (rNotInA K) d1 z1 (.tuple ds) z2 (!ds.any fun z => PyData.eqv z d1) :=
  cp_r (cp_r (cp_r fun σ F H v1 v2 st r1 r2 Q q => ⟨d1, ds, rd_nowP st.toSk r1 h1, rd_nowP st.toSk r2 h2, h1, h2, q⟩))
end
section
variable {Φ : Bool → Prop}
theorem WT.mono {Φ' : Bool → Prop} (h : WT X g e env Φ Ψ) (k : ∀ d, Φ d → Φ' d) : WT X g e env Φ' Ψ :=
  fun W tk σ F H st hx Q hQ => h W tk σ F H st hx Q fun d F' H' p => hQ d F' H' (k d p)
theorem wt_e (h : WE X g e env (fun d _ => ∃ k, d = .bool k ∧ Φ k) Ψ) (he : ∀ whole, isTrue e X.env whole = (do let v ← whole; standAt e.pos; holding [v] (truthy v)) := by intro _; rfl) : WT X g e env Φ Ψ := fun W tk σ F H st hx Q hQ => by
  refine semT_of (pt_val (peS e) he) ?_
  refine h W tk σ F H st hx _ fun d z v F' H' ⟨k, hd, hp⟩ s' e' r' => ?_
  subst hd
  exact ⟨k, rd_bl r', hQ k F' H' hp s' e'⟩
theorem wt_not (h : WT X g a env (fun k => Φ (!k)) Ψ) : WT X g (.UnaryOp .Not a pos) env Φ Ψ := fun W tk σ F H st hx Q hQ =>
  semT_of (pt_not (ptS a)) (h W tk σ F H st hx _ fun k F' H' hp s' e' => hQ _ F' H' hp s' e')
theorem we_not {Φ : PyData → Bool → Prop} (h : WE X g a env (fun d _ => ∃ k, d = .bool k ∧ Φ (.bool !k) true) Ψ) : WE X g (.UnaryOp .Not a pos) env Φ Ψ := fun W tk σ F H st hx Q hQ =>
  semE_of (pe_not (peS a)) (h W tk σ F H st hx _ fun d z v F' H' ⟨k, hd, hp⟩ s' e' r' => by
    subst hd
    exact ⟨k, rd_bl r', hQ _ true _ F' H' hp s' e' (.bl _)⟩)
/-- semantic reading of an and/or whatever its whole is -/
structure SemW (X : Cx) (e : Expr) (σ : SS) (H : Hp) (Q : Bool → Hp → Prop) : Prop where
  run : ∀ (whole : Sem Value) (pins : List (Addr × Obj)) (s : Shared), Inv X pins σ H s → wpAny (model X.prog X.w) X.A (isTrue e X.env whole) (TP X pins σ Q) X.xe s
def semW (X : Cx) (e : Expr) : TT := fun σ H Q => SemW X e σ H Q
theorem pwW (e : Expr) : PW X e (semW X e) := ⟨fun whole pins s σ H Q I q => q.run whole pins s I⟩
theorem semW_of {e : Expr} {t : TT} (h : PW X e t) {σ : SS} {H : Hp} {Q : Bool → Hp → Prop} (q : t σ H Q) : semW X e σ H Q := ⟨fun whole pins s I => h.run whole pins s σ H Q I q⟩
/-- a test, whatever its whole is -/
def WW (X : Cx) (g : G) (e : Expr) (env : List Sl) (Φ : Bool → Prop) (Ψ : Exc → Prop) : Prop :=
  ∀ (W : WX), Takes X W → ∀ (σ : SS) (F H : Hp), St X.K g F H σ env → HX X g env Ψ W σ →
    ∀ Q : Bool → Hp → Prop, (∀ b F' H', Φ b → St X.K g F' H' σ env → Ex F F' → Q b H') → semW X e σ H Q
theorem wt_ww (h : WW X g e env Φ Ψ) : WT X g e env Φ Ψ := fun W tk σ F H st hx Q hQ => semT_of (pwW e).pt (h W tk σ F H st hx Q hQ)
theorem ww_and {rest : List Expr} (h : WT X g a env (fun k => (k = true → WW X g (.BoolOp .And (b :: rest) pos) env Φ Ψ) ∧ (k = false → Φ false)) Ψ) : WW X g (.BoolOp .And (a :: b :: rest) pos) env Φ Ψ := fun W tk σ F H st hx Q hQ => by
  refine semW_of (pw_and (ptS a) (pwW _)) ?_
  refine h W tk σ F H st hx _ fun k F' H' ⟨ht, hf⟩ s' e' => ?_
  cases k with
  | true => rw [if_pos rfl]; exact ht rfl W tk σ F' H' s' hx Q fun k F2 H2 hp s2 e2 => hQ k F2 H2 hp s2 (e'.trans e2)
  | false => rw [if_neg Bool.false_ne_true]; exact hQ false F' H' (hf rfl) s' e'
theorem ww_or {rest : List Expr} (h : WT X g a env (fun k => (k = true → Φ true) ∧ (k = false → WW X g (.BoolOp .Or (b :: rest) pos) env Φ Ψ)) Ψ) : WW X g (.BoolOp .Or (a :: b :: rest) pos) env Φ Ψ := fun W tk σ F H st hx Q hQ => by
  refine semW_of (pw_or (ptS a) (pwW _)) ?_
  refine h W tk σ F H st hx _ fun k F' H' ⟨ht, hf⟩ s' e' => ?_
  cases k with
  | true => rw [if_pos rfl]; exact hQ true F' H' (ht rfl) s' e'
  | false => rw [if_neg Bool.false_ne_true]; exact hf rfl W tk σ F' H' s' hx Q fun k F2 H2 hp s2 e2 => hQ k F2 H2 hp s2 (e'.trans e2)
theorem ww_and1 (h : WT X g a env Φ Ψ) : WW X g (.BoolOp .And [a] pos) env Φ Ψ := fun W tk σ F H st hx Q hQ => semW_of (pw_and1 (ptS a)) (h W tk σ F H st hx Q hQ)
theorem ww_or1 (h : WT X g a env Φ Ψ) : WW X g (.BoolOp .Or [a] pos) env Φ Ψ := fun W tk σ F H st hx Q hQ => semW_of (pw_or1 (ptS a)) (h W tk σ F H st hx Q hQ)
end
section
variable {Φ : PyData → Bool → Prop}
/-- as values (truths) -/
theorem we_one {op : BoolOp} (h : WE X g a env Φ Ψ) : WE X g (.BoolOp op [a] pos) env Φ Ψ := fun W tk σ F H st hx Q hQ => semE_of (pe_one (peS a)) (h W tk σ F H st hx Q hQ)
theorem we_and {rest : List Expr} (h : WE X g a env (fun d _ => ∃ k, d = .bool k ∧ (k = true → WE X g (.BoolOp .And (b :: rest) pos) env Φ Ψ) ∧ (k = false → Φ (.bool false) true)) Ψ) : WE X g (.BoolOp .And (a :: b :: rest) pos) env Φ Ψ := fun W tk σ F H st hx Q hQ => by
  refine semE_of (pe_and (peS a) (peS _)) ?_
  refine h W tk σ F H st hx _ fun d z v F' H' ⟨k, hd, ht, hf⟩ s' e' r' => ?_
  subst hd
  refine ⟨k, rd_bl r', ?_⟩
  cases k with
  | true => rw [if_pos rfl]; exact ht rfl W tk σ F' H' s' hx Q fun d z v F2 H2 hp s2 e2 => hQ d z v F2 H2 hp s2 (e'.trans e2)
  | false => rw [if_neg Bool.false_ne_true]; exact hQ _ true _ F' H' (hf rfl) s' e' (.bl false)
theorem we_or {rest : List Expr} (h : WE X g a env (fun d _ => ∃ k, d = .bool k ∧ (k = true → Φ (.bool true) true) ∧ (k = false → WE X g (.BoolOp .Or (b :: rest) pos) env Φ Ψ)) Ψ) : WE X g (.BoolOp .Or (a :: b :: rest) pos) env Φ Ψ := fun W tk σ F H st hx Q hQ => by
  refine semE_of (pe_or (peS a) (peS _)) ?_
  refine h W tk σ F H st hx _ fun d z v F' H' ⟨k, hd, ht, hf⟩ s' e' r' => ?_
  subst hd
  refine ⟨k, rd_bl r', ?_⟩
  cases k with
  | true => rw [if_pos rfl]; exact hQ _ true _ F' H' (ht rfl) s' e' (.bl true)
  | false => rw [if_neg Bool.false_ne_true]; exact hf rfl W tk σ F' H' s' hx Q fun d z v F2 H2 hp s2 e2 => hQ d z v F2 H2 hp s2 (e'.trans e2)
theorem we_if (h : WT X g c env (fun k => (k = true → WE X g a env Φ Ψ) ∧ (k = false → WE X g b env Φ Ψ)) Ψ) : WE X g (.IfExp c a b pos) env Φ Ψ := fun W tk σ F H st hx Q hQ => by
  refine semE_of (pe_ifExp (ptS c) (peS a) (peS b)) ?_
  refine h W tk σ F H st hx _ fun k F' H' ⟨ht, hf⟩ s' e' => ?_
  cases k with
  | true => rw [if_pos rfl]; exact ht rfl W tk σ F' H' s' hx Q fun d z v F2 H2 hp s2 e2 => hQ d z v F2 H2 hp s2 (e'.trans e2)
  | false => rw [if_neg Bool.false_ne_true]; exact hf rfl W tk σ F' H' s' hx Q fun d z v F2 H2 hp s2 e2 => hQ d z v F2 H2 hp s2 (e'.trans e2)
end
inductive IxP (Φ : PyData → Bool → Prop) : PyData → Bool → PyData → Bool → Prop
  | lst {xs : List PyData} {i : Int} {x : PyData} {z1 z2 : Bool} : Φ x true → atI xs i = some x → IxP Φ (.list xs) z1 (.int i) z2
  | tup {xs : List PyData} {i : Int} {x : PyData} {z1 z2 : Bool} : Φ x true → atI xs i = some x → IxP Φ (.tuple xs) z1 (.int i) z2
  | str {s : Str} {i : Int} {c : Nat} {z1 z2 : Bool} : Φ (.str ⟨#[c]⟩) true → s.length ≤ sizeLine → atI s.cps.toList i = some c → IxP Φ (.str s) z1 (.int i) z2
theorem dpa_at {ds : List PyData} {vs : List V} {i : Int} {d : PyData} (h : DqAll K H vs ds) (e : atI ds i = some d) : ∃ v, atI vs i = some v ∧ Dq K H v d := by
  unfold atI at e ⊢
  rw [dpa_len h]
  cases q : ixN ds.length i with
  | none => rw [q] at e; cases e
  | some j =>
    rw [q] at e
    obtain ⟨v, h1, h2⟩ := dpa_get h (show ds[j]? = some d from e)
    exact ⟨v, h1, h2⟩
theorem dop_ix {Φ : PyData → Bool → Prop} {d1 d2 : PyData} {z1 z2 : Bool} (h : IxP Φ d1 z1 d2 z2) : DOp K g env (rIx K) d1 z1 d2 z2 Φ := by
  cases h with
  | lst hp ha =>
    refine dop_l fun σ F H v1 v2 st r1 r2 Q hQ => ?_
    obtain ⟨a1, vs1, rfl, s1, p1⟩ := rd_lst st.toSk r1
    obtain ⟨v, e1, e2⟩ := dpa_at p1 ha
    exact ⟨a1, vs1, _, v, rfl, rd_int r2, s1, e1, hQ _ true _ F H hp st (Ex.refl F) e2⟩
  | tup hp ha =>
    refine dop_r (dop_l fun σ F H v1 v2 st r1 r2 Q hQ => ?_)
    obtain ⟨a1, vs1, rfl, s1, p1⟩ := rd_tup st.toSk r1
    obtain ⟨v, e1, e2⟩ := dpa_at p1 ha
    exact ⟨a1, vs1, _, v, rfl, rd_int r2, s1, e1, hQ _ true _ F H hp st (Ex.refl F) e2⟩
  | str hp hl ha => exact dop_r (dop_r fun σ F H v1 v2 st r1 r2 Q hQ => ⟨_, _, _, rd_str r1, rd_int r2, hl, ha, hQ _ true _ F H hp st (Ex.refl F) (.str _)⟩)
theorem we_ix {Φ : PyData → Bool → Prop} (h : WE X g a env (fun d1 z1 => WE X g b env (fun d2 z2 => IxP Φ d1 z1 d2 z2) Ψ) Ψ) (hs : PlainIx b := by exact fun _ _ => rfl) : WE X g (.Subscript a b pos) env Φ Ψ :=
  we_op (pe_ix ix_seq (peS a) (peS b) hs) (fun _ _ _ _ => dop_ix) h
end
end TL
namespace TL
open PySem PySem.Spec PyProof.Rows L2
inductive PR where
  | rd (d : PyData)
  | nl (ds : List PyData)
  | ar (i : Nat)
  | nt (kvs : List (List Key × PyData))
  | nk (kvs : List (Key × PyData))
  | sl (C : Sl → Prop)
abbrev CT := List Sl → (PR → List Sl → Prop) → (Exc → List Sl → Prop) → Prop
def Step (F H : Hp) (args : List Sl) (F' H' : Hp) : Prop :=
  Ex F F' ∧ (∀ a o, H a = some o → ¬ Own args a → ntb o → H' a = some o) ∧ (∀ a, F' a ≠ none → F a ≠ none ∨ H a = none) ∧ ∀ a, H a ≠ none → H' a ≠ none
def PrOk (K : Frag) (vs : List V) (H F' H' : Hp) (args' : List Sl) (v : V) : PR → Prop
  | .rd d => Dq K F' v d
  | .nl ds => ∃ p xs, v = .ref p ∧ H' p = some (.lst xs) ∧ DqAll K F' xs ds ∧ F' p = none ∧ H p = none ∧ ¬ Own args' p
  | .ar i => vs[i]? = some v
  | .nt kvs => ∃ p xs, v = .ref p ∧ H' p = some (.dT xs) ∧ KVp K F' xs kvs ∧ F' p = none ∧ H p = none ∧ ¬ Own args' p
  | .nk kvs => ∃ p xs, v = .ref p ∧ H' p = some (.dK xs) ∧ KVp K F' xs kvs ∧ F' p = none ∧ H p = none ∧ ¬ Own args' p
  | .sl C => ∃ s, C s ∧ SlOk K F' H' (some v) s ∧ ∀ p ∈ s.fp, F' p = none ∧ H p = none ∧ ¬ Own args' p
def ExcE (K : Frag) (E : XK) (H : Hp) : Exc → Prop
  | .own n => E (.ref (He.ga K n)) none H
def spOf (K : Frag) (n : Nat) (S : CT) : Sp := fun vs H Q E => vs.length = n ∧ ∃ F args Φ Ψ, S args Φ Ψ ∧ Sk K F H (vs.map some) args ∧
  (∀ r v args' F' H', Φ r args' → Sk K F' H' (vs.map some) args' → Step F H args F' H' → (∀ a, Own args' a → Own args a ∨ H a = none) → PrOk K vs H F' H' args' v r → Q v H') ∧
  (∀ c args' F' H', Ψ c args' → Sk K F' H' (vs.map some) args' → Step F H args F' H' → (∀ a, Own args' a → Own args a ∨ H a = none) → ExcE K E H' c)
structure Has (P : Program) (w : World) (K : Frag) (mg : Str → Option Value) (base : Heap) (k : Nat) (x : Str) (ps : List Str) (S : CT) : Prop where
  ex : ∃ f fd, mg x = some (.ref f) ∧ PySem.W.keepIn K (.ref f) = true ∧ Binds K fd ps [] ∧ FnOk P w K mg base (L2.CX P w) k f fd ps (spOf K ps.length S)
structure SemA (X : Cx) (es : List Expr) (σ : SS) (H : Hp) (Q : List V → Hp → Prop) : Prop where
  run : ∀ (pos : Pos) (pins : List (Addr × Obj)) (s : Shared), Inv X pins σ H s → wpAny (model X.prog X.w) X.A (spliced (backTo pos (starEach es X.env))) (AP X pins σ Q) X.xe s
def semA (X : Cx) (es : List Expr) : TA := fun σ H Q => SemA X es σ H Q
theorem paS {X : Cx} (es : List Expr) : PA X es (semA X es) := ⟨fun pos pins s σ H Q I h => h.run pos pins s I⟩
theorem semA_of {X : Cx} {es : List Expr} {t : TA} (h : PA X es t) {σ : SS} {H : Hp} {Q : List V → Hp → Prop} (q : t σ H Q) : semA X es σ H Q := ⟨fun pos pins s I => h.run pos pins s σ H Q I q⟩
def WAs (X : Cx) (g : G) (es : List Expr) (env : List Sl) (Φ : List Ar → Prop) (Ψ : Exc → Prop) : Prop :=
  ∀ (W : WX), Takes X W → ∀ (σ : SS) (F H : Hp), St X.K g F H σ env → HX X g env Ψ W σ →
    ∀ Q : List V → Hp → Prop, (∀ as vs F' H', Φ as → St X.K g F' H' σ env → Ex F F' → ArAll X.K F' σ vs as → Q vs H') → semA X es σ H Q
section
variable {X : Cx} {g : G} {env : List Sl} {Ψ : Exc → Prop} {pos p : Pos} {a b c e : Expr} {es : List Expr} {K : Frag} {F F' H H' : Hp} {σ : SS}
section
variable {Φ : List Ar → Prop}
theorem wa_nil (h : Φ []) : WAs X g [] env Φ Ψ := fun W tk σ F H st hx Q hQ => semA_of pa_nil (hQ [] [] F H h st (Ex.refl F) trivial)
/-- an argument that is data -/
theorem wa_d (he : WE X g e env (fun d z => z = true ∧ WAs X g es env (fun as => Φ (.d d :: as)) Ψ) Ψ) (hs : starEach (e :: es) X.env = (false, eval e X.env) :: starEach es X.env := by rfl) : WAs X g (e :: es) env Φ Ψ := fun W tk σ F H st hx Q hQ => by
  refine semA_of (pa_cons (peS e) (paS es) hs) ?_
  refine he W tk σ F H st hx _ fun d z v F1 H1 ⟨hz, hp⟩ s1 e1 r1 => ?_
  subst hz
  exact hp W tk σ F1 H1 s1 hx _ fun as vs F2 H2 hp2 s2 e2 r2 => hQ (.d d :: as) (v :: vs) F2 H2 hp2 s2 (e1.trans e2) ⟨dp_mono e2 _ _ r1, r2⟩
/-- an object that a slot holds -/
theorem wa_s (i : Nat) {x : Str} {s : Sl} (h : WAs X g es env (fun as => Φ (.s i :: as)) Ψ) (he : env[i]? = some s := by rfl) (hne : s.fp ≠ [] := by (intro h; cases h)) (hN : X.N[i]? = some x := by rfl)
    (hv : Vis X.env.scope x := by first | exact Or.inl rfl | exact Or.inr (Or.inl rfl) | exact Or.inr (Or.inr rfl)) (hd : (x == ("__debug__" : Str)) = false := by decide)
    (hcd : (x == ("__classdict__" : Str)) = false := by decide) (hs : starEach ((.Name x pos) :: es) X.env = (false, eval (.Name x pos) X.env) :: starEach es X.env := by rfl) : WAs X g (.Name x pos :: es) env Φ Ψ := fun W tk σ F H st hx Q hQ => by
  refine semA_of (pa_cons (pe_var hN hv hd hcd) (paS es) hs) ?_
  have q := st.sl i s he
  obtain ⟨v, hv⟩ : ∃ v, σ[i]?.getD none = some v := by
    cases s with
    | un => exact absurd rfl hne
    | d x => exact absurd rfl hne
    | v x => exact ⟨_, q⟩
    | ol a ds => exact ⟨_, q.1⟩
    | bg a => exact ⟨_, q.1⟩
    | dt a ds => exact ⟨_, q.1⟩
    | dk a ds => exact ⟨_, q.1⟩
    | fv l => exact absurd rfl hne
    | fl l => exact absurd rfl hne
    | oo a ds => exact ⟨_, q.1⟩
    | ow t => exact ⟨q.choose, q.choose_spec.1⟩
  exact ⟨v, getD_some hv, h W tk σ F H st hx _ fun as vs F2 H2 hp2 s2 e2 r2 => hQ (.s i :: as) (v :: vs) F2 H2 hp2 s2 e2 ⟨getD_some hv, r2⟩⟩
end
def datas : List Ar → Option (List PyData)
  | [] => some []
  | .d x :: r => (datas r).map (x :: ·)
  | .s _ :: _ => none
theorem dpa_datas : ∀ {as : List Ar} {ds : List PyData} {vs : List V}, datas as = some ds → ArAll K F σ vs as → DqAll K F vs ds
  | [], _, [], h, _ => by cases h; exact .nil
  | .d x :: r, _, _ :: _, h, ⟨h1, h2⟩ => by
    obtain ⟨ds, e1, e2⟩ := Option.map_eq_some_iff.mp (show (datas r).map (x :: ·) = some _ from h)
    subst e2
    exact .cons h1 (dpa_datas e1 h2)
  | .s _ :: _, _, _, h, _ => by cases h
theorem wn_list {Φ : List PyData → Prop} (h : WAs X g es env (fun as => ∃ ds, datas as = some ds ∧ ds.length ≤ sizeLine ∧ Φ ds) Ψ) : WN X g (.List es pos) env Φ Ψ := fun W tk σ F H st hx Q hQ => by
  refine semE_of (pe_lst (paS es)) ?_
  refine h W tk σ F H st hx _ fun as vs F1 H1 ⟨ds, e1, hl, hp⟩ s1 ex1 r1 => ?_
  have hd := dpa_datas e1 r1
  refine ⟨by rw [dpa_len hd]; exact hl, fun p hn => ?_⟩
  exact put_new s1 hn hd hp fun ds v F' H' hp s e r => hQ ds v F' H' hp s (ex1.trans e) r
theorem we_list {Φ : PyData → Bool → Prop} (h : WAs X g es env (fun as => ∃ ds, datas as = some ds ∧ ds.length ≤ sizeLine ∧ Φ (.list ds) true) Ψ) : WE X g (.List es pos) env Φ Ψ := we_of_wn (wn_list h)
theorem we_tuple {x1 : Nat} {Φ : PyData → Bool → Prop} (h : WAs X g es env (fun as => ∃ ds, datas as = some ds ∧ ds.length ≤ sizeLine ∧ Φ (.tuple ds) true) Ψ) : WE X g (.Tuple es x1 pos) env Φ Ψ := fun W tk σ F H st hx Q hQ => by
  refine semE_of (pe_tup (paS es)) ?_
  refine h W tk σ F H st hx _ fun as vs F1 H1 ⟨ds, e1, hl, hp⟩ s1 ex1 r1 => ?_
  have hd := dpa_datas e1 r1
  refine ⟨by rw [dpa_len hd]; exact hl, fun p hn => ?_⟩
  exact put_tup s1 hn hd hp fun d z v F' H' hp s e r => hQ d z v F' H' hp s (ex1.trans e) r
def slOf (env : List Sl) : Ar → Sl
  | .d x => .d x
  | .s i => env[i]?.getD .un
def arIx : List Ar → List Nat
  | [] => []
  | .s i :: r => i :: arIx r
  | .d _ :: r => arIx r
theorem arall_len : ∀ {vs : List V} {as : List Ar}, ArAll K F σ vs as → vs.length = as.length
  | [], [], _ => rfl
  | _ :: _, _ :: _, ⟨_, h⟩ => congrArg Nat.succ (arall_len h)
  | [], _ :: _, h => h.elim
  | _ :: _, [], h => h.elim
theorem arall_get : ∀ {vs : List V} {as : List Ar} {j : Nat} {a : Ar}, ArAll K F σ vs as → as[j]? = some a → ∃ v, vs[j]? = some v ∧ ArOk K F σ v a
  | [], [], j, a, _, h => by simp at h
  | v :: vs, x :: as, 0, a, ⟨h1, _⟩, h => by
    have e := Option.some.inj h
    subst e
    exact ⟨v, rfl, h1⟩
  | v :: vs, x :: as, j + 1, a, ⟨_, h2⟩, h => arall_get (j := j) h2 h
  | [], _ :: _, _, _, h, _ => h.elim
  | _ :: _, [], _, _, h, _ => h.elim
theorem arix_mem : ∀ {as : List Ar} {j i : Nat}, as[j]? = some (.s i) → i ∈ arIx as
  | .s k :: r, 0, i, h => by
    have e := Option.some.inj h
    injection e with e
    subst e
    exact List.mem_cons_self ..
  | .d x :: r, 0, i, h => by have e := Option.some.inj h; cases e
  | .s k :: r, j + 1, i, h => List.mem_cons_of_mem _ (arix_mem (as := r) (j := j) h)
  | .d x :: r, j + 1, i, h => arix_mem (as := r) (j := j) h
  | [], _, _, h => by simp at h
/-- the same slot is not handed on twice -/
theorem arix_inj : ∀ {as : List Ar} {j k i : Nat}, (arIx as).Nodup → as[j]? = some (.s i) → as[k]? = some (.s i) → j = k
  | [], _, _, _, _, h, _ => by simp at h
  | _ :: _, 0, 0, _, _, _, _ => rfl
  | .s l :: r, 0, k + 1, i, nd, h1, h2 => by
    have e := Option.some.inj h1
    injection e with e
    subst e
    exact absurd (arix_mem (as := r) (j := k) h2) (List.nodup_cons.mp nd).1
  | .s l :: r, j + 1, 0, i, nd, h1, h2 => by
    have e := Option.some.inj h2
    injection e with e
    subst e
    exact absurd (arix_mem (as := r) (j := j) h1) (List.nodup_cons.mp nd).1
  | .d l :: r, 0, k + 1, i, nd, h1, h2 => by have e := Option.some.inj h1; cases e
  | .d l :: r, j + 1, 0, i, nd, h1, h2 => by have e := Option.some.inj h2; cases e
  | .s l :: r, j + 1, k + 1, i, nd, h1, h2 => congrArg Nat.succ (arix_inj (as := r) (List.nodup_cons.mp nd).2 h1 h2)
  | .d l :: r, j + 1, k + 1, i, nd, h1, h2 => congrArg Nat.succ (arix_inj (as := r) nd h1 h2)
theorem map_get {α β : Type} {f : α → β} {l : List α} {j : Nat} {y : β} (h : (l.map f)[j]? = some y) : ∃ x, l[j]? = some x ∧ f x = y := by
  rw [List.getElem?_map] at h
  exact Option.map_eq_some_iff.mp h
theorem vmap_get {vs : List V} {j : Nat} {v : V} (h : vs[j]? = some v) : ((vs.map some)[j]?.getD none : Option V) = some v := by
  rw [List.getElem?_map, h]; rfl
/-- what the callee is handed -/
theorem Sk.callee {as : List Ar} {vs : List V} (st : Sk K F H σ env) (ha : ArAll K F σ vs as) (nd : (arIx as).Nodup) (hs : ∀ i ∈ arIx as, i < env.length) : Sk K F H (vs.map some) (as.map (slOf env)) where
  len := by rw [List.length_map, List.length_map]; exact arall_len ha
  sl := fun j s e => by
    obtain ⟨a, ea, es⟩ := map_get e
    obtain ⟨v, ev, hv⟩ := arall_get ha ea
    rw [vmap_get ev]
    cases a with
    | d x => rw [← es]; exact ⟨v, rfl, hv⟩
    | s i =>
      have hi := hs i (arix_mem ea)
      have q := st.sl i _ (List.getElem?_eq_getElem hi)
      have hv' : σ[i]? = some (some v) := hv
      rw [hv'] at q
      have e2 : s = env[i] := by rw [← es]; show env[i]?.getD .un = _; rw [List.getElem?_eq_getElem hi]; rfl
      rw [e2]; exact q
  nd := fun j k s t a ej ek h1 h2 => by
    obtain ⟨x, ex, rfl⟩ := map_get ej
    obtain ⟨y, ey, rfl⟩ := map_get ek
    cases x with
    | d z => cases h1
    | s i =>
      cases y with
      | d z => cases h2
      | s l =>
        have hi := hs i (arix_mem ex)
        have hl := hs l (arix_mem ey)
        have e1 : slOf env (.s i) = env[i] := by show env[i]?.getD .un = _; rw [List.getElem?_eq_getElem hi]; rfl
        have e2 : slOf env (.s l) = env[l] := by show env[l]?.getD .un = _; rw [List.getElem?_eq_getElem hl]; rfl
        rw [e1] at h1
        rw [e2] at h2
        have e := st.nd i l _ _ a (List.getElem?_eq_getElem hi) (List.getElem?_eq_getElem hl) h1 h2
        subst e
        exact arix_inj nd ex ey
  fr := fun a ⟨j, s, e, h1⟩ => by
    obtain ⟨x, ex, rfl⟩ := map_get e
    cases x with
    | d z => cases h1
    | s i =>
      have hi := hs i (arix_mem ex)
      have e1 : slOf env (.s i) = env[i] := by show env[i]?.getD .un = _; rw [List.getElem?_eq_getElem hi]; rfl
      exact st.fr a ⟨i, env[i], List.getElem?_eq_getElem hi, by rw [← e1]; exact h1⟩
  ex := st.ex
  tf := st.tf
  tk := st.tk
theorem own_args {as : List Ar} {a : Addr} (h : Own (as.map (slOf env)) a) : ∃ (j i : Nat) (s : Sl), as[j]? = some (.s i) ∧ env[i]? = some s ∧ a ∈ s.fp := by
  obtain ⟨j, s, e, h1⟩ := h
  obtain ⟨x, ex, rfl⟩ := map_get e
  cases x with
  | d z => cases h1
  | s i =>
    cases q : env[i]? with
    | none => have e1 : slOf env (.s i) = .un := by show env[i]?.getD .un = _; rw [q]; rfl
              rw [e1] at h1; cases h1
    | some s => have e1 : slOf env (.s i) = s := by show env[i]?.getD .un = _; rw [q]; rfl
                rw [e1] at h1; exact ⟨j, i, s, ex, q, h1⟩
/-- behind a call: the slots that were handed on are as the callee left them -/
theorem St.called {as : List Ar} {vs : List V} {args' env' : List Sl} (st : St K g F H σ env) (ha : ArAll K F σ vs as) (sk : Sk K F' H' (vs.map some) args') (hst : Step F H (as.map (slOf env)) F' H')
    (hl : env'.length = env.length) (hk : ∀ (i : Nat) (s : Sl), i ∉ arIx as → env'[i]? = some s → env[i]? = some s) (hp : ∀ (j i : Nat) (s : Sl), as[j]? = some (Ar.s i) → env'[i]? = some s → args'[j]? = some s)
    (hsub : ∀ (i : Nat) (s s' : Sl), env[i]? = some s → env'[i]? = some s' → ∀ a ∈ s'.fp, a ∈ s.fp ∨ H a = none) : St K g F' H' σ env' := by
  obtain ⟨e1, e2, e3, e4⟩ := hst
  have sub : ∀ a, Own env' a → Own env a ∨ H a = none := fun a ⟨i, s', h1, h2⟩ => by
    have hi : i < env.length := by rw [← hl]; exact (List.getElem?_eq_some_iff.mp h1).1
    rcases hsub i _ s' (List.getElem?_eq_getElem hi) h1 a h2 with q | q
    · exact .inl ⟨i, env[i], List.getElem?_eq_getElem hi, q⟩
    · exact .inr q
  have ownA : ∀ a, Own (as.map (slOf env)) a → Own env a := fun a h => by
    obtain ⟨j, i, s, _, h2, h3⟩ := own_args h
    exact ⟨i, s, h2, h3⟩
  have ixs : ∀ (i : Nat), i ∈ arIx as → ∃ j : Nat, as[j]? = some (Ar.s i) := fun i h => by
    clear hp hk ownA e2 ha
    induction as with
    | nil => cases h
    | cons x r ih =>
      cases x with
      | d z => obtain ⟨j, hj⟩ := ih h; exact ⟨j + 1, hj⟩
      | s l =>
        rcases List.mem_cons.mp (show i ∈ l :: arIx r from h) with e | h
        · subst e; exact ⟨0, rfl⟩
        · obtain ⟨j, hj⟩ := ih h; exact ⟨j + 1, hj⟩
  refine { len := by rw [hl]; exact st.len, sl := fun i s e => ?_, nd := fun i j s t a ei ej h1 h2 => ?_, fr := fun a h => ?_, ex := sk.ex, tf := sk.tf, tk := sk.tk, gt := st.gt.grow (fun a z => by
      cases q : H a with
      | none => rfl
      | some u => exact absurd z (e4 a (by rw [q]; intro y; cases y))), g1 := fun a o h m n => ?_, g2 := fun a h => (sub a h).elim (st.g2 a) fun z => .inl (st.h0 z), g3 := st.g3.trans e1, g4 := fun a h => ?_, g5 := fun a m z => ?_, g6 := st.g6 }
  · by_cases hi : i ∈ arIx as
    · obtain ⟨j, hj⟩ := ixs i hi
      have q := sk.sl j s (hp j i s hj e)
      obtain ⟨v, ev, hv⟩ := arall_get ha hj
      rw [vmap_get ev] at q
      have hv' : σ[i]? = some (some v) := hv
      rw [hv']; exact q
    · have e' := hk i s hi e
      refine slok_mono e1 (fun a h u q => e2 a u q (fun z => ?_) fun ps y => slok_ntb (st.sl i s e') h ps (by rw [q, y])) (st.sl i s e')
      obtain ⟨j, l, t, h3, h4, h5⟩ := own_args z
      have el := st.nd i l s t a e' h4 h h5
      subst el
      exact hi (arix_mem h3)
  · have hi : i < env.length := by rw [← hl]; exact (List.getElem?_eq_some_iff.mp ei).1
    have hj : j < env.length := by rw [← hl]; exact (List.getElem?_eq_some_iff.mp ej).1
    by_cases mi : i ∈ arIx as
    · by_cases mj : j ∈ arIx as
      · obtain ⟨p, hp1⟩ := ixs i mi
        obtain ⟨q, hq1⟩ := ixs j mj
        have e := sk.nd p q s t a (hp p i s hp1 ei) (hp q j t hq1 ej) h1 h2
        subst e
        rw [hp1] at hq1
        injection hq1 with z
        injection z
      · have ej' := hk j t mj ej
        rcases hsub i _ s (List.getElem?_eq_getElem hi) ei a h1 with z | z
        · exact st.nd i j _ t a (List.getElem?_eq_getElem hi) ej' z h2
        · exact absurd z (st.there ⟨j, t, ej', h2⟩)
    · have ei' := hk i s mi ei
      rcases hsub j _ t (List.getElem?_eq_getElem hj) ej a h2 with z | z
      · exact st.nd i j s _ a ei' (List.getElem?_eq_getElem hj) h1 z
      · exact absurd z (st.there ⟨i, s, ei', h1⟩)
  · obtain ⟨i, s, h1, h2⟩ := h
    by_cases mi : i ∈ arIx as
    · obtain ⟨p, hp1⟩ := ixs i mi
      exact sk.fr a ⟨p, s, hp p i s hp1 h1, h2⟩
    · have ho : Own env a := ⟨i, s, hk i s mi h1, h2⟩
      cases q : F' a with
      | none => rfl
      | some u =>
        rcases e3 a (by rw [q]; intro z; cases z) with z | z
        · exact absurd (st.fr a ho) z
        · exact absurd z (st.there ho)
  · refine e2 a o (st.g1 a o h m n) (fun z => ?_) n
    rcases st.g2 a (ownA a z) with q | q
    · rw [q] at h; cases h
    · exact m q
  · rcases e3 a h with z | z
    · exact st.g4 a z
    · exact .inr (st.h0 z)
  · exact e4 a (st.g5 a m) z
end
end TL
namespace TL
open PySem PySem.Spec PyProof.Rows L2
section
variable {X : Cx} {g : G} {env : List Sl} {Ψ : Exc → Prop} {pos p : Pos} {a b c e : Expr} {es : List Expr} {K : Frag} {F F' H H' : Hp} {σ : SS}
def PRd : PR → PyData → Prop
  | .rd d, d' => d' = d
  | .nl ds, d' => d' = .list ds
  | .ar _, _ => False
  | .nt _, _ => False
  | .nk _, _ => False
  | .sl _, _ => False
def natNd : List Nat → Bool
  | [] => true
  | x :: r => (r.all fun y => !Nat.beq x y) && natNd r
def callOk (as : List Ar) (m n : Nat) : Bool := Nat.beq as.length m && natNd (arIx as) && (arIx as).all fun i => Nat.blt i n
theorem natNd_ok : ∀ {l : List Nat}, natNd l = true → l.Nodup
  | [], _ => List.nodup_nil
  | x :: r, h => by
    have h' : (r.all fun y => !Nat.beq x y) = true ∧ natNd r = true := Bool.and_eq_true_iff.mp h
    refine List.nodup_cons.mpr ⟨fun hm => ?_, natNd_ok h'.2⟩
    have q := List.all_eq_true.mp h'.1 x hm
    rw [Nat.beq_refl] at q
    cases q
theorem callOk_ok {as : List Ar} {m n : Nat} (h : callOk as m n = true) : as.length = m ∧ (arIx as).Nodup ∧ ∀ i ∈ arIx as, i < n := by
  have h1 : (Nat.beq as.length m && natNd (arIx as)) = true ∧ ((arIx as).all fun i => Nat.blt i n) = true := Bool.and_eq_true_iff.mp h
  have h2 := Bool.and_eq_true_iff.mp h1.1
  refine ⟨Nat.eq_of_beq_eq_true h2.1, natNd_ok h2.2, fun i hi => ?_⟩
  have q := List.all_eq_true.mp h1.2 i hi
  exact Nat.le_of_ble_eq_true q
theorem st_same {as : List Ar} {vs : List V} {args' : List Sl} (st : St K g F H σ env) (ha : ArAll K F σ vs as) (sk : Sk K F' H' (vs.map some) args') (hst : Step F H (as.map (slOf env)) F' H') (e : args' = as.map (slOf env)) : St K g F' H' σ env := by
  subst e
  refine st.called ha sk hst rfl (fun _ _ _ h => h) (fun j i s h1 h2 => ?_) (fun i s s' h1 h2 a h3 => ?_)
  · rw [List.getElem?_map, h1]
    show some (env[i]?.getD .un) = some s
    rw [h2]; rfl
  · rw [h1] at h2; cases h2; exact .inl h3
/-- a def is called; what it was handed stays as it is described -/
theorem call_run {j k : Nat} {x : Str} {ps : List Str} {S : CT} {Φ : PR → Prop} (hf : Has X.prog X.w X.K X.mg X.base j x ps S) (hr : Room k X.A)
    (h : WAs X g (e :: es) env (fun as => callOk as ps.length env.length = true ∧ S (as.map (slOf env)) (fun r args' => args' = as.map (slOf env) ∧ Φ r) (fun c args' => args' = as.map (slOf env) ∧ Ψ c)) Ψ)
    (hj : j ≤ k) (hg : Gl X x) (hdb : (x == ("__debug__" : Str)) = false)
    (he : starEach (e :: es) X.env = (false, eval e X.env) :: starEach es X.env) (hpl : (backTo pos (starEach es X.env)).any (·.1) = false)
    {W : WX} (tk : Takes X W) (st : St X.K g F H σ env) (hx : HX X g env Ψ W σ) {Q : VK}
    (hQ : ∀ r vs v F1 H1 F' H' args', Φ r → St X.K g F' H' σ env → Ex F F' → St X.K g F1 H1 σ env → PrOk X.K vs H1 F' H' args' v r → Q v H') : semE X (.Call (.Name x p) (e :: es) [] pos) σ H Q := by
  obtain ⟨f, fd, hm, hk, hb, F0⟩ := hf.ex
  refine semE_of (pe_callS F0 (hr.mono hj) hg hm hk hb (fun σ => passAt tk σ) (paS (e :: es)) hdb he hpl) ?_
  refine h W tk σ F H st hx _ fun as vs F1 H1 ⟨hok, hS⟩ s1 e1 ra => ?_
  obtain ⟨h1, h2, h3⟩ := callOk_ok hok
  refine ⟨by rw [arall_len ra, h1], F1, as.map (slOf env), _, _, hS, s1.toSk.callee ra h2 h3, fun r v args' F' H' ⟨ea, hp⟩ sk hst _ pr => ?_, fun c args' F' H' ⟨ea, hp⟩ sk hst _ => ?_⟩
  · exact hQ r vs v F1 H1 F' H' args' hp (st_same s1 ra sk hst ea) (e1.trans hst.1) s1 pr
  · have := hx c F' H' hp (st_same s1 ra sk hst ea)
    cases c
    exact this
theorem we_call {j k : Nat} {x : Str} {ps : List Str} {S : CT} {Φ : PyData → Bool → Prop} (hf : Has X.prog X.w X.K X.mg X.base j x ps S) (hr : Room k X.A)
    (h : WAs X g (e :: es) env (fun as => callOk as ps.length env.length = true ∧ S (as.map (slOf env)) (fun r args' => args' = as.map (slOf env) ∧ ∃ d, PRd r d ∧ Φ d true) (fun c args' => args' = as.map (slOf env) ∧ Ψ c)) Ψ)
    (hj : j ≤ k := by omega) (hg : Gl X x := by rfl) (hdb : (x == ("__debug__" : Str)) = false := by decide)
    (he : starEach (e :: es) X.env = (false, eval e X.env) :: starEach es X.env := by rfl) (hpl : (backTo pos (starEach es X.env)).any (·.1) = false := by rfl) : WE X g (.Call (.Name x p) (e :: es) [] pos) env Φ Ψ := fun W tk σ F H st hx Q hQ => by
  refine call_run (Φ := fun r => ∃ d, PRd r d ∧ Φ d true) hf hr h hj hg hdb he hpl tk st hx fun r vs v F1 H1 F' H' args' ⟨d, hd, hp⟩ s' e' s1 pr => ?_
  cases r with
  | rd d0 => subst hd; exact hQ _ true v F' H' hp s' e' pr
  | nl ds =>
    subst hd
    obtain ⟨q, xs, rfl, h1, h2, h3, h4, h5⟩ := pr
    have e2 := Ex.new (o := .lst xs) h3
    exact hQ (.list ds) true (.ref q) (upd F' q (.lst xs)) H' hp (s'.freeze h1 h3 (fun z => s1.there z h4) (s1.h0 h4)) (e'.trans e2) (.lst (SqL.of upd_same) (dpa_mono e2 _ _ h2))
  | ar i => exact hd.elim
  | nt _ => exact hd.elim
  | nk _ => exact hd.elim
  | sl _ => exact hd.elim
theorem wn_call {j k : Nat} {x : Str} {ps : List Str} {S : CT} {Φ : List PyData → Prop} (hf : Has X.prog X.w X.K X.mg X.base j x ps S) (hr : Room k X.A)
    (h : WAs X g (e :: es) env (fun as => callOk as ps.length env.length = true ∧ S (as.map (slOf env)) (fun r args' => args' = as.map (slOf env) ∧ ∃ ds, r = .nl ds ∧ Φ ds) (fun c args' => args' = as.map (slOf env) ∧ Ψ c)) Ψ)
    (hj : j ≤ k := by omega) (hg : Gl X x := by rfl) (hdb : (x == ("__debug__" : Str)) = false := by decide)
    (he : starEach (e :: es) X.env = (false, eval e X.env) :: starEach es X.env := by rfl) (hpl : (backTo pos (starEach es X.env)).any (·.1) = false := by rfl) : WN X g (.Call (.Name x p) (e :: es) [] pos) env Φ Ψ := fun W tk σ F H st hx Q hQ => by
  refine call_run (Φ := fun r => ∃ ds, r = .nl ds ∧ Φ ds) hf hr h hj hg hdb he hpl tk st hx fun r vs v F1 H1 F' H' args' ⟨ds, hd, hp⟩ s' e' s1 pr => ?_
  subst hd
  obtain ⟨q, xs, rfl, h1, h2, h3, h4, h5⟩ := pr
  exact hQ ds (.ref q) F' H' hp s' e' ⟨q, xs, rfl, h1, h2, h3, fun z => s1.there z h4, s1.h0 h4⟩
theorem we_b1 {Φ : PyData → Bool → Prop} {R : PyData → Bool → Prop} {x : Str} {id : String} {r : List V → Hp → VK → Prop} (hc : CallR X (.builtin id) r) (hm : X.mg x = none) (hv : bootBuiltins x = some (.builtin id))
    (hr : ∀ d1 z1, R d1 z1 → DUn X.K g env (fun v => r [v]) d1 z1 Φ) (h : WE X g a env R Ψ) (hg : Gl X x := by rfl) (hn : x ≠ "__name__" := by decide) (hdb : (x == ("__debug__" : Str)) = false := by decide)
    (he : starEach [a] X.env = (false, eval a X.env) :: starEach [] X.env := by rfl) (hpl : (backTo pos (starEach ([] : List Expr) X.env)).any (·.1) = false := by rfl) : WE X g (.Call (.Name x p) [a] [] pos) env Φ Ψ := fun W tk σ F H st hx Q hQ => by
  refine semE_of (pe_callB hc hg hm hv (pa_cons (peS a) pa_nil he) hn hdb he hpl) ?_
  refine h W tk σ F H st hx _ fun d1 z1 v1 F1 H1 h1 st1 e1 r1 => ?_
  exact hr _ _ h1 σ F1 H1 v1 st1 r1 Q fun d z v F' H' hp s3 e3 r3 => hQ d z v F' H' hp s3 (e1.trans e3) r3
theorem we_t1 {Φ : PyData → Bool → Prop} {R : PyData → Bool → Prop} {x : Str} {id : String} {r : List V → Hp → VK → Prop} (hc : CallR X (.type id) r) (hm : X.mg x = none) (hv : bootBuiltins x = some (.type id))
    (hr : ∀ d1 z1, R d1 z1 → DUn X.K g env (fun v => r [v]) d1 z1 Φ) (h : WE X g a env R Ψ) (hg : Gl X x := by rfl) (hn : x ≠ "__name__" := by decide) (hdb : (x == ("__debug__" : Str)) = false := by decide)
    (he : starEach [a] X.env = (false, eval a X.env) :: starEach [] X.env := by rfl) (hpl : (backTo pos (starEach ([] : List Expr) X.env)).any (·.1) = false := by rfl) : WE X g (.Call (.Name x p) [a] [] pos) env Φ Ψ := fun W tk σ F H st hx Q hQ => by
  refine semE_of (pe_callTy hc hg hm hv (pa_cons (peS a) pa_nil he) hn hdb he hpl) ?_
  refine h W tk σ F H st hx _ fun d1 z1 v1 F1 H1 h1 st1 e1 r1 => ?_
  exact hr _ _ h1 σ F1 H1 v1 st1 r1 Q fun d z v F' H' hp s3 e3 r3 => hQ d z v F' H' hp s3 (e1.trans e3) r3
section
variable {Φ : PyData → Bool → Prop}
inductive LenP (Φ : PyData → Bool → Prop) : PyData → Bool → Prop
  | lst {xs : List PyData} {z : Bool} : Φ (.int xs.length) true → LenP Φ (.list xs) z
  | tup {xs : List PyData} {z : Bool} : Φ (.int xs.length) true → LenP Φ (.tuple xs) z
  | str {s : Str} {z : Bool} : Φ (.int s.length) true → s.length ≤ sizeLine → LenP Φ (.str s) z
theorem we_len (hm : X.mg "len" = none) (h : WE X g a env (LenP Φ) Ψ) (hg : Gl X "len" := by rfl) (he : starEach [a] X.env = (false, eval a X.env) :: starEach [] X.env := by rfl) : WE X g (.Call (.Name "len" p) [a] [] pos) env Φ Ψ :=
  we_b1 call_len hm PySem.boot_len (fun d1 z1 q σ F H v1 st r1 Q hQ => by
    cases q with
    | @lst xs z q =>
      obtain ⟨a1, vs1, rfl, s1, p1⟩ := rd_lst st.toSk r1
      exact ⟨_, xs.length, rfl, .inl ⟨_, s1, (dpa_len p1).symm⟩, hQ _ true _ F H q st (Ex.refl F) (.int _)⟩
    | @tup xs z q =>
      obtain ⟨a1, vs1, rfl, s1, p1⟩ := rd_tup st.toSk r1
      exact ⟨_, xs.length, rfl, .inr ⟨_, s1, (dpa_len p1).symm⟩, hQ _ true _ F H q st (Ex.refl F) (.int _)⟩
    | @str s z q hl => exact ⟨_, s.length, rfl, by rw [rd_str r1]; exact ⟨hl, rfl⟩, hQ _ true _ F H q st (Ex.refl F) (.int _)⟩) h hg (he := he)
theorem we_abs (hm : X.mg "abs" = none) (h : WE X g a env (fun d _ => ∃ i, d = .int i ∧ Φ (.int (if i < 0 then -i else i)) true) Ψ) (hg : Gl X "abs" := by rfl) (he : starEach [a] X.env = (false, eval a X.env) :: starEach [] X.env := by rfl) : WE X g (.Call (.Name "abs" p) [a] [] pos) env Φ Ψ :=
  we_b1 call_abs hm (by decide +kernel) (fun d1 z1 ⟨i, e, q⟩ σ F H v1 st r1 Q hQ => by
    subst e
    exact ⟨i, by rw [rd_int r1], hQ _ true _ F H q st (Ex.refl F) (.int _)⟩) h hg (he := he)
theorem we_sum (hm : X.mg "sum" = none) (hc : X.calm = true) (h : WE X g a env (fun d _ => ∃ ns : List Int, d = .list (ns.map .int) ∧ Φ (.int ns.sum) true) Ψ) (hg : Gl X "sum" := by rfl) (he : starEach [a] X.env = (false, eval a X.env) :: starEach [] X.env := by rfl) : WE X g (.Call (.Name "sum" p) [a] [] pos) env Φ Ψ :=
  we_b1 (cr_sum hc) hm (by decide +kernel) (fun d1 z1 ⟨ns, e, q⟩ σ F H v1 st r1 Q hQ => by
    subst e
    obtain ⟨a1, vs1, rfl, s1, p1⟩ := rd_lst st.toSk r1
    rw [dpa_ints_eq p1] at s1
    exact ⟨a1, ns, rfl, s1, hQ _ true _ F H q st (Ex.refl F) (.int _)⟩) h hg (he := he)
theorem dpa_bools_eq : ∀ {ns : List Bool} {vs : List V}, DqAll K H vs (ns.map PyData.bool) → vs = ns.map V.bl
  | [], _, h => by
    have h' : DqAll K H _ [] := h
    cases h'; rfl
  | n :: ns, _, h => by
    have h' : DqAll K H _ (.bool n :: ns.map PyData.bool) := h
    cases h' with
    | cons h1 h2 => rw [dp_bl h1, dpa_bools_eq h2]; rfl
theorem we_all (hm : X.mg "all" = none) (hc : X.calm = true) (h : WE X g a env (fun d _ => ∃ ns : List Bool, d = .list (ns.map .bool) ∧ Φ (.bool (ns.all id)) true) Ψ) (hg : Gl X "all" := by rfl) (he : starEach [a] X.env = (false, eval a X.env) :: starEach [] X.env := by rfl) : WE X g (.Call (.Name "all" p) [a] [] pos) env Φ Ψ :=
  we_b1 (cr_all hc) hm (by decide +kernel) (fun d1 z1 ⟨ns, e, q⟩ σ F H v1 st r1 Q hQ => by
    subst e
    obtain ⟨a1, vs1, rfl, s1, p1⟩ := rd_lst st.toSk r1
    rw [dpa_bools_eq p1] at s1
    exact ⟨a1, ns, rfl, s1, hQ _ true _ F H q st (Ex.refl F) (.bl _)⟩) h hg (he := he)
theorem we_any (hm : X.mg "any" = none) (hc : X.calm = true) (h : WE X g a env (fun d _ => ∃ ns : List Bool, d = .list (ns.map .bool) ∧ Φ (.bool (ns.any id)) true) Ψ) (hg : Gl X "any" := by rfl) (he : starEach [a] X.env = (false, eval a X.env) :: starEach [] X.env := by rfl) : WE X g (.Call (.Name "any" p) [a] [] pos) env Φ Ψ :=
  we_b1 (cr_any hc) hm (by decide +kernel) (fun d1 z1 ⟨ns, e, q⟩ σ F H v1 st r1 Q hQ => by
    subst e
    obtain ⟨a1, vs1, rfl, s1, p1⟩ := rd_lst st.toSk r1
    rw [dpa_bools_eq p1] at s1
    exact ⟨a1, ns, rfl, s1, hQ _ true _ F H q st (Ex.refl F) (.bl _)⟩) h hg (he := he)
inductive IntOfP (Φ : PyData → Bool → Prop) : PyData → Bool → Prop
  | int {i : Int} {z : Bool} : Φ (.int i) true → IntOfP Φ (.int i) z
  | bool {k : Bool} {z : Bool} : Φ (.int (if k then 1 else 0)) true → IntOfP Φ (.bool k) z
theorem we_intof (hm : X.mg "int" = none) (h : WE X g a env (IntOfP Φ) Ψ) (hg : Gl X "int" := by rfl) (he : starEach [a] X.env = (false, eval a X.env) :: starEach [] X.env := by rfl) : WE X g (.Call (.Name "int" p) [a] [] pos) env Φ Ψ :=
  we_t1 call_int1 hm (by decide +kernel) (fun d1 z1 q σ F H v1 st r1 Q hQ => by
    cases q with
    | @int i z q => exact .inl ⟨i, by rw [rd_int r1], hQ _ true _ F H q st (Ex.refl F) (.int _)⟩
    | @bool k z q => exact .inr ⟨k, by rw [rd_bl r1], hQ _ true _ F H q st (Ex.refl F) (.int _)⟩) h hg (he := he)
inductive TupP (Φ : PyData → Bool → Prop) : PyData → Bool → Prop
  | lst {xs : List PyData} {z : Bool} : Φ (.tuple xs) true → TupP Φ (.list xs) z
  | tup {xs : List PyData} : Φ (.tuple xs) true → TupP Φ (.tuple xs) true
theorem we_tupof (hm : X.mg "tuple" = none) (h : WE X g a env (TupP Φ) Ψ) (hg : Gl X "tuple" := by rfl) (he : starEach [a] X.env = (false, eval a X.env) :: starEach [] X.env := by rfl) : WE X g (.Call (.Name "tuple" p) [a] [] pos) env Φ Ψ :=
  we_t1 call_tuple_of hm (by decide +kernel) (fun d1 z1 q σ F H v1 st r1 Q hQ => by
    cases q with
    | @lst xs z q =>
      obtain ⟨a1, vs1, rfl, s1, p1⟩ := rd_lst st.toSk r1
      exact ⟨a1, vs1, rfl, .inl ⟨s1, fun l hl => put_tup st hl p1 q hQ⟩⟩
    | @tup xs q =>
      obtain ⟨a1, vs1, rfl, s1, p1⟩ := rd_tup st.toSk r1
      exact ⟨a1, vs1, rfl, .inr ⟨s1, hQ _ true _ F H q st (Ex.refl F) r1⟩⟩) h hg (he := he)
end
def DNew (K : Frag) (g : G) (env : List Sl) (r : V → Hp → VK → Prop) (d1 : PyData) (z1 : Bool) (Φ : List PyData → Prop) : Prop :=
  ∀ (σ : SS) (F H : Hp) (v1 : V), St K g F H σ env → Rd K F env z1 v1 d1 →
    ∀ Q : VK, (∀ ds v F' H', Φ ds → St K g F' H' σ env → Ex F F' → NewL K g F' H' env v ds → Q v H') → r v1 H Q
theorem wn_b1 {Φ : List PyData → Prop} {R : PyData → Bool → Prop} {x : Str} {id : String} {r : List V → Hp → VK → Prop} (hc : CallR X (.builtin id) r) (hm : X.mg x = none) (hv : bootBuiltins x = some (.builtin id))
    (hr : ∀ d1 z1, R d1 z1 → DNew X.K g env (fun v => r [v]) d1 z1 Φ) (h : WE X g a env R Ψ) (hg : Gl X x := by rfl) (hn : x ≠ "__name__" := by decide) (hdb : (x == ("__debug__" : Str)) = false := by decide)
    (he : starEach [a] X.env = (false, eval a X.env) :: starEach [] X.env := by rfl) (hpl : (backTo pos (starEach ([] : List Expr) X.env)).any (·.1) = false := by rfl) : WN X g (.Call (.Name x p) [a] [] pos) env Φ Ψ := fun W tk σ F H st hx Q hQ => by
  refine semE_of (pe_callB hc hg hm hv (pa_cons (peS a) pa_nil he) hn hdb he hpl) ?_
  refine h W tk σ F H st hx _ fun d1 z1 v1 F1 H1 h1 st1 e1 r1 => ?_
  exact hr _ _ h1 σ F1 H1 v1 st1 r1 Q fun ds v F' H' hp s3 e3 r3 => hQ ds v F' H' hp s3 (e1.trans e3) r3
theorem wn_t1 {Φ : List PyData → Prop} {R : PyData → Bool → Prop} {x : Str} {id : String} {r : List V → Hp → VK → Prop} (hc : CallR X (.type id) r) (hm : X.mg x = none) (hv : bootBuiltins x = some (.type id))
    (hr : ∀ d1 z1, R d1 z1 → DNew X.K g env (fun v => r [v]) d1 z1 Φ) (h : WE X g a env R Ψ) (hg : Gl X x := by rfl) (hn : x ≠ "__name__" := by decide) (hdb : (x == ("__debug__" : Str)) = false := by decide)
    (he : starEach [a] X.env = (false, eval a X.env) :: starEach [] X.env := by rfl) (hpl : (backTo pos (starEach ([] : List Expr) X.env)).any (·.1) = false := by rfl) : WN X g (.Call (.Name x p) [a] [] pos) env Φ Ψ := fun W tk σ F H st hx Q hQ => by
  refine semE_of (pe_callTy hc hg hm hv (pa_cons (peS a) pa_nil he) hn hdb he hpl) ?_
  refine h W tk σ F H st hx _ fun d1 z1 v1 F1 H1 h1 st1 e1 r1 => ?_
  exact hr _ _ h1 σ F1 H1 v1 st1 r1 Q fun ds v F' H' hp s3 e3 r3 => hQ ds v F' H' hp s3 (e1.trans e3) r3
inductive LstP (Φ : List PyData → Prop) : PyData → Bool → Prop
  | lst {xs : List PyData} {z : Bool} : Φ xs → LstP Φ (.list xs) z
  | tup {xs : List PyData} {z : Bool} : Φ xs → LstP Φ (.tuple xs) z
theorem wn_listof {Φ : List PyData → Prop} (hm : X.mg "list" = none) (h : WE X g a env (LstP Φ) Ψ) (hg : Gl X "list" := by rfl) (he : starEach [a] X.env = (false, eval a X.env) :: starEach [] X.env := by rfl) : WN X g (.Call (.Name "list" p) [a] [] pos) env Φ Ψ :=
  wn_t1 call_list_of hm (by decide +kernel) (fun d1 z1 q σ F H v1 st r1 Q hQ => by
    cases q with
    | @lst xs z q =>
      obtain ⟨a1, vs1, rfl, s1, p1⟩ := rd_lst st.toSk r1
      exact ⟨a1, vs1, rfl, .inl s1, fun l hl => put_new st hl p1 q hQ⟩
    | @tup xs z q =>
      obtain ⟨a1, vs1, rfl, s1, p1⟩ := rd_tup st.toSk r1
      exact ⟨a1, vs1, rfl, .inr s1, fun l hl => put_new st hl p1 q hQ⟩) h hg (he := he)
/-- sorted(xs), any data that can be put in order -/
def rSortD (K : Frag) : List V → Hp → VK → Prop := fun vs H Q => ∃ (a : Addr) (xs : List V) (ds : List PyData) (F : Hp), vs = [V.ref a] ∧ SqL K H a xs ∧ DqAll K F xs ds ∧ Ex F H ∧ PySem.W.AllAlike ds ∧ PySem.W.Sortable ds ∧ (∀ d ∈ ds, SeqAt.shaped d = true) ∧
  ∀ (ys : List V) (p : Addr), DqAll K F ys (ds.mergeSort (PySem.W.dataLe false id)) → H p = none → Q (.ref p) (upd H p (.lst ys))
theorem each_of {X : Cx} {pins : List (Addr × Obj)} {s : Shared} {F : Hp} (I : Inv X pins σ H s) (e : Ex F H) : ∀ {ds : List PyData} {xs : List V} {its : List Value}, (∀ d ∈ ds, SeqAt.shaped d = true) → Vals xs its → DqAll X.K F xs ds →
    PySem.W.EachIs (fun u d => ∃ x : V, RelV x u ∧ Dq X.K F x d) its ds ∧ PySem.W.EachIs (fun u d => ∃ as, Reads s.heap u (id d) as) its ds
  | [], _, _, _, r, h => by
    cases h
    cases r
    exact ⟨.nil, .nil⟩
  | d :: ds, _, _, c, r, h => by
    cases h with
    | cons h1 h2 =>
      cases r with
      | cons r1 r2 =>
        obtain ⟨q1, q2⟩ := each_of I e (fun b hb => c b (List.mem_cons_of_mem _ hb)) r2 h2
        exact ⟨.cons ⟨_, r1, h1⟩ q1, .cons (Dp.reads I d _ _ (dq_dp _ _ (shp_lay (c d (List.mem_cons_self ..))) (dp_mono e _ _ h1)) r1) q2⟩
theorem each_back {F : Hp} : ∀ {ds : List PyData} {out : List Value}, PySem.W.EachIs (fun u d => ∃ x : V, RelV x u ∧ Dq K F x d) out ds → ∃ ys, Vals ys out ∧ DqAll K F ys ds
  | _, _, .nil => ⟨[], .nil, .nil⟩
  | _, _, .cons ⟨x, h1, h2⟩ t => by
    obtain ⟨ys, q1, q2⟩ := each_back t
    exact ⟨x :: ys, .cons h1 q1, .cons h2 q2⟩
theorem cr_sortD {k : Nat} (hr : Room k X.A) : CallR X (.builtin "sorted") (rSortD X.K) := by
  intro pins s σ H vs us Q I r h
  obtain ⟨a, xs, ds, F, rfl, hs, hd, eF, hal, hk, hdp, q⟩ := h
  obtain ⟨its, rv, hl, hz⟩ := I.list hs
  rw [Vals.ref1 r]
  obtain ⟨q1, q2⟩ := each_of I eF hdp rv hd
  have hids : ds.map id = ds := List.map_id ds
  have hu := hr.un
  refine PySem.W.sorted_data (enc := id) hl.isList q1 q2 (by rw [hids]; exact hal) (by rw [hids]; exact hk) (by rw [← dpa_len hd]; exact hz) (fun b hb => by have : b.depth ≤ 64 := of_decide_eq_true (Bool.and_eq_true_iff.mp (hdp b hb)).2; show X.A.units + 2 + b.depth < cLine; omega) fun out h1 h2 => ?_
  obtain ⟨ys, k1, k2⟩ := each_back h2
  obtain ⟨ep, he'⟩ := PyProof.Rows.sortedAll_at s.heap its out.toArray
  have hlen : ys.length ≤ sizeLine := by rw [k1.length, h1, ← dpa_len hd]; exact hz
  exact ⟨.ref _, upd H (s.heap.objs.size + 1) (.lst ys), I.laid (t' := s.toks) (fun _ _ => PyProof.Rows.sortedAll_old) (Nat.le_succ _) ⟨hlen, out, ep, k1, he'⟩, rfl, q _ _ k2 (I.hok.fresh (Nat.le_succ _))⟩
/-- the list in order -/
def srt (ds : List PyData) : List PyData := ds.mergeSort (PySem.W.dataLe false id)
theorem wn_sorted {k : Nat} {Φ : List PyData → Prop} (hm : X.mg "sorted" = none) (hr : Room k X.A) (h : WE X g a env (fun d _ => ∃ ds, d = .list ds ∧ PySem.W.AllAlike ds ∧ PySem.W.Sortable ds ∧ (∀ d ∈ ds, SeqAt.shaped d = true) ∧ Φ (srt ds)) Ψ) (hg : Gl X "sorted" := by rfl) (he : starEach [a] X.env = (false, eval a X.env) :: starEach [] X.env := by rfl) : WN X g (.Call (.Name "sorted" p) [a] [] pos) env Φ Ψ :=
  wn_b1 (cr_sortD hr) hm (by decide +kernel) (fun d1 z1 ⟨ds, e, h1, h2, h3, q⟩ σ F H v1 st r1 Q hQ => by
    subst e
    obtain ⟨a1, vs1, rfl, s1, p1⟩ := rd_lst st.toSk r1
    exact ⟨a1, vs1, ds, F, rfl, s1, p1, st.ex, h1, h2, h3, fun ys p hy hn => put_new st hn hy q hQ⟩) h hg (he := he)
theorem we_b2 {Φ : PyData → Bool → Prop} {R : PyData → Bool → PyData → Bool → Prop} {x : Str} {id : String} {r : List V → Hp → VK → Prop} (hc : CallR X (.builtin id) r) (hm : X.mg x = none) (hv : bootBuiltins x = some (.builtin id))
    (hr : ∀ d1 z1 d2 z2, R d1 z1 d2 z2 → DOp X.K g env (fun v w => r [v, w]) d1 z1 d2 z2 Φ) (h : WE X g a env (fun d1 z1 => WE X g b env (fun d2 z2 => R d1 z1 d2 z2) Ψ) Ψ) (hg : Gl X x := by rfl) (hn : x ≠ "__name__" := by decide) (hdb : (x == ("__debug__" : Str)) = false := by decide)
    (he : starEach [a, b] X.env = (false, eval a X.env) :: starEach [b] X.env := by rfl) (he2 : starEach [b] X.env = (false, eval b X.env) :: starEach [] X.env := by rfl) (hpl : (backTo pos (starEach [b] X.env)).any (·.1) = false := by rfl) : WE X g (.Call (.Name x p) [a, b] [] pos) env Φ Ψ := fun W tk σ F H st hx Q hQ => by
  refine semE_of (pe_callB hc hg hm hv (pa_cons (peS a) (pa_cons (peS b) pa_nil he2) he) hn hdb he hpl) ?_
  refine h W tk σ F H st hx _ fun d1 z1 v1 F1 H1 h1 st1 e1 r1 => ?_
  refine h1 W tk σ F1 H1 st1 hx _ fun d2 z2 v2 F2 H2 h2 st2 e2 r2 => ?_
  exact hr _ _ _ _ h2 σ F2 H2 v1 v2 st2 (rd_mono e2 r1) r2 Q fun d z v F' H' hp s3 e3 r3 => hQ d z v F' H' hp s3 ((e1.trans e2).trans e3) r3
theorem we_min2 {Φ : PyData → Bool → Prop} (hm : X.mg "min" = none) (hc : X.calm = true) (h : WE X g a env (fun d1 z1 => WE X g b env (fun d2 z2 => ∃ i j, d1 = .int i ∧ d2 = .int j ∧ Φ (.int (if j < i then j else i)) true) Ψ) Ψ) (hg : Gl X "min" := by rfl) (he : starEach [a, b] X.env = (false, eval a X.env) :: starEach [b] X.env := by rfl) (he2 : starEach [b] X.env = (false, eval b X.env) :: starEach [] X.env := by rfl) (hpl : (backTo pos (starEach [b] X.env)).any (·.1) = false := by rfl) : WE X g (.Call (.Name "min" p) [a, b] [] pos) env Φ Ψ :=
  we_b2 (call_min2 hc) hm (by decide +kernel) (fun d1 z1 d2 z2 ⟨i, j, e1, e2, q⟩ => by
    subst e1 e2
    exact dop_of q fun σ F H v1 v2 Q st r1 r2 k => ⟨i, j, by rw [rd_int r1, rd_int r2], k _ (.int _)⟩) h hg (he := he) (he2 := he2) (hpl := hpl)
theorem we_max2 {Φ : PyData → Bool → Prop} (hm : X.mg "max" = none) (hc : X.calm = true) (h : WE X g a env (fun d1 z1 => WE X g b env (fun d2 z2 => ∃ i j, d1 = .int i ∧ d2 = .int j ∧ Φ (.int (if j > i then j else i)) true) Ψ) Ψ) (hg : Gl X "max" := by rfl) (he : starEach [a, b] X.env = (false, eval a X.env) :: starEach [b] X.env := by rfl) (he2 : starEach [b] X.env = (false, eval b X.env) :: starEach [] X.env := by rfl) (hpl : (backTo pos (starEach [b] X.env)).any (·.1) = false := by rfl) : WE X g (.Call (.Name "max" p) [a, b] [] pos) env Φ Ψ :=
  we_b2 (call_max2 hc) hm (by decide +kernel) (fun d1 z1 d2 z2 ⟨i, j, e1, e2, q⟩ => by
    subst e1 e2
    exact dop_of q fun σ F H v1 v2 Q st r1 r2 k => ⟨i, j, by rw [rd_int r1, rd_int r2], k _ (.int _)⟩) h hg (he := he) (he2 := he2) (hpl := hpl)
def WP (X : Cx) (g : G) (e : Option Expr) (env : List Sl) (Φ : Option Int → Prop) (Ψ : Exc → Prop) : Prop := match e with
  | none => Φ none
  | some e => WE X g e env (fun d _ => ∃ i, d = .int i ∧ Φ (some i)) Ψ
def semO (X : Cx) : Option Expr → TO
  | none => tNoPart
  | some e => tPart (semE X e)
theorem poS : ∀ e : Option Expr, PO X e (semO X e)
  | none => po_none
  | some e => po_some (peS e)
theorem wp_run {o : Option Expr} {Φ : Option Int → Prop} (h : WP X g o env Φ Ψ) {W : WX} (tk : Takes X W) (st : St X.K g F H σ env) (hx : HX X g env Ψ W σ) {Q : Option Int → Hp → Prop}
    (hQ : ∀ i F' H', Φ i → St X.K g F' H' σ env → Ex F F' → Q i H') : semO X o σ H Q := by
  cases o with
  | none => exact hQ none F H h st (Ex.refl F)
  | some e =>
    refine h W tk σ F H st hx _ fun d z v F' H' ⟨i, hd, hp⟩ s' e' r' => ?_
    subst hd
    exact ⟨i, rd_int r', hQ (some i) F' H' hp s' e'⟩
/-- the items of xs[lo:hi] -/
def cut {α : Type} (xs : List α) (lo hi : Option Int) : List α := (xs.drop (HT.sIx xs.length 0 lo)).take (HT.sIx xs.length xs.length hi - HT.sIx xs.length 0 lo)
theorem dpa_cut {ds : List PyData} {vs : List V} (h : DqAll K H vs ds) (lo hi : Option Int) : DqAll K H (cutV vs lo hi) (cut ds lo hi) := by
  unfold cutV cut
  rw [dpa_len h]
  exact dpa_take _ (dpa_drop _ h)
theorem wn_sliceL {lo hi : Option Expr} {p2 : Pos} {Φ : List PyData → Prop} (h : WE X g a env (fun d1 _ => ∃ xs, d1 = .list xs ∧ WP X g lo env (fun l => WP X g hi env (fun u => Φ (cut xs l u)) Ψ) Ψ) Ψ) : WN X g (.Subscript a (.Slice lo hi none p2) pos) env Φ Ψ := fun W tk σ F H st hx Q hQ => by
  refine semE_of (pe_slice sl_list (peS a) (poS lo) (poS hi)) ?_
  refine h W tk σ F H st hx _ fun d1 z1 v1 F1 H1 ⟨xs, hd, h1⟩ st1 e1 r1 => ?_
  subst hd
  refine wp_run h1 tk st1 hx fun l F2 H2 h2 st2 e2 => wp_run h2 tk st2 hx fun u F3 H3 h3 st3 e3 => ?_
  obtain ⟨a1, vs1, rfl, s1, p1⟩ := rd_lst st3.toSk (rd_mono (e2.trans e3) r1)
  exact ⟨a1, vs1, rfl, s1, fun p hp => put_new st3 hp (dpa_cut p1 l u) h3 fun ds v F' H' hp s e r => hQ ds v F' H' hp s (((e1.trans e2).trans e3).trans e) r⟩
end
end TL
namespace TL
open PySem PySem.Spec PyProof.Rows L2
def fps (env : List Sl) : List Addr := env.flatMap Sl.fp
theorem own_fps {env : List Sl} {a : Addr} : Own env a ↔ a ∈ fps env := by
  unfold fps
  rw [List.mem_flatMap]
  constructor
  · rintro ⟨i, s, h1, h2⟩
    exact ⟨s, List.mem_of_getElem? h1, h2⟩
  · rintro ⟨s, h1, h2⟩
    obtain ⟨i, hi⟩ := List.getElem?_of_mem h1
    exact ⟨i, s, hi, h2⟩
section
variable {X : Cx} {g : G} {env env' : List Sl} {Ψ : Exc → Prop} {pos p : Pos} {a b c e : Expr} {es : List Expr} {K : Frag} {F F' H H' : Hp} {σ σ' : SS}
theorem Sk.base (st : Sk K F H σ env) : St K ⟨F, H, fps env⟩ F H σ env :=
  { st with g1 := fun _ _ h _ _ => h, gt := ⟨fun a ps h => (by show H a ≠ none; rw [show H a = _ from h]; intro z; cases z), fun p hp z => (by obtain ⟨ps, h1, _⟩ := st.tk.tb p hp; have z : H p.1 = none := z; rw [h1] at z; cases z)⟩, g2 := fun a h => .inr (own_fps.mp h), g3 := Ex.refl F, g4 := fun a h => .inl h, g5 := fun a h => st.there (own_fps.mpr h), g6 := fun a h => st.there (own_fps.mpr h) }
theorem St.rebase (st : St K g F H σ env) (st' : St K ⟨F, H, fps env⟩ F' H' σ' env') (sub : ∀ a, Own env' a → Own env a) : St K g F' H' σ' env' :=
  { st'.toSk with
    g1 := fun a o h m n => st'.g1 a o (st.g1 a o h m n) (fun z => by
      rcases st.g2 a (own_fps.mpr z) with q | q
      · rw [q] at h; cases h
      · exact m q) n
    gt := st.gt.grow fun a z => by
      cases q : H a with
      | none => rfl
      | some u =>
        by_cases hm : a ∈ fps env
        · exact absurd z (st'.g5 a hm)
        · by_cases ht : ∃ ps, u = .tbl ps
          · obtain ⟨ps, rfl⟩ := ht; exact absurd z (st'.gt.g7 a ps q)
          · rw [st'.g1 a u q hm fun ps y => ht ⟨ps, y⟩] at z; cases z
    g2 := fun a h => st.g2 a (sub a h)
    g3 := st.g3.trans st'.g3
    g4 := fun a h => by
      rcases st'.g4 a h with q | q
      · exact st.g4 a q
      · exact .inr (st.h0 q)
    g5 := fun a m z => by
      by_cases h : a ∈ fps env
      · exact st'.g5 a h z
      · cases q : H a with
        | none => exact st.g5 a m q
        | some u =>
          by_cases ht : ∃ ps, u = .tbl ps
          · obtain ⟨ps, rfl⟩ := ht; exact st'.gt.g7 a ps q z
          · rw [st'.g1 a u q h fun ps y => ht ⟨ps, y⟩] at z; cases z
    g6 := st.g6 }
def putsE (env : List Sl) : List (Nat × PyData) → List Sl
  | [] => env
  | (i, d) :: r => putsE (env.set i (.d d)) r
def putsV (σ : SS) : List (Nat × V) → SS
  | [] => σ
  | (i, v) :: r => putsV (σ.set i (some v)) r
def SetsP (K : Frag) (F : Hp) : List (Nat × V) → List (Nat × PyData) → Prop
  | [], [] => True
  | (i, v) :: r, (j, d) :: l => i = j ∧ Dq K F v d ∧ SetsP K F r l
  | _, _ => False
theorem setsP_app : ∀ {r r' : List (Nat × V)} {l l' : List (Nat × PyData)}, SetsP K F r l → SetsP K F r' l' → SetsP K F (r ++ r') (l ++ l')
  | [], _, [], _, _, h => h
  | _ :: _, _, _ :: _, _, ⟨h1, h2, h3⟩, h => ⟨h1, h2, setsP_app h3 h⟩
  | [], _, _ :: _, _, h, _ => h.elim
  | _ :: _, _, [], _, h, _ => h.elim
theorem putsV_app (σ : SS) : ∀ (r r' : List (Nat × V)), putsV σ (r ++ r') = putsV (putsV σ r) r'
  | [], _ => rfl
  | (i, v) :: r, r' => putsV_app (σ.set i (some v)) r r'
theorem putsE_len : ∀ (l : List (Nat × PyData)) (env : List Sl), (putsE env l).length = env.length
  | [], _ => rfl
  | (i, d) :: r, env => by rw [putsE, putsE_len r, List.length_set]
theorem St.sets : ∀ {r : List (Nat × V)} {l : List (Nat × PyData)} {σ : SS} {env : List Sl}, St K g F H σ env → SetsP K F r l → (∀ q ∈ l, q.1 < env.length) → St K g F H (putsV σ r) (putsE env l)
  | [], [], _, _, st, _, _ => st
  | (i, v) :: r, (j, d) :: l, σ, env, st, ⟨h1, h2, h3⟩, hl => by
    have h1' : i = j := h1
    subst h1'
    have s2 : St K g F H (σ.set i (some v)) (env.set i (.d d)) := st.setD (hl (i, d) (List.mem_cons_self ..)) h2
    exact St.sets (r := r) (l := l) s2 h3 fun q hq => by rw [List.length_set]; exact hl q (List.mem_cons_of_mem _ hq)
  | [], _ :: _, _, _, _, h, _ => h.elim
  | _ :: _, [], _, _, _, h, _ => h.elim
theorem setsP_idx {vs : List Nat} : ∀ {r : List (Nat × V)} {l : List (Nat × PyData)}, SetsP K F r l → (∀ q ∈ l, q.1 ∈ vs) → ∀ q ∈ r, q.1 ∈ vs
  | [], _, _, _, q, hq => by cases hq
  | a :: r, b :: l, ⟨h1, _, h3⟩, hl, q, hq => by
    rcases List.mem_cons.mp hq with z | z
    · rw [z, show a.1 = b.1 from h1]; exact hl b (List.mem_cons_self ..)
    · exact setsP_idx h3 (fun q hq => hl q (List.mem_cons_of_mem _ hq)) q z
  | _ :: _, [], h, _, _, _ => h.elim
theorem putsV_len : ∀ (r : List (Nat × V)) (σ : SS), (putsV σ r).length = σ.length
  | [], _ => rfl
  | (i, v) :: r, σ => by rw [putsV, putsV_len r, List.length_set]
theorem putsV_get {i : Nat} : ∀ {r : List (Nat × V)} {σ : SS}, (∀ q ∈ r, q.1 ≠ i) → (putsV σ r)[i]? = σ[i]?
  | [], _, _ => rfl
  | (j, v) :: r, σ, h => by
    rw [putsV, putsV_get fun q hq => h q (List.mem_cons_of_mem _ hq), List.getElem?_set, if_neg (h (j, v) (List.mem_cons_self ..))]
theorem putsE_get {i : Nat} : ∀ {r : List (Nat × PyData)} {env : List Sl}, (∀ q ∈ r, q.1 ≠ i) → (putsE env r)[i]? = env[i]?
  | [], _, _ => rfl
  | (j, v) :: r, env, h => by
    rw [putsE, putsE_get fun q hq => h q (List.mem_cons_of_mem _ hq), List.getElem?_set, if_neg (h (j, v) (List.mem_cons_self ..))]
/-- a new object that no slot holds is changed -/
theorem St.untracked {D : Addr} {o' : HO} (st : St K g F H σ env) (hF : F D = none) (hn : ¬ Own env D) (h0 : g.H0 D = none) (ht : ∀ vs, o' ≠ .tup vs := by intro _ z; cases z) : St K g F (upd H D o') σ env where
  len := st.len
  sl := fun i s e => slok_mono (Ex.refl F) (fun a ha u q => by
    have hne : a ≠ D := fun z => hn ⟨i, s, e, z ▸ ha⟩
    rw [upd_ne hne]; exact q) (st.sl i s e)
  nd := st.nd
  fr := st.fr
  ex := st.ex.mut hF
  tf := fun a vs q => by
    by_cases e : a = D
    · subst e; rw [upd_same] at q; exact absurd (Option.some.inj q) (ht vs)
    · rw [upd_ne e] at q; exact st.tf a vs q
  tk := st.tk.put fun p hp z => st.gt.g8 p hp (by rw [z]; exact h0)
  gt := st.gt.grow fun a z => by
    by_cases e : a = D
    · subst e; rw [upd_same] at z; cases z
    · rw [upd_ne e] at z; exact z
  g1 := fun a o h m n => by
    have hne : a ≠ D := fun z => by rw [z, h0] at h; cases h
    rw [upd_ne hne]; exact st.g1 a o h m n
  g2 := st.g2
  g3 := st.g3
  g4 := st.g4
  g5 := fun a m z => by
    by_cases hb : a = D
    · subst hb; rw [upd_same] at z; cases z
    · rw [upd_ne hb] at z; exact st.g5 a m z
  g6 := st.g6
/-- what a target does with data -/
def TGd (K : Frag) (t : TG) (A : PyData → Option (List (Nat × PyData))) : Prop :=
  ∀ (x : PyData) (l : List (Nat × PyData)) (σ : SS) (F H : Hp) (v : V) (Q : SS → Hp → Prop), A x = some l → Ex F H → Dq K F v x → (∀ r, SetsP K F r l → Q (putsV σ r) H) → t v σ H Q
theorem tgd_name (j : Nat) : TGd K (gName j) (fun x => some [(j, x)]) := fun x l σ F H v Q e eF hd h => by
  have e' := Option.some.inj e
  subst e'
  exact h [(j, v)] ⟨rfl, hd, trivial⟩
def tgs : List (PyData → Option (List (Nat × PyData))) → List PyData → Option (List (Nat × PyData))
  | [], [] => some []
  | A :: As, x :: xs => match A x, tgs As xs with
    | some l, some r => some (l ++ r)
    | _, _ => none
  | _, _ => none
def TGds (K : Frag) (t : TGs) (As : List (PyData → Option (List (Nat × PyData)))) : Prop :=
  ∀ (xs : List PyData) (l : List (Nat × PyData)) (σ : SS) (F H : Hp) (vs : List V) (Q : SS → Hp → Prop), tgs As xs = some l → Ex F H → DqAll K F vs xs → (∀ r, SetsP K F r l → Q (putsV σ r) H) → t vs σ H Q
theorem tgds_nil : TGds K gNil [] := fun xs l σ F H vs Q e eF hd h => by
  cases xs with
  | nil =>
    cases hd
    have e' := Option.some.inj e
    subst e'
    exact ⟨rfl, h [] trivial⟩
  | cons x r => cases e
theorem tgds_cons {t : TG} {u : TGs} {A : PyData → Option (List (Nat × PyData))} {As : List (PyData → Option (List (Nat × PyData)))} (h1 : TGd K t A) (h2 : TGds K u As) : TGds K (gCons t u) (A :: As) := fun xs l σ F H vs Q e eF hd h => by
  cases xs with
  | nil => cases e
  | cons x r =>
    cases hd with
    | @cons v vs d ds hd1 hd2 =>
      have e0 : (match A x, tgs As r with | some l, some r => some (l ++ r) | _, _ => none) = some l := e
      cases q1 : A x with
      | none => rw [q1] at e0; cases e0
      | some l1 =>
        cases q2 : tgs As r with
        | none => rw [q1, q2] at e0; cases e0
        | some l2 =>
          rw [q1, q2] at e0
          have e' := Option.some.inj e0
          subst e'
          refine ⟨v, vs, rfl, h1 x l1 σ F H v _ q1 eF hd1 fun r1 s1 => h2 r l2 _ F H vs Q q2 eF hd2 fun r2 s2 => ?_⟩
          rw [← putsV_app]
          exact h (r1 ++ r2) (setsP_app s1 s2)
def tgTup (As : List (PyData → Option (List (Nat × PyData)))) : PyData → Option (List (Nat × PyData))
  | .tuple xs => tgs As xs
  | _ => none
theorem tgs_len : ∀ {As : List (PyData → Option (List (Nat × PyData)))} {xs : List PyData} {l : List (Nat × PyData)}, tgs As xs = some l → xs.length = As.length
  | [], [], _, _ => rfl
  | A :: As, x :: xs, l, e => by
    have e0 : (match A x, tgs As xs with | some l, some r => some (l ++ r) | _, _ => none) = some l := e
    cases q2 : tgs As xs with
    | none => rw [q2] at e0; cases q1 : A x <;> rw [q1] at e0 <;> cases e0
    | some l2 => exact congrArg Nat.succ (tgs_len q2)
  | [], _ :: _, _, e => by cases e
  | _ :: _, [], _, e => by cases e
theorem tgd_tup {u : TGs} {n : Nat} {As : List (PyData → Option (List (Nat × PyData)))} (h : TGds K u As) (hn : As.length = n) : TGd K (gTup K n u) (tgTup As) := fun x l σ F H v Q e eF hd hQ => by
  cases x with
  | tuple xs =>
    obtain ⟨a, vs, rfl, h1, h2⟩ := dp_tup hd
    exact ⟨a, vs, rfl, ex_t eF h1, by rw [dpa_len h2, tgs_len e, hn], h xs l σ F H vs Q e eF h2 hQ⟩
  | _ => cases e
def wipeE (env : List Sl) : List Nat → List Sl
  | [] => env
  | v :: vs => (wipeE env vs).set v .un
def wipeOk (env : List Sl) (vs : List Nat) : Bool := vs.all fun i => match env[i]? with
  | some s => s.fp.isEmpty
  | none => true
theorem wipeE_len (env : List Sl) : ∀ vs : List Nat, (wipeE env vs).length = env.length
  | [] => rfl
  | v :: vs => by rw [wipeE, List.length_set, wipeE_len env vs]
theorem wipe_get (σ : SS) (i : Nat) : ∀ vs : List Nat, (wipe σ vs)[i]? = if i ∈ vs then (σ[i]?.map fun _ => none) else σ[i]?
  | [] => by rw [if_neg (by simp)]; rfl
  | v :: vs => by
    show ((wipe σ vs).set v none)[i]? = _
    rw [List.getElem?_set]
    by_cases h : v = i
    · subst h
      rw [if_pos rfl, if_pos (List.mem_cons_self ..), wipe_length]
      by_cases hl : v < σ.length
      · rw [if_pos hl, List.getElem?_eq_getElem hl]; rfl
      · rw [if_neg hl, List.getElem?_eq_none (by omega)]; rfl
    · rw [if_neg h, wipe_get σ i vs]
      by_cases hm : i ∈ vs
      · rw [if_pos hm, if_pos (List.mem_cons_of_mem _ hm)]
      · rw [if_neg hm, if_neg fun z => by
          rcases List.mem_cons.mp z with z | z
          · exact h z.symm
          · exact hm z]
theorem wipeE_get (env : List Sl) (i : Nat) : ∀ vs : List Nat, (wipeE env vs)[i]? = if i ∈ vs then (env[i]?.map fun _ => .un) else env[i]?
  | [] => by rw [if_neg (by simp)]; rfl
  | v :: vs => by
    show ((wipeE env vs).set v .un)[i]? = _
    rw [List.getElem?_set]
    by_cases h : v = i
    · subst h
      rw [if_pos rfl, if_pos (List.mem_cons_self ..), wipeE_len]
      by_cases hl : v < env.length
      · rw [if_pos hl, List.getElem?_eq_getElem hl]; rfl
      · rw [if_neg hl, List.getElem?_eq_none (by omega)]; rfl
    · rw [if_neg h, wipeE_get env i vs]
      by_cases hm : i ∈ vs
      · rw [if_pos hm, if_pos (List.mem_cons_of_mem _ hm)]
      · rw [if_neg hm, if_neg fun z => by
          rcases List.mem_cons.mp z with z | z
          · exact h z.symm
          · exact hm z]
theorem wipe_set {σ : SS} {i : Nat} {x : Option V} {vs : List Nat} (hi : i ∈ vs) : wipe (σ.set i x) vs = wipe σ vs := by
  apply List.ext_getElem?
  intro j
  rw [wipe_get, wipe_get]
  by_cases h : j ∈ vs
  · rw [if_pos h, if_pos h, List.getElem?_set]
    by_cases e : i = j
    · subst e
      rw [if_pos rfl]
      by_cases hl : i < σ.length
      · rw [if_pos hl, List.getElem?_eq_getElem hl]; rfl
      · rw [if_neg hl, List.getElem?_eq_none (by omega)]
    · rw [if_neg e]
  · rw [if_neg h, if_neg h, List.getElem?_set, if_neg (fun z : i = j => h (by rw [← z]; exact hi))]
theorem wipe_wipe (σ : SS) (vs : List Nat) : wipe (wipe σ vs) vs = wipe σ vs := by
  apply List.ext_getElem?
  intro j
  rw [wipe_get, wipe_get]
  by_cases h : j ∈ vs
  · rw [if_pos h, if_pos h, Option.map_map]; rfl
  · rw [if_neg h, if_neg h]
theorem wipe_putsV {vs : List Nat} : ∀ {r : List (Nat × V)} {σ : SS}, (∀ q ∈ r, q.1 ∈ vs) → wipe (putsV σ r) vs = wipe σ vs
  | [], _, _ => rfl
  | (i, v) :: r, σ, h => by
    rw [putsV, wipe_putsV fun q hq => h q (List.mem_cons_of_mem _ hq)]
    exact wipe_set (h _ (List.mem_cons_self ..))
theorem own_wipe {vs : List Nat} {a : Addr} (h : Own (wipeE env vs) a) : Own env a := by
  obtain ⟨i, s, h1, h2⟩ := h
  rw [wipeE_get] at h1
  by_cases hm : i ∈ vs
  · rw [if_pos hm] at h1
    obtain ⟨t, _, e⟩ := Option.map_eq_some_iff.mp h1
    subst e
    cases h2
  · rw [if_neg hm] at h1
    exact ⟨i, s, h1, h2⟩
theorem own_wipe' {vs : List Nat} (ok : wipeOk env vs = true) {a : Addr} (h : Own env a) : Own (wipeE env vs) a := by
  obtain ⟨i, s, h1, h2⟩ := h
  refine ⟨i, s, ?_, h2⟩
  rw [wipeE_get]
  by_cases hm : i ∈ vs
  · have q := List.all_eq_true.mp ok i hm
    rw [h1] at q
    have q' : s.fp.isEmpty = true := q
    cases hs : s.fp with
    | nil => rw [hs] at h2; cases h2
    | cons x r => rw [hs] at q'; cases q'
  · rw [if_neg hm]; exact h1
/-- into a block -/
theorem St.wiped (st : St K g F H σ env) (vs : List Nat) : St K g F H (wipe σ vs) (wipeE env vs) where
  len := by rw [wipe_length, wipeE_len]; exact st.len
  sl := fun i s e => by
    rw [wipeE_get] at e
    by_cases hm : i ∈ vs
    · rw [if_pos hm] at e
      obtain ⟨t, _, e⟩ := Option.map_eq_some_iff.mp e
      subst e
      trivial
    · rw [if_neg hm] at e
      rw [wipe_get, if_neg hm]
      exact st.sl i s e
  nd := fun i j s t a ei ej h1 h2 => by
    rw [wipeE_get] at ei ej
    by_cases hi : i ∈ vs
    · rw [if_pos hi] at ei
      obtain ⟨_, _, e⟩ := Option.map_eq_some_iff.mp ei
      subst e
      cases h1
    · by_cases hj : j ∈ vs
      · rw [if_pos hj] at ej
        obtain ⟨_, _, e⟩ := Option.map_eq_some_iff.mp ej
        subst e
        cases h2
      · rw [if_neg hi] at ei
        rw [if_neg hj] at ej
        exact st.nd i j s t a ei ej h1 h2
  fr := fun a h => st.fr a (own_wipe h)
  ex := st.ex
  tf := st.tf
  tk := st.tk
  gt := st.gt
  g1 := st.g1
  g2 := fun a h => st.g2 a (own_wipe h)
  g3 := st.g3
  g4 := st.g4
  g5 := st.g5
  g6 := st.g6
/-- out of a block -/
theorem St.unwiped {vs : List Nat} (st : St K g F H σ env) (ok : wipeOk env vs = true) (st' : St K g F' H' (wipe σ vs) (wipeE env vs)) (e : Ex F F') : St K g F' H' σ env where
  len := st.len
  sl := fun i s e1 => by
    by_cases hm : i ∈ vs
    · have q := List.all_eq_true.mp ok i hm
      rw [e1] at q
      have q' : s.fp.isEmpty = true := q
      refine slok_mono e (fun a ha => ?_) (st.sl i s e1)
      cases hs : s.fp with
      | nil => rw [hs] at ha; cases ha
      | cons x r => rw [hs] at q'; cases q'
    · have q := st'.sl i s (by rw [wipeE_get, if_neg hm]; exact e1)
      rw [wipe_get, if_neg hm] at q
      exact q
  nd := st.nd
  fr := fun a h => st'.fr a (own_wipe' ok h)
  ex := st'.ex
  tf := st'.tf
  tk := st'.tk
  gt := st'.gt
  g1 := st'.g1
  g2 := fun a h => st.g2 a h
  g3 := st'.g3
  g4 := st'.g4
  g5 := st'.g5
  g6 := st'.g6
abbrev BX (X : Cx) (scope : Scope) (s : Shared) (H : Hp) (C : Addr) (cl : List (Str × Addr)) (fp : List Addr) : Cx := X.blk s H scope (compEnvC scope cl C X.env) fp
def semEB (X : Cx) (scope : Scope) (e : Expr) : TE := fun σ H Q => ∀ s H0 C cl fp, semE (BX X scope s H0 C cl fp) e σ H Q
def semTB (X : Cx) (scope : Scope) : List Expr → TT
  | [] => tYes
  | c :: _ => fun σ H Q => ∀ s H0 C cl fp, semT (BX X scope s H0 C cl fp) c σ H Q
/-- the tests of a clause: none or one -/
def WTs (X : Cx) (g : G) (ifs : List Expr) (env : List Sl) (Φ : Bool → Prop) : Prop := match ifs with
  | [] => Φ true
  | c :: _ => WT X g c env Φ (fun _ => False)
theorem takesB {scope : Scope} {s : Shared} {H0 : Hp} {C : Addr} {cl : List (Str × Addr)} {fp : List Addr} : Takes (BX X scope s H0 C cl fp) (fun _ _ _ _ => False) := fun _ _ x => by
  obtain ⟨_, _, _, _, _, _, _, _, _, _, _, _, _, _, _, _, z⟩ := x
  exact z.elim
theorem hxF {W : WX} : HX X g env (fun _ => False) W σ := fun _ _ _ h => h.elim
/-- the state within a comprehension -/
def LJ (K : Frag) (g : G) (F1 : Hp) (σ : SS) (env : List Sl) (Pv : Nat → List PyData → Prop) (D : Addr) (i : Nat) (H : Hp) : Prop :=
  ∃ F acc avs, St K g F H σ env ∧ Ex F1 F ∧ H D = some (.lst avs) ∧ DqAll K F avs acc ∧ F D = none ∧ ¬ Own env D ∧ g.H0 D = none ∧ Pv i acc ∧ acc.length ≤ i
theorem lc_turn {scope : Scope} {ifs : List Expr} {elt : Expr} {t : TG} {A : PyData → Option (List (Nat × PyData))} {F1 : Hp} {vs : List Nat} {Pv : Nat → List PyData → Prop} {D : Addr} {i : Nat} {x : PyData} {v : V} {l : List (Nat × PyData)}
    (htd : TGd X.K t A) (hA : A x = some l) (hl : ∀ q ∈ l, q.1 ∈ vs ∧ q.1 < env.length) (hsz : i < sizeLine) (hv : Dq X.K F1 v x) (hJ : LJ X.K g F1 (wipe σ vs) (wipeE env vs) Pv D i H)
    (hb : ∀ acc, Pv i acc → ∀ (g' : G) s H0 C cl fp, WTs (BX X scope s H0 C cl fp) g' ifs (putsE (wipeE env vs) l) (fun b => (b = true → ∀ s H0 C cl fp, WE (BX X scope s H0 C cl fp) g' elt (putsE (wipeE env vs) l) (fun y z => z = true ∧ Pv (i + 1) (acc ++ [y])) (fun _ => False)) ∧ (b = false → Pv (i + 1) acc))) :
    t v (wipe σ vs) H fun σ2 H2 => wipe σ2 vs = wipe σ vs ∧ semTB X scope ifs σ2 H2 fun b H3 =>
      if b = true then semEB X scope elt σ2 H3 fun y H4 => ∃ acc, H4 D = some (.lst acc) ∧ acc.length < sizeLine ∧ LJ X.K g F1 (wipe σ vs) (wipeE env vs) Pv D (i + 1) (upd H4 D (.lst (acc ++ [y]))) else LJ X.K g F1 (wipe σ vs) (wipeE env vs) Pv D (i + 1) H3 := by
  obtain ⟨F, acc, avs, st, eF, hD, hd, fD, oD, gD, hp, hlen⟩ := hJ
  refine htd x l (wipe σ vs) F H v _ hA st.ex (dp_mono eF _ _ hv) fun r sr => ?_
  have hidx : ∀ q ∈ r, q.1 ∈ vs := setsP_idx sr fun q hq => (hl q hq).1
  refine ⟨by rw [wipe_putsV hidx]; exact wipe_wipe σ vs, ?_⟩
  -- the state within the turn, over a ground of its own
  have st1 : St X.K ⟨F, H, fps (wipeE env vs)⟩ F H (putsV (wipe σ vs) r) (putsE (wipeE env vs) l) := St.sets st.toSk.base sr fun q hq => by rw [wipeE_len]; exact (hl q hq).2
  have back : ∀ {F' H'}, St X.K ⟨F, H, fps (wipeE env vs)⟩ F' H' (putsV (wipe σ vs) r) (putsE (wipeE env vs) l) → Ex F F' → St X.K ⟨F, H, fps (wipeE env vs)⟩ F' H' (wipe σ vs) (wipeE env vs) := fun {F' H'} s' e' =>
    { len := by rw [wipe_length, wipeE_len]; have := s'.len; rw [putsE_len, wipeE_len] at this; rw [← this, putsV_len, wipe_length]
      sl := fun k s e => by
        by_cases hm : k ∈ vs
        · rw [wipeE_get, if_pos hm] at e
          obtain ⟨_, _, e⟩ := Option.map_eq_some_iff.mp e
          subst e
          trivial
        · have e2 : (putsE (wipeE env vs) l)[k]? = some s := by rw [putsE_get (i := k) fun q hq (z : q.1 = k) => hm (by rw [← z]; exact (hl q hq).1)]; exact e
          have q := s'.sl k s e2
          rw [putsV_get (i := k) fun q hq (z : q.1 = k) => hm (by rw [← z]; exact hidx q hq)] at q
          exact q
      nd := st.nd
      fr := fun a h => by
        obtain ⟨k, s, h1, h2⟩ := h
        by_cases hm : k ∈ vs
        · rw [wipeE_get, if_pos hm] at h1
          obtain ⟨_, _, e⟩ := Option.map_eq_some_iff.mp h1
          subst e
          cases h2
        · exact s'.fr a ⟨k, s, by rw [putsE_get (i := k) fun q hq (z : q.1 = k) => hm (by rw [← z]; exact (hl q hq).1)]; exact h1, h2⟩
      ex := s'.ex
      tf := s'.tf
      tk := s'.tk
      gt := s'.gt
      g1 := s'.g1
      g2 := fun a h => .inr (own_fps.mp h)
      g3 := s'.g3
      g4 := s'.g4
      g5 := s'.g5
      g6 := s'.g6 }
  have keepD : ∀ {F' H'}, St X.K ⟨F, H, fps (wipeE env vs)⟩ F' H' (putsV (wipe σ vs) r) (putsE (wipeE env vs) l) → H' D = some (.lst avs) ∧ F' D = none := fun {F' H'} s' => by
    refine ⟨s'.g1 D _ hD (fun z => oD (own_fps.mpr z)) (fun _ z => by cases z), ?_⟩
    cases q : F' D with
    | none => rfl
    | some u =>
      rcases s'.g4 D (by rw [q]; intro z; cases z) with z | z
      · exact absurd fD z
      · have z' : H D = none := z
        rw [hD] at z'; cases z'
  have tests : ∀ (Q : Bool → Hp → Prop), (∀ b F' H', ((b = true → ∀ s H0 C cl fp, WE (BX X scope s H0 C cl fp) ⟨F, H, fps (wipeE env vs)⟩ elt (putsE (wipeE env vs) l) (fun y z => z = true ∧ Pv (i + 1) (acc ++ [y])) (fun _ => False)) ∧ (b = false → Pv (i + 1) acc)) →
      St X.K ⟨F, H, fps (wipeE env vs)⟩ F' H' (putsV (wipe σ vs) r) (putsE (wipeE env vs) l) → Ex F F' → Q b H') → semTB X scope ifs (putsV (wipe σ vs) r) H Q := fun Q hQ => by
    cases ifs with
    | nil =>
      exact hQ true F H ⟨fun _ s H0 C cl fp => (hb acc hp _ (X.s_0) H0 C cl fp).1 rfl s H0 C cl fp, fun z => by cases z⟩ st1 (Ex.refl F)
    | cons c cs =>
      intro s H0 C cl fp
      refine hb acc hp _ s H0 C cl fp _ takesB _ F H st1 hxF Q fun b F' H' hbb s' e' => hQ b F' H' hbb s' e'
  refine tests _ fun b F' H' ⟨h1, h2⟩ s' e' => ?_
  cases b with
  | true =>
    rw [if_pos rfl]
    intro s H0 C cl fp
    refine h1 rfl s H0 C cl fp _ takesB _ F' H' s' hxF _ fun y z w F2 H2 ⟨hz, hp2⟩ s2 e2 rd => ?_
    subst hz
    obtain ⟨hD2, fD2⟩ := keepD s2
    refine ⟨avs, hD2, by rw [dpa_len hd]; omega, F2, acc ++ [y], avs ++ [w], ?_, eF.trans (e'.trans e2), upd_same, ?_, fD2, oD, gD, hp2, by rw [List.length_append, List.length_singleton]; omega⟩
    · have s3 := st.rebase (back s2 (e'.trans e2)) fun a h => h
      exact s3.untracked fD2 oD gD
    · exact dpa_app (dpa_mono (e'.trans e2) _ _ hd) (dpa_one rd)
  | false =>
    rw [if_neg Bool.false_ne_true]
    obtain ⟨hD2, fD2⟩ := keepD s'
    exact ⟨F', acc, avs, st.rebase (back s' e') fun a h => h, eF.trans e', hD2, dpa_mono e' _ _ hd, fD2, oD, gD, h2 rfl, by omega⟩
/-- the state is one of the model's too -/
def tI (X : Cx) (t : TE) : TE := fun σ H Q => t σ H fun v H' => (∃ pins s, Inv X pins σ H' s) → Q v H'
theorem peI (e : Expr) : PE X e (tI X (semE X e)) := ⟨fun pins s σ H Q I h => thn (h.run pins s I) fun u s' ⟨v, H', I', r, q⟩ => ⟨v, H', I', r, q ⟨pins, s', I'⟩⟩⟩
theorem ptsB {scope : Scope} {ifs : List Expr} (h1 : ifs.length ≤ 1) (s : Shared) (H0 : Hp) (C : Addr) (cl : List (Str × Addr)) (fp : List Addr) : PTs (BX X scope s H0 C cl fp) ifs (semTB X scope ifs) := by
  match ifs, h1 with
  | [], _ => exact pts_nil
  | [c], _ => exact pts_one ⟨fun pins s2 σ H Q I h => (h s H0 C cl fp).run pins s2 I⟩
theorem peB {scope : Scope} {e : Expr} (s : Shared) (H0 : Hp) (C : Addr) (cl : List (Str × Addr)) (fp : List Addr) : PE (BX X scope s H0 C cl fp) e (semEB X scope e) := ⟨fun pins s2 σ H Q I h => (h s H0 C cl fp).run pins s2 I⟩
/-- one turn's wish -/
def LT (X : Cx) (env : List Sl) (scope : Scope) (ifs : List Expr) (elt : Expr) (vs : List Nat) (A : PyData → Option (List (Nat × PyData))) (Pv : Nat → List PyData → Prop) (i : Nat) (x : PyData) : Prop :=
  ∃ l, A x = some l ∧ (l.all fun q => vs.elem q.1 && Nat.blt q.1 env.length) = true ∧ ∀ acc, Pv i acc → ∀ (g' : G) s H0 C cl fp, WTs (BX X scope s H0 C cl fp) g' ifs (putsE (wipeE env vs) l) (fun b =>
    (b = true → ∀ s H0 C cl fp, WE (BX X scope s H0 C cl fp) g' elt (putsE (wipeE env vs) l) (fun y z => z = true ∧ Pv (i + 1) (acc ++ [y])) (fun _ => False)) ∧ (b = false → Pv (i + 1) acc))
theorem lt_idx {vs : List Nat} {l : List (Nat × PyData)} {n : Nat} (h : (l.all fun q => vs.elem q.1 && Nat.blt q.1 n) = true) : ∀ q ∈ l, q.1 ∈ vs ∧ q.1 < n := fun q hq => by
  have h1 := Bool.and_eq_true_iff.mp (List.all_eq_true.mp h q hq)
  exact ⟨List.elem_iff.mp h1.1, Nat.le_of_ble_eq_true h1.2⟩
def WNt (X : Cx) (g : G) (t : TE) (env : List Sl) (Φ : List PyData → Prop) (Ψ : Exc → Prop) : Prop :=
  ∀ (W : WX), Takes X W → ∀ (σ : SS) (F H : Hp), St X.K g F H σ env → HX X g env Ψ W σ →
    ∀ Q : VK, (∀ ds v F' H', Φ ds → St X.K g F' H' σ env → Ex F F' → NewL X.K g F' H' env v ds → Q v H') → t σ H Q
section
variable {tg iter elt : Expr} {ifs : List Expr} {scope : Scope} {own : List (Str × Nat)} {t : TG} {A : PyData → Option (List (Nat × PyData))} {Φ : List PyData → Prop}
/-- [elt for tg in a list] -/
theorem nt_lcL (htd : TGd X.K t A) (hwo : wipeOk env (own.map (·.2)) = true)
    (hi : WE X g iter env (fun d z => z = true ∧ ∃ (xs : List PyData) (Pv : Nat → List PyData → Prop), d = .list xs ∧ Pv 0 [] ∧ (∀ i x, xs[i]? = some x → LT X env scope ifs elt (own.map (·.2)) A Pv i x) ∧ ∀ acc, Pv xs.length acc → Φ acc) Ψ) : WNt X g (tLc (iList X.K (tI X (semE X iter))) t (semTB X scope ifs) (semEB X scope elt) (own.map (·.2))) env Φ Ψ := fun W tk σ F H st hx Q hQ => by
  refine hi W tk σ F H st hx _ fun d z v F1 H1 ⟨hz, xs, Pv, hd, p0, pt, pe⟩ s1 e1 rd inv => ?_
  subst hz hd
  obtain ⟨a, vs, rfl, hsq, hda⟩ := dp_lst rd
  obtain ⟨pins, sh, I⟩ := inv
  have hlen : vs.length ≤ sizeLine := by
    obtain ⟨_, _, _, hz⟩ := I.list (ex_l s1.ex hsq)
    exact hz
  refine ⟨a, rfl, ⟨vs, ex_l s1.ex hsq⟩, fun D hD => ?_⟩
  have st2 : St X.K g F1 (upd H1 D (.lst [])) (wipe σ (own.map (·.2))) (wipeE env (own.map (·.2))) := (s1.alloc hD).wiped _
  refine lc_list (xs := vs) (LJ X.K g F1 (wipe σ (own.map (·.2))) (wipeE env (own.map (·.2))) Pv D) ⟨F1, [], [], st2, Ex.refl F1, upd_same, .nil, s1.ex.none hD, fun z => s1.there (own_wipe z) hD, s1.h0 hD, p0, Nat.le_refl 0⟩ (fun i H2 _ ⟨F2, _, _, s3, e3, _⟩ => ex_l s3.ex (ex_l e3 hsq)) (fun i x H2 hx2 hJ => ?_) (fun H2 ⟨F2, acc, avs, s3, e3, hD3, hd3, fD, oD, gD, hp, _⟩ => ?_)
  · obtain ⟨d, hd1, hd2⟩ := dpa_of hda hx2
    obtain ⟨l, hA, hl, hb⟩ := pt i d hd1
    exact lc_turn htd hA (lt_idx hl) (by have := (List.getElem?_eq_some_iff.mp hx2).1; omega) hd2 hJ hb
  · rw [dpa_len hda] at hp
    exact hQ acc (.ref D) F2 H2 (pe acc hp) (s1.unwiped hwo s3 e3) (e1.trans e3) ⟨D, avs, rfl, hD3, hd3, fD, fun z => s1.there z hD, gD⟩
theorem wn_lcL (hc : X.calm = true) (hN : X.N.Nodup) (ok : BlkOk X.N X.env.scope scope own) (hpg : ∀ s H C cl fp, PG (BX X scope s H C cl fp) tg t) (htd : TGd X.K t A) (h1 : ifs.length ≤ 1) (hwo : wipeOk env (own.map (·.2)) = true)
    (hi : WE X g iter env (fun d z => z = true ∧ ∃ (xs : List PyData) (Pv : Nat → List PyData → Prop), d = .list xs ∧ Pv 0 [] ∧ (∀ i x, xs[i]? = some x → LT X env scope ifs elt (own.map (·.2)) A Pv i x) ∧ ∀ acc, Pv xs.length acc → Φ acc) Ψ)
    (hs : ∀ x, foldedSetIterable iter X.env x = pure x := by intro _; rfl) : WN X g (.ListComp elt [⟨tg, iter, ifs, 0⟩] scope pos) env Φ Ψ := fun W tk σ F H st hx Q hQ =>
  semE_of (pe_lc hc hN (pi_list (peI iter)) ok hpg (ptsB h1) peB hs) (nt_lcL htd hwo hi W tk σ F H st hx Q hQ)
end
end
end TL
namespace TL
open PySem PySem.Spec PyProof.Rows L2
/-- a new dict, no slot's; its keys tuples, atoms -/
def NewT (K : Frag) (g : G) (F H : Hp) (env : List Sl) (v : V) (kvs : List (List Key × PyData)) : Prop :=
  ∃ p xs, v = .ref p ∧ H p = some (.dT xs) ∧ KVp K F xs kvs ∧ F p = none ∧ ¬ Own env p ∧ g.H0 p = none
def NewK (K : Frag) (g : G) (F H : Hp) (env : List Sl) (v : V) (kvs : List (Key × PyData)) : Prop :=
  ∃ p xs, v = .ref p ∧ H p = some (.dK xs) ∧ KVp K F xs kvs ∧ F p = none ∧ ¬ Own env p ∧ g.H0 p = none
/-- what is wanted behind a statement -/
structure Po where
  nx : List Sl → Prop
  rt : PR → List Sl → Prop
  bk : List Sl → Prop := fun _ => False
  ct : List Sl → Prop := fun _ => False
  ex : Exc → List Sl → Prop
/-- the same, another end -/
abbrev Po.thn (P : Po) (q : List Sl → Prop) : Po := ⟨q, P.rt, P.bk, P.ct, P.ex⟩
abbrev Po.turn (P : Po) (q : List Sl → Prop) : Po := ⟨q, P.rt, P.nx, q, P.ex⟩
abbrev Po.exn (P : Po) (q : Exc → List Sl → Prop) : Po := ⟨P.nx, P.rt, P.bk, P.ct, q⟩
def RtOk (K : Frag) (g : G) (v : V) (σ' : SS) (F' H' : Hp) (env' : List Sl) : PR → Prop
  | .rd d => Dq K F' v d
  | .nl ds => NewL K g F' H' env' v ds
  | .ar i => σ'[i]? = some (some v) ∧ ∃ s, env'[i]? = some s ∧ s.fp ≠ []
  | .nt kvs => NewT K g F' H' env' v kvs
  | .nk kvs => NewK K g F' H' env' v kvs
  | .sl C => ∃ s, C s ∧ SlOk K F' H' (some v) s ∧ ∀ p ∈ s.fp, F' p = none ∧ ¬ Own env' p ∧ g.H0 p = none
structure DOk (X : Cx) (g : G) (F : Hp) (P : Po) (D : Ends) : Prop where
  nx : ∀ env' σ' F' H', P.nx env' → St X.K g F' H' σ' env' → Ex F F' → D.nx σ' H'
  rt : ∀ r v env' σ' F' H', P.rt r env' → St X.K g F' H' σ' env' → RtOk X.K g v σ' F' H' env' r → D.rt v H'
  bk : ∀ env' σ' F' H', P.bk env' → St X.K g F' H' σ' env' → Ex F F' → D.bk σ' H'
  ct : ∀ env' σ' F' H', P.ct env' → St X.K g F' H' σ' env' → Ex F F' → D.ct σ' H'
def XOk (X : Cx) (g : G) (P : Po) (W : WX) : Prop := ∀ c env' σ' F' H', P.ex c env' → St X.K g F' H' σ' env' → ExcW X.K W σ' H' c
structure SemP (X : Cx) (st : Stmt) (D : Ends) (σ : SS) (H : Hp) : Prop where
  run : ∀ (pins : List (Addr × Obj)) (s : Shared), Inv X pins σ H s → wpAny (model X.prog X.w) X.A (exec st X.env) (SP X pins D) X.xe s
def semP (X : Cx) (st : Stmt) : TS := fun D σ H => SemP X st D σ H
def WS (X : Cx) (g : G) (sts : List Stmt) (env : List Sl) (P : Po) : Prop :=
  ∀ (W : WX), Takes X W → XOk X g P W → ∀ (σ : SS) (F H : Hp), St X.K g F H σ env → ∀ D : Ends, DOk X g F P D → semS X sts D σ H
def W1 (X : Cx) (g : G) (st : Stmt) (env : List Sl) (P : Po) : Prop :=
  ∀ (W : WX), Takes X W → XOk X g P W → ∀ (σ : SS) (F H : Hp), St X.K g F H σ env → ∀ D : Ends, DOk X g F P D → semP X st D σ H
section
variable {X : Cx} {g : G} {env env' : List Sl} {P : Po} {pos p : Pos} {a b c e : Expr} {es : List Expr} {st : Stmt} {rest body orelse : List Stmt} {K : Frag} {F F' H H' : Hp} {σ σ' : SS} {D : Ends} {W : WX}
theorem psP (st : Stmt) : PS X st (semP X st) := ⟨fun pins s _ _ _ I h => h.run pins s I⟩
theorem semP_of {t : TS} (h : PS X st t) (q : t D σ H) : semP X st D σ H := ⟨fun pins s I => h.run pins s σ H D I q⟩
theorem DOk.mono (h : DOk X g F P D) (e : Ex F F') : DOk X g F' P D :=
  ⟨fun a b c d h1 h2 h3 => h.nx a b c d h1 h2 (e.trans h3), h.rt, fun a b c d h1 h2 h3 => h.bk a b c d h1 h2 (e.trans h3), fun a b c d h1 h2 h3 => h.ct a b c d h1 h2 (e.trans h3)⟩
theorem XOk.hx (h : XOk X g P W) (env : List Sl) (σ : SS) : HX X g env (fun c => P.ex c env) W σ := fun c F' H' hc s => h c env σ F' H' hc s
theorem ws_nil (h : P.nx env) : WS X g [] env P := fun W tk hx σ F H st D hD => semS_of pss_nil (hD.nx env σ F H h st (Ex.refl F))
theorem ws_cons (h : W1 X g st env (P.thn fun env' => WS X g rest env' P)) : WS X g (st :: rest) env P := fun W tk hx σ F H s0 D hD => by
  refine semS_of (pss_cons (psP st) (pssS rest)) ?_
  refine h W tk hx σ F H s0 _ ⟨fun env' σ' F' H' hw s' e' => ?_, hD.rt, hD.bk, hD.ct⟩
  exact hw W tk hx σ' F' H' s' D (hD.mono e')
theorem WS.mono {P' : Po} (h : WS X g rest env P) (h1 : ∀ e, P.nx e → P'.nx e) (h2 : ∀ r e, P.rt r e → P'.rt r e) (h3 : ∀ e, P.bk e → P'.bk e) (h4 : ∀ e, P.ct e → P'.ct e) (h5 : ∀ c e, P.ex c e → P'.ex c e) : WS X g rest env P' :=
  fun W tk hx σ F H st D hD => h W tk (fun c e σ' F' H' hc => hx c e σ' F' H' (h5 c e hc)) σ F H st D
    ⟨fun e σ' F' H' q => hD.nx e σ' F' H' (h1 e q), fun r v e σ' F' H' q => hD.rt r v e σ' F' H' (h2 r e q), fun e σ' F' H' q => hD.bk e σ' F' H' (h3 e q), fun e σ' F' H' q => hD.ct e σ' F' H' (h4 e q)⟩
theorem ltB {n m : Nat} (h : Nat.blt n m = true) : n < m := Nat.le_of_ble_eq_true h
/-- x = e -/
theorem w1_set (i : Nat) {x : Str} {pos' : Pos} (hN : X.N.Nodup) (h : WE X g e env (fun d z => z = true ∧ P.nx (env.set i (.d d))) (fun c => P.ex c env)) (hi : X.N[i]? = some x := by rfl) (hx : Loc X.env.scope x := by first | exact Or.inl rfl | exact Or.inr rfl) (hl : Nat.blt i env.length = true := by rfl)
    (hs : swapsWith e (some (.Name x pos')) pos.line X.env = pure false := by rfl) (hf : X.fn x = true ∨ X.env.scope.names.lookup x = some .local := by first | exact .inl rfl | exact .inr rfl) : W1 X g (.Assign [.Name x pos'] e pos) env P := fun W tk hx2 σ F H s0 D hD => by
  refine semP_of (ps_set hN hi hx (peS e) hs hf) ?_
  refine h W tk σ F H s0 (hx2.hx env σ) _ fun d z v F' H' ⟨hz, hp⟩ s' e' r' => ?_
  subst hz
  exact hD.nx _ _ F' H' hp (s'.setD (ltB hl) r') e'
/-- x = e, a new list that x alone holds -/
theorem w1_setN (i : Nat) {x : Str} {pos' : Pos} (hN : X.N.Nodup) (h : WN X g e env (fun ds => ∀ a, a ∉ g.M → P.nx (env.set i (.ol a ds))) (fun c => P.ex c env)) (hi : X.N[i]? = some x := by rfl) (hx : Loc X.env.scope x := by first | exact Or.inl rfl | exact Or.inr rfl) (hl : Nat.blt i env.length = true := by rfl)
    (hs : swapsWith e (some (.Name x pos')) pos.line X.env = pure false := by rfl) (hf : X.fn x = true ∨ X.env.scope.names.lookup x = some .local := by first | exact .inl rfl | exact .inr rfl) : W1 X g (.Assign [.Name x pos'] e pos) env P := fun W tk hx2 σ F H s0 D hD => by
  refine semP_of (ps_set hN hi hx (peS e) hs hf) ?_
  refine h W tk σ F H s0 (hx2.hx env σ) _ fun ds v F' H' hp s' e' ⟨q, vs, hv, h1, h2, h3, h4, h5⟩ => ?_
  subst hv
  exact hD.nx _ _ F' H' (hp q fun m => s'.g6 q m h5) (s'.setL (ltB hl) h1 h2 h3 h4 h5) e'
/-- x = [..] on one line -/
theorem w1_setLc (i : Nat) {y : Str} {py : Pos} {elt tg iter : Expr} {ifs : List Expr} {scope : Scope} {own : List (Str × Nat)} {wi : TI} {t : TG} (hc : X.calm = true) (hN : X.N.Nodup) (hi : PI X tg iter wi) (ok : BlkOk X.N X.env.scope scope own) (hpg : ∀ s H C cl fp, PG (BX X scope s H C cl fp) tg t) (h1 : ifs.length ≤ 1)
    (h : WNt X g (tLc wi t (semTB X scope ifs) (semEB X scope elt) (own.map (·.2))) env (fun ds => P.nx (env.set i (.d (.list ds)))) (fun c => P.ex c env))
    (hy : X.N[i]? = some y := by rfl) (hyl : X.env.scope.names.lookup y = some .local := by rfl) (hl : Nat.blt i env.length = true := by rfl)
    (hsw : swapsWith (.ListComp elt [⟨tg, iter, ifs, 0⟩] scope pos) (some (.Name y py)) p.line X.env = pure true := by exact sw_true rfl rfl rfl (by decide +kernel)) (hs : ∀ x, foldedSetIterable iter X.env x = pure x := by intro _; rfl) :
    W1 X g (.Assign [.Name y py] (.ListComp elt [⟨tg, iter, ifs, 0⟩] scope pos) p) env P := fun W tk hx2 σ F H s0 D hD => by
  refine semP_of (ps_setLc hc hN hy hyl hsw hi ok hpg (ptsB h1) peB hs) ?_
  refine h W tk σ F H s0 (hx2.hx env σ) _ fun ds v F' H' hp s' e' ⟨q, vs, hv, h1, h2, h3, h4, h5⟩ => ?_
  subst hv
  have e2 := Ex.new (o := .lst vs) h3
  exact hD.nx _ _ _ H' hp ((s'.freeze h1 h3 h4 h5).setD (ltB hl) (.lst (SqL.of upd_same) (dpa_mono e2 _ _ h2))) (e'.trans e2)
/-- a, b, .. = e -/
theorem w1_unpack {tg : Expr} {t : TG} {A : PyData → Option (List (Nat × PyData))} (hpg : PG X tg t) (htd : TGd X.K t A)
    (h : WE X g e env (fun d z => z = true ∧ ∃ l, A d = some l ∧ (l.all fun q => Nat.blt q.1 env.length) = true ∧ P.nx (putsE env l)) (fun c => P.ex c env))
    (hs : swapsWithSole [tg] e pos.line X.env = pure false := by rfl) (hw : swappedStores [tg] e X.env = pure none := by rfl) (h1 : (assignEach [tg] X.env).map (·.2) = [assign tg X.env] := by rfl) : W1 X g (.Assign [tg] e pos) env P := fun W tk hx2 σ F H s0 D hD => by
  refine semP_of (ps_asg (peS e) hpg hs hw h1) ?_
  refine h W tk σ F H s0 (hx2.hx env σ) _ fun d z v F' H' ⟨hz, l, hA, hl, hp⟩ s' e' r' => ?_
  subst hz
  refine htd d l σ F' H' v _ hA s'.ex r' fun r sr => ?_
  exact hD.nx _ _ F' H' hp (s'.sets sr fun q hq => ltB (List.all_eq_true.mp hl q hq)) e'
/-- e -/
theorem w1_expr (h : WE X g e env (fun _ _ => P.nx env) (fun c => P.ex c env)) (hs : swapsWith e none pos.line X.env = pure false := by rfl) : W1 X g (.Expr e pos) env P := fun W tk hx2 σ F H s0 D hD =>
  semP_of (ps_expr (peS e) hs) (h W tk σ F H s0 (hx2.hx env σ) _ fun d z v F' H' hp s' e' r' => hD.nx _ _ F' H' hp s' e')
/-- return e -/
theorem w1_ret (h : WE X g e env (fun d z => z = true ∧ P.rt (.rd d) env) (fun c => P.ex c env)) : W1 X g (.Return (some e) pos) env P := fun W tk hx2 σ F H s0 D hD =>
  semP_of (ps_ret (peS e)) (h W tk σ F H s0 (hx2.hx env σ) _ fun d z v F' H' ⟨hz, hp⟩ s' e' r' => by
    subst hz
    exact hD.rt _ v env σ F' H' hp s' r')
theorem w1_retN (h : WN X g e env (fun ds => P.rt (.nl ds) env) (fun c => P.ex c env)) : W1 X g (.Return (some e) pos) env P := fun W tk hx2 σ F H s0 D hD =>
  semP_of (ps_ret (peS e)) (h W tk σ F H s0 (hx2.hx env σ) _ fun ds v F' H' hp s' e' r' => hD.rt _ v env σ F' H' hp s' r')
/-- return x, x a list made here -/
theorem w1_retO (i : Nat) {x : Str} {q : Pos} {al : Addr} {ds : List PyData} (he : env[i]? = some (.ol al ds)) (ha : al ∉ g.M) (h : P.rt (.nl ds) (env.set i .un)) (hN : X.N[i]? = some x := by rfl)
    (hv : Vis X.env.scope x := by first | exact Or.inl rfl | exact Or.inr (Or.inl rfl) | exact Or.inr (Or.inr rfl)) (hd : (x == ("__debug__" : Str)) = false := by decide)
    (hcd : (x == ("__classdict__" : Str)) = false := by decide) : W1 X g (.Return (some (.Name x q)) pos) env P := fun W tk hx2 σ F H s0 D hD => by
  refine semP_of (ps_ret (pe_var hN hv hd hcd)) ?_
  obtain ⟨h1, vs, h2, h3⟩ := s0.sl i _ he
  have own : Own env al := ⟨i, _, he, by simp [Sl.fp]⟩
  refine ⟨_, getD_some h1, hD.rt _ _ _ σ F H h (s0.weak he (fun _ h => by cases h) fun _ => trivial) ⟨al, vs, rfl, h2, h3, s0.fr al own, fun z => ?_, ?_⟩⟩
  · obtain ⟨j, t, ej, ht⟩ := z
    rcases set_get ej with ⟨_, rfl⟩ | ⟨ne, ej⟩
    · cases ht
    · exact ne (s0.nd i j _ t al he ej (by simp [Sl.fp]) ht)
  · rcases s0.g2 al own with z | z
    · exact z
    · exact absurd z ha
/-- return x, x an object that was handed in -/
theorem w1_retA (i : Nat) {x : Str} {q : Pos} {s : Sl} (he : env[i]? = some s) (hne : s.fp ≠ []) (h : P.rt (.ar i) env) (hN : X.N[i]? = some x := by rfl)
    (hv : Vis X.env.scope x := by first | exact Or.inl rfl | exact Or.inr (Or.inl rfl) | exact Or.inr (Or.inr rfl)) (hd : (x == ("__debug__" : Str)) = false := by decide)
    (hcd : (x == ("__classdict__" : Str)) = false := by decide) : W1 X g (.Return (some (.Name x q)) pos) env P := fun W tk hx2 σ F H s0 D hD => by
  refine semP_of (ps_ret (pe_var hN hv hd hcd)) ?_
  have h0 := s0.sl i s he
  obtain ⟨v, hv⟩ : ∃ v, σ[i]?.getD none = some v := by
    cases s with
    | un => exact absurd rfl hne
    | d x => exact absurd rfl hne
    | v x => exact ⟨_, h0⟩
    | ol a ds => exact ⟨_, h0.1⟩
    | bg a => exact ⟨_, h0.1⟩
    | dt a ds => exact ⟨_, h0.1⟩
    | dk a ds => exact ⟨_, h0.1⟩
    | fv l => exact absurd rfl hne
    | fl l => exact absurd rfl hne
    | oo a ds => exact ⟨_, h0.1⟩
    | ow t => exact ⟨h0.choose, h0.choose_spec.1⟩
  exact ⟨v, getD_some hv, hD.rt _ v env σ F H h s0 ⟨getD_some hv, s, he, hne⟩⟩
theorem w1_if (h : WT X g c env (fun k => (k = true → WS X g body env P) ∧ (k = false → WS X g orelse env P)) (fun c => P.ex c env)) : W1 X g (.If c body orelse pos) env P := fun W tk hx2 σ F H s0 D hD => by
  refine semP_of (ps_if (ptS c) (pssS body) (pssS orelse)) ?_
  refine h W tk σ F H s0 (hx2.hx env σ) _ fun k F' H' ⟨h1, h2⟩ s' e' => ?_
  cases k with
  | true => rw [if_pos rfl]; exact h1 rfl W tk hx2 σ F' H' s' D (hD.mono e')
  | false => rw [if_neg Bool.false_ne_true]; exact h2 rfl W tk hx2 σ F' H' s' D (hD.mono e')
/-- what a raise of an own class leans on -/
structure ExK (K : Frag) (mg : Str → Option Value) (x : Str) : Prop where
  gC : mg x = some (.ref (He.ga K x))
  ex : PySem.W.excIn K (He.ga K x) He.veBase "ValueError.__new__" = true
  kp : PySem.W.keepIn K (.ref (He.ga K x)) = true
  sb : PySem.W.subIn K (.ref (He.ga K x)) (.type "BaseException") = some true
  ty : PySem.W.typeIn K (.ref (He.ga K x)) = some (.type "type")
/-- raise X('..') -/
theorem w1_raise {x m : Str} {j : Nat} {p p2 q : Pos} (hc : X.calm = true) (k : ExK X.K X.mg x) (h : P.ex (.own x) env) (hg : Gl X x := by rfl) (hdb : (x == ("__debug__" : Str)) = false := by decide) : W1 X g (.Raise (some (.Call (.Name x p) [.Constant (.str m) j p2] [] q)) none pos) env P := fun W tk hx2 σ F H s0 D hD =>
  semP_of (ps_raise hc tk (pmk_own PySem.F.excBase_ValueError k.ex k.gC k.kp (raises_own k.sb k.ty) hg hdb)) (hx2 (.own x) env σ F H h s0)
/-- x.append(e) -/
theorem w1_append (i : Nat) {x : Str} {q apos cpos : Pos} {al : Addr} {ds : List PyData} (he : env[i]? = some (.ol al ds)) (h : WE X g e env (fun d z => z = true ∧ ds.length < sizeLine ∧ P.nx (env.set i (.ol al (ds ++ [d])))) (fun c => P.ex c env)) (hN : X.N[i]? = some x := by rfl)
    (hv : Vis X.env.scope x := by first | exact Or.inl rfl | exact Or.inr (Or.inl rfl) | exact Or.inr (Or.inr rfl)) (hd : (x == ("__debug__" : Str)) = false := by decide)
    (hcd : (x == ("__classdict__" : Str)) = false := by decide)
    (hbase : attributeBase (.Name x q) "append" X.env (eval (.Name x q) X.env) = eval (.Name x q) X.env := by rfl)
    (hfew : ((backTo cpos (starEach [e] X.env)).all (fun x => !x.1) && (backToKw cpos (keywordEach [] X.env)).all (fun x => x.1.isSome)
      && decide ([e].length + ([] : List Keyword).length + (if ([] : List Keyword).isEmpty then 0 else 1) < 30)) = true := by rfl)
    (hline : (apos.endLine == cpos.line) = true := by rfl) (hs1 : starEach [e] X.env = (false, eval e X.env) :: starEach [] X.env := by rfl) (hplain : (backTo cpos (starEach ([] : List Expr) X.env)).any (·.1) = false := by rfl)
    (hs : swapsWith (.Call (.Attribute (.Name x q) "append" apos) [e] [] cpos) none pos.line X.env = pure false := by rfl) :
    W1 X g (.Expr (.Call (.Attribute (.Name x q) "append" apos) [e] [] cpos) pos) env P := fun W tk hx2 σ F H s0 D hD => by
  refine semP_of (ps_expr (pe_bm PySem.F.plainAttrs_list PySem.F.slot_list_append PySem.F.type_list_append mt_append (pe_var hN hv hd hcd) (pa_cons (peS e) pa_nil hs1) hbase hfew hline hs1 hplain) hs) ?_
  obtain ⟨h1, vs, h2, h3⟩ := s0.sl i _ he
  refine ⟨_, getD_some h1, .inl ⟨rfl, vs, SqL.of h2⟩, ?_⟩
  refine h W tk σ F H s0 (hx2.hx env σ) _ fun d z v F' H' ⟨hz, hl, hp⟩ s' e' r' => ?_
  subst hz
  obtain ⟨h1', vs', h2', h3'⟩ := s'.sl i _ he
  refine ⟨al, vs', v, rfl, rfl, h2', by rw [dpa_len h3']; exact hl, ?_⟩
  exact hD.nx _ _ F' _ hp (s'.write he rfl rfl ⟨h1', vs' ++ [v], upd_same, dpa_app h3' (dpa_one r')⟩) e'
/-- x[k] = e -/
theorem w1_setix (i : Nat) {x : Str} {ix : Expr} {q tpos : Pos} {al : Addr} {ds : List PyData} (he : env[i]? = some (.ol al ds)) (h : WE X g e env (fun d z => z = true ∧ WE X g ix env (fun k _ => ∃ n j, k = .int n ∧ ixN ds.length n = some j ∧ P.nx (env.set i (.ol al (ds.set j d)))) (fun c => P.ex c env)) (fun c => P.ex c env)) (hN : X.N[i]? = some x := by rfl)
    (hv : Vis X.env.scope x := by first | exact Or.inl rfl | exact Or.inr (Or.inl rfl) | exact Or.inr (Or.inr rfl)) (hd : (x == ("__debug__" : Str)) = false := by decide)
    (hcd : (x == ("__classdict__" : Str)) = false := by decide)
    (ha : ∀ v, assign (.Subscript (.Name x q) ix tpos) X.env v = (do
      let ov ← holding [v] (eval (.Name x q) X.env)
      let iv ← holding [v, ov] (eval ix X.env)
      standAt tpos
      holding [v, ov, iv] (setItem ov iv v)
      release [v, ov, iv] []) := by intro _; rfl)
    (hs : swapsWithSole [.Subscript (.Name x q) ix tpos] e pos.line X.env = pure false := by rfl) (hw : swappedStores [.Subscript (.Name x q) ix tpos] e X.env = pure none := by rfl)
    (h1 : (assignEach [.Subscript (.Name x q) ix tpos] X.env).map (·.2) = [assign (.Subscript (.Name x q) ix tpos) X.env] := by rfl) : W1 X g (.Assign [.Subscript (.Name x q) ix tpos] e pos) env P := fun W tk hx2 σ F H s0 D hD => by
  refine semP_of (ps_asg (peS e) (pg_sub (pe_var hN hv hd hcd) (peS ix) set_list ha) hs hw h1) ?_
  refine h W tk σ F H s0 (hx2.hx env σ) _ fun d z v F1 H1 ⟨hz, hp⟩ s1 e1 r1 => ?_
  subst hz
  obtain ⟨h1, vs, h2, h3⟩ := s1.sl i _ he
  refine ⟨_, getD_some h1, ?_⟩
  refine hp W tk σ F1 H1 s1 (hx2.hx env σ) _ fun k z2 w F2 H2 ⟨n, j, hk, hj, hp2⟩ s2 e2 r2 => ?_
  subst hk
  obtain ⟨h1', vs', h2', h3'⟩ := s2.sl i _ he
  refine ⟨al, vs', n, j, rfl, rd_int r2, h2', by rw [dpa_len h3']; exact hj, ?_⟩
  exact hD.nx _ _ F2 _ hp2 (s2.write he rfl rfl ⟨h1', vs'.set j v, upd_same, dpa_set j h3' (dp_mono e2 _ _ r1)⟩) (e1.trans e2)
/-- x[k] read, for an augmented store -/
def rGetL : V → V → Hp → VK → Prop := fun o i H Q => ∃ p xs k v, o = .ref p ∧ i = .int k ∧ H p = some (.lst xs) ∧ atI xs k = some v ∧ Q v H
theorem get_list : PGet X rGetL := fun pins s σ H o i ov iv Q I ro ri ⟨p, xs, k, v, ho, hi, hH, ha, q⟩ => by
  subst ho hi
  cases ro
  obtain ⟨t, rfl⟩ := ri
  obtain ⟨its, r, pl, hz⟩ := I.list (SqL.of hH)
  obtain ⟨j, h1, h2, h3, h4, h5⟩ := atI_get ha
  obtain ⟨w, ew, rw'⟩ := r.get h2
  have hl := r.length
  have hn := line63
  have fin : EP X pins σ Q w s := ⟨v, H, I, rw', q⟩
  by_cases h0 : 0 ≤ k
  · have hj : k.toNat = j := by
      rw [seqIndex_of h0 h5] at h1
      exact Option.some.inj h1
    exact wpAny_getItem_list pl.isList h0 (by omega) (by rw [hj]; simpa using ew) fin
  · have hj : (k + (its.toArray.size : Int)).toNat = j := by
      rw [seqIndex_neg (by omega) h4] at h1
      rw [List.size_toArray, ← hl]
      exact Option.some.inj h1
    exact wpAny_getItem_list_neg pl.isList (by omega) (by rw [List.size_toArray]; omega) (by omega) (by rw [hj]; simpa using ew) fin
/-- x[k] += e, ints -/
theorem w1_augix (i : Nat) {x : Str} {ix : Expr} {q tpos : Pos} {al : Addr} {ds : List PyData} (he : env[i]? = some (.ol al ds))
    (h : WE X g ix env (fun k _ => ∃ n j u, k = .int n ∧ ixN ds.length n = some j ∧ ds[j]? = some (.int u) ∧ WE X g e env (fun d _ => ∃ m, d = .int m ∧ P.nx (env.set i (.ol al (ds.set j (.int (u + m)))))) (fun c => P.ex c env)) (fun c => P.ex c env)) (hN : X.N[i]? = some x := by rfl)
    (hv : Vis X.env.scope x := by first | exact Or.inl rfl | exact Or.inr (Or.inl rfl) | exact Or.inr (Or.inr rfl)) (hd : (x == ("__debug__" : Str)) = false := by decide)
    (hcd : (x == ("__classdict__" : Str)) = false := by decide)
    (ha : ∀ ov iv new, augStore ix ov iv new = (do holding [new, ov, iv] (setItem ov iv new); release [new, ov, iv] []; pure .next) := by intros; rfl) : W1 X g (.AugAssign (.Subscript (.Name x q) ix tpos) .Add e pos) env P := fun W tk hx2 σ F H s0 D hD => by
  refine semP_of (ps_augS (pe_var hN hv hd hcd) (peS ix) get_list (peS e) ip_add set_list ha) ?_
  obtain ⟨h1, vs, h2, h3⟩ := s0.sl i _ he
  refine ⟨_, getD_some h1, ?_⟩
  refine h W tk σ F H s0 (hx2.hx env σ) _ fun k z1 w F1 H1 ⟨n, j, u, hk, hj, hu, hp⟩ s1 e1 r1 => ?_
  subst hk
  obtain ⟨h1', vs', h2', h3'⟩ := s1.sl i _ he
  obtain ⟨v0, hv0, hdv⟩ := dpa_get h3' hu
  have hat : atI vs' n = some v0 := by
    unfold atI
    rw [dpa_len h3', hj]
    exact hv0
  refine ⟨al, vs', n, v0, rfl, rd_int r1, h2', hat, ?_⟩
  refine hp W tk σ F1 H1 s1 (hx2.hx env σ) _ fun d z2 w2 F2 H2 ⟨m, hm, hp2⟩ s2 e2 r2 => ?_
  subst hm
  obtain ⟨h1'', vs'', h2'', h3''⟩ := s2.sl i _ he
  refine ⟨u, m, dp_int hdv, rd_int r2, al, vs'', n, j, rfl, rd_int r1, h2'', by rw [dpa_len h3'']; exact hj, ?_⟩
  exact hD.nx _ _ F2 _ hp2 (s2.write he rfl rfl ⟨h1'', vs''.set j (.int (u + m)), upd_same, dpa_set j h3'' (.int _)⟩) (e1.trans e2)
/-- x += e, x -= e, ints -/
theorem w1_add (i : Nat) {x : Str} {pos' : Pos} {u : Int} (hN : X.N.Nodup) (he : env[i]? = some (.d (.int u))) (h : WE X g e env (fun d _ => ∃ m, d = .int m ∧ P.nx (env.set i (.d (.int (u + m))))) (fun c => P.ex c env)) (hi : X.N[i]? = some x := by rfl) (hx : Loc X.env.scope x := by first | exact Or.inl rfl | exact Or.inr rfl)
    (hf : X.fn x = true ∨ X.env.scope.names.lookup x = some .local := by first | exact .inl rfl | exact .inr rfl) : W1 X g (.AugAssign (.Name x pos') .Add e pos) env P := fun W tk hx2 σ F H s0 D hD => by
  refine semP_of (ps_aug hN hi hx (peS e) ip_add hf) ?_
  obtain ⟨v, h1, h2⟩ := s0.sl i _ he
  refine ⟨v, getD_some h1, ?_⟩
  refine h W tk σ F H s0 (hx2.hx env σ) _ fun d z w F1 H1 ⟨m, hm, hp⟩ s1 e1 r1 => ?_
  subst hm
  exact ⟨u, m, dp_int h2, rd_int r1, hD.nx _ _ F1 H1 hp (s1.setD (List.getElem?_eq_some_iff.mp he).1 (.int _)) e1⟩
/-- the state between turns -/
def FJ (K : Frag) (g : G) (F1 : Hp) (Pv : Nat → List Sl → Prop) (i : Nat) (σ : SS) (H : Hp) : Prop := ∃ F env', St K g F H σ env' ∧ Ex F1 F ∧ Pv i env'
section
variable {tg iter : Expr} {t : TG} {A : PyData → Option (List (Nat × PyData))}
/-- one turn -/
def FT (X : Cx) (g : G) (body : List Stmt) (A : PyData → Option (List (Nat × PyData))) (P : Po) (Pv : Nat → List Sl → Prop) (i : Nat) (x : PyData) : Prop :=
  ∀ env', Pv i env' → ∃ l, A x = some l ∧ (l.all fun q => Nat.blt q.1 env'.length) = true ∧ WS X g body (putsE env' l) (P.turn (Pv (i + 1)))
theorem for_turn {F1 : Hp} {Pv : Nat → List Sl → Prop} {i : Nat} {x : PyData} {v : V} (tk : Takes X W) (hx2 : XOk X g P W) (hD : DOk X g F1 P D) (htd : TGd X.K t A) (hv : Dq X.K F1 v x) (hJ : FJ X.K g F1 Pv i σ H) (h : FT X g body A P Pv i x) :
    t v σ H fun σ2 H2 => semS X body { D with nx := FJ X.K g F1 Pv (i + 1), ct := FJ X.K g F1 Pv (i + 1), bk := D.nx } σ2 H2 := by
  obtain ⟨F, env', s1, e1, hp⟩ := hJ
  obtain ⟨l, hA, hl, hw⟩ := h env' hp
  refine htd x l σ F H v _ hA s1.ex (dp_mono e1 _ _ hv) fun r sr => ?_
  have s2 := s1.sets sr fun q hq => ltB (List.all_eq_true.mp hl q hq)
  exact hw W tk hx2 _ F H s2 _ ⟨fun e2 σ' F' H' q s' ex => ⟨F', e2, s', e1.trans ex, q⟩, hD.rt, fun e2 σ' F' H' q s' ex => hD.nx e2 σ' F' H' q s' (e1.trans ex), fun e2 σ' F' H' q s' ex => ⟨F', e2, s', e1.trans ex, q⟩⟩
theorem w1_forL (hp : PassesOwn (model X.prog X.w) X.A X.env X.xe) (hc : X.calm = true) (hpg : PG X tg t) (htd : TGd X.K t A)
    (hi : WE X g iter env (fun d z => z = true ∧ ∃ (xs : List PyData) (Pv : Nat → List Sl → Prop), d = .list xs ∧ Pv 0 env ∧ (∀ i x, xs[i]? = some x → FT X g body A P Pv i x) ∧ ∀ e, Pv xs.length e → P.nx e) (fun c => P.ex c env))
    (hs : ∀ x, foldedSetIterable iter X.env x = pure x := by intro _; rfl) : W1 X g (.For tg iter body [] pos) env P := fun W tk hx2 σ F H s0 D hD => by
  refine semP_of (ps_for hp hc (pi_list (peS iter)) hpg (pssS body) hs) ?_
  refine hi W tk σ F H s0 (hx2.hx env σ) _ fun d z v F1 H1 ⟨hz, xs, Pv, hd, p0, pt, pe⟩ s1 e1 rd => ?_
  subst hz hd
  obtain ⟨a, vs, rfl, hsq, hda⟩ := dp_lst rd
  refine ⟨a, rfl, ⟨vs, ex_l s1.ex hsq⟩, ?_⟩
  refine for_list (xs := vs) (FJ X.K g F1 Pv) ⟨F1, env, s1, Ex.refl F1, p0⟩ (fun i σ' H' _ ⟨F2, e2, s2, ex2, _⟩ => ex_l s2.ex (ex_l ex2 hsq)) (fun i x σ' H' hx hJ => ?_) (fun σ' H' ⟨F2, e2, s2, ex2, hp2⟩ => ?_)
  · obtain ⟨d, hd1, hd2⟩ := dpa_of hda hx
    exact for_turn tk hx2 (hD.mono e1) htd hd2 hJ (pt i d hd1)
  · rw [dpa_len hda] at hp2
    exact hD.nx e2 σ' F2 H' (pe e2 hp2) s2 (e1.trans ex2)
end
/-- while: a word with a number that falls -/
theorem w1_while (hp : PassesOwn (model X.prog X.w) X.A X.env X.xe) (Pv : Nat → List Sl → Prop) (m0 : Nat) (h0 : Pv m0 env)
    (h : ∀ m env', Pv m env' → WT X g c env' (fun k => (k = true → WS X g body env' (P.turn fun e => ∃ m', m' < m ∧ Pv m' e)) ∧ (k = false → P.nx env')) (fun c => P.ex c env')) : W1 X g (.While c body [] pos) env P := fun W tk hx2 σ F H s0 D hD => by
  refine semP_of (ps_while hp (ptS c) (pssS body)) ?_
  refine ⟨fun m σ' H' => FJ X.K g F (fun _ e => Pv m e) 0 σ' H', ⟨m0, F, env, s0, Ex.refl F, h0⟩, fun m σ' H' ⟨F1, e1, s1, ex1, hp1⟩ => ?_⟩
  refine h m e1 hp1 W tk σ' F1 H' s1 (hx2.hx e1 σ') _ fun k F2 H2 ⟨ht, hf⟩ s2 ex2 => ?_
  cases k with
  | true =>
    rw [if_pos rfl]
    refine ⟨fun σ3 H3 => ∃ m', m' < m ∧ FJ X.K g F (fun _ e => Pv m' e) 0 σ3 H3, fun σ3 H3 ⟨m', hm, q⟩ => ⟨m', hm, q⟩, ?_⟩
    exact ht rfl W tk hx2 σ' F2 H2 s2 _ ⟨fun e3 σ3 F3 H3 ⟨m', hm, q⟩ s3 ex3 => ⟨m', hm, F3, e3, s3, (ex1.trans ex2).trans ex3, q⟩, hD.rt, fun e3 σ3 F3 H3 q s3 ex3 => hD.nx e3 σ3 F3 H3 q s3 ((ex1.trans ex2).trans ex3), fun e3 σ3 F3 H3 ⟨m', hm, q⟩ s3 ex3 => ⟨m', hm, F3, e3, s3, (ex1.trans ex2).trans ex3, q⟩⟩
  | false =>
    rw [if_neg Bool.false_ne_true]
    exact hD.nx e1 σ' F2 H2 (hf rfl) s2 (ex1.trans ex2)
end
end TL
namespace TL
open PySem PySem.Spec PyProof.Rows L2
def BackS : Sl → Sl → Sl → Prop
  | .un, _, s' => s' = .un
  | .d x, _, s' => s' = .d x
  | .v x, _, s' => s' = .v x
  | .ol a _, .ol b ds', s' => b = a ∧ s' = .ol a ds'
  | .bg a, .bg b, s' => b = a ∧ s' = .bg a
  | .bg a, .ol b ds, s' => b = a ∧ BagD ds ∧ s' = .bg a
  | .dt a _, .dt b kvs, s' => b = a ∧ s' = .dt a kvs
  | .dk a _, .dk b kvs, s' => b = a ∧ s' = .dk a kvs
  | .ow t, .ow u, s' => u.id = t.id ∧ s' = .ow u
  | _, _, _ => False
def Back : List Sl → List Sl → List Sl → Prop
  | [], _, r => r = []
  | s :: r, e :: env, s' :: r' => BackS s e s' ∧ Back r env r'
  | _, _, _ => False
theorem backS_sub {s e s' : Sl} (h : BackS s e s') : ∀ a ∈ s'.fp, a ∈ e.fp := by
  cases s with
  | un => rw [show s' = _ from h]; intro a z; cases z
  | d x => rw [show s' = _ from h]; intro a z; cases z
  | v x => rw [show s' = _ from h]; intro a z; cases z
  | ol a ds => cases e <;> first | exact h.elim | (obtain ⟨rfl, rfl⟩ := h; exact fun _ z => z)
  | bg a => cases e <;> first | exact h.elim | (obtain ⟨rfl, rfl⟩ := h; exact fun _ z => z) | (obtain ⟨rfl, _, rfl⟩ := h; exact fun _ z => z)
  | dt a ds => cases e <;> first | exact h.elim | (obtain ⟨rfl, rfl⟩ := h; exact fun _ z => z)
  | dk a ds => cases e <;> first | exact h.elim | (obtain ⟨rfl, rfl⟩ := h; exact fun _ z => z)
  | oo a ds => cases e <;> exact h.elim
  | fv l => cases e <;> exact h.elim
  | fl l => cases e <;> exact h.elim
  | ow t => cases e <;> first | exact h.elim | (obtain ⟨_, rfl⟩ := h; exact fun _ z => z)
theorem backS_val {K : Frag} {F F' H H' : Hp} {o o' : Option V} {s e s' : Sl} (h : BackS s e s') (hne : e.fp ≠ []) (hs : s'.fp ≠ []) (h0 : SlOk K F H o s) (h1 : SlOk K F' H' o' e) : o = o' := by
  cases s with
  | un => rw [show s' = _ from h] at hs; exact absurd rfl hs
  | d x => rw [show s' = _ from h] at hs; exact absurd rfl hs
  | v x => rw [show s' = _ from h] at hs; exact absurd rfl hs
  | ol a ds => cases e <;> first | exact h.elim | exact h0.1.trans (by rw [h1.1, h.1])
  | bg a => cases e <;> first | exact h.elim | exact h0.1.trans (by rw [h1.1, h.1])
  | dt a ds => cases e <;> first | exact h.elim | exact h0.1.trans (by rw [h1.1, h.1])
  | dk a ds => cases e <;> first | exact h.elim | exact h0.1.trans (by rw [h1.1, h.1])
  | oo a ds => cases e <;> exact h.elim
  | fv l => cases e <;> exact h.elim
  | fl l => cases e <;> exact h.elim
  | ow t => cases e <;> first
      | exact h.elim
      | (obtain ⟨v, q1, q2⟩ := h0; obtain ⟨w, q3, q4⟩ := h1; rw [q1, q3, t.isr q2, OwT.isr _ q4, h.1])
theorem back_len : ∀ {args env args' : List Sl}, Back args env args' → args'.length = args.length
  | [], _, _, h => by rw [show _ = [] from h]
  | s :: r, e :: env, s' :: r', h => congrArg Nat.succ (back_len h.2)
  | _ :: _, [], _, h => h.elim
  | _ :: _, _ :: _, [], h => h.elim
theorem back_get : ∀ {args env args' : List Sl} {i : Nat} {s' : Sl}, Back args env args' → args'[i]? = some s' → ∃ s e, args[i]? = some s ∧ env[i]? = some e ∧ BackS s e s'
  | [], _, _, i, s', h, e => by rw [show _ = [] from h] at e; simp at e
  | s :: r, e :: env, t :: r', 0, s', h, q => by
    have e' := Option.some.inj q
    subst e'
    exact ⟨s, e, rfl, rfl, h.1⟩
  | s :: r, e :: env, t :: r', i + 1, s', h, q => back_get (i := i) h.2 q
  | _ :: _, [], _, _, _, h, _ => h.elim
  | _ :: _, _ :: _, [], _, _, h, _ => h.elim
theorem slok_back {K : Frag} {F F' H H' : Hp} {o o' : Option V} {s e s' : Sl} (h : BackS s e s') (e0 : Ex F F') (h0 : SlOk K F H o s) (h1 : SlOk K F' H' o' e) : SlOk K F' H' o s' := by
  cases s with
  | un => rw [show s' = .un from h]; trivial
  | d x => rw [show s' = .d x from h]; obtain ⟨v, q1, q2⟩ := h0; exact ⟨v, q1, dp_mono e0 _ _ q2⟩
  | v x => rw [show s' = .v x from h]; exact h0
  | ol a ds =>
    cases e <;> first
      | exact h.elim
      | (obtain ⟨rfl, rfl⟩ := h; exact ⟨h0.1, h1.2⟩)
  | bg a =>
    cases e <;> first
      | exact h.elim
      | (obtain ⟨rfl, rfl⟩ := h; exact ⟨h0.1, h1.2⟩)
      | (obtain ⟨rfl, hb, rfl⟩ := h; obtain ⟨_, vs, q1, q2⟩ := h1; exact ⟨h0.1, _, vs, hb, q1, q2⟩)
  | dt a ds =>
    cases e <;> first
      | exact h.elim
      | (obtain ⟨rfl, rfl⟩ := h; exact ⟨h0.1, h1.2⟩)
  | dk a ds =>
    cases e <;> first
      | exact h.elim
      | (obtain ⟨rfl, rfl⟩ := h; exact ⟨h0.1, h1.2⟩)
  | oo a ds => cases e <;> exact h.elim
  | fv l => cases e <;> exact h.elim
  | fl l => cases e <;> exact h.elim
  | ow t =>
    cases e <;> first
      | exact h.elim
      | (obtain ⟨hi, rfl⟩ := h
         obtain ⟨v, q1, q2⟩ := h0
         obtain ⟨w, q3, q4⟩ := h1
         have e1 := t.isr q2
         have e2 := OwT.isr _ q4
         rw [hi, ← e1] at e2
         subst e2
         exact ⟨w, q1, q4⟩)
def prIx (args args' : List Sl) : PR → Prop
  | .ar i => i < args.length ∧ ∀ s', args'[i]? = some s' → s'.fp ≠ []
  | _ => True
/-- what a body is to reach -/
def endOf (args : List Sl) (Φ : PR → List Sl → Prop) (Ψ : Exc → List Sl → Prop) : Po where
  nx := fun env' => ∃ args', Φ (.rd .none) args' ∧ Back args env' args'
  rt := fun r env' => ∃ args', Φ r args' ∧ prIx args args' r ∧ Back args env' args'
  ex := fun c env' => ∃ args', Ψ c args' ∧ Back args env' args'
theorem pad_get {args : List Sl} {n i : Nat} {s : Sl} (h : (args ++ List.replicate n .un)[i]? = some s) : args[i]? = some s ∨ s = .un := by
  by_cases hi : i < args.length
  · rw [List.getElem?_append_left hi] at h; exact .inl h
  · rw [List.getElem?_append_right (by omega)] at h
    rw [List.getElem?_replicate] at h
    split at h
    · exact .inr (Option.some.inj h).symm
    · cases h
theorem Sk.pad {K : Frag} {F H : Hp} {vs : List V} {args : List Sl} {N : List Str} (sk : Sk K F H (vs.map some) args) (hl : vs.length ≤ N.length) : Sk K F H (L2.start N vs) (args ++ List.replicate (N.length - vs.length) .un) := by
  have hlen : args.length = vs.length := by have := sk.len; rw [List.length_map] at this; exact this.symm
  have ow : ∀ a, Own (args ++ List.replicate (N.length - vs.length) .un) a → Own args a := fun a ⟨i, s, h1, h2⟩ => by
    rcases pad_get h1 with q | q
    · exact ⟨i, s, q, h2⟩
    · subst q; cases h2
  refine ⟨by unfold L2.start; simp only [List.length_append, List.length_map, List.length_replicate]; omega, fun i s h => ?_, fun i j s t a h1 h2 h3 h4 => ?_, fun a h => sk.fr a (ow a h), sk.ex, sk.tf, sk.tk⟩
  · rcases pad_get h with q | q
    · have hi : i < (vs.map some).length := by rw [List.length_map, ← hlen]; exact (List.getElem?_eq_some_iff.mp q).1
      have e : (L2.start N vs)[i]? = (vs.map some)[i]? := by unfold L2.start; rw [List.getElem?_append_left hi]
      rw [e]; exact sk.sl i s q
    · subst q; trivial
  · rcases pad_get h1 with q | q
    · rcases pad_get h2 with q2 | q2
      · exact sk.nd i j s t a q q2 h3 h4
      · subst q2; cases h4
    · subst q; cases h3
section
variable {P : Program} {w : World} {K : Frag} {mg : Str → Option Value} {base : Heap} {f : Addr} {fd : FuncData} {N ps : List Str} {k : Nat} {S : CT}
theorem fn_okL {x : Str} {st : Stmt} {dvs : List V} {kws : List (Str × V)} (F : FunD K x x (defArgs st) (defBody st) (defScope st) dvs kws f fd) (sc : FnScope N ps (defScope st)) (hln : Nat.ble ps.length N.length = true)
    (body : ∀ (cdv : Value) (A : Around) (outer : List Env) (s : Shared) (H : Hp) (E : XK) (g : G) (args : List Sl) (Φ : PR → List Sl → Prop) (Ψ : Exc → List Sl → Prop),
      Room k (cxOf (L2.CX P w) P w K mg base N x (defScope st) f cdv A outer s H E).A →
      PassesOwn (model P w) (cxOf (L2.CX P w) P w K mg base N x (defScope st) f cdv A outer s H E).A (cxOf (L2.CX P w) P w K mg base N x (defScope st) f cdv A outer s H E).env (cxOf (L2.CX P w) P w K mg base N x (defScope st) f cdv A outer s H E).xe →
      g.M = fps args → args.length = ps.length → S args Φ Ψ →
      fd.code = cdv → WS (cxOf (L2.CX P w) P w K mg base N x (defScope st) f cdv A outer s H E) g (defBody st) (args ++ List.replicate (N.length - ps.length) .un) (endOf args Φ Ψ)) : FnOk P w K mg base (L2.CX P w) (k + 1) f fd ps (spOf K ps.length S) := by
  obtain ⟨oc, od, dV, kV, doc, pm, an, cdv, ct, osl, rfl, lk, hcd, _, _⟩ := F.ex
  refine fn_of lk hcd sc (fun vs H Q E h => h.1) fun A outer s H vs Q E hr h => ?_
  obtain ⟨hvl, F0, args, Φ, Ψ, hS, sk, hret, hexc⟩ := h
  have hal : args.length = ps.length := by have := sk.len; rw [List.length_map] at this; omega
  have hln' : ps.length ≤ N.length := Nat.le_of_ble_eq_true hln
  refine ⟨semS _ _, pssS _, ?_⟩
  have skp := sk.pad (N := N) (by omega)
  rw [hvl] at skp
  have fpe : ∀ a, a ∈ fps args ↔ Own args a := fun a => own_fps.symm
  have st0 : St K ⟨F0, H, fps args⟩ F0 H (L2.start N vs) (args ++ List.replicate (N.length - ps.length) .un) :=
    { skp with
      gt := ⟨fun a ps h => (by show H a ≠ none; rw [show H a = _ from h]; intro z; cases z), fun p hp z => (by obtain ⟨ps, h1, _⟩ := sk.tk.tb p hp; have z : H p.1 = none := z; rw [h1] at z; cases z)⟩
      g1 := fun _ _ h _ _ => h, g3 := Ex.refl F0, g4 := fun a h => .inl h
      g2 := fun a ⟨i, s, h1, h2⟩ => by
        rcases pad_get h1 with q | q
        · exact .inr ((fpe a).mpr ⟨i, s, q, h2⟩)
        · subst q; cases h2
      g5 := fun a h => sk.there ((fpe a).mp h)
      g6 := fun a h => sk.there ((fpe a).mp h) }
  -- what holds at every end
  have fin : ∀ {F' H' : Hp} {σ' : SS} {env' args' : List Sl}, St K ⟨F0, H, fps args⟩ F' H' σ' env' → Back args env' args' →
      Sk K F' H' (vs.map some) args' ∧ Step F0 H args F' H' ∧ (∀ a, Own args' a → Own args a ∨ H a = none) ∧ ∀ a, Own args' a → Own env' a := fun {F' H' σ' env' args'} s' hbk => by
    have sub : ∀ a, Own args' a → (Own args a ∨ H a = none) ∧ Own env' a := fun a ⟨i, t, h1, h2⟩ => by
      obtain ⟨s, e, q1, q2, q3⟩ := back_get hbk h1
      have oe : Own env' a := ⟨i, e, q2, backS_sub q3 a h2⟩
      refine ⟨?_, oe⟩
      rcases s'.g2 a oe with z | z
      · exact .inr z
      · exact .inl ((fpe a).mp z)
    refine ⟨⟨by rw [List.length_map, back_len hbk]; omega, fun i t h => ?_, fun i j s t a h1 h2 h3 h4 => ?_, fun a h => s'.fr a (sub a h).2, s'.ex, s'.tf, s'.tk⟩, ⟨s'.g3, fun a o h hn n => s'.g1 a o h (fun m => hn ((fpe a).mp m)) n, fun a h => s'.g4 a h, fun a h => ?_⟩, fun a h => (sub a h).1, fun a h => (sub a h).2⟩
    · obtain ⟨s, e, q1, q2, q3⟩ := back_get hbk h
      exact slok_back q3 s'.g3 (sk.sl i s q1) (s'.sl i e q2)
    · obtain ⟨s1, e1, _, q2, q3⟩ := back_get hbk h1
      obtain ⟨s2, e2, _, q5, q6⟩ := back_get hbk h2
      exact s'.nd i j e1 e2 a q2 q5 (backS_sub q3 a h3) (backS_sub q6 a h4)
    · intro z
      by_cases m : a ∈ fps args
      · exact s'.g5 a m z
      · cases q : H a with
        | none => exact h q
        | some u =>
          by_cases ht : ∃ ps, u = .tbl ps
          · obtain ⟨ps, rfl⟩ := ht; exact s'.gt.g7 a ps q z
          · rw [s'.g1 a u q m fun ps y => ht ⟨ps, y⟩] at z; cases z
  have hb0 := body cdv A outer s H E ⟨F0, H, fps args⟩ args Φ Ψ hr (passes_of rfl) rfl hal hS rfl
  refine hb0 (fun cls d _ H => E cls d H) (takes_of rfl rfl rfl rfl) (fun c env' σ' F' H' ⟨args', hp, hbk⟩ s' => ?_) (L2.start N vs) F0 H st0 _ ⟨fun env' σ' F' H' ⟨args', hp, hbk⟩ s' e' => ?_, fun r v env' σ' F' H' ⟨args', hp, hix, hbk⟩ s' ro => ?_, fun _ _ _ _ h => h.elim, fun _ _ _ _ h => h.elim⟩
  · obtain ⟨h1, h2, h3, h4⟩ := fin s' hbk
    have := hexc c args' F' H' hp h1 h2 h3
    cases c
    exact this
  · obtain ⟨h1, h2, h3, h4⟩ := fin s' hbk
    exact hret (.rd .none) .non args' F' H' hp h1 h2 h3 .non
  · obtain ⟨h1, h2, h3, h4⟩ := fin s' hbk
    refine hret r v args' F' H' hp h1 h2 h3 ?_
    cases r with
    | rd d => exact ro
    | nl ds =>
      obtain ⟨p, xs, q1, q2, q3, q4, q5, q6⟩ := ro
      exact ⟨p, xs, q1, q2, q3, q4, q6, fun z => q5 (h4 p z)⟩
    | nt ds =>
      obtain ⟨p, xs, q1, q2, q3, q4, q5, q6⟩ := ro
      exact ⟨p, xs, q1, q2, q3, q4, q6, fun z => q5 (h4 p z)⟩
    | nk ds =>
      obtain ⟨p, xs, q1, q2, q3, q4, q5, q6⟩ := ro
      exact ⟨p, xs, q1, q2, q3, q4, q6, fun z => q5 (h4 p z)⟩
    | sl C =>
      obtain ⟨t, c1, c2, c3⟩ := ro
      exact ⟨t, c1, c2, fun p hp => by obtain ⟨y1, y2, y3⟩ := c3 p hp; exact ⟨y1, y3, fun z => y2 (h4 p z)⟩⟩
    | ar i =>
      obtain ⟨q1, e, q2, q3⟩ := ro
      obtain ⟨hi, hown⟩ : i < args.length ∧ ∀ s', args'[i]? = some s' → s'.fp ≠ [] := hix
      have hi' : i < args'.length := by rw [back_len hbk]; exact hi
      obtain ⟨s0, e0, q4, q5, q6⟩ := back_get hbk (List.getElem?_eq_getElem hi')
      rw [q2] at q5
      have q5' := Option.some.inj q5
      subst q5'
      have k2 := s'.sl i e q2
      rw [q1] at k2
      show vs[i]? = some v
      have hv : i < vs.length := by omega
      have k1 := sk.sl i s0 q4
      have ev : ((vs.map some)[i]?.getD none : Option V) = some vs[i] := vmap_get (List.getElem?_eq_getElem hv)
      rw [ev] at k1
      have z := backS_val q6 q3 (hown _ (List.getElem?_eq_getElem hi')) k1 k2
      rw [List.getElem?_eq_getElem hv]
      exact z
theorem fn_ok {x : Str} {st : Stmt} {dvs : List V} {kws : List (Str × V)} (F : FunD K x x (defArgs st) (defBody st) (defScope st) dvs kws f fd) (sc : FnScope N ps (defScope st)) (hln : Nat.ble ps.length N.length = true)
    (body : ∀ (cdv : Value) (A : Around) (outer : List Env) (s : Shared) (H : Hp) (E : XK) (g : G) (args : List Sl) (Φ : PR → List Sl → Prop) (Ψ : Exc → List Sl → Prop),
      Room k (cxOf (L2.CX P w) P w K mg base N x (defScope st) f cdv A outer s H E).A →
      PassesOwn (model P w) (cxOf (L2.CX P w) P w K mg base N x (defScope st) f cdv A outer s H E).A (cxOf (L2.CX P w) P w K mg base N x (defScope st) f cdv A outer s H E).env (cxOf (L2.CX P w) P w K mg base N x (defScope st) f cdv A outer s H E).xe →
      g.M = fps args → args.length = ps.length → S args Φ Ψ →
      WS (cxOf (L2.CX P w) P w K mg base N x (defScope st) f cdv A outer s H E) g (defBody st) (args ++ List.replicate (N.length - ps.length) .un) (endOf args Φ Ψ)) : FnOk P w K mg base (L2.CX P w) (k + 1) f fd ps (spOf K ps.length S) :=
  fn_okL F sc hln fun cdv A outer s H E g args Φ Ψ h1 h2 h3 h4 h5 _ => body cdv A outer s H E g args Φ Ψ h1 h2 h3 h4 h5
theorem fn_hasL {x : Str} {st : Stmt} {dvs : List V} {kws : List (Str × V)} (F : FunD K x x (defArgs st) (defBody st) (defScope st) dvs kws f fd) (hm : mg x = some (.ref f)) (sc : FnScope N ps (defScope st)) (hb : Binds K fd ps []) (hln : Nat.ble ps.length N.length = true)
    (body : ∀ (cdv : Value) (A : Around) (outer : List Env) (s : Shared) (H : Hp) (E : XK) (g : G) (args : List Sl) (Φ : PR → List Sl → Prop) (Ψ : Exc → List Sl → Prop),
      Room k (cxOf (L2.CX P w) P w K mg base N x (defScope st) f cdv A outer s H E).A →
      PassesOwn (model P w) (cxOf (L2.CX P w) P w K mg base N x (defScope st) f cdv A outer s H E).A (cxOf (L2.CX P w) P w K mg base N x (defScope st) f cdv A outer s H E).env (cxOf (L2.CX P w) P w K mg base N x (defScope st) f cdv A outer s H E).xe →
      g.M = fps args → args.length = ps.length → S args Φ Ψ → fd.code = cdv →
      WS (cxOf (L2.CX P w) P w K mg base N x (defScope st) f cdv A outer s H E) g (defBody st) (args ++ List.replicate (N.length - ps.length) .un) (endOf args Φ Ψ)) : Has P w K mg base (k + 1) x ps S := ⟨f, fd, hm, F.kp, hb, fn_okL F sc hln body⟩
theorem fn_has {x : Str} {st : Stmt} {dvs : List V} {kws : List (Str × V)} (F : FunD K x x (defArgs st) (defBody st) (defScope st) dvs kws f fd) (hm : mg x = some (.ref f)) (sc : FnScope N ps (defScope st)) (hb : Binds K fd ps []) (hln : Nat.ble ps.length N.length = true)
    (body : ∀ (cdv : Value) (A : Around) (outer : List Env) (s : Shared) (H : Hp) (E : XK) (g : G) (args : List Sl) (Φ : PR → List Sl → Prop) (Ψ : Exc → List Sl → Prop),
      Room k (cxOf (L2.CX P w) P w K mg base N x (defScope st) f cdv A outer s H E).A →
      PassesOwn (model P w) (cxOf (L2.CX P w) P w K mg base N x (defScope st) f cdv A outer s H E).A (cxOf (L2.CX P w) P w K mg base N x (defScope st) f cdv A outer s H E).env (cxOf (L2.CX P w) P w K mg base N x (defScope st) f cdv A outer s H E).xe →
      g.M = fps args → args.length = ps.length → S args Φ Ψ →
      WS (cxOf (L2.CX P w) P w K mg base N x (defScope st) f cdv A outer s H E) g (defBody st) (args ++ List.replicate (N.length - ps.length) .un) (endOf args Φ Ψ)) : Has P w K mg base (k + 1) x ps S := ⟨f, fd, hm, F.kp, hb, fn_ok F sc hln body⟩
end
def ExM (K : Frag) : Exc → Str → Option Bool
  | .own m, n => PySem.W.exmOne K (.ref (He.ga K m)) (.ref (He.ga K n))
/-- what the clauses do with an exception -/
def TryH (X : Cx) (g : G) (P : Po) : List (Str × List Stmt) → Exc → List Sl → Prop
  | [], c, env' => P.ex c env'
  | (n, suite) :: r, c, env' => ∃ b, ExM X.K c n = some b ∧ (b = true → ∀ (a : Addr) (q : Addr × Obj) (pn : List (Addr × Obj)), WS (X.suite a (q :: pn)) g suite env' (P.exn fun _ _ => False)) ∧ (b = false → TryH X g P r c env')
inductive HdR (X : Cx) : List ExceptHandler → List (Str × List Stmt) → Prop
  | nil : HdR X [] []
  | cons {x : Str} {b₀ : Stmt} {suite : List Stmt} {np pos' : Pos} {hds : List ExceptHandler} {l : List (Str × List Stmt)} (hc : Names X x (.ref (He.ga X.K x))) (r : HdR X hds l) :
      HdR X (.ExceptHandler (some (.Name x np)) none (b₀ :: suite) pos' :: hds) ((x, b₀ :: suite) :: l)
section
variable {X : Cx} {g : G} {env env' : List Sl} {P : Po} {pos p : Pos} {body : List Stmt} {F F' H H' : Hp} {σ σ' : SS} {D : Ends} {W : WX}
def tsOf (X : Cx) (suite : List Stmt) (a : Addr) (cls : Value) (d : Option Addr) : TS := fun D σ H => ∀ (oe : Obj) (pn : List (Addr × Obj)), semS (X.suite a ((a, oe) :: pn)) suite D σ H
def hdL (X : Cx) : List (Str × List Stmt) → List (Value × (Addr → Value → Option Addr → TS))
  | [] => []
  | (n, suite) :: r => (.ref (He.ga X.K n), tsOf X suite) :: hdL X r
theorem hdr_ok : ∀ {hds : List ExceptHandler} {l : List (Str × List Stmt)}, HdR X hds l → HdsOk X hds (hdL X l)
  | _, _, .nil => .nil
  | _, _, .cons hc r => .cons hc (fun a oe cls d pn _ _ => ⟨fun pins s σ H D I h => (h oe pn).run pins s I⟩) (hdr_ok r)
theorem tryh_run {F1 : Hp} (hx2 : XOk X g P W) (hD : DOk X g F1 P D) : ∀ {l : List (Str × List Stmt)} {c : Exc} {env' : List Sl} {σ' : SS} {F' H' : Hp}, TryH X g P l c env' → St X.K g F' H' σ' env' → Ex F1 F' → ExcW X.K (wMany X.K W D (hdL X l)) σ' H' c
  | [], c, env', σ', F', H', h, s', e' => by
    have := hx2 c env' σ' F' H' h s'
    cases c
    exact this
  | (n, suite) :: r, c, env', σ', F', H', ⟨b, h1, h2, h3⟩, s', e' => by
    cases c with
    | own m =>
      refine ⟨b, h1, fun hb a ha oe pn => ?_, fun hb => tryh_run hx2 hD (h3 hb) s' e'⟩
      refine h2 hb a (a, oe) pn (fun _ _ _ _ => False) (fun _ _ x => by obtain ⟨_, _, _, _, _, _, _, _, _, _, _, _, _, _, _, _, z⟩ := x; exact z.elim) (fun _ _ _ _ _ z => z.elim) σ' F' H' s' D ?_
      exact ⟨fun e2 σ2 F2 H2 q s2 ex2 => hD.nx e2 σ2 F2 H2 q s2 (e'.trans ex2), hD.rt, fun e2 σ2 F2 H2 q s2 ex2 => hD.bk e2 σ2 F2 H2 q s2 (e'.trans ex2), fun e2 σ2 F2 H2 q s2 ex2 => hD.ct e2 σ2 F2 H2 q s2 (e'.trans ex2)⟩
theorem St.at {K : Frag} (st : St K g F H σ env) : St K { g with F0 := F } F H σ env :=
  { st.toSk with gt := ⟨st.gt.g7, st.gt.g8⟩, g1 := st.g1, g2 := st.g2, g3 := Ex.refl F, g4 := fun a h => .inl h, g5 := st.g5, g6 := st.g6 }
theorem St.ofAt {K : Frag} (st : St K g F H σ env) (s' : St K { g with F0 := F } F' H' σ' env') : St K g F' H' σ' env' :=
  { s'.toSk with gt := ⟨s'.gt.g7, s'.gt.g8⟩, g1 := s'.g1, g2 := s'.g2, g3 := st.g3.trans s'.g3, g5 := s'.g5, g6 := s'.g6
                 g4 := fun a h => by
                   rcases s'.g4 a h with q | q
                   · exact st.g4 a q
                   · exact .inr q }
/-- try: body, several clauses -/
theorem w1_try {h₀ : ExceptHandler} {hds : List ExceptHandler} {l : List (Str × List Stmt)} (hr : HdR X (h₀ :: hds) l)
    (h : ∀ (pn : List (Addr × Obj)) (xe : Value → Shared → Prop) (F : Hp), PassesOwn (model X.prog X.w) X.A X.env xe → WS (X.tr pn xe) { g with F0 := F } body env (P.exn (TryH X g P l)))
    (hs : X.stack = X.env :: X.outer := by rfl) (hf : X.env.frame = some X.env.locals := by rfl) : W1 X g (.Try body (h₀ :: hds) [] [] pos) env P := fun W tk hx2 σ F H s0 D hD => by
  refine semP_of (ps_try_many (tb := fun W' => fun D' σ' H' => ∀ (pn : List (Addr × Obj)) (xe : Value → Shared → Prop), Takes (X.tr pn xe) W' → PassesOwn (model X.prog X.w) X.A X.env xe → semS (X.tr pn xe) body D' σ' H') hs hf tk
    (fun W' pn xe tk' po => ⟨fun pins s σ H D I h => (h pn xe tk' po).run pins s I⟩) (hdr_ok hr)) ?_
  intro pn xe tk' po
  refine h pn xe F po _ tk' (fun c env' σ' F' H' hc s' => ?_) σ F H s0.at D ⟨fun e σ' F' H' q s' ex => hD.nx e σ' F' H' q (s0.ofAt s') ex, fun r v e σ' F' H' q s' ro => hD.rt r v e σ' F' H' q (s0.ofAt s') ?_, fun e σ' F' H' q s' ex => hD.bk e σ' F' H' q (s0.ofAt s') ex, fun e σ' F' H' q s' ex => hD.ct e σ' F' H' q (s0.ofAt s') ex⟩
  · exact tryh_run hx2 hD hc (s0.ofAt s') s'.g3
  · cases r <;> exact ro
end
def cLaw : CT := fun args Φ Ψ => ∃ ns : List Int, args = [.d (.list (ns.map .int))] ∧ ns.length ≤ 63 ∧ Φ (.rd (.bool true)) args
def noTb (H : Hp) : Hp := fun b => match H b with
  | some (.tbl _) => none
  | o => o
theorem noTb_of {H : Hp} {b : Addr} {u : HO} (h : H b = some u) (n : ntb u) : noTb H b = some u := by
  unfold noTb
  split
  · rename_i ps e; rw [h] at e; exact absurd (Option.some.inj e) (n ps)
  · exact h
theorem noTb_to {H : Hp} {b : Addr} {u : HO} (h : noTb H b = some u) : H b = some u ∧ ntb u := by
  unfold noTb at h
  split at h
  · cases h
  · rename_i e
    exact ⟨h, fun ps z => e ps (by rw [h, z])⟩
theorem noTb_sql {K : Frag} {H : Hp} {a : Addr} {xs : List V} (h : SqL K H a xs) : SqL K (noTb H) a xs := by
  rcases h with (h | ⟨o, h⟩) | h
  · exact .inl (.inl (noTb_of h fun _ z => by cases z))
  · exact .inl (.inr ⟨o, noTb_of h fun _ z => by cases z⟩)
  · exact .inr h
theorem law_sp {K : Frag} {H : Hp} {a : Addr} {ns : List Int} (hl : ns.length ≤ 63) (hT : ∀ p ∈ tabsK K, H p.1 = some (.tbl #[])) (hS : SqL K H a (ns.map V.int)) : spOf K 1 cLaw [.ref a] H (fun v _ => v = .bl true) (fun _ _ _ => False) := by
  refine ⟨rfl, noTb H, [.d (.list (ns.map .int))], fun r args' => r = .rd (.bool true), fun _ _ => False, ⟨ns, rfl, hl, rfl⟩, ⟨rfl, fun i s h => ?_, fun i j s t b h1 h2 h3 h4 => ?_, fun b ⟨i, s, h1, h2⟩ => ?_, fun b u z => (noTb_to z).1, fun b vs h => noTb_of h (fun _ z => by cases z), ⟨fun b ps z => (noTb_to z).2 ps rfl, fun p hp => ⟨#[], hT p hp, trivial, fun pos cv hc => ?_⟩⟩⟩, fun r v args' F' H' hp _ _ _ pr => ?_, fun c _ _ _ hp _ _ _ => hp.elim⟩
  · match i, h with
    | 0, h =>
      have e := Option.some.inj h
      subst e
      exact ⟨.ref a, rfl, .lst (noTb_sql hS) (dpa_ints ns)⟩
    | i + 1, h => simp at h
  · match i, h1 with
    | 0, h1 =>
      have e := Option.some.inj h1
      subst e
      cases h3
    | i + 1, h => simp at h
  · match i, h1 with
    | 0, h1 =>
      have e := Option.some.inj h1
      subst e
      cases h2
    | i + 1, h => simp at h
  · have z : codeAmong pos [] = some cv := hc
    simp [codeAmong] at z
  · subst hp
    exact dp_bl pr
end TL
namespace TL
open PySem PySem.Spec PyProof.Rows L2
section
variable {X : Cx} {g : G} {env env' : List Sl} {Ψ : Exc → Prop} {P : Po} {pos p : Pos} {a b c e : Expr} {es : List Expr} {rest : List Stmt} {K : Frag} {F F' H H' : Hp} {σ σ' : SS}
/-- a statement, what holds behind it, the rest -/
theorem ws_mid {st : Stmt} (M : List Sl → Prop) (h1 : W1 X g st env (P.thn M)) (h2 : ∀ e, M e → WS X g rest e P) : WS X g (st :: rest) env P := fun W tk hx σ F H s0 D hD => by
  refine semS_of (pss_cons (psP st) (pssS rest)) ?_
  refine h1 W tk hx σ F H s0 _ ⟨fun env' σ' F' H' hw s' e' => ?_, hD.rt, hD.bk, hD.ct⟩
  exact h2 env' hw W tk hx σ' F' H' s' D (hD.mono e')
theorem ws_close (i : Nat) {al : Addr} {ds : List PyData} (he : env[i]? = some (.ol al ds)) (hb : BagD ds) (h : WS X g rest (env.set i (.bg al)) P) : WS X g rest env P := fun W tk hx σ F H st D hD =>
  h W tk hx σ F H (st.weak he (fun a m => m) fun ⟨h1, vs, h2, h3⟩ => ⟨h1, ds, vs, hb, h2, h3⟩) D hD
theorem ws_open (i : Nat) {al : Addr} (he : env[i]? = some (.bg al)) (h : ∀ (cells : List Int) (j s t : Int), (∀ c ∈ cells, (0 : Int) ≤ c) → 0 ≤ j → 0 ≤ s → 0 ≤ t → t < 2147483629 → WS X g rest (env.set i (.ol al [.list (cells.map .int), .int j, .int s, .int t])) P) : WS X g rest env P := fun W tk hx σ F H st D hD => by
  obtain ⟨h1, ds, vs, ⟨cells, j, s, t, rfl, q1, q2, q3, q4, q5⟩, h2, h3⟩ := st.sl i _ he
  exact h cells j s t q1 q2 q3 q4 q5 W tk hx σ F H (st.weak he (fun a m => m) fun _ => ⟨h1, vs, h2, h3⟩) D hD
end
theorem szOk {n m : Nat} (h : Nat.ble n m = true) : n ≤ m := Nat.le_of_ble_eq_true h
theorem nb {m : Int} (h : m.natAbs < 2 ^ 120) : m.natAbs < 2 ^ 8000 := Nat.lt_of_lt_of_le h (Nat.pow_le_pow_right (by decide) (by decide))
abbrev rg (m : Nat) (f : Nat → PyData) : List PyData := (List.range m).map f
theorem at_nat {α : Type} {xs : List α} {i : Int} {x : α} (h0 : 0 ≤ i) (h : xs[i.toNat]? = some x) : atI xs i = some x := by
  have hl := (List.getElem?_eq_some_iff.mp h).1
  unfold atI ixN
  rw [if_pos h0, if_pos (by omega)]
  exact h
theorem at_ints {ns : List Int} {i : Int} (h0 : 0 ≤ i) (h1 : i < ns.length) : ∃ n, n ∈ ns ∧ ns[i.toNat]? = some n ∧ atI (ns.map PyData.int) i = some (.int n) := by
  have hl : i.toNat < ns.length := by omega
  refine ⟨ns[i.toNat], List.getElem_mem hl, by simp [hl], at_nat h0 (by simp [hl])⟩
theorem wp_none {X : Cx} {g : G} {env : List Sl} {Φ : Option Int → Prop} {Ψ : Exc → Prop} (h : Φ none) : WP X g none env Φ Ψ := h
theorem wp_e {X : Cx} {g : G} {env : List Sl} {e : Expr} {Φ : Option Int → Prop} {Ψ : Exc → Prop} (h : WE X g e env (fun d _ => ∃ i, d = .int i ∧ Φ (some i)) Ψ) : WP X g (some e) env Φ Ψ := h
theorem cut_le {α : Type} (xs : List α) (k : Int) (h0 : 0 ≤ k) (h : (xs.length : Int) ≤ k) : cut xs none (some k) = xs := by
  unfold cut HT.sIx
  have e : ¬ k < 0 := by omega
  simp only [e, if_false]
  rw [List.drop_zero, Nat.min_eq_right (by omega), Nat.sub_zero, List.take_length]
theorem ints_get {ns : List Int} {i : Nat} {x : PyData} (h : (ns.map PyData.int)[i]? = some x) : ∃ n, x = .int n ∧ ns[i]? = some n := by
  obtain ⟨n, h1, h2⟩ := map_get h
  exact ⟨n, h2.symm, h1⟩
theorem tk_succ {α : Type} {ns : List α} {i : Nat} {n : α} (f : α → PyData) (h : ns[i]? = some n) : (ns.take i).map f ++ [f n] = (ns.take (i + 1)).map f := by
  rw [List.take_succ, h]
  simp
def ppD (p : Int × Int) : PyData := .tuple [.int p.1, .int p.2]
theorem pairs_alike (ps : List (Int × Int)) : PySem.W.AllAlike (ps.map ppD) := fun d hd d' hd' => by
  obtain ⟨p, _, rfl⟩ := List.mem_map.mp hd
  obtain ⟨q, _, rfl⟩ := List.mem_map.mp hd'
  rfl
theorem pairs_sortable (ps : List (Int × Int)) : PySem.W.Sortable (ps.map ppD) := .inl fun d hd => by
  obtain ⟨p, _, rfl⟩ := List.mem_map.mp hd
  exact ⟨_, _, rfl⟩
theorem pairs_depth (ps : List (Int × Int)) : ∀ d ∈ ps.map ppD, SeqAt.shaped d = true := fun d hd => by
  obtain ⟨p, _, rfl⟩ := List.mem_map.mp hd
  rfl
section
variable {Φ : PyData → Bool → Prop} {m : Nat} {f : Nat → PyData} {k : Int} {z1 z2 : Bool}
theorem ix_lst (h0 : 0 ≤ k) {xs : List PyData} {x : PyData} (h : xs[k.toNat]? = some x) (hp : Φ x true) : IxP Φ (.list xs) z1 (.int k) z2 := .lst hp (at_nat h0 h)
/-- a power of literals -/
theorem powP {i j v : Int} (hv : i ^ j.toNat = v) (h : Φ (.int v) true) (hc : CPow i j) : IntP CPow (fun i j => i ^ j.toNat) Φ (.int i) z1 (.int j) z2 := ⟨by rw [hv]; exact h, hc⟩
theorem ix_ints (h0 : 0 ≤ k) {ns : List Int} (h1 : k < ns.length) (hp : ∀ n ∈ ns, Φ (.int n) true) : IxP Φ (.list (ns.map .int)) z1 (.int k) z2 := by
  obtain ⟨n, q1, _, q2⟩ := at_ints h0 h1
  exact .lst (hp n q1) q2
end
theorem exk_of {K : Frag} {mg : Str → Option Value} {x : Str} (g : mg x = some (.ref (He.ga K x))) (h : PySem.W.excIn K (He.ga K x) He.veBase "ValueError.__new__" = true ∧ PySem.W.keepIn K (.ref (He.ga K x)) = true ∧ PySem.W.subIn K (.ref (He.ga K x)) (.type "BaseException") = some true ∧ PySem.W.typeIn K (.ref (He.ga K x)) = some (.type "type")) : ExK K mg x := ⟨g, h.1, h.2.1, h.2.2.1, h.2.2.2⟩
theorem Has.mono {P : Program} {w : World} {K : Frag} {mg : Str → Option Value} {base : Heap} {j k : Nat} {x : Str} {ps : List Str} {S : CT} (h : Has P w K mg base j x ps S) (le : j ≤ k) : Has P w K mg base k x ps S := by
  obtain ⟨f, fd, h1, h2, h3, h4⟩ := h.ex
  exact ⟨f, fd, h1, h2, h3, h4.mono le⟩
end TL
namespace TL
open PySem PySem.Spec PyProof.Rows L2
theorem enu_new {v : Value} {o : Obj} {D : Heap → Prop} (B : Begins v o D) : Meets (Builtin.«enumerate.__new__» ⟨[.type "enumerate", v], []⟩) (fun _ R z => D z.heap ∧
    R (.ok (.ret (.ref (z.heap.push o).objs.size))) { z with heap := (z.heap.push o).push { cls := .type "enumerate", data := .fields #[.none, .bool false, .ref z.heap.objs.size, rawInt 0, .none, .none] } }) :=
  .of_wp fun prog w A R z y => by
    obtain ⟨h0, g0, d0, t0, o0⟩ := z
    obtain ⟨y1, y2⟩ := y
    have sb := sub_enumerate
    have go : ∀ {A' : Around} {E : Value → Shared → Prop} {Q : Value → Shared → Prop}, Q (.ref h0.objs.size) ⟨h0.push o, g0, d0, t0, o0⟩ → wpAny (model prog w) A' (pyIter v) Q E ⟨h0, g0, d0, t0, o0⟩ := fun q => B.iter prog w _ _ _ _ y1 q
    wp_walk using go
    refine wpAny_stack_any fun _ => wpAny_pure ?_
    split
    · rename_i cc _ _ _ _ _
      cases (cc == Value.type "enumerate")
      all_goals
        wp_walk using go
        exact ⟨_, rfl, y2⟩
    · wp_walk using go
      exact ⟨_, rfl, y2⟩
theorem enu_call {prog : Program} {w : World} {A : Around} {E : Value → Shared → Prop} {z : Shared} {v : Value} {o : Obj} {D : Heap → Prop} {Q : Value → Shared → Prop} (B : Begins v o D) (y : D z.heap)
    (k : ∀ h', IsEnum h' (z.heap.objs.size + 1) z.heap.objs.size 0 .none → h'.get? z.heap.objs.size = some o → (∀ b u, z.heap.get? b = some u → h'.get? b = some u) → Q (.ref (z.heap.objs.size + 1)) { z with heap := h' }) :
    wpAny (model prog w) A (call (.type "enumerate") [v]) Q E z := by
  refine callType_new F.called_enumerate (by decide) (F.typeCall_enumerate_1 _) (F.newCall_enumerate_1 _) (fun u => F.args_object_init_2 u _) F.entry_enumerate_new (enu_new B) ⟨y, ?_⟩
  have sz : (z.heap.push o).objs.size = z.heap.objs.size + 1 := Heap.size_push ..
  show _ ∧ _
  rw [sz]
  have en : IsEnum ((z.heap.push o).push { cls := .type "enumerate", data := .fields #[.none, .bool false, .ref z.heap.objs.size, rawInt 0, .none, .none] }) (z.heap.objs.size + 1) z.heap.objs.size 0 .none := by
    have u := Heap.get?_push_size (z.heap.push o) (o := { cls := .type "enumerate", data := .fields #[.none, .bool false, .ref z.heap.objs.size, rawInt 0, .none, .none] }) rfl
    rw [sz] at u
    exact u
  exact ⟨⟨_, en, rfl⟩, k _ en (Heap.get?_push_of_some _ (Heap.get?_push_size _ B.free)) fun b u x => Heap.get?_push_of_some _ (Heap.get?_push_of_some _ x)⟩
/-- the tuple at a, each item in a new pair -/
def EnT (K : PySem.W.Frag) (a : Addr) : It :=
  ⟨fun i H => ∃ (vs : List V) (v : V), SqT K H a vs ∧ vs[i]? = some v, fun i H u H' => ∃ p v, u = .ref p ∧ H p = none ∧ H' = upd H p (.tup [.int (i : Nat), v]) ∧ ∀ vs, SqT K H a vs → vs[i]? = some v, fun i H => ∃ vs : List V, SqT K H a vs ∧ vs.length = i⟩
theorem turn_en {P : Program} {w : World} {K : PySem.W.Frag} {elts : List Expr} {kk : Nat} {tpos : Pos} (a e it : Addr) :
    Turn P w K (.Tuple elts kk tpos) (EnT K a) [e, it] e (fun i h => (∃ old, IsEnum h e it ((i : Nat) : Int) old) ∧ h.IsTupleIter it a i ∧ e ≠ it) where
  mem := by simp
  obj := fun i h q b hb => by
    obtain ⟨⟨old, en⟩, ⟨o, o1, o2, o3⟩, _⟩ := q
    have hb2 : b = e ∨ b = it := by simpa using hb
    rcases hb2 with rfl | rfl
    · exact ⟨_, en, fun v q => nomatch q⟩
    · exact ⟨o, o1, fun v q => by rw [o3] at q; cases q⟩
  keep := fun i h h' q k => by
    obtain ⟨⟨old, en⟩, ⟨o, o1, o2⟩, ne⟩ := q
    exact ⟨⟨old, k e (by simp) _ en⟩, ⟨o, k it (by simp) _ o1, o2⟩, ne⟩
  item := by
    intro X hP hw hK hc i pins s σ H E I fps st go
    subst hP hw hK
    obtain ⟨⟨old, en⟩, ti, ne⟩ := st
    obtain ⟨vs, v, sq, hv⟩ := go
    obtain ⟨its, rv, pt, hz⟩ := I.tuple sq
    obtain ⟨u, hu, ru⟩ := rv.get hv
    have lte : e < s.heap.objs.size := Heap.lt_size en
    have lti : it < s.heap.objs.size := by obtain ⟨_, q, _⟩ := ti; exact Heap.lt_size q
    have ani : a ≠ it := fun z => by
      obtain ⟨o, q1, q2, _⟩ := ti
      obtain ⟨o', q3, q4, _⟩ := pt
      rw [z, q1] at q3
      cases q3
      rw [q2] at q4
      exact absurd q4 (by decide)
    obtain ⟨f0, f1, f2, f3, f4, f5⟩ := fps it (by simp)
    have hlt : i < its.toArray.size := by
      have := (List.getElem?_eq_some_iff.mp hu).1
      simpa using this
    have ane : a ≠ e := fun z => by
      obtain ⟨o', q3, q4, _⟩ := pt
      have en' : s.heap.get? e = some _ := en
      rw [z, en'] at q3
      cases q3
      exact absurd q4 (by show ¬ (Value.type "enumerate" = Value.type "tuple"); decide)
    refine wpAny_pyNext_enum_itemD (Draws.tuple (show X.A.in1.handled = none from I.ok.hd hc) it a ani its.toArray) en ⟨ti, pt⟩ hlt ne (by
      intro hm
      have hm2 : e = it ∨ e = a := by simpa using hm
      rcases hm2 with z | z
      · exact ne z
      · exact ane z.symm) fun x h' tk hx eo st' hT hsz keep => ?_
    have xu : x = u := by
      have hx' : its[i]? = some x := by simpa using hx
      rw [hu] at hx'
      exact (Option.some.inj hx').symm
    subst xu
    refine ⟨_, rfl, wpAny_letOwnedTupleGo_enum (s := { s with heap := h', toks := tk + 1 }) eo fun h2 en2 sb => ?_⟩
    have hT2 : h2.get? s.heap.objs.size = some { cls := .type "tuple", data := .seq #[.int i tk, x] } := (sb.2 _ (Nat.ne_of_gt lte)).trans hT
    have nw : ObjOk X.prog X.w (upd H s.heap.objs.size (.tup [.int (i : Nat), v])) h2 s.heap.objs.size (.tup [.int (i : Nat), v]) := ⟨by show 2 ≤ sizeLine; decide, [.int i tk, x], .cons ⟨_, rfl⟩ (.cons ru .nil), ⟨_, hT2, rfl, _, rfl⟩⟩
    have I2 : Inv X pins σ (upd H s.heap.objs.size (.tup [.int (i : Nat), v])) { s with heap := h2, toks := tk + 1 } :=
      I.turnedNew (ch := [e, it]) (fun b ob hb q => (sb.2 b fun z => hb (by simp [z])).trans (keep b ob (fun z => hb (by simp [z])) (fun z => hb (by simp [z])) q)) fps (Nat.le_refl _) nw
    refine ⟨.ref s.heap.objs.size, _, I2, rfl, ⟨_, v, rfl, I.hok.fresh (Nat.le_refl _), rfl, fun ys hy => by rw [I.tuple_inj hy sq]; exact hv⟩, ⟨⟨x, ?_⟩, ?_, ne⟩, fun b hb => ?_⟩
    · rw [show ((i + 1 : Nat) : Int) = (i : Int) + 1 by omega]
      exact en2
    · obtain ⟨o, q1, q2⟩ := st'.1
      exact ⟨o, (sb.2 it (Ne.symm ne)).trans q1, q2⟩
    · have hb2 : b = e ∨ b = it := by simpa using hb
      have lb : b < s.heap.objs.size := by
        rcases hb2 with rfl | rfl
        · exact lte
        · exact lti
      rw [upd_ne (Nat.ne_of_lt lb)]
      exact (fps b hb).1
  done := by
    intro X hP hw hK hc i pins s σ H E I fps st go
    subst hP hw hK
    obtain ⟨⟨old, en⟩, ti, ne⟩ := st
    obtain ⟨vs, sq, hv⟩ := go
    obtain ⟨its, rv, pt, hz⟩ := I.tuple sq
    obtain ⟨f0, f1, f2, f3, f4, f5⟩ := fps it (by simp)
    have ani : a ≠ it := fun z => by
      obtain ⟨o, q1, q2, _⟩ := ti
      obtain ⟨o', q3, q4, _⟩ := pt
      rw [z, q1] at q3
      cases q3
      rw [q2] at q4
      exact absurd q4 (by decide)
    have hl := rv.length
    have hn : its.toArray.size = i := by simp; omega
    subst hn
    refine wpAny_pyNext_enum_endD (Draws.tuple (show X.A.in1.handled = none from I.ok.hd hc) it a ani its.toArray) en ⟨ti, pt⟩ fun h' eb => ⟨rfl, I.turned (t' := s.toks) (fun b o hb q => eb b o hb q) f0 f1 f3 f4 f5⟩
  self := fun A i s Q E q h => by
    obtain ⟨⟨_, en⟩, _⟩ := q
    exact wpAny_pyIter_enum en h
section
variable {K : PySem.W.Frag} {a : Addr} {xs : List V}
theorem walk_enT : Walk (EnT K a) xs.length (fun H => SqT K H a xs) (YPair (fun i => some (.int (i : Nat))) fun i => xs[i]?) := by
  refine ⟨fun i _ hi q => ⟨xs, xs[i], q, by simp [hi]⟩, fun _ q => ⟨xs, q, rfl⟩, fun i H v H' _ q y => ?_⟩
  obtain ⟨p, u, y1, y2, y3, y4⟩ := y
  exact ⟨p, _, u, y1, y2, y3, rfl, y4 xs q⟩
end
end TL
namespace TL
open PySem PySem.Spec PyProof.Rows L2
section
variable {X : Cx} {g : G} {env env' : List Sl} {Ψ : Exc → Prop} {P : Po} {pos p p2 p3 : Pos} {a b c e : Expr} {es : List Expr} {rest body : List Stmt} {K : Frag} {F F' H H' : Hp} {σ σ' : SS}
def tyN : PyData → String
  | .none => "NoneType"
  | .bool _ => "bool"
  | .int _ => "int"
  | .str _ => "str"
  | .list _ => "list"
  | .tuple _ => "tuple"
  | .dict _ => "dict"
def isTyB (T : String) (d : PyData) : Bool := match d with
  | .dict ((.bool true, _) :: _) => false
  | d => (kitB (tyN d) T).getD false
theorem cut_whole {α : Type} {xs : List α} {lo hi : Option Int} (h : HT.sIx xs.length 0 lo = 0 ∧ HT.sIx xs.length xs.length hi = xs.length) : cut xs lo hi = xs := by
  unfold cut
  rw [h.1, h.2, List.drop_zero, Nat.sub_zero, List.take_length]
theorem for_turn2 {t : TG} {A : PyData → Option (List (Nat × PyData))} {F1 F : Hp} {Pv : Nat → List Sl → Prop} {i : Nat} {x : PyData} {v : V} {D : Ends} {W : WX} (tk : Takes X W) (hx2 : XOk X g P W) (hD : DOk X g F1 P D) (htd : TGd X.K t A) (hv : Dq X.K F v x) (s1 : St X.K g F H σ env) (e1 : Ex F1 F) (hp : Pv i env) (h : FT X g body A P Pv i x) :
    t v σ H fun σ2 H2 => semS X body { D with nx := FJ X.K g F1 Pv (i + 1), ct := FJ X.K g F1 Pv (i + 1), bk := D.nx } σ2 H2 := by
  obtain ⟨l, hA, hl, hw⟩ := h env hp
  refine htd x l σ F H v _ hA s1.ex hv fun r sr => ?_
  have s2 := s1.sets sr fun q hq => ltB (List.all_eq_true.mp hl q hq)
  exact hw W tk hx2 _ F H s2 _ ⟨fun e2 σ' F' H' q s' ex => ⟨F', e2, s', e1.trans ex, q⟩, hD.rt, fun e2 σ' F' H' q s' ex => hD.nx e2 σ' F' H' q s' (e1.trans ex), fun e2 σ' F' H' q s' ex => ⟨F', e2, s', e1.trans ex, q⟩⟩
end
end TL
namespace TL
open PySem PySem.Spec PyProof.Rows L2
def backE (env : List Sl) : List Ar → List Sl → List Sl
  | .s i :: as, s :: ss => (backE env as ss).set i s
  | .d _ :: as, _ :: ss => backE env as ss
  | _, _ => env
section
variable {X : Cx} {g : G} {env env' : List Sl} {Ψ : Exc → Prop} {P : Po} {pos p lp : Pos} {a b c e : Expr} {es : List Expr} {rest body : List Stmt} {K : Frag} {F F' H H' : Hp} {σ σ' : SS}
theorem backE_len : ∀ (as : List Ar) (ss : List Sl), (backE env as ss).length = env.length
  | .s i :: as, s :: ss => by rw [backE, List.length_set, backE_len as ss]
  | .d _ :: as, _ :: ss => backE_len as ss
  | [], _ => rfl
  | .s _ :: _, [] => rfl
  | .d _ :: _, [] => rfl
theorem backE_out : ∀ {as : List Ar} {ss : List Sl} {i : Nat}, i ∉ arIx as → (backE env as ss)[i]? = env[i]?
  | .s j :: as, s :: ss, i, h => by
    have h1 : i ≠ j := fun z => h (by rw [z]; exact List.mem_cons_self ..)
    rw [backE, List.getElem?_set, if_neg (Ne.symm h1)]
    exact backE_out fun z => h (List.mem_cons_of_mem _ z)
  | .d _ :: as, _ :: ss, i, h => backE_out (as := as) h
  | [], _, _, _ => rfl
  | .s _ :: _, [], _, _ => rfl
  | .d _ :: _, [], _, _ => rfl
theorem backE_in : ∀ {as : List Ar} {ss : List Sl} {i j : Nat} {s : Sl}, (arIx as).Nodup → ss.length = as.length → as[j]? = some (.s i) → (backE env as ss)[i]? = some s → ss[j]? = some s
  | .s k :: as, t :: ss, i, 0, s, nd, hl, h1, h2 => by
    have e := Option.some.inj h1
    injection e with e
    subst e
    rw [backE, List.getElem?_set, if_pos rfl] at h2
    split at h2
    · exact h2
    · cases h2
  | .s k :: as, t :: ss, i, j + 1, s, nd, hl, h1, h2 => by
    have nd2 := List.nodup_cons.mp nd
    have hm : i ∈ arIx as := arix_mem (as := as) (j := j) h1
    have ne : k ≠ i := fun z => nd2.1 (z ▸ hm)
    rw [backE, List.getElem?_set, if_neg ne] at h2
    exact backE_in (as := as) (j := j) nd2.2 (Nat.succ.inj hl) h1 h2
  | .d _ :: as, t :: ss, i, 0, s, nd, hl, h1, h2 => by
    have e := Option.some.inj h1
    cases e
  | .d _ :: as, t :: ss, i, j + 1, s, nd, hl, h1, h2 => backE_in (as := as) (j := j) (ss := ss) nd (Nat.succ.inj hl) h1 h2
  | [], _, _, _, _, _, _, h1, _ => by simp at h1
  | _ :: _, [], _, _, _, _, hl, _, _ => by cases hl
theorem ix_of : ∀ {as : List Ar} {i : Nat}, i ∈ arIx as → ∃ j : Nat, as[j]? = some (Ar.s i)
  | .d z :: r, i, h => by
    obtain ⟨j, hj⟩ := ix_of (as := r) h
    exact ⟨j + 1, hj⟩
  | .s l :: r, i, h => by
    rcases List.mem_cons.mp (show i ∈ l :: arIx r from h) with e | h
    · subst e; exact ⟨0, rfl⟩
    · obtain ⟨j, hj⟩ := ix_of h; exact ⟨j + 1, hj⟩
theorem st_back {as : List Ar} {vs : List V} {args' : List Sl} (st : St K g F H σ env) (ha : ArAll K F σ vs as) (nd : (arIx as).Nodup) (hs : ∀ i ∈ arIx as, i < env.length) (sk : Sk K F' H' (vs.map some) args') (hst : Step F H (as.map (slOf env)) F' H')
    (hf : args'.map Sl.fp = (as.map (slOf env)).map Sl.fp) : St K g F' H' σ (backE env as args') := by
  have hl : args'.length = as.length := by have := congrArg List.length hf; simpa using this
  refine st.called ha sk hst (backE_len _ _) (fun i s h1 h2 => by rw [backE_out h1] at h2; exact h2) (fun j i s h1 h2 => backE_in nd hl h1 h2) (fun i s s' h1 h2 a h3 => ?_)
  by_cases hi : i ∈ arIx as
  · obtain ⟨j, hj⟩ := ix_of hi
    have q := backE_in nd hl hj h2
    have q2 : (args'.map Sl.fp)[j]? = some s'.fp := by rw [List.getElem?_map, q]; rfl
    rw [hf, List.getElem?_map, List.getElem?_map, hj] at q2
    have e : slOf env (.s i) = s := by show env[i]?.getD .un = _; rw [h1]; rfl
    have q3 : some (slOf env (.s i)).fp = some s'.fp := q2
    rw [e] at q3
    rw [Option.some.inj q3]
    exact .inl h3
  · rw [backE_out hi, h1] at h2
    cases h2
    exact .inl h3
/-- f(..) as a statement, what it was handed changed -/
theorem w1_callM {j k : Nat} {x : Str} {ps : List Str} {S : CT} (hf : Has X.prog X.w X.K X.mg X.base j x ps S) (hr : Room k X.A)
    (h : WAs X g (e :: es) env (fun as => callOk as ps.length env.length = true ∧ S (as.map (slOf env)) (fun _ args' => args'.map Sl.fp = (as.map (slOf env)).map Sl.fp ∧ P.nx (backE env as args')) (fun c args' => args' = as.map (slOf env) ∧ P.ex c env)) (fun c => P.ex c env))
    (hj : j ≤ k := by omega) (hg : Gl X x := by rfl) (hdb : (x == ("__debug__" : Str)) = false := by decide)
    (he : starEach (e :: es) X.env = (false, eval e X.env) :: starEach es X.env := by rfl) (hpl : (backTo p (starEach es X.env)).any (·.1) = false := by rfl) {p1 : Pos}
    (hs : swapsWith (.Call (.Name x p1) (e :: es) [] p) none pos.line X.env = pure false := by rfl) : W1 X g (.Expr (.Call (.Name x p1) (e :: es) [] p) pos) env P := fun W tk hx2 σ F H s0 D hD => by
  obtain ⟨f, fd, hm, hk, hb, F0⟩ := hf.ex
  refine semP_of (ps_expr (pe_callS F0 (hr.mono hj) hg hm hk hb (fun σ => passAt tk σ) (paS (e :: es)) hdb he hpl) hs) ?_
  refine h W tk σ F H s0 (hx2.hx env σ) _ fun as vs F1 H1 ⟨hok, hS⟩ s1 e1 ra => ?_
  obtain ⟨h1, h2, h3⟩ := callOk_ok hok
  refine ⟨by rw [arall_len ra, h1], F1, as.map (slOf env), _, _, hS, s1.toSk.callee ra h2 h3, fun r v args' F' H' ⟨ea, hp⟩ sk hst _ pr => ?_, fun c args' F' H' ⟨ea, hp⟩ sk hst _ => ?_⟩
  · exact hD.nx _ _ F' H' hp (st_back s1 ra h2 h3 sk hst ea) (e1.trans hst.1)
  · have := hx2 c env σ F' H' hp (st_same s1 ra sk hst ea)
    cases c
    exact this
def WAn (X : Cx) (g : G) (es : List Expr) (env : List Sl) (Φ : List Ar → Prop) (Ψ : Exc → Prop) : Prop :=
  ∀ (W : WX), Takes X W → ∀ (σ : SS) (F H : Hp), St X.K g F H σ env → HX X g env Ψ W σ →
    ∀ Q : List V → Hp → Prop, (∀ as vs q F' H', Φ as → St X.K g F' H' σ env → Ex F F' → ArAll X.K F' σ vs as → H' q = some (.lst []) → F' q = none → ¬ Own env q → g.H0 q = none → Q (vs ++ [.ref q]) H') → semA X es σ H Q
section
variable {Φ : List Ar → Prop}
theorem wan_l (h : Φ []) (hs : starEach [.List [] lp] X.env = (false, eval (.List [] lp) X.env) :: starEach [] X.env := by rfl) : WAn X g [.List [] lp] env Φ Ψ := fun W tk σ F H st hx Q hQ => by
  refine semA_of (pa_cons (pe_lst pa_nil) pa_nil hs) ?_
  refine ⟨Nat.zero_le _, fun q hn => ?_⟩
  exact hQ [] [] q F _ h (st.alloc hn) (Ex.refl F) trivial upd_same (st.ex.none hn) (st.toSk.notown hn) (st.h0 hn)
theorem wan_d (he : WE X g e env (fun d z => z = true ∧ WAn X g es env (fun as => Φ (.d d :: as)) Ψ) Ψ) (hs : starEach (e :: es) X.env = (false, eval e X.env) :: starEach es X.env := by rfl) : WAn X g (e :: es) env Φ Ψ := fun W tk σ F H st hx Q hQ => by
  refine semA_of (pa_cons (peS e) (paS es) hs) ?_
  refine he W tk σ F H st hx _ fun d z v F1 H1 ⟨hz, hp⟩ s1 e1 r1 => ?_
  subst hz
  exact hp W tk σ F1 H1 s1 hx _ fun as vs q F2 H2 hp2 s2 e2 r2 => hQ (.d d :: as) (v :: vs) q F2 H2 hp2 s2 (e1.trans e2) ⟨dp_mono e2 _ _ r1, r2⟩
theorem wan_s (i : Nat) {x : Str} {s : Sl} (h : WAn X g es env (fun as => Φ (.s i :: as)) Ψ) (he : env[i]? = some s := by rfl) (hne : s.fp ≠ [] := by (intro h; cases h)) (hN : X.N[i]? = some x := by rfl)
    (hv : Vis X.env.scope x := by first | exact Or.inl rfl | exact Or.inr (Or.inl rfl) | exact Or.inr (Or.inr rfl)) (hd : (x == ("__debug__" : Str)) = false := by decide)
    (hcd : (x == ("__classdict__" : Str)) = false := by decide) (hs : starEach ((.Name x pos) :: es) X.env = (false, eval (.Name x pos) X.env) :: starEach es X.env := by rfl) : WAn X g (.Name x pos :: es) env Φ Ψ := fun W tk σ F H st hx Q hQ => by
  refine semA_of (pa_cons (pe_var hN hv hd hcd) (paS es) hs) ?_
  have q := st.sl i s he
  obtain ⟨v, hv⟩ : ∃ v, σ[i]?.getD none = some v := by
    cases s with
    | un => exact absurd rfl hne
    | d x => exact absurd rfl hne
    | v x => exact ⟨_, q⟩
    | ol a ds => exact ⟨_, q.1⟩
    | bg a => exact ⟨_, q.1⟩
    | dt a ds => exact ⟨_, q.1⟩
    | dk a ds => exact ⟨_, q.1⟩
    | fv l => exact absurd rfl hne
    | fl l => exact absurd rfl hne
    | oo a ds => exact ⟨_, q.1⟩
    | ow t => exact ⟨q.choose, q.choose_spec.1⟩
  exact ⟨v, getD_some hv, h W tk σ F H st hx _ fun as vs q F2 H2 hp2 s2 e2 r2 => hQ (.s i :: as) (v :: vs) q F2 H2 hp2 s2 e2 ⟨getD_some hv, r2⟩⟩
end
theorem snoc_get {α : Type} {l : List α} {x y : α} {i : Nat} (h : (l ++ [x])[i]? = some y) : l[i]? = some y ∨ (i = l.length ∧ y = x) := by
  by_cases hi : i < l.length
  · rw [List.getElem?_append_left hi] at h; exact .inl h
  · by_cases e : i = l.length
    · subst e
      rw [List.getElem?_append_right (Nat.le_refl _), Nat.sub_self] at h
      exact .inr ⟨rfl, (Option.some.inj h).symm⟩
    · rw [List.getElem?_append_right (by omega)] at h
      have := (List.getElem?_eq_some_iff.mp h).1
      simp at this
      omega
theorem own_snoc {q a : Addr} {ds : List PyData} (h : Own (env ++ [.ol q ds]) a) : Own env a ∨ a = q := by
  obtain ⟨i, s, h1, h2⟩ := h
  rcases snoc_get h1 with h3 | ⟨_, rfl⟩
  · exact .inl ⟨i, s, h3, h2⟩
  · exact .inr (by simpa [Sl.fp] using h2)
theorem Sk.snoc {q : Addr} {xs : List V} {ds : List PyData} (st : Sk K F H σ env) (h1 : H q = some (.lst xs)) (h2 : DqAll K F xs ds) (h3 : F q = none) (h4 : ¬ Own env q) : Sk K F H (σ ++ [some (.ref q)]) (env ++ [.ol q ds]) where
  len := by rw [List.length_append, List.length_append, st.len]; rfl
  sl := fun i s h => by
    rcases snoc_get h with h | ⟨rfl, rfl⟩
    · have hi : i < σ.length := by rw [st.len]; exact (List.getElem?_eq_some_iff.mp h).1
      rw [List.getElem?_append_left hi]
      exact st.sl i s h
    · rw [← st.len, List.getElem?_append_right (Nat.le_refl _), Nat.sub_self]
      exact ⟨rfl, xs, h1, h2⟩
  nd := fun i j s t a hi hj m1 m2 => by
    rcases snoc_get hi with hi | ⟨rfl, rfl⟩
    · rcases snoc_get hj with hj | ⟨rfl, rfl⟩
      · exact st.nd i j s t a hi hj m1 m2
      · have e : a = q := by simpa [Sl.fp] using m2
        exact absurd ⟨i, s, hi, e ▸ m1⟩ h4
    · rcases snoc_get hj with hj | ⟨rfl, rfl⟩
      · have e : a = q := by simpa [Sl.fp] using m1
        exact absurd ⟨j, t, hj, e ▸ m2⟩ h4
      · rfl
  fr := fun a h => by
    rcases own_snoc h with h | rfl
    · exact st.fr a h
    · exact h3
  ex := st.ex
  tf := st.tf
  tk := st.tk
theorem St.snoc {q : Addr} {xs : List V} {ds : List PyData} (st : St K g F H σ env) (h1 : H q = some (.lst xs)) (h2 : DqAll K F xs ds) (h3 : F q = none) (h4 : ¬ Own env q) (h5 : g.H0 q = none) : St K g F H (σ ++ [some (.ref q)]) (env ++ [.ol q ds]) :=
  { st.toSk.snoc h1 h2 h3 h4 with
    gt := st.gt, g1 := st.g1, g3 := st.g3, g4 := st.g4, g5 := st.g5, g6 := st.g6
    g2 := fun a h => by
      rcases own_snoc h with h | rfl
      · exact st.g2 a h
      · exact .inl h5 }
theorem own_l {s : Sl} {a : Addr} (h : Own env a) : Own (env ++ [s]) a := by
  obtain ⟨i, t, h1, h2⟩ := h
  exact ⟨i, t, by rw [List.getElem?_append_left (List.getElem?_eq_some_iff.mp h1).1]; exact h1, h2⟩
theorem St.unsnoc {x : Option V} {s : Sl} (st : St K g F H (σ ++ [x]) (env ++ [s])) : St K g F H σ env where
  len := by have := st.len; rw [List.length_append, List.length_append] at this; exact Nat.add_right_cancel this
  sl := fun i t h => by
    have hi := (List.getElem?_eq_some_iff.mp h).1
    have hl := st.len
    rw [List.length_append, List.length_append] at hl
    have hl : σ.length = env.length := Nat.add_right_cancel hl
    have q := st.sl i t (by rw [List.getElem?_append_left hi]; exact h)
    rw [List.getElem?_append_left (by omega)] at q
    exact q
  nd := fun i j t u a h1 h2 => st.nd i j t u a (by rw [List.getElem?_append_left (List.getElem?_eq_some_iff.mp h1).1]; exact h1) (by rw [List.getElem?_append_left (List.getElem?_eq_some_iff.mp h2).1]; exact h2)
  fr := fun a h => st.fr a (own_l h)
  ex := st.ex
  tf := st.tf
  tk := st.tk
  gt := st.gt
  g1 := st.g1
  g2 := fun a h => st.g2 a (own_l h)
  g3 := st.g3
  g4 := st.g4
  g5 := st.g5
  g6 := st.g6
theorem arall_snoc {x : Option V} {q : Addr} (hx : x = some (.ref q)) {n : Nat} (hn : n = σ.length) : ∀ {vs : List V} {as : List Ar}, ArAll K F σ vs as → ArAll K F (σ ++ [x]) (vs ++ [.ref q]) (as ++ [.s n])
  | [], [], _ => ⟨by
      show (σ ++ [x])[n]? = some (some (.ref q))
      rw [hn, List.getElem?_append_right (Nat.le_refl _), Nat.sub_self, hx]
      rfl, trivial⟩
  | v :: vs, .d d :: as, ⟨h1, h2⟩ => ⟨h1, arall_snoc hx hn h2⟩
  | v :: vs, .s i :: as, ⟨h1, h2⟩ => ⟨by
      have h1' : σ[i]? = some (some v) := h1
      show (σ ++ [x])[i]? = some (some v)
      rw [List.getElem?_append_left (List.getElem?_eq_some_iff.mp h1').1]
      exact h1', arall_snoc hx hn h2⟩
theorem arix_snoc {n : Nat} : ∀ (as : List Ar), arIx (as ++ [Ar.s n]) = arIx as ++ [n]
  | [] => rfl
  | .d _ :: as => arix_snoc as
  | .s i :: as => congrArg (i :: ·) (arix_snoc as)
theorem map_snoc {s : Sl} : ∀ {as : List Ar}, (∀ i ∈ arIx as, i < env.length) → (as ++ [Ar.s env.length]).map (slOf (env ++ [s])) = as.map (slOf env) ++ [s]
  | [], _ => by
    show [(env ++ [s])[env.length]?.getD .un] = [s]
    rw [List.getElem?_append_right (Nat.le_refl _), Nat.sub_self]
    rfl
  | .d d :: as, h => congrArg (Sl.d d :: ·) (map_snoc (as := as) h)
  | .s i :: as, h => by
    have hi := h i (List.mem_cons_self ..)
    show (env ++ [s])[i]?.getD .un :: _ = env[i]?.getD .un :: _
    rw [List.getElem?_append_left hi]
    exact congrArg (_ :: ·) (map_snoc (as := as) fun j hj => h j (List.mem_cons_of_mem _ hj))
theorem wn_callN {j k : Nat} {x : Str} {ps : List Str} {S : CT} {Φ : List PyData → Prop} (hf : Has X.prog X.w X.K X.mg X.base j x ps S) (hr : Room k X.A)
    (h : WAn X g (e :: es) env (fun as => callOk as (ps.length - 1) env.length = true ∧ 1 ≤ ps.length ∧ ∀ q, S (as.map (slOf env) ++ [.ol q []]) (fun r args' => ∃ ds, args' = as.map (slOf env) ++ [.ol q ds] ∧ r = .ar as.length ∧ Φ ds) (fun _ _ => False)) Ψ)
    (hj : j ≤ k := by omega) (hg : Gl X x := by rfl) (hdb : (x == ("__debug__" : Str)) = false := by decide)
    (he : starEach (e :: es) X.env = (false, eval e X.env) :: starEach es X.env := by rfl) (hpl : (backTo pos (starEach es X.env)).any (·.1) = false := by rfl) : WN X g (.Call (.Name x p) (e :: es) [] pos) env Φ Ψ := fun W tk σ F H st hx Q hQ => by
  obtain ⟨f, fd, hm, hk, hb, F0⟩ := hf.ex
  refine semE_of (pe_callS F0 (hr.mono hj) hg hm hk hb (fun σ => passAt tk σ) (paS (e :: es)) hdb he hpl) ?_
  refine h W tk σ F H st hx _ fun as vs q F1 H1 ⟨hok, hn1, hS⟩ s1 e1 ra g1 g2 g3 g4 => ?_
  obtain ⟨h1, h2, h3⟩ := callOk_ok hok
  have s2 := s1.snoc g1 .nil g2 g3 g4
  have ra2 := arall_snoc (x := some (.ref q)) (q := q) rfl (n := env.length) s1.len.symm ra
  have nd2 : (arIx (as ++ [Ar.s env.length])).Nodup := by
    rw [arix_snoc]
    refine List.nodup_append.mpr ⟨h2, by simp, fun a ha b hb z => ?_⟩
    have : b = env.length := by simpa using hb
    have := h3 a ha
    omega
  have hs2 : ∀ i ∈ arIx (as ++ [Ar.s env.length]), i < (env ++ [Sl.ol q []]).length := fun i hi => by
    rw [arix_snoc] at hi
    rw [List.length_append]
    rcases List.mem_append.mp hi with hi | hi
    · have := h3 i hi; simp; omega
    · have : i = env.length := by simpa using hi
      simp; omega
  have sk2 := s2.toSk.callee ra2 nd2 hs2
  rw [map_snoc h3] at sk2
  refine ⟨by rw [List.length_append, arall_len ra, h1]; simp; omega, F1, as.map (slOf env) ++ [.ol q []], _, _, hS q, sk2, fun r v args' F' H' ⟨ds, ea, hr2, hp⟩ sk hst _ pr => ?_, fun c args' F' H' hp _ _ _ => hp.elim⟩
  subst ea hr2
  have hst2 : Step F1 H1 ((as ++ [Ar.s env.length]).map (slOf (env ++ [Sl.ol q []]))) F' H' := by rw [map_snoc h3]; exact hst
  have s3 := st_back s2 ra2 nd2 hs2 sk hst2 (by rw [map_snoc h3, List.map_append, List.map_append]; rfl)
  have eb : ∀ (as : List Ar) (env : List Sl) (n : Nat), n = env.length → (∀ i ∈ arIx as, i < env.length) → backE (env ++ [Sl.ol q []]) (as ++ [Ar.s n]) (as.map (slOf env) ++ [Sl.ol q ds]) = env ++ [Sl.ol q ds] := fun as env n hn => by
    subst hn
    induction as with
    | nil =>
      intro _
      show (env ++ [Sl.ol q []]).set env.length (.ol q ds) = _
      rw [List.set_append_right _ _ (Nat.le_refl _), Nat.sub_self]
      rfl
    | cons a as ih =>
      intro hh
      cases a with
      | d d => exact ih hh
      | s i =>
        have hi := hh i (List.mem_cons_self ..)
        show (backE (env ++ [.ol q []]) (as ++ [.s env.length]) (as.map (slOf env) ++ [.ol q ds])).set i (env[i]?.getD .un) = _
        rw [ih fun j hj => hh j (List.mem_cons_of_mem _ hj), List.getElem?_eq_getElem hi, List.set_append_left _ _ hi]
        show env.set i env[i] ++ _ = _
        rw [List.set_getElem_self hi]
  rw [eb as env _ rfl h3] at s3
  have hv : v = .ref q := by
    have pr' : (vs ++ [V.ref q])[as.length]? = some v := pr
    rw [← arall_len ra, List.getElem?_append_right (Nat.le_refl _), Nat.sub_self] at pr'
    exact (Option.some.inj pr').symm
  subst hv
  have hl : (env ++ [Sl.ol q ds])[env.length]? = some (Sl.ol q ds) := by rw [List.getElem?_append_right (Nat.le_refl _), Nat.sub_self]; rfl
  obtain ⟨_, xs, y1, y2⟩ := s3.sl env.length _ hl
  refine hQ ds (.ref q) F' H' hp s3.unsnoc (e1.trans hst.1) ⟨q, xs, rfl, y1, y2, s3.fr q ⟨_, _, hl, by simp [Sl.fp]⟩, fun ⟨i, s, z1, z2⟩ => ?_, g4⟩
  have hi := (List.getElem?_eq_some_iff.mp z1).1
  have := s3.nd i env.length s _ q (by rw [List.getElem?_append_left hi]; exact z1) hl z2 (by simp [Sl.fp])
  omega
end
theorem tkf_t {α : Type} {ns : List α} {i : Nat} {n : α} {f : α → Bool} (h : α → PyData) (e : ns[i]? = some n) (hf : f n = true) : ((ns.take i).filter f).map h ++ [h n] = ((ns.take (i + 1)).filter f).map h := by
  rw [List.take_succ, e]
  simp [List.filter_append, hf]
theorem tkf_f {α : Type} {ns : List α} {i : Nat} {n : α} {f : α → Bool} (h : α → PyData) (e : ns[i]? = some n) (hf : f n = false) : ((ns.take i).filter f).map h = ((ns.take (i + 1)).filter f).map h := by
  rw [List.take_succ, e]
  simp [List.filter_append, hf]
section
variable {Φ : PyData → Bool → Prop} {k : Int} {z1 z2 : Bool}
theorem ix_mem (n : Nat) (h0 : 0 ≤ k) (h1 : k < n) {xs : List PyData} (hp : ∀ x ∈ xs, Φ x true) (hn : xs.length = n := by rfl) : IxP Φ (.list xs) z1 (.int k) z2 := by
  have hl : k.toNat < xs.length := by omega
  exact .lst (hp _ (List.getElem_mem hl)) (at_nat h0 (by simp [hl]))
end
end TL
namespace TL
open PySem PySem.Spec PyProof.Rows L2
theorem key_eq {K : Frag} {F : Hp} {v : V} {k : Key} (h : Dq K F v (kD k)) : v = kV k := by
  cases k with
  | inl i => exact dp_int h
  | inr s => exact dp_str h
theorem keys_eq {K : Frag} {F : Hp} : ∀ {k : List Key} {vs : List V}, DqAll K F vs (k.map kD) → vs = k.map kV
  | [], _, h => by
    have h' : DqAll K F _ [] := h
    cases h'; rfl
  | x :: r, _, h => by
    have h' : DqAll K F _ (kD x :: r.map kD) := h
    cases h' with
    | cons h1 h2 => rw [key_eq h1, keys_eq h2]; rfl
section
variable {κ : Type} [DecidableEq κ]
def putP (kvs : List (κ × PyData)) (k : κ) (d : PyData) : List (κ × PyData) := if (kvs.any fun kv => decide (kv.1 = k)) = true then kvs.map (fun kv => if kv.1 = k then (kv.1, d) else kv) else kvs ++ [(k, d)]
def valP (kvs : List (κ × PyData)) (k : κ) : Option PyData := (kvs.find? fun kv => decide (kv.1 = k)).map (·.2)
variable {K : Frag} {F : Hp}
theorem kvp_any {k : κ} : ∀ {xs : List (κ × V)} {kvs : List (κ × PyData)}, KVp K F xs kvs → (xs.any fun kv => decide (kv.1 = k)) = kvs.any fun kv => decide (kv.1 = k)
  | _, _, .nil => rfl
  | _, _, .cons h t => by
    rw [List.any_cons, List.any_cons, kvp_any t, h.1]
theorem kvp_map {k : κ} {v : V} {d : PyData} (hd : Dq K F v d) : ∀ {xs : List (κ × V)} {kvs : List (κ × PyData)}, KVp K F xs kvs → KVp K F (xs.map fun kv => if kv.1 = k then (kv.1, v) else kv) (kvs.map fun kv => if kv.1 = k then (kv.1, d) else kv)
  | _, _, .nil => .nil
  | (k1, v1) :: _, (k2, d2) :: _, .cons h t => by
    obtain ⟨h1, h2⟩ := h
    have h1 : k1 = k2 := h1
    subst h1
    refine .cons ?_ (kvp_map hd t)
    show (if k1 = k then (k1, v) else (k1, v1)).1 = (if k1 = k then (k1, d) else (k1, d2)).1 ∧ Dq K F (if k1 = k then (k1, v) else (k1, v1)).2 (if k1 = k then (k1, d) else (k1, d2)).2
    by_cases e : k1 = k
    · rw [if_pos e, if_pos e]; exact ⟨rfl, hd⟩
    · rw [if_neg e, if_neg e]; exact ⟨rfl, h2⟩
theorem kvp_app {v : V} {k : κ} {d : PyData} (hd : Dq K F v d) : ∀ {xs : List (κ × V)} {kvs : List (κ × PyData)}, KVp K F xs kvs → KVp K F (xs ++ [(k, v)]) (kvs ++ [(k, d)])
  | _, _, .nil => .cons ⟨rfl, hd⟩ .nil
  | _, _, .cons h t => .cons h (kvp_app hd t)
theorem kvp_put {xs : List (κ × V)} {kvs : List (κ × PyData)} {k : κ} {v : V} {d : PyData} (h : KVp K F xs kvs) (hd : Dq K F v d) : KVp K F (putK xs k v) (putP kvs k d) := by
  unfold putK putP
  rw [kvp_any h]
  by_cases e : (kvs.any fun kv => decide (kv.1 = k)) = true
  · rw [if_pos e, if_pos e]; exact kvp_map hd h
  · rw [if_neg e, if_neg e]; exact kvp_app hd h
theorem kvp_len : ∀ {xs : List (κ × V)} {kvs : List (κ × PyData)}, KVp K F xs kvs → xs.length = kvs.length
  | _, _, .nil => rfl
  | _, _, .cons _ t => congrArg Nat.succ (kvp_len t)
end
section
variable {X : Cx} {g : G} {env env' : List Sl} {Ψ : Exc → Prop} {P : Po} {pos p lp : Pos} {a b c e : Expr} {es : List Expr} {rest body : List Stmt} {K : Frag} {F F' H H' : Hp} {σ σ' : SS}
theorem St.setT {i : Nat} {q : Addr} {xs : List (List Key × V)} {kvs : List (List Key × PyData)} (st : St K g F H σ env) (hi : i < env.length) (hH : H q = some (.dT xs)) (hd : KVp K F xs kvs) (hF : F q = none) (hn : ¬ Own env q) (h0 : g.H0 q = none) :
    St K g F H (σ.set i (some (.ref q))) (env.set i (.dt q kvs)) := by
  have one : ∀ b ∈ (Sl.dt q kvs).fp, b = q := fun b hb => by simpa [Sl.fp] using hb
  exact st.set (s := .dt q kvs) hi ⟨rfl, xs, hH, hd⟩ (fun b hb => by rw [one b hb]; exact hF) (fun b hb j t _ e ht => hn ⟨j, t, e, by rw [← one b hb]; exact ht⟩) (fun b hb => by rw [one b hb]; exact .inl h0)
/-- x = {} -/
theorem w1_newT (i : Nat) {x : Str} {pos' dp : Pos} (hN : X.N.Nodup) (h : ∀ q, q ∉ g.M → P.nx (env.set i (.dt q []))) (hi : X.N[i]? = some x := by rfl) (hx : Loc X.env.scope x := by first | exact Or.inl rfl | exact Or.inr rfl) (hl : Nat.blt i env.length = true := by rfl)
    (hs : swapsWith (.Dict [] [] dp) (some (.Name x pos')) pos.line X.env = pure false := by rfl) (hf : X.fn x = true ∨ X.env.scope.names.lookup x = some .local := by first | exact .inl rfl | exact .inr rfl) : W1 X g (.Assign [.Name x pos'] (.Dict [] [] dp) pos) env P := fun W tk hx2 σ F H s0 D hD => by
  refine semP_of (ps_set hN hi hx pe_dnewT hs hf) fun q hn => ?_
  have s1 := s0.alloc (o := .dT []) hn
  exact hD.nx _ _ F _ (h q fun m => s1.g6 q m (s0.h0 hn)) (s1.setT (ltB hl) upd_same .nil (s0.ex.none hn) (s0.toSk.notown hn) (s0.h0 hn)) (Ex.refl F)
/-- return x, x a dict made here -/
theorem w1_retT (i : Nat) {x : Str} {q : Pos} {al : Addr} {kvs : List (List Key × PyData)} (he : env[i]? = some (.dt al kvs)) (ha : al ∉ g.M) (h : P.rt (.nt kvs) (env.set i .un)) (hN : X.N[i]? = some x := by rfl)
    (hv : Vis X.env.scope x := by first | exact Or.inl rfl | exact Or.inr (Or.inl rfl) | exact Or.inr (Or.inr rfl)) (hd : (x == ("__debug__" : Str)) = false := by decide)
    (hcd : (x == ("__classdict__" : Str)) = false := by decide) : W1 X g (.Return (some (.Name x q)) pos) env P := fun W tk hx2 σ F H s0 D hD => by
  refine semP_of (ps_ret (pe_var hN hv hd hcd)) ?_
  obtain ⟨h1, vs, h2, h3⟩ := s0.sl i _ he
  have own : Own env al := ⟨i, _, he, by simp [Sl.fp]⟩
  refine ⟨_, getD_some h1, hD.rt _ _ _ σ F H h (s0.weak he (fun _ h => by cases h) fun _ => trivial) ⟨al, vs, rfl, h2, h3, s0.fr al own, fun z => ?_, ?_⟩⟩
  · obtain ⟨j, t, ej, ht⟩ := z
    rcases set_get ej with ⟨_, rfl⟩ | ⟨ne, ej⟩
    · cases ht
    · exact ne (s0.nd i j _ t al he ej (by simp [Sl.fp]) ht)
  · rcases s0.g2 al own with z | z
    · exact z
    · exact absurd z ha
/-- a new dict as an expression -/
def WDt (X : Cx) (g : G) (e : Expr) (env : List Sl) (Φ : List (List Key × PyData) → Prop) (Ψ : Exc → Prop) : Prop :=
  ∀ (W : WX), Takes X W → ∀ (σ : SS) (F H : Hp), St X.K g F H σ env → HX X g env Ψ W σ →
    ∀ Q : VK, (∀ kvs v F' H', Φ kvs → St X.K g F' H' σ env → Ex F F' → NewT X.K g F' H' env v kvs → Q v H') → semE X e σ H Q
theorem wd_call {j k : Nat} {x : Str} {ps : List Str} {S : CT} {Φ : List (List Key × PyData) → Prop} (hf : Has X.prog X.w X.K X.mg X.base j x ps S) (hr : Room k X.A)
    (h : WAs X g (e :: es) env (fun as => callOk as ps.length env.length = true ∧ S (as.map (slOf env)) (fun r args' => args' = as.map (slOf env) ∧ ∃ kvs, r = .nt kvs ∧ Φ kvs) (fun c args' => args' = as.map (slOf env) ∧ Ψ c)) Ψ)
    (hj : j ≤ k := by omega) (hg : Gl X x := by rfl) (hdb : (x == ("__debug__" : Str)) = false := by decide)
    (he : starEach (e :: es) X.env = (false, eval e X.env) :: starEach es X.env := by rfl) (hpl : (backTo pos (starEach es X.env)).any (·.1) = false := by rfl) : WDt X g (.Call (.Name x p) (e :: es) [] pos) env Φ Ψ := fun W tk σ F H st hx Q hQ => by
  refine call_run (Φ := fun r => ∃ kvs, r = .nt kvs ∧ Φ kvs) hf hr h hj hg hdb he hpl tk st hx fun r vs v F1 H1 F' H' args' ⟨kvs, hd, hp⟩ s' e' s1 pr => ?_
  subst hd
  obtain ⟨q, xs, rfl, h1, h2, h3, h4, h5⟩ := pr
  exact hQ kvs (.ref q) F' H' hp s' e' ⟨q, xs, rfl, h1, h2, h3, fun z => s1.there z h4, s1.h0 h4⟩
/-- x = a new dict -/
theorem w1_setT (i : Nat) {x : Str} {pos' : Pos} (hN : X.N.Nodup) (h : WDt X g e env (fun kvs => ∀ q, q ∉ g.M → P.nx (env.set i (.dt q kvs))) (fun c => P.ex c env)) (hi : X.N[i]? = some x := by rfl) (hx : Loc X.env.scope x := by first | exact Or.inl rfl | exact Or.inr rfl) (hl : Nat.blt i env.length = true := by rfl)
    (hs : swapsWith e (some (.Name x pos')) pos.line X.env = pure false := by rfl) (hf : X.fn x = true ∨ X.env.scope.names.lookup x = some .local := by first | exact .inl rfl | exact .inr rfl) : W1 X g (.Assign [.Name x pos'] e pos) env P := fun W tk hx2 σ F H s0 D hD => by
  refine semP_of (ps_set hN hi hx (peS e) hs hf) ?_
  refine h W tk σ F H s0 (hx2.hx env σ) _ fun kvs v F' H' hp s' e' ⟨q, xs, hv, h1, h2, h3, h4, h5⟩ => ?_
  subst hv
  exact hD.nx _ _ F' H' (hp q fun m => s'.g6 q m h5) (s'.setT (ltB hl) h1 h2 h3 h4 h5) e'
end
end TL
namespace TL
open PySem PySem.Spec PyProof.Rows L2
structure SemI (X : Cx) (tg iter : Expr) (σ : SS) (H : Hp) (R : It → Hp → Prop) : Prop where
  run : ∀ (pins : List (Addr × Obj)) (s : Shared), Inv X pins σ H s →
    wpAny (model X.prog X.w) X.A (eval iter X.env) (fun v s1 => wpAny (model X.prog X.w) X.A (pyIter v) (PIE X pins σ tg R) X.xe s1) X.xe s
def semI (X : Cx) (tg iter : Expr) : TI := fun σ H R => SemI X tg iter σ H R
def ItOk (K : Frag) (J : It) (xs : List PyData) (F : Hp) : Prop := ∃ (G : Hp → Prop) (Y : Nat → Hp → V → Hp → Prop), Walk J xs.length G Y ∧ (∀ H, Ex F H → G H) ∧
  ∀ i d, xs[i]? = some d → ∀ H v H', Y i H v H' → ∀ g F1 σ env, St K g F1 H σ env → Ex F F1 → ∃ F2, St K g F2 H' σ env ∧ Ex F1 F2 ∧ Dq K F2 v d ∧ Ex H H' ∧ ∀ a, F2 a ≠ none → F1 a ≠ none ∨ H a = none
def WI (X : Cx) (g : G) (tg iter : Expr) (env : List Sl) (Φ : List PyData → Prop) (Ψ : Exc → Prop) : Prop :=
  ∀ (W : WX), Takes X W → ∀ (σ : SS) (F H : Hp), St X.K g F H σ env → HX X g env Ψ W σ →
    ∀ R : It → Hp → Prop, (∀ xs J F' H', Φ xs → xs.length ≤ sizeLine → St X.K g F' H' σ env → Ex F F' → ItOk X.K J xs F' → R J H') → semI X tg iter σ H R
section
variable {X : Cx} {g : G} {env env' : List Sl} {Ψ : Exc → Prop} {P : Po} {pos p lp : Pos} {a b c e tg iter : Expr} {es : List Expr} {rest body : List Stmt} {K : Frag} {F F' H H' : Hp} {σ σ' : SS}
theorem piS : PI X tg iter (semI X tg iter) := ⟨fun pins s σ H R I h => h.run pins s I⟩
theorem semI_of {wi : TI} (h : PI X tg iter wi) {R : It → Hp → Prop} (q : wi σ H R) : semI X tg iter σ H R := ⟨fun pins s I => h.run pins s σ H R I q⟩
def iAny (K : Frag) (tl : TE) : TI := fun σ H R => tl σ H fun x H1 => (∃ a xs, x = .ref a ∧ SqL K H1 a xs ∧ (xs.length ≤ sizeLine → R (Itl K a) H1)) ∨ (∃ a xs, x = .ref a ∧ SqT K H1 a xs ∧ (xs.length ≤ sizeLine → R (Itt K a) H1)) ∨ ∃ z, x = .str z ∧ R (Its z) H1
theorem pi_any {l : Expr} {tl : TE} (hl : PE X l tl) : PI X tg l (iAny X.K tl) := by
  refine ⟨fun pins s σ H R I h => ?_⟩
  refine thn (hl.run pins s σ H _ I h) fun v s1 ⟨x, H1, I1, r1, q1⟩ => ?_
  rcases q1 with ⟨a, xs, e, hq, q⟩ | ⟨a, xs, e, hq, q⟩ | ⟨z, e, q⟩
  · subst e
    cases r1
    obtain ⟨its, rv, p, hz⟩ := I1.list hq
    refine wpAny_pyIter_list p.isList ?_
    refine ⟨s1.heap.objs.size, [s1.heap.objs.size], _, _, H1, rfl, I1.kept (t' := s1.toks) fun b o e => Heap.get?_push_of_some _ e, turn_list a _, ⟨_, Heap.get?_push_size _ rfl, rfl, rfl⟩, fun b hb => ?_, q hz⟩
    have e : b = s1.heap.objs.size := by simpa using hb
    subst e
    exact I1.fpOk (Nat.le_refl _) (I1.hok.fresh (Nat.le_refl _))
  · subst e
    cases r1
    obtain ⟨its, rv, p, hz⟩ := I1.tuple hq
    refine wpAny_pyIter_tuple (show s1.heap.IsTuple a its.toArray from p) ?_
    refine ⟨s1.heap.objs.size, [s1.heap.objs.size], _, _, H1, rfl, I1.kept (t' := s1.toks) fun b o e => Heap.get?_push_of_some _ e, turn_tuple a _, ⟨_, Heap.get?_push_size _ rfl, rfl, rfl⟩, fun b hb => ?_, q hz⟩
    have e : b = s1.heap.objs.size := by simpa using hb
    subst e
    exact I1.fpOk (Nat.le_refl _) (I1.hok.fresh (Nat.le_refl _))
  · subst e
    obtain ⟨t, rfl⟩ := r1
    cases ha : z.cps.all (· < 128)
    · exact wpAny_pyIter_wide ha (pi_one (tk := s1.toks) I1 _ (turn_str _ z t "str_iterator" (.inr rfl)) ⟨_, Heap.get?_push_size _ rfl, rfl, rfl⟩ q)
    · exact wpAny_pyIter_ascii ha (pi_one (tk := s1.toks) I1 _ (turn_str _ z t "str_ascii_iterator" (.inl rfl)) ⟨_, Heap.get?_push_size _ rfl, rfl, rfl⟩ q)
def sgn (c : Nat) : PyData := .str ⟨#[c]⟩
/-- the items of data -/
def itM : PyData → (List PyData → Prop) → Prop
  | .list xs, K => K xs
  | .tuple xs, K => K xs
  | .str s, K => s.cps.size ≤ sizeLine ∧ K (s.cps.toList.map sgn)
  | _, _ => False
theorem itok_at {xs : List PyData} {vs : List V} {J : It} {G : Hp → Prop} (w : Walk J vs.length G (YAt vs)) (hG : ∀ H, Ex F H → G H) (h : DqAll K F vs xs) : ItOk K J xs F := by
  refine ⟨G, YAt vs, by rw [← dpa_len h]; exact w, hG, fun i d hd H v H' ⟨y1, y2⟩ g F1 σ env st e1 => ?_⟩
  subst y1
  obtain ⟨v', h1, h2⟩ := dpa_get h hd
  rw [y2] at h1
  cases h1
  exact ⟨F1, st, Ex.refl F1, dp_mono e1 _ _ h2, Ex.refl _, fun a h => .inl h⟩
theorem itok_str {z : Str} : ItOk K (Its z) (z.cps.toList.map sgn) F := by
  refine ⟨_, _, by rw [List.length_map, Array.length_toList]; exact walk_str, fun _ _ => trivial, fun i d hd H v H' hy g F1 σ env st e1 => ?_⟩
  obtain ⟨y1, c, y2, y3⟩ := hy
  subst y1 y3
  obtain ⟨c', h1, rfl⟩ := map_get hd
  rw [Array.getElem?_toList, y2] at h1
  cases h1
  exact ⟨F1, st, Ex.refl F1, .str _, Ex.refl _, fun a h => .inl h⟩
theorem wi_d {Φ : List PyData → Prop} (h : WE X g iter env (fun d z => z = true ∧ itM d Φ) Ψ) : WI X g tg iter env Φ Ψ := fun W tk σ F H st hx R hR => by
  refine semI_of (pi_any (peS iter)) ?_
  refine h W tk σ F H st hx _ fun d z v F1 H1 ⟨hz, hi⟩ s1 e1 rd => ?_
  subst hz
  cases d with
  | list xs =>
    obtain ⟨a, vs, rfl, hsq, hda⟩ := dp_lst rd
    have hi : Φ xs := hi
    exact .inl ⟨a, vs, rfl, ex_l s1.ex hsq, fun hl => hR xs _ F1 H1 hi (by rw [← dpa_len hda]; exact hl) s1 e1 (itok_at walk_list (fun H eH => ex_l eH hsq) hda)⟩
  | tuple xs =>
    obtain ⟨a, vs, rfl, hsq, hda⟩ := dp_tup rd
    have hi : Φ xs := hi
    exact .inr (.inl ⟨a, vs, rfl, ex_t s1.ex hsq, fun hl => hR xs _ F1 H1 hi (by rw [← dpa_len hda]; exact hl) s1 e1 (itok_at walk_tup (fun H eH => ex_t eH hsq) hda)⟩)
  | str s =>
    obtain ⟨hl, hi⟩ : s.cps.size ≤ sizeLine ∧ Φ (s.cps.toList.map sgn) := hi
    have e := dp_str rd
    subst e
    exact .inr (.inr ⟨s, rfl, hR _ _ F1 H1 hi (by rw [List.length_map, Array.length_toList]; exact hl) s1 e1 itok_str⟩)
  | none => exact hi.elim
  | bool b => exact hi.elim
  | int i => exact hi.elim
  | dict k => exact hi.elim
def rangeL (lo hi : Int) : List PyData := (List.range (hi - lo).toNat).map fun i => .int (lo + (i : Nat))
theorem itok_rng {lo hi : Int} : ItOk K (Itr lo (hi - lo).toNat) (rangeL lo hi) F := by
  refine ⟨_, _, by unfold rangeL; rw [List.length_map, List.length_range]; exact walk_range, fun _ _ => trivial, fun i d hd H v H' hy g F1 σ env st e1 => ?_⟩
  obtain ⟨y1, y2⟩ := hy
  subst y1 y2
  obtain ⟨j, h1, rfl⟩ := map_get hd
  have hj := (List.getElem?_eq_some_iff.mp h1)
  have hj : i = j := by
    obtain ⟨h3, h4⟩ := hj
    simpa using h4
  subst hj
  exact ⟨F1, st, Ex.refl F1, .int _, Ex.refl _, fun a h => .inl h⟩
def rngM : PyData → PyData → (List PyData → Prop) → Prop
  | .int lo, .int hi, K => (-1000000 ≤ lo ∧ lo ≤ 1000000 ∧ -1000000 ≤ hi ∧ hi ≤ 1000000) ∧ K (rangeL lo hi)
  | _, _, _ => False
theorem range_len {lo hi : Int} (h : -1000000 ≤ lo ∧ lo ≤ 1000000 ∧ -1000000 ≤ hi ∧ hi ≤ 1000000) : (rangeL lo hi).length ≤ sizeLine := by
  unfold rangeL
  rw [List.length_map, List.length_range, sizeLine_eq]
  omega
theorem wi_r2 {Φ : List PyData → Prop} {p1 p2 : Pos} (hm : X.mg "range" = none) (h : WE X g a env (fun d1 _ => WE X g b env (fun d2 _ => rngM d1 d2 Φ) Ψ) Ψ) (hg : Gl X "range" := by rfl)
    (he : starEach [a, b] X.env = [(false, eval a X.env), (false, eval b X.env)] := by rfl) (he2 : starEach [b] X.env = [(false, eval b X.env)] := by rfl) : WI X g tg (.Call (.Name "range" p1) [a, b] [] p2) env Φ Ψ := fun W tk σ F H st hx R hR => by
  refine semI_of (pi_range2 hg hm (pa_cons (peS a) (pa_cons (peS b) pa_nil (by rw [he2]; rfl)) (by rw [he, he2])) he he2) ?_
  refine h W tk σ F H st hx _ fun d1 z1 v1 F1 H1 h1 s1 e1 r1 => ?_
  refine h1 W tk σ F1 H1 s1 hx _ fun d2 z2 v2 F2 H2 h2 s2 e2 r2 => ?_
  cases d1 with
  | int i =>
    cases d2 with
    | int j =>
      obtain ⟨hb, hi⟩ : (-1000000 ≤ i ∧ i ≤ 1000000 ∧ -1000000 ≤ j ∧ j ≤ 1000000) ∧ Φ (rangeL i j) := h2
      rw [rd_int r1, rd_int r2]
      exact ⟨i, j, rfl, by omega, hR _ _ F2 H2 hi (range_len hb) s2 (e1.trans e2) itok_rng⟩
    | _ => exact h2.elim
  | _ => cases d2 <;> exact h2.elim
theorem wi_r1 {Φ : List PyData → Prop} {p1 p2 : Pos} (hm : X.mg "range" = none) (h : WE X g a env (fun d1 _ => rngM (.int 0) d1 Φ) Ψ) (hg : Gl X "range" := by rfl)
    (he : starEach [a] X.env = [(false, eval a X.env)] := by rfl) : WI X g tg (.Call (.Name "range" p1) [a] [] p2) env Φ Ψ := fun W tk σ F H st hx R hR => by
  refine semI_of (pi_range1 hg hm (pa_cons (peS a) pa_nil (by rw [he]; rfl)) he) ?_
  refine h W tk σ F H st hx _ fun d2 z2 v2 F2 H2 h2 s2 e2 r2 => ?_
  cases d2 with
  | int j =>
    obtain ⟨hb, hi⟩ : (-1000000 ≤ (0 : Int) ∧ (0 : Int) ≤ 1000000 ∧ -1000000 ≤ j ∧ j ≤ 1000000) ∧ Φ (rangeL 0 j) := h2
    rw [rd_int r2]
    have := itok_rng (K := X.K) (F := F2) (lo := 0) (hi := j)
    rw [Int.sub_zero] at this
    exact ⟨j, rfl, by omega, by omega, hR _ _ F2 H2 hi (range_len hb) s2 e2 this⟩
  | _ => exact h2.elim
def enumL (xs : List PyData) : List PyData := xs.mapIdx fun i x => .tuple [.int (i : Nat), x]
def iEnA (K : Frag) (ta : TA) : TI := fun σ H R => ta σ H fun vs H1 => ∃ a xs, vs = [.ref a] ∧ ((SqL K H1 a xs ∧ (xs.length ≤ sizeLine → R (Ite K a) H1)) ∨ (SqT K H1 a xs ∧ (xs.length ≤ sizeLine → R (EnT K a) H1)))
theorem pi_enA {ta : TA} {tpos : Pos} {elts : List Expr} {kk : Nat} (hg : Gl X "enumerate") (hm : X.mg "enumerate" = none) (ha : PA X [e] ta) (hs : starEach [e] X.env = [(false, eval e X.env)] := by rfl) :
    PI X (.Tuple elts kk tpos) (.Call (.Name "enumerate" p) [e] [] pos) (iEnA X.K ta) := by
  refine ⟨fun pins s σ H R I h => ?_⟩
  refine Call_ (ld_blt I hg hm boot_enumerate (PyProof.Rows.callWith_type1 (thn (ha.run pos pins s σ H _ I h) fun us s1 ⟨vs, H1, I1, r1, q1⟩ => ?_) hs rfl))
  obtain ⟨a, xs, ex, hq | hq⟩ := q1
  · subst ex
    obtain ⟨hq, q⟩ := hq
    cases r1 with
    | cons r rr =>
      cases rr
      cases r
      obtain ⟨its, rv, p', hz⟩ := I1.list hq
      refine call_enumerate_list p'.isList fun h' he hit hsz hk => wpAny_pyIter_enum he ?_
      have I2 : Inv X pins σ H1 { s1 with heap := h' } := I1.kept (t' := s1.toks) hk
      refine ⟨s1.heap.objs.size + 1, [s1.heap.objs.size + 1, s1.heap.objs.size], _, _, H1, rfl, I2, turn_enum a (s1.heap.objs.size + 1) s1.heap.objs.size, ⟨⟨.none, he⟩, hit, Nat.succ_ne_self _⟩, fun b hb => ?_, q hz⟩
      have e' : b = s1.heap.objs.size + 1 ∨ b = s1.heap.objs.size := by simpa using hb
      have hle : s1.heap.objs.size ≤ b := by
        rcases e' with z | z
        · rw [z]; exact Nat.le_succ _
        · rw [z]; exact Nat.le_refl _
      exact I1.fpOk hle (I1.hok.fresh hle)
  · subst ex
    obtain ⟨sq, q⟩ := hq
    cases r1 with
    | cons r rr =>
      cases rr
      cases r
      obtain ⟨its, rv, pt, hz⟩ := I1.tuple sq
      refine enu_call (begins_tuple a its.toArray) pt fun h' en iv keep => wpAny_pyIter_enum en ?_
      have I2 : Inv X pins σ H1 { s1 with heap := h' } := I1.kept (t' := s1.toks) keep
      refine ⟨s1.heap.objs.size + 1, [s1.heap.objs.size + 1, s1.heap.objs.size], _, _, H1, rfl, I2, turn_en a (s1.heap.objs.size + 1) s1.heap.objs.size, ⟨⟨.none, en⟩, ⟨_, iv, rfl, rfl⟩, Nat.succ_ne_self _⟩, fun b hb => ?_, q hz⟩
      have hb2 : b = s1.heap.objs.size + 1 ∨ b = s1.heap.objs.size := by simpa using hb
      have le : s1.heap.objs.size ≤ b := by
        rcases hb2 with rfl | rfl
        · exact Nat.le_add_right _ _
        · exact Nat.le_refl _
      exact I1.fpOk le (I1.hok.fresh le)
theorem itok_pair {xs : List PyData} {vs : List V} {J : It} {G : Hp → Prop} (w : Walk J vs.length G (YPair (fun i => some (.int (i : Nat))) fun i => vs[i]?)) (hG : ∀ H, Ex F H → G H) (h : DqAll K F vs xs) : ItOk K J (enumL xs) F := by
  refine ⟨G, _, by unfold enumL; rw [List.length_mapIdx, ← dpa_len h]; exact w, hG, fun i d hd H v H' hy g F1 σ env st e1 => ?_⟩
  obtain ⟨T, x, y, y1, y2, y3, y4, y5⟩ := hy
  unfold enumL at hd
  rw [List.getElem?_mapIdx] at hd
  obtain ⟨d', hd', rfl⟩ := Option.map_eq_some_iff.mp hd
  obtain ⟨v', h1, h2⟩ := dpa_get h hd'
  have y5 : vs[i]? = some y := y5
  rw [y5] at h1
  cases h1
  cases y4
  subst y1 y3
  have hF := st.ex.none y2
  refine ⟨_, st.allocF (o := .tup [.int (i : Nat), y]) y2, Ex.new hF, .tup upd_same (.cons (.int _) (.cons (dp_mono (e1.trans (Ex.new hF)) _ _ h2) .nil)), Ex.new y2, fun a ha => ?_⟩
  by_cases ea : a = T
  · subst ea; exact .inr y2
  · rw [upd_ne ea] at ha; exact .inl ha
def enuM : PyData → (List PyData → Prop) → Prop
  | .list xs, K => K (enumL xs)
  | .tuple xs, K => K (enumL xs)
  | _, _ => False
theorem enum_len (xs : List PyData) : (enumL xs).length = xs.length := by unfold enumL; rw [List.length_mapIdx]
theorem wi_en {Φ : List PyData → Prop} {elts : List Expr} {kk : Nat} {tpos p1 : Pos} (hm : X.mg "enumerate" = none) (h : WE X g a env (fun d z => z = true ∧ enuM d Φ) Ψ) (hg : Gl X "enumerate" := by rfl)
    (he : starEach [a] X.env = [(false, eval a X.env)] := by rfl) : WI X g (.Tuple elts kk tpos) (.Call (.Name "enumerate" p1) [a] [] pos) env Φ Ψ := fun W tk σ F H st hx R hR => by
  refine semI_of (pi_enA hg hm (pa_cons (peS a) pa_nil (by rw [he]; rfl)) he) ?_
  refine h W tk σ F H st hx _ fun d z v F1 H1 ⟨hz, hi⟩ s1 e1 rd => ?_
  subst hz
  cases d with
  | list xs =>
    obtain ⟨a, vs, rfl, hsq, hda⟩ := dp_lst rd
    have hi : Φ (enumL xs) := hi
    exact ⟨a, vs, rfl, .inl ⟨ex_l s1.ex hsq, fun hl => hR _ _ F1 H1 hi (by rw [enum_len, ← dpa_len hda]; exact hl) s1 e1 (itok_pair walk_enum (fun H eH => ex_l eH hsq) hda)⟩⟩
  | tuple xs =>
    obtain ⟨a, vs, rfl, hsq, hda⟩ := dp_tup rd
    have hi : Φ (enumL xs) := hi
    exact ⟨a, vs, rfl, .inr ⟨ex_t s1.ex hsq, fun hl => hR _ _ F1 H1 hi (by rw [enum_len, ← dpa_len hda]; exact hl) s1 e1 (itok_pair walk_enT (fun H eH => ex_t eH hsq) hda)⟩⟩
  | _ => exact hi.elim
theorem w1_for {t : TG} {A : PyData → Option (List (Nat × PyData))} (hp : PassesOwn (model X.prog X.w) X.A X.env X.xe) (hc : X.calm = true) (hpg : PG X tg t) (htd : TGd X.K t A)
    (hi : WI X g tg iter env (fun xs => ∃ Pv : Nat → List Sl → Prop, Pv 0 env ∧ (∀ i x, xs[i]? = some x → FT X g body A P Pv i x) ∧ ∀ e, Pv xs.length e → P.nx e) (fun c => P.ex c env))
    (hs : ∀ x, foldedSetIterable iter X.env x = pure x := by intro _; rfl) : W1 X g (.For tg iter body [] pos) env P := fun W tk hx2 σ F H s0 D hD => by
  refine semP_of (ps_for hp hc piS hpg (pssS body) hs) ?_
  refine hi W tk σ F H s0 (hx2.hx env σ) _ fun xs J F1 H1 ⟨Pv, p0, pt, pe⟩ hlen s1 e1 ⟨GG, Y, hw, hG, hy⟩ => ?_
  refine for_it hw (FJ X.K g F1 Pv) ⟨F1, env, s1, Ex.refl F1, p0⟩ (fun i σ' H' _ ⟨F2, e2, s2, ex2, _⟩ => hG _ (ex2.trans s2.ex)) (fun i x σ' H2 H3 hi2 hJ hY => ?_) (fun σ' H' ⟨F2, e2, s2, ex2, hp2⟩ => ?_)
  · obtain ⟨F2, e2, s2, ex2, hp2⟩ := hJ
    obtain ⟨d, hd⟩ : ∃ d, xs[i]? = some d := ⟨xs[i], by simp [hi2]⟩
    obtain ⟨F3, s3, ex3, hv, _, _⟩ := hy i d hd _ _ _ hY _ _ _ _ s2 ex2
    exact for_turn2 tk hx2 (hD.mono e1) htd hv s3 (ex2.trans ex3) hp2 (pt i d hd)
  · exact hD.nx e2 σ' F2 H' (pe e2 hp2) s2 (e1.trans ex2)
theorem lc_turn2 {scope : Scope} {ifs : List Expr} {elt : Expr} {t : TG} {A : PyData → Option (List (Nat × PyData))} {F1 : Hp} {vs : List Nat} {Pv : Nat → List PyData → Prop} {D : Addr} {i : Nat} {x : PyData} {v : V} {l : List (Nat × PyData)}
    (htd : TGd X.K t A) (hA : A x = some l) (hl : ∀ q ∈ l, q.1 ∈ vs ∧ q.1 < env.length) (hsz : i < sizeLine) {F : Hp} {acc : List PyData} {avs : List V} (st : St X.K g F H (wipe σ vs) (wipeE env vs)) (eF : Ex F1 F) (hv : Dq X.K F v x) (hD : H D = some (.lst avs)) (hd : DqAll X.K F avs acc) (fD : F D = none) (oD : ¬ Own (wipeE env vs) D) (gD : g.H0 D = none) (hp : Pv i acc) (hlen : acc.length ≤ i)
    (hb : ∀ (g' : G) s H0 C cl fp, WTs (BX X scope s H0 C cl fp) g' ifs (putsE (wipeE env vs) l) (fun b => (b = true → ∀ s H0 C cl fp, WE (BX X scope s H0 C cl fp) g' elt (putsE (wipeE env vs) l) (fun y z => z = true ∧ Pv (i + 1) (acc ++ [y])) (fun _ => False)) ∧ (b = false → Pv (i + 1) acc))) :
    t v (wipe σ vs) H fun σ2 H2 => wipe σ2 vs = wipe σ vs ∧ semTB X scope ifs σ2 H2 fun b H3 =>
      if b = true then semEB X scope elt σ2 H3 fun y H4 => ∃ acc, H4 D = some (.lst acc) ∧ acc.length < sizeLine ∧ LJ X.K g F1 (wipe σ vs) (wipeE env vs) Pv D (i + 1) (upd H4 D (.lst (acc ++ [y]))) else LJ X.K g F1 (wipe σ vs) (wipeE env vs) Pv D (i + 1) H3 := by
  refine htd x l (wipe σ vs) F H v _ hA st.ex hv fun r sr => ?_
  have hidx : ∀ q ∈ r, q.1 ∈ vs := setsP_idx sr fun q hq => (hl q hq).1
  refine ⟨by rw [wipe_putsV hidx]; exact wipe_wipe σ vs, ?_⟩
  -- the state within the turn, over a ground of its own
  have st1 : St X.K ⟨F, H, fps (wipeE env vs)⟩ F H (putsV (wipe σ vs) r) (putsE (wipeE env vs) l) := St.sets st.toSk.base sr fun q hq => by rw [wipeE_len]; exact (hl q hq).2
  have back : ∀ {F' H'}, St X.K ⟨F, H, fps (wipeE env vs)⟩ F' H' (putsV (wipe σ vs) r) (putsE (wipeE env vs) l) → Ex F F' → St X.K ⟨F, H, fps (wipeE env vs)⟩ F' H' (wipe σ vs) (wipeE env vs) := fun {F' H'} s' e' =>
    { len := by rw [wipe_length, wipeE_len]; have := s'.len; rw [putsE_len, wipeE_len] at this; rw [← this, putsV_len, wipe_length]
      sl := fun k s e => by
        by_cases hm : k ∈ vs
        · rw [wipeE_get, if_pos hm] at e
          obtain ⟨_, _, e⟩ := Option.map_eq_some_iff.mp e
          subst e
          trivial
        · have e2 : (putsE (wipeE env vs) l)[k]? = some s := by rw [putsE_get (i := k) fun q hq (z : q.1 = k) => hm (by rw [← z]; exact (hl q hq).1)]; exact e
          have q := s'.sl k s e2
          rw [putsV_get (i := k) fun q hq (z : q.1 = k) => hm (by rw [← z]; exact hidx q hq)] at q
          exact q
      nd := st.nd
      fr := fun a h => by
        obtain ⟨k, s, h1, h2⟩ := h
        by_cases hm : k ∈ vs
        · rw [wipeE_get, if_pos hm] at h1
          obtain ⟨_, _, e⟩ := Option.map_eq_some_iff.mp h1
          subst e
          cases h2
        · exact s'.fr a ⟨k, s, by rw [putsE_get (i := k) fun q hq (z : q.1 = k) => hm (by rw [← z]; exact (hl q hq).1)]; exact h1, h2⟩
      ex := s'.ex
      tf := s'.tf
      tk := s'.tk
      gt := s'.gt
      g1 := s'.g1
      g2 := fun a h => .inr (own_fps.mp h)
      g3 := s'.g3
      g4 := s'.g4
      g5 := s'.g5
      g6 := s'.g6 }
  have keepD : ∀ {F' H'}, St X.K ⟨F, H, fps (wipeE env vs)⟩ F' H' (putsV (wipe σ vs) r) (putsE (wipeE env vs) l) → H' D = some (.lst avs) ∧ F' D = none := fun {F' H'} s' => by
    refine ⟨s'.g1 D _ hD (fun z => oD (own_fps.mpr z)) (fun _ z => by cases z), ?_⟩
    cases q : F' D with
    | none => rfl
    | some u =>
      rcases s'.g4 D (by rw [q]; intro z; cases z) with z | z
      · exact absurd fD z
      · have z' : H D = none := z
        rw [hD] at z'; cases z'
  have tests : ∀ (Q : Bool → Hp → Prop), (∀ b F' H', ((b = true → ∀ s H0 C cl fp, WE (BX X scope s H0 C cl fp) ⟨F, H, fps (wipeE env vs)⟩ elt (putsE (wipeE env vs) l) (fun y z => z = true ∧ Pv (i + 1) (acc ++ [y])) (fun _ => False)) ∧ (b = false → Pv (i + 1) acc)) →
      St X.K ⟨F, H, fps (wipeE env vs)⟩ F' H' (putsV (wipe σ vs) r) (putsE (wipeE env vs) l) → Ex F F' → Q b H') → semTB X scope ifs (putsV (wipe σ vs) r) H Q := fun Q hQ => by
    cases ifs with
    | nil =>
      exact hQ true F H ⟨fun _ s H0 C cl fp => (hb _ (X.s_0) H0 C cl fp).1 rfl s H0 C cl fp, fun z => by cases z⟩ st1 (Ex.refl F)
    | cons c cs =>
      intro s H0 C cl fp
      refine hb _ s H0 C cl fp _ takesB _ F H st1 hxF Q fun b F' H' hbb s' e' => hQ b F' H' hbb s' e'
  refine tests _ fun b F' H' ⟨h1, h2⟩ s' e' => ?_
  cases b with
  | true =>
    rw [if_pos rfl]
    intro s H0 C cl fp
    refine h1 rfl s H0 C cl fp _ takesB _ F' H' s' hxF _ fun y z w F2 H2 ⟨hz, hp2⟩ s2 e2 rd => ?_
    subst hz
    obtain ⟨hD2, fD2⟩ := keepD s2
    refine ⟨avs, hD2, by rw [dpa_len hd]; omega, F2, acc ++ [y], avs ++ [w], ?_, eF.trans (e'.trans e2), upd_same, ?_, fD2, oD, gD, hp2, by rw [List.length_append, List.length_singleton]; omega⟩
    · have s3 := st.rebase (back s2 (e'.trans e2)) fun a h => h
      exact s3.untracked fD2 oD gD
    · exact dpa_app (dpa_mono (e'.trans e2) _ _ hd) (dpa_one rd)
  | false =>
    rw [if_neg Bool.false_ne_true]
    obtain ⟨hD2, fD2⟩ := keepD s'
    exact ⟨F', acc, avs, st.rebase (back s' e') fun a h => h, eF.trans e', hD2, dpa_mono e' _ _ hd, fD2, oD, gD, h2 rfl, by omega⟩
def LT2 (X : Cx) (env : List Sl) (scope : Scope) (ifs : List Expr) (elt : Expr) (vs : List Nat) (A : PyData → Option (List (Nat × PyData))) (Pv : Nat → List PyData → Prop) (i : Nat) (x : PyData) : Prop :=
  ∀ acc, Pv i acc → ∃ l, A x = some l ∧ (l.all fun q => vs.elem q.1 && Nat.blt q.1 env.length) = true ∧ ∀ (g' : G) s H0 C cl fp, WTs (BX X scope s H0 C cl fp) g' ifs (putsE (wipeE env vs) l) (fun b =>
    (b = true → ∀ s H0 C cl fp, WE (BX X scope s H0 C cl fp) g' elt (putsE (wipeE env vs) l) (fun y z => z = true ∧ Pv (i + 1) (acc ++ [y])) (fun _ => False)) ∧ (b = false → Pv (i + 1) acc))
section
variable {elt : Expr} {ifs : List Expr} {scope : Scope} {own : List (Str × Nat)} {t : TG} {A : PyData → Option (List (Nat × PyData))} {Φ : List PyData → Prop}
theorem nt_lc (htd : TGd X.K t A) (hwo : wipeOk env (own.map (·.2)) = true)
    (hi : WI X g tg iter env (fun xs => ∃ Pv : Nat → List PyData → Prop, Pv 0 [] ∧ (∀ i x, xs[i]? = some x → LT2 X env scope ifs elt (own.map (·.2)) A Pv i x) ∧ ∀ acc, Pv xs.length acc → Φ acc) Ψ) : WNt X g (tLc (semI X tg iter) t (semTB X scope ifs) (semEB X scope elt) (own.map (·.2))) env Φ Ψ := fun W tk σ F H st hx Q hQ => by
  refine hi W tk σ F H st hx _ fun xs J F1 H1 ⟨Pv, p0, pt, pe⟩ hlen s1 e1 ⟨GG, Y, hw, hG, hy⟩ => fun D hD => ?_
  have st2 : St X.K g F1 (upd H1 D (.lst [])) (wipe σ (own.map (·.2))) (wipeE env (own.map (·.2))) := (s1.alloc hD).wiped _
  refine lc_it hw (LJ X.K g F1 (wipe σ (own.map (·.2))) (wipeE env (own.map (·.2))) Pv D) ⟨F1, [], [], st2, Ex.refl F1, upd_same, .nil, s1.ex.none hD, fun z => s1.there (own_wipe z) hD, s1.h0 hD, p0, Nat.le_refl 0⟩ (fun i H2 _ ⟨F2, _, _, s3, e3, _⟩ => hG _ (e3.trans s3.ex)) (fun i x H2 H3 hi2 hJ hY => ?_) (fun H2 ⟨F2, acc, avs, s3, e3, hD3, hd3, fD, oD, gD, hp, _⟩ => ?_)
  · obtain ⟨F2, acc, avs, s3, e3, hD3, hd3, fD, oD, gD, hp, hl2⟩ := hJ
    obtain ⟨d, hd⟩ : ∃ d, xs[i]? = some d := ⟨xs[i], by simp [hi2]⟩
    obtain ⟨F3, s4, ex4, hv, exH, hF⟩ := hy i d hd _ _ _ hY _ _ _ _ s3 e3
    obtain ⟨l, hA, hl, hb⟩ := pt i d hd acc hp
    have fD3 : F3 D = none := by
      cases q : F3 D with
      | none => rfl
      | some u =>
        rcases hF D (by rw [q]; intro z; cases z) with z | z
        · exact absurd fD z
        · rw [hD3] at z; cases z
    exact lc_turn2 htd hA (lt_idx hl) (by omega) s4 (e3.trans ex4) hv (exH _ _ hD3) (dpa_mono ex4 _ _ hd3) fD3 oD gD hp hl2 hb
  · exact hQ acc (.ref D) F2 H2 (pe acc hp) (s1.unwiped hwo s3 e3) (e1.trans e3) ⟨D, avs, rfl, hD3, hd3, fD, fun z => s1.there z hD, gD⟩
theorem wn_lc (hc : X.calm = true) (hN : X.N.Nodup) (ok : BlkOk X.N X.env.scope scope own) (hpg : ∀ s H C cl fp, PG (BX X scope s H C cl fp) tg t) (htd : TGd X.K t A) (h1 : ifs.length ≤ 1) (hwo : wipeOk env (own.map (·.2)) = true)
    (hi : WI X g tg iter env (fun xs => ∃ Pv : Nat → List PyData → Prop, Pv 0 [] ∧ (∀ i x, xs[i]? = some x → LT2 X env scope ifs elt (own.map (·.2)) A Pv i x) ∧ ∀ acc, Pv xs.length acc → Φ acc) Ψ)
    (hs : ∀ x, foldedSetIterable iter X.env x = pure x := by intro _; rfl) : WN X g (.ListComp elt [⟨tg, iter, ifs, 0⟩] scope pos) env Φ Ψ := fun W tk σ F H st hx Q hQ =>
  semE_of (pe_lc hc hN piS ok hpg (ptsB h1) peB hs) (nt_lc htd hwo hi W tk σ F H st hx Q hQ)
end
end
end TL
namespace TL
open PySem PySem.Spec PyProof.Rows L2
abbrev KD := PyData → Prop
abbrev KL := List PyData → Prop
abbrev KB := Bool → Prop
abbrev KX := Exc → Prop
def addM : PyData → PyData → KD → Prop
  | .int i, .int j, K => K (.int (i + j))
  | .str i, .str j, K => i.length + j.length ≤ sizeLine ∧ K (.str (i ++ j))
  | .list xs, .list ys, K => xs.length + ys.length ≤ sizeLine ∧ K (.list (xs ++ ys))
  | .tuple xs, .tuple ys, K => xs.length + ys.length ≤ sizeLine ∧ K (.tuple (xs ++ ys))
  | _, _, _ => False
def addLM : PyData → PyData → KL → Prop
  | .list xs, .list ys, K => xs.length + ys.length ≤ sizeLine ∧ K (xs ++ ys)
  | _, _, _ => False
def subM : PyData → PyData → KD → Prop
  | .int i, .int j, K => K (.int (i - j))
  | _, _, _ => False
def mulM : PyData → PyData → KD → Prop
  | .int i, .int j, K => (CMul i j ∨ CMulW i j) ∧ K (.int (i * j))
  | _, _, _ => False
def divM : PyData → PyData → KD → Prop
  | .int i, .int j, K => CDivW i j ∧ K (.int (i / j))
  | _, _, _ => False
def modM : PyData → PyData → KD → Prop
  | .int i, .int j, K => 0 < j ∧ K (.int (i % j))
  | _, _, _ => False
def negM : PyData → KD → Prop
  | .int i, K => K (.int (-i))
  | _, _ => False
def boolM : PyData → KB → Prop
  | .bool b, K => K b
  | _, _ => False
def eqM : PyData → PyData → KB → Prop
  | .int i, .int j, K => K (decide (i = j))
  | .str i, .str j, K => K (decide (i = j))
  | .bool i, .bool j, K => K (decide (i = j))
  | x, y, K => SeqAt.shaped x = true ∧ SeqAt.shaped y = true ∧ K (PyData.eqv x y)
def neM : PyData → PyData → KB → Prop
  | .int i, .int j, K => K (!decide (i = j))
  | .str i, .str j, K => K (!decide (i = j))
  | .bool i, .bool j, K => K (!decide (i = j))
  | x, y, K => SeqAt.shaped x = true ∧ SeqAt.shaped y = true ∧ K (!PyData.eqv x y)
def intsOf : List PyData → Option (List Int)
  | [] => some []
  | .int i :: r => match intsOf r with
    | some l => some (i :: l)
    | none => none
  | _ :: _ => none
def ltM : PyData → PyData → KB → Prop
  | .int i, .int j, K => K (decide (i < j))
  | .tuple xs, .tuple ys, K => match intsOf xs, intsOf ys with
    | some ns, some ms => K (HT.lexLt ns ms)
    | _, _ => False
  | _, _, _ => False
def leTup (ns ms : List Int) : Bool := Ob.lexAt (fun j => decide (ns.getD j 0 = ms.getD j 0)) (fun j => decide (ns.getD j 0 ≤ ms.getD j 0)) (decide (ns.length ≤ ms.length)) 0 (min ns.length ms.length)
def leM : PyData → PyData → KB → Prop
  | .int i, .int j, K => K (decide (i ≤ j))
  | .tuple xs, .tuple ys, K => match intsOf xs, intsOf ys with
    | some ns, some ms => K (leTup ns ms)
    | _, _ => False
  | _, _, _ => False
def gtM : PyData → PyData → KB → Prop
  | .int i, .int j, K => K (decide (j < i))
  | _, _, _ => False
def geM : PyData → PyData → KB → Prop
  | .int i, .int j, K => K (decide (j ≤ i))
  | _, _, _ => False
def flAll : List PyData → Option (List V)
  | [] => some []
  | d :: r => match fl d, flAll r with
    | some v, some l => some (v :: l)
    | _, _ => none
def inLstM (x : PyData) (ds : List PyData) (K : KB) : Prop := match fl x, flAll ds with
  | some v, some vs => K (inV v vs)
  | _, _ => SeqAt.shaped x = true ∧ SeqAt.shaped (.list ds) = true ∧ K (ds.any fun z => PyData.eqv z x)
def inTupM (x : PyData) (ds : List PyData) (K : KB) : Prop := match fl x, flAll ds with
  | some v, some vs => K (inV v vs)
  | _, _ => False
def inTplM (x : PyData) (ds : List PyData) (K : KB) : Prop := match fl x, flAll ds with
  | some v, some vs => K (inV v vs)
  | _, _ => SeqAt.shaped x = true ∧ SeqAt.shaped (.tuple ds) = true ∧ K (ds.any fun z => PyData.eqv z x)
def inM (x : PyData) : PyData → KB → Prop
  | .list ds, K => inLstM x ds K
  | .tuple ds, K => inTplM x ds K
  | .str t, K => match x with
    | .str s => K (!(Builtin.Str.occurrences t s 0 t.length 1).isEmpty)
    | _ => False
  | _, _ => False
def notInM (x c : PyData) (K : KB) : Prop := inM x c fun b => K (!b)
def ixM : PyData → PyData → KD → Prop
  | .list xs, .int i, K => match atI xs i with
    | some y => K y
    | none => False
  | .tuple xs, .int i, K => match atI xs i with
    | some y => K y
    | none => False
  | .str s, .int i, K => s.length ≤ sizeLine ∧ match atI s.cps.toList i with
    | some c => K (sgn c)
    | none => False
  | _, _, _ => False
def intO : PyData → (Int → Prop) → Prop
  | .int i, K => K i
  | _, _ => False
def slM : PyData → Option Int → Option Int → KD → Prop
  | .list xs, lo, hi, K => K (.list (cut xs lo hi))
  | .tuple xs, lo, hi, K => K (.tuple (cut xs lo hi))
  | .str z, lo, hi, K => z.length ≤ sizeLine ∧ K (.str (cutS z lo hi))
  | _, _, _, _ => False
def slLM : PyData → Option Int → Option Int → KL → Prop
  | .list xs, lo, hi, K => K (cut xs lo hi)
  | _, _, _, _ => False
def revM : PyData → KL → Prop
  | .list xs, K => K xs.reverse
  | _, _ => False
def lenM : PyData → KD → Prop
  | .list xs, K => K (.int xs.length)
  | .tuple xs, K => K (.int xs.length)
  | .str s, K => s.length ≤ sizeLine ∧ K (.int s.length)
  | _, _ => False
def absM : PyData → KD → Prop
  | .int i, K => K (.int (if i < 0 then -i else i))
  | _, _ => False
def sumM : PyData → KD → Prop
  | .list xs, K => match intsOf xs with
    | some ns => K (.int ns.sum)
    | none => False
  | _, _ => False
def boolsOf : List PyData → Option (List Bool)
  | [] => some []
  | .bool i :: r => match boolsOf r with
    | some l => some (i :: l)
    | none => none
  | _ :: _ => none
def allM : PyData → KD → Prop
  | .list xs, K => match boolsOf xs with
    | some ns => K (.bool (ns.all id))
    | none => False
  | _, _ => False
def anyM : PyData → KD → Prop
  | .list xs, K => match boolsOf xs with
    | some ns => K (.bool (ns.any id))
    | none => False
  | _, _ => False
def intM : PyData → KD → Prop
  | .int i, K => K (.int i)
  | .bool b, K => K (.int (if b then 1 else 0))
  | _, _ => False
def tupM : PyData → KD → Prop
  | .list xs, K => K (.tuple xs)
  | .tuple xs, K => K (.tuple xs)
  | _, _ => False
def listM : PyData → KL → Prop
  | .list xs, K => K xs
  | .tuple xs, K => K xs
  | _, _ => False
def sortM : PyData → KL → Prop
  | .list ds, K => (PySem.W.AllAlike ds ∧ PySem.W.Sortable ds ∧ ∀ d ∈ ds, SeqAt.shaped d = true) ∧ K (srt ds)
  | _, _ => False
def min2M : PyData → PyData → KD → Prop
  | .int i, .int j, K => K (.int (if j < i then j else i))
  | _, _, _ => False
def max2M : PyData → PyData → KD → Prop
  | .int i, .int j, K => K (.int (if j > i then j else i))
  | _, _, _ => False
def andM (ma mb : KB → Prop) (K : KB) : Prop := ma fun b => (b = true → mb K) ∧ (b = false → K false)
def orM (ma mb : KB → Prop) (K : KB) : Prop := ma fun b => (b = true → K true) ∧ (b = false → mb K)
def ifM {α : Type} (mt : KB → Prop) (ma mb : (α → Prop) → Prop) (K : α → Prop) : Prop := mt fun b => (b = true → ma K) ∧ (b = false → mb K)
def un2 : PyData → (PyData → PyData → Prop) → Prop
  | .tuple [a, b], K => K a b
  | _, _ => False
def un3 : PyData → (PyData → PyData → PyData → Prop) → Prop
  | .tuple [a, b, c], K => K a b c
  | _, _ => False
def un4 : PyData → (PyData → PyData → PyData → PyData → Prop) → Prop
  | .tuple [a, b, c, d], K => K a b c d
  | _, _ => False
theorem un2_sh {d : PyData} {K} (h : un2 d K) : ∃ a b, d = .tuple [a, b] ∧ K a b := by
  unfold un2 at h
  split at h
  · exact ⟨_, _, rfl, h⟩
  · exact h.elim
theorem un3_sh {d : PyData} {K} (h : un3 d K) : ∃ a b c, d = .tuple [a, b, c] ∧ K a b c := by
  unfold un3 at h
  split at h
  · exact ⟨_, _, _, rfl, h⟩
  · exact h.elim
def forM {σ : Type} (bd : PyData → σ → (σ → Prop) → (σ → Prop) → Prop) (K : σ → Prop) : List PyData → σ → Prop
  | [], s => K s
  | x :: xs, s => bd x s (fun s' => forM bd K xs s') K
def whileM {σ : Type} (st : σ → (σ → Prop) → (σ → Prop) → Prop) (K : σ → Prop) : Nat → σ → Prop
  | 0, _ => False
  | n + 1, s => st s (fun s' => whileM st K n s') K
def lcM {β : Type} (bd : PyData → (β → Prop) → Prop → Prop) (K : List β → Prop) : List PyData → List β → Prop
  | [], acc => K acc
  | x :: xs, acc => bd x (fun y => lcM bd K xs (acc ++ [y])) (lcM bd K xs acc)
/-- ways that come together -/
def joinM {σ : Type} (bd : (σ → Prop) → Prop) (K : σ → Prop) : Prop := bd K
section
variable {X : Cx} {g : G} {env env' : List Sl} {Ψ : Exc → Prop} {P : Po} {pos p lp : Pos} {a b c e tg iter : Expr} {es : List Expr} {rest body : List Stmt} {K : Frag} {F F' H H' : Hp} {σ σ' : SS} {x y : PyData} {z1 z2 : Bool}
theorem ws_env {env' : List Sl} (h : env = env') (k : WS X g rest env' P) : WS X g rest env P := h ▸ k
section
variable {Q : KD} {Φ : PyData → Bool → Prop}
theorem add_sh (h : addM x y Q) (k : ∀ r, Q r → Φ r true) : AddP Φ x z1 y z2 := by
  unfold addM at h
  split at h
  · exact .int (k _ h)
  · exact .str (k _ h.2) h.1
  · exact .lst (k _ h.2) h.1
  · exact .tup (k _ h.2) h.1
  · exact h.elim
theorem sub_sh (h : subM x y Q) (k : ∀ r, Q r → Φ r true) : IntP (fun _ _ => True) (fun i j => i - j) Φ x z1 y z2 := by
  unfold subM at h
  split at h
  · exact ⟨k _ h, trivial⟩
  · exact h.elim
inductive MulP (Φ : PyData → Bool → Prop) : PyData → Bool → PyData → Bool → Prop
  | mk {i j : Int} {z1 z2 : Bool} : Φ (.int (i * j)) true → CMul i j ∨ CMulW i j → MulP Φ (.int i) z1 (.int j) z2
theorem we_mulA (h : WE X g a env (fun d1 z1 => WE X g b env (fun d2 z2 => MulP Φ d1 z1 d2 z2) Ψ) Ψ) : WE X g (.BinOp a .Mult b pos) env Φ Ψ :=
  we_op (pe_op (op_mul.or op_mulW) (peS a) (peS b)) (fun _ _ _ _ ⟨h, hc⟩ => by
    rcases hc with hc | hc
    · exact dop_l (dop_I hc h fun F => .int _)
    · exact dop_r (dop_I hc h fun F => .int _)) h
theorem mul_sh (h : mulM x y Q) (k : ∀ r, Q r → Φ r true) : MulP Φ x z1 y z2 := by
  unfold mulM at h
  split at h
  · exact ⟨k _ h.2, h.1⟩
  · exact h.elim
theorem mod_sh (h : modM x y Q) (k : ∀ r, Q r → Φ r true) : IntP (fun _ j => 0 < j) (fun i j => i % j) Φ x z1 y z2 := by
  unfold modM at h
  split at h
  · exact ⟨k _ h.2, h.1⟩
  · exact h.elim
theorem ix_sh (h : ixM x y Q) (k : ∀ r, Q r → Φ r true) : IxP Φ x z1 y z2 := by
  unfold ixM at h
  split at h
  · split at h
    · rename_i e; exact .lst (k _ h) e
    · exact h.elim
  · split at h
    · rename_i e; exact .tup (k _ h) e
    · exact h.elim
  · obtain ⟨h1, h⟩ := h
    split at h
    · rename_i e; exact .str (k _ h) h1 e
    · exact h.elim
  · exact h.elim
theorem len_sh (h : lenM x Q) (k : ∀ r, Q r → Φ r true) : LenP Φ x z1 := by
  unfold lenM at h
  split at h
  · exact .lst (k _ h)
  · exact .tup (k _ h)
  · exact .str (k _ h.2) h.1
  · exact h.elim
theorem abs_sh (h : absM x Q) (k : ∀ r, Q r → Φ r true) : ∃ i, x = .int i ∧ Φ (.int (if i < 0 then -i else i)) true := by
  unfold absM at h
  split at h
  · exact ⟨_, rfl, k _ h⟩
  · exact h.elim
theorem intsOf_eq : ∀ {xs : List PyData} {ns : List Int}, intsOf xs = some ns → xs = ns.map .int
  | [], _, h => by cases h; rfl
  | d :: r, ns, h => by
    cases d with
    | int i =>
      unfold intsOf at h
      split at h
      · rename_i l e; cases h; rw [intsOf_eq e]; rfl
      · cases h
    | _ => cases h
theorem ints_of (ns : List Int) : intsOf (ns.map .int) = some ns := by
  induction ns with
  | nil => rfl
  | cons n ns ih => show (match intsOf (ns.map .int) with | some l => some (n :: l) | none => none) = _; rw [ih]
theorem boolsOf_eq : ∀ {xs : List PyData} {ns : List Bool}, boolsOf xs = some ns → xs = ns.map .bool
  | [], _, h => by cases h; rfl
  | d :: r, ns, h => by
    cases d with
    | bool i =>
      unfold boolsOf at h
      split at h
      · rename_i l e; cases h; rw [boolsOf_eq e]; rfl
      · cases h
    | _ => cases h
theorem bools_of (ns : List Bool) : boolsOf (ns.map .bool) = some ns := by
  induction ns with
  | nil => rfl
  | cons n ns ih => show (match boolsOf (ns.map .bool) with | some l => some (n :: l) | none => none) = _; rw [ih]
theorem sum_sh (h : sumM x Q) (k : ∀ r, Q r → Φ r true) : ∃ ns : List Int, x = .list (ns.map .int) ∧ Φ (.int ns.sum) true := by
  unfold sumM at h
  split at h
  · split at h
    · rename_i e; exact ⟨_, by rw [intsOf_eq e], k _ h⟩
    · exact h.elim
  · exact h.elim
theorem all_sh (h : allM x Q) (k : ∀ r, Q r → Φ r true) : ∃ ns : List Bool, x = .list (ns.map .bool) ∧ Φ (.bool (ns.all id)) true := by
  unfold allM at h
  split at h
  · split at h
    · rename_i e; exact ⟨_, by rw [boolsOf_eq e], k _ h⟩
    · exact h.elim
  · exact h.elim
theorem any_sh (h : anyM x Q) (k : ∀ r, Q r → Φ r true) : ∃ ns : List Bool, x = .list (ns.map .bool) ∧ Φ (.bool (ns.any id)) true := by
  unfold anyM at h
  split at h
  · split at h
    · rename_i e; exact ⟨_, by rw [boolsOf_eq e], k _ h⟩
    · exact h.elim
  · exact h.elim
theorem tup_sh (h : tupM x Q) (k : ∀ r, Q r → Φ r true) (hz : z1 = true ∨ isTyB "tuple" x = false := by exact Or.inl rfl) : TupP Φ x z1 := by
  unfold tupM at h
  split at h
  · exact .lst (k _ h)
  · rcases hz with hz | hz
    · subst hz; exact .tup (k _ h)
    · rename_i xs
      have e : isTyB "tuple" (.tuple xs) = true := by show (L2.kitB "tuple" "tuple").getD false = true; decide +kernel
      rw [e] at hz; cases hz
  · exact h.elim
theorem min2_sh (h : min2M x y Q) (k : ∀ r, Q r → Φ r true) : ∃ i j, x = .int i ∧ y = .int j ∧ Φ (.int (if j < i then j else i)) true := by
  unfold min2M at h
  split at h
  · exact ⟨_, _, rfl, rfl, k _ h⟩
  · exact h.elim
theorem max2_sh (h : max2M x y Q) (k : ∀ r, Q r → Φ r true) : ∃ i j, x = .int i ∧ y = .int j ∧ Φ (.int (if j > i then j else i)) true := by
  unfold max2M at h
  split at h
  · exact ⟨_, _, rfl, rfl, k _ h⟩
  · exact h.elim
end
theorem bool_sh {Q : KB} {Φ : Bool → Prop} (h : boolM x Q) (k : ∀ r, Q r → Φ r) : ∃ b, x = .bool b ∧ Φ b := by
  unfold boolM at h
  split at h
  · exact ⟨_, rfl, k _ h⟩
  · exact h.elim
section
variable {Q : KL} {Φ : List PyData → Prop}
theorem addL_sh (h : addLM x y Q) (k : ∀ r, Q r → Φ r) : ∃ xs, x = .list xs ∧ ∃ ys, y = .list ys ∧ xs.length + ys.length ≤ sizeLine ∧ Φ (xs ++ ys) := by
  unfold addLM at h
  split at h
  · exact ⟨_, rfl, _, rfl, h.1, k _ h.2⟩
  · exact h.elim
theorem wn_addA (h : WE X g a env (fun d1 _ => WE X g b env (fun d2 _ => ∃ xs, d1 = .list xs ∧ ∃ ys, d2 = .list ys ∧ xs.length + ys.length ≤ sizeLine ∧ Φ (xs ++ ys)) Ψ) Ψ) : WN X g (.BinOp a .Add b pos) env Φ Ψ := fun W tk σ F H st hx Q hQ => by
  refine semE_of (pe_op op_catL (peS a) (peS b)) ?_
  refine h W tk σ F H st hx _ fun d1 z1 v1 F1 H1 h1 st1 e1 r1 => ?_
  refine h1 W tk σ F1 H1 st1 hx _ fun d2 z2 v2 F2 H2 ⟨xs, hx1, ys, hy1, hl, hp⟩ st2 e2 r2 => ?_
  subst hx1 hy1
  obtain ⟨a1, vs1, rfl, s1, p1⟩ := rd_lst st2.toSk (rd_mono e2 r1)
  obtain ⟨a2, vs2, rfl, s2, p2⟩ := rd_lst st2.toSk r2
  exact ⟨a1, a2, vs1, vs2, rfl, rfl, s1, s2, by rw [dpa_len p1, dpa_len p2]; exact hl, fun p hp' => put_new st2 hp' (dpa_app p1 p2) hp fun ds v F' H' q1 q2 q3 q4 => hQ ds v F' H' q1 q2 ((e1.trans e2).trans q3) q4⟩
theorem list_sh (h : listM x Q) (k : ∀ r, Q r → Φ r) : LstP Φ x z1 := by
  unfold listM at h
  split at h
  · exact .lst (k _ h)
  · exact .tup (k _ h)
  · exact h.elim
theorem sort_sh (h : sortM x Q) (k : ∀ r, Q r → Φ r) : ∃ ds, x = .list ds ∧ PySem.W.AllAlike ds ∧ PySem.W.Sortable ds ∧ (∀ d ∈ ds, SeqAt.shaped d = true) ∧ Φ (srt ds) := by
  unfold sortM at h
  split at h
  · exact ⟨_, rfl, h.1.1, h.1.2.1, h.1.2.2, k _ h.2⟩
  · exact h.elim
theorem wn_revA {j : Nat} {p1 p2 p3 : Pos} (h : WE X g a env (fun d _ => revM d Φ) Ψ) : WN X g (.Subscript a (.Slice none none (some (.UnaryOp .USub (.Constant (.int 1) j p1) p2)) p3) pos) env Φ Ψ := fun W tk σ F H st hx Q hQ => by
  refine semE_of (pe_revL (peS a)) ?_
  refine h W tk σ F H st hx _ fun d1 z1 v1 F1 H1 h1 st1 e1 r1 => ?_
  cases d1 with
  | list xs =>
    have h1 : Φ xs.reverse := h1
    obtain ⟨a1, vs1, rfl, s1, p1⟩ := rd_lst st1.toSk r1
    exact ⟨a1, vs1, rfl, s1, fun p hp => put_new st1 hp (dpa_rev p1) h1 fun ds v F' H' q1 q2 q3 q4 => hQ ds v F' H' q1 q2 (e1.trans q3) q4⟩
  | _ => exact h1.elim
theorem rev_sh (h : revM x Q) (k : ∀ r, Q r → Φ r) : revM x Φ := by
  unfold revM at *
  split at h
  · exact k _ h
  · exact h.elim
end
theorem sl_sh {Q : KD} {Φ : KD} {lo hi : Option Int} (h : slM x lo hi Q) (k : ∀ r, Q r → Φ r) : slM x lo hi Φ := by
  unfold slM at *
  split at h
  · exact k _ h
  · exact k _ h
  · exact ⟨h.1, k _ h.2⟩
  · exact h.elim
theorem we_slA {lo hi : Option Expr} {p2 : Pos} {Φ : PyData → Bool → Prop} (h : WE X g a env (fun d1 z => z = true ∧ WP X g lo env (fun l => WP X g hi env (fun u => slM d1 l u fun r => Φ r true) Ψ) Ψ) Ψ) : WE X g (.Subscript a (.Slice lo hi none p2) pos) env Φ Ψ := fun W tk σ F H st hx Q hQ => by
  refine semE_of (pe_slice (sl_list.or (sl_tupA.or sl_str)) (peS a) (poS lo) (poS hi)) ?_
  refine h W tk σ F H st hx _ fun d1 z1 v1 F1 H1 ⟨hz, h1⟩ st1 e1 r1 => ?_
  subst hz
  refine wp_run h1 tk st1 hx fun l F2 H2 h2 st2 e2 => wp_run h2 tk st2 hx fun u F3 H3 h3 st3 e3 => ?_
  have E := (e1.trans e2).trans e3
  have r3 := rd_mono (e2.trans e3) r1
  cases d1 with
  | list xs =>
    have h3 : Φ (.list (cut xs l u)) true := h3
    obtain ⟨a1, vs1, rfl, s1, p1⟩ := rd_lst st3.toSk r3
    exact .inl ⟨a1, vs1, rfl, s1, fun p hp => put_lst st3 hp (dpa_cut p1 l u) h3 fun d z v F' H' q1 q2 q3 q4 => hQ d z v F' H' q1 q2 (E.trans q3) q4⟩
  | tuple xs =>
    have h3 : Φ (.tuple (cut xs l u)) true := h3
    obtain ⟨a1, vs1, rfl, s1, p1⟩ := rd_tup st3.toSk r3
    refine .inr (.inl ⟨a1, vs1, rfl, s1, fun hw => ?_, fun _ p hp => put_tup st3 hp (dpa_cut p1 l u) h3 fun d z v F' H' q1 q2 q3 q4 => hQ d z v F' H' q1 q2 (E.trans q3) q4⟩)
    rw [dpa_len p1] at hw
    rw [cut_whole hw] at h3
    exact hQ _ true _ F3 H3 h3 st3 E r3
  | str s =>
    obtain ⟨hl, h3⟩ : s.length ≤ sizeLine ∧ Φ (.str (cutS s l u)) true := h3
    rw [rd_str r3]
    exact .inr (.inr ⟨s, rfl, hl, hQ _ true _ F3 H3 h3 st3 E (.str _)⟩)
  | _ => exact h3.elim
theorem into_sh {Q : Int → Prop} {Φ : Int → Prop} (h : intO x Q) (k : ∀ r, Q r → Φ r) : ∃ i, x = .int i ∧ Φ i := by
  unfold intO at h
  split at h
  · exact ⟨_, rfl, k _ h⟩
  · exact h.elim
section
variable {Q : KB} {Φ : KB}
theorem eq_sh (h : eqM x y Q) (k : ∀ b, Q b → Φ b) : ∃ b, CP K g env (rEqA K) x z1 y z2 b ∧ Φ b := by
  unfold eqM at h
  split at h
  · exact ⟨_, cp_eqI, k _ h⟩
  · exact ⟨_, cp_eqS, k _ h⟩
  · exact ⟨_, cp_eqB, k _ h⟩
  · exact ⟨_, cp_eqD h.1 h.2.1, k _ h.2.2⟩
theorem ne_sh (h : neM x y Q) (k : ∀ b, Q b → Φ b) : ∃ b, CP K g env (rNeA K) x z1 y z2 b ∧ Φ b := by
  unfold neM at h
  split at h
  · exact ⟨_, cp_neI, k _ h⟩
  · exact ⟨_, cp_neS, k _ h⟩
  · exact ⟨_, cp_neB, k _ h⟩
  · exact ⟨_, cp_neD h.1 h.2.1, k _ h.2.2⟩
theorem lt_sh (h : ltM x y Q) (k : ∀ b, Q b → Φ b) : ∃ b, CP K g env (rLtA K) x z1 y z2 b ∧ Φ b := by
  unfold ltM at h
  split at h
  · exact ⟨_, cp_lt, k _ h⟩
  · split at h
    · rename_i e1 e2
      rw [intsOf_eq e1, intsOf_eq e2]
      exact ⟨_, cp_ltT, k _ h⟩
    · exact h.elim
  · exact h.elim
abbrev rLeA (K : Frag) : R2 := fun x y H Q => (rI0 fun i j => .bl (decide (i ≤ j))) x y H Q ∨ rLeT K x y H Q
theorem op_leA {k : Nat} (hr : Room k X.A) : OpR X (compareOp .LtE) (rLeA X.K) := op_le.or (op_leT hr.units0)
theorem cp_leA {i j : Int} : CP K g env (rLeA K) (.int i) z1 (.int j) z2 (decide (i ≤ j)) := cp_l cp_le
theorem cp_leTA (ns ms : List Int) : CP K g env (rLeA K) (.tuple (ns.map .int)) z1 (.tuple (ms.map .int)) z2 (leTup ns ms) := cp_r fun σ F H v1 v2 st r1 r2 Q q => by
  obtain ⟨a1, vs1, rfl, s1, p1⟩ := rd_tup st.toSk r1
  obtain ⟨a2, vs2, rfl, s2, p2⟩ := rd_tup st.toSk r2
  rw [dpa_ints_eq p1] at s1
  rw [dpa_ints_eq p2] at s2
  exact ⟨a1, a2, ns, ms, rfl, rfl, s1, s2, q⟩
theorem le_sh (h : leM x y Q) (k : ∀ b, Q b → Φ b) : ∃ b, CP K g env (rLeA K) x z1 y z2 b ∧ Φ b := by
  unfold leM at h
  split at h
  · exact ⟨_, cp_leA, k _ h⟩
  · split at h
    · rename_i e1 e2
      rw [intsOf_eq e1, intsOf_eq e2]
      exact ⟨_, cp_leTA _ _, k _ h⟩
    · exact h.elim
  · exact h.elim
theorem gt_sh (h : gtM x y Q) (k : ∀ b, Q b → Φ b) : ∃ b, CP K g env (rI0 fun i j => .bl (decide (j < i))) x z1 y z2 b ∧ Φ b := by
  unfold gtM at h
  split at h
  · exact ⟨_, cp_gt, k _ h⟩
  · exact h.elim
theorem ge_sh (h : geM x y Q) (k : ∀ b, Q b → Φ b) : ∃ b, CP K g env (rI0 fun i j => .bl (decide (j ≤ i))) x z1 y z2 b ∧ Φ b := by
  unfold geM at h
  split at h
  · exact ⟨_, cp_ge, k _ h⟩
  · exact h.elim
theorem flAll_dp : ∀ {ds : List PyData} {vs xs : List V}, flAll ds = some xs → DqAll K F vs ds → vs = xs
  | [], _, _, h, q => by cases q; cases h; rfl
  | d :: r, _, _, h, q => by
    cases q with
    | cons q1 q2 =>
      unfold flAll at h
      split at h
      · rename_i e1 e2
        cases h
        rw [fl_dp q1 e1, flAll_dp e2 q2]
      · cases h
theorem flAll_flat : ∀ {ds : List PyData} {xs : List V}, flAll ds = some xs → xs.all flatV = true
  | [], _, h => by cases h; rfl
  | d :: r, _, h => by
    unfold flAll at h
    split at h
    · rename_i e1 e2
      cases h
      rw [List.all_cons, fl_flat e1, flAll_flat e2]; rfl
    · cases h
theorem in_sh (h : inM x y Q) (k : ∀ b, Q b → Φ b) : ∃ b, CP K g env (rInA K) x z1 y z2 b ∧ Φ b := by
  cases y with
  | list ds =>
    have h : inLstM x ds Q := h
    unfold inLstM at h
    split at h
    · rename_i v vs e1 e2
      refine ⟨_, cp_l fun σ F H v1 v2 st r1 r2 Q q => ?_, k _ h⟩
      obtain ⟨a2, vs2, rfl, s2, p2⟩ := rd_lst st.toSk r2
      have e3 := fl_dp (rd_now st.toSk r1) e1
      have e4 := flAll_dp e2 p2
      subst e3 e4
      exact ⟨a2, vs2, rfl, .inl s2, fl_flat e1, flAll_flat e2, q⟩
    · exact ⟨_, cp_inD h.1 h.2.1, k _ h.2.2⟩
  | tuple ds =>
    have h : inTplM x ds Q := h
    unfold inTplM at h
    split at h
    · rename_i v vs e1 e2
      refine ⟨_, cp_l fun σ F H v1 v2 st r1 r2 Q q => ?_, k _ h⟩
      obtain ⟨a2, vs2, rfl, s2, p2⟩ := rd_tup st.toSk r2
      have e3 := fl_dp (rd_now st.toSk r1) e1
      have e4 := flAll_dp e2 p2
      subst e3 e4
      exact ⟨a2, vs2, rfl, .inr s2, fl_flat e1, flAll_flat e2, q⟩
    · exact ⟨_, cp_inTD h.1 h.2.1, k _ h.2.2⟩
  | str t =>
    cases x with
    | str s => exact ⟨_, cp_inS, k _ h⟩
    | _ => exact (show False from h).elim
  | _ => exact (show False from h).elim
theorem notIn_sh (h : notInM x y Q) (k : ∀ b, Q b → Φ b) : ∃ b, CP K g env (rNotInA K) x z1 y z2 b ∧ Φ b := by
  cases y with
  | list ds =>
    have h : inLstM x ds (fun b => Q (!b)) := h
    unfold inLstM at h
    split at h
    · rename_i v vs e1 e2
      refine ⟨_, cp_l fun σ F H v1 v2 st r1 r2 Q q => ?_, k _ h⟩
      obtain ⟨a2, vs2, rfl, s2, p2⟩ := rd_lst st.toSk r2
      have e3 := fl_dp (rd_now st.toSk r1) e1
      have e4 := flAll_dp e2 p2
      subst e3 e4
      exact ⟨a2, vs2, rfl, .inl s2, fl_flat e1, flAll_flat e2, q⟩
    · exact ⟨_, cp_notInD h.1 h.2.1, k _ h.2.2⟩
  | tuple ds =>
    have h : inTplM x ds (fun b => Q (!b)) := h
    unfold inTplM at h
    split at h
    · rename_i v vs e1 e2
      refine ⟨_, cp_l fun σ F H v1 v2 st r1 r2 Q q => ?_, k _ h⟩
      obtain ⟨a2, vs2, rfl, s2, p2⟩ := rd_tup st.toSk r2
      have e3 := fl_dp (rd_now st.toSk r1) e1
      have e4 := flAll_dp e2 p2
      subst e3 e4
      exact ⟨a2, vs2, rfl, .inr s2, fl_flat e1, flAll_flat e2, q⟩
    · exact ⟨_, cp_notInTD h.1 h.2.1, k _ h.2.2⟩
  | str t =>
    cases x with
    | str s => exact ⟨_, cp_notInS, k _ h⟩
    | _ => exact (show False from h).elim
  | _ => exact (show False from h).elim
theorem isN_sh (k : Φ (isNone x)) : ∃ b, CP K g env rIsN x z1 .none z2 b ∧ Φ b := ⟨_, cp_isN, k⟩
theorem notN_sh (k : Φ (!isNone x)) : ∃ b, CP K g env rNotN x z1 .none z2 b ∧ Φ b := ⟨_, cp_notN, k⟩
end
section
variable {ma mb mt : KB → Prop} {Q : KB} {Φ : KB}
theorem WW.mono {Φ' : Bool → Prop} (h : WW X g e env Φ Ψ) (k : ∀ d, Φ d → Φ' d) : WW X g e env Φ' Ψ :=
  fun W tk σ F H st hx Q hQ => h W tk σ F H st hx Q fun b F' H' p => hQ b F' H' (k b p)
theorem ww_andS {re : List Expr} (h : andM ma mb Q) (ha : ∀ Q, ma Q → WT X g a env Q Ψ) (hb : ∀ Q, mb Q → WW X g (.BoolOp .And (b :: re) pos) env Q Ψ) (k : ∀ r, Q r → Φ r) : WW X g (.BoolOp .And (a :: b :: re) pos) env Φ Ψ :=
  ww_and ((ha _ h).mono fun r ⟨h1, h2⟩ => ⟨fun e => (hb _ (h1 e)).mono k, fun e => k _ (h2 e)⟩)
theorem ww_orS {re : List Expr} (h : orM ma mb Q) (ha : ∀ Q, ma Q → WT X g a env Q Ψ) (hb : ∀ Q, mb Q → WW X g (.BoolOp .Or (b :: re) pos) env Q Ψ) (k : ∀ r, Q r → Φ r) : WW X g (.BoolOp .Or (a :: b :: re) pos) env Φ Ψ :=
  ww_or ((ha _ h).mono fun r ⟨h1, h2⟩ => ⟨fun e => k _ (h1 e), fun e => (hb _ (h2 e)).mono k⟩)
theorem we_andS {re : List Expr} {Φ : PyData → Bool → Prop} (h : andM ma mb Q) (ha : ∀ Q, ma Q → WE X g a env (fun d _ => ∃ k, d = .bool k ∧ Q k) Ψ) (hb : ∀ Q, mb Q → WE X g (.BoolOp .And (b :: re) pos) env (fun d _ => ∃ k, d = .bool k ∧ Q k) Ψ) (k : ∀ r, Q r → Φ (.bool r) true) : WE X g (.BoolOp .And (a :: b :: re) pos) env Φ Ψ :=
  we_and ((ha _ h).mono fun d z ⟨r, hd, h1, h2⟩ => ⟨r, hd, fun e => by
    intro W tk σ F H st hx Q' hQ'
    refine hb _ (h1 e) W tk σ F H st hx Q' fun d z v F' H' ⟨r2, hd2, h3⟩ s1 e1 r1 => ?_
    subst hd2
    have := rd_bl r1
    subst this
    exact hQ' _ true _ F' H' (k _ h3) s1 e1 (.bl _), fun e => k _ (h2 e)⟩)
theorem we_orS {re : List Expr} {Φ : PyData → Bool → Prop} (h : orM ma mb Q) (ha : ∀ Q, ma Q → WE X g a env (fun d _ => ∃ k, d = .bool k ∧ Q k) Ψ) (hb : ∀ Q, mb Q → WE X g (.BoolOp .Or (b :: re) pos) env (fun d _ => ∃ k, d = .bool k ∧ Q k) Ψ) (k : ∀ r, Q r → Φ (.bool r) true) : WE X g (.BoolOp .Or (a :: b :: re) pos) env Φ Ψ :=
  we_or ((ha _ h).mono fun d z ⟨r, hd, h1, h2⟩ => ⟨r, hd, fun e => k _ (h1 e), fun e => by
    intro W tk σ F H st hx Q' hQ'
    refine hb _ (h2 e) W tk σ F H st hx Q' fun d z v F' H' ⟨r2, hd2, h3⟩ s1 e1 r1 => ?_
    subst hd2
    have := rd_bl r1
    subst this
    exact hQ' _ true _ F' H' (k _ h3) s1 e1 (.bl _)⟩)
theorem we_ifS {m1 m2 : KD → Prop} {Q : KD} {Φ : PyData → Bool → Prop} (h : ifM mt m1 m2 Q) (ht : ∀ Q, mt Q → WT X g c env Q Ψ) (h1 : ∀ Q, m1 Q → WE X g a env (fun d z => z = true ∧ Q d) Ψ) (h2 : ∀ Q, m2 Q → WE X g b env (fun d z => z = true ∧ Q d) Ψ) (k : ∀ d, Q d → Φ d true) : WE X g (.IfExp c a b pos) env Φ Ψ :=
  we_if ((ht _ h).mono fun r ⟨q1, q2⟩ => ⟨fun e => (h1 _ (q1 e)).mono fun d z ⟨hz, hd⟩ => hz ▸ k d hd, fun e => (h2 _ (q2 e)).mono fun d z ⟨hz, hd⟩ => hz ▸ k d hd⟩)
end
section
variable {t : TG} {A : PyData → Option (List (Nat × PyData))} {τ υ : Type}
theorem forS {bd : PyData → τ → (τ → Prop) → (τ → Prop) → Prop} {Q : τ → Prop} {xs : List PyData} {s0 : τ} (h : forM bd Q xs s0) (mk : τ → υ → List Sl) (u0 : υ) (h0 : env = mk s0 u0) (hend : ∀ s u, Q s → P.nx (mk s u))
    (hturn : (∀ s u, Q s → P.nx (mk s u)) → ∀ x s u (N : τ → Prop), bd x s N Q → ∃ l, A x = some l ∧ (l.all fun q => Nat.blt q.1 (mk s u).length) = true ∧ WS X g body (putsE (mk s u) l) (P.turn fun e => ∃ s' u', N s' ∧ e = mk s' u')) :
    ∃ Pv : Nat → List Sl → Prop, Pv 0 env ∧ (∀ i x, xs[i]? = some x → FT X g body A P Pv i x) ∧ ∀ e, Pv xs.length e → P.nx e := by
  refine ⟨fun i e => ∃ s u, forM bd Q (xs.drop i) s ∧ e = mk s u, ⟨s0, u0, h, h0⟩, fun i x hx e ⟨s, u, hf, he⟩ => ?_, fun e ⟨s, u, hf, he⟩ => ?_⟩
  · subst he
    have hi := (List.getElem?_eq_some_iff.mp hx).1
    have ed : xs.drop i = x :: xs.drop (i + 1) := by
      rw [List.drop_eq_getElem_cons hi]
      congr 1
      exact (List.getElem?_eq_some_iff.mp hx).2
    rw [ed] at hf
    obtain ⟨l, h1, h2, h3⟩ := hturn hend x s u _ hf
    exact ⟨l, h1, h2, h3⟩
  · subst he
    rw [List.drop_length] at hf
    exact hend s u hf
theorem whileS {st : τ → (τ → Prop) → (τ → Prop) → Prop} {Q : τ → Prop} {s0 : τ} (h : ∃ n, whileM st Q n s0) (hp : PassesOwn (model X.prog X.w) X.A X.env X.xe) (mk : τ → υ → List Sl) (u0 : υ) (h0 : env = mk s0 u0) (hend : ∀ s u, Q s → P.nx (mk s u))
    (hturn : (∀ s u, Q s → P.nx (mk s u)) → ∀ s u (N : τ → Prop), st s N Q → WT X g c (mk s u) (fun k => (k = true → WS X g body (mk s u) (P.turn fun e => ∃ s' u', N s' ∧ e = mk s' u')) ∧ (k = false → P.nx (mk s u))) (fun c => P.ex c (mk s u))) : W1 X g (.While c body [] pos) env P := by
  obtain ⟨n, h⟩ := h
  refine w1_while hp (fun m e => ∃ s u, whileM st Q m s ∧ e = mk s u) n ⟨s0, u0, h, h0⟩ fun m e ⟨s, u, hw, he⟩ => ?_
  subst he
  cases m with
  | zero => exact hw.elim
  | succ m =>
    refine (hturn hend s u _ hw).mono fun k ⟨h1, h2⟩ => ⟨fun e => ?_, h2⟩
    exact (h1 e).mono (fun e ⟨s', u', h3, h4⟩ => ⟨m, Nat.lt_succ_self _, s', u', h3, h4⟩) (fun _ _ h => h) (fun _ h => h) (fun e ⟨s', u', h3, h4⟩ => ⟨m, Nat.lt_succ_self _, s', u', h3, h4⟩) (fun _ _ h => h)
theorem lcS {bd : PyData → KD → Prop → Prop} {Q : KL} {xs : List PyData} {scope : Scope} {ifs : List Expr} {elt : Expr} {vs : List Nat} {Φ : List PyData → Prop} (h : lcM bd Q xs []) 
    (ht : ∀ x (kp : KD) (sk : Prop), bd x kp sk → ∃ l, A x = some l ∧ (l.all fun q => vs.elem q.1 && Nat.blt q.1 env.length) = true ∧ ∀ (g' : G) s H0 C cl fp, WTs (BX X scope s H0 C cl fp) g' ifs (putsE (wipeE env vs) l) (fun b =>
      (b = true → ∀ s H0 C cl fp, WE (BX X scope s H0 C cl fp) g' elt (putsE (wipeE env vs) l) (fun y z => z = true ∧ kp y) (fun _ => False)) ∧ (b = false → sk))) (k : ∀ acc, Q acc → Φ acc) :
    ∃ Pv : Nat → List PyData → Prop, Pv 0 [] ∧ (∀ i x, xs[i]? = some x → LT2 X env scope ifs elt vs A Pv i x) ∧ ∀ acc, Pv xs.length acc → Φ acc := by
  refine ⟨fun i acc => lcM bd Q (xs.drop i) acc, h, fun i x hx acc hq => ?_, fun acc hq => k acc (by
    have hq : lcM bd Q (xs.drop xs.length) acc := hq
    rw [List.drop_length] at hq; exact hq)⟩
  have hi := (List.getElem?_eq_some_iff.mp hx).1
  have ed : xs.drop i = x :: xs.drop (i + 1) := by
    rw [List.drop_eq_getElem_cons hi]
    congr 1
    exact (List.getElem?_eq_some_iff.mp hx).2
  have hq : lcM bd Q (xs.drop i) acc := hq
  rw [ed] at hq
  exact ht x _ _ hq
end
/-- behind ways that come together -/
theorem ws_joinS {τ υ : Type} {st : Stmt} {bd : (τ → Prop) → Prop} {Q : τ → Prop} (h : joinM bd Q) (mk : τ → υ → List Sl) (h1 : ∀ Q, bd Q → W1 X g st env (P.thn fun e => ∃ s u, Q s ∧ e = mk s u)) (h2 : ∀ s u, Q s → WS X g rest (mk s u) P) : WS X g (st :: rest) env P :=
  ws_mid (fun e => ∃ s u, Q s ∧ e = mk s u) (h1 Q h) fun e ⟨s, u, hq, he⟩ => he ▸ h2 s u hq
end
end TL
namespace TL
open PySem PySem.Spec PyProof.Rows L2
def keyA : PyData → Option Key
  | .int i => some (.inl i)
  | .str s => some (.inr s)
  | _ => none
def keyAs : List PyData → Option (List Key)
  | [] => some []
  | d :: r => match keyA d, keyAs r with
    | some k, some l => some (k :: l)
    | _, _ => none
def keyT : PyData → Option (List Key)
  | .tuple xs => keyAs xs
  | _ => none
def getTM (kvs : List (List Key × PyData)) (key : PyData) (K : KD) : Prop := match keyT key with
  | some k => match valP kvs k with
    | some d => K d
    | none => False
  | none => False
def inTM (kvs : List (List Key × PyData)) (key : PyData) (K : KB) : Prop := match keyT key with
  | some k => K (valP kvs k).isSome
  | none => False
def inKM (kvs : List (Key × PyData)) (key : PyData) (K : KB) : Prop := match keyA key with
  | some k => K (valP kvs k).isSome
  | none => False
def putTM (kvs : List (List Key × PyData)) (key v : PyData) (K : List (List Key × PyData) → Prop) : Prop := match keyT key with
  | some k => kvs.length < sizeLine ∧ K (putP kvs k v)
  | none => False
def putKM (kvs : List (Key × PyData)) (key v : PyData) (K : List (Key × PyData) → Prop) : Prop := match keyA key with
  | some k => kvs.length < sizeLine ∧ K (putP kvs k v)
  | none => False
theorem keyA_eq {d : PyData} {k : Key} (h : keyA d = some k) : d = kD k := by
  unfold keyA at h
  split at h
  · cases h; rfl
  · cases h; rfl
  · cases h
theorem keyAs_eq : ∀ {ds : List PyData} {k : List Key}, keyAs ds = some k → ds = k.map kD
  | [], _, h => by cases h; rfl
  | d :: r, _, h => by
    unfold keyAs at h
    split at h
    · rename_i e1 e2
      cases h
      rw [keyA_eq e1, keyAs_eq e2]; rfl
    · cases h
theorem keyT_eq {d : PyData} {k : List Key} (h : keyT d = some k) : d = .tuple (k.map kD) := by
  unfold keyT at h
  split at h
  · rw [keyAs_eq h]
  · cases h
section
variable {X : Cx} {g : G} {env env' : List Sl} {Ψ : Exc → Prop} {P : Po} {pos p lp : Pos} {a b c e tg iter : Expr} {es : List Expr} {rest body : List Stmt} {K : Frag} {F F' H H' : Hp} {σ σ' : SS} {x y : PyData} {z1 z2 : Bool}
theorem into_ob {Q : Int → Prop} (h : intO x Q) : ∃ i, x = .int i ∧ Q i := into_sh h fun _ h => h
theorem rng_sh {lo hi : PyData} {Q Φ : KL} (h : rngM lo hi Q) (k : ∀ r, Q r → Φ r) : rngM lo hi Φ := by
  unfold rngM at *
  split at h
  · exact ⟨h.1, k _ h.2⟩
  · exact h.elim
theorem enu_sh {Q Φ : KL} (h : enuM x Q) (k : ∀ r, Q r → Φ r) : enuM x Φ := by
  unfold enuM at *
  split at h
  · exact k _ h
  · exact k _ h
  · exact h.elim
theorem it_sh {Q Φ : KL} (h : itM x Q) (k : ∀ r, Q r → Φ r) : itM x Φ := by
  unfold itM at *
  split at h
  · exact k _ h
  · exact k _ h
  · exact ⟨h.1, k _ h.2⟩
  · exact h.elim
theorem ch_sh2 {ma mb : KB → Prop} {Q Φ : KB} {r r' : R2} (h : andM ma mb Q) (h1 : ∀ Q, ma Q → ∃ k, CP X.K g env r x z1 y z2 k ∧ Q k) (h2 : ∀ Q, mb Q → WE X g c env (fun d3 z3 => ∃ k', CP X.K g env r' y z2 d3 z3 k' ∧ Q k') Ψ) (k : ∀ b, Q b → Φ b) :
    ∃ k, CP X.K g env r x z1 y z2 k ∧ (k = true → WE X g c env (fun d3 z3 => ∃ k', CP X.K g env r' y z2 d3 z3 k' ∧ Φ k') Ψ) ∧ (k = false → Φ false) := by
  obtain ⟨b, hb, q1, q2⟩ := h1 _ h
  exact ⟨b, hb, fun e => (h2 _ (q1 e)).mono fun d z ⟨k', c1, c2⟩ => ⟨k', c1, k _ c2⟩, fun e => k _ (q2 e)⟩
theorem kvp_val {κ : Type} [DecidableEq κ] {k : κ} : ∀ {xs : List (κ × V)} {kvs : List (κ × PyData)}, KVp K F xs kvs → (∀ d, valP kvs k = some d → ∃ v, valV xs k = some v ∧ Dq K F v d) ∧ (valV xs k).isSome = (valP kvs k).isSome
  | _, _, .nil => ⟨fun d h => (by cases h), rfl⟩
  | p :: xs, q :: kvs, .cons r t => by
    obtain ⟨i1, i2⟩ := kvp_val (k := k) t
    unfold valV valP
    rw [List.find?_cons, List.find?_cons, r.1]
    by_cases h : q.1 = k
    · rw [decide_eq_true h]
      refine ⟨fun d hd => ?_, rfl⟩
      have e : q.2 = d := Option.some.inj hd
      exact ⟨p.2, rfl, e ▸ r.2⟩
    · rw [decide_eq_false h]
      exact ⟨i1, i2⟩
section
variable {kT : List (List Key × PyData)} {kA : List (Key × PyData)} {key v : PyData}
theorem inT_sh {Q Φ : KB} (h : inTM kT key Q) (k : ∀ r, Q r → Φ r) : ∃ q, keyT key = some q ∧ Φ (valP kT q).isSome := by
  unfold inTM at h
  split at h
  · rename_i e1; exact ⟨_, e1, k _ h⟩
  · exact h.elim
theorem inK_sh {Q Φ : KB} (h : inKM kA key Q) (k : ∀ r, Q r → Φ r) : ∃ q, keyA key = some q ∧ Φ (valP kA q).isSome := by
  unfold inKM at h
  split at h
  · rename_i e1; exact ⟨_, e1, k _ h⟩
  · exact h.elim
theorem notInT_sh {Q Φ : KB} (h : inTM kT key Q) (k : ∀ r, Q r → Φ (!r)) : ∃ q, keyT key = some q ∧ Φ (!(valP kT q).isSome) := inT_sh (Φ := fun r => Φ (!r)) h k
theorem notInK_sh {Q Φ : KB} (h : inKM kA key Q) (k : ∀ r, Q r → Φ (!r)) : ∃ q, keyA key = some q ∧ Φ (!(valP kA q).isSome) := inK_sh (Φ := fun r => Φ (!r)) h k
theorem putT_sh {Q Φ : List (List Key × PyData) → Prop} (h : putTM kT key v Q) (k : ∀ r, Q r → Φ r) : ∃ q, keyT key = some q ∧ kT.length < sizeLine ∧ Φ (putP kT q v) := by
  unfold putTM at h
  split at h
  · rename_i e1; exact ⟨_, e1, h.1, k _ h.2⟩
  · exact h.elim
theorem putK_sh {Q Φ : List (Key × PyData) → Prop} (h : putKM kA key v Q) (k : ∀ r, Q r → Φ r) : ∃ q, keyA key = some q ∧ kA.length < sizeLine ∧ Φ (putP kA q v) := by
  unfold putKM at h
  split at h
  · rename_i e1; exact ⟨_, e1, h.1, k _ h.2⟩
  · exact h.elim
end
section
variable {k0 : Nat} {xn : Str} {q tpos : Pos} {al : Addr}
theorem keyT_dp {v : V} {k : List Key} {d : PyData} (h : Dq K F v d) (e : keyT d = some k) : ∃ t, v = .ref t ∧ F t = some (.tup (k.map kV)) := by
  rw [keyT_eq e] at h
  obtain ⟨t, xs, rfl, h1, h2⟩ := dp_tup' h
  rw [keys_eq h2] at h1
  exact ⟨t, rfl, h1⟩
theorem keyA_dp {v : V} {k : Key} {d : PyData} (h : Dq K F v d) (e : keyA d = some k) : v = kV k := key_eq (keyA_eq e ▸ h)
theorem we_getT (i : Nat) {kvs : List (List Key × PyData)} {Φ : PyData → Bool → Prop} (hr : Room k0 X.A) (he : env[i]? = some (.dt al kvs) := by rfl) (h : WE X g a env (fun kd z => z = true ∧ ∃ k, keyT kd = some k ∧ ∃ d, valP kvs k = some d ∧ Φ d true) Ψ) (hN : X.N[i]? = some xn := by rfl)
    (hv : Vis X.env.scope xn := by first | exact Or.inl rfl | exact Or.inr (Or.inl rfl) | exact Or.inr (Or.inr rfl)) (hd : (xn == ("__debug__" : Str)) = false := by decide)
    (hcd : (xn == ("__classdict__" : Str)) = false := by decide) (hs : NoSl a := by exact fun _ _ => rfl) : WE X g (.Subscript (.Name xn q) a pos) env Φ Ψ := fun W tk σ F H st hx Q hQ => by
  refine semE_of (pe_dget (by have := hr.units; omega) (pe_var hN hv hd hcd) (peS a) hs) ?_
  obtain ⟨h1, vs, h2, h3⟩ := st.sl i _ he
  refine ⟨_, getD_some h1, ?_⟩
  refine h W tk σ F H st hx _ fun kd z v F1 H1 ⟨hz, k, hk, d, hd, hp⟩ s1 e1 r1 => ?_
  subst hz
  obtain ⟨t, rfl, ht⟩ := keyT_dp r1 hk
  obtain ⟨_, vs', h2', h3'⟩ := s1.sl i _ he
  obtain ⟨w, hw, dw⟩ := (kvp_val h3').1 d hd
  exact ⟨al, w, rfl, hw ▸ DGet.t h2' (s1.ex _ _ ht), hQ d true w F1 H1 hp s1 e1 dw⟩
theorem wt_notInT (i : Nat) {kvs : List (List Key × PyData)} {Φ : KB} (hr : Room k0 X.A) (he : env[i]? = some (.dt al kvs) := by rfl) (h : WE X g a env (fun kd z => z = true ∧ ∃ k, keyT kd = some k ∧ Φ (!(valP kvs k).isSome)) Ψ) (hN : X.N[i]? = some xn := by rfl)
    (hv : Vis X.env.scope xn := by first | exact Or.inl rfl | exact Or.inr (Or.inl rfl) | exact Or.inr (Or.inr rfl)) (hd : (xn == ("__debug__" : Str)) = false := by decide)
    (hcd : (xn == ("__classdict__" : Str)) = false := by decide) (hm : behindInMarks .NotIn (.Name xn q) = false := by first | exact nomark _ | rfl) : WT X g (.Compare a [.NotIn] [.Name xn q] pos) env Φ Ψ := fun W tk σ F H st hx Q hQ => by
  refine semT_of (pt_cmp (pc_dnotin (by have := hr.units; omega) (peS a) (pe_var hN hv hd hcd)) hm) ?_
  refine h W tk σ F H st hx _ fun kd z v F1 H1 ⟨hz, k, hk, hp⟩ s1 e1 r1 => ?_
  subst hz
  obtain ⟨t, rfl, ht⟩ := keyT_dp r1 hk
  obtain ⟨h1, vs', h2', h3'⟩ := s1.sl i _ he
  refine ⟨_, getD_some h1, al, valV vs' k, rfl, DGet.t h2' (s1.ex _ _ ht), _, rfl, ?_⟩
  rw [(kvp_val h3').2]
  exact hQ _ F1 H1 hp s1 e1
theorem wt_notInK (i : Nat) {kvs : List (Key × PyData)} {Φ : KB} (hr : Room k0 X.A) (he : env[i]? = some (.dk al kvs) := by rfl) (h : WE X g a env (fun kd z => z = true ∧ ∃ k, keyA kd = some k ∧ Φ (!(valP kvs k).isSome)) Ψ) (hN : X.N[i]? = some xn := by rfl)
    (hv : Vis X.env.scope xn := by first | exact Or.inl rfl | exact Or.inr (Or.inl rfl) | exact Or.inr (Or.inr rfl)) (hd : (xn == ("__debug__" : Str)) = false := by decide)
    (hcd : (xn == ("__classdict__" : Str)) = false := by decide) (hm : behindInMarks .NotIn (.Name xn q) = false := by first | exact nomark _ | rfl) : WT X g (.Compare a [.NotIn] [.Name xn q] pos) env Φ Ψ := fun W tk σ F H st hx Q hQ => by
  refine semT_of (pt_cmp (pc_dnotin (by have := hr.units; omega) (peS a) (pe_var hN hv hd hcd)) hm) ?_
  refine h W tk σ F H st hx _ fun kd z v F1 H1 ⟨hz, k, hk, hp⟩ s1 e1 r1 => ?_
  subst hz
  have hv := keyA_dp r1 hk
  subst hv
  obtain ⟨h1, vs', h2', h3'⟩ := s1.sl i _ he
  refine ⟨_, getD_some h1, al, valV vs' k, rfl, DGet.k h2', _, rfl, ?_⟩
  rw [(kvp_val h3').2]
  exact hQ _ F1 H1 hp s1 e1
theorem w1_storeTA (i : Nat) {kvs : List (List Key × PyData)} (hr : Room k0 X.A) (he : env[i]? = some (.dt al kvs) := by rfl)
    (h : WE X g e env (fun d z => z = true ∧ WE X g a env (fun kd z => z = true ∧ ∃ k, keyT kd = some k ∧ kvs.length < sizeLine ∧ P.nx (env.set i (.dt al (putP kvs k d)))) (fun c => P.ex c env)) (fun c => P.ex c env)) (hN : X.N[i]? = some xn := by rfl)
    (hv : Vis X.env.scope xn := by first | exact Or.inl rfl | exact Or.inr (Or.inl rfl) | exact Or.inr (Or.inr rfl)) (hd : (xn == ("__debug__" : Str)) = false := by decide)
    (hcd : (xn == ("__classdict__" : Str)) = false := by decide)
    (hs : swapsWith e (some (.Subscript (.Name xn q) a tpos)) pos.line X.env = pure false := by rfl) : W1 X g (.Assign [.Subscript (.Name xn q) a tpos] e pos) env P := fun W tk hx2 σ F H s0 D hD => by
  refine semP_of (ps_dput (by have := hr.units; omega) (pe_var hN hv hd hcd) (peS a) (peS e) hs) ?_
  refine h W tk σ F H s0 (hx2.hx env σ) _ fun d z v F1 H1 ⟨hz, hw⟩ s1 e1 r1 => ?_
  subst hz
  obtain ⟨h1, vs, h2, h3⟩ := s1.sl i _ he
  refine ⟨_, getD_some h1, ?_⟩
  refine hw W tk σ F1 H1 s1 (hx2.hx env σ) _ fun kd z w F2 H2 ⟨hz, k, hk, hlen, hp⟩ s2 e2 r2 => ?_
  subst hz
  obtain ⟨t, rfl, ht⟩ := keyT_dp r2 hk
  obtain ⟨h1', vs', h2', h3'⟩ := s2.sl i _ he
  refine ⟨al, _, rfl, DPut.t h2' (s2.ex _ _ ht) (by rw [kvp_len h3']; exact hlen), ?_⟩
  exact hD.nx _ _ _ _ hp (s2.write he rfl rfl ⟨h1', _, upd_same, kvp_put h3' (dp_mono e2 _ _ r1)⟩) (e1.trans e2)
theorem w1_storeKA (i : Nat) {kvs : List (Key × PyData)} (hr : Room k0 X.A) (he : env[i]? = some (.dk al kvs) := by rfl)
    (h : WE X g e env (fun d z => z = true ∧ WE X g a env (fun kd z => z = true ∧ ∃ k, keyA kd = some k ∧ kvs.length < sizeLine ∧ P.nx (env.set i (.dk al (putP kvs k d)))) (fun c => P.ex c env)) (fun c => P.ex c env)) (hN : X.N[i]? = some xn := by rfl)
    (hv : Vis X.env.scope xn := by first | exact Or.inl rfl | exact Or.inr (Or.inl rfl) | exact Or.inr (Or.inr rfl)) (hd : (xn == ("__debug__" : Str)) = false := by decide)
    (hcd : (xn == ("__classdict__" : Str)) = false := by decide)
    (hs : swapsWith e (some (.Subscript (.Name xn q) a tpos)) pos.line X.env = pure false := by rfl) : W1 X g (.Assign [.Subscript (.Name xn q) a tpos] e pos) env P := fun W tk hx2 σ F H s0 D hD => by
  refine semP_of (ps_dput (by have := hr.units; omega) (pe_var hN hv hd hcd) (peS a) (peS e) hs) ?_
  refine h W tk σ F H s0 (hx2.hx env σ) _ fun d z v F1 H1 ⟨hz, hw⟩ s1 e1 r1 => ?_
  subst hz
  obtain ⟨h1, vs, h2, h3⟩ := s1.sl i _ he
  refine ⟨_, getD_some h1, ?_⟩
  refine hw W tk σ F1 H1 s1 (hx2.hx env σ) _ fun kd z w F2 H2 ⟨hz, k, hk, hlen, hp⟩ s2 e2 r2 => ?_
  subst hz
  have hv := keyA_dp r2 hk
  subst hv
  obtain ⟨h1', vs', h2', h3'⟩ := s2.sl i _ he
  refine ⟨al, _, rfl, DPut.k h2' (by rw [kvp_len h3']; exact hlen), ?_⟩
  exact hD.nx _ _ _ _ hp (s2.write he rfl rfl ⟨h1', _, upd_same, kvp_put h3' (dp_mono e2 _ _ r1)⟩) (e1.trans e2)
end
structure GTup (K : Frag) (mg : Str → Option Value) (x : Str) (ds : List PyData) : Prop where
  ex : ∃ a vs, mg x = some (.ref a) ∧ flAll ds = some vs ∧ ∀ H, SqT K H a vs
theorem flAll_dq : ∀ {ds : List PyData} {vs : List V}, flAll ds = some vs → DqAll K F vs ds
  | [], _, h => by cases h; exact .nil
  | d :: r, _, h => by
    unfold flAll at h
    split at h
    · rename_i e1 e2
      cases h
      refine .cons ?_ (flAll_dq e2)
      cases d with
      | int i => cases e1; exact .int i
      | str s => cases e1; exact .str s
      | none => cases e1; exact .non
      | _ => cases e1
    · cases h
theorem wi_g {xn : Str} {q : Pos} {ds : List PyData} {Φ : List PyData → Prop} (hG : GTup X.K X.mg xn ds) (h : Φ ds) (hg : Gl X xn := by rfl) (hd : (xn == ("__debug__" : Str)) = false := by decide) : WI X g tg (.Name xn q) env Φ Ψ := fun W tk σ F H st hx R hR => by
  obtain ⟨a, vs, hm, hf, hs⟩ := hG.ex
  refine semI_of (pi_any (pe_glob hg hm (v := .ref a) rfl hd)) ?_
  exact .inr (.inl ⟨a, vs, rfl, hs H, fun hl => hR ds _ F H h (by rw [← dpa_len (flAll_dq (K := X.K) (F := F) hf)]; exact hl) st (Ex.refl F) (itok_at walk_tup (fun H _ => hs H) (flAll_dq hf))⟩)
theorem inG_run {neg : Bool} {op : CmpOp} {xn : Str} {q : Pos} {ds : List PyData} {Φ : KB} (hop : OpR X (compareOp op) (rIn X.K neg)) (hm' : behindInMarks op (.Name xn q) = false) (hG : GTup X.K X.mg xn ds) (h : WE X g a env (fun d z => inTupM d ds fun b => Φ (if neg then !b else b)) Ψ) (hg : Gl X xn) (hd : (xn == ("__debug__" : Str)) = false) : WT X g (.Compare a [op] [.Name xn q] pos) env Φ Ψ := fun W tk σ F H st hx Q hQ => by
  obtain ⟨ad, vs, hm, hf, hs⟩ := hG.ex
  refine semT_of (pt_cmpR hop (peS a) (pe_glob hg hm (v := .ref ad) rfl hd) hm') ?_
  refine h W tk σ F H st hx _ fun d z v F1 H1 hp s1 e1 r1 => ?_
  unfold inTupM at hp
  rw [hf] at hp
  cases e2 : fl d with
  | none => rw [e2] at hp; exact hp.elim
  | some v' =>
    rw [e2] at hp
    have hv := fl_dp (rd_now s1.toSk r1) e2
    subst hv
    refine ⟨ad, vs, rfl, .inr (hs H1), fl_flat e2, flAll_flat hf, _, ?_, hQ _ F1 H1 hp s1 e1⟩
    cases neg <;> rfl
theorem wt_notInG {xn : Str} {q : Pos} {ds : List PyData} {Φ : KB} (hG : GTup X.K X.mg xn ds) (h : WE X g a env (fun d z => inTupM d ds fun b => Φ (!b)) Ψ) (hg : Gl X xn := by rfl) (hd : (xn == ("__debug__" : Str)) = false := by decide) (hm' : behindInMarks .NotIn (.Name xn q) = false := by first | exact nomark _ | rfl) : WT X g (.Compare a [.NotIn] [.Name xn q] pos) env Φ Ψ :=
  inG_run (neg := true) op_notIn_seq hm' hG h hg hd
theorem inG_sh {ds : List PyData} {Q Φ : KB} (h : inTupM x ds Q) (k : ∀ r, Q r → Φ r) : inTupM x ds Φ := by
  unfold inTupM at *
  split at h
  · exact k _ h
  · exact h.elim
end
theorem Has.imp {P : Program} {w : World} {K : Frag} {mg : Str → Option Value} {base : Heap} {j : Nat} {x : Str} {ps : List Str} {S S' : CT} (h : Has P w K mg base j x ps S) (i : ∀ args Φ Ψ, S' args Φ Ψ → S args Φ Ψ) : Has P w K mg base j x ps S' := by
  obtain ⟨f, fd, h1, h2, h3, h4⟩ := h.ex
  have up : ∀ vs H Q E, spOf K ps.length S' vs H Q E → spOf K ps.length S vs H Q E := fun vs H Q E ⟨q1, F, args, Φ, Ψ, q2, q3⟩ => ⟨q1, F, args, Φ, Ψ, i _ _ _ q2, q3⟩
  exact ⟨f, fd, h1, h2, h3, ⟨fun vs H Q E q => h4.len vs H Q E (up _ _ _ _ q), fun A outer s H args us vs Q E r e b v q => h4.run A outer s H args us vs Q E r e b v (up _ _ _ _ q)⟩⟩
theorem forM_inv {α τ : Type} {bd : PyData → τ → (τ → Prop) → (τ → Prop) → Prop} {K : τ → Prop} (L : List α) (d : α → PyData) (I : Nat → τ → Prop) (h : ∀ i a, L[i]? = some a → ∀ s, I i s → ∀ N : τ → Prop, (∀ s', I (i + 1) s' → N s') → bd (d a) s N K) (hK : ∀ s, I L.length s → K s) (s0 : τ) (h0 : I 0 s0) : forM bd K (L.map d) s0 := by
  have go : ∀ (M : List α) (i : Nat), (∀ j a, M[j]? = some a → L[i + j]? = some a) → i + M.length = L.length → ∀ s, I i s → forM bd K (M.map d) s := by
    intro M
    induction M with
    | nil => intro i _ hl s hs; exact hK s (by rw [← hl]; exact hs)
    | cons a M ih =>
      intro i hM hl s hs
      refine h i a (hM 0 a rfl) s hs _ fun s' hs' => ih (i + 1) (fun j b hj => ?_) (by simp only [List.length_cons] at hl; omega) s' hs'
      have := hM (j + 1) b hj
      rwa [show i + (j + 1) = i + 1 + j by omega] at this
  exact go L 0 (fun j a hj => by rwa [Nat.zero_add]) (by simp) s0 h0
end TL
namespace TL
open PySem PySem.Spec PyProof.Rows L2
section
variable {X : Cx} {g : G} {env env' : List Sl} {Ψ : Exc → Prop} {P : Po} {pos p lp : Pos} {a b c e tg iter : Expr} {es : List Expr} {rest body : List Stmt} {K : Frag} {F F' H H' : Hp} {σ σ' : SS} {x y : PyData} {z1 z2 : Bool} {Φ : PyData → Bool → Prop}
theorem abs_m {Q Q' : KD} (h : absM x Q) (k : ∀ r, Q r → Q' r) : absM x Q' := by
  unfold absM at *
  split at h
  · exact k _ h
  · exact h.elim
theorem sum_m {Q Q' : KD} (h : sumM x Q) (k : ∀ r, Q r → Q' r) : sumM x Q' := by
  unfold sumM at *
  split at h
  · split at h
    · exact k _ h
    · exact h.elim
  · exact h.elim
theorem all_m {Q Q' : KD} (h : allM x Q) (k : ∀ r, Q r → Q' r) : allM x Q' := by
  unfold allM at *
  split at h
  · split at h
    · exact k _ h
    · exact h.elim
  · exact h.elim
theorem any_m {Q Q' : KD} (h : anyM x Q) (k : ∀ r, Q r → Q' r) : anyM x Q' := by
  unfold anyM at *
  split at h
  · split at h
    · exact k _ h
    · exact h.elim
  · exact h.elim
theorem min2_m {Q Q' : KD} (h : min2M x y Q) (k : ∀ r, Q r → Q' r) : min2M x y Q' := by
  unfold min2M at *
  split at h
  · exact k _ h
  · exact h.elim
theorem max2_m {Q Q' : KD} (h : max2M x y Q) (k : ∀ r, Q r → Q' r) : max2M x y Q' := by
  unfold max2M at *
  split at h
  · exact k _ h
  · exact h.elim
theorem sort_m {Q Q' : KL} (h : sortM x Q) (k : ∀ r, Q r → Q' r) : sortM x Q' := by
  unfold sortM at *
  split at h
  · exact ⟨h.1, k _ h.2⟩
  · exact h.elim
theorem addL_m {Q Q' : KL} (h : addLM x y Q) (k : ∀ r, Q r → Q' r) : addLM x y Q' := by
  unfold addLM at *
  split at h
  · exact ⟨h.1, k _ h.2⟩
  · exact h.elim
section
variable {kT : List (List Key × PyData)} {kA : List (Key × PyData)} {key v : PyData}
theorem inT_m {Q Q' : KB} (h : inTM kT key Q) (k : ∀ r, Q r → Q' r) : inTM kT key Q' := by
  unfold inTM at *
  split at h
  · exact k _ h
  · exact h.elim
theorem inK_m {Q Q' : KB} (h : inKM kA key Q) (k : ∀ r, Q r → Q' r) : inKM kA key Q' := by
  unfold inKM at *
  split at h
  · exact k _ h
  · exact h.elim
theorem putT_m {Q Q' : List (List Key × PyData) → Prop} (h : putTM kT key v Q) (k : ∀ r, Q r → Q' r) : putTM kT key v Q' := by
  unfold putTM at *
  split at h
  · exact ⟨h.1, k _ h.2⟩
  · exact h.elim
theorem putK_m {Q Q' : List (Key × PyData) → Prop} (h : putKM kA key v Q) (k : ∀ r, Q r → Q' r) : putKM kA key v Q' := by
  unfold putKM at *
  split at h
  · exact ⟨h.1, k _ h.2⟩
  · exact h.elim
end
theorem we_absA (hm : X.mg "abs" = none) (h : WE X g a env (fun d _ => absM d fun r => Φ r true) Ψ) (hg : Gl X "abs" := by rfl) (he : starEach [a] X.env = (false, eval a X.env) :: starEach [] X.env := by rfl) (hpl : (backTo pos (starEach ([] : List Expr) X.env)).any (·.1) = false := by rfl) : WE X g (.Call (.Name "abs" p) [a] [] pos) env Φ Ψ :=
  we_abs hm (h.mono fun d z h => abs_sh (Φ := Φ) h fun _ h => h) hg he
theorem we_sumA (hm : X.mg "sum" = none) (hc : X.calm = true) (h : WE X g a env (fun d _ => sumM d fun r => Φ r true) Ψ) (hg : Gl X "sum" := by rfl) (he : starEach [a] X.env = (false, eval a X.env) :: starEach [] X.env := by rfl) (hpl : (backTo pos (starEach ([] : List Expr) X.env)).any (·.1) = false := by rfl) : WE X g (.Call (.Name "sum" p) [a] [] pos) env Φ Ψ :=
  we_sum hm hc (h.mono fun d z h => sum_sh (Φ := Φ) h fun _ h => h) hg he
theorem we_allA (hm : X.mg "all" = none) (hc : X.calm = true) (h : WE X g a env (fun d _ => allM d fun r => Φ r true) Ψ) (hg : Gl X "all" := by rfl) (he : starEach [a] X.env = (false, eval a X.env) :: starEach [] X.env := by rfl) (hpl : (backTo pos (starEach ([] : List Expr) X.env)).any (·.1) = false := by rfl) : WE X g (.Call (.Name "all" p) [a] [] pos) env Φ Ψ :=
  we_all hm hc (h.mono fun d z h => all_sh (Φ := Φ) h fun _ h => h) hg he
theorem we_anyA (hm : X.mg "any" = none) (hc : X.calm = true) (h : WE X g a env (fun d _ => anyM d fun r => Φ r true) Ψ) (hg : Gl X "any" := by rfl) (he : starEach [a] X.env = (false, eval a X.env) :: starEach [] X.env := by rfl) (hpl : (backTo pos (starEach ([] : List Expr) X.env)).any (·.1) = false := by rfl) : WE X g (.Call (.Name "any" p) [a] [] pos) env Φ Ψ :=
  we_any hm hc (h.mono fun d z h => any_sh (Φ := Φ) h fun _ h => h) hg he
theorem we_min2A (hm : X.mg "min" = none) (hc : X.calm = true) (h : WE X g a env (fun d1 _ => WE X g b env (fun d2 _ => min2M d1 d2 fun r => Φ r true) Ψ) Ψ) (hg : Gl X "min" := by rfl) (he : starEach [a, b] X.env = (false, eval a X.env) :: starEach [b] X.env := by rfl) (he2 : starEach [b] X.env = (false, eval b X.env) :: starEach [] X.env := by rfl) (hpl : (backTo pos (starEach [b] X.env)).any (·.1) = false := by rfl) : WE X g (.Call (.Name "min" p) [a, b] [] pos) env Φ Ψ :=
  we_min2 hm hc (h.mono fun d z h => h.mono fun d z h => min2_sh (Φ := Φ) h fun _ h => h) hg he he2 hpl
theorem we_max2A (hm : X.mg "max" = none) (hc : X.calm = true) (h : WE X g a env (fun d1 _ => WE X g b env (fun d2 _ => max2M d1 d2 fun r => Φ r true) Ψ) Ψ) (hg : Gl X "max" := by rfl) (he : starEach [a, b] X.env = (false, eval a X.env) :: starEach [b] X.env := by rfl) (he2 : starEach [b] X.env = (false, eval b X.env) :: starEach [] X.env := by rfl) (hpl : (backTo pos (starEach [b] X.env)).any (·.1) = false := by rfl) : WE X g (.Call (.Name "max" p) [a, b] [] pos) env Φ Ψ :=
  we_max2 hm hc (h.mono fun d z h => h.mono fun d z h => max2_sh (Φ := Φ) h fun _ h => h) hg he he2 hpl
theorem wn_sortedA {k : Nat} {Φ : List PyData → Prop} (hm : X.mg "sorted" = none) (hr : Room k X.A) (h : WE X g a env (fun d _ => sortM d Φ) Ψ) (hg : Gl X "sorted" := by rfl) (he : starEach [a] X.env = (false, eval a X.env) :: starEach [] X.env := by rfl) : WN X g (.Call (.Name "sorted" p) [a] [] pos) env Φ Ψ :=
  wn_sorted hm hr (h.mono fun d z h => sort_sh (Φ := Φ) h fun _ h => h) hg he
theorem wn_addB {Φ : List PyData → Prop} (h : WE X g a env (fun d1 _ => WE X g b env (fun d2 _ => addLM d1 d2 Φ) Ψ) Ψ) : WN X g (.BinOp a .Add b pos) env Φ Ψ :=
  wn_addA (h.mono fun d z h => h.mono fun d z h => addL_sh (Φ := Φ) h fun _ h => h)
section
variable {k0 : Nat} {xn : Str} {q tpos : Pos} {al : Addr}
theorem wt_notInTA (i : Nat) {kvs : List (List Key × PyData)} {Φ : KB} (hr : Room k0 X.A) (h : WE X g a env (fun kd z => z = true ∧ inTM kvs kd fun r => Φ (!r)) Ψ) (he : env[i]? = some (.dt al kvs) := by rfl) (hN : X.N[i]? = some xn := by rfl)
    (hv : Vis X.env.scope xn := by first | exact Or.inl rfl | exact Or.inr (Or.inl rfl) | exact Or.inr (Or.inr rfl)) (hd : (xn == ("__debug__" : Str)) = false := by decide)
    (hcd : (xn == ("__classdict__" : Str)) = false := by decide) (hm : behindInMarks .NotIn (.Name xn q) = false := by first | exact nomark _ | rfl) : WT X g (.Compare a [.NotIn] [.Name xn q] pos) env Φ Ψ :=
  wt_notInT i hr he (h.mono fun d z ⟨hz, h⟩ => ⟨hz, notInT_sh (Φ := Φ) h fun _ h => h⟩) hN hv hd hcd hm
theorem wt_notInKA (i : Nat) {kvs : List (Key × PyData)} {Φ : KB} (hr : Room k0 X.A) (h : WE X g a env (fun kd z => z = true ∧ inKM kvs kd fun r => Φ (!r)) Ψ) (he : env[i]? = some (.dk al kvs) := by rfl) (hN : X.N[i]? = some xn := by rfl)
    (hv : Vis X.env.scope xn := by first | exact Or.inl rfl | exact Or.inr (Or.inl rfl) | exact Or.inr (Or.inr rfl)) (hd : (xn == ("__debug__" : Str)) = false := by decide)
    (hcd : (xn == ("__classdict__" : Str)) = false := by decide) (hm : behindInMarks .NotIn (.Name xn q) = false := by first | exact nomark _ | rfl) : WT X g (.Compare a [.NotIn] [.Name xn q] pos) env Φ Ψ :=
  wt_notInK i hr he (h.mono fun d z ⟨hz, h⟩ => ⟨hz, notInK_sh (Φ := Φ) h fun _ h => h⟩) hN hv hd hcd hm
theorem w1_storeTB (i : Nat) {kvs : List (List Key × PyData)} (hr : Room k0 X.A)
    (h : WE X g e env (fun d z => z = true ∧ WE X g a env (fun kd z => z = true ∧ putTM kvs kd d fun r => P.nx (env.set i (.dt al r))) (fun c => P.ex c env)) (fun c => P.ex c env)) (he : env[i]? = some (.dt al kvs) := by rfl) (hN : X.N[i]? = some xn := by rfl)
    (hv : Vis X.env.scope xn := by first | exact Or.inl rfl | exact Or.inr (Or.inl rfl) | exact Or.inr (Or.inr rfl)) (hd : (xn == ("__debug__" : Str)) = false := by decide)
    (hcd : (xn == ("__classdict__" : Str)) = false := by decide)
    (hs : swapsWith e (some (.Subscript (.Name xn q) a tpos)) pos.line X.env = pure false := by rfl) : W1 X g (.Assign [.Subscript (.Name xn q) a tpos] e pos) env P :=
  w1_storeTA i hr he (h.mono fun d z ⟨hz, h⟩ => ⟨hz, h.mono fun d z ⟨hz, h⟩ => ⟨hz, putT_sh (Φ := fun r => P.nx (env.set i (.dt al r))) h fun _ h => h⟩⟩) hN hv hd hcd hs
theorem w1_storeKB (i : Nat) {kvs : List (Key × PyData)} (hr : Room k0 X.A)
    (h : WE X g e env (fun d z => z = true ∧ WE X g a env (fun kd z => z = true ∧ putKM kvs kd d fun r => P.nx (env.set i (.dk al r))) (fun c => P.ex c env)) (fun c => P.ex c env)) (he : env[i]? = some (.dk al kvs) := by rfl) (hN : X.N[i]? = some xn := by rfl)
    (hv : Vis X.env.scope xn := by first | exact Or.inl rfl | exact Or.inr (Or.inl rfl) | exact Or.inr (Or.inr rfl)) (hd : (xn == ("__debug__" : Str)) = false := by decide)
    (hcd : (xn == ("__classdict__" : Str)) = false := by decide)
    (hs : swapsWith e (some (.Subscript (.Name xn q) a tpos)) pos.line X.env = pure false := by rfl) : W1 X g (.Assign [.Subscript (.Name xn q) a tpos] e pos) env P :=
  w1_storeKA i hr he (h.mono fun d z ⟨hz, h⟩ => ⟨hz, h.mono fun d z ⟨hz, h⟩ => ⟨hz, putK_sh (Φ := fun r => P.nx (env.set i (.dk al r))) h fun _ h => h⟩⟩) hN hv hd hcd hs
end
end
end TL
namespace TL
open PySem PySem.Spec PyProof.Rows L2
section
variable {i j : Int} {s t : Str} {b c : Bool} {xs ys : List PyData} {x y z u : PyData} {K : KD} {KL' : KL} {KB' : KB} {E : KX}
theorem q_add_ii : addM (.int i) (.int j) K = K (.int (i + j)) := rfl
theorem q_add_ss : addM (.str s) (.str t) K = (s.length + t.length ≤ sizeLine ∧ K (.str (s ++ t))) := rfl
theorem q_add_ll : addM (.list xs) (.list ys) K = (xs.length + ys.length ≤ sizeLine ∧ K (.list (xs ++ ys))) := rfl
theorem q_add_tt : addM (.tuple xs) (.tuple ys) K = (xs.length + ys.length ≤ sizeLine ∧ K (.tuple (xs ++ ys))) := rfl
theorem q_addL : addLM (.list xs) (.list ys) KL' = (xs.length + ys.length ≤ sizeLine ∧ KL' (xs ++ ys)) := rfl
theorem q_sub : subM (.int i) (.int j) K = K (.int (i - j)) := rfl
theorem q_mul : mulM (.int i) (.int j) K = ((CMul i j ∨ CMulW i j) ∧ K (.int (i * j))) := rfl
theorem q_div : divM (.int i) (.int j) K = (CDivW i j ∧ K (.int (i / j))) := rfl
theorem q_mod : modM (.int i) (.int j) K = (0 < j ∧ K (.int (i % j))) := rfl
theorem q_neg : negM (.int i) K = K (.int (-i)) := rfl
theorem q_bool : boolM (.bool b) KB' = KB' b := rfl
theorem q_eq_ii : eqM (.int i) (.int j) KB' = KB' (decide (i = j)) := rfl
theorem q_eq_ss : eqM (.str s) (.str t) KB' = KB' (decide (s = t)) := rfl
theorem q_eq_bb : eqM (.bool b) (.bool c) KB' = KB' (decide (b = c)) := rfl
theorem q_eq_tt : eqM (.tuple xs) (.tuple ys) KB' = (SeqAt.shaped (.tuple xs) = true ∧ SeqAt.shaped (.tuple ys) = true ∧ KB' (PyData.eqv (.tuple xs) (.tuple ys))) := rfl
theorem q_ne_ii : neM (.int i) (.int j) KB' = KB' (!decide (i = j)) := rfl
theorem q_ne_ss : neM (.str s) (.str t) KB' = KB' (!decide (s = t)) := rfl
theorem q_ne_bb : neM (.bool b) (.bool c) KB' = KB' (!decide (b = c)) := rfl
theorem q_lt : ltM (.int i) (.int j) KB' = KB' (decide (i < j)) := rfl
theorem q_le : leM (.int i) (.int j) KB' = KB' (decide (i ≤ j)) := rfl
theorem q_gt : gtM (.int i) (.int j) KB' = KB' (decide (j < i)) := rfl
theorem q_ge : geM (.int i) (.int j) KB' = KB' (decide (j ≤ i)) := rfl
theorem q_un2 {K : PyData → PyData → Prop} : un2 (.tuple [x, y]) K = K x y := rfl
theorem q_un3 {K : PyData → PyData → PyData → Prop} : un3 (.tuple [x, y, z]) K = K x y z := rfl
theorem q_un4 {K : PyData → PyData → PyData → PyData → Prop} : un4 (.tuple [x, y, z, u]) K = K x y z u := rfl
theorem q_intO {K : Int → Prop} : intO (.int i) K = K i := rfl
theorem q_len_l : lenM (.list xs) K = K (.int xs.length) := rfl
theorem q_len_t : lenM (.tuple xs) K = K (.int xs.length) := rfl
theorem q_len_s : lenM (.str s) K = (s.length ≤ sizeLine ∧ K (.int s.length)) := rfl
theorem q_abs : absM (.int i) K = K (.int (if i < 0 then -i else i)) := rfl
theorem q_int_i : intM (.int i) K = K (.int i) := rfl
theorem q_int_b : intM (.bool b) K = K (.int (if b then 1 else 0)) := rfl
theorem q_tup_l : tupM (.list xs) K = K (.tuple xs) := rfl
theorem q_tup_t : tupM (.tuple xs) K = K (.tuple xs) := rfl
theorem q_list_l : listM (.list xs) KL' = KL' xs := rfl
theorem q_list_t : listM (.tuple xs) KL' = KL' xs := rfl
theorem q_min : min2M (.int i) (.int j) K = K (.int (if j < i then j else i)) := rfl
theorem q_max : max2M (.int i) (.int j) K = K (.int (if j > i then j else i)) := rfl
theorem q_it_l : itM (.list xs) KL' = KL' xs := rfl
theorem q_it_t : itM (.tuple xs) KL' = KL' xs := rfl
theorem q_rng : rngM (.int i) (.int j) KL' = ((-1000000 ≤ i ∧ i ≤ 1000000 ∧ -1000000 ≤ j ∧ j ≤ 1000000) ∧ KL' (rangeL i j)) := rfl
theorem q_enu_l : enuM (.list xs) KL' = KL' (enumL xs) := rfl
theorem q_enu_t : enuM (.tuple xs) KL' = KL' (enumL xs) := rfl
theorem q_rev : revM (.list xs) KL' = KL' xs.reverse := rfl
theorem q_sl_l {lo hi : Option Int} : slM (.list xs) lo hi K = K (.list (cut xs lo hi)) := rfl
theorem q_sl_t {lo hi : Option Int} : slM (.tuple xs) lo hi K = K (.tuple (cut xs lo hi)) := rfl
theorem q_sl_s {lo hi : Option Int} : slM (.str s) lo hi K = (s.length ≤ sizeLine ∧ K (.str (cutS s lo hi))) := rfl
theorem q_slL {lo hi : Option Int} : slLM (.list xs) lo hi KL' = KL' (cut xs lo hi) := rfl
theorem q_all (ns : List Bool) : allM (.list (ns.map .bool)) K = K (.bool (ns.all id)) := by
  show (match boolsOf (ns.map .bool) with | some ns => K (.bool (ns.all id)) | none => False) = _
  rw [bools_of]
theorem q_any (ns : List Bool) : anyM (.list (ns.map .bool)) K = K (.bool (ns.any id)) := by
  show (match boolsOf (ns.map .bool) with | some ns => K (.bool (ns.any id)) | none => False) = _
  rw [bools_of]
theorem q_sum (ns : List Int) : sumM (.list (ns.map .int)) K = K (.int ns.sum) := by
  show (match intsOf (ns.map .int) with | some ns => K (.int ns.sum) | none => False) = _
  rw [ints_of]
theorem q_sort_pp (L : List (Int × Int)) : sortM (.list (L.map ppD)) KL' = KL' (srt (L.map ppD)) := by
  unfold sortM
  exact propext ⟨fun h => h.2, fun h => ⟨⟨pairs_alike _, pairs_sortable _, pairs_depth _⟩, h⟩⟩
theorem q_and {b1 b2 : Bool} : andM (fun Q => Q b1) (fun Q => Q b2) KB' = KB' (b1 && b2) := by
  unfold andM; cases b1 <;> simp
theorem q_or {b1 b2 : Bool} : orM (fun Q => Q b1) (fun Q => Q b2) KB' = KB' (b1 || b2) := by
  unfold orM; cases b1 <;> simp
theorem q_and' {ma mb : KB → Prop} {b1 : Bool} (h : ∀ Q, ma Q = Q b1) {b2 : Bool} (h2 : b1 = true → ∀ Q, mb Q = Q b2) : andM ma mb KB' = KB' (b1 && b2) := by
  unfold andM; rw [h]; cases b1
  · simp
  · rw [h2 rfl]; simp
theorem q_or' {ma mb : KB → Prop} {b1 : Bool} (h : ∀ Q, ma Q = Q b1) {b2 : Bool} (h2 : b1 = false → ∀ Q, mb Q = Q b2) : orM ma mb KB' = KB' (b1 || b2) := by
  unfold orM; rw [h]; cases b1
  · rw [h2 rfl]; simp
  · simp
theorem q_ite {b : Bool} {A B : Prop} : ((b = true → A) ∧ (b = false → B)) = cond b A B := by cases b <;> simp
theorem q_join {σ : Type} {bd : (σ → Prop) → Prop} {K : σ → Prop} : joinM bd K = bd K := rfl
theorem q_lc_cons {β : Type} {bd : PyData → (β → Prop) → Prop → Prop} {K : List β → Prop} {acc : List β} : lcM bd K (x :: xs) acc = bd x (fun y => lcM bd K xs (acc ++ [y])) (lcM bd K xs acc) := rfl
theorem q_for_nil {σ : Type} {bd : PyData → σ → (σ → Prop) → (σ → Prop) → Prop} {K : σ → Prop} {s : σ} : forM bd K [] s = K s := rfl
theorem q_for_cons {σ : Type} {bd : PyData → σ → (σ → Prop) → (σ → Prop) → Prop} {K : σ → Prop} {s : σ} : forM bd K (x :: xs) s = bd x s (fun s' => forM bd K xs s') K := rfl
/-- a comprehension told at once -/
theorem q_lc_map {α β : Type} {bd : PyData → (β → Prop) → Prop → Prop} {K : List β → Prop} (L : List α) (d : α → PyData) (f : α → β) (h : ∀ a ∈ L, ∀ k s, bd (d a) k s = k (f a)) (acc : List β) : lcM bd K (L.map d) acc = K (acc ++ L.map f) := by
  induction L generalizing acc with
  | nil => rw [List.map_nil, List.map_nil, List.append_nil]; rfl
  | cons a L ih =>
    rw [List.map_cons, q_lc_cons, h a (by simp), ih fun b hb => h b (List.mem_cons_of_mem _ hb)]
    simp
theorem q_lc_fil {α β : Type} {bd : PyData → (β → Prop) → Prop → Prop} {K : List β → Prop} (L : List α) (d : α → PyData) (p : α → Bool) (f : α → β) (h : ∀ a ∈ L, ∀ (k : β → Prop) (s : Prop), bd (d a) k s = cond (p a) (k (f a)) s) (acc : List β) : lcM bd K (L.map d) acc = K (acc ++ (L.filter p).map f) := by
  induction L generalizing acc with
  | nil => rw [List.map_nil, List.filter_nil, List.map_nil, List.append_nil]; rfl
  | cons a L ih =>
    rw [List.map_cons, q_lc_cons, h a (by simp), ih fun b hb => h b (List.mem_cons_of_mem _ hb), ih fun b hb => h b (List.mem_cons_of_mem _ hb)]
    cases e : p a <;> simp [e]
/-- a loop that goes on while p holds, else ends in r -/
theorem q_for_all {α : Type} {bd : PyData → Unit → (Unit → Prop) → (Unit → Prop) → Prop} {K : Unit → Prop} {R : Prop} (L : List α) (d : α → PyData) (p : α → Bool) (h : ∀ a ∈ L, ∀ (N : Unit → Prop), bd (d a) () N K = cond (p a) (N ()) R) : forM bd K (L.map d) () = cond (L.all p) (K ()) R := by
  induction L with
  | nil => simp [q_for_nil]
  | cons a L ih =>
    rw [List.map_cons, q_for_cons, h a (by simp)]
    cases e : p a
    · simp [e]
    · simp only [e, cond_true, List.all_cons, Bool.true_and]
      exact ih fun b hb => h b (List.mem_cons_of_mem _ hb)
theorem range0 (n : Int) : rangeL 0 n = (List.range n.toNat).map fun (i : Nat) => PyData.int i := by unfold rangeL; simp
theorem enum_map {α : Type} (L : List α) (d : α → PyData) : enumL (L.map d) = (L.mapIdx fun i a => (i, a)).map fun q => PyData.tuple [.int (q.1 : Nat), d q.2] := by
  unfold enumL
  refine List.ext_getElem? fun i => ?_
  rw [List.getElem?_mapIdx, List.getElem?_map, List.getElem?_map, List.getElem?_mapIdx]
  cases L[i]? <;> rfl
end
end TL
namespace TL
open PySem PySem.Spec PyProof.Rows L2 He
abbrev XF := PySem.W.Frag → Bool
def obsX (ex : List XF) (fa : List Fa) (fn : List DefD) (K : PySem.W.Frag) : AlD := ((obsD fa fn K).1 && ex.all fun e => e K, (obsD fa fn K).2)
def SaysX (ex : List XF) (fa : List Fa) (fn : List DefD) (K : PySem.W.Frag) : Prop := obsX ex fa fn K = valD fn
section
variable {ex : List XF} {fa : List Fa} {fn : List DefD} {K : PySem.W.Frag} {mg : Str → Option Value} {h : Heap}
theorem SaysX.d (c : SaysX ex fa fn K) : SaysD fa fn K := by
  have c1 : ((obsD fa fn K).1 && ex.all fun e => e K) = true := congrArg (fun z : AlD => z.1) c
  have c2 : (obsD fa fn K).2 = fn.map DefD.val := congrArg (fun z : AlD => z.2) c
  exact Prod.ext (ba c1).1 c2
theorem SaysX.xf (c : SaysX ex fa fn K) (i : Nat) {e : XF} (h : ex[i]? = some e := by rfl) : e K = true := by
  have c1 : ((obsD fa fn K).1 && ex.all fun e => e K) = true := congrArg (fun z : AlD => z.1) c
  exact List.all_eq_true.mp (ba c1).2 e (List.mem_of_getElem? h)
theorem gtup_ok (X : K.In h) (G : h.Ns mainGlobals mg) {x : Str} {vs : List Dv} {ds : List PyData} (c : (Fa.glo x).ok K = true) (t : tupB K x vs = true) (hd : flAll ds = some (vs.map (Dv.v K)) := by rfl) : GTup K mg x ds :=
  ⟨ga K x, _, glo_ok X G c, hd, fun H => tupB_ok t H⟩
end
end TL
namespace TL
open PySem PySem.Spec PyProof.Rows L2
abbrev ooS (a : Addr) (as : List Addr) (ds : List (List PyData)) : Sl := .oo a (as.zip ds)
def rowM (ds : List (List PyData)) : PyData → KL → Prop
  | .int n, K => match atI ds n with
    | some l => K l
    | none => False
  | _, _ => False
def rowAppM (ds : List (List PyData)) : PyData → PyData → (List (List PyData) → Prop) → Prop
  | .int n, y, K => match ixN ds.length n with
    | some j => match ds[j]? with
      | some l => l.length < sizeLine ∧ K (ds.set j (l ++ [y]))
      | none => False
    | none => False
  | _, _, _ => False
section
variable {X : Cx} {g : G} {env env' : List Sl} {Ψ : Exc → Prop} {P : Po} {pos p lp : Pos} {a b c e tg iter : Expr} {es : List Expr} {rest body : List Stmt} {K : Frag} {F F' H H' : Hp} {σ σ' : SS} {x y : PyData} {z1 z2 : Bool} {Φ : PyData → Bool → Prop}
theorem rowApp_m {ds : List (List PyData)} {Q Q' : List (List PyData) → Prop} (h : rowAppM ds x y Q) (k : ∀ r, r.length = ds.length → Q r → Q' r) : rowAppM ds x y Q' := by
  unfold rowAppM at *
  split at h
  · split at h
    · split at h
      · exact ⟨h.1, k _ (by rw [List.length_set]) h.2⟩
      · exact h.elim
    · exact h.elim
  · exact h.elim
theorem row_m {ds : List (List PyData)} {Q Q' : KL} (h : rowM ds x Q) (k : ∀ r, Q r → Q' r) : rowM ds x Q' := by
  unfold rowM at *
  split at h
  · split at h
    · exact k _ h
    · exact h.elim
  · exact h.elim
theorem row_ob {ds : List (List PyData)} {Q : KL} (h : rowM ds x Q) : ∃ n l, x = .int n ∧ atI ds n = some l ∧ Q l := by
  unfold rowM at h
  split at h
  · split at h
    · rename_i e; exact ⟨_, _, rfl, e, h⟩
    · exact h.elim
  · exact h.elim
/-- for, with a side word about state and objects -/
theorem forSC {A : PyData → Option (List (Nat × PyData))} {τ υ : Type} {bd : PyData → τ → (τ → Prop) → (τ → Prop) → Prop} {Q : τ → Prop} {xs : List PyData} {s0 : τ} (h : forM bd Q xs s0) (mk : τ → υ → List Sl) (C : τ → υ → Prop) (u0 : υ) (h0 : env = mk s0 u0) (c0 : C s0 u0) (hend : ∀ s u, C s u → Q s → P.nx (mk s u))
    (hturn : (∀ s u, C s u → Q s → P.nx (mk s u)) → ∀ x s u (N : τ → Prop), C s u → bd x s N Q → ∃ l, A x = some l ∧ (l.all fun q => Nat.blt q.1 (mk s u).length) = true ∧ WS X g body (putsE (mk s u) l) (P.turn fun e => ∃ s' u', N s' ∧ C s' u' ∧ e = mk s' u')) :
    ∃ Pv : Nat → List Sl → Prop, Pv 0 env ∧ (∀ i x, xs[i]? = some x → FT X g body A P Pv i x) ∧ ∀ e, Pv xs.length e → P.nx e := by
  refine ⟨fun i e => ∃ s u, forM bd Q (xs.drop i) s ∧ C s u ∧ e = mk s u, ⟨s0, u0, h, c0, h0⟩, fun i x hx e ⟨s, u, hf, hc, he⟩ => ?_, fun e ⟨s, u, hf, hc, he⟩ => ?_⟩
  · subst he
    have hi := (List.getElem?_eq_some_iff.mp hx).1
    have ed : xs.drop i = x :: xs.drop (i + 1) := by
      rw [List.drop_eq_getElem_cons hi]
      congr 1
      exact (List.getElem?_eq_some_iff.mp hx).2
    rw [ed] at hf
    obtain ⟨l, h1, h2, h3⟩ := hturn hend x s u _ hc hf
    exact ⟨l, h1, h2, h3⟩
  · subst he
    rw [List.drop_length] at hf
    exact hend s u hc hf
/-- x[k], a row -/
theorem we_ixOO (i : Nat) {al : Addr} {as : List Addr} {ds : List (List PyData)} {xn : Str} {q : Pos} (hl : as.length = ds.length) (h : WE X g a env (fun d _ => rowM ds d fun l => Φ (.list l) false) Ψ) (he : env[i]? = some (ooS al as ds) := by rfl) (hN : X.N[i]? = some xn := by rfl)
    (hv : Vis X.env.scope xn := by first | exact Or.inl rfl | exact Or.inr (Or.inl rfl) | exact Or.inr (Or.inr rfl)) (hd : (xn == ("__debug__" : Str)) = false := by decide)
    (hcd : (xn == ("__classdict__" : Str)) = false := by decide) (hs : PlainIx a := by exact fun _ _ => rfl) : WE X g (.Subscript (.Name xn q) a pos) env Φ Ψ := fun W tk σ F H st hx Q hQ => by
  refine semE_of (pe_ix ix_list (pe_var hN hv hd hcd) (peS a) hs) ?_
  obtain ⟨h1, _⟩ := st.sl i _ he
  refine ⟨_, getD_some h1, ?_⟩
  refine h W tk σ F H st hx _ fun d z v F1 H1 hr s1 e1 r1 => ?_
  have hr : rowM ds d fun l => Φ (.list l) false := hr
  obtain ⟨n, l, rfl, hat, hr⟩ := row_ob hr
  obtain ⟨_, h2, h3, h4⟩ := s1.sl i _ he
  obtain ⟨j, hj, hjl⟩ : ∃ j, ixN ds.length n = some j ∧ ds[j]? = some l := by
    unfold atI at hat
    obtain ⟨j, h5, h6⟩ := Option.bind_eq_some_iff.mp hat
    exact ⟨j, h5, h6⟩
  obtain ⟨hj1, hj2⟩ := List.getElem?_eq_some_iff.mp hjl
  have hz : (as.zip ds)[j]? = some (as[j]'(by omega), l) := by
    rw [List.getElem?_eq_getElem (by rw [List.length_zip]; omega), List.getElem_zip, hj2]
  have hat2 : atI ((as.zip ds).map fun r => V.ref r.1) n = some (.ref (as[j]'(by omega))) := by
    have e1 : ((as.zip ds).map fun r => V.ref r.1).length = ds.length := by rw [List.length_map, List.length_zip]; omega
    unfold atI
    rw [e1, hj]
    show ((as.zip ds).map fun r => V.ref r.1)[j]? = _
    rw [List.getElem?_map, hz]; rfl
  exact ⟨al, _, n, _, rfl, rd_int r1, SqL.of h2, hat2, hQ _ false _ F1 H1 hr s1 e1 ⟨_, l, .inr (.inl ⟨i, al, _, he, List.mem_of_getElem? hz⟩), rfl, rfl⟩⟩
/-- an object of a slot, one of several, is changed in place -/
theorem St.writeIn {i : Nat} {q : Addr} {s s' : Sl} {o' : HO} (st : St K g F H σ env) (hs : env[i]? = some s) (ha : q ∈ s.fp) (ha' : s'.fp = s.fp) (h : SlOk K F (upd H q o') (σ[i]?.getD none) s') (ht : ∀ vs, o' ≠ .tup vs := by intro _ z; cases z) : St K g F (upd H q o') σ (env.set i s') := by
  have own : Own env q := ⟨i, s, hs, ha⟩
  have hF : F q = none := st.fr q own
  have sub : ∀ b, Own (env.set i s') b → Own env b := fun b hb => by
    rcases own_set hb with h1 | h1
    · rw [ha'] at h1; exact ⟨i, s, hs, h1⟩
    · exact h1
  have oth : ∀ (j : Nat) (t : Sl), i ≠ j → env[j]? = some t → q ∉ t.fp := fun j t ne e ht => ne (st.nd i j s t q hs e ha ht)
  refine { len := by rw [List.length_set]; exact st.len, sl := fun j t e => ?_, nd := fun j k t u b ej ek ht hu => ?_, fr := fun b hb => st.fr b (sub b hb), ex := st.ex.mut hF, tf := fun b vs z => by
             by_cases e : b = q
             · subst e; rw [upd_same] at z; exact absurd (Option.some.inj z) (ht vs)
             · rw [upd_ne e] at z; exact st.tf b vs z, tk := st.tk.put (st.tk.ne (st.toSk.ntb own)), gt := st.gt.grow (fun b z => by
             by_cases e : b = q
             · subst e; rw [upd_same] at z; cases z
             · rw [upd_ne e] at z; exact z), g1 := fun b u z m n => ?_, g2 := fun b hb => st.g2 b (sub b hb), g3 := st.g3, g4 := st.g4, g5 := fun b m z => ?_, g6 := st.g6 }
  · rcases set_get e with ⟨rfl, rfl⟩ | ⟨ne, e⟩
    · exact h
    · refine slok_mono (Ex.refl F) (fun b hb u z => ?_) (st.sl j t e)
      have hne : b ≠ q := fun z => oth j t ne e (z ▸ hb)
      rw [upd_ne hne]; exact z
  · rcases set_get ej with ⟨rfl, rfl⟩ | ⟨ne, ej2⟩
    · rcases set_get ek with ⟨rfl, rfl⟩ | ⟨ne2, ek⟩
      · rfl
      · rw [ha'] at ht; exact st.nd _ k s u b hs ek ht hu
    · rcases set_get ek with ⟨rfl, rfl⟩ | ⟨ne2, ek⟩
      · rw [ha'] at hu; exact st.nd j _ t s b ej2 hs ht hu
      · exact st.nd j k t u b ej2 ek ht hu
  · have hne : b ≠ q := fun e => by
      subst e
      rcases st.g2 b own with h1 | h1
      · rw [h1] at z; cases z
      · exact m h1
    rw [upd_ne hne]; exact st.g1 b u z m n
  · by_cases hb : b = q
    · subst hb; rw [upd_same] at z; cases z
    · rw [upd_ne hb] at z; exact st.g5 b m z
theorem zip_set {α β : Type} : ∀ {as : List α} {bs : List β} {j : Nat} {y : β}, (as.zip (bs.set j y)).map Prod.fst = (as.zip bs).map Prod.fst
  | [], _, _, _ => rfl
  | _ :: _, [], _, _ => rfl
  | a :: as, b :: bs, 0, y => rfl
  | a :: as, b :: bs, j + 1, y => by
    show a :: (as.zip (bs.set j y)).map Prod.fst = a :: (as.zip bs).map Prod.fst
    rw [zip_set]
/-- x[k].append(e) -/
theorem w1_appendOO (i : Nat) {al : Addr} {as : List Addr} {ds : List (List PyData)} {xn : Str} {q apos cpos spos : Pos} (hl : as.length = ds.length)
    (h : WE X g a env (fun kd _ => rowM ds kd fun _ => WE X g e env (fun d z => z = true ∧ rowAppM ds kd d fun r => P.nx (env.set i (ooS al as r))) (fun c => P.ex c env)) (fun c => P.ex c env)) (he : env[i]? = some (ooS al as ds) := by rfl) (hN : X.N[i]? = some xn := by rfl)
    (hv : Vis X.env.scope xn := by first | exact Or.inl rfl | exact Or.inr (Or.inl rfl) | exact Or.inr (Or.inr rfl)) (hd : (xn == ("__debug__" : Str)) = false := by decide)
    (hcd : (xn == ("__classdict__" : Str)) = false := by decide) (hpx : PlainIx a := by exact fun _ _ => rfl)
    (hbase : attributeBase (.Subscript (.Name xn q) a spos) "append" X.env (eval (.Subscript (.Name xn q) a spos) X.env) = eval (.Subscript (.Name xn q) a spos) X.env := by rfl)
    (hfew : ((backTo cpos (starEach [e] X.env)).all (fun x => !x.1) && (backToKw cpos (keywordEach [] X.env)).all (fun x => x.1.isSome)
      && decide ([e].length + ([] : List Keyword).length + (if ([] : List Keyword).isEmpty then 0 else 1) < 30)) = true := by rfl)
    (hline : (apos.endLine == cpos.line) = true := by rfl) (hs1 : starEach [e] X.env = (false, eval e X.env) :: starEach [] X.env := by rfl) (hplain : (backTo cpos (starEach ([] : List Expr) X.env)).any (·.1) = false := by rfl)
    (hs : swapsWith (.Call (.Attribute (.Subscript (.Name xn q) a spos) "append" apos) [e] [] cpos) none pos.line X.env = pure false := by rfl) :
    W1 X g (.Expr (.Call (.Attribute (.Subscript (.Name xn q) a spos) "append" apos) [e] [] cpos) pos) env P := fun W tk hx2 σ F H s0 D hD => by
  refine semP_of (ps_expr (pe_bm PySem.F.plainAttrs_list PySem.F.slot_list_append PySem.F.type_list_append mt_append (pe_ix ix_list (pe_var hN hv hd hcd) (peS a) hpx) (pa_cons (peS e) pa_nil hs1) hbase hfew hline hs1 hplain) hs) ?_
  obtain ⟨h1, _⟩ := s0.sl i _ he
  refine ⟨_, getD_some h1, ?_⟩
  refine h W tk σ F H s0 (hx2.hx env σ) _ fun kd z v F1 H1 hr s1 e1 r1 => ?_
  have hr : rowM ds kd fun _ => WE X g e env (fun d z => z = true ∧ rowAppM ds kd d fun r => P.nx (env.set i (ooS al as r))) (fun c => P.ex c env) := hr
  obtain ⟨n, l, rfl, hat, hr⟩ := row_ob hr
  obtain ⟨j, hj, hjl⟩ : ∃ j, ixN ds.length n = some j ∧ ds[j]? = some l := by
    unfold atI at hat
    obtain ⟨j, h5, h6⟩ := Option.bind_eq_some_iff.mp hat
    exact ⟨j, h5, h6⟩
  obtain ⟨hj1, hj2⟩ := List.getElem?_eq_some_iff.mp hjl
  have hz : (as.zip ds)[j]? = some (as[j]'(by omega), l) := by
    rw [List.getElem?_eq_getElem (by rw [List.length_zip]; omega), List.getElem_zip, hj2]
  have hat2 : atI ((as.zip ds).map fun r => V.ref r.1) n = some (.ref (as[j]'(by omega))) := by
    have e1 : ((as.zip ds).map fun r => V.ref r.1).length = ds.length := by rw [List.length_map, List.length_zip]; omega
    unfold atI
    rw [e1, hj]
    show ((as.zip ds).map fun r => V.ref r.1)[j]? = _
    rw [List.getElem?_map, hz]; rfl
  obtain ⟨_, h2, h3, h4⟩ := s1.sl i _ he
  refine ⟨al, _, n, _, rfl, rd_int r1, SqL.of h2, hat2, ?_⟩
  obtain ⟨vs, h5, _⟩ := h4 _ (List.mem_of_getElem? hz)
  refine ⟨.inl ⟨rfl, vs, SqL.of h5⟩, ?_⟩
  refine hr W tk σ F1 H1 s1 (hx2.hx env σ) _ fun d z w F2 H2 ⟨hz2, hp⟩ s2 e2 r2 => ?_
  subst hz2
  unfold rowAppM at hp
  simp only [hj, hjl] at hp
  obtain ⟨hlen, hp⟩ := hp
  obtain ⟨q1, q2, q3, q4⟩ := s2.sl i _ he
  obtain ⟨us, q5, q6⟩ := q4 _ (List.mem_of_getElem? hz)
  refine ⟨_, us, w, rfl, rfl, q5, by rw [dpa_len q6]; exact hlen, ?_⟩
  have hmem : as[j]'(by omega) ∈ (as.zip ds).map (·.1) := List.mem_map.mpr ⟨_, List.mem_of_getElem? hz, rfl⟩
  have fpe : (ooS al as (ds.set j (l ++ [d]))).fp = (ooS al as ds).fp := by
    show al :: (as.zip (ds.set j (l ++ [d]))).map Prod.fst = al :: (as.zip ds).map Prod.fst
    rw [zip_set]
  have nd := List.nodup_cons.mp q3
  have hne : as[j]'(by omega) ≠ al := fun z => nd.1 (z ▸ hmem)
  refine hD.nx _ _ F2 _ hp (s2.writeIn he (List.mem_cons_of_mem _ hmem) fpe ?_) (e1.trans e2)
  refine ⟨q1, ?_, ?_, fun r hr => ?_⟩
  · rw [upd_ne (Ne.symm hne), q2]
    congr 2
    have : ∀ L : List (Addr × List PyData), (L.map fun r => V.ref r.1) = (L.map Prod.fst).map V.ref := fun L => by rw [List.map_map]; rfl
    rw [this, this, zip_set]
  · show (al :: (as.zip (ds.set j (l ++ [d]))).map Prod.fst).Nodup
    rw [zip_set]; exact q3
  · obtain ⟨k, hk⟩ := List.mem_iff_getElem?.mp hr
    have hk2 := List.getElem?_zip_eq_some.mp hk
    by_cases ek : k = j
    · subst ek
      have ea : as[k]'(by omega) = r.1 := by
        have := hk2.1
        rw [List.getElem?_eq_getElem (by omega)] at this
        exact Option.some.inj this
      have ed : r.2 = l ++ [d] := by
        have := hk2.2
        rw [List.getElem?_set_self hj1] at this
        exact (Option.some.inj this).symm
      rw [← ea, ed, upd_same]
      exact ⟨us ++ [w], rfl, dpa_app q6 (dpa_one r2)⟩
    · have hr2 : r ∈ as.zip ds := by
        refine List.mem_of_getElem? (i := k) (List.getElem?_zip_eq_some.mpr ⟨hk2.1, ?_⟩)
        have := hk2.2
        rwa [List.getElem?_set_ne (Ne.symm ek)] at this
      obtain ⟨us', z1, z2⟩ := q4 _ hr2
      have hne2 : r.1 ≠ as[j]'(by omega) := fun z => by
        have hlt : k < as.length := (List.getElem?_eq_some_iff.mp hk2.1).1
        have hnd : ((as.zip ds).map Prod.fst).Nodup := nd.2
        have hk3 : ((as.zip ds).map Prod.fst)[k]? = some r.1 := by
          rw [List.getElem?_map, List.getElem?_zip_eq_some.mpr ⟨hk2.1, by have := hk2.2; rwa [List.getElem?_set_ne (Ne.symm ek)] at this⟩]; rfl
        have hj3 : ((as.zip ds).map Prod.fst)[j]? = some r.1 := by
          rw [List.getElem?_map, hz, z]; rfl
        obtain ⟨i1, i2⟩ := List.getElem?_eq_some_iff.mp hk3
        obtain ⟨i3, i4⟩ := List.getElem?_eq_some_iff.mp hj3
        exact ek ((List.getElem_inj hnd).mp (i2.trans i4.symm))
      exact ⟨us', by rw [upd_ne hne2]; exact z1, z2⟩
/-- name = [[] for .. in ..] -/
def LJo (K : Frag) (g : G) (F1 : Hp) (σ : SS) (env : List Sl) (D : Addr) (i : Nat) (H : Hp) : Prop :=
  ∃ F as, St K g F H σ env ∧ Ex F1 F ∧ H D = some (.lst (as.map .ref)) ∧ F D = none ∧ ¬ Own env D ∧ g.H0 D = none ∧ (D :: as).Nodup ∧ as.length = i ∧ ∀ b ∈ as, H b = some (.lst []) ∧ F b = none ∧ ¬ Own env b ∧ g.H0 b = none
theorem w1_newOOc (i : Nat) {y : Str} {py elp : Pos} {scope : Scope} {own : List (Str × Nat)} {t : TG} {A : PyData → Option (List (Nat × PyData))} (hc : X.calm = true) (hN : X.N.Nodup) (ok : BlkOk X.N X.env.scope scope own) (hpg : ∀ s H C cl fp, PG (BX X scope s H C cl fp) tg t) (htd : TGd X.K t A) (hwo : wipeOk env (own.map (·.2)) = true)
    (h : WI X g tg iter env (fun xs => (∀ x ∈ xs, ∃ l, A x = some l ∧ (l.all fun q => (own.map (·.2)).elem q.1 && Nat.blt q.1 env.length) = true) ∧ ∀ q as, q ∉ g.M → as.length = xs.length → P.nx (env.set i (ooS q as (List.replicate xs.length [])))) (fun c => P.ex c env))
    (hy : X.N[i]? = some y := by rfl) (hx : Loc X.env.scope y := by first | exact Or.inl rfl | exact Or.inr rfl) (hl : Nat.blt i env.length = true := by rfl)
    (hsw : swapsWith (.ListComp (.List [] elp) [⟨tg, iter, [], 0⟩] scope pos) (some (.Name y py)) p.line X.env = pure false := by rfl) (hf : X.fn y = true ∨ X.env.scope.names.lookup y = some .local := by first | exact .inl rfl | exact .inr rfl) (hs : ∀ x, foldedSetIterable iter X.env x = pure x := by intro _; rfl) :
    W1 X g (.Assign [.Name y py] (.ListComp (.List [] elp) [⟨tg, iter, [], 0⟩] scope pos) p) env P := fun W tk hx2 σ F H s0 D hD => by
  refine semP_of (ps_set hN hy hx (pe_lc hc hN piS ok hpg (ptsB (by decide)) peB hs) hsw hf) ?_
  refine h W tk σ F H s0 (hx2.hx env σ) _ fun xs J F1 H1 ⟨hA, hp⟩ hlen s1 e1 ⟨GG, Y, hw, hG, hyy⟩ => fun D' hD' => ?_
  have st2 : St X.K g F1 (upd H1 D' (.lst [])) (wipe σ (own.map (·.2))) (wipeE env (own.map (·.2))) := (s1.alloc hD').wiped _
  refine lc_it hw (LJo X.K g F1 (wipe σ (own.map (·.2))) (wipeE env (own.map (·.2))) D') ⟨F1, [], st2, Ex.refl F1, upd_same, s1.ex.none hD', fun z => s1.there (own_wipe z) hD', s1.h0 hD', by simp, rfl, fun b hb => by cases hb⟩ (fun i H2 _ ⟨F2, _, s3, e3, _⟩ => hG _ (e3.trans s3.ex)) (fun i x H2 H3 hi2 hJ hY => ?_) (fun H2 ⟨F2, as, s3, e3, q1, q2, q3, q4, q5, q6, q7⟩ => ?_)
  · obtain ⟨F2, as, s3, e3, q1, q2, q3, q4, q5, q6, q7⟩ := hJ
    obtain ⟨d, hd⟩ : ∃ d, xs[i]? = some d := ⟨xs[i], by simp [hi2]⟩
    obtain ⟨F3, s4, ex4, hv, exH, hF⟩ := hyy i d hd _ _ _ hY _ _ _ _ s3 e3
    obtain ⟨l, hAl, hl2⟩ := hA d (List.mem_of_getElem? hd)
    have keep : ∀ b o, H2 b = some o → F2 b = none → F3 b = none := fun b o h1 h2 => by
      cases z : F3 b with
      | none => rfl
      | some u =>
        rcases hF b (by rw [z]; intro z; cases z) with w | w
        · exact absurd h2 w
        · rw [h1] at w; cases w
    refine htd d l (wipe σ (own.map (·.2))) F3 H3 x _ hAl s4.ex hv fun r sr => ?_
    have hidx : ∀ q ∈ r, q.1 ∈ own.map (·.2) := setsP_idx sr fun q hq => (lt_idx hl2 q hq).1
    refine ⟨by rw [wipe_putsV hidx]; exact wipe_wipe σ _, ?_⟩
    unfold semTB tYes
    dsimp only
    rw [if_pos rfl]
    intro sh H0 C cl fp
    refine semE_of (pe_lst pa_nil) ?_
    refine ⟨Nat.zero_le _, fun b hb => ?_⟩
    have nD : b ≠ D' := fun z => by subst z; rw [exH _ _ q1] at hb; cases hb
    have nas : b ∉ as := fun z => by rw [exH _ _ (q7 b z).1] at hb; cases hb
    have s5 := s4.alloc (o := .lst []) hb
    refine ⟨as.map .ref, by rw [upd_ne (Ne.symm nD)]; exact exH _ _ q1, by rw [List.length_map]; omega, F3, as ++ [b], ?_, e3.trans ex4, by rw [upd_same, List.map_append]; rfl, keep D' _ q1 q2, q3, q4, ?_, by rw [List.length_append, List.length_singleton, q6], fun c hc => ?_⟩
    · exact s5.untracked (keep D' _ q1 q2) q3 q4
    · rw [← List.cons_append, List.nodup_append]
      refine ⟨q5, by simp, fun c hc e he => ?_⟩
      have he : e = b := by simpa using he
      subst he
      rcases List.mem_cons.mp hc with rfl | hc
      · exact Ne.symm nD
      · exact fun z => nas (z ▸ hc)
    · rcases List.mem_append.mp hc with hc | hc
      · obtain ⟨z1, z2, z3, z4⟩ := q7 c hc
        have h1 : c ≠ D' := fun z => (List.nodup_cons.mp q5).1 (z ▸ hc)
        have h2 : c ≠ b := fun z => nas (z ▸ hc)
        exact ⟨by rw [upd_ne h1, upd_ne h2]; exact exH _ _ z1, keep c _ z1 z2, z3, z4⟩
      · have hc : c = b := by simpa using hc
        subst hc
        exact ⟨by rw [upd_ne nD, upd_same], s4.ex.none hb, fun z => s4.there z hb, s4.h0 hb⟩
  · have s5 := s1.unwiped hwo s3 e3
    have no : ∀ b, ¬ Own (wipeE env (own.map (·.2))) b → ¬ Own env b := fun b h z => h (own_wipe' hwo z)
    have hzf : ∀ n, as.length = n → (as.zip (List.replicate n ([] : List PyData))).map Prod.fst = as := fun n hn => by
      rw [List.map_fst_zip]; rw [List.length_replicate]; omega
    refine hD.nx _ _ F2 H2 (hp D' as (fun m => s1.g6 D' m q4) q6) (s5.set (ltB hl) ?_ ?_ ?_ ?_) (e1.trans e3)
    · refine ⟨rfl, ?_, ?_, fun r hr => ?_⟩
      · rw [q1]
        congr 2
        have : ∀ L : List (Addr × List PyData), (L.map fun r => V.ref r.1) = (L.map Prod.fst).map V.ref := fun L => by rw [List.map_map]; rfl
        rw [this, hzf _ q6]
      · show (D' :: (as.zip (List.replicate xs.length [])).map Prod.fst).Nodup
        rw [hzf _ q6]; exact q5
      · obtain ⟨m1, m2⟩ := List.of_mem_zip (a := r.1) (b := r.2) hr
        rw [(List.mem_replicate.mp m2).2]
        exact ⟨[], (q7 _ m1).1, .nil⟩
    all_goals
      intro b hb
      have hb : b = D' ∨ b ∈ as := by
        have hb : b ∈ D' :: (as.zip (List.replicate xs.length [])).map Prod.fst := hb
        rw [hzf _ q6] at hb
        exact List.mem_cons.mp hb
    · rcases hb with rfl | hb
      · exact q2
      · exact (q7 b hb).2.1
    · intro j u hj hu hbu
      rcases hb with rfl | hb
      · exact no _ q3 ⟨j, u, hu, hbu⟩
      · exact no _ (q7 b hb).2.2.1 ⟨j, u, hu, hbu⟩
    · rcases hb with rfl | hb
      · exact .inl q4
      · exact .inl (q7 b hb).2.2.2
end
theorem getT_s {kT : List (List Key × PyData)} {key : PyData} {Q : KD} {Φ : PyData → Prop} (h : getTM kT key Q) (k : ∀ r, Q r → Φ r) : ∃ q, keyT key = some q ∧ ∃ d, valP kT q = some d ∧ Φ d := by
  unfold getTM at h
  split at h
  · rename_i e1
    split at h
    · rename_i e2; exact ⟨_, e1, _, e2, k _ h⟩
    · exact h.elim
  · exact h.elim
def lstO : PyData → KL → Prop
  | .list ds, K => K ds
  | _, _ => False
theorem lstO_sh {x : PyData} {Q Φ : KL} (h : lstO x Q) (k : ∀ r, Q r → Φ r) : ∃ ds, x = .list ds ∧ Φ ds := by
  unfold lstO at h
  split at h
  · exact ⟨_, rfl, k _ h⟩
  · exact h.elim
def indexM (ds : List PyData) (d : PyData) (K : KD) : Prop := (SeqAt.shaped (.list ds) = true ∧ SeqAt.shaped d = true) ∧ match ds.findIdx? (fun z => PyData.eqv z d) with
    | some j => K (.int (j : Nat))
    | none => False
def IndexP (Φ : PyData → Prop) (ds : List PyData) (d2 : PyData) : Prop := ∃ (j : Nat) (z : PyData), SeqAt.shaped (.list ds) = true ∧ SeqAt.shaped d2 = true ∧ ds[j]? = some z ∧ PyData.eqv z d2 = true ∧
  (∀ (m : Nat) (z' : PyData), m < j → ds[m]? = some z' → PyData.eqv z' d2 = false) ∧ Φ (.int (j : Nat))
theorem index_sh {ds : List PyData} {y : PyData} {Q : KD} {Φ : PyData → Prop} (h : indexM ds y Q) (k : ∀ r, Q r → Φ r) : IndexP Φ ds y := by
  unfold indexM at h
  obtain ⟨⟨h1, h2⟩, h⟩ := h
  split at h
  · rename_i j e
    obtain ⟨h3, h4, h5⟩ := List.findIdx?_eq_some_iff_getElem.mp e
    refine ⟨j, ds[j], h1, h2, List.getElem?_eq_getElem h3, h4, fun m z' hm hz => ?_, k _ h⟩
    obtain ⟨h6, rfl⟩ := List.getElem?_eq_some_iff.mp hz
    exact Bool.eq_false_iff.mpr (h5 m hm)
  · exact h.elim
section
variable {X : Cx} {g : G} {env : List Sl} {Ψ : Exc → Prop} {P : Po} {o e : Expr} {k0 : Nat}
theorem we_index {apos cpos : Pos} {Φ : PyData → Bool → Prop} (hr : Room k0 X.A) (h : WE X g o env (fun d1 z1 => z1 = true ∧ ∃ ds, d1 = .list ds ∧ WE X g e env (fun d2 z2 => z2 = true ∧ IndexP (fun d => Φ d true) ds d2) Ψ) Ψ)
    (hbase : attributeBase o "index" X.env (eval o X.env) = eval o X.env := by rfl)
    (hfew : ((backTo cpos (starEach [e] X.env)).all (fun x => !x.1) && (backToKw cpos (keywordEach [] X.env)).all (fun x => x.1.isSome)
      && decide ([e].length + ([] : List Keyword).length + (if ([] : List Keyword).isEmpty then 0 else 1) < 30)) = true := by rfl)
    (hline : (apos.endLine == cpos.line) = true := by rfl) (hs1 : starEach [e] X.env = (false, eval e X.env) :: starEach [] X.env := by rfl) (hplain : (backTo cpos (starEach ([] : List Expr) X.env)).any (·.1) = false := by rfl) :
    WE X g (.Call (.Attribute o "index" apos) [e] [] cpos) env Φ Ψ := fun W tk σ F H st hx Q hQ => by
  refine semE_of (pe_bm PySem.F.plainAttrs_list PySem.F.slot_list_index PySem.F.type_list_index (mt_indexD (units65 hr)) (peS o) (pa_cons (peS e) pa_nil hs1) hbase hfew hline hs1 hplain) ?_
  refine h W tk σ F H st hx _ fun d1 z1 v1 F1 H1 ⟨hz, ds, hd, hw⟩ s1 e1 r1 => ?_
  subst hz hd
  refine ⟨?_, ?_⟩
  · obtain ⟨a, vs, rfl, hl, hds⟩ := rd_lst (z := true) s1.toSk r1
    exact .inl ⟨rfl, vs, hl⟩
  refine hw W tk σ F1 H1 s1 hx _ fun d2 z2 v2 F2 H2 ⟨hz, j, z, g1, g2, g3, g4, g5, hp⟩ s2 e2 r2 => ?_
  subst hz
  have q1 := dp_mono e2 _ _ r1
  obtain ⟨a, vs, rfl, hl, hds⟩ := dp_lst q1
  exact ⟨a, v2, d2, ds, j, z, rfl, rfl, rd_nowP (z := true) s2.toSk q1 g1, rd_nowP (z := true) s2.toSk r2 g2, g1, g2, g3, g4, g5, hQ _ true _ F2 H2 hp s2 (e1.trans e2) (.int _)⟩
end
end TL
namespace TL
open PySem PySem.Spec PyProof.Rows L2
def isE (m n : Str) : Bool := decide (m = n) || decide (n = "PinchError")
def hdC : List (Str × Prop) → Str → Prop → Prop
  | [], _, K => K
  | (n, H) :: r, m, K => (isE m n = true → H) ∧ (isE m n = false → hdC r m K)
def hdM (kn : List Str) (hs : List (Str × Prop)) (E : Exc → Prop) : Exc → Prop
  | .own m => m ∈ kn ∧ hdC hs m (E (.own m))
def tryM (bd : (Exc → Prop) → Prop) (kn : List Str) (hs : List (Str × Prop)) (E : Exc → Prop) : Prop := bd (hdM kn hs E)
theorem exm_nil {K : Frag} {n : Str} : ∀ m ∈ ([] : List Str), ExM K (.own m) n = some (isE m n) := fun _ h => by cases h
theorem exm_cons {K : Frag} {n a : Str} {l : List Str} {b : Bool} (h : ExM K (.own a) n = some b) (r : ∀ m ∈ l, ExM K (.own m) n = some (isE m n)) (e : isE a n = b := by rfl) : ∀ m ∈ a :: l, ExM K (.own m) n = some (isE m n) := fun m hm => by
  rcases List.mem_cons.mp hm with rfl | hm
  · rw [h, e]
  · exact r m hm
end TL
namespace TL
open PySem PySem.Spec PyProof.Rows L2
section
variable {X : Cx} {ta tb tc td : TE} {a b c d : Expr} {pos : Pos}
def tChain3 (r r' r2 : R2) (ta tb tc td : TE) : TE := fun σ H Q => ta σ H fun x H1 => tb σ H1 fun y H2 => r x y H2 fun z H3 => ∃ k, z = .bl k ∧
  (if k = true then tc σ H3 fun w' H4 => r' y w' H4 fun z2 H5 => ∃ k2, z2 = .bl k2 ∧ (if k2 = true then td σ H5 fun v' H6 => r2 w' v' H6 Q else Q (.bl false) H5) else Q (.bl false) H3)
theorem pe_chain3 {op op' op2 : CmpOp} {r r' r2 : R2} (ho : OpR X (compareOp op) r) (ho' : OpR X (compareOp op') r') (ho2 : OpR X (compareOp op2) r2) (ha : PE X a ta) (hb : PE X b tb) (hc : PE X c tc) (hd : PE X d td)
    (hm : lastMarks [op, op', op2] [b, c, d] = false) : PE X (.Compare a [op, op', op2] [b, c, d] pos) (tChain3 r r' r2 ta tb tc td) := by
  refine ⟨fun pins s σ H Q I h => ?_⟩
  refine Compare_chain (thn (ha.run pins s σ H _ I h) fun v s1 ⟨x, H1, I1, r1, q1⟩ => chain_link (thn (hb.run pins s1 σ H1 _ I1 q1) fun u s2 ⟨y, H2, I2, rr2, q2⟩ =>
    thn (ho pins s2 σ H2 x y v u _ I2 r1 rr2 q2) fun d s3 ⟨z, H3, I3, r3, k, e, q3⟩ => ?_)) hm
  subst e
  cases r3
  refine wpAny_truthy_bool ?_
  cases k with
  | false => exact ite_ff ⟨.bl false, H3, I3, rfl, q3⟩
  | true =>
    refine ite_tt (chain_link (thn (hc.run pins s3 σ H3 _ I3 q3) fun w' s4 ⟨z', H4, I4, r4, q4⟩ => thn (ho' pins s4 σ H4 y z' u w' _ I4 rr2 r4 q4) fun d' s5 ⟨z5, H5, I5, r5, k2, e2, q5⟩ => ?_))
    subst e2
    cases r5
    refine wpAny_truthy_bool ?_
    cases k2 with
    | false => exact ite_ff ⟨.bl false, H5, I5, rfl, q5⟩
    | true => exact ite_tt (chain_last (thn (hd.run pins s5 σ H5 _ I5 q5) fun v' s6 ⟨z6, H6, I6, r6, q6⟩ => ho2 pins s6 σ H6 z' z6 w' v' Q I6 r4 r6 q6))
variable {g : G} {env : List Sl} {Ψ : Exc → Prop}
theorem we_ch3 {Φ : PyData → Bool → Prop} {op op' op2 : CmpOp} {r r' r2 : R2} (ho : OpR X (compareOp op) r) (ho' : OpR X (compareOp op') r') (ho2 : OpR X (compareOp op2) r2)
    (h : WE X g a env (fun d1 z1 => WE X g b env (fun d2 z2 => ∃ k, CP X.K g env r d1 z1 d2 z2 k ∧ (k = true → WE X g c env (fun d3 z3 => ∃ k', CP X.K g env r' d2 z2 d3 z3 k' ∧ (k' = true → WE X g d env (fun d4 z4 => ∃ k2, CP X.K g env r2 d3 z3 d4 z4 k2 ∧ Φ (.bool k2) true) Ψ) ∧ (k' = false → Φ (.bool false) true)) Ψ) ∧ (k = false → Φ (.bool false) true)) Ψ) Ψ)
    (hm : lastMarks [op, op', op2] [b, c, d] = false := by with_unfolding_all rfl) : WE X g (.Compare a [op, op', op2] [b, c, d] pos) env Φ Ψ := fun W tk σ F H st hx Q hQ => by
  refine semE_of (pe_chain3 ho ho' ho2 (peS a) (peS b) (peS c) (peS d) hm) ?_
  refine h W tk σ F H st hx _ fun d1 z1 v1 F1 H1 h1 st1 e1 r1 => ?_
  refine h1 W tk σ F1 H1 st1 hx _ fun d2 z2 v2 F2 H2 h2 st2 e2 rr2 => ?_
  obtain ⟨k, hc, ht, hf⟩ := h2
  refine hc σ F2 H2 v1 v2 st2 (rd_mono e2 r1) rr2 _ ⟨k, rfl, ?_⟩
  cases k with
  | true =>
    rw [if_pos rfl]
    refine ht rfl W tk σ F2 H2 st2 hx _ fun d3 z3 v3 F3 H3 h3 st3 e3 r3 => ?_
    obtain ⟨k', hc', ht', hf'⟩ := h3
    refine hc' σ F3 H3 v2 v3 st3 (rd_mono e3 rr2) r3 _ ⟨k', rfl, ?_⟩
    cases k' with
    | true =>
      rw [if_pos rfl]
      refine ht' rfl W tk σ F3 H3 st3 hx _ fun d4 z4 v4 F4 H4 h4 st4 e4 r4 => ?_
      obtain ⟨k2, hc2, hp⟩ := h4
      exact hc2 σ F4 H4 v3 v4 st4 (rd_mono e4 r3) r4 Q (hQ _ true _ F4 H4 hp st4 (((e1.trans e2).trans e3).trans e4) (.bl k2))
    | false =>
      rw [if_neg Bool.false_ne_true]
      exact hQ _ true _ F3 H3 (hf' rfl) st3 ((e1.trans e2).trans e3) (.bl false)
  | false =>
    rw [if_neg Bool.false_ne_true]
    exact hQ _ true _ F2 H2 (hf rfl) st2 (e1.trans e2) (.bl false)
theorem ch_sh3 {x y : PyData} {z1 z2 : Bool} {e3 e4 : Expr} {ma mb : KB → Prop} {Q Φ : KB} {r r' r2 : R2} (h : andM ma (fun Q => mb Q) Q) (h1 : ∀ Q, ma Q → ∃ k, CP X.K g env r x z1 y z2 k ∧ Q k)
    (h2 : ∀ Q : KB, mb Q → WE X g e3 env (fun d3 z3 => ∃ k', CP X.K g env r' y z2 d3 z3 k' ∧ (k' = true → WE X g e4 env (fun d4 z4 => ∃ k2, CP X.K g env r2 d3 z3 d4 z4 k2 ∧ Q k2) Ψ) ∧ (k' = false → Q false)) Ψ) (k : ∀ b, Q b → Φ b) :
    ∃ k, CP X.K g env r x z1 y z2 k ∧ (k = true → WE X g e3 env (fun d3 z3 => ∃ k', CP X.K g env r' y z2 d3 z3 k' ∧ (k' = true → WE X g e4 env (fun d4 z4 => ∃ k2, CP X.K g env r2 d3 z3 d4 z4 k2 ∧ Φ k2) Ψ) ∧ (k' = false → Φ false)) Ψ) ∧ (k = false → Φ false) := by
  obtain ⟨b, hb, q1, q2⟩ := h1 _ h
  exact ⟨b, hb, fun e => (h2 _ (q1 e)).mono fun d z ⟨k', c1, c2, c3⟩ => ⟨k', c1, fun e => (c2 e).mono fun d z ⟨k2, c4, c5⟩ => ⟨k2, c4, k _ c5⟩, fun e => k _ (c3 e)⟩, fun e => k _ (q2 e)⟩
end
end TL
namespace TL
open PySem PySem.Spec PyProof.Rows L2 HT
section
variable {prog : Program} {w : World} {A : Around} {E : Value → Shared → Prop} {s : Shared}
theorem sliceApplied_rev {sl : Addr} {vl vu vs : Value} {n : Nat} {Q : Int × Int × Nat → Shared → Prop} (hs : s.heap.IsSliceOf sl vl vu vs) (pl : IsPart vl none) (pu : IsPart vu none) (ps : IsPart vs (some (-1)))
    (h : Q ((n : Int) - 1, -1, n) s) : wpAny (model prog w) A (Builtin.Slice.sliceApplied (.ref sl) (pure (n : Int))) Q E s := by
  obtain ⟨os, hos, hcs, hds⟩ := id hs
  unfold Builtin.Slice.sliceApplied Builtin.Slice.sliceFields
  refine wpAny_bind (wpAny_bind (wpAny_field hos hds (x := vl) rfl (wpAny_bind (wpAny_field hos hds (x := vu) rfl (wpAny_bind (wpAny_field hos hds (x := vs) rfl (wpAny_pure ?_)))))))
  refine wpAny_bind (slicePart_ ps ?_)
  show wpAny _ _ (if ((-1 : Int) == 0) = true then _ else _) _ _ s
  rw [if_neg (by decide)]
  refine wpAny_bind (slicePart_ pl (wpAny_bind (slicePart_ pu (wpAny_bind (wpAny_pure ?_)))))
  show wpAny _ _ (pure ((n : Int) - 1, (-1 : Int), Builtin.Slice.slicePlaces ((n : Int) - 1) (-1) (-1))) _ _ s
  have e : Builtin.Slice.slicePlaces ((n : Int) - 1) (-1) (-1) = n := by
    unfold Builtin.Slice.slicePlaces
    rw [if_neg (by decide)]
    split
    · simp
    · omega
  rw [e]
  exact wpAny_pure h
theorem fm_some {α β : Type} {f : α → Option β} {g : α → β} : ∀ (L : List α), (∀ k ∈ L, f k = some (g k)) → L.filterMap f = L.map g
  | [], _ => rfl
  | a :: L, h => by rw [List.filterMap_cons, h a (List.mem_cons_self ..), List.map_cons, fm_some L fun b hb => h b (List.mem_cons_of_mem _ hb)]
theorem pick_rev (xs : Array Value) : ((List.range xs.size).filterMap fun (k : Nat) => xs[((xs.size : Int) - 1 + (k : Int) * -1).toNat]?).toArray = xs.toList.reverse.toArray := by
  congr 1
  refine List.ext_getElem? fun i => ?_
  have hh : ∀ k ∈ List.range xs.size, (fun (k : Nat) => xs[((xs.size : Int) - 1 + (k : Int) * -1).toNat]?) k = some (xs.toList.reverse.getD k .none) := fun k hk => by
    have hk := List.mem_range.mp hk
    have e1 : ((xs.size : Int) - 1 + (k : Int) * -1).toNat = xs.size - 1 - k := by omega
    show xs[_]? = _
    rw [e1, List.getD_eq_getElem?_getD, List.getElem?_reverse (by simpa using hk), Array.length_toList, Array.getElem?_toList, Array.getElem?_eq_getElem (by omega)]
    rfl
  have e2 : (List.range xs.size).filterMap (fun (k : Nat) => xs[((xs.size : Int) - 1 + (k : Int) * -1).toNat]?) = (List.range xs.size).map fun k => xs.toList.reverse.getD k .none := fm_some _ hh
  rw [e2, List.getElem?_map]
  by_cases hi : i < xs.size
  · rw [List.getElem?_range hi]
    show some (xs.toList.reverse.getD i .none) = _
    rw [List.getD_eq_getElem?_getD, List.getElem?_eq_getElem (by simpa using hi)]; rfl
  · rw [List.getElem?_eq_none (by simpa using hi), List.getElem?_eq_none (by simpa using hi)]; rfl
theorem getItem_tuple_rev {t sl : Addr} {items : Array Value} {vl vu vs : Value} {Q : Value → Shared → Prop} (ht : IsTup s.heap t items) (hs : s.heap.IsSliceOf sl vl vu vs) (pl : IsPart vl none) (pu : IsPart vu none) (ps : IsPart vs (some (-1)))
    (h : Q (.ref s.heap.objs.size) { s with heap := s.heap.push { cls := .type "tuple", data := .seq items.toList.reverse.toArray } })
    (hsz : items.size ≤ sizeLine) : wpAny (model prog w) A (getItem (.ref t) (.ref sl)) Q E s := by
  have htake : sizeOk (.seq items.toList.reverse.toArray) := by
    show items.toList.reverse.toArray.size ≤ sizeLine
    rw [List.size_toArray, List.length_reverse, Array.length_toList]
    omega
  obtain ⟨os, hos, hcs, hds⟩ := id hs
  have hTs : s.TypeIs (.ref sl) "slice" := ⟨os, hos, hcs⟩
  unfold getItem
  try with_reducible refine wpAny_holding ?_
  first | refine wpAny_bind (wpAny_pure ?_) | skip
  refine wpAny_bind (wpAny_sequenceKey ht.typeIs (by decide) ?_)
  refine wpAny_bind (wpAny_callSpecial?_slot (name := Str.ofString "__getitem__") ht.typeIs PyProof.Rows.slot_tuple_getitem
    (wpAny_call_entry PyProof.Rows.slot_tuple_getitem ht.typeIs entry_tuple_getitem ?_ (args_tuple_getitem _ _)))
  show wpAny _ _ (Builtin.Tuple.tupleItemsOf (.ref t) >>= _) _ _ s
  refine wpAny_bind (tupleItemsOf_ ht ?_)
  refine wpAny_bind (wpAny_typeOf hTs ?_)
  rw [if_pos (by decide)]
  refine wpAny_bind (sliceApplied_rev hs pl pu ps ?_)
  have hno : ¬ ((((items.size : Int) - 1) == 0 && (-1 : Int) == 1 && items.size == items.size) = true) := by simp
  show wpAny _ _ (if (((items.size : Int) - 1) == 0 && (-1 : Int) == 1 && items.size == items.size) = true then _ else _) _ _ s
  rw [if_neg hno, pick_rev]
  first
    | exact wpAny_bind (m := Builtin.Tuple.tupleExact _) (wpAny_newObj_type (wpAny_pure ⟨_, rfl, wpAny_pure h⟩) htake)
    | exact wpAny_bind (m := Builtin.Tuple.tupleExact _) (wpAny_newObj_type (wpAny_bind (wpAny_pure (wpAny_pure ⟨_, rfl, wpAny_pure h⟩))) htake)
    | exact wpAny_bind (wpAny_bind (m := Builtin.Tuple.tupleExact _) (wpAny_newObj_type (wpAny_pure (wpAny_pure ⟨_, rfl, wpAny_pure h⟩)) htake))
    | exact wpAny_bind (wpAny_bind (m := Builtin.Tuple.tupleExact _) (wpAny_newObj_type (wpAny_pure ⟨_, rfl, wpAny_pure h⟩) htake))
end
section
variable {X : Cx}
def tRevT (K : PySem.W.Frag) (te : TE) : TE := fun σ H Q => te σ H fun x H1 => ∃ a xs, x = .ref a ∧ ((SqL K H1 a xs ∧ ∀ p, H1 p = none → Q (.ref p) (upd H1 p (.lst xs.reverse))) ∨ (SqT K H1 a xs ∧ ∀ p, H1 p = none → Q (.ref p) (upd H1 p (.tup xs.reverse))))
theorem pe_revT {e : Expr} {te : TE} {k : Nat} {p1 p2 p3 pos : Pos} (he : PE X e te) : PE X (.Subscript e (.Slice none none (some (.UnaryOp .USub (.Constant (.int 1) k p1) p2)) p3) pos) (tRevT X.K te) := by
  refine ⟨fun pins s σ H Q I h => ?_⟩
  refine Subscript_ (thn (he.run pins s σ H _ I h) fun v s1 ⟨x, H1, I1, r1, q1⟩ => ?_)
  obtain ⟨a, xs, ex, q⟩ := q1
  subst ex
  cases r1
  have hst : PO X (some (.UnaryOp .USub (.Constant (.int 1) k p1) p2)) (tPart (tUn (rU fun i => .int (-i)) (tC (.int 1)))) := po_some (pe_un un_neg pe_int)
  refine wpAny_Slice (thn (po_none.run pins s1 σ H1 (fun o H2 => o = none ∧ H2 = H1) I1 ⟨rfl, rfl⟩) fun vl s2 ⟨l, H2, I2, pl, el, e2⟩ => ?_)
  subst el e2
  refine thn (po_none.run pins s2 σ H2 (fun o H3 => o = none ∧ H3 = H2) I2 ⟨rfl, rfl⟩) fun vu s3 ⟨u, H3, I3, pu, eu, e3⟩ => ?_
  subst eu e3
  refine thn (hst.run pins s3 σ H3 (fun o H4 => o = some (-1) ∧ H4 = H3) I3 ⟨1, rfl, -1, rfl, rfl, rfl⟩) fun vs s4 ⟨o, H4, I4, ps, eo, e4⟩ => ?_
  subst eo e4
  have I5 : Inv X pins σ H4 { s4 with heap := s4.heap.push { cls := .type "slice", data := .fields #[vl, vu, vs] } } := I4.kept (t' := s4.toks) fun b ob q => Heap.get?_push_of_some _ q
  show wpAny (model X.prog X.w) X.A (subscriptTail e (.Slice none none (some (.UnaryOp .USub (.Constant (.int 1) k p1) p2)) p3) (.ref a) (.ref s4.heap.objs.size)) (EP X pins σ Q) X.xe { s4 with heap := s4.heap.push { cls := .type "slice", data := .fields #[vl, vu, vs] } }
  rcases q with ⟨hx, q⟩ | ⟨hx, q⟩
  · obtain ⟨its, r, ht, hz⟩ := I5.list hx
    have hlen := r.length
    refine tail_any (ops := [.ref a, .ref s4.heap.objs.size]) ht.isList.typeIs (PySem.slot_list_getitem.lookup) ?_ (by with_unfolding_all rfl)
    refine wpAny_getItem_list_slice ht.isList (Heap.IsSliceOf.new _ vl vu vs) pl pu ps (by decide) ?_ (by rw [List.size_toArray]; omega)
    rw [PySem.W.krv_pick]
    refine ⟨.ref _, _, I5.laid (t' := s4.toks) (o := .lst xs.reverse) (fun b ob q => Heap.get?_push_of_some _ q) (Nat.le_refl _) ?_, rfl, q _ (I5.hok.fresh (Nat.le_refl _))⟩
    exact ⟨by rw [List.length_reverse]; exact hz, _, 0, r.reverse, Heap.get?_push_size _ rfl⟩
  · obtain ⟨its, r, ht, hz⟩ := I5.tuple hx
    have hlen := r.length
    refine tail_any (ops := [.ref a, .ref s4.heap.objs.size]) ht.typeIs (PyProof.Rows.slot_tuple_getitem.lookup) ?_ (by with_unfolding_all rfl)
    refine getItem_tuple_rev ht (Heap.IsSliceOf.new _ vl vu vs) pl pu ps ?_ (by rw [List.size_toArray]; omega)
    refine ⟨.ref _, _, I5.laid (t' := s4.toks) (o := .tup xs.reverse) (fun b ob q => Heap.get?_push_of_some _ q) (Nat.le_refl _) ?_, rfl, q _ (I5.hok.fresh (Nat.le_refl _))⟩
    exact ⟨by rw [List.length_reverse]; exact hz, _, r.reverse, ⟨_, Heap.get?_push_size _ rfl, rfl, _, rfl⟩⟩
end
/-- x[::-1], a list or a tuple -/
def revDM : PyData → KD → Prop
  | .list xs, K => K (.list xs.reverse)
  | .tuple xs, K => K (.tuple xs.reverse)
  | _, _ => False
section
variable {X : Cx} {g : G} {env env' : List Sl} {Ψ : Exc → Prop} {P : Po} {pos p lp : Pos} {a b c e o tg iter : Expr} {es : List Expr} {rest body : List Stmt} {K : Frag} {F F' H H' : Hp} {σ σ' : SS} {x y : PyData} {z1 z2 : Bool} {k0 : Nat} {al : Addr} {xn : Str}
theorem we_revD {j : Nat} {p1 p2 p3 : Pos} {Φ : PyData → Bool → Prop} (h : WE X g a env (fun d _ => revDM d fun r => Φ r true) Ψ) : WE X g (.Subscript a (.Slice none none (some (.UnaryOp .USub (.Constant (.int 1) j p1) p2)) p3) pos) env Φ Ψ := fun W tk σ F H st hx Q hQ => by
  refine semE_of (pe_revT (peS a)) ?_
  refine h W tk σ F H st hx _ fun d1 z1 v1 F1 H1 h1 st1 e1 r1 => ?_
  cases d1 with
  | list xs =>
    have h1 : Φ (.list xs.reverse) true := h1
    obtain ⟨a1, vs1, rfl, s1, p1⟩ := rd_lst st1.toSk r1
    exact ⟨a1, vs1, rfl, .inl ⟨s1, fun p hp => put_lst st1 hp (dpa_rev p1) h1 fun d z v F' H' q1 q2 q3 q4 => hQ d z v F' H' q1 q2 (e1.trans q3) q4⟩⟩
  | tuple xs =>
    have h1 : Φ (.tuple xs.reverse) true := h1
    obtain ⟨a1, vs1, rfl, s1, p1⟩ := rd_tup st1.toSk r1
    exact ⟨a1, vs1, rfl, .inr ⟨s1, fun p hp => put_tup st1 hp (dpa_rev p1) h1 fun d z v F' H' q1 q2 q3 q4 => hQ d z v F' H' q1 q2 (e1.trans q3) q4⟩⟩
  | _ => exact h1.elim
theorem revD_m {Q Q' : KD} (h : revDM x Q) (k : ∀ r, Q r → Q' r) : revDM x Q' := by
  unfold revDM at *
  split at h
  · exact k _ h
  · exact k _ h
  · exact h.elim
end
end TL
namespace TL
open PySem PySem.Spec PyProof.Rows L2
section
variable {X : Cx} {g : G} {env env' : List Sl} {Ψ : Exc → Prop} {P : Po} {pos p lp : Pos} {a b c e o tg iter : Expr} {es : List Expr} {rest body : List Stmt} {K : Frag} {F F' H H' : Hp} {σ σ' : SS} {x y : PyData} {z1 z2 : Bool} {k0 : Nat} {al : Addr} {xn : Str}
def popM (ds : List PyData) (K : List PyData → PyData → Prop) : Prop := ∃ ds' d, ds = ds' ++ [d] ∧ K ds' d
theorem dpa_snoc {ds : List PyData} {d : PyData} {vs : List V} (h : DqAll K F vs (ds ++ [d])) : ∃ us u, vs = us ++ [u] ∧ DqAll K F us ds ∧ Dq K F u d := by
  induction ds generalizing vs with
  | nil =>
    have h' : DqAll K F vs [d] := h
    cases h' with
    | cons h1 h2 => cases h2; exact ⟨[], _, rfl, .nil, h1⟩
  | cons x ds ih =>
    have h' : DqAll K F vs (x :: (ds ++ [d])) := h
    cases h' with
    | cons h1 h2 =>
      obtain ⟨us, u, e, q1, q2⟩ := ih h2
      exact ⟨_ :: us, u, by rw [e]; rfl, .cons h1 q1, q2⟩
theorem w1_popU (i : Nat) {q apos cpos : Pos} {ds : List PyData} {t : TG} {A : PyData → Option (List (Nat × PyData))} (hpg : PG X tg t) (htd : TGd X.K t A) (h : popM ds fun ds' d => ∃ l, A d = some l ∧ (l.all fun q => Nat.blt q.1 env.length) = true ∧ P.nx (putsE (env.set i (.ol al ds')) l)) (he : env[i]? = some (.ol al ds) := by rfl) (hN : X.N[i]? = some xn := by rfl)
    (hv : Vis X.env.scope xn := by first | exact Or.inl rfl | exact Or.inr (Or.inl rfl) | exact Or.inr (Or.inr rfl)) (hd : (xn == ("__debug__" : Str)) = false := by decide)
    (hcd : (xn == ("__classdict__" : Str)) = false := by decide)
    (hbase : attributeBase (.Name xn q) "pop" X.env (eval (.Name xn q) X.env) = eval (.Name xn q) X.env := by rfl) (hline : (apos.endLine == cpos.line) = true := by rfl)
    (hs : swapsWithSole [tg] (.Call (.Attribute (.Name xn q) "pop" apos) [] [] cpos) pos.line X.env = pure false := by rfl) (hw : swappedStores [tg] (.Call (.Attribute (.Name xn q) "pop" apos) [] [] cpos) X.env = pure none := by rfl) (ha : (assignEach [tg] X.env).map (·.2) = [assign tg X.env] := by rfl) :
    W1 X g (.Assign [tg] (.Call (.Attribute (.Name xn q) "pop" apos) [] [] cpos) pos) env P := fun W tk hx2 σ F H s0 D hD => by
  refine semP_of (ps_asg (pe_bm0 PySem.F.plainAttrs_list PySem.F.slot_list_pop PySem.F.type_list_pop mt_pop (pe_var hN hv hd hcd) hbase hline) hpg hs hw ha) ?_
  obtain ⟨h1, vs, h2, h3⟩ := s0.sl i _ he
  obtain ⟨ds', d, rfl, l, hA, hl, hp⟩ := h
  obtain ⟨us, u, rfl, q1, q2⟩ := dpa_snoc h3
  refine ⟨_, getD_some h1, .inl ⟨rfl, _, SqL.of h2⟩, ?_⟩
  refine ⟨al, _, u, rfl, rfl, h2, by simp, ?_⟩
  have s1 := s0.write (o' := .lst (us ++ [u]).dropLast) (s' := .ol al ds') he rfl rfl ⟨h1, us, by rw [upd_same, List.dropLast_concat], q1⟩
  refine htd d l σ F _ u _ hA s1.ex q2 fun r sr => ?_
  exact hD.nx _ _ F _ hp (s1.sets sr fun q hq => by rw [List.length_set]; exact ltB (List.all_eq_true.mp hl q hq)) (Ex.refl F)
end
end TL
namespace TL
open PySem PySem.Spec PyProof.Rows L2
section
variable {X : Cx} {g : G} {env env' : List Sl} {Ψ : Exc → Prop} {P : Po} {pos p lp : Pos} {a b c e f o tg iter : Expr} {es : List Expr} {rest body : List Stmt} {K : Frag} {F F' H H' : Hp} {σ σ' : SS} {x y : PyData} {z1 z2 : Bool} {k0 : Nat} {al : Addr} {xn : Str} {apos : Pos}
def zipE : List (Option Expr) → List Expr → List (Expr × Expr)
  | some k :: ks, v :: vs => (k, v) :: zipE ks vs
  | _, _ => []
def DqPs (K : Frag) (F : Hp) : List (V × V) → List (PyData × PyData) → Prop
  | [], [] => True
  | (v, w) :: r, (d, c) :: s => (Dq K F v d ∧ Dq K F w c) ∧ DqPs K F r s
  | _, _ => False
def WPs (X : Cx) (g : G) (ps : List (Expr × Expr)) (env : List Sl) (Φ : List (PyData × PyData) → Prop) (Ψ : Exc → Prop) : Prop :=
  ∀ (W : WX), Takes X W → ∀ (σ : SS) (F H : Hp), St X.K g F H σ env → HX X g env Ψ W σ →
    ∀ Q : List (V × V) → Hp → Prop, (∀ ds vs F' H', Φ ds → St X.K g F' H' σ env → Ex F F' → DqPs X.K F' vs ds → Q vs H') → tPairs (ps.map fun q => (semE X q.1, semE X q.2)) σ H Q
theorem wps_nil {Φ : List (PyData × PyData) → Prop} (h : Φ []) : WPs X g [] env Φ Ψ := fun W tk σ F H st hx Q hQ => hQ [] [] F H h st (Ex.refl F) trivial
theorem wps_cons {ps : List (Expr × Expr)} {Φ : List (PyData × PyData) → Prop} (h : WE X g a env (fun d1 z1 => z1 = true ∧ WE X g b env (fun d2 z2 => z2 = true ∧ WPs X g ps env (fun l => Φ ((d1, d2) :: l)) Ψ) Ψ) Ψ) : WPs X g ((a, b) :: ps) env Φ Ψ := fun W tk σ F H st hx Q hQ => by
  show semE X a σ H _
  refine h W tk σ F H st hx _ fun d1 z1 v1 F1 H1 ⟨hz, h2⟩ s1 e1 r1 => ?_
  subst hz
  refine h2 W tk σ F1 H1 s1 hx _ fun d2 z2 v2 F2 H2 ⟨hz, h3⟩ s2 e2 r2 => ?_
  subst hz
  refine h3 W tk σ F2 H2 s2 hx _ fun ds vs F3 H3 hp s3 e3 r3 => ?_
  exact hQ _ _ F3 H3 hp s3 ((e1.trans e2).trans e3) ⟨⟨dp_mono (e2.trans e3) _ _ r1, dp_mono e3 _ _ r2⟩, r3⟩
theorem pps_zip : ∀ {ks : List (Option Expr)} {vs : List Expr}, ks.all (·.isSome) = true → ks.length = vs.length → PPs X pos ks vs ((zipE ks vs).map fun q => (semE X q.1, semE X q.2))
  | [], [], _, _ => pps_nil
  | some k :: ks, v :: vs, h, hl => pps_cons (peS k) (peS v) (pps_zip (by simpa using h) (by simpa using hl))
  | [], _ :: _, _, hl => by cases hl
  | none :: _, _, h, _ => by simp at h
  | some _ :: _, [], _, hl => by cases hl
def WDk (X : Cx) (g : G) (e : Expr) (env : List Sl) (Φ : List (Key × PyData) → Prop) (Ψ : Exc → Prop) : Prop :=
  ∀ (W : WX), Takes X W → ∀ (σ : SS) (F H : Hp), St X.K g F H σ env → HX X g env Ψ W σ →
    ∀ Q : VK, (∀ kvs v F' H', Φ kvs → St X.K g F' H' σ env → Ex F F' → NewK X.K g F' H' env v kvs → Q v H') → semE X e σ H Q
theorem wdk_new {Φ : List (Key × PyData) → Prop} (h : Φ []) : WDk X g (.Dict [] [] pos) env Φ Ψ := fun W tk σ F H st hx Q hQ => by
  refine semE_of pe_dnewK fun p hn => ?_
  exact hQ _ (.ref p) F _ h (st.alloc hn) (Ex.refl F) ⟨p, [], rfl, upd_same, .nil, st.ex.none hn, st.toSk.notown hn, st.h0 hn⟩
theorem St.setK {i : Nat} {q : Addr} {xs : List (Key × V)} {kvs : List (Key × PyData)} (st : St K g F H σ env) (hi : i < env.length) (hH : H q = some (.dK xs)) (hd : KVp K F xs kvs) (hF : F q = none) (hn : ¬ Own env q) (h0 : g.H0 q = none) :
    St K g F H (σ.set i (some (.ref q))) (env.set i (.dk q kvs)) := by
  have one : ∀ b ∈ (Sl.dk q kvs).fp, b = q := fun b hb => by simpa [Sl.fp] using hb
  exact st.set (s := .dk q kvs) hi ⟨rfl, xs, hH, hd⟩ (fun b hb => by rw [one b hb]; exact hF) (fun b hb j t _ e ht => hn ⟨j, t, e, by rw [← one b hb]; exact ht⟩) (fun b hb => by rw [one b hb]; exact .inl h0)
theorem w1_setKd (i : Nat) {x : Str} {pos' : Pos} (hN : X.N.Nodup) (h : WDk X g e env (fun kvs => ∀ q, q ∉ g.M → P.nx (env.set i (.dk q kvs))) (fun c => P.ex c env)) (hi : X.N[i]? = some x := by rfl) (hx : Loc X.env.scope x := by first | exact Or.inl rfl | exact Or.inr rfl) (hl : Nat.blt i env.length = true := by rfl)
    (hs : swapsWith e (some (.Name x pos')) pos.line X.env = pure false := by rfl) (hf : X.fn x = true ∨ X.env.scope.names.lookup x = some .local := by first | exact .inl rfl | exact .inr rfl) : W1 X g (.Assign [.Name x pos'] e pos) env P := fun W tk hx2 σ F H s0 D hD => by
  refine semP_of (ps_set hN hi hx (peS e) hs hf) ?_
  refine h W tk σ F H s0 (hx2.hx env σ) _ fun kvs v F' H' hp s' e' ⟨q, xs, hv, h1, h2, h3, h4, h5⟩ => ?_
  subst hv
  exact hD.nx _ _ F' _ (hp q fun m => s'.g6 q m h5) (s'.setK (ltB hl) h1 h2 h3 h4 h5) e'
end
end TL
namespace TL
open PySem PySem.Spec PyProof.Rows L2
section
variable {X : Cx} {g : G} {env env' : List Sl} {Ψ : Exc → Prop} {P : Po} {pos p lp : Pos} {a b c e f o tg iter : Expr} {es : List Expr} {rest body : List Stmt} {K : Frag} {F F' H H' : Hp} {σ σ' : SS} {x y : PyData} {z1 z2 : Bool} {k0 : Nat} {al : Addr} {xn : Str} {apos : Pos}
theorem rng_map (lo hi : Int) : rangeL lo hi = (List.range (hi - lo).toNat).map fun (i : Nat) => PyData.int (lo + (i : Nat)) := rfl
end
end TL
namespace TL
open PySem PySem.Spec PyProof.Rows L2
section
variable {X : Cx} {g : G} {env env' : List Sl} {Ψ : Exc → Prop} {P : Po} {pos p lp : Pos} {a b c e f o tg iter : Expr} {es : List Expr} {rest body : List Stmt} {K : Frag} {F F' H H' : Hp} {σ σ' : SS} {x y : PyData} {z1 z2 : Bool} {k0 : Nat} {al : Addr} {xn : Str} {apos : Pos}
/-- each row once -/
def dd : List (List Int) → List (List Int)
  | [] => []
  | a :: l => if a ∈ l then dd l else a :: dd l
end
end TL
namespace TL
open PySem PySem.Spec PyProof.Rows L2 LamX
theorem lamO_at {P : Program} {w : World} {H : Hp} {h : Heap} {f c : Addr} {l : Lam} (ok : HOk P w H h) (e : H f = some (LamO f l c)) : ∃ pm ct, h.get? f = some (l.ob c pm ct) := by
  obtain ⟨z, _, _⟩ := ok f _ e; exact z
theorem codeO_rec {P : Program} {w : World} {H : Hp} {h : Heap} {c : Addr} {q : Str} (ok : HOk P w H h) (e : H c = some (CodeO c q)) : h.CodeRec (.ref c) q := by
  obtain ⟨⟨oc, vs, t, z1, z2, z3⟩, _, _⟩ := ok c _ e
  exact ⟨c, oc, vs, t, rfl, z1, z2, z3⟩
theorem lamO_ntb {f c : Addr} {l : Lam} : ntb (LamO f l c) := fun _ z => by unfold LamO at z; cases z
theorem codeO_ntb {c : Addr} {q : Str} : ntb (CodeO c q) := fun _ z => by unfold CodeO at z; cases z
/-- the codes that a table tells are known -/
def TblK (H : Hp) (q : Str) (ps : Array Value) : Prop := TriplesOk ps.toList ∧ ∀ (pos : Pos) (cv : Value), codeAmong pos ps.toList = some cv → ∃ c, cv = .ref c ∧ H c = some (CodeO c q)
/-- the heap behind the making: as it was, or the table is longer by a new code object -/
inductive LmRes (H : Hp) (P : Addr) (ps : Array Value) (q : Str) (c : Addr) : Hp → Prop
  | hit (pos : Pos) : codeAmong pos ps.toList = some (.ref c) → LmRes H P ps q c H
  | new (more : Array Value) : H c = none → c ≠ P → TriplesOk (ps ++ more).toList → (∀ (pos : Pos) (cv : Value), codeAmong pos (ps ++ more).toList = some cv → codeAmong pos ps.toList = some cv ∨ cv = .ref c) →
      LmRes H P ps q c (upd (upd H P (.tbl (ps ++ more))) c (CodeO c q))
section
variable {X : Cx} {pins : List (Addr × Obj)} {σ : L2.St} {H : Hp} {s : Shared}
theorem inv_lam {l : Lam} {c : Addr} {o : Obj} {t' : Nat} {pm ct : Value} (I : Inv X pins σ H s) (ho : o = l.ob c pm ct) :
    Inv X pins σ (upd H s.heap.objs.size (LamO s.heap.objs.size l c)) { s with heap := s.heap.push o, toks := t' } := by
  subst ho
  have at_ : (s.heap.push (l.ob c pm ct)).get? s.heap.objs.size = some (l.ob c pm ct) := Heap.get?_push_size _ rfl
  exact I.laid (a := s.heap.objs.size) (fun _ _ z => Heap.get?_push_of_some _ z) (Nat.le_refl _) ⟨⟨pm, ct, at_⟩, ⟨_, at_⟩, fun _ _ ⟨p, t, z⟩ k => ⟨p, t, k _ z⟩⟩
theorem lam_mk {l : Lam} {c P : Addr} {pos : Pos} {ps : Array Value} {E Q : Value → Shared → Prop} (I : Inv X pins σ H s) (TB : TabB X.base X.mg c P) (hcode : X.env.code = .ref c)
    (hP : H P = some (.tbl ps)) (hk : TblK H l.q ps) (hq : l.q = X.env.qual ++ "<lambda>") (hcl : l.cl = cloFrom X.env.cells l.sc.names [])
    (hdef : defaultsOf l.ps X.env = ([], [])) (hfree : ∀ y ∈ l.sc.names, y.2 = .free → ∃ c, X.env.cells.lookup y.1 = some c)
    (h : ∀ (f c' : Addr) (H1 : Hp) (s' : Shared), LmRes H P ps l.q c' H1 → H1 f = none → Inv X pins σ (upd H1 f (LamO f l c')) s' → Q (.ref f) s') :
    wpAny (model X.prog X.w) X.A (eval (.Lambda l.ps l.bd l.sc pos) X.env) Q E s := by
  obtain ⟨lq, lps, lbd, lsc, lcl⟩ := l
  dsimp only at hq hcl hk hdef hfree h ⊢
  subst hq
  subst hcl
  obtain ⟨ht, ha⟩ := hk
  refine PySem.W.kla_eval hdef ?_
  have bP := TB.bm.keeps I.bk
  have oP : s.heap.get? P = some { cls := .none, data := .fields ps } := I.hok P _ hP
  cases hc : codeAmong pos ps.toList with
  | some cv =>
    obtain ⟨c', ec, hco⟩ := ha pos cv hc
    subst ec
    refine PySem.W.kla_makeFunctionHit (mg := X.mg) (c := c) (P := P) (ps := ps) (closure_ok hfree) I.ok.glob (I.mod.glob.keeps I.bk) hcode (TB.code.keeps I.bk) oP ht hc bP fun ct h2 tk kp _ => ?_
    have J : Inv X pins σ H { s with heap := h2, toks := tk } := I.kept kp
    exact h h2.objs.size c' H _ (.hit pos hc) (J.hok.fresh (Nat.le_refl _)) (inv_lam (s := { s with heap := h2, toks := tk }) (t' := tk) J rfl)
  | none =>
    refine PySem.W.kla_makeFunction (mg := X.mg) (c := c) (P := P) (ps := ps) (closure_ok hfree) I.ok.glob (I.mod.glob.keeps I.bk) hcode (TB.code.keeps I.bk) oP ht hc TB.gP bP fun c' ct h2 tk kp hge hlt rc htb => ?_
    obtain ⟨c2, oc, vs, t, ec, z1, z2, z3⟩ := rc
    cases ec
    have J := inv_table (t' := tk) (more := #[rawInt pos.line, rawInt pos.col, .ref c']) (h' := h2) I hP (fun b o nb z => kp b o nb z) htb hge ⟨oc, vs, t, z1, z2, z3⟩
    have eL : (ps ++ #[rawInt pos.line, rawInt pos.col, .ref c']).toList = ps.toList ++ [rawInt pos.line, rawInt pos.col, .ref c'] := by simp
    have nC : H c' = none := I.hok.fresh hge
    refine h h2.objs.size c' _ _ (.new _ nC (fun z => by rw [z, hP] at nC; cases nC) ?_ fun pos' cv hcv => ?_) (J.hok.fresh (Nat.le_refl _)) (inv_lam (s := { s with heap := h2, toks := tk }) (t' := tk) J rfl)
    · rw [eL]; exact PySem.TriplesOk_snoc _ _ _ _ ht
    · rw [eL] at hcv; exact among_app _ ht hcv
/-- the reading of a lambda -/
def tLm (P : Addr) (l : Lam) : TE := fun _ H Q => ∃ ps, H P = some (.tbl ps) ∧ TblK H l.q ps ∧ ∀ (f c' : Addr) (H1 : Hp), LmRes H P ps l.q c' H1 → H1 f = none → Q (.ref f) (upd H1 f (LamO f l c'))
/-- a lambda of this def -/
structure LamOk (X : Cx) (l : Lam) : Prop where
  q : l.q = X.env.qual ++ "<lambda>"
  cl : l.cl = cloFrom X.env.cells l.sc.names []
  sc : LamS X.env.scope l.sc
  df : defaultsOf l.ps X.env = ([], [])
  bi : ∀ pm cv ct : Value, bindArgs (PySem.W.kla_fn "<lambda>" l.q l.ps l.bd l.sc l.cl pm cv ct) ⟨[], []⟩ = pure []
/-- this def's code object, its table -/
structure LHas (X : Cx) (c P : Addr) : Prop where
  tb : TabB X.base X.mg c P
  code : X.env.code = .ref c
  mem : (P, X.env.qual ++ "<lambda>") ∈ tabsK X.K
  uq : ∀ p ∈ tabsK X.K, p.1 = P → p.2 = X.env.qual ++ "<lambda>"
theorem pe_lam {l : Lam} {c P : Addr} {pos : Pos} (L : LHas X c P) (ok : LamOk X l) : PE X (.Lambda l.ps l.bd l.sc pos) (tLm P l) :=
  ⟨fun pins s σ H Q I ⟨ps, h1, h2, h3⟩ => lam_mk I L.tb L.code h1 h2 ok.q ok.cl ok.df (ok.sc.has I.ok) fun f c' H1 s' r n J => ⟨.ref f, _, J, rfl, h3 f c' H1 r n⟩⟩
/-- f(), f a lambda that this def made -/
theorem lam_run {l : Lam} {k : Nat} {f c' : Addr} {A : Around} {outer : List Env} {H0 : Hp} {s0 : Shared} {pins0 : List (Addr × Obj)} {E : XK} {Q : VK} {σ : L2.St} (I : Inv X pins0 σ H0 s0) (ok : LamOk X l) (e0 : Env0 X.prog X.w X.K X.mg X.base A outer s H) (hr : Room (k + 1) A)
    (un : Un (frs X.stack) [] H0 H s0.heap s.heap) (hf : H f = some (LamO f l c')) (hc : H c' = some (CodeO c' l.q))
    (hb : ∀ s2 : Shared, Room k (A.deeper (lamEnv X l.sc s2.heap.objs.size f c')) → semE (lamCx X A outer s2 H E l.sc f c') l.bd σ H Q) :
    codeAny (model X.prog X.w) A (.call (.ref f) ⟨[], []⟩) (CR (L2.CX X.prog X.w) outer X.prog X.w H s Q E) s := by
  obtain ⟨lq, lps, lbd, lsc, lcl⟩ := l
  obtain ⟨hq, hcl, L, hdf, hbi⟩ := ok
  dsimp only at hq hcl L hdf hbi hf hc hb ⊢
  subst hq
  subst hcl
  obtain ⟨pm, ct, of1⟩ := lamO_at e0.hok hf
  refine PySem.W.kla_callFunE hr.depth of1 rfl L.co L.gen rfl (codeO_rec e0.hok hc) ?_
  rw [hbi]
  refine wpAny_pure (wpAny_newFunctionEnv (fun y hy => (L.own y hy).2) (fun y hy => absurd hy (by simp)) (fun h1 hns sb => ⟨(e0.mod.nolimit.keeps fun b o z => (e0.bs b o z).1).fresh _ sb, ?_⟩) L.kind)
  show codeAny _ _ (.expr lbd (lamEnv X lsc s.heap.objs.size f c')) _ _
  have kp : ∀ b o, s.heap.get? b = some o → h1.get? b = some o := fun b o z => sb.extBut b o (Nat.ne_of_lt (Heap.lt_size z)) (Heap.get?_push_of_some _ z)
  have J := lam_start2 (E := E) (f := f) (c' := c') (tk := s.toks + ([] : List (Str × Value)).length) I L e0 hr.hd un hns kp
  refine PySem.W.kla_codeExpr (wpAny_mono ((hb s (hr.deeper _)).run [] _ J) (fun v s' hq => ?_) fun _ _ z => z)
  obtain ⟨w', H', J', rv, q⟩ := hq
  exact ⟨w', H', J'.os, J'.bare, J'.base, J'.hok, rv, q⟩
end
theorem upd_comm {H : Hp} {a b : Addr} {x y : HO} (h : a ≠ b) : upd (upd H a x) b y = upd (upd H b y) a x := by
  funext c
  by_cases h1 : c = b
  · subst h1; rw [upd_same, upd_ne (Ne.symm h), upd_same]
  · by_cases h2 : c = a
    · subst h2; rw [upd_ne h1, upd_same, upd_same]
    · rw [upd_ne h1, upd_ne h2, upd_ne h2, upd_ne h1]
section
variable {K : Frag} {g : G} {env : List Sl} {F H H1 : Hp} {σ : SS} {P : Addr} {ps ps' : Array Value} {q : Str}
theorem St.tabw (st : St K g F H σ env) (hP : H P = some (.tbl ps)) (ht : TriplesOk ps'.toList) (hc : ∀ q, (P, q) ∈ tabsK K → ∀ (pos : Pos) (cv : Value), codeAmong pos ps'.toList = some cv → ∃ c, cv = .ref c ∧ F c = some (CodeO c q)) : St K g F (upd H P (.tbl ps')) σ env where
  len := st.len
  sl := fun i s e => slok_mono (Ex.refl F) (fun a ha u z => by
    have ne : a ≠ P := fun y => slok_ntb (st.sl i s e) ha ps (y ▸ hP)
    rw [upd_ne ne]; exact z) (st.sl i s e)
  nd := st.nd
  fr := st.fr
  ex := fun a u z => by
    by_cases y : a = P
    · subst y
      have z2 := st.ex a u z
      rw [hP] at z2; cases z2
      exact absurd z (st.tk.fn a ps)
    · rw [upd_ne y]; exact st.ex a u z
  tf := fun a vs z => by
    by_cases y : a = P
    · subst y; rw [upd_same] at z; cases z
    · rw [upd_ne y] at z; exact st.tf a vs z
  tk := ⟨st.tk.fn, fun p hp => by
    by_cases y : p.1 = P
    · obtain ⟨p1, p2⟩ := p
      have y : p1 = P := y
      subst y
      exact ⟨ps', upd_same, ht, hc p2 hp⟩
    · exact (st.tk.tb p hp).mono (Ex.refl F) fun u z => by rw [upd_ne y]; exact z⟩
  gt := st.gt.grow fun a z => by
    by_cases y : a = P
    · subst y; rw [upd_same] at z; cases z
    · rw [upd_ne y] at z; exact z
  g1 := fun a o z m n => by
    have z2 := st.g1 a o z m n
    have ne : a ≠ P := fun y => by
      subst y; rw [hP] at z2; exact n ps (Option.some.inj z2).symm
    rw [upd_ne ne]; exact z2
  g2 := st.g2
  g3 := st.g3
  g4 := st.g4
  g5 := fun a m z => by
    by_cases y : a = P
    · subst y; rw [upd_same] at z; cases z
    · rw [upd_ne y] at z; exact st.g5 a m z
  g6 := st.g6
theorem St.lam {l : Lam} {f c : Addr} (st : St K g F H σ env) (r : LmRes H P ps l.q c H1) (hP : H P = some (.tbl ps)) (hk : ∀ (pos : Pos) (cv : Value), codeAmong pos ps.toList = some cv → ∃ c, cv = .ref c ∧ F c = some (CodeO c l.q)) (hu : ∀ p ∈ tabsK K, p.1 = P → p.2 = l.q) (hn : H1 f = none) :
    ∃ F1, St K g F1 (upd H1 f (LamO f l c)) σ env ∧ Ex F F1 ∧ IsLam F1 (.ref f) l := by
  cases r with
  | hit pos hc =>
    obtain ⟨c0, e0, e1⟩ := hk pos _ hc
    cases e0
    have e := Ex.new (o := LamO f l c) (st.ex.none hn)
    exact ⟨upd F f (LamO f l c), st.allocF hn lamO_ntb, e, f, c, rfl, upd_same, e _ _ e1⟩
  | new more hc hcP ht hco =>
    rw [upd_comm (Ne.symm hcP)] at hn ⊢
    have hF := st.ex.none hc
    have e1 := Ex.new (o := CodeO c l.q) hF
    have s1 := st.allocF (o := CodeO c l.q) hc codeO_ntb
    have s2 : St K g (upd F c (CodeO c l.q)) (upd (upd H c (CodeO c l.q)) P (.tbl (ps ++ more))) σ env := s1.tabw (P := P) (ps := ps) (by rw [upd_ne (Ne.symm hcP)]; exact hP) ht fun q hq pos cv hcv => by
      have eq := hu (P, q) hq rfl
      have eq : q = l.q := eq
      subst eq
      rcases hco pos cv hcv with z | z
      · obtain ⟨c0, z1, z2⟩ := hk pos cv z
        exact ⟨c0, z1, e1 _ _ z2⟩
      · exact ⟨c, z, upd_same⟩
    have e2 := Ex.new (o := LamO f l c) (s2.ex.none hn)
    exact ⟨_, s2.allocF hn lamO_ntb, e1.trans e2, f, c, rfl, upd_same, e2 _ _ upd_same⟩
end
/-- an expression that gives the lambda l -/
def WF (X : Cx) (g : G) (e : Expr) (env : List Sl) (l : Lam) : Prop :=
  ∀ (W : WX), Takes X W → ∀ (σ : SS) (F H : Hp), St X.K g F H σ env → ∀ Q : VK, (∀ v F' H', St X.K g F' H' σ env → Ex F F' → IsLam F' v l → Q v H') → semE X e σ H Q
section
variable {X : Cx} {g : G} {env : List Sl} {Ψ : Exc → Prop} {Φ : PyData → Bool → Prop} {l : Lam} {c P : Addr} {pos : Pos} {k : Nat}
theorem wf_lam (L : LHas X c P) (ok : LamOk X l) : WF X g (.Lambda l.ps l.bd l.sc pos) env l := fun W tk σ F H st Q hQ => by
  refine semE_of (pe_lam L ok) ?_
  obtain ⟨ps, h1, h2, h3⟩ := st.tk.tb _ L.mem
  refine ⟨ps, h1, ⟨h2, fun pos cv hc => ?_⟩, fun f c' H1 r n => ?_⟩
  · obtain ⟨c0, e1, e2⟩ := h3 pos cv hc
    exact ⟨c0, e1, st.ex _ _ (by rw [ok.q]; exact e2)⟩
  · obtain ⟨F1, s1, e1, il⟩ := st.lam (l := l) r h1 (fun pos cv hc => by rw [ok.q]; exact h3 pos cv hc) (fun p hp z => by rw [ok.q]; exact L.uq p hp z) n
    exact hQ _ F1 _ s1 e1 il
/-- the contexts in which a lambda's body runs -/
abbrev LCx (X : Cx) (l : Lam) (A : Around) (outer : List Env) (s : Shared) (H : Hp) (E : XK) (f c : Addr) : Cx := lamCx X A outer s H E l.sc f c
def WLam (X : Cx) (g : G) (l : Lam) (env : List Sl) (k : Nat) (Φ : PyData → Bool → Prop) (Ψ : Exc → Prop) : Prop :=
  ∀ (A : Around) (outer : List Env) (s : Shared) (H : Hp) (E : XK) (f c : Addr), Room k (LCx X l A outer s H E f c).A → WE (LCx X l A outer s H E f c) g l.bd env Φ Ψ
theorem WLam.sem (h : WLam X g l env k Φ Ψ) {A : Around} {outer : List Env} {s : Shared} {H0 : Hp} {E : XK} {f c : Addr} (hr : Room k (A.deeper (lamEnv X l.sc s.heap.objs.size f c))) {σ : SS} {F H : Hp} (st : St X.K g F H σ env)
    (hx : ∀ n F' H', Ψ (.own n) → St X.K g F' H' σ env → E (.ref (He.ga X.K n)) none H') {Q : VK} (hQ : ∀ d z v F' H', Φ d z → St X.K g F' H' σ env → Ex F F' → Rd X.K F' env z v d → Q v H') : semE (LCx X l A outer s H0 E f c) l.bd σ H Q :=
  h A outer s H0 E f c hr (fun cls d _ H => E cls d H) (takes_of rfl rfl rfl rfl) σ F H st (fun c F' H' hc s' => by
    cases c with
    | own n => exact hx n F' H' hc s') Q hQ
/-- y(), a lambda of this def -/
theorem we_callF (i : Nat) {y : Str} {p1 p2 : Pos} (he : env[i]? = some (.fv l)) (ok : LamOk X l) (hr : Room (k + 1) X.A) (h : WLam X g l env k Φ Ψ) (hN : X.N[i]? = some y := by rfl)
    (hv : Vis X.env.scope y := by first | exact Or.inl rfl | exact Or.inr (Or.inl rfl) | exact Or.inr (Or.inr rfl)) (hd : (y == ("__debug__" : Str)) = false := by decide)
    (hcd : (y == ("__classdict__" : Str)) = false := by decide) : WE X g (.Call (.Name y p1) [] [] p2) env Φ Ψ := fun W tk σ F H st hx Q hQ => by
  obtain ⟨v, hs, f, c', rfl, h2, h3⟩ := st.sl i _ he
  have hH := st.ex _ _ h2
  have hC := st.ex _ _ h3
  refine ⟨fun pins s I => ?_⟩
  refine wpAny_Call_Name_kw (thn ((pe_var (pos := p1) hN hv hd hcd).run pins s σ H (fun v H1 => v = .ref f ∧ H1 = H) I ⟨.ref f, getD_some hs, rfl, rfl⟩) fun u s1 ⟨v, H1, I1, r1, q1⟩ => ?_)
  obtain ⟨rfl, rfl⟩ := q1
  cases r1
  obtain ⟨pm, ct, of1⟩ := lamO_at I1.hok hH
  refine PySem.W.callWith_F0 ⟨_, _, _, _, of1⟩ ?_
  have rc := lam_run (k := k) (E := fun cls d H' => W cls d σ H') (Q := Q) I1 ok I1.env0 hr Un.refl hH hC fun s2 hr2 => h.sem hr2 st (fun n F' H' hc s' => hx (.own n) F' H' hc s') hQ
  refine wpAny_call (codeAny_mono rc fun r s' hq => ?_)
  cases r with
  | error e => exact tk e s' (XE.of_call I1 (fun _ _ _ z => z) hq)
  | ok fl =>
    cases fl with
    | ret u => exact I1.after hq
    | next => exact False.elim hq
    | brk => exact False.elim hq
    | cont => exact False.elim hq
end
end TL
namespace TL
open PySem PySem.Spec PyProof.Rows L2 He LamX
abbrev LamD : Type := Defn × Str
def markObj (P : Addr) (q : Str) : Obj := { cls := .none, data := .fields #[.str "lam!" 0, .ref P, .str q 0] }
def markK (tf : List LamD) (K : Frag) : Frag := K ++ tf.map fun p => ((cT K p.1).1, markObj (cT K p.1).2 p.2)
def lamB (g : Addr → Option Obj) (tf : List LamD) (K : Frag) : Bool :=
  (tf.all fun p => PySem.W.codeHdIn K (cT K p.1).1 (cT K p.1).2 && (match g (cT K p.1).2 with
    | some o => emptyTab o
    | none => false)) && (decide (tabsK (markK tf K) = tf.map fun p => ((cT K p.1).2, p.2)) && decide ((tf.map fun p => (cT K p.1).2).Nodup))
abbrev AlL : Type := AlD × Bool
def obsL (ex : List XF) (fa : List Fa) (fn : List DefD) (tf : List LamD) (g : Addr → Option Obj) (K : Frag) : AlL := (obsX ex fa fn (markK tf K), lamB g tf K)
def obsLG (n : Nat) (ex : List XF) (fa : List Fa) (fn : List DefD) (tf : List LamD) (g : Addr → Option Obj) : AlL := obsL ex fa fn tf g (frT g (asD g n))
structure SaysL (ex : List XF) (fa : List Fa) (fn : List DefD) (tf : List LamD) (h : Heap) (K0 : Frag) : Prop where
  x : SaysX ex fa fn (markK tf K0)
  hd : ∀ p ∈ tf, PySem.W.codeHdIn K0 (cT K0 p.1).1 (cT K0 p.1).2 = true
  out : ∀ p ∈ tf, K0.lookup (cT K0 p.1).2 = none
  empty : ∀ p ∈ tf, h.get? (cT K0 p.1).2 = some { cls := .none, data := .fields #[] }
  tabs : tabsK (markK tf K0) = tf.map fun p => ((cT K0 p.1).2, p.2)
  nd : (tf.map fun p => (cT K0 p.1).2).Nodup
theorem saysL_of {n : Nat} {ex : List XF} {fa : List Fa} {fn : List DefD} {tf : List LamD} {h : Heap} (e : obsLG n ex fa fn tf h.get? = (valD fn, true)) : SaysL ex fa fn tf h (frT h.get? (asD h.get? n)) := by
  have e1 : obsX ex fa fn (markK tf (frT h.get? (asD h.get? n))) = valD fn := congrArg (fun z : AlL => z.1) e
  have e2 : lamB h.get? tf (frT h.get? (asD h.get? n)) = true := congrArg (fun z : AlL => z.2) e
  obtain ⟨h1, h2⟩ := ba e2
  obtain ⟨h3, h4⟩ := ba h2
  have key : ∀ p ∈ tf, PySem.W.codeHdIn (frT h.get? (asD h.get? n)) (cT (frT h.get? (asD h.get? n)) p.1).1 (cT (frT h.get? (asD h.get? n)) p.1).2 = true ∧ ∃ o, h.get? (cT (frT h.get? (asD h.get? n)) p.1).2 = some o ∧ emptyTab o = true := fun p hp => by
    obtain ⟨k1, k2⟩ := ba (List.all_eq_true.mp h1 p hp)
    refine ⟨k1, ?_⟩
    cases q : h.get? (cT (frT h.get? (asD h.get? n)) p.1).2 with
    | none => rw [q] at k2; cases k2
    | some o => rw [q] at k2; exact ⟨o, rfl, k2⟩
  exact ⟨e1, fun p hp => (key p hp).1, fun p hp => by
    obtain ⟨_, o, q, z⟩ := key p hp
    exact frT_none q z, fun p hp => by
    obtain ⟨_, o, q, z⟩ := key p hp
    rw [q, emptyTab_eq z], of_decide_eq_true h3, of_decide_eq_true h4⟩
def hookL (n : Nat) (ex : List XF) (fa : List Fa) (fn : List DefD) (tf : List LamD) : PySem.W.Hook where
  α := AlL
  obs := fun s => obsLG n ex fa fn tf s.heap.get?
  val := fun _ => (valD fn, true)
  says := fun _ h => ∃ K0 : Frag, K0.In h ∧ SaysL ex fa fn tf h K0
  of := fun _ _ e => ⟨_, frT_in, saysL_of e⟩
  keeps := fun _ _ _ ⟨K0, hK, c⟩ k => ⟨K0, PySem.W.Frag.In.keeps hK k, ⟨c.x, c.hd, c.out, fun p hp => k _ _ (c.empty p hp), c.tabs, c.nd⟩⟩
theorem obsLG_eq {n : Nat} {ex : List XF} {fa : List Fa} {fn : List DefD} {tf : List LamD} {g : Addr → Option Obj} {s : Shared} (h : ∀ a, g a = s.heap.get? a) : obsLG n ex fa fn tf g = (hookL n ex fa fn tf).obs s := by
  have e : g = s.heap.get? := funext h
  rw [e] <;> rfl
theorem lookup_app {a : Addr} : ∀ {K M : Frag}, (K ++ M).lookup a = match K.lookup a with | some o => some o | none => M.lookup a
  | [], _ => rfl
  | (b, o) :: r, M => by
    show (match a == b with | true => some o | false => (r ++ M).lookup a) = match (match a == b with | true => some o | false => r.lookup a) with | some o => some o | none => M.lookup a
    cases a == b with
    | true => rfl
    | false => exact lookup_app (K := r) (M := M)
theorem codeHd_some {K : Frag} {c P : Addr} (h : PySem.W.codeHdIn K c P = true) : ∃ o, K.lookup c = some o := by
  unfold PySem.W.codeHdIn at h
  cases q : K.lookup c with
  | none => rw [q] at h; cases h
  | some o => exact ⟨o, rfl⟩
section
variable {ex : List XF} {fa : List Fa} {fn : List DefD} {tf : List LamD} {h : Heap} {K0 : Frag}
theorem SaysL.marks (c : SaysL ex fa fn tf h K0) {a : Addr} {o : Obj} (e : (tf.map fun p => ((cT K0 p.1).1, markObj (cT K0 p.1).2 p.2)).lookup a = some o) : ∃ o, K0.lookup a = some o := by
  obtain ⟨p, hp, ep⟩ := List.mem_map.mp (He.lookup_mem e)
  have e1 : (cT K0 p.1).1 = a := congrArg Prod.fst ep
  rw [← e1]
  exact codeHd_some (c.hd p hp)
theorem SaysL.look (c : SaysL ex fa fn tf h K0) (a : Addr) : (markK tf K0).lookup a = K0.lookup a := by
  unfold markK
  rw [lookup_app]
  cases q : K0.lookup a with
  | some o => rfl
  | none =>
    cases z : (tf.map fun p => ((cT K0 p.1).1, markObj (cT K0 p.1).2 p.2)).lookup a with
    | none => rfl
    | some o =>
      obtain ⟨o', e⟩ := c.marks z
      rw [q] at e; cases e
theorem SaysL.kin (c : SaysL ex fa fn tf h K0) (k : K0.In h) : (markK tf K0).In h := fun a o e => k a o (by rw [← c.look a]; exact e)
end
/-- what the maker of lambdas knows of its code object and its table -/
structure LTab (K : Frag) (mg : Str → Option Value) (base : Heap) (fd : FuncData) (q : Str) : Prop where
  ex : ∃ c P, fd.code = .ref c ∧ TabB base mg c P ∧ (P, q) ∈ tabsK K ∧ ∀ p ∈ tabsK K, p.1 = P → p.2 = q
theorem lhas_of {P : Program} {w : World} {K : Frag} {mg : Str → Option Value} {base : Heap} {N : List Str} {x : Str} {sc : Scope} {f : Addr} {fd : FuncData} {cdv : Value} {A : Around} {outer : List Env} {s : Shared} {H : Hp} {E : XK} {q : Str} (lt : LTab K mg base fd q) (hc : fd.code = cdv)
    (hq : (cxOf (L2.CX P w) P w K mg base N x sc f cdv A outer s H E).env.qual ++ "<lambda>" = q := by rfl) : ∃ c T, LHas (cxOf (L2.CX P w) P w K mg base N x sc f cdv A outer s H E) c T := by
  obtain ⟨c, T, h1, h2, h3, h4⟩ := lt.ex
  subst hq
  exact ⟨c, T, h2, hc.symm.trans h1, h3, h4⟩
section
variable {ex : List XF} {fa : List Fa} {fn : List DefD} {tf : List LamD} {h base : Heap} {K0 : Frag} {mg : Str → Option Value}
/-- the code objects and tables of the defs that make lambdas -/
def csOf (tf : List LamD) (K0 : Frag) : List (Addr × Addr) := tf.map fun p => cT K0 p.1
theorem SaysL.ltab (c : SaysL ex fa fn tf h K0) (hB : ∀ p ∈ csOf tf K0, TabB base mg p.1 p.2) {d : DefD} {q : Str} (hp : (d.at_, q) ∈ tf) {params : Arguments} {body : List Stmt} {scope : Scope} {x qual : Str} {fd : FuncData} (F : FunD (markK tf K0) x qual params body scope [] [] (He.fAd (markK tf K0) d.at_) fd)
    (hf : He.fAd (markK tf K0) d.at_ = He.fAd K0 d.at_) : LTab (markK tf K0) mg base fd q := by
  obtain ⟨oc, od, dV, kV, doc, pm, an, cdv, ct, osl, rfl, lk, hcd, _, _⟩ := F.ex
  obtain ⟨c1, hc1⟩ := codeIn_ref hcd
  subst hc1
  rw [hf, c.look] at lk
  have e : (cT K0 d.at_).1 = c1 := codeOf_eq lk rfl
  refine ⟨c1, (cT K0 d.at_).2, rfl, ?_, ?_, fun p hm e2 => ?_⟩
  · rw [← e]; exact hB _ (List.mem_map.mpr ⟨_, hp, rfl⟩)
  · rw [c.tabs]; exact List.mem_map.mpr ⟨_, hp, rfl⟩
  · rw [c.tabs] at hm
    obtain ⟨r, hr, er⟩ := List.mem_map.mp hm
    have e3 : (cT K0 r.1).2 = (cT K0 d.at_).2 := (congrArg Prod.fst er).trans e2
    have key : ∀ {l : List LamD}, (l.map fun p => (cT K0 p.1).2).Nodup → ∀ a ∈ l, ∀ b ∈ l, (cT K0 a.1).2 = (cT K0 b.1).2 → a = b := by
      intro l
      induction l with
      | nil => intro _ a ha; cases ha
      | cons y l ih =>
        intro nd a ha b hb eab
        obtain ⟨n1, n2⟩ := List.nodup_cons.mp nd
        rcases List.mem_cons.mp ha with rfl | ha2
        · rcases List.mem_cons.mp hb with rfl | hb
          · rfl
          · exact (n1 (List.mem_map.mpr ⟨b, hb, eab.symm⟩)).elim
        · rcases List.mem_cons.mp hb with rfl | hb
          · exact (n1 (List.mem_map.mpr ⟨a, ha2, eab⟩)).elim
          · exact ih n2 a ha2 b hb eab
    have e4 := key c.nd r hr _ hp e3
    rw [← er, e4]
end
/-- the end, with tables -/
theorem walk_xT {l : PySem.W.OpenLaw} {m j : Nat} {q : Program} {lo : List Str} {XP : (Str → Option Value) → Heap → Prop} {YP : World → Heap → Prop} {d : DefRec} {x : Str} (h1 : l.most = some m) (h2 : m ≤ sizeLine) (h3 : d.params.defaults = []) (h4 : Room j callerA)
    (h : ∀ (u : World) (mg : Str → Option Value) (a : Addr) (hp : Heap), YP u hp → hp.Ns mainGlobals mg → mg d.name = some (.ref a) → ∃ K : Frag, K.In hp ∧ LawAtS l u K (L2.CX l.prog u) j m x mg a hp) :
    PySem.W.WalkO q lo XP YP l.row.toRowW d [] (fun f vs => PySem.call f vs) :=
  walk_ofTsE h1 h2 h3 h4 h fun w H s e s' z => by
    obtain ⟨_, _, _, _, _, _, _, _, _, _, _, _, z⟩ := z
    exact z
theorem lawAt {l : PySem.W.OpenLaw} {u : World} {j : Nat} {x : Str} {mg : Str → Option Value} {a : Addr} {hp : Heap} {ex : List XF} {fa : List Fa} {fn : List DefD} {tf : List LamD} {K0 : Frag} (c : SaysL ex fa fn tf hp K0) (k : K0.In hp)
    (h : ∃ fd : FuncData, (∀ (s : Shared) (y : Value), BindsTo s fd ⟨[y], []⟩ [(x, y)]) ∧ ∀ base : Heap, (markK tf K0).In base → base.Ns mainGlobals mg → (∀ p ∈ csOf tf K0, TabB base mg p.1 p.2) → FnOk l.prog u (markK tf K0) mg base (L2.CX l.prog u) j a fd [x] (spOf (markK tf K0) 1 cLaw)) :
    LawAtS l u (markK tf K0) (L2.CX l.prog u) j 63 x mg a hp := by
  obtain ⟨fd, hb, hF⟩ := h
  have mem : ∀ p ∈ csOf tf K0, ∃ r ∈ tf, cT K0 r.1 = p := fun p hp => by
    obtain ⟨r, hr, e⟩ := List.mem_map.mp hp
    exact ⟨r, hr, e⟩
  refine ⟨fd, csOf tf K0, _, fun p hp => ?_, fun p hp => ?_, fun p hp => ?_, hb, fun H b ns hl _ hT hS => law_sp hl (fun p hp => ?_) hS, hF⟩
  · obtain ⟨r, hr, rfl⟩ := mem p hp; exact c.empty r hr
  · obtain ⟨r, hr, rfl⟩ := mem p hp; rw [c.look]; exact c.out r hr
  · obtain ⟨r, hr, rfl⟩ := mem p hp; exact PySem.W.codeHd_of_K k (c.hd r hr)
  · rw [c.tabs] at hp
    obtain ⟨r, hr, rfl⟩ := List.mem_map.mp hp
    exact hT _ (List.mem_map.mpr ⟨r, hr, rfl⟩)
end TL
namespace TL
open PySem PySem.Spec PyProof.Rows L2 LamX
theorem fad_look {K K0 : Frag} (h : ∀ a, K.lookup a = K0.lookup a) (x : Str) : He.fAd K (x, none) = He.fAd K0 (x, none) := by
  show He.ga K x = He.ga K0 x
  have e : PySem.W.nsIn K mainGlobals x = PySem.W.nsIn K0 mainGlobals x := by
    unfold PySem.W.nsIn
    rw [h]
  unfold He.ga
  rw [e]
theorem lt_of {ex : List XF} {fa : List He.Fa} {fn : List He.DefD} {tf : List LamD} {h base : Heap} {K0 K : Frag} {mg : Str → Option Value} (c : SaysL ex fa fn tf h K0) (hK : K = markK tf K0) (hB : ∀ p ∈ csOf tf K0, TabB base mg p.1 p.2) {d : He.DefD} {q : Str} (hp : (d.at_, q) ∈ tf) {params : Arguments} {body : List Stmt} {scope : Scope} {x qual : Str} {fd : FuncData} {f : Addr} (F : FunD K x qual params body scope [] [] f fd)
    (hf : f = He.fAd K d.at_) (hd : d.at_.2 = none := by rfl) : LTab K mg base fd q := by
  subst hK
  subst hf
  refine c.ltab hB hp F ?_
  have e : d.at_ = (d.at_.1, none) := by rw [← hd]
  rw [e]
  exact fad_look c.look _
theorem ws_lh {Pr : Program} {w : World} {K : Frag} {mg : Str → Option Value} {base : Heap} {N : List Str} {x : Str} {sc : Scope} {f : Addr} {fd : FuncData} {cdv : Value} {A : Around} {outer : List Env} {s : Shared} {H : Hp} {E : XK} {q : Str} {g : G} {sts : List Stmt} {env : List Sl} {P : Po} (lt : LTab K mg base fd q) (hc : fd.code = cdv)
    (h : ∀ c T, LHas (cxOf (L2.CX Pr w) Pr w K mg base N x sc f cdv A outer s H E) c T → WS (cxOf (L2.CX Pr w) Pr w K mg base N x sc f cdv A outer s H E) g sts env P)
    (hq : (cxOf (L2.CX Pr w) Pr w K mg base N x sc f cdv A outer s H E).env.qual ++ "<lambda>" = q := by rfl) : WS (cxOf (L2.CX Pr w) Pr w K mg base N x sc f cdv A outer s H E) g sts env P := by
  obtain ⟨c, T, lh⟩ := lhas_of lt hc hq
  exact h c T lh
abbrev mkLam (X : Cx) (ps : Arguments) (bd : Expr) (sc : Scope) : Lam := ⟨X.env.qual ++ "<lambda>", ps, bd, sc, cloFrom X.env.cells sc.names []⟩
section
variable {X : Cx} {g : G} {env : List Sl} {Ψ : Exc → Prop} {Φ : PyData → Bool → Prop} {P : Po} {pos lp apos : Pos} {k : Nat} {ps : Arguments} {bd : Expr} {sc : Scope} {c T : Addr} {es : List Expr} {a : Expr}
theorem lamOk_by (h1 : lamSB X.env.scope sc = true := by rfl) (h2 : defaultsOf ps X.env = ([], []) := by rfl) (h3 : ∀ (q : Str) (cl : List (Str × Addr)) (pm cv ct : Value), bindArgs (PySem.W.kla_fn "<lambda>" q ps bd sc cl pm cv ct) ⟨[], []⟩ = pure [] := by (intro _ _ _ _ _; rfl)) : LamOk X (mkLam X ps bd sc) :=
  ⟨rfl, rfl, lamS_by h1, h2, fun pm cv ct => h3 _ _ pm cv ct⟩
/-- a row of lambdas -/
inductive LmEs (X : Cx) : List Expr → List Lam → Prop
  | nil : LmEs X [] []
  | cons {ps : Arguments} {bd : Expr} {sc : Scope} {pos : Pos} {es : List Expr} {ls : List Lam} (ok : LamOk X (mkLam X ps bd sc)) (t : LmEs X es ls) : LmEs X (.Lambda ps bd sc pos :: es) (mkLam X ps bd sc :: ls)
theorem lmes_run (L : LHas X c T) : ∀ {es : List Expr} {ls : List Lam}, LmEs X es ls → ∀ (W : WX), Takes X W → ∀ (σ : SS) (F H : Hp), St X.K g F H σ env →
    ∀ Q : List V → Hp → Prop, (∀ vs F' H', St X.K g F' H' σ env → Ex F F' → LamsAre F' vs ls → Q vs H') → semA X es σ H Q
  | _, _, .nil, W, tk, σ, F, H, st, Q, hQ => semA_of pa_nil (hQ [] F H st (Ex.refl F) trivial)
  | _, _, .cons (ps := ps) (bd := bd) (sc := sc) ok t, W, tk, σ, F, H, st, Q, hQ => by
    refine semA_of (pa_cons (peS _) (paS _) rfl) ?_
    refine wf_lam (l := mkLam X ps bd sc) L ok W tk σ F H st _ fun v F1 H1 s1 e1 il => ?_
    exact lmes_run L t W tk σ F1 H1 s1 _ fun vs F2 H2 s2 e2 is => hQ (v :: vs) F2 H2 s2 (e1.trans e2) ⟨il.mono e2, is⟩
theorem w1_setFl (i : Nat) {x : Str} {pos' : Pos} {ls : List Lam} (hN : X.N.Nodup) (L : LHas X c T) (hl : LmEs X es ls) (h : P.nx (env.set i (.fl ls))) (hz : es.length ≤ sizeLine := by exact szOk rfl) (hi : X.N[i]? = some x := by rfl) (hx : Loc X.env.scope x := by first | exact Or.inl rfl | exact Or.inr rfl) (hlt : Nat.blt i env.length = true := by rfl)
    (hs : swapsWith (.List es lp) (some (.Name x pos')) pos.line X.env = pure false := by rfl) (hf : X.fn x = true ∨ X.env.scope.names.lookup x = some .local := by first | exact .inl rfl | exact .inr rfl) : W1 X g (.Assign [.Name x pos'] (.List es lp) pos) env P := fun W tk hx2 σ F H s0 D hD => by
  have lenL : ∀ {es : List Expr} {ls : List Lam}, LmEs X es ls → es.length = ls.length := by
    intro es ls h
    induction h with
    | nil => rfl
    | cons _ _ ih => exact congrArg Nat.succ ih
  have lenV : ∀ {F : Hp} {vs : List V} {ls : List Lam}, LamsAre F vs ls → vs.length = ls.length := by
    intro F vs
    induction vs with
    | nil => intro ls h; cases ls with
      | nil => rfl
      | cons _ _ => exact h.elim
    | cons v vs ih => intro ls h; cases ls with
      | nil => exact h.elim
      | cons _ _ => exact congrArg Nat.succ (ih h.2)
  refine semP_of (ps_set hN hi hx (pe_lst (paS es)) hs hf) ?_
  refine lmes_run L hl W tk σ F H s0 _ fun vs F1 H1 s1 e1 is => ?_
  refine ⟨by rw [lenV is, ← lenL hl]; exact hz, fun p hn => ?_⟩
  have e2 := Ex.new (o := .lst vs) (s1.ex.none hn)
  have s2 := s1.allocF (o := .lst vs) hn
  exact hD.nx _ _ _ _ h (s2.set (s := .fl ls) (v := .ref p) (ltB hlt) ⟨p, vs, rfl, upd_same, is.mono e2⟩ (fun _ h => by cases h) (fun _ h => by cases h) (fun _ h => by cases h)) (e1.trans e2)
/-- y = x[e], x a row of lambdas -/
def lamIx (n : Nat) : PyData → (Nat → Prop) → Prop
  | .int i, K => match ixN n i with
    | some j => K j
    | none => False
  | _, _ => False
theorem lamIx_ob {n : Nat} {d : PyData} {R : Nat → Prop} (h : lamIx n d R) : ∃ i m, d = .int i ∧ ixN n i = some m ∧ R m := by
  unfold lamIx at h
  split at h
  · split at h
    · rename_i e; exact ⟨_, _, rfl, e, h⟩
    · exact h.elim
  · exact h.elim
theorem ixN_lt {n : Nat} {i : Int} {m : Nat} (e : ixN n i = some m) : m < n := by
  unfold ixN at e
  split at e
  · split at e
    · cases e; omega
    · cases e
  · split at e
    · cases e; omega
    · cases e
theorem lamsAre_get {F : Hp} : ∀ {vs : List V} {ls : List Lam} {j : Nat} {l : Lam}, LamsAre F vs ls → ls[j]? = some l → ∃ v, vs[j]? = some v ∧ IsLam F v l
  | [], [], _, _, _, h => by simp at h
  | v :: vs, l :: ls, 0, _, ⟨h1, _⟩, h => by
    have e := Option.some.inj h
    subst e
    exact ⟨v, rfl, h1⟩
  | v :: vs, l :: ls, j + 1, _, ⟨_, h2⟩, h => lamsAre_get (j := j) h2 h
  | [], _ :: _, _, _, h, _ => h.elim
  | _ :: _, [], _, _, h, _ => h.elim
theorem lamsAre_len {F : Hp} : ∀ {vs : List V} {ls : List Lam}, LamsAre F vs ls → vs.length = ls.length
  | [], [], _ => rfl
  | v :: vs, l :: ls, ⟨_, h2⟩ => congrArg Nat.succ (lamsAre_len h2)
  | [], _ :: _, h => h.elim
  | _ :: _, [], h => h.elim
theorem w1_setFx (i j : Nat) {x y : Str} {pos' q : Pos} {ls : List Lam} {R : Nat → Prop} (hN : X.N.Nodup) (h : WE X g a env (fun d _ => lamIx ls.length d R) (fun c => P.ex c env)) (hR : ∀ n l, ls[n]? = some l → R n → P.nx (env.set j (.fv l)))
    (he : env[i]? = some (.fl ls) := by rfl) (hi : X.N[i]? = some x := by rfl) (hv : Vis X.env.scope x := by first | exact Or.inl rfl | exact Or.inr (Or.inl rfl) | exact Or.inr (Or.inr rfl)) (hd : (x == ("__debug__" : Str)) = false := by decide)
    (hcd : (x == ("__classdict__" : Str)) = false := by decide) (hpl : PlainIx a := by exact fun _ _ => rfl)
    (hj : X.N[j]? = some y := by rfl) (hx : Loc X.env.scope y := by first | exact Or.inl rfl | exact Or.inr rfl) (hlt : Nat.blt j env.length = true := by rfl)
    (hs : swapsWith (.Subscript (.Name x q) a apos) (some (.Name y pos')) pos.line X.env = pure false := by rfl) (hf : X.fn y = true ∨ X.env.scope.names.lookup y = some .local := by first | exact .inl rfl | exact .inr rfl) : W1 X g (.Assign [.Name y pos'] (.Subscript (.Name x q) a apos) pos) env P := fun W tk hx2 σ F H s0 D hD => by
  refine semP_of (ps_set hN hj hx (pe_ix ix_list (pe_var hi hv hd hcd) (peS a) hpl) hs hf) ?_
  obtain ⟨al, vs, h1, h2, h3⟩ := s0.sl i _ he
  refine ⟨_, getD_some h1, ?_⟩
  refine h W tk σ F H s0 (hx2.hx env σ) _ fun d z v F1 H1 hr s1 e1 r1 => ?_
  have hr : lamIx ls.length d R := hr
  obtain ⟨n, m, rfl, em, hr⟩ := lamIx_ob hr
  have hm : m < ls.length := ixN_lt em
  obtain ⟨u, hu, il⟩ := lamsAre_get h3 (List.getElem?_eq_getElem hm)
  refine ⟨al, vs, n, u, rfl, rd_int r1, SqL.of (s1.ex _ _ (e1 _ _ h2)), ?_, ?_⟩
  · unfold atI
    rw [lamsAre_len h3, em]
    exact hu
  · exact hD.nx _ _ F1 H1 (hR m _ (List.getElem?_eq_getElem hm) hr) (s1.set (s := .fv _) (v := u) (ltB hlt) ⟨u, rfl, il.mono e1⟩ (fun _ h => by cases h) (fun _ h => by cases h) (fun _ h => by cases h)) e1
def lamP (d : PyData) (Rs : List Prop) : Prop := lamIx Rs.length d fun n => Rs[n]?.getD False
inductive LmAll (N : Lam → Prop) : List Lam → List Prop → Prop
  | nil : LmAll N [] []
  | cons {l : Lam} {R : Prop} {ls : List Lam} {Rs : List Prop} (h : R → N l) (t : LmAll N ls Rs) : LmAll N (l :: ls) (R :: Rs)
theorem LmAll.len {N : Lam → Prop} : ∀ {ls : List Lam} {Rs : List Prop}, LmAll N ls Rs → ls.length = Rs.length
  | _, _, .nil => rfl
  | _, _, .cons _ t => congrArg Nat.succ t.len
theorem LmAll.get {N : Lam → Prop} : ∀ {ls : List Lam} {Rs : List Prop} {n : Nat} {l : Lam}, LmAll N ls Rs → ls[n]? = some l → Rs[n]?.getD False → N l
  | _, _, 0, _, .cons h _, e, r => by
    have e := Option.some.inj e
    subst e
    exact h r
  | _, _, n + 1, _, .cons _ t, e, r => t.get (n := n) e r
  | _, _, _, _, .nil, e, _ => by simp at e
theorem w1_setFxP (i j : Nat) {x y : Str} {pos' q : Pos} {ls : List Lam} {Rs : List Prop} (hN : X.N.Nodup) (h : WE X g a env (fun d _ => lamP d Rs) (fun c => P.ex c env)) (hR : LmAll (fun l => P.nx (env.set j (.fv l))) ls Rs)
    (he : env[i]? = some (.fl ls) := by rfl) (hi : X.N[i]? = some x := by rfl) (hv : Vis X.env.scope x := by first | exact Or.inl rfl | exact Or.inr (Or.inl rfl) | exact Or.inr (Or.inr rfl)) (hd : (x == ("__debug__" : Str)) = false := by decide)
    (hcd : (x == ("__classdict__" : Str)) = false := by decide) (hpl : PlainIx a := by exact fun _ _ => rfl)
    (hj : X.N[j]? = some y := by rfl) (hx : Loc X.env.scope y := by first | exact Or.inl rfl | exact Or.inr rfl) (hlt : Nat.blt j env.length = true := by rfl)
    (hs : swapsWith (.Subscript (.Name x q) a apos) (some (.Name y pos')) pos.line X.env = pure false := by rfl) (hf : X.fn y = true ∨ X.env.scope.names.lookup y = some .local := by first | exact .inl rfl | exact .inr rfl) : W1 X g (.Assign [.Name y pos'] (.Subscript (.Name x q) a apos) pos) env P :=
  w1_setFx i j (R := fun n => Rs[n]?.getD False) hN (h.mono fun d z h => by
    have h : lamIx Rs.length d (fun n => Rs[n]?.getD False) := h
    rw [hR.len]; exact h) (fun n l e r => hR.get e r) he hi hv hd hcd hpl hj hx hlt hs hf
/-- try, its body may change some slots ahead of what is raised -/
theorem w1_tryW {υ : Type} (mk : υ → List Sl) {h₀ : ExceptHandler} {hds : List ExceptHandler} {body : List Stmt} {l : List (Str × List Stmt)} {b : (Exc → Prop) → Prop} {kn : List Str} {hs : List (Str × Prop)} {E : Exc → Prop} (hm : tryM b kn hs E) (hr : HdR X (h₀ :: hds) l)
    (hH : ∀ u m, m ∈ kn → hdC hs m (E (.own m)) → TryH X g P l (.own m) (mk u))
    (hb : b (hdM kn hs E) → ∀ (pn : List (Addr × Obj)) (xe : Value → Shared → Prop) (F : Hp), PassesOwn (model X.prog X.w) X.A X.env xe → WS (X.tr pn xe) { g with F0 := F } body env (P.exn fun c e => hdM kn hs E c ∧ ∃ u, e = mk u))
    (hst : X.stack = X.env :: X.outer := by rfl) (hf : X.env.frame = some X.env.locals := by rfl) : W1 X g (.Try body (h₀ :: hds) [] [] pos) env P := by
  refine w1_try hr (fun pn xe F hp => ?_) hst hf
  refine (hb hm pn xe F hp).mono (fun _ q => q) (fun _ _ q => q) (fun _ q => q) (fun _ q => q) fun c e ⟨h1, u, h2⟩ => ?_
  subst h2
  cases c with
  | own m => exact hH u m h1.1 h1.2
theorem w1_lams (i : Nat) {x : Str} {pos' : Pos} {ls : List Lam} (hN : X.N.Nodup) (L : LHas X c T) (hl : LmEs X es ls) (h : ∀ ls', ls' = ls → P.nx (env.set i (.fl ls'))) (hz : es.length ≤ sizeLine := by exact szOk rfl) (hi : X.N[i]? = some x := by rfl) (hx : Loc X.env.scope x := by first | exact Or.inl rfl | exact Or.inr rfl) (hlt : Nat.blt i env.length = true := by rfl)
    (hs : swapsWith (.List es lp) (some (.Name x pos')) pos.line X.env = pure false := by rfl) (hf : X.fn x = true ∨ X.env.scope.names.lookup x = some .local := by first | exact .inl rfl | exact .inr rfl) : W1 X g (.Assign [.Name x pos'] (.List es lp) pos) env P := w1_setFl i hN L hl (h ls rfl) hz hi hx hlt hs hf
theorem w1_lamAt (i j : Nat) {x y : Str} {pos' q : Pos} {ls ls' : List Lam} {Rs : List Prop} (hls : ls' = ls) (hN : X.N.Nodup) (h : WE X g a env (fun d _ => lamP d Rs) (fun c => P.ex c env)) (hR : LmAll (fun l => ∀ l', l' = l → P.nx (env.set j (.fv l'))) ls Rs)
    (he : env[i]? = some (.fl ls') := by rfl) (hi : X.N[i]? = some x := by rfl) (hv : Vis X.env.scope x := by first | exact Or.inl rfl | exact Or.inr (Or.inl rfl) | exact Or.inr (Or.inr rfl)) (hd : (x == ("__debug__" : Str)) = false := by decide)
    (hcd : (x == ("__classdict__" : Str)) = false := by decide) (hpl : PlainIx a := by exact fun _ _ => rfl)
    (hj : X.N[j]? = some y := by rfl) (hx : Loc X.env.scope y := by first | exact Or.inl rfl | exact Or.inr rfl) (hlt : Nat.blt j env.length = true := by rfl)
    (hs : swapsWith (.Subscript (.Name x q) a apos) (some (.Name y pos')) pos.line X.env = pure false := by rfl) (hf : X.fn y = true ∨ X.env.scope.names.lookup y = some .local := by first | exact .inl rfl | exact .inr rfl) : W1 X g (.Assign [.Name y pos'] (.Subscript (.Name x q) a apos) pos) env P := by
  subst hls
  have mo : ∀ {N N' : Lam → Prop} (_ : ∀ l, N l → N' l) {ls : List Lam} {Rs : List Prop}, LmAll N ls Rs → LmAll N' ls Rs := by
    intro N N' k ls Rs t
    induction t with
    | nil => exact .nil
    | cons h _ ih => exact .cons (fun r => k _ (h r)) ih
  exact w1_setFxP i j hN h (mo (fun l z => z l rfl) hR) he hi hv hd hcd hpl hj hx hlt hs hf
theorem w1_lamAtN (i j m : Nat) {x y z : Str} {pos' q qz : Pos} {ls ls' : List Lam} {Rs : List Prop} {d : PyData} (hd0 : lamP d Rs) (hls : ls' = ls) (hN : X.N.Nodup) (hR : LmAll (fun l => ∀ l', l' = l → P.nx (env.set j (.fv l'))) ls Rs) (hm : env[m]? = some (.d d) := by rfl) (hzN : X.N[m]? = some z := by rfl)
    (hzv : Vis X.env.scope z := by first | exact Or.inl rfl | exact Or.inr (Or.inl rfl) | exact Or.inr (Or.inr rfl)) (hzd : (z == ("__debug__" : Str)) = false := by decide) (hzc : (z == ("__classdict__" : Str)) = false := by decide)
    (he : env[i]? = some (.fl ls') := by rfl) (hi : X.N[i]? = some x := by rfl) (hv : Vis X.env.scope x := by first | exact Or.inl rfl | exact Or.inr (Or.inl rfl) | exact Or.inr (Or.inr rfl)) (hd : (x == ("__debug__" : Str)) = false := by decide)
    (hcd : (x == ("__classdict__" : Str)) = false := by decide) (hpl : PlainIx (.Name z qz) := by exact fun _ _ => rfl)
    (hj : X.N[j]? = some y := by rfl) (hx : Loc X.env.scope y := by first | exact Or.inl rfl | exact Or.inr rfl) (hlt : Nat.blt j env.length = true := by rfl)
    (hs : swapsWith (.Subscript (.Name x q) (.Name z qz) apos) (some (.Name y pos')) pos.line X.env = pure false := by rfl) (hf : X.fn y = true ∨ X.env.scope.names.lookup y = some .local := by first | exact .inl rfl | exact .inr rfl) : W1 X g (.Assign [.Name y pos'] (.Subscript (.Name x q) (.Name z qz) apos) pos) env P :=
  w1_lamAt i j hls hN (we_n m hd0 hm hzN hzv hzd hzc) hR he hi hv hd hcd hpl hj hx hlt hs hf
theorem we_callN (i : Nat) {l : Lam} {y : Str} {p1 p2 : Pos} (hl : l = mkLam X ps bd sc) (hr : Room (k + 1) X.A) (h : WLam X g (mkLam X ps bd sc) env k Φ Ψ) (he : env[i]? = some (.fv l) := by rfl) (ok : LamOk X (mkLam X ps bd sc) := by exact lamOk_by) (hN : X.N[i]? = some y := by rfl)
    (hv : Vis X.env.scope y := by first | exact Or.inl rfl | exact Or.inr (Or.inl rfl) | exact Or.inr (Or.inr rfl)) (hd : (y == ("__debug__" : Str)) = false := by decide)
    (hcd : (y == ("__classdict__" : Str)) = false := by decide) : WE X g (.Call (.Name y p1) [] [] p2) env Φ Ψ := we_callF i (he.trans (by rw [hl])) ok hr h hN hv hd hcd
end
end TL
namespace TL
open PySem PySem.Spec PyProof.Rows L2
section
variable {X : Cx} {g : G} {env env' : List Sl} {Ψ : Exc → Prop} {P : Po} {pos p lp : Pos} {a b c e : Expr} {es : List Expr} {rest body : List Stmt} {K : Frag} {F F' H H' : Hp} {σ σ' : SS}
theorem Sk.snocS {s0 : Sl} {q : Addr} (st : Sk K F H σ env) (hs : s0.fp = [q]) (h1 : SlOk K F H (some (.ref q)) s0) (h3 : F q = none) (h4 : ¬ Own env q) : Sk K F H (σ ++ [some (.ref q)]) (env ++ [s0]) where
  len := by rw [List.length_append, List.length_append, st.len]; rfl
  sl := fun i s h => by
    rcases snoc_get h with h | ⟨rfl, rfl⟩
    · have hi : i < σ.length := by rw [st.len]; exact (List.getElem?_eq_some_iff.mp h).1
      rw [List.getElem?_append_left hi]
      exact st.sl i s h
    · rw [← st.len, List.getElem?_append_right (Nat.le_refl _), Nat.sub_self]
      exact h1
  nd := fun i j s t a hi hj m1 m2 => by
    rcases snoc_get hi with hi2 | ⟨ei, es⟩
    · rcases snoc_get hj with hj2 | ⟨ej, et⟩
      · exact st.nd i j s t a hi2 hj2 m1 m2
      · have e : a = q := by rw [et, hs] at m2; simpa using m2
        exact absurd ⟨i, s, hi2, e ▸ m1⟩ h4
    · rcases snoc_get hj with hj2 | ⟨ej, et⟩
      · have e : a = q := by rw [es, hs] at m1; simpa using m1
        exact absurd ⟨j, t, hj2, e ▸ m2⟩ h4
      · rw [ei, ej]
  fr := fun a ⟨i, s, hi, m⟩ => by
    rcases snoc_get hi with hi2 | ⟨_, rfl⟩
    · exact st.fr a ⟨i, s, hi2, m⟩
    · have e : a = q := by rw [hs] at m; simpa using m
      rw [e]; exact h3
  ex := st.ex
  tf := st.tf
  tk := st.tk
theorem St.snocS {s0 : Sl} {q : Addr} (st : St K g F H σ env) (hs : s0.fp = [q]) (h1 : SlOk K F H (some (.ref q)) s0) (h3 : F q = none) (h4 : ¬ Own env q) (h5 : g.H0 q = none) : St K g F H (σ ++ [some (.ref q)]) (env ++ [s0]) :=
  { st.toSk.snocS hs h1 h3 h4 with
    gt := st.gt, g1 := st.g1, g3 := st.g3, g4 := st.g4, g5 := st.g5, g6 := st.g6
    g2 := fun a ⟨i, s, hi, m⟩ => by
      rcases snoc_get hi with hi2 | ⟨_, rfl⟩
      · exact st.g2 a ⟨i, s, hi2, m⟩
      · have e : a = q := by rw [hs] at m; simpa using m
        rw [e]; exact .inl h5 }
/-- arguments, a new dict at the end -/
def WAd (X : Cx) (g : G) (es : List Expr) (env : List Sl) (Φ : List Ar → Prop) (Ψ : Exc → Prop) : Prop :=
  ∀ (W : WX), Takes X W → ∀ (σ : SS) (F H : Hp), St X.K g F H σ env → HX X g env Ψ W σ →
    ∀ Q : List V → Hp → Prop, (∀ as vs q F' H', Φ as → St X.K g F' H' σ env → Ex F F' → ArAll X.K F' σ vs as → H' q = some (.dT []) → F' q = none → ¬ Own env q → g.H0 q = none → Q (vs ++ [.ref q]) H') → semA X es σ H Q
section
variable {Φ : List Ar → Prop}
theorem wad_t (h : Φ []) (hs : starEach [.Dict [] [] lp] X.env = (false, eval (.Dict [] [] lp) X.env) :: starEach [] X.env := by rfl) : WAd X g [.Dict [] [] lp] env Φ Ψ := fun W tk σ F H st hx Q hQ => by
  refine semA_of (pa_cons pe_dnewT pa_nil hs) fun q hn => ?_
  exact hQ [] [] q F _ h (st.alloc hn) (Ex.refl F) trivial upd_same (st.ex.none hn) (st.toSk.notown hn) (st.h0 hn)
theorem wad_d (he : WE X g e env (fun d z => z = true ∧ WAd X g es env (fun as => Φ (.d d :: as)) Ψ) Ψ) (hs : starEach (e :: es) X.env = (false, eval e X.env) :: starEach es X.env := by rfl) : WAd X g (e :: es) env Φ Ψ := fun W tk σ F H st hx Q hQ => by
  refine semA_of (pa_cons (peS e) (paS es) hs) ?_
  refine he W tk σ F H st hx _ fun d z v F1 H1 ⟨hz, hp⟩ s1 e1 r1 => ?_
  subst hz
  exact hp W tk σ F1 H1 s1 hx _ fun as vs q F2 H2 hp2 s2 e2 r2 => hQ (.d d :: as) (v :: vs) q F2 H2 hp2 s2 (e1.trans e2) ⟨dp_mono e2 _ _ r1, r2⟩
end
theorem backE_snoc {as : List Ar} {env : List Sl} {s0 s1 : Sl} (h3 : ∀ i ∈ arIx as, i < env.length) : backE (env ++ [s0]) (as ++ [Ar.s env.length]) (as.map (slOf env) ++ [s1]) = env ++ [s1] := by
  have go : ∀ (as : List Ar) (env : List Sl) (n : Nat), n = env.length → (∀ i ∈ arIx as, i < env.length) → backE (env ++ [s0]) (as ++ [Ar.s n]) (as.map (slOf env) ++ [s1]) = env ++ [s1] := fun as env n hn => by
    subst hn
    induction as with
    | nil =>
      intro _
      show (env ++ [s0]).set env.length s1 = _
      rw [List.set_append_right _ _ (Nat.le_refl _), Nat.sub_self]
      rfl
    | cons a as ih =>
      intro hh
      cases a with
      | d d => exact ih hh
      | s i =>
        have hi := hh i (List.mem_cons_self ..)
        show (backE (env ++ [s0]) (as ++ [.s env.length]) (as.map (slOf env) ++ [s1])).set i (env[i]?.getD .un) = _
        rw [ih fun j hj => hh j (List.mem_cons_of_mem _ hj), List.getElem?_eq_getElem hi, List.set_append_left _ _ hi]
        show env.set i env[i] ++ _ = _
        rw [List.set_getElem_self hi]
  exact go as env _ rfl h3
/-- g(.., {}): a new list, the dict is let go -/
theorem wn_callD {j k : Nat} {x : Str} {ps : List Str} {S : CT} {Φ : List PyData → Prop} (hf : Has X.prog X.w X.K X.mg X.base j x ps S) (hr : Room k X.A)
    (h : WAd X g (e :: es) env (fun as => callOk as (ps.length - 1) env.length = true ∧ 1 ≤ ps.length ∧ ∀ q, S (as.map (slOf env) ++ [.dt q []]) (fun r args' => ∃ s ds, args' = as.map (slOf env) ++ [.dt q s] ∧ r = .nl ds ∧ Φ ds) (fun _ _ => False)) Ψ)
    (hj : j ≤ k := by omega) (hg : Gl X x := by rfl) (hdb : (x == ("__debug__" : Str)) = false := by decide)
    (he : starEach (e :: es) X.env = (false, eval e X.env) :: starEach es X.env := by rfl) (hpl : (backTo pos (starEach es X.env)).any (·.1) = false := by rfl) : WN X g (.Call (.Name x p) (e :: es) [] pos) env Φ Ψ := fun W tk σ F H st hx Q hQ => by
  obtain ⟨f, fd, hm, hk, hb, F0⟩ := hf.ex
  refine semE_of (pe_callS F0 (hr.mono hj) hg hm hk hb (fun σ => passAt tk σ) (paS (e :: es)) hdb he hpl) ?_
  refine h W tk σ F H st hx _ fun as vs q F1 H1 ⟨hok, hn1, hS⟩ s1 e1 ra g1 g2 g3 g4 => ?_
  obtain ⟨h1, h2, h3⟩ := callOk_ok hok
  have s2 := s1.snocS (s0 := .dt q []) rfl ⟨rfl, [], g1, .nil⟩ g2 g3 g4
  have ra2 := arall_snoc (x := some (.ref q)) (q := q) rfl (n := env.length) s1.len.symm ra
  have nd2 : (arIx (as ++ [Ar.s env.length])).Nodup := by
    rw [arix_snoc]
    refine List.nodup_append.mpr ⟨h2, by simp, fun a ha b hb z => ?_⟩
    have : b = env.length := by simpa using hb
    have := h3 a ha
    omega
  have hs2 : ∀ i ∈ arIx (as ++ [Ar.s env.length]), i < (env ++ [Sl.dt q []]).length := fun i hi => by
    rw [arix_snoc] at hi
    rw [List.length_append]
    rcases List.mem_append.mp hi with hi | hi
    · have := h3 i hi; simp; omega
    · have : i = env.length := by simpa using hi
      simp; omega
  have sk2 := s2.toSk.callee ra2 nd2 hs2
  rw [map_snoc h3] at sk2
  refine ⟨by rw [List.length_append, arall_len ra, h1]; simp; omega, F1, as.map (slOf env) ++ [.dt q []], _, _, hS q, sk2, fun r v args' F' H' ⟨s, ds, ea, hr2, hp⟩ sk hst _ pr => ?_, fun c args' F' H' hp _ _ _ => hp.elim⟩
  subst ea hr2
  have hst2 : Step F1 H1 ((as ++ [Ar.s env.length]).map (slOf (env ++ [Sl.dt q []]))) F' H' := by rw [map_snoc h3]; exact hst
  have s3 := st_back s2 ra2 nd2 hs2 sk hst2 (by rw [map_snoc h3, List.map_append, List.map_append]; rfl)
  rw [backE_snoc h3] at s3
  obtain ⟨p0, xs, hv, y1, y2, y3, y4, y5⟩ := pr
  exact hQ ds v F' H' hp s3.unsnoc (e1.trans hst.1) ⟨p0, xs, hv, y1, y2, y3, fun z => s1.there z y4, s1.h0 y4⟩
/-- x = x + g(..), g changes what it is handed -/
theorem w1_catM (i : Nat) {j k : Nat} {x gx : Str} {ps : List Str} {S : CT} {q : Addr} {ds : List PyData} {p1 p2 p3 p4 pb : Pos} (he0 : env[i]? = some (.ol q ds)) (hN : X.N.Nodup) (hf : Has X.prog X.w X.K X.mg X.base j gx ps S) (hr : Room k X.A)
    (h : WAs X g (e :: es) env (fun as => callOk as ps.length env.length = true ∧ (arIx as).contains i = false ∧ S (as.map (slOf env)) (fun r args' => args'.map Sl.fp = (as.map (slOf env)).map Sl.fp ∧ ∃ es', r = .nl es' ∧ ds.length + es'.length ≤ sizeLine ∧ ∀ q', q' ∉ g.M → P.nx ((backE env as args').set i (.ol q' (ds ++ es')))) (fun _ _ => False)) (fun c => P.ex c env))
    (hj : j ≤ k := by omega) (hg : Gl X gx := by rfl) (hdb : (gx == ("__debug__" : Str)) = false := by decide)
    (he : starEach (e :: es) X.env = (false, eval e X.env) :: starEach es X.env := by rfl) (hpl : (backTo pos (starEach es X.env)).any (·.1) = false := by rfl)
    (hi : X.N[i]? = some x := by rfl) (hx : Loc X.env.scope x := by first | exact Or.inl rfl | exact Or.inr rfl)
    (hv : Vis X.env.scope x := by first | exact Or.inl rfl | exact Or.inr (Or.inl rfl) | exact Or.inr (Or.inr rfl)) (hd : (x == ("__debug__" : Str)) = false := by decide)
    (hcd : (x == ("__classdict__" : Str)) = false := by decide)
    (hs : swapsWith (.BinOp (.Name x p2) .Add (.Call (.Name gx p3) (e :: es) [] pos) pb) (some (.Name x p1)) p4.line X.env = pure false := by rfl) (hfn : X.fn x = true ∨ X.env.scope.names.lookup x = some .local := by first | exact .inl rfl | exact .inr rfl) :
    W1 X g (.Assign [.Name x p1] (.BinOp (.Name x p2) .Add (.Call (.Name gx p3) (e :: es) [] pos) pb) p4) env P := fun W tk hx2 σ F H s0 D hD => by
  obtain ⟨f, fd, hm, hk, hb, F0⟩ := hf.ex
  refine semP_of (ps_set hN hi hx (pe_op op_catL (pe_var hi hv hd hcd) (pe_callS F0 (hr.mono hj) hg hm hk hb (fun σ => passAt tk σ) (paS (e :: es)) hdb he hpl)) hs hfn) ?_
  have l0 := s0.sl i _ he0
  refine ⟨_, getD_some l0.1, ?_⟩
  refine h W tk σ F H s0 (hx2.hx env σ) _ fun as vs F1 H1 ⟨hok, hni, hS⟩ s1 e1 ra => ?_
  obtain ⟨h1, h2, h3⟩ := callOk_ok hok
  refine ⟨by rw [arall_len ra, h1], F1, as.map (slOf env), _, _, hS, s1.toSk.callee ra h2 h3, fun r v args' F' H' ⟨hfp, es', er, hlen, hp⟩ sk hst _ pr => ?_, fun c args' F' H' hp _ _ _ => hp.elim⟩
  subst er
  have s2 := st_back s1 ra h2 h3 sk hst hfp
  obtain ⟨p0, xs, hv0, y1, y2, y3, y4, y5⟩ := pr
  subst hv0
  have hnot : i ∉ arIx as := fun z => by
    have : (arIx as).contains i = true := List.contains_iff_mem.mpr z
    rw [hni] at this; cases this
  have he2 : (backE env as args')[i]? = some (.ol q ds) := by rw [backE_out hnot]; exact he0
  obtain ⟨l1, vs0, l2, l3⟩ := s2.sl i _ he2
  refine ⟨q, p0, vs0, xs, rfl, rfl, SqL.of l2, SqL.of y1, by rw [dpa_len l3, dpa_len y2]; exact hlen, fun pn hn => ?_⟩
  have s3 := s2.alloc (o := .lst (vs0 ++ xs)) hn
  have hF : F' pn = none := s2.ex.none hn
  exact hD.nx _ _ F' _ (hp pn fun m => s2.g6 pn m (s2.h0 hn)) (s3.setL (by rw [backE_len]; exact (List.getElem?_eq_some_iff.mp he0).1) upd_same (dpa_app l3 y2) hF (s2.toSk.notown hn) (s2.h0 hn)) (e1.trans hst.1)
end
end TL
namespace TL
open PySem PySem.Spec PyProof.Rows L2
open Classical in
noncomputable def cutS (F : Hp) (S : Addr → Prop) : Hp := fun b => if S b then none else F b
end TL
namespace TL
open PySem PySem.Spec PyProof.Rows L2
open Sem (wp)
def tDispT1 (trs : List (TE × TE)) : TE := fun σ H Q => ∀ p, H p = none → tPairs trs σ (upd H p (.dT [])) fun ps H2 => H2 p = some (.dT []) ∧ ∃ (b : Addr) (ks : List Key) (y : V), ps = [(.ref b, y)] ∧ H2 b = some (.tup (ks.map kV)) ∧ Q (.ref p) (upd H2 p (.dT [(ks, y)]))
theorem pe_dispT1 {X : Cx} {pos : Pos} {k v : Expr} {trs : List (TE × TE)} (h : PPs X pos [some k] [v] trs) (hu : X.A.units + 1 < cLine) : PE X (.Dict [some k] [v] pos) (tDispT1 trs) := by
  refine ⟨fun pins s σ H Q I q => ?_⟩
  have hn := I.hok.fresh (Nat.le_refl s.heap.objs.size)
  have I1 := I.laid (a := s.heap.objs.size) (o := .dT []) (h' := s.heap.push { cls := .type "dict", data := .dict #[] }) (t' := s.toks) (fun _ _ q => Heap.get?_push_of_some _ q) (Nat.le_refl _) (dt_empty s.heap I.big)
  have hl1 : (pairTrees [some k] [v] X.env pos).length = 1 := pairTrees_length [some k] [v] X.env pos rfl rfl
  have h0 : pairTrees [some k] [v] X.env pos ≠ [] := fun z => by rw [z] at hl1; cases hl1
  rw [arm_eval_Dict, zip_pairTrees [some k] [v] X.env pos rfl rfl, dictDisplay_pairs _ h0 (by omega)]
  refine wpAny_bind (wpAny_standAt (wpAny_bind (wpAny_subDictH (knd := tupleKind (mixKind X.prog X.w)) (Q := fun d s' => wpAny (model X.prog X.w) X.A (pure (Value.ref d)) _ _ s') (show X.A.units < cLine by omega) (by omega) ?_)))
  refine thn (h.run pins _ σ _ _ I1 (q _ hn)) fun ws s2 ⟨ps, H2, I2, rel, e, b, ks, y, ep, eb, q2⟩ => ?_
  subst ep
  cases rel with
  | @cons _ w _ ws' r t =>
    cases t
    obtain ⟨w1, w2⟩ := w
    obtain ⟨r1, r2⟩ := r
    cases (show w1 = Value.ref b from r1)
    obtain ⟨z, hd, xs0, r0, dd⟩ := dt_of I2.hok e
    cases r0
    refine ⟨[(ks, b, w2)], ⟨rfl, rfl, key_of I2.hok eb, trivial⟩, dd, fun h' tk dd' hs => wpAny_pure ⟨.ref s.heap.objs.size, _, ?_, rfl, q2⟩⟩
    obtain ⟨o, es, ep, hq, h2, h3, h4, _, h5⟩ := dd'
    refine d_write I2 (by rw [e]; exact True.intro) hs ⟨o, hq⟩ ⟨by rw [sizeLine_eq]; show 1 ≤ 16777216; decide, hd, [(ks, b, w2)], .cons ⟨rfl, ?_, r2⟩ .nil, o, es, ep, hq, h2, h3, h4, h5⟩
    rw [upd_ne (ne_of eb e (fun z => nomatch z))]
    exact eb
def dispTM (ps : List (PyData × PyData)) (K : List (List Key × PyData) → Prop) : Prop := match ps with
  | [(k, d)] => match keyT k with
    | some q => K [(q, d)]
    | none => False
  | _ => False
section
variable {X : Cx} {g : G} {env env' : List Sl} {Ψ : Exc → Prop} {P : Po} {pos p lp : Pos} {a b c e : Expr} {es : List Expr} {K : Frag} {F F' H H' : Hp} {σ σ' : SS} {x y : PyData} {k0 : Nat}
theorem dispT_m {ps : List (PyData × PyData)} {Q Q' : List (List Key × PyData) → Prop} (h : dispTM ps Q) (k : ∀ r, Q r → Q' r) : dispTM ps Q' := by
  unfold dispTM at *
  split at h
  · split at h
    · exact k _ h
    · exact h.elim
  · exact h.elim
theorem wdt_disp1 {Φ : List (List Key × PyData) → Prop} (hr : Room k0 X.A) (h : ∀ g' : G, WPs X g' [(a, b)] env (fun ps => dispTM ps Φ) Ψ) : WDt X g (.Dict [some a] [b] pos) env Φ Ψ := fun W tk σ F H st hx Q hQ => by
  refine semE_of (pe_dispT1 (pps_zip (ks := [some a]) (vs := [b]) rfl rfl) (by have := units65 hr; omega)) fun p hn => ?_
  have s1 := st.alloc (o := .dT []) hn
  have no : ¬ Own env p := st.toSk.notown hn
  have hF : F p = none := st.ex.none hn
  have hpM : p ∉ fps env := fun z => no (own_fps.mpr z)
  refine h ⟨F, upd H p (.dT []), fps env⟩ W tk σ F _ s1.toSk.base (fun c F' H' hc s2 => hx c F' H' hc (s1.rebase s2 fun _ q => q)) _ fun ds vs' F2 H2 hd s2 e2 r2 => ?_
  have hp2 : H2 p = some (.dT []) := s2.g1 p _ upd_same hpM (fun _ z => by cases z)
  have hd : dispTM ds Φ := hd
  unfold dispTM at hd
  split at hd
  · rename_i kd d
    split at hd
    · rename_i q eq
      obtain ⟨v, w, rfl⟩ : ∃ v w, vs' = [(v, w)] := by
        cases vs' with
        | nil => exact r2.elim
        | cons a l =>
          cases l with
          | nil => exact ⟨a.1, a.2, rfl⟩
          | cons b l => exact r2.2.elim
      obtain ⟨⟨rk, rv⟩, _⟩ := r2
      obtain ⟨t, rfl, ht⟩ := keyT_dp rk eq
      refine ⟨hp2, t, q, w, rfl, s2.ex _ _ ht, ?_⟩
      have s3 := s1.rebase s2 fun _ q => q
      have hF2 : F2 p = none := by
        cases z : F2 p with
        | none => rfl
        | some u =>
          rcases s2.g4 p (by rw [z]; intro y; cases y) with y | y
          · exact absurd hF y
          · have y : upd H p (.dT []) p = none := y
            rw [upd_same] at y; cases y
      have h0' : g.H0 p = none := st.h0 hn
      have s4 := s3.untracked (D := p) (o' := .dT [(q, w)]) hF2 no h0'
      exact hQ _ (.ref p) F2 _ hd s4 e2 ⟨p, _, rfl, upd_same, .cons ⟨rfl, rv⟩ .nil, hF2, no, h0'⟩
    · exact hd.elim
  · exact hd.elim
end
end TL
namespace TL
open PySem PySem.Spec PyProof.Rows L2
def NewS (K : Frag) (g : G) (F H : Hp) (env : List Sl) (v : V) (s : Sl) : Prop := SlOk K F H (some v) s ∧ ∀ p ∈ s.fp, F p = none ∧ ¬ Own env p ∧ g.H0 p = none
def WO (X : Cx) (g : G) (e : Expr) (env : List Sl) (Φ : Sl → Prop) (Ψ : Exc → Prop) : Prop :=
  ∀ (W : WX), Takes X W → ∀ (σ : SS) (F H : Hp), St X.K g F H σ env → HX X g env Ψ W σ →
    ∀ Q : VK, (∀ s v F' H', Φ s → St X.K g F' H' σ env → Ex F F' → NewS X.K g F' H' env v s → Q v H') → semE X e σ H Q
section
variable {X : Cx} {g : G} {env env' : List Sl} {Ψ : Exc → Prop} {P : Po} {pos p lp : Pos} {a b c e e1 e2 : Expr} {es : List Expr} {rest body : List Stmt} {K : Frag} {F F' F1 F2 H H' H1 H2 : Hp} {σ σ' : SS} {s : Sl} {v : V} {x : PyData}
theorem WO.mono {Φ Φ' : Sl → Prop} (h : WO X g e env Φ Ψ) (k : ∀ s, Φ s → Φ' s) : WO X g e env Φ' Ψ :=
  fun W tk σ F H st hx Q hQ => h W tk σ F H st hx Q fun s v F' H' p => hQ s v F' H' (k s p)
end
end TL
namespace TL
open PySem PySem.Spec PyProof.Rows L2
def otT (a : Addr) (as : List Addr) (ds : List (List PyData)) : OwT where
  id := a
  fp := (as.zip ds).map (·.1)
  ok := fun K F H v => v = .ref a ∧ F a = some (.tup ((as.zip ds).map fun r => .ref r.1)) ∧ ((as.zip ds).map (·.1)).Nodup ∧ ∀ r ∈ as.zip ds, ∃ vs, H r.1 = some (.lst vs) ∧ DqAll K F vs r.2
  isr := fun h => h.1
  mono := fun {K F F' H H' v} e k h => by
    obtain ⟨h1, h2, h3, h4⟩ := h
    refine ⟨h1, e _ _ h2, h3, fun r hr => ?_⟩
    obtain ⟨vs, q1, q2⟩ := h4 r hr
    exact ⟨vs, k r.1 (List.mem_map_of_mem hr) _ q1, dpa_mono e _ _ q2⟩
  there := fun {K F H v} h b hb => by
    obtain ⟨r, hr, rfl⟩ := List.mem_map.mp hb
    obtain ⟨vs, q1, _⟩ := h.2.2.2 r hr
    exact ⟨_, q1, rfl⟩
  rows := as.zip ds
  held := fun {K F H v} h r hr => h.2.2.2 r hr
def IsNest (x : PyData) (s : Sl) : Prop := (∃ ds al as, x = .list (ds.map .list) ∧ s = ooS al as ds ∧ as.length = ds.length) ∨ ∃ ds a as, x = .tuple (ds.map .list) ∧ s = .ow (otT a as ds) ∧ as.length = ds.length
section
variable {X : Cx} {g : G} {env env' : List Sl} {Ψ : Exc → Prop} {P : Po} {pos p lp : Pos} {a b c e e1 e2 : Expr} {es : List Expr} {rest body : List Stmt} {K : Frag} {F F' F1 F2 H H' H1 H2 : Hp} {σ σ' : SS} {s : Sl} {v : V} {x kd : PyData}
theorem IsNest.ne (h : IsNest x s) : s ≠ .un := by
  rcases h with ⟨_, _, _, _, rfl, _⟩ | ⟨_, _, _, _, rfl, _⟩ <;> (intro z; cases z)
end
end TL
namespace TL
open PySem PySem.Spec PyProof.Rows L2
section
variable {X : Cx} {g : G} {env env' : List Sl} {Ψ : Exc → Prop} {P : Po} {pos p lp : Pos} {a b c e e1 e2 elt tg iter : Expr} {es : List Expr} {rest body : List Stmt} {K : Frag} {F F' F1 F2 H H' H1 H2 : Hp} {σ σ' : SS} {s : Sl} {v : V} {x kd : PyData}
/-- what stood and no slot owns stays as it is, out of the frozen part -/
theorem St.keeps {D : Addr} {u : HO} (s2 : St K ⟨F, H, fps env⟩ F' H' σ' env') (hD : H D = some u) (hu : ntb u) (fD : F D = none) (oD : ¬ Own env D) : H' D = some u ∧ F' D = none := by
  refine ⟨s2.g1 D _ hD (fun z => oD (own_fps.mpr z)) hu, ?_⟩
  cases q : F' D with
  | none => rfl
  | some w =>
    rcases s2.g4 D (by rw [q]; intro z; cases z) with z | z
    · exact absurd fD z
    · have z' : H D = none := z
      rw [hD] at z'; cases z'
end
end TL
namespace TL
open PySem PySem.Spec PyProof.Rows L2
def minDM : PyData → KD → Prop
  | .list (x :: xs), K => PySem.W.AlikeAll (x :: xs) ∧ (∀ d ∈ x :: xs, SeqAt.shaped d = true) ∧ K (PySem.W.minD x xs)
  | _, _ => False
def rMinD (K : Frag) : List V → Hp → VK → Prop := fun vs H Q => ∃ (a : Addr) (xs : List V) (d : PyData) (ds : List PyData) (F : Hp), vs = [V.ref a] ∧ SqL K H a xs ∧ DqAll K F xs (d :: ds) ∧ Ex F H ∧ PySem.W.AlikeAll (d :: ds) ∧ (∀ e ∈ d :: ds, SeqAt.shaped e = true) ∧
  ∀ v, Dq K F v (PySem.W.minD d ds) → Q v H
section
variable {X : Cx} {g : G} {env : List Sl} {Ψ : Exc → Prop} {pos p : Pos} {a : Expr} {K : Frag} {F H : Hp} {σ : SS} {x : PyData} {Φ : PyData → Bool → Prop}
theorem reads_all {h : Heap} : ∀ {its : List Value} {ds : List PyData}, PySem.W.EachIs (fun u d => ∃ as, Reads h u (id d) as) its ds → ∃ as, ReadsAll h its ds as
  | _, _, .nil => ⟨_, .nil⟩
  | _, _, .cons ⟨as, h1⟩ t => by
    obtain ⟨bs, h2⟩ := reads_all t
    exact ⟨_, .cons h1 h2⟩
theorem each_at {P : Value → PyData → Prop} : ∀ {its : List Value} {ds : List PyData} {i : Nat} {v : Value}, PySem.W.EachIs P its ds → its[i]? = some v → ∃ d, ds[i]? = some d ∧ P v d
  | _, _, _, _, .nil, h => by simp at h
  | _, _, 0, _, .cons h1 _, h => by cases h; exact ⟨_, rfl, h1⟩
  | _, _, i + 1, _, .cons _ t, h => each_at (i := i) t h
theorem cr_minD {k : Nat} (hc : X.calm = true) (hr : Room k X.A) : CallR X (.builtin "min") (rMinD X.K) := by
  intro pins s σ H vs us Q I r h
  obtain ⟨a, xs, d, ds, F, rfl, hs, hd, eF, hal, hdp, q⟩ := h
  obtain ⟨its, rv, hl, hz⟩ := I.list hs
  rw [Vals.ref1 r]
  obtain ⟨q1, q2⟩ := each_of I eF hdp rv hd
  obtain ⟨as, ra⟩ := reads_all q2
  have hdep : PyData.depthAll (d :: ds) ≤ 64 := by
    have : ∀ (l : List PyData), (∀ e ∈ l, SeqAt.shaped e = true) → PyData.depthAll l ≤ 64 := fun l => by
      induction l with
      | nil => intro _; exact Nat.zero_le _
      | cons e l ih =>
        intro hh
        have h1 : e.depth ≤ 64 := of_decide_eq_true (Bool.and_eq_true_iff.mp (hh e (List.mem_cons_self ..))).2
        have h2 := ih fun b hb => hh b (List.mem_cons_of_mem _ hb)
        unfold PyData.depthAll
        omega
    exact this _ hdp
  have hu := hr.un
  refine PySem.W.min_list_data (I.ok.hd hc) hl.isList ra hal (by show X.A.units + 1 + _ < cLine; omega) fun i v h' tk bs hv hrd hk => ?_
  have hv' : its[i]? = some v := by simpa using hv
  obtain ⟨e, he, x, rx, dx⟩ := each_at q1 hv'
  obtain ⟨e', he', as', ra'⟩ := each_at q2 hv'
  rw [he] at he'
  cases he'
  obtain ⟨eq, _⟩ := PySem.Reads.unique (PySem.W.reads_keeps hk ra') _ _ hrd
  have eq : e = PySem.W.minD d ds := eq
  exact ⟨x, H, I.kept hk, rx, q x (eq ▸ dx)⟩
theorem we_minD {k : Nat} (hm : X.mg "min" = none) (hc : X.calm = true) (hr : Room k X.A) (h : WE X g a env (fun d _ => minDM d fun r => Φ r true) Ψ) (hg : Gl X "min" := by rfl) (he : starEach [a] X.env = (false, eval a X.env) :: starEach [] X.env := by rfl) : WE X g (.Call (.Name "min" p) [a] [] pos) env Φ Ψ :=
  we_b1 (cr_minD hc hr) hm (by decide +kernel) (fun d1 z1 q σ F H v1 st r1 Q hQ => by
    have q : minDM d1 fun r => Φ r true := q
    unfold minDM at q
    split at q
    · obtain ⟨q1, q2, q3⟩ := q
      obtain ⟨a1, vs1, rfl, s1, p1⟩ := rd_lst st.toSk r1
      exact ⟨a1, vs1, _, _, F, rfl, s1, p1, st.ex, q1, q2, fun v dv => hQ _ true v F H q3 st (Ex.refl F) dv⟩
    · exact q.elim) h hg (he := he)
theorem minD_m {Q Q' : KD} (h : minDM x Q) (k : ∀ r, Q r → Q' r) : minDM x Q' := by
  unfold minDM at *
  split at h
  · exact ⟨h.1, h.2.1, k _ h.2.2⟩
  · exact h.elim
end
end TL
namespace TL
open PySem PySem.Spec PyProof.Rows L2
structure HasD (P : Program) (w : World) (K : Frag) (mg : Str → Option Value) (base : Heap) (k : Nat) (x : Str) (ps : List Str) (dvs : List V) (S : CT) : Prop where
  ex : ∃ f fd ds, mg x = some (.ref f) ∧ PySem.W.keepIn K (.ref f) = true ∧ Vals dvs ds ∧ Binds K fd ps ds ∧ FnOk P w K mg base (L2.CX P w) k f fd ps (spOf K ps.length S)
structure HasN (P : Program) (w : World) (K : Frag) (mg : Str → Option Value) (base : Heap) (k : Nat) (x : Str) (ps : List Str) (n : Nat) (ks : List Str) (S : CT) : Prop where
  ex : ∃ f fd, mg x = some (.ref f) ∧ PySem.W.keepIn K (.ref f) = true ∧ L2.KBn K fd ps n ks (fun us ws => us ++ ws) (fun us ws => us ++ ws) ∧ FnOk P w K mg base (L2.CX P w) k f fd ps (spOf K ps.length S)
theorem HasD.mono {P : Program} {w : World} {K : Frag} {mg : Str → Option Value} {base : Heap} {k k' : Nat} {x : Str} {ps : List Str} {dvs : List V} {S : CT} (h : HasD P w K mg base k x ps dvs S) (le : k ≤ k') : HasD P w K mg base k' x ps dvs S := by
  obtain ⟨f, fd, ds, h1, h2, h3, h4, h5⟩ := h.ex
  exact ⟨f, fd, ds, h1, h2, h3, h4, h5.mono le⟩
theorem HasN.mono {P : Program} {w : World} {K : Frag} {mg : Str → Option Value} {base : Heap} {k k' n : Nat} {x : Str} {ps ks : List Str} {S : CT} (h : HasN P w K mg base k x ps n ks S) (le : k ≤ k') : HasN P w K mg base k' x ps n ks S := by
  obtain ⟨f, fd, h1, h2, h3, h5⟩ := h.ex
  exact ⟨f, fd, h1, h2, h3, h5.mono le⟩
section
variable {K : Frag} {x qual : Str} {params : Arguments} {body : List Stmt} {scope : Scope} {dv : V} {f : Addr} {fd : FuncData} {ps : List Str}
theorem binds_full (F : FunD K x qual params body scope [dv] [] f fd) (n : Nat) (hn : n = ps.length)
    (h : ∀ (T : Addr) (kV doc pm : Value) (an : Option Addr) (cdv ct : Value) (us its : List Value), us.length = n → its.length = 1 → ∃ k, bindArgs (PySem.W.fnOf x qual params body scope (.ref T) kV doc pm an cdv ct) ⟨us, []⟩ = seqItems? (.ref T) >>= k ∧ k (some its.toArray) = pure (ps.zip us)) : Binds K fd ps [] := by
  obtain ⟨ds, h1, h2⟩ := F.binds1 (ps := ps) n 1 (by simp) (by simp [hn]) fun T kV doc pm an cdv ct us its hu hi => by
    obtain ⟨k, e1, e2⟩ := h T kV doc pm an cdv ct us its hu hi
    refine ⟨k, e1, ?_⟩
    rw [e2, show its.drop 1 = [] by rw [List.drop_eq_nil_iff]; simp at hi; omega, List.append_nil]
  cases h1
  exact h2
theorem binds_dfl (F : FunD K x qual params body scope [dv] [] f fd) (n : Nat) (hn : n + 1 = ps.length)
    (h : ∀ (T : Addr) (kV doc pm : Value) (an : Option Addr) (cdv ct : Value) (us its : List Value), us.length = n → its.length = 1 → ∃ k, bindArgs (PySem.W.fnOf x qual params body scope (.ref T) kV doc pm an cdv ct) ⟨us, []⟩ = seqItems? (.ref T) >>= k ∧ k (some its.toArray) = pure (ps.zip (us ++ its))) : ∃ ds, Vals [dv] ds ∧ Binds K fd ps ds :=
  F.binds1 (ps := ps) n 0 (by simp) (by simpa using hn) fun T kV doc pm an cdv ct us its hu hi => h T kV doc pm an cdv ct us its hu hi
theorem binds_kw (F : FunD K x qual params body scope [dv] [] f fd) (n : Nat) (nm : Str)
    (h : ∀ (T : Addr) (kV doc pm : Value) (an : Option Addr) (cdv ct : Value) (us ws its : List Value), us.length = n → ws.length = 1 → its.length = 1 → ∃ k, bindArgs (PySem.W.fnOf x qual params body scope (.ref T) kV doc pm an cdv ct) ⟨us, [nm].zip ws⟩ = seqItems? (.ref T) >>= k ∧ k (some its.toArray) = pure (ps.zip (us ++ ws))) : L2.KBn K fd ps n [nm] (fun us ws => us ++ ws) (fun us ws => us ++ ws) := by
  obtain ⟨oc, od, dV, kV, doc, pm, an, cdv, ct, osl, rfl, lk, hcd, hd, hkw⟩ := F.ex
  rcases hd with ⟨z, _⟩ | ⟨_, T, o, its, m, rfl, hT, ho, hv⟩
  · cases z
  refine ⟨fun s us ws kin hu hw => ?_, fun h1 h2 => ?_⟩
  · refine BindsTo.of_looks fun M => ?_
    have hi : its.length = 1 := (hv.length).symm
    obtain ⟨k, e1, e2⟩ := h T kV doc pm an cdv ct us ws its hu hw hi
    rw [e1]
    refine looks_items kin hT ho ?_
    rw [e2]
    exact PySem.W.Looks.now
  · have : ∀ {vs : List V} {us : List Value} {zs : List V} {ws : List Value}, Vals vs us → Vals zs ws → Vals (vs ++ zs) (us ++ ws) := fun {vs us zs ws} h1 h2 => by
      induction h1 with
      | nil => exact h2
      | cons r _ ih => exact .cons r ih
    exact this h1 h2
end
end TL
namespace Tx
open PySem PySem.Spec PyProof.Rows L2
set_option maxRecDepth 100000
def topS (i : Nat) : Stmt := PySem.Challenge.pw_pinchfold_k06_plans_refused_at_every_doo.main.body.getD i (.Pass ⟨0, 0, 0, 0⟩)
abbrev s_crossing : Stmt := topS 12
abbrev s_is_cut : Stmt := topS 13
abbrev s_is_plan : Stmt := topS 14
abbrev s_need_plan : Stmt := topS 15
abbrev s_follows : Stmt := topS 16
abbrev s_pair_of : Stmt := topS 17
abbrev s_all_lines : Stmt := topS 18
abbrev s_neighbours : Stmt := topS 19
abbrev s_lines : Stmt := topS 20
abbrev s_parts : Stmt := topS 21
abbrev s_fan : Stmt := topS 22
abbrev s_turned_by : Stmt := topS 23
abbrev s_turned : Stmt := topS 24
abbrev s_mirrored : Stmt := topS 25
abbrev s_least_of : Stmt := topS 26
abbrev s_first_form : Stmt := topS 27
abbrev s_alike : Stmt := topS 28
abbrev s_ways_row : Stmt := topS 30
abbrev s_number_by : Stmt := topS 31
abbrev s_number_of : Stmt := topS 32
abbrev s_need_place : Stmt := topS 35
abbrev s_need_way : Stmt := topS 36
abbrev s_places : Stmt := topS 37
abbrev s_between : Stmt := topS 38
abbrev s_third_corner : Stmt := topS 39
abbrev s_third : Stmt := topS 40
abbrev s_corner_for : Stmt := topS 41
abbrev s_pinch : Stmt := topS 42
abbrev s_unpinch : Stmt := topS 43
abbrev s_over : Stmt := topS 44
abbrev s_round_from : Stmt := topS 45
abbrev s_stacks : Stmt := topS 46
abbrev s_right_parts : Stmt := topS 47
abbrev s_upright : Stmt := topS 48
abbrev s_is_upright : Stmt := topS 49
abbrev s_steps_from : Stmt := topS 51
abbrev s_road : Stmt := topS 52
abbrev s_stepped : Stmt := topS 53
abbrev s_walked : Stmt := topS 54
abbrev s_tour_by : Stmt := topS 55
abbrev s_tour : Stmt := topS 56
abbrev s_part_corner : Stmt := topS 58
abbrev s_put_down : Stmt := topS 59
abbrev s_order_of : Stmt := topS 60
abbrev s_strip_order : Stmt := topS 61
abbrev s_row_of : Stmt := topS 62
abbrev s_need_lie : Stmt := topS 65
abbrev s_middle_corners : Stmt := topS 66
abbrev s_middles : Stmt := topS 67
abbrev s_stretch_start : Stmt := topS 68
abbrev s_heap_from : Stmt := topS 69
abbrev s_heaps_of : Stmt := topS 70
abbrev s_heaps : Stmt := topS 71
abbrev s_ring_of : Stmt := topS 72
abbrev s_ring : Stmt := topS 73
abbrev s_turned_lie : Stmt := topS 74
abbrev s_beneath : Stmt := topS 75
abbrev s__law_bag : Stmt := topS 77
abbrev s__law_bent_plan : Stmt := topS 78
abbrev s__law_crossed : Stmt := topS 79
abbrev s__law_cut_arc : Stmt := topS 80
abbrev s__law_drawn_plan : Stmt := topS 81
abbrev s__law_good_plan : Stmt := topS 82
abbrev s__law_odd : Stmt := topS 83
abbrev s__law_pair : Stmt := topS 84
abbrev s__law_plan : Stmt := topS 85
abbrev s__law_plan_door : Stmt := topS 86
abbrev s__law_pull : Stmt := topS 87
abbrev s_law : Stmt := topS 88
theorem sc_crossing : FnScope ["one", "other", "low", "high", "inside", "corner"] ["one", "other"] (defScope s_crossing) := ⟨rfl, rfl, rfl, by decide +kernel, rfl, by decide +kernel, by decide +kernel⟩
theorem sc_is_cut : FnScope ["faces", "cut", "low", "high"] ["faces", "cut"] (defScope s_is_cut) := ⟨rfl, rfl, rfl, by decide +kernel, rfl, by decide +kernel, by decide +kernel⟩
theorem sc_is_plan : FnScope ["plan", "faces", "cuts", "cut", "at", "other"] ["plan"] (defScope s_is_plan) := ⟨rfl, rfl, rfl, by decide +kernel, rfl, by decide +kernel, by decide +kernel⟩
theorem sc_need_plan : FnScope ["plan"] ["plan"] (defScope s_need_plan) := ⟨rfl, rfl, rfl, by decide +kernel, rfl, by decide +kernel, by decide +kernel⟩
theorem sc_follows : FnScope ["faces", "face"] ["faces", "face"] (defScope s_follows) := ⟨rfl, rfl, rfl, by decide +kernel, rfl, by decide +kernel, by decide +kernel⟩
theorem sc_pair_of : FnScope ["one", "other"] ["one", "other"] (defScope s_pair_of) := ⟨rfl, rfl, rfl, by decide +kernel, rfl, by decide +kernel, by decide +kernel⟩
theorem sc_all_lines : FnScope ["plan", "faces", "cuts", "face"] ["plan"] (defScope s_all_lines) := ⟨rfl, rfl, rfl, by decide +kernel, rfl, by decide +kernel, by decide +kernel⟩
theorem sc_neighbours : FnScope ["plan", "faces", "cuts", "found", "face", "low", "high", "step"] ["plan"] (defScope s_neighbours) := ⟨rfl, rfl, rfl, by decide +kernel, rfl, by decide +kernel, by decide +kernel⟩
theorem sc_lines : FnScope ["plan"] ["plan"] (defScope s_lines) := ⟨rfl, rfl, rfl, by decide +kernel, rfl, by decide +kernel, by decide +kernel⟩
theorem sc_parts : FnScope ["plan", "near", "found", "low", "high", "other"] ["plan"] (defScope s_parts) := ⟨rfl, rfl, rfl, by decide +kernel, rfl, by decide +kernel, by decide +kernel⟩
theorem sc_fan : FnScope ["plan", "face"] ["plan", "face"] (defScope s_fan) := ⟨rfl, rfl, rfl, by decide +kernel, rfl, by decide +kernel, by decide +kernel⟩
theorem sc_turned_by : FnScope ["plan", "many", "faces", "cuts", "moved", "low", "high"] ["plan", "many"] (defScope s_turned_by) := ⟨rfl, rfl, rfl, by decide +kernel, rfl, by decide +kernel, by decide +kernel⟩
theorem sc_turned : FnScope ["plan", "shift"] ["plan", "shift"] (defScope s_turned) := ⟨rfl, rfl, rfl, by decide +kernel, rfl, by decide +kernel, by decide +kernel⟩
theorem sc_mirrored : FnScope ["plan", "faces", "cuts", "moved", "low", "high"] ["plan"] (defScope s_mirrored) := ⟨rfl, rfl, rfl, by decide +kernel, rfl, by decide +kernel, by decide +kernel⟩
theorem sc_least_of : FnScope ["plan", "many"] ["plan"] (defScope s_least_of) := ⟨rfl, rfl, rfl, by decide +kernel, rfl, by decide +kernel, by decide +kernel⟩
theorem sc_first_form : FnScope ["plan"] ["plan"] (defScope s_first_form) := ⟨rfl, rfl, rfl, by decide +kernel, rfl, by decide +kernel, by decide +kernel⟩
theorem sc_alike : FnScope ["one", "other"] ["one", "other"] (defScope s_alike) := ⟨rfl, rfl, rfl, by decide +kernel, rfl, by decide +kernel, by decide +kernel⟩
theorem sc_ways_row : FnScope ["most", "row", "many", "first"] ["most"] (defScope s_ways_row) := ⟨rfl, rfl, rfl, by decide +kernel, rfl, by decide +kernel, by decide +kernel⟩
theorem sc_number_by : FnScope ["row", "near", "start", "steps", "faces", "found", "first", "corner", "late"] ["row", "near", "start", "steps"] (defScope s_number_by) := ⟨rfl, rfl, rfl, by decide +kernel, rfl, by decide +kernel, by decide +kernel⟩
theorem sc_number_of : FnScope ["plan"] ["plan"] (defScope s_number_of) := ⟨rfl, rfl, rfl, by decide +kernel, rfl, by decide +kernel, by decide +kernel⟩
theorem sc_need_place : FnScope ["plan", "place", "top", "under"] ["plan", "place"] (defScope s_need_place) := ⟨rfl, rfl, rfl, by decide +kernel, rfl, by decide +kernel, by decide +kernel⟩
theorem sc_need_way : FnScope ["way"] ["way"] (defScope s_need_way) := ⟨rfl, rfl, rfl, by decide +kernel, rfl, by decide +kernel, by decide +kernel⟩
theorem sc_places : FnScope ["plan", "rows", "low", "high"] ["plan"] (defScope s_places) := ⟨rfl, rfl, rfl, by decide +kernel, rfl, by decide +kernel, by decide +kernel⟩
theorem sc_between : FnScope ["faces", "start", "corner", "end"] ["faces", "start", "corner", "end"] (defScope s_between) := ⟨rfl, rfl, rfl, by decide +kernel, rfl, by decide +kernel, by decide +kernel⟩
theorem sc_third_corner : FnScope ["plan", "near", "place", "way", "top", "under", "start", "end", "corner"] ["plan", "near", "place", "way"] (defScope s_third_corner) := ⟨rfl, rfl, rfl, by decide +kernel, rfl, by decide +kernel, by decide +kernel⟩
theorem sc_third : FnScope ["plan", "place", "way"] ["plan", "place", "way"] (defScope s_third) := ⟨rfl, rfl, rfl, by decide +kernel, rfl, by decide +kernel, by decide +kernel⟩
theorem sc_corner_for : FnScope ["plan", "place", "way", "corner"] ["plan", "place", "way"] (defScope s_corner_for) := ⟨rfl, rfl, rfl, by decide +kernel, rfl, by decide +kernel, by decide +kernel⟩
theorem sc_pinch : FnScope ["plan", "place", "way"] ["plan", "place", "way"] (defScope s_pinch) := ⟨rfl, rfl, rfl, by decide +kernel, rfl, by decide +kernel, by decide +kernel⟩
theorem sc_unpinch : FnScope ["plan", "place", "way", "corner"] ["plan", "place", "way"] (defScope s_unpinch) := ⟨rfl, rfl, rfl, by decide +kernel, rfl, by decide +kernel, by decide +kernel⟩
theorem sc_over : FnScope ["plan", "place"] ["plan", "place"] (defScope s_over) := ⟨rfl, rfl, rfl, by decide +kernel, rfl, by decide +kernel, by decide +kernel⟩
theorem sc_round_from : FnScope ["faces", "start", "end", "found", "here"] ["faces", "start", "end"] (defScope s_round_from) := ⟨rfl, rfl, rfl, by decide +kernel, rfl, by decide +kernel, by decide +kernel⟩
theorem sc_stacks : FnScope ["plan", "place", "top", "under"] ["plan", "place"] (defScope s_stacks) := ⟨rfl, rfl, rfl, by decide +kernel, rfl, by decide +kernel, by decide +kernel⟩
theorem sc_right_parts : FnScope ["plan", "near", "faces", "found", "left", "start", "end", "right", "corner"] ["plan"] (defScope s_right_parts) := ⟨rfl, rfl, rfl, by decide +kernel, rfl, by decide +kernel, by decide +kernel⟩
theorem sc_upright : FnScope ["plan", "place"] ["plan", "place"] (defScope s_upright) := ⟨rfl, rfl, rfl, by decide +kernel, rfl, by decide +kernel, by decide +kernel⟩
theorem sc_is_upright : FnScope ["plan", "place", "near", "hands", "top", "under", "corner"] ["plan", "place"] (defScope s_is_upright) := ⟨rfl, rfl, rfl, by decide +kernel, rfl, by decide +kernel, by decide +kernel⟩
theorem sc_steps_from : FnScope ["plan", "near", "place", "top", "under", "found", "way", "corner"] ["plan", "near", "place"] (defScope s_steps_from) := ⟨rfl, rfl, rfl, by decide +kernel, rfl, by decide +kernel, by decide +kernel⟩
theorem sc_road : FnScope ["plan", "place", "other", "near", "came", "row", "at", "step", "there", "found", "here"] ["plan", "place", "other"] (defScope s_road) := ⟨rfl, rfl, rfl, by decide +kernel, rfl, by decide +kernel, by decide +kernel⟩
theorem sc_stepped : FnScope ["plan", "place", "step"] ["plan", "place", "step"] (defScope s_stepped) := ⟨rfl, rfl, rfl, by decide +kernel, rfl, by decide +kernel, by decide +kernel⟩
theorem sc_walked : FnScope ["plan", "place", "steps", "here", "step"] ["plan", "place", "steps"] (defScope s_walked) := ⟨rfl, rfl, rfl, by decide +kernel, rfl, by decide +kernel, by decide +kernel⟩
theorem sc_tour_by : FnScope ["plan", "near", "place", "seen", "found", "way", "corner", "part", "here", "turn"] ["plan", "near", "place", "seen"] (defScope s_tour_by) := ⟨rfl, rfl, rfl, by decide +kernel, rfl, by decide +kernel, by decide +kernel⟩
theorem sc_tour : FnScope ["plan", "place"] ["plan", "place"] (defScope s_tour) := ⟨rfl, rfl, rfl, by decide +kernel, rfl, by decide +kernel, by decide +kernel⟩
theorem sc_part_corner : FnScope ["faces", "near", "start", "end", "corner"] ["faces", "near", "start", "end"] (defScope s_part_corner) := ⟨rfl, rfl, rfl, by decide +kernel, rfl, by decide +kernel, by decide +kernel⟩
theorem sc_put_down : FnScope ["faces", "near", "arc", "crossed", "start", "end", "corner", "first", "second"] ["faces", "near", "arc", "crossed"] (defScope s_put_down) := ⟨rfl, rfl, rfl, by decide +kernel, rfl, by decide +kernel, by decide +kernel⟩
theorem sc_order_of : FnScope ["plan", "faces"] ["plan"] (defScope s_order_of) := ⟨rfl, rfl, rfl, by decide +kernel, rfl, by decide +kernel, by decide +kernel⟩
theorem sc_strip_order : FnScope ["plan"] ["plan"] (defScope s_strip_order) := ⟨rfl, rfl, rfl, by decide +kernel, rfl, by decide +kernel, by decide +kernel⟩
theorem sc_row_of : FnScope ["plan", "faces", "near", "found", "hands", "leaf", "after", "corner", "other"] ["plan"] (defScope s_row_of) := ⟨rfl, rfl, rfl, by decide +kernel, rfl, by decide +kernel, by decide +kernel⟩
theorem sc_need_lie : FnScope ["plan", "lie", "top", "under", "front"] ["plan", "lie"] (defScope s_need_lie) := ⟨rfl, rfl, rfl, by decide +kernel, rfl, by decide +kernel, by decide +kernel⟩
theorem sc_middle_corners : FnScope ["plan", "place", "top", "under", "near", "ahead"] ["plan", "place"] (defScope s_middle_corners) := ⟨rfl, rfl, rfl, by decide +kernel, rfl, by decide +kernel, by decide +kernel⟩
theorem sc_middles : FnScope ["plan", "place"] ["plan", "place"] (defScope s_middles) := ⟨rfl, rfl, rfl, by decide +kernel, rfl, by decide +kernel, by decide +kernel⟩
theorem sc_stretch_start : FnScope ["spots", "leaves", "many", "held", "leaf"] ["spots", "leaves"] (defScope s_stretch_start) := ⟨rfl, rfl, rfl, by decide +kernel, rfl, by decide +kernel, by decide +kernel⟩
theorem sc_heap_from : FnScope ["spots", "leaves", "start", "many", "own", "leaf"] ["spots", "leaves", "start"] (defScope s_heap_from) := ⟨rfl, rfl, rfl, by decide +kernel, rfl, by decide +kernel, by decide +kernel⟩
theorem sc_heaps_of : FnScope ["plan", "lie", "top", "under", "front", "faces", "order", "spots", "leaf", "even", "odd", "right", "first", "start", "found", "turn", "here", "behind"] ["plan", "lie"] (defScope s_heaps_of) := ⟨rfl, rfl, rfl, by decide +kernel, rfl, by decide +kernel, by decide +kernel⟩
theorem sc_heaps : FnScope ["plan", "lie"] ["plan", "lie"] (defScope s_heaps) := ⟨rfl, rfl, rfl, by decide +kernel, rfl, by decide +kernel, by decide +kernel⟩
theorem sc_ring_of : FnScope ["plan", "lie", "corners", "sides", "found", "slot", "heap"] ["plan", "lie"] (defScope s_ring_of) := ⟨rfl, rfl, rfl, by decide +kernel, rfl, by decide +kernel, by decide +kernel⟩
theorem sc_ring : FnScope ["plan", "lie"] ["plan", "lie"] (defScope s_ring) := ⟨rfl, rfl, rfl, by decide +kernel, rfl, by decide +kernel, by decide +kernel⟩
theorem sc_turned_lie : FnScope ["lie", "top", "under", "front"] ["lie"] (defScope s_turned_lie) := ⟨rfl, rfl, rfl, by decide +kernel, rfl, by decide +kernel, by decide +kernel⟩
theorem sc_beneath : FnScope ["plan", "lie"] ["plan", "lie"] (defScope s_beneath) := ⟨rfl, rfl, rfl, by decide +kernel, rfl, by decide +kernel, by decide +kernel⟩
theorem sc__law_bag : FnScope ["_law_script", "_law_cells", "_law_one", "_law_salt"] ["_law_script"] (defScope s__law_bag) := ⟨rfl, rfl, rfl, by decide +kernel, rfl, by decide +kernel, by decide +kernel⟩
theorem sc__law_bent_plan : FnScope ["_law_bag_here", "_law_plan_here", "_law_faces", "_law_cuts", "_law_way", "_law_at", "_law_low", "_law_high", "_law_other", "_law_far"] ["_law_bag_here", "_law_plan_here"] (defScope s__law_bent_plan) := ⟨rfl, rfl, rfl, by decide +kernel, rfl, by decide +kernel, by decide +kernel⟩
theorem sc__law_crossed : FnScope ["_law_one", "_law_other", "_law_low", "_law_high", "_law_here", "_law_there"] ["_law_one", "_law_other"] (defScope s__law_crossed) := ⟨rfl, rfl, rfl, by decide +kernel, rfl, by decide +kernel, by decide +kernel⟩
theorem sc__law_cut_arc : FnScope ["_law_bag_here", "_law_start", "_law_end", "_law_found", "_law_wide", "_law_way", "_law_middle"] ["_law_bag_here", "_law_start", "_law_end", "_law_found"] (defScope s__law_cut_arc) := ⟨rfl, rfl, rfl, by decide +kernel, rfl, by decide +kernel, by decide +kernel⟩
theorem sc__law_drawn_plan : FnScope ["_law_bag_here", "_law_faces", "_law_rows", "_law_low", "_law_high"] ["_law_bag_here", "_law_faces"] (defScope s__law_drawn_plan) := ⟨rfl, rfl, rfl, by decide +kernel, rfl, by decide +kernel, by decide +kernel⟩
theorem sc__law_good_plan : FnScope ["_law_plan_here", "_law_faces", "_law_cuts", "_law_at", "_law_low", "_law_high", "_law_other"] ["_law_plan_here"] (defScope s__law_good_plan) := ⟨rfl, rfl, rfl, by decide +kernel, rfl, by decide +kernel, by decide +kernel⟩
theorem sc__law_odd : FnScope ["_law_bag_here", "_law_many"] ["_law_bag_here", "_law_many"] (defScope s__law_odd) := ⟨rfl, rfl, rfl, by decide +kernel, rfl, by decide +kernel, by decide +kernel⟩
theorem sc__law_pair : FnScope ["_law_one", "_law_other"] ["_law_one", "_law_other"] (defScope s__law_pair) := ⟨rfl, rfl, rfl, by decide +kernel, rfl, by decide +kernel, by decide +kernel⟩
theorem sc__law_plan : FnScope ["_law_bag_here", "_law_most", "_law_faces"] ["_law_bag_here", "_law_most"] (defScope s__law_plan) := ⟨rfl, rfl, rfl, by decide +kernel, rfl, by decide +kernel, by decide +kernel⟩
theorem sc__law_plan_door : FnScope ["_law_which", "_law_plan_here", "_law_asks", "_law_word", "_law_ask"] ["_law_which", "_law_plan_here"] (defScope s__law_plan_door) := ⟨rfl, rfl, rfl, by decide +kernel, rfl, by decide +kernel, by decide +kernel⟩
theorem sc__law_pull : FnScope ["_law_bag_here", "_law_many", "_law_seed", "_law_blend", "_law_drawn"] ["_law_bag_here", "_law_many"] (defScope s__law_pull) := ⟨rfl, rfl, rfl, by decide +kernel, rfl, by decide +kernel, by decide +kernel⟩
theorem sc_law : FnScope ["_law_script", "_law_bag_here", "_law_plan_here", "_law_bend", "_law_which"] ["_law_script"] (defScope s_law) := ⟨rfl, rfl, rfl, by decide +kernel, rfl, by decide +kernel, by decide +kernel⟩
end Tx
namespace Tx
namespace Hd
open PySem PySem.Spec PyProof.Rows L2 TL
def d_crossing : He.DefD := ⟨("crossing", none), "crossing", "crossing", defArgs s_crossing, defBody s_crossing, defScope s_crossing, [], []⟩
def d_is_cut : He.DefD := ⟨("is_cut", none), "is_cut", "is_cut", defArgs s_is_cut, defBody s_is_cut, defScope s_is_cut, [], []⟩
def d_is_plan : He.DefD := ⟨("is_plan", none), "is_plan", "is_plan", defArgs s_is_plan, defBody s_is_plan, defScope s_is_plan, [], []⟩
def d_need_plan : He.DefD := ⟨("need_plan", none), "need_plan", "need_plan", defArgs s_need_plan, defBody s_need_plan, defScope s_need_plan, [], []⟩
def d_follows : He.DefD := ⟨("follows", none), "follows", "follows", defArgs s_follows, defBody s_follows, defScope s_follows, [], []⟩
def d_pair_of : He.DefD := ⟨("pair_of", none), "pair_of", "pair_of", defArgs s_pair_of, defBody s_pair_of, defScope s_pair_of, [], []⟩
def d_all_lines : He.DefD := ⟨("all_lines", none), "all_lines", "all_lines", defArgs s_all_lines, defBody s_all_lines, defScope s_all_lines, [], []⟩
def d_neighbours : He.DefD := ⟨("neighbours", none), "neighbours", "neighbours", defArgs s_neighbours, defBody s_neighbours, defScope s_neighbours, [], []⟩
def d_lines : He.DefD := ⟨("lines", none), "lines", "lines", defArgs s_lines, defBody s_lines, defScope s_lines, [], []⟩
def d_parts : He.DefD := ⟨("parts", none), "parts", "parts", defArgs s_parts, defBody s_parts, defScope s_parts, [], []⟩
def d_fan : He.DefD := ⟨("fan", none), "fan", "fan", defArgs s_fan, defBody s_fan, defScope s_fan, [], []⟩
def d_turned_by : He.DefD := ⟨("turned_by", none), "turned_by", "turned_by", defArgs s_turned_by, defBody s_turned_by, defScope s_turned_by, [], []⟩
def d_turned : He.DefD := ⟨("turned", none), "turned", "turned", defArgs s_turned, defBody s_turned, defScope s_turned, [.int 1], []⟩
def d_mirrored : He.DefD := ⟨("mirrored", none), "mirrored", "mirrored", defArgs s_mirrored, defBody s_mirrored, defScope s_mirrored, [], []⟩
def d_least_of : He.DefD := ⟨("least_of", none), "least_of", "least_of", defArgs s_least_of, defBody s_least_of, defScope s_least_of, [], []⟩
def d_first_form : He.DefD := ⟨("first_form", none), "first_form", "first_form", defArgs s_first_form, defBody s_first_form, defScope s_first_form, [], []⟩
def d_alike : He.DefD := ⟨("alike", none), "alike", "alike", defArgs s_alike, defBody s_alike, defScope s_alike, [], []⟩
def d_ways_row : He.DefD := ⟨("ways_row", none), "ways_row", "ways_row", defArgs s_ways_row, defBody s_ways_row, defScope s_ways_row, [], []⟩
def d_number_by : He.DefD := ⟨("number_by", none), "number_by", "number_by", defArgs s_number_by, defBody s_number_by, defScope s_number_by, [], []⟩
def d_number_of : He.DefD := ⟨("number_of", none), "number_of", "number_of", defArgs s_number_of, defBody s_number_of, defScope s_number_of, [], []⟩
def d_need_place : He.DefD := ⟨("need_place", none), "need_place", "need_place", defArgs s_need_place, defBody s_need_place, defScope s_need_place, [], []⟩
def d_need_way : He.DefD := ⟨("need_way", none), "need_way", "need_way", defArgs s_need_way, defBody s_need_way, defScope s_need_way, [], []⟩
def d_places : He.DefD := ⟨("places", none), "places", "places", defArgs s_places, defBody s_places, defScope s_places, [], []⟩
def d_between : He.DefD := ⟨("between", none), "between", "between", defArgs s_between, defBody s_between, defScope s_between, [], []⟩
def d_third_corner : He.DefD := ⟨("third_corner", none), "third_corner", "third_corner", defArgs s_third_corner, defBody s_third_corner, defScope s_third_corner, [], []⟩
def d_third : He.DefD := ⟨("third", none), "third", "third", defArgs s_third, defBody s_third, defScope s_third, [], []⟩
def d_corner_for : He.DefD := ⟨("corner_for", none), "corner_for", "corner_for", defArgs s_corner_for, defBody s_corner_for, defScope s_corner_for, [], []⟩
def d_pinch : He.DefD := ⟨("pinch", none), "pinch", "pinch", defArgs s_pinch, defBody s_pinch, defScope s_pinch, [], []⟩
def d_unpinch : He.DefD := ⟨("unpinch", none), "unpinch", "unpinch", defArgs s_unpinch, defBody s_unpinch, defScope s_unpinch, [], []⟩
def d_over : He.DefD := ⟨("over", none), "over", "over", defArgs s_over, defBody s_over, defScope s_over, [], []⟩
def d_round_from : He.DefD := ⟨("round_from", none), "round_from", "round_from", defArgs s_round_from, defBody s_round_from, defScope s_round_from, [], []⟩
def d_stacks : He.DefD := ⟨("stacks", none), "stacks", "stacks", defArgs s_stacks, defBody s_stacks, defScope s_stacks, [], []⟩
def d_right_parts : He.DefD := ⟨("right_parts", none), "right_parts", "right_parts", defArgs s_right_parts, defBody s_right_parts, defScope s_right_parts, [], []⟩
def d_upright : He.DefD := ⟨("upright", none), "upright", "upright", defArgs s_upright, defBody s_upright, defScope s_upright, [], []⟩
def d_is_upright : He.DefD := ⟨("is_upright", none), "is_upright", "is_upright", defArgs s_is_upright, defBody s_is_upright, defScope s_is_upright, [], []⟩
def d_steps_from : He.DefD := ⟨("steps_from", none), "steps_from", "steps_from", defArgs s_steps_from, defBody s_steps_from, defScope s_steps_from, [], []⟩
def d_road : He.DefD := ⟨("road", none), "road", "road", defArgs s_road, defBody s_road, defScope s_road, [], []⟩
def d_stepped : He.DefD := ⟨("stepped", none), "stepped", "stepped", defArgs s_stepped, defBody s_stepped, defScope s_stepped, [], []⟩
def d_walked : He.DefD := ⟨("walked", none), "walked", "walked", defArgs s_walked, defBody s_walked, defScope s_walked, [], []⟩
def d_tour_by : He.DefD := ⟨("tour_by", none), "tour_by", "tour_by", defArgs s_tour_by, defBody s_tour_by, defScope s_tour_by, [], []⟩
def d_tour : He.DefD := ⟨("tour", none), "tour", "tour", defArgs s_tour, defBody s_tour, defScope s_tour, [], []⟩
def d_part_corner : He.DefD := ⟨("part_corner", none), "part_corner", "part_corner", defArgs s_part_corner, defBody s_part_corner, defScope s_part_corner, [], []⟩
def d_put_down : He.DefD := ⟨("put_down", none), "put_down", "put_down", defArgs s_put_down, defBody s_put_down, defScope s_put_down, [], []⟩
def d_order_of : He.DefD := ⟨("order_of", none), "order_of", "order_of", defArgs s_order_of, defBody s_order_of, defScope s_order_of, [], []⟩
def d_strip_order : He.DefD := ⟨("strip_order", none), "strip_order", "strip_order", defArgs s_strip_order, defBody s_strip_order, defScope s_strip_order, [], []⟩
def d_row_of : He.DefD := ⟨("row_of", none), "row_of", "row_of", defArgs s_row_of, defBody s_row_of, defScope s_row_of, [], []⟩
def d_need_lie : He.DefD := ⟨("need_lie", none), "need_lie", "need_lie", defArgs s_need_lie, defBody s_need_lie, defScope s_need_lie, [], []⟩
def d_middle_corners : He.DefD := ⟨("middle_corners", none), "middle_corners", "middle_corners", defArgs s_middle_corners, defBody s_middle_corners, defScope s_middle_corners, [], []⟩
def d_middles : He.DefD := ⟨("middles", none), "middles", "middles", defArgs s_middles, defBody s_middles, defScope s_middles, [], []⟩
def d_stretch_start : He.DefD := ⟨("stretch_start", none), "stretch_start", "stretch_start", defArgs s_stretch_start, defBody s_stretch_start, defScope s_stretch_start, [], []⟩
def d_heap_from : He.DefD := ⟨("heap_from", none), "heap_from", "heap_from", defArgs s_heap_from, defBody s_heap_from, defScope s_heap_from, [], []⟩
def d_heaps_of : He.DefD := ⟨("heaps_of", none), "heaps_of", "heaps_of", defArgs s_heaps_of, defBody s_heaps_of, defScope s_heaps_of, [], []⟩
def d_heaps : He.DefD := ⟨("heaps", none), "heaps", "heaps", defArgs s_heaps, defBody s_heaps, defScope s_heaps, [], []⟩
def d_ring_of : He.DefD := ⟨("ring_of", none), "ring_of", "ring_of", defArgs s_ring_of, defBody s_ring_of, defScope s_ring_of, [], []⟩
def d_ring : He.DefD := ⟨("ring", none), "ring", "ring", defArgs s_ring, defBody s_ring, defScope s_ring, [], []⟩
def d_turned_lie : He.DefD := ⟨("turned_lie", none), "turned_lie", "turned_lie", defArgs s_turned_lie, defBody s_turned_lie, defScope s_turned_lie, [], []⟩
def d_beneath : He.DefD := ⟨("beneath", none), "beneath", "beneath", defArgs s_beneath, defBody s_beneath, defScope s_beneath, [], []⟩
def d__law_bag : He.DefD := ⟨("_law_bag", none), "_law_bag", "_law_bag", defArgs s__law_bag, defBody s__law_bag, defScope s__law_bag, [], []⟩
def d__law_bent_plan : He.DefD := ⟨("_law_bent_plan", none), "_law_bent_plan", "_law_bent_plan", defArgs s__law_bent_plan, defBody s__law_bent_plan, defScope s__law_bent_plan, [], []⟩
def d__law_crossed : He.DefD := ⟨("_law_crossed", none), "_law_crossed", "_law_crossed", defArgs s__law_crossed, defBody s__law_crossed, defScope s__law_crossed, [], []⟩
def d__law_cut_arc : He.DefD := ⟨("_law_cut_arc", none), "_law_cut_arc", "_law_cut_arc", defArgs s__law_cut_arc, defBody s__law_cut_arc, defScope s__law_cut_arc, [], []⟩
def d__law_drawn_plan : He.DefD := ⟨("_law_drawn_plan", none), "_law_drawn_plan", "_law_drawn_plan", defArgs s__law_drawn_plan, defBody s__law_drawn_plan, defScope s__law_drawn_plan, [], []⟩
def d__law_good_plan : He.DefD := ⟨("_law_good_plan", none), "_law_good_plan", "_law_good_plan", defArgs s__law_good_plan, defBody s__law_good_plan, defScope s__law_good_plan, [], []⟩
def d__law_odd : He.DefD := ⟨("_law_odd", none), "_law_odd", "_law_odd", defArgs s__law_odd, defBody s__law_odd, defScope s__law_odd, [], []⟩
def d__law_pair : He.DefD := ⟨("_law_pair", none), "_law_pair", "_law_pair", defArgs s__law_pair, defBody s__law_pair, defScope s__law_pair, [], []⟩
def d__law_plan : He.DefD := ⟨("_law_plan", none), "_law_plan", "_law_plan", defArgs s__law_plan, defBody s__law_plan, defScope s__law_plan, [], []⟩
def d__law_plan_door : He.DefD := ⟨("_law_plan_door", none), "_law_plan_door", "_law_plan_door", defArgs s__law_plan_door, defBody s__law_plan_door, defScope s__law_plan_door, [], []⟩
def d__law_pull : He.DefD := ⟨("_law_pull", none), "_law_pull", "_law_pull", defArgs s__law_pull, defBody s__law_pull, defScope s__law_pull, [], []⟩
def d_law : He.DefD := ⟨("law", none), "law", "law", defArgs s_law, defBody s_law, defScope s_law, [], []⟩
def fn : List He.DefD := [d_crossing, d_is_cut, d_is_plan, d_need_plan, d_follows, d_pair_of, d_all_lines, d_neighbours, d_lines, d_parts, d_fan, d_turned_by, d_turned, d_mirrored, d_least_of, d_first_form, d_alike, d_ways_row, d_number_by, d_number_of, d_need_place, d_need_way, d_places, d_between, d_third_corner, d_third, d_corner_for, d_pinch, d_unpinch, d_over, d_round_from, d_stacks, d_right_parts, d_upright, d_is_upright, d_steps_from, d_road, d_stepped, d_walked, d_tour_by, d_tour, d_part_corner, d_put_down, d_order_of, d_strip_order, d_row_of, d_need_lie, d_middle_corners, d_middles, d_stretch_start, d_heap_from, d_heaps_of, d_heaps, d_ring_of, d_ring, d_turned_lie, d_beneath, d__law_bag, d__law_bent_plan, d__law_crossed, d__law_cut_arc, d__law_drawn_plan, d__law_good_plan, d__law_odd, d__law_pair, d__law_plan, d__law_plan_door, d__law_pull, d_law]
def fa : List He.Fa := [.glo "crossing",
  .glo "is_cut",
  .glo "is_plan",
  .glo "need_plan",
  .glo "follows",
  .glo "pair_of",
  .glo "all_lines",
  .glo "neighbours",
  .glo "lines",
  .glo "parts",
  .glo "fan",
  .glo "turned_by",
  .glo "turned",
  .glo "mirrored",
  .glo "least_of",
  .glo "first_form",
  .glo "alike",
  .glo "ways_row",
  .glo "number_by",
  .glo "number_of",
  .glo "need_place",
  .glo "need_way",
  .glo "places",
  .glo "between",
  .glo "third_corner",
  .glo "third",
  .glo "corner_for",
  .glo "pinch",
  .glo "unpinch",
  .glo "over",
  .glo "round_from",
  .glo "stacks",
  .glo "right_parts",
  .glo "upright",
  .glo "is_upright",
  .glo "steps_from",
  .glo "road",
  .glo "stepped",
  .glo "walked",
  .glo "tour_by",
  .glo "tour",
  .glo "part_corner",
  .glo "put_down",
  .glo "order_of",
  .glo "strip_order",
  .glo "row_of",
  .glo "need_lie",
  .glo "middle_corners",
  .glo "middles",
  .glo "stretch_start",
  .glo "heap_from",
  .glo "heaps_of",
  .glo "heaps",
  .glo "ring_of",
  .glo "ring",
  .glo "turned_lie",
  .glo "beneath",
  .glo "_law_bag",
  .glo "_law_bent_plan",
  .glo "_law_crossed",
  .glo "_law_cut_arc",
  .glo "_law_drawn_plan",
  .glo "_law_good_plan",
  .glo "_law_odd",
  .glo "_law_pair",
  .glo "_law_plan",
  .glo "_law_plan_door",
  .glo "_law_pull",
  .glo "law",
  .glo "PinchError",
  .glo "BadPlan",
  .glo "BadFace",
  .glo "BadPlace",
  .glo "BadWay",
  .glo "NoPinch",
  .glo "BadLie",
  .glo "BadStep",
  .free "abs",
  .free "all",
  .free "any",
  .free "enumerate",
  .free "int",
  .free "len",
  .free "list",
  .free "max",
  .free "min",
  .free "range",
  .free "sorted",
  .free "sum",
  .free "tuple",
  .int "LEAST" 3,
  .int "MOST" 40,
  .glo "WAYS",
  .int "THIRDS" 3,
  .exc "PinchError",
  .exc "BadPlan",
  .exc "BadFace",
  .exc "BadPlace",
  .exc "BadWay",
  .exc "NoPinch",
  .exc "BadLie",
  .exc "BadStep",
  .exm "BadPlan" "BadPlan" true,
  .exm "BadPlan" "PinchError" true,
  .exm "BadFace" "BadPlan" false,
  .exm "BadFace" "PinchError" true,
  .exm "BadPlace" "BadPlan" false,
  .exm "BadPlace" "PinchError" true,
  .exm "BadWay" "BadPlan" false,
  .exm "BadWay" "PinchError" true,
  .exm "NoPinch" "BadPlan" false,
  .exm "NoPinch" "PinchError" true,
  .exm "BadLie" "BadPlan" false,
  .exm "BadLie" "PinchError" true,
  .exm "BadStep" "BadPlan" false,
  .exm "BadStep" "PinchError" true]
def xf : List XF := [fun K => He.tupB K "WAYS" [.str "even", .str "odd"]]
abbrev R : PySem.W.OpenRow := PySem.W.OpenLaw.row PySem.Challenge.rw_pinchfold_k06_plans_refused_at_every_doo
def tf : List LamD := [(("_law_plan_door", none), "_law_plan_door.<locals>.<lambda>")]
abbrev hk : PySem.W.Hook := hookL 4 xf fa fn tf
def ob (s : PySem.W.SharedT) : AlL := obsLG 4 xf fa fn tf (HandSHeadRun.getT s)
theorem ob_eq (s : PySem.W.SharedT) : ob s = hk.obs s.abs := obsLG_eq (HandSHeadRun.getT_eq s)
def loose : List PySem.Str := (["PinchError", "BadPlan", "BadFace", "BadPlace", "BadWay", "NoPinch", "BadLie", "BadStep", "LEAST", "MOST", "crossing", "is_cut", "is_plan", "need_plan", "follows", "pair_of", "all_lines", "neighbours", "lines", "parts", "fan", "turned_by", "turned", "mirrored", "least_of", "first_form", "alike", "ways_row", "number_by", "number_of"] : List PySem.Str) ++ (["WAYS", "need_place", "need_way", "places", "between", "third_corner", "third", "corner_for", "pinch", "unpinch", "over", "round_from", "stacks", "right_parts", "upright", "is_upright", "steps_from", "road", "stepped", "walked", "tour_by", "tour", "part_corner", "put_down", "order_of", "strip_order", "row_of", "THIRDS", "need_lie", "middle_corners"] : List PySem.Str) ++ (["middles", "stretch_start", "heap_from", "heaps_of", "heaps", "ring_of", "ring", "turned_lie", "beneath", "_law_bag", "_law_bent_plan", "_law_crossed", "_law_cut_arc", "_law_drawn_plan", "_law_good_plan", "_law_odd", "_law_pair", "_law_plan", "_law_plan_door", "_law_pull"] : List PySem.Str)
theorem run (w : World) : HandSHeadRun.RunEq R (PySem.W.view R.prog [88]) hk ob 6000 loose w := by
  intro os
  kernel_rfl
end Hd
end Tx
namespace Tx
open PySem PySem.Spec PyProof.Rows L2 TL
def catl : List Int := [0, 1, 1, 2, 5, 14, 42, 132, 429, 1430, 4862, 16796, 58786, 208012, 742900, 2674440, 9694845, 35357670, 129644790, 477638700, 1767263190, 6564120420, 24466267020, 91482563640, 343059613650, 1289904147324, 4861946401452, 18367353072152, 69533550916004, 263747951750360, 1002242216651368, 3814986502092304, 14544636039226909, 55534064877048198, 212336130412243110, 812944042149730764, 3116285494907301262, 11959798385860453492, 45950804324621742364, 176733862787006701400, 680425371729975800390, 2622127042276492108820]
def cc (i : Nat) : Int := catl.getD i 0
def lePP (p q : Int × Int) : Bool := decide (p.1 < q.1 ∨ (p.1 = q.1 ∧ p.2 ≤ q.2))
def ltPP (p q : Int × Int) : Bool := decide (p.1 < q.1 ∨ (p.1 = q.1 ∧ p.2 < q.2))
def sortPP (ps : List (Int × Int)) : List (Int × Int) := ps.mergeSort lePP
theorem srt_pp (ps : List (Int × Int)) : srt (ps.map ppD) = (sortPP ps).map ppD := by
  unfold srt sortPP
  have e := PySem.W.dataLe_ii (β := Int × Int) (fun p => p.1) (fun p => p.2)
  refine (List.map_mergeSort (r := lePP) (s := PySem.W.dataLe false id) fun a _ b _ => ?_).symm
  have e2 := congrFun (congrFun e a) b
  exact e2.symm
def planD (n : Int) (cs : List PyData) : PyData := .tuple [.int n, .tuple cs]
abbrev plD (n : Int) (cs : List (Int × Int)) : PyData := planD n (cs.map ppD)
def nrm (n : Int) (p : Int × Int) : Int × Int := (if p.2 % n < p.1 then p.2 % n else p.1, if p.2 % n > p.1 then p.2 % n else p.1)
def inF (p : Int × Int) (c : Int) : Bool := !decide (c = p.1) && !decide (c = p.2)
def inG (p : Int × Int) (c : Int) : Bool := decide (p.1 < c) && decide (c < p.2)
def two : List Bool → Bool
  | [a, b] => !decide (a = b)
  | _ => false
def crossB (p q : Int × Int) : Bool := two (([q.1, q.2].filter (inF p)).map (inG p))
def cutB (n : Int) (p : Int × Int) : Bool := decide (0 ≤ p.1) && (decide (p.1 + 1 < p.2) && decide (p.2 < n)) && !decide (p.1 = 0 ∧ p.2 = n - 1)
theorem eqv_ii (a b c d : Int) : PyData.eqv (.tuple [.int a, .int b]) (.tuple [.int c, .int d]) = decide (a = c ∧ b = d) := by
  simp only [PyData.eqv, PyData.eqvAll, Bool.and_true]
  by_cases h1 : a = c
  · by_cases h2 : b = d
    · simp [h1, h2]
    · simp [h1, h2]
  · simp [h1]
def adjB (cs : List (Int × Int)) : Bool := (List.range (cs.length - 1)).all fun i => ltPP (cs.getD i (0, 0)) (cs.getD (i + 1) (0, 0))
def nocB (cs : List (Int × Int)) : Bool := (List.range cs.length).all fun i => !((cs.take i).any fun d => crossB (cs.getD i (0, 0)) d)
def planB (n : Int) (cs : List (Int × Int)) : Bool := decide (3 ≤ n) && decide (n ≤ 40) && decide ((cs.length : Int) = n - 3) && cs.all (cutB n) && adjB cs && nocB cs
theorem ltPP_lex (p q : Int × Int) : HT.lexLt [p.1, p.2] [q.1, q.2] = ltPP p q := by
  unfold ltPP
  rw [HT.lexLt_cons, HT.lexLt_cons, HT.lexLt_nil_nil]
  by_cases h : p.1 = q.1
  · rw [if_pos h]
    by_cases h2 : p.2 = q.2
    · rw [if_pos h2]; symm; apply decide_eq_false; omega
    · rw [if_neg h2]; apply decide_eq_decide.mpr; omega
  · rw [if_neg h]; apply decide_eq_decide.mpr; omega
structure IsPlan (n : Int) (cs : List (Int × Int)) : Prop where
  lo : 3 ≤ n
  hi : n ≤ 40
  len : (cs.length : Int) = n - 3
  cut : ∀ c ∈ cs, 0 ≤ c.1 ∧ c.1 + 1 < c.2 ∧ c.2 < n ∧ ¬ (c.1 = 0 ∧ c.2 = n - 1)
  srt : cs.Pairwise fun p q => ltPP p q = true
  noc : ∀ c ∈ cs, ∀ d ∈ cs, crossB c d = false
theorem inF_t {p : Int × Int} {c : Int} (h1 : c ≠ p.1) (h2 : c ≠ p.2) : inF p c = true := by unfold inF; simp [h1, h2]
theorem inF_1 {p : Int × Int} {c : Int} (h1 : c = p.1) : inF p c = false := by unfold inF; simp [h1]
theorem inF_2 {p : Int × Int} {c : Int} (h1 : c = p.2) : inF p c = false := by unfold inF; simp [h1]
theorem cross_eq (p q : Int × Int) : crossB p q = decide (q.1 ≠ p.1 ∧ q.1 ≠ p.2 ∧ q.2 ≠ p.1 ∧ q.2 ≠ p.2 ∧ ¬ ((p.1 < q.1 ∧ q.1 < p.2) ↔ (p.1 < q.2 ∧ q.2 < p.2))) := by
  unfold crossB
  have k1 : ∀ x y : Bool, inF p q.1 = x → inF p q.2 = y → two (([q.1, q.2].filter (inF p)).map (inG p)) = (x && y && !decide (inG p q.1 = inG p q.2)) := fun x y h1 h2 => by
    cases x <;> cases y <;> simp [List.filter, h1, h2, two]
  have g : ∀ c, inG p c = decide (p.1 < c ∧ c < p.2) := fun c => by unfold inG; simp
  have key : (!decide (inG p q.1 = inG p q.2)) = decide (¬ ((p.1 < q.1 ∧ q.1 < p.2) ↔ (p.1 < q.2 ∧ q.2 < p.2))) := by
    rw [g, g]
    by_cases a : p.1 < q.1 ∧ q.1 < p.2 <;> by_cases b : p.1 < q.2 ∧ q.2 < p.2 <;> simp [a, b]
  by_cases h1 : q.1 = p.1
  · rw [k1 _ _ (inF_1 h1) rfl]; simp [h1]
  · by_cases h2 : q.1 = p.2
    · rw [k1 _ _ (inF_2 h2) rfl]; simp [h2]
    · by_cases h3 : q.2 = p.1
      · rw [k1 _ _ rfl (inF_1 h3)]; simp [h3]
      · by_cases h4 : q.2 = p.2
        · rw [k1 _ _ rfl (inF_2 h4)]; simp [h4]
        · rw [k1 _ _ (inF_t h1 h2) (inF_t h3 h4), key]
          apply decide_eq_decide.mpr
          constructor
          · exact fun h => ⟨h1, h2, h3, h4, h⟩
          · exact fun h => h.2.2.2.2
theorem cutB_iff (n : Int) (c : Int × Int) : cutB n c = true ↔ (0 ≤ c.1 ∧ c.1 + 1 < c.2 ∧ c.2 < n ∧ ¬ (c.1 = 0 ∧ c.2 = n - 1)) := by
  unfold cutB
  simp only [Bool.and_eq_true, decide_eq_true_eq, Bool.not_eq_true', decide_eq_false_iff_not]
  constructor
  · rintro ⟨⟨h1, h2, h3⟩, h4⟩; exact ⟨h1, h2, h3, h4⟩
  · rintro ⟨h1, h2, h3, h4⟩; exact ⟨⟨h1, h2, h3⟩, h4⟩
theorem ltPP_trans {p q r : Int × Int} (h1 : ltPP p q = true) (h2 : ltPP q r = true) : ltPP p r = true := by
  unfold ltPP at *
  have h1 := of_decide_eq_true h1
  have h2 := of_decide_eq_true h2
  apply decide_eq_true
  omega
theorem getD_at {cs : List (Int × Int)} {i : Nat} (h : i < cs.length) : cs.getD i (0, 0) = cs[i] := by rw [List.getD_eq_getElem?_getD, List.getElem?_eq_getElem h]; rfl
theorem planB_of {n : Int} {cs : List (Int × Int)} (h : IsPlan n cs) : planB n cs = true := by
  unfold planB
  rw [decide_eq_true h.lo, decide_eq_true h.hi, decide_eq_true h.len]
  have h4 : cs.all (cutB n) = true := List.all_eq_true.mpr fun c hc => (cutB_iff n c).mpr (h.cut c hc)
  have h5 : adjB cs = true := by
    unfold adjB
    refine List.all_eq_true.mpr fun i hi => ?_
    have hi := List.mem_range.mp hi
    rw [getD_at (by omega), getD_at (by omega)]
    exact List.pairwise_iff_getElem.mp h.srt i (i + 1) (by omega) (by omega) (by omega)
  have h6 : nocB cs = true := by
    unfold nocB
    refine List.all_eq_true.mpr fun i hi => ?_
    have hi := List.mem_range.mp hi
    rw [getD_at hi]
    have : (cs.take i).any (fun d => crossB cs[i] d) = false := List.any_eq_false.mpr fun d hd => by
      rw [h.noc _ (List.getElem_mem hi) d (List.mem_of_mem_take hd)]
      decide
    rw [this]
    rfl
  rw [h4, h5, h6]
  rfl
theorem cross_comm (p q : Int × Int) (hp : p.1 < p.2) (hq : q.1 < q.2) : crossB p q = crossB q p := by
  rw [cross_eq, cross_eq]
  apply decide_eq_decide.mpr
  omega
theorem cross_self (p : Int × Int) : crossB p p = false := by
  rw [cross_eq]
  apply decide_eq_false
  exact fun h => h.1 rfl
theorem planB_ok {n : Int} {cs : List (Int × Int)} (h : planB n cs = true) : IsPlan n cs := by
  unfold planB at h
  simp only [Bool.and_eq_true, decide_eq_true_eq] at h
  obtain ⟨⟨⟨⟨⟨h1, h2⟩, h3⟩, h4⟩, h5⟩, h6⟩ := h
  have hcut : ∀ c ∈ cs, 0 ≤ c.1 ∧ c.1 + 1 < c.2 ∧ c.2 < n ∧ ¬ (c.1 = 0 ∧ c.2 = n - 1) := fun c hc => (cutB_iff n c).mp (List.all_eq_true.mp h4 c hc)
  have adj : ∀ i, i + 1 < cs.length → ltPP (cs.getD i (0, 0)) (cs.getD (i + 1) (0, 0)) = true := fun i hi => List.all_eq_true.mp h5 i (List.mem_range.mpr (by omega))
  have far : ∀ d i, i + d + 1 < cs.length → ltPP (cs.getD i (0, 0)) (cs.getD (i + d + 1) (0, 0)) = true := fun d => by
    induction d with
    | zero => exact fun i hi => adj i hi
    | succ d ih => exact fun i hi => ltPP_trans (ih i (by omega)) (adj (i + d + 1) (by omega))
  have noc : ∀ i j, (hi : i < cs.length) → (hj : j < cs.length) → j < i → crossB cs[i] cs[j] = false := fun i j hi hj hji => by
    have q := List.all_eq_true.mp h6 i (List.mem_range.mpr hi)
    rw [getD_at hi] at q
    have q2 : (cs.take i).any (fun d => crossB cs[i] d) = false := by simpa using q
    have q3 := List.any_eq_false.mp q2 cs[j] (List.mem_take_iff_getElem.mpr ⟨j, by omega, rfl⟩)
    simpa using q3
  refine ⟨h1, h2, h3, hcut, List.pairwise_iff_getElem.mpr fun i j hi hj hij => ?_, fun c hc d hd => ?_⟩
  · have q := far (j - i - 1) i (by omega)
    rw [show i + (j - i - 1) + 1 = j by omega, getD_at hi, getD_at hj] at q
    exact q
  · obtain ⟨i, hi, rfl⟩ := List.getElem_of_mem hc
    obtain ⟨j, hj, rfl⟩ := List.getElem_of_mem hd
    have c1 := hcut _ (List.getElem_mem hi)
    have c2 := hcut _ (List.getElem_mem hj)
    rcases Nat.lt_trichotomy j i with z | z | z
    · exact noc i j hi hj z
    · subst z; exact cross_self _
    · rw [cross_comm _ _ (by omega) (by omega)]
      exact noc j i hj hi z
theorem lePP_total (p q : Int × Int) : (lePP p q || lePP q p) = true := by
  unfold lePP
  by_cases h : p.1 < q.1 ∨ (p.1 = q.1 ∧ p.2 ≤ q.2)
  · rw [decide_eq_true h]; rfl
  · rw [decide_eq_true (show q.1 < p.1 ∨ (q.1 = p.1 ∧ q.2 ≤ p.2) by omega), Bool.or_true]
theorem lePP_trans (p q r : Int × Int) (h1 : lePP p q = true) (h2 : lePP q r = true) : lePP p r = true := by
  unfold lePP at *
  have h1 := of_decide_eq_true h1
  have h2 := of_decide_eq_true h2
  apply decide_eq_true
  omega
theorem sortPP_perm (ps : List (Int × Int)) : (sortPP ps).Perm ps := List.mergeSort_perm ps lePP
theorem sortPP_lt {ps : List (Int × Int)} (nd : ps.Nodup) : (sortPP ps).Pairwise fun p q => ltPP p q = true := by
  have h1 : (sortPP ps).Pairwise fun p q => lePP p q = true := List.pairwise_mergeSort lePP_trans lePP_total ps
  have h2 : (sortPP ps).Nodup := (sortPP_perm ps).nodup_iff.mpr nd
  refine (h1.and h2).imp fun {p q} h => ?_
  have h3 := of_decide_eq_true h.1
  have h4 : p ≠ q := h.2
  apply decide_eq_true
  have : ¬ (p.1 = q.1 ∧ p.2 = q.2) := fun z => h4 (Prod.ext z.1 z.2)
  omega
inductive Arcs : Int → Int → List (Int × Int) → Prop
  | leaf {s e : Int} : e - s ≤ 1 → Arcs s e []
  | node {s m e : Int} {a b : List (Int × Int)} : s < m → m < e → Arcs s m a → Arcs m e b → Arcs s e ((s, m) :: (m, e) :: (a ++ b))
theorem Arcs.len {s e : Int} {l : List (Int × Int)} (h : Arcs s e l) (hs : s < e) : (l.length : Int) ≤ 2 * (e - s) - 2 := by
  induction h with
  | leaf h => simp; omega
  | node h1 h2 _ _ ia ib =>
    have := ia h1
    have := ib h2
    simp only [List.length_cons, List.length_append]
    omega
def wide (p : Int × Int) : Bool := decide (p.2 - p.1 > 1)
def lam (p q : Int × Int) : Prop := p.2 ≤ q.1 ∨ q.2 ≤ p.1 ∨ (p.1 ≤ q.1 ∧ q.2 ≤ p.2) ∨ (q.1 ≤ p.1 ∧ p.2 ≤ q.2)
theorem Arcs.within {s e : Int} {l : List (Int × Int)} (h : Arcs s e l) (hs : s < e) : ∀ p ∈ l, s ≤ p.1 ∧ p.1 < p.2 ∧ p.2 ≤ e ∧ ¬ (p.1 = s ∧ p.2 = e) := by
  induction h with
  | leaf h => intro p hp; cases hp
  | node h1 h2 _ _ ia ib =>
    intro p hp
    rcases List.mem_cons.mp hp with rfl | hp
    · exact ⟨Int.le_refl _, h1, by omega, by omega⟩
    · rcases List.mem_cons.mp hp with rfl | hp
      · exact ⟨by omega, h2, Int.le_refl _, by omega⟩
      · rcases List.mem_append.mp hp with hp | hp
        · have := ia h1 p hp; omega
        · have := ib h2 p hp; omega
theorem Arcs.lams {s e : Int} {l : List (Int × Int)} (h : Arcs s e l) (hs : s < e) : ∀ p ∈ l, ∀ q ∈ l, lam p q := by
  induction h with
  | leaf h => intro p hp; cases hp
  | @node s m e a b h1 h2 ha hb ia ib =>
    have wa := ha.within h1
    have wb := hb.within h2
    have cases4 : ∀ p ∈ (s, m) :: (m, e) :: (a ++ b), p = (s, m) ∨ p = (m, e) ∨ p ∈ a ∨ p ∈ b := fun p hp => by
      rcases List.mem_cons.mp hp with h | hp
      · exact .inl h
      · rcases List.mem_cons.mp hp with h | hp
        · exact .inr (.inl h)
        · rcases List.mem_append.mp hp with h | h
          · exact .inr (.inr (.inl h))
          · exact .inr (.inr (.inr h))
    intro p hp q hq
    rcases cases4 p hp with rfl | rfl | hp | hp <;> rcases cases4 q hq with rfl | rfl | hq | hq
    all_goals first
      | exact ia h1 p hp q hq
      | exact ib h2 p hp q hq
      | (unfold lam; (try have x1 := wa p hp); (try have x2 := wb p hp); (try have x3 := wa q hq); (try have x4 := wb q hq); (try simp only at *); omega)
theorem Arcs.nodup {s e : Int} {l : List (Int × Int)} (h : Arcs s e l) (hs : s < e) : l.Nodup := by
  induction h with
  | leaf h => exact List.nodup_nil
  | @node s m e a b h1 h2 ha hb ia ib =>
    have wa := ha.within h1
    have wb := hb.within h2
    refine List.nodup_cons.mpr ⟨fun hm => ?_, List.nodup_cons.mpr ⟨fun hm => ?_, List.nodup_append.mpr ⟨ia h1, ib h2, fun x hx y hy z => ?_⟩⟩⟩
    · rcases List.mem_cons.mp hm with h | hm
      · have := congrArg Prod.fst h; simp only at this; omega
      · rcases List.mem_append.mp hm with h | h
        · exact (wa _ h).2.2.2 ⟨rfl, rfl⟩
        · exact absurd (show m ≤ s from (wb _ h).1) (by omega)
    · rcases List.mem_append.mp hm with h | h
      · exact absurd (show e ≤ m from (wa _ h).2.2.1) (by omega)
      · exact (wb _ h).2.2.2 ⟨rfl, rfl⟩
    · subst z
      have := wa _ hx
      have := wb _ hy
      omega
theorem Arcs.wides {s e : Int} {l : List (Int × Int)} (h : Arcs s e l) (hs : s < e) : ((l.filter wide).length : Int) = if e - s ≤ 1 then 0 else e - s - 2 := by
  induction h with
  | leaf h => rw [if_pos h]; rfl
  | @node s m e a b h1 h2 ha hb ia ib =>
    have x := ia h1
    have y := ib h2
    rw [if_neg (by omega)]
    have w1 : wide (s, m) = decide (m - s > 1) := rfl
    have w2 : wide (m, e) = decide (e - m > 1) := rfl
    by_cases c1 : m - s ≤ 1 <;> by_cases c2 : e - m ≤ 1
    all_goals
      (first | rw [if_pos c1] at x | rw [if_neg c1] at x)
      (first | rw [if_pos c2] at y | rw [if_neg c2] at y)
      have d1 : decide (m - s > 1) = !decide (m - s ≤ 1) := by by_cases h : m - s ≤ 1 <;> simp [h] <;> omega
      have d2 : decide (e - m > 1) = !decide (e - m ≤ 1) := by by_cases h : e - m ≤ 1 <;> simp [h] <;> omega
      simp only [List.filter_cons, List.filter_append, w1, w2, d1, d2, c1, c2, decide_true, decide_false, Bool.not_true, Bool.not_false, if_true, if_false, List.length_cons, List.length_append, Bool.false_eq_true]
      omega
/-- what a drawn row of arcs gives is a good plan -/
theorem arcs_plan {n : Int} {l : List (Int × Int)} (h3 : 3 ≤ n) (h40 : n ≤ 40) (h : Arcs 1 n l) : IsPlan n (sortPP ((l.filter wide).map (nrm n))) := by
  have hn : (1 : Int) < n := by omega
  have hw := h.within hn
  have hlm := h.lams hn
  have hlen := h.wides hn
  rw [if_neg (by omega)] at hlen
  have val : ∀ p ∈ l.filter wide, (p.2 < n ∧ nrm n p = p) ∨ (p.2 = n ∧ nrm n p = (0, p.1)) := fun p hp => by
    have hp1 := (List.mem_filter.mp hp).1
    have w := hw p hp1
    by_cases e : p.2 = n
    · right
      refine ⟨e, ?_⟩
      unfold nrm
      rw [e, Int.emod_self, if_pos (by omega), if_neg (by omega)]
    · left
      refine ⟨by omega, ?_⟩
      unfold nrm
      rw [Int.emod_eq_of_lt (by omega) (by omega), if_neg (by omega), if_pos (by omega)]
  have facts : ∀ p ∈ l.filter wide, 1 ≤ p.1 ∧ p.1 + 1 < p.2 ∧ p.2 ≤ n ∧ ¬ (p.1 = 1 ∧ p.2 = n) := fun p hp => by
    obtain ⟨hp1, hp2⟩ := List.mem_filter.mp hp
    have w := hw p hp1
    have w2 : p.2 - p.1 > 1 := of_decide_eq_true hp2
    omega
  have nd : ((l.filter wide).map (nrm n)).Nodup := by
    have nd0 : (l.filter wide).Nodup := (h.nodup hn).filter _
    refine List.pairwise_map.mpr (nd0.imp_of_mem fun {p q} hp hq hne z => hne ?_)
    have f1 := facts p hp
    have f2 := facts q hq
    rcases val p hp with ⟨a1, a2⟩ | ⟨a1, a2⟩ <;> rcases val q hq with ⟨b1, b2⟩ | ⟨b1, b2⟩
    · rw [a2, b2] at z; exact z
    · rw [a2, b2] at z
      have := congrArg Prod.fst z; simp only at this; omega
    · rw [a2, b2] at z
      have := congrArg Prod.fst z; simp only at this; omega
    · rw [a2, b2] at z
      have := congrArg Prod.snd z; simp only at this
      exact Prod.ext this (by omega)
  have mem : ∀ c ∈ sortPP ((l.filter wide).map (nrm n)), ∃ p ∈ l.filter wide, nrm n p = c := fun c hc => List.mem_map.mp ((sortPP_perm _).mem_iff.mp hc)
  refine ⟨h3, h40, ?_, fun c hc => ?_, sortPP_lt nd, fun c hc d hd => ?_⟩
  · rw [(sortPP_perm _).length_eq, List.length_map]; omega
  · obtain ⟨p, hp, rfl⟩ := mem c hc
    have f1 := facts p hp
    rcases val p hp with ⟨a1, a2⟩ | ⟨a1, a2⟩
    · rw [a2]; omega
    · rw [a2]; simp only; omega
  · obtain ⟨p, hp, rfl⟩ := mem c hc
    obtain ⟨q, hq, rfl⟩ := mem d hd
    have f1 := facts p hp
    have f2 := facts q hq
    have L := hlm p (List.mem_filter.mp hp).1 q (List.mem_filter.mp hq).1
    unfold lam at L
    rw [cross_eq]
    apply decide_eq_false
    rcases val p hp with ⟨a1, a2⟩ | ⟨a1, a2⟩ <;> rcases val q hq with ⟨b1, b2⟩ | ⟨b1, b2⟩ <;> rw [a2, b2] <;> (try simp only) <;> omega
def o__law_pair : CT := fun args Φ Ψ => ∃ i j : Int, args = [.d (.int i), .d (.int j)] ∧ Φ (.rd (ppD (if j < i then j else i, if j > i then j else i))) args
def absI (c : Int) : Int := if c < 0 then -c else c
theorem absI_nn (c : Int) : 0 ≤ absI c := by unfold absI; split <;> omega
def o__law_bag : CT := fun args Φ Ψ => ∃ ns : List Int, args = [.d (.list (ns.map .int))] ∧ ns.length ≤ 63 ∧ ∀ ds, BagD ds → Φ (.nl ds) args
def o__law_pull : CT := fun args Φ Ψ => ∃ (b : Addr) (many : Int), args = [.bg b, .d (.int many)] ∧ 0 < many ∧ many.natAbs < 2 ^ 8000 ∧ ∀ r : Int, 0 ≤ r → r < many → Φ (.rd (.int r)) args
def o__law_cut_arc (N : Nat) : CT := fun args Φ Ψ => ∃ (b : Addr) (st en : Int) (f : Addr) (ds : List PyData), args = [.bg b, .d (.int st), .d (.int en), .ol f ds] ∧ st < en ∧ en - st ≤ N ∧ (ds.length : Int) + 2 * (en - st) ≤ 10000 ∧ ∀ l, Arcs st en l → Φ (.ar 3) [.bg b, .d (.int st), .d (.int en), .ol f (ds ++ l.map ppD)]
/-- the plan of the lines within the arc 1 .. n -/
def planOf (n : Int) (l : List (Int × Int)) : List (Int × Int) := sortPP ((l.filter wide).map (nrm n))
def o__law_drawn_plan : CT := fun args Φ Ψ => ∃ (b : Addr) (n : Int), args = [.bg b, .d (.int n)] ∧ 3 ≤ n ∧ n ≤ 40 ∧ ∀ l, Arcs 1 n l → Φ (.rd (plD n (planOf n l))) args
def sides (n : Int) : List (Int × Int) := ((List.range (n.toNat - 1)).map fun (i : Nat) => ((i : Int), (i : Int) + 1)) ++ [(0, n - 1)]
def linesOf (n : Int) (cs : List (Int × Int)) : List (Int × Int) := sortPP (sides n ++ cs)
structure LinesOk (n : Int) (L : List (Int × Int)) : Prop where
  nd : L.Nodup
  lt : ∀ p ∈ L, 0 ≤ p.1 ∧ p.1 < p.2 ∧ p.2 < n
theorem sides_mem {n : Int} (h : 2 ≤ n) {p : Int × Int} (hp : p ∈ sides n) : (0 ≤ p.1 ∧ p.2 = p.1 + 1 ∧ p.2 < n) ∨ (p.1 = 0 ∧ p.2 = n - 1) := by
  unfold sides at hp
  rcases List.mem_append.mp hp with hp | hp
  · obtain ⟨i, hi, rfl⟩ := List.mem_map.mp hp
    have hi := List.mem_range.mp hi
    exact .inl ⟨Int.natCast_nonneg i, rfl, show (i : Int) + 1 < n by omega⟩
  · have e : p = (0, n - 1) := by simpa using hp
    subst e
    right
    exact ⟨rfl, rfl⟩
theorem sides_nodup {n : Int} (h : 3 ≤ n) : (sides n).Nodup := by
  unfold sides
  refine List.nodup_append.mpr ⟨?_, by simp, fun a ha b hb z => ?_⟩
  · exact List.pairwise_map.mpr (List.nodup_range.imp fun hne z => hne (by have := congrArg Prod.fst z; simp only at this; omega))
  · obtain ⟨i, hi, rfl⟩ := List.mem_map.mp ha
    have hi := List.mem_range.mp hi
    have e : b = (0, n - 1) := by simpa using hb
    rw [e] at z
    have z1 := congrArg Prod.fst z
    have z2 := congrArg Prod.snd z
    simp only at z1 z2
    omega
theorem lines_nodup {n : Int} {cs : List (Int × Int)} (h : IsPlan n cs) : (sides n ++ cs).Nodup := by
  refine List.nodup_append.mpr ⟨sides_nodup h.lo, ?_, fun a ha b hb z => ?_⟩
  · exact h.srt.imp fun {p q} hl z => by
      subst z
      have := of_decide_eq_true hl
      omega
  · subst z
    have c := h.cut a hb
    have := h.lo
    rcases sides_mem (by omega) ha with s | s <;> omega
theorem lines_ok {n : Int} {cs : List (Int × Int)} (h : IsPlan n cs) : LinesOk n (linesOf n cs) where
  nd := (sortPP_perm _).nodup_iff.mpr (lines_nodup h)
  lt := fun p hp => by
    have hp := (sortPP_perm _).mem_iff.mp hp
    have := h.lo
    rcases List.mem_append.mp hp with s | s
    · rcases sides_mem (by omega) s with s | s <;> omega
    · have := h.cut p s
      omega
def swp (p : Int × Int) : Int × Int := (p.2, p.1)
def both (L : List (Int × Int)) : List (Int × Int) := L.flatMap fun p => [p, swp p]
def spots (n : Int) (cs : List (Int × Int)) : List (Int × Int) := sortPP (both (linesOf n cs))
theorem shp_pp (L : List (Int × Int)) : SeqAt.shaped (.list (L.map ppD)) = true := by
  have h1 : ∀ M : List (Int × Int), PyData.canLayAll0 (M.map ppD) = true ∧ PyData.depthAll (M.map ppD) ≤ 1 := fun M => by
    induction M with
    | nil => exact ⟨rfl, Nat.zero_le _⟩
    | cons a M ih =>
      refine ⟨?_, ?_⟩
      · show (PyData.canLay0 (ppD a) && PyData.canLayAll0 (M.map ppD)) = true
        rw [ih.1]; rfl
      · show max (PyData.depth (ppD a)) (PyData.depthAll (M.map ppD)) ≤ 1
        exact Nat.max_le.mpr ⟨Nat.le_of_ble_eq_true rfl, ih.2⟩
  unfold SeqAt.shaped
  have e1 : PyData.canLay0 (.list (L.map ppD)) = true := (h1 L).1
  have e2 : PyData.depth (.list (L.map ppD)) ≤ 64 := by
    show PyData.depthAll (L.map ppD) + 1 ≤ 64
    have := (h1 L).2
    omega
  rw [e1, decide_eq_true e2]
  rfl
theorem any_pp (L : List (Int × Int)) (p : Int × Int) : ((L.map ppD).any fun z => PyData.eqv z (ppD p)) = decide (p ∈ L) := by
  have e : ∀ q : Int × Int, PyData.eqv (ppD q) (ppD p) = decide (q = p) := fun q => by
    have h := eqv_ii q.1 q.2 p.1 p.2
    refine h.trans (decide_eq_decide.mpr ⟨fun z => Prod.ext z.1 z.2, fun z => by subst z; exact ⟨rfl, rfl⟩⟩)
  induction L with
  | nil => rfl
  | cons a L ih =>
    show (PyData.eqv (ppD a) (ppD p) || (L.map ppD).any fun z => PyData.eqv z (ppD p)) = _
    rw [e, ih]
    by_cases h1 : a = p
    · simp [h1]
    · by_cases h2 : p ∈ L
      · simp [h2]
      · have h3 : ¬ p = a := fun z => h1 z.symm
        simp [h1, h2, h3]
end Tx
namespace Tx
open PySem PySem.Spec PyProof.Rows L2 TL
def f__law_pull : PyData → KD → KX → Prop
  | .int m, K, _ => (0 < m ∧ m.natAbs < 2 ^ 8000) ∧ ∀ r : Int, 0 ≤ r → r < m → K (.int r)
  | _, _, _ => False
def c__law_pull : CT := fun args Φ Ψ => ∃ (b : Addr) (m : PyData) (K : KD) (E : KX), args = [.bg b, .d m] ∧ f__law_pull m K E ∧ (∀ r, K r → Φ (.rd r) args) ∧ ∀ c, E c → Ψ c args
def f__law_drawn_plan : PyData → KD → KX → Prop
  | .int n, K, _ => (3 ≤ n ∧ n ≤ 40) ∧ ∀ l, Arcs 1 n l → K (plD n (planOf n l))
  | _, _, _ => False
def c__law_drawn_plan : CT := fun args Φ Ψ => ∃ (b : Addr) (m : PyData) (K : KD) (E : KX), args = [.bg b, .d m] ∧ f__law_drawn_plan m K E ∧ (∀ r, K r → Φ (.rd r) args) ∧ ∀ c, E c → Ψ c args
section
variable {n : Int} {cs : List (Int × Int)} {p q : Int × Int} {K : KD} {K2 : PyData → PyData → Prop} {Kb : KB} {m : Int} {E : KX} {x y : PyData}
theorem p_un_pl : un2 (plD n cs) K2 = K2 (.int n) (.tuple (cs.map ppD)) := rfl
theorem p_ix_pl0 : ixM (plD n cs) (.int 0) K = K (.int n) := rfl
theorem p_ix_pl1 : ixM (plD n cs) (.int 1) K = K (.tuple (cs.map ppD)) := rfl
theorem p_un_pp : un2 (ppD p) K2 = K2 (.int p.1) (.int p.2) := rfl
theorem p_ix_pp0 : ixM (ppD p) (.int 0) K = K (.int p.1) := rfl
theorem p_ix_pp1 : ixM (ppD p) (.int 1) K = K (.int p.2) := rfl
theorem p_mk {i j : Int} : PyData.tuple [.int i, .int j] = ppD (i, j) := rfl
theorem p_it_pp {Kl : KL} : itM (ppD p) Kl = Kl [.int p.1, .int p.2] := rfl
theorem shp_p (p : Int × Int) : SeqAt.shaped (ppD p) = true := rfl
theorem p_eq : eqM (ppD p) (ppD q) Kb = Kb (decide (p = q)) := by
  show (SeqAt.shaped (ppD p) = true ∧ SeqAt.shaped (ppD q) = true ∧ Kb (PyData.eqv (ppD p) (ppD q))) = _
  rw [show PyData.eqv (ppD p) (ppD q) = decide (p = q) by unfold ppD; rw [eqv_ii]; congr 1; exact propext ⟨fun h => Prod.ext h.1 h.2, fun h => by rw [h]; exact ⟨rfl, rfl⟩⟩]
  simp [shp_p]
theorem p_ne : neM (ppD p) (ppD q) Kb = Kb (!decide (p = q)) := by
  show (SeqAt.shaped (ppD p) = true ∧ SeqAt.shaped (ppD q) = true ∧ Kb (!PyData.eqv (ppD p) (ppD q))) = _
  rw [show PyData.eqv (ppD p) (ppD q) = decide (p = q) by unfold ppD; rw [eqv_ii]; congr 1; exact propext ⟨fun h => Prod.ext h.1 h.2, fun h => by rw [h]; exact ⟨rfl, rfl⟩⟩]
  simp [shp_p]
theorem p_in {L : List (Int × Int)} : inM (ppD p) (.list (L.map ppD)) Kb = Kb (decide (p ∈ L)) := by
  show inLstM (ppD p) (L.map ppD) Kb = _
  unfold inLstM
  rw [show fl (ppD p) = none from rfl]
  rw [any_pp]
  simp [shp_p, shp_pp]
theorem p_notIn {L : List (Int × Int)} : notInM (ppD p) (.list (L.map ppD)) Kb = Kb (!decide (p ∈ L)) := by unfold notInM; rw [p_in]
theorem p_lt : ltM (ppD p) (ppD q) Kb = Kb (ltPP p q) := by
  show Kb (HT.lexLt [p.1, p.2] [q.1, q.2]) = _
  rw [ltPP_lex]
theorem e__law_pull (h : 0 < m) (h2 : m < 1000000) : f__law_pull (.int m) K E = ∀ r : Int, 0 ≤ r → r < m → K (.int r) := by
  show ((0 < m ∧ m.natAbs < 2 ^ 8000) ∧ _) = _
  have e : m.natAbs < 2 ^ 8000 := nb (Nat.lt_of_lt_of_le (show m.natAbs < 2 ^ 20 by omega) (Nat.pow_le_pow_right (by decide) (by decide)))
  simp [h, e]
theorem e__law_drawn_plan (h : 3 ≤ m) (h2 : m ≤ 40) : f__law_drawn_plan (.int m) K E = ∀ l, Arcs 1 m l → K (plD m (planOf m l)) := by
  show ((3 ≤ m ∧ m ≤ 40) ∧ _) = _
  simp [h, h2]
end
end Tx
namespace Tx
open PySem PySem.Spec PyProof.Rows L2 TL
@[irreducible] def f_pair_of (one : PyData) (other : PyData) (K : KD) (E : KX) : Prop :=
  min2M one other fun r1 =>
  max2M one other fun r2 =>
  K (.tuple [r1, r2])
def c_pair_of : CT := fun args Φ Ψ => ∃ (one : PyData) (other : PyData) (K : KD) (E : KX), args = [.d one, .d other] ∧ f_pair_of one other K E ∧ (∀ r, K r → Φ (.rd r) args) ∧ ∀ c, E c → Ψ c args
@[irreducible] def f_crossing (one : PyData) (other : PyData) (K : KD) (E : KX) : Prop :=
  un2 one fun low1 high2 =>
  itM other fun xs4 =>
  lcM (fun corner5 kp sk => andM (fun Q => neM corner5 low1 fun b8 =>
  Q b8) (fun Q => neM corner5 high2 fun b9 =>
  Q b9) fun b7 =>
  (b7 = true → (andM (fun Q => ltM low1 corner5 Q) (fun Q => ltM corner5 high2 Q) fun b10 =>
  kp (.bool b10))) ∧ (b7 = false → sk)) (fun l6 =>
  andM (fun Q => lenM (.list l6) fun r13 =>
  eqM r13 (.int 2) fun b14 =>
  Q b14) (fun Q => ixM (.list l6) (.int 0) fun r15 =>
  ixM (.list l6) (.int 1) fun r16 =>
  neM r15 r16 fun b17 =>
  Q b17) fun b12 =>
  K (.bool b12)) xs4 []
def c_crossing : CT := fun args Φ Ψ => ∃ (one : PyData) (other : PyData) (K : KD) (E : KX), args = [.d one, .d other] ∧ f_crossing one other K E ∧ (∀ r, K r → Φ (.rd r) args) ∧ ∀ c, E c → Ψ c args
@[irreducible] def f_is_cut (faces : PyData) (cut : PyData) (K : KD) (E : KX) : Prop :=
  un2 cut fun low1 high2 =>
  andM (fun Q => leM (.int 0) low1 fun b5 =>
  Q b5) (fun Q => andM (fun Q => addM low1 (.int 1) fun r7 =>
  andM (fun Q => ltM r7 high2 Q) (fun Q => ltM high2 faces Q) fun b8 =>
  Q b8) (fun Q => subM faces (.int 1) fun r10 =>
  neM (.tuple [low1, high2]) (.tuple [(.int 0), r10]) fun b11 =>
  Q b11) fun b6 =>
  Q b6) fun b4 =>
  K (.bool b4)
def c_is_cut : CT := fun args Φ Ψ => ∃ (faces : PyData) (cut : PyData) (K : KD) (E : KX), args = [.d faces, .d cut] ∧ f_is_cut faces cut K E ∧ (∀ r, K r → Φ (.rd r) args) ∧ ∀ c, E c → Ψ c args
@[irreducible] def f_is_plan (plan : PyData) (K : KD) (E : KX) : Prop :=
  un2 plan fun faces1 cuts2 =>
  orM (fun Q => andM (fun Q => leM (.int 3) faces1 Q) (fun Q => leM faces1 (.int 40) Q) fun b5 =>
  Q (!b5)) (fun Q => lenM cuts2 fun r7 =>
  subM faces1 (.int 3) fun r8 =>
  neM r7 r8 fun b9 =>
  Q b9) fun b4 =>
  (b4 = true → (K (.bool false))) ∧ (b4 = false → (itM cuts2 fun xs13 =>
  lcM (fun cut14 kp sk => f_is_cut faces1 cut14 (fun r16 =>
  kp r16) (fun _ => False)) (fun l15 =>
  allM (.list l15) fun r17 =>
  boolM r17 fun b18 =>
  ((!b18) = true → (K (.bool false))) ∧ ((!b18) = false → (lenM cuts2 fun r23 =>
  rngM (.int 1) r23 fun xs22 =>
  forM (fun at_47 (_ : Unit) N48 B49 => subM at_47 (.int 1) fun r51 =>
  ixM cuts2 r51 fun r52 =>
  ixM cuts2 at_47 fun r53 =>
  ltM r52 r53 fun b54 =>
  ((!b54) = true → (K (.bool false))) ∧ ((!b54) = false → (N48 ()))) (fun (_ : Unit) =>
  enuM cuts2 fun xs25 =>
  forM (fun p28 (_ : Unit) N29 B30 => un2 p28 fun at_33 cut34 =>
  intO at_33 fun i37 =>
  slM cuts2 none (some i37) fun r38 =>
  itM r38 fun xs36 =>
  lcM (fun other39 kp sk => f_crossing cut34 other39 (fun r41 =>
  kp r41) (fun _ => False)) (fun l40 =>
  anyM (.list l40) fun r42 =>
  boolM r42 fun b43 =>
  (b43 = true → (K (.bool false))) ∧ (b43 = false → (N29 ()))) xs36 []) (fun (_ : Unit) =>
  K (.bool true)) xs25 ()) xs22 ()))) xs13 []))
def c_is_plan : CT := fun args Φ Ψ => ∃ (plan : PyData) (K : KD) (E : KX), args = [.d plan] ∧ f_is_plan plan K E ∧ (∀ r, K r → Φ (.rd r) args) ∧ ∀ c, E c → Ψ c args
@[irreducible] def f_need_plan (plan : PyData) (K : KD) (E : KX) : Prop :=
  f_is_plan plan (fun r1 =>
  boolM r1 fun b2 =>
  ((!b2) = true → (E (.own "BadPlan"))) ∧ ((!b2) = false → (K .none))) E
def c_need_plan : CT := fun args Φ Ψ => ∃ (plan : PyData) (K : KD) (E : KX), args = [.d plan] ∧ f_need_plan plan K E ∧ (∀ r, K r → Φ (.rd r) args) ∧ ∀ c, E c → Ψ c args
@[irreducible] def f_follows (faces : PyData) (face : PyData) (K : KD) (E : KX) : Prop :=
  addM face (.int 1) fun r1 =>
  modM r1 faces fun r2 =>
  K r2
def c_follows : CT := fun args Φ Ψ => ∃ (faces : PyData) (face : PyData) (K : KD) (E : KX), args = [.d faces, .d face] ∧ f_follows faces face K E ∧ (∀ r, K r → Φ (.rd r) args) ∧ ∀ c, E c → Ψ c args
@[irreducible] def f_all_lines (plan : PyData) (K : KL) (E : KX) : Prop :=
  un2 plan fun faces1 cuts2 =>
  rngM (.int 0) faces1 fun xs4 =>
  lcM (fun face5 kp sk => f_follows faces1 face5 (fun r7 =>
  f_pair_of face5 r7 (fun r8 =>
  kp r8) (fun _ => False)) (fun _ => False)) (fun l6 =>
  listM cuts2 fun l9 =>
  addM (.list l6) (.list l9) fun r10 =>
  sortM r10 fun l11 =>
  K l11) xs4 []
def c_all_lines : CT := fun args Φ Ψ => ∃ (plan : PyData) (K : KL) (E : KX), args = [.d plan] ∧ f_all_lines plan K E ∧ (∀ r, K r → Φ (.nl r) args) ∧ ∀ c, E c → Ψ c args
@[irreducible] def f_places (plan : PyData) (K : KL) (E : KX) : Prop :=
  f_need_plan plan (fun r1 =>
  f_all_lines plan (fun r2 =>
  itM (.list r2) fun xs3 =>
  lcM (fun p4 kp sk => un2 p4 fun low6 high7 =>
  kp (.tuple [high7, low6])) (fun l5 =>
  addM (.list r2) (.list l5) fun r9 =>
  sortM r9 fun l10 =>
  K l10) xs3 []) E) E
def c_places : CT := fun args Φ Ψ => ∃ (plan : PyData) (K : KL) (E : KX), args = [.d plan] ∧ f_places plan K E ∧ (∀ r, K r → Φ (.nl r) args) ∧ ∀ c, E c → Ψ c args
@[irreducible] def f_need_place (plan : PyData) (place : PyData) (K : KD) (E : KX) : Prop :=
  f_need_plan plan (fun r1 =>
  un2 place fun top2 under3 =>
  orM (fun Q => andM (fun Q => leM (.int 0) top2 Q) (fun Q => ixM plan (.int 0) fun r8 =>
  ltM top2 r8 Q) fun b6 =>
  Q (!b6)) (fun Q => orM (fun Q => andM (fun Q => leM (.int 0) under3 Q) (fun Q => ixM plan (.int 0) fun r12 =>
  ltM under3 r12 Q) fun b10 =>
  Q (!b10)) (fun Q => f_pair_of top2 under3 (fun r13 =>
  f_all_lines plan (fun r14 =>
  notInM r13 (.list r14) fun b15 =>
  Q b15) E) E) fun b9 =>
  Q b9) fun b5 =>
  (b5 = true → (E (.own "BadPlace"))) ∧ (b5 = false → (K .none))) E
def c_need_place : CT := fun args Φ Ψ => ∃ (plan : PyData) (place : PyData) (K : KD) (E : KX), args = [.d plan, .d place] ∧ f_need_place plan place K E ∧ (∀ r, K r → Φ (.rd r) args) ∧ ∀ c, E c → Ψ c args
@[irreducible] def f_over (plan : PyData) (place : PyData) (K : KD) (E : KX) : Prop :=
  f_need_place plan place (fun r1 =>
  ixM place (.int 1) fun r2 =>
  ixM place (.int 0) fun r3 =>
  K (.tuple [r2, r3])) E
def c_over : CT := fun args Φ Ψ => ∃ (plan : PyData) (place : PyData) (K : KD) (E : KX), args = [.d plan, .d place] ∧ f_over plan place K E ∧ (∀ r, K r → Φ (.rd r) args) ∧ ∀ c, E c → Ψ c args
@[irreducible] def f__law_pair (l_one : PyData) (l_other : PyData) (K : KD) (E : KX) : Prop :=
  min2M l_one l_other fun r1 =>
  max2M l_one l_other fun r2 =>
  K (.tuple [r1, r2])
def c__law_pair : CT := fun args Φ Ψ => ∃ (l_one : PyData) (l_other : PyData) (K : KD) (E : KX), args = [.d l_one, .d l_other] ∧ f__law_pair l_one l_other K E ∧ (∀ r, K r → Φ (.rd r) args) ∧ ∀ c, E c → Ψ c args
@[irreducible] def f__law_plan (l_most : PyData) (K : KD) (E : KX) : Prop :=
  subM l_most (.int 2) fun r1 =>
  f__law_pull r1 (fun r2 =>
  addM (.int 3) r2 fun r3 =>
  f__law_drawn_plan r3 (fun r4 =>
  K r4) E) E
def c__law_plan : CT := fun args Φ Ψ => ∃ (a_l_bag_here : Addr) (l_most : PyData) (K : KD) (E : KX), args = [.bg a_l_bag_here, .d l_most] ∧ f__law_plan l_most K E ∧ (∀ r, K r → Φ (.rd r) args) ∧ ∀ c, E c → Ψ c args
section
variable {K : KD} {Kl : KL} {E : KX} {n i j : Int} {cs : List (Int × Int)} {p q : Int × Int}
def nrmP (i j : Int) : Int × Int := (if j < i then j else i, if j > i then j else i)
theorem e_crossing : f_crossing (ppD p) (ppD q) K E = K (.bool (crossB p q)) := by
  unfold f_crossing
  simp only [q_add_ii, q_add_ss, q_add_ll, q_add_tt, q_addL, q_sub, q_mul, q_div, q_mod, q_neg, q_bool, q_eq_ii, q_eq_ss, q_eq_bb, q_ne_ii, q_ne_ss, q_ne_bb, q_lt, q_le, q_gt, q_ge, q_un2, q_un3, q_un4, q_intO, q_len_l, q_len_t, q_len_s, q_abs, q_int_i, q_int_b, q_tup_l, q_tup_t, q_list_l, q_list_t, q_min, q_max, q_it_l, q_it_t, q_rng, q_enu_l, q_enu_t, q_rev, q_sl_l, q_sl_t, q_sl_s, q_slL, q_all, q_any, q_sum, q_sort_pp, q_and, q_or, q_ite, q_join, cond_true, cond_false, true_and, and_true, decide_eq_true_eq, decide_true, decide_false, p_un_pl, p_ix_pl0, p_ix_pl1, p_un_pp, p_ix_pp0, p_ix_pp1, p_mk, p_eq, p_ne, p_in, p_notIn, p_lt, p_it_pp]
  rw [show [PyData.int q.1, .int q.2] = [q.1, q.2].map .int from rfl]
  rw [q_lc_fil _ _ (inF p) (fun c => .bool (inG p c)) fun c hc k s => by
    simp only [q_add_ii, q_add_ss, q_add_ll, q_add_tt, q_addL, q_sub, q_mul, q_div, q_mod, q_neg, q_bool, q_eq_ii, q_eq_ss, q_eq_bb, q_ne_ii, q_ne_ss, q_ne_bb, q_lt, q_le, q_gt, q_ge, q_un2, q_un3, q_un4, q_intO, q_len_l, q_len_t, q_len_s, q_abs, q_int_i, q_int_b, q_tup_l, q_tup_t, q_list_l, q_list_t, q_min, q_max, q_it_l, q_it_t, q_rng, q_enu_l, q_enu_t, q_rev, q_sl_l, q_sl_t, q_sl_s, q_slL, q_all, q_any, q_sum, q_sort_pp, q_and, q_or, q_ite, q_join, cond_true, cond_false, true_and, and_true, decide_eq_true_eq, decide_true, decide_false, p_un_pl, p_ix_pl0, p_ix_pl1, p_un_pp, p_ix_pp0, p_ix_pp1, p_mk, p_eq, p_ne, p_in, p_notIn, p_lt, inF, inG]]
  rw [List.nil_append, show (([q.1, q.2].filter (inF p)).map fun c => PyData.bool (inG p c)) = (([q.1, q.2].filter (inF p)).map (inG p)).map .bool by rw [List.map_map]; rfl]
  unfold crossB
  generalize (([q.1, q.2].filter (inF p)).map (inG p)) = bs
  match bs with
  | [] => exact q_and' (b1 := false) (fun Q => rfl) (b2 := false) (fun e => by cases e)
  | [a] => exact q_and' (b1 := false) (fun Q => rfl) (b2 := false) (fun e => by cases e)
  | [a, b] => exact q_and' (b1 := true) (fun Q => rfl) (fun e Q => rfl)
  | a :: b :: c :: r =>
    refine q_and' (b1 := false) (fun Q => ?_) (b2 := false) (fun e => by cases e)
    show Q (decide (((List.length (PyData.bool a :: PyData.bool b :: PyData.bool c :: r.map PyData.bool) : Nat) : Int) = 2)) = _
    rw [decide_eq_false (by simp only [List.length_cons]; omega)]
theorem dec_pair {a b c d : Int} : decide ((a, b) = (c, d)) = decide (a = c ∧ b = d) := by
  congr 1; exact propext (Prod.ext_iff (x := (a, b)) (y := (c, d)))
theorem e_is_cut : f_is_cut (.int n) (ppD p) K E = K (.bool (cutB n p)) := by
  unfold f_is_cut
  simp only [q_add_ii, q_add_ss, q_add_ll, q_add_tt, q_addL, q_sub, q_mul, q_div, q_mod, q_neg, q_bool, q_eq_ii, q_eq_ss, q_eq_bb, q_ne_ii, q_ne_ss, q_ne_bb, q_lt, q_le, q_gt, q_ge, q_un2, q_un3, q_un4, q_intO, q_len_l, q_len_t, q_len_s, q_abs, q_int_i, q_int_b, q_tup_l, q_tup_t, q_list_l, q_list_t, q_min, q_max, q_it_l, q_it_t, q_rng, q_enu_l, q_enu_t, q_rev, q_sl_l, q_sl_t, q_sl_s, q_slL, q_all, q_any, q_sum, q_sort_pp, q_and, q_or, q_ite, q_join, cond_true, cond_false, true_and, and_true, decide_eq_true_eq, decide_true, decide_false, p_un_pl, p_ix_pl0, p_ix_pl1, p_un_pp, p_ix_pp0, p_ix_pp1, p_mk, p_eq, p_ne, p_in, p_notIn, p_lt, dec_pair]
  simp only [cutB, Bool.and_assoc]
theorem at_cs {i : Int} (h0 : 0 ≤ i) (h : i < cs.length) : ixM (.tuple (cs.map ppD)) (.int i) K = K (ppD (cs.getD i.toNat (0, 0))) := by
  show (match atI (cs.map ppD) i with | some y => K y | none => False) = _
  have e : (cs.map ppD)[i.toNat]? = some (ppD (cs.getD i.toNat (0, 0))) := by
    rw [List.getElem?_map, List.getD_eq_getElem?_getD]
    rw [List.getElem?_eq_getElem (show i.toNat < cs.length by omega)]
    rfl
  rw [at_nat h0 e]
theorem cut_pp {j : Int} (h0 : 0 ≤ j) (h : j ≤ cs.length) : cut (cs.map ppD) none (some j) = (cs.take j.toNat).map ppD := by
  obtain ⟨k, rfl⟩ : ∃ k : Nat, j = k := ⟨j.toNat, by omega⟩
  unfold cut
  rw [HT.sIx_none, HT.sIx_nat, List.drop_zero, Nat.sub_zero, List.length_map, Nat.min_eq_left (by omega), List.map_take, Int.toNat_natCast]
theorem e_is_plan (hc : cs.length ≤ 1000) : f_is_plan (plD n cs) K E = K (.bool (planB n cs)) := by
  have hsl := sizeLine_eq
  unfold f_is_plan
  simp only [q_add_ii, q_add_ss, q_add_ll, q_add_tt, q_addL, q_sub, q_mul, q_div, q_mod, q_neg, q_bool, q_eq_ii, q_eq_ss, q_eq_bb, q_ne_ii, q_ne_ss, q_ne_bb, q_lt, q_le, q_gt, q_ge, q_un2, q_un3, q_un4, q_intO, q_len_l, q_len_t, q_len_s, q_abs, q_int_i, q_int_b, q_tup_l, q_tup_t, q_list_l, q_list_t, q_min, q_max, q_it_l, q_it_t, q_rng, q_enu_l, q_enu_t, q_rev, q_sl_l, q_sl_t, q_sl_s, q_slL, q_all, q_any, q_sum, q_sort_pp, q_and, q_or, q_ite, q_join, cond_true, cond_false, true_and, and_true, decide_eq_true_eq, decide_true, decide_false, p_un_pl, p_ix_pl0, p_ix_pl1, p_un_pp, p_ix_pp0, p_ix_pp1, p_mk, p_eq, p_ne, p_in, p_notIn, p_lt, List.length_map]
  unfold planB
  have e0 : (!(decide (3 ≤ n) && decide (n ≤ 40)) || !decide ((cs.length : Int) = n - 3)) = !(decide (3 ≤ n) && decide (n ≤ 40) && decide ((cs.length : Int) = n - 3)) := by
    cases decide (3 ≤ n) <;> cases decide (n ≤ 40) <;> cases decide ((cs.length : Int) = n - 3) <;> rfl
  rw [e0]
  cases e : (decide (3 ≤ n) && decide (n ≤ 40) && decide ((cs.length : Int) = n - 3))
  · rfl
  rw [Bool.true_and]
  show lcM _ _ _ _ = _
  rw [q_lc_map _ _ (fun c => PyData.bool (cutB n c)) fun c hc k s => by simp only [e_is_cut]]
  rw [List.nil_append, show (cs.map fun c => PyData.bool (cutB n c)) = (cs.map (cutB n)).map .bool by rw [List.map_map]; rfl, q_all]
  simp only [q_add_ii, q_add_ss, q_add_ll, q_add_tt, q_addL, q_sub, q_mul, q_div, q_mod, q_neg, q_bool, q_eq_ii, q_eq_ss, q_eq_bb, q_ne_ii, q_ne_ss, q_ne_bb, q_lt, q_le, q_gt, q_ge, q_un2, q_un3, q_un4, q_intO, q_len_l, q_len_t, q_len_s, q_abs, q_int_i, q_int_b, q_tup_l, q_tup_t, q_list_l, q_list_t, q_min, q_max, q_it_l, q_it_t, q_rng, q_enu_l, q_enu_t, q_rev, q_sl_l, q_sl_t, q_sl_s, q_slL, q_all, q_any, q_sum, q_sort_pp, q_and, q_or, q_ite, q_join, cond_true, cond_false, true_and, and_true, decide_eq_true_eq, decide_true, decide_false, p_un_pl, p_ix_pl0, p_ix_pl1, p_un_pp, p_ix_pp0, p_ix_pp1, p_mk, p_eq, p_ne, p_in, p_notIn, p_lt]
  have e2 : (cs.map (cutB n)).all id = cs.all (cutB n) := by rw [List.all_map]; rfl
  rw [e2]
  cases cs.all (cutB n)
  · rfl
  rw [Bool.true_and]
  show ((_ ∧ _) : Prop) = _
  refine Eq.trans (propext (and_iff_right (by omega))) ?_
  rw [rng_map, show ((cs.length : Int) - 1).toNat = cs.length - 1 by omega]
  rw [q_for_all _ _ (fun i => ltPP (cs.getD i (0, 0)) (cs.getD (i + 1) (0, 0))) (R := K (.bool false)) fun i hi N => ?_]
  · show cond (adjB cs) _ _ = _
    cases adjB cs
    · rfl
    show forM _ _ _ _ = _
    rw [enum_map, q_for_all _ _ (fun q => !((cs.take q.1).any fun d => crossB q.2 d)) (R := K (.bool false)) fun q hq N => ?_]
    · have e3 : (cs.mapIdx fun i a => (i, a)).all (fun q => !((cs.take q.1).any fun d => crossB q.2 d)) = nocB cs := by
        unfold nocB
        rw [Bool.eq_iff_iff, List.all_eq_true, List.all_eq_true]
        refine ⟨fun h i hi => ?_, fun h q hq => ?_⟩
        · have hi := List.mem_range.mp hi
          rw [getD_at hi]
          exact h (i, cs[i]) (List.mem_iff_getElem?.mpr ⟨i, by rw [List.getElem?_mapIdx, List.getElem?_eq_getElem hi]; rfl⟩)
        · obtain ⟨j, hj⟩ := List.mem_iff_getElem?.mp hq
          rw [List.getElem?_mapIdx] at hj
          obtain ⟨c, hc, rfl⟩ := Option.map_eq_some_iff.mp hj
          obtain ⟨hjl, hjc⟩ := List.getElem?_eq_some_iff.mp hc
          have := h j (List.mem_range.mpr hjl)
          rw [getD_at hjl, hjc] at this
          exact this
      rw [e3]
      cases nocB cs <;> rfl
    · obtain ⟨i, c⟩ := q
      have hi : i < cs.length := by
        obtain ⟨j, hj⟩ := List.mem_iff_getElem?.mp hq
        rw [List.getElem?_mapIdx] at hj
        obtain ⟨c, hc, e⟩ := Option.map_eq_some_iff.mp hj
        cases e
        exact (List.getElem?_eq_some_iff.mp hc).1
      simp only [q_add_ii, q_add_ss, q_add_ll, q_add_tt, q_addL, q_sub, q_mul, q_div, q_mod, q_neg, q_bool, q_eq_ii, q_eq_ss, q_eq_bb, q_ne_ii, q_ne_ss, q_ne_bb, q_lt, q_le, q_gt, q_ge, q_un2, q_un3, q_un4, q_intO, q_len_l, q_len_t, q_len_s, q_abs, q_int_i, q_int_b, q_tup_l, q_tup_t, q_list_l, q_list_t, q_min, q_max, q_it_l, q_it_t, q_rng, q_enu_l, q_enu_t, q_rev, q_sl_l, q_sl_t, q_sl_s, q_slL, q_all, q_any, q_sum, q_sort_pp, q_and, q_or, q_ite, q_join, cond_true, cond_false, true_and, and_true, decide_eq_true_eq, decide_true, decide_false, p_un_pl, p_ix_pl0, p_ix_pl1, p_un_pp, p_ix_pp0, p_ix_pp1, p_mk, p_eq, p_ne, p_in, p_notIn, p_lt]
      rw [cut_pp (by omega) (by omega)]
      rw [q_lc_map _ _ (fun d => PyData.bool (crossB c d)) fun d hd k s => by simp only [e_crossing]]
      rw [List.nil_append, show ∀ L : List (Int × Int), (L.map fun d => PyData.bool (crossB c d)) = (L.map (crossB c)).map .bool from fun L => by rw [List.map_map]; rfl, q_any]
      simp only [q_add_ii, q_add_ss, q_add_ll, q_add_tt, q_addL, q_sub, q_mul, q_div, q_mod, q_neg, q_bool, q_eq_ii, q_eq_ss, q_eq_bb, q_ne_ii, q_ne_ss, q_ne_bb, q_lt, q_le, q_gt, q_ge, q_un2, q_un3, q_un4, q_intO, q_len_l, q_len_t, q_len_s, q_abs, q_int_i, q_int_b, q_tup_l, q_tup_t, q_list_l, q_list_t, q_min, q_max, q_it_l, q_it_t, q_rng, q_enu_l, q_enu_t, q_rev, q_sl_l, q_sl_t, q_sl_s, q_slL, q_all, q_any, q_sum, q_sort_pp, q_and, q_or, q_ite, q_join, cond_true, cond_false, true_and, and_true, decide_eq_true_eq, decide_true, decide_false, p_un_pl, p_ix_pl0, p_ix_pl1, p_un_pp, p_ix_pp0, p_ix_pp1, p_mk, p_eq, p_ne, p_in, p_notIn, p_lt]
      rw [show ∀ L : List (Int × Int), (L.map (crossB c)).any id = L.any (crossB c) from fun L => by rw [List.any_map]; rfl, Int.toNat_natCast]
      show cond ((cs.take i).any (crossB c)) _ _ = cond (!(cs.take i).any (crossB c)) _ _
      cases (cs.take i).any (crossB c) <;> rfl
  · have hi := List.mem_range.mp hi
    simp only [q_add_ii, q_add_ss, q_add_ll, q_add_tt, q_addL, q_sub, q_mul, q_div, q_mod, q_neg, q_bool, q_eq_ii, q_eq_ss, q_eq_bb, q_ne_ii, q_ne_ss, q_ne_bb, q_lt, q_le, q_gt, q_ge, q_un2, q_un3, q_un4, q_intO, q_len_l, q_len_t, q_len_s, q_abs, q_int_i, q_int_b, q_tup_l, q_tup_t, q_list_l, q_list_t, q_min, q_max, q_it_l, q_it_t, q_rng, q_enu_l, q_enu_t, q_rev, q_sl_l, q_sl_t, q_sl_s, q_slL, q_all, q_any, q_sum, q_sort_pp, q_and, q_or, q_ite, q_join, cond_true, cond_false, true_and, and_true, decide_eq_true_eq, decide_true, decide_false, p_un_pl, p_ix_pl0, p_ix_pl1, p_un_pp, p_ix_pp0, p_ix_pp1, p_mk, p_eq, p_ne, p_in, p_notIn, p_lt]
    rw [at_cs (by omega) (by omega), at_cs (by omega) (by omega)]
    simp only [q_add_ii, q_add_ss, q_add_ll, q_add_tt, q_addL, q_sub, q_mul, q_div, q_mod, q_neg, q_bool, q_eq_ii, q_eq_ss, q_eq_bb, q_ne_ii, q_ne_ss, q_ne_bb, q_lt, q_le, q_gt, q_ge, q_un2, q_un3, q_un4, q_intO, q_len_l, q_len_t, q_len_s, q_abs, q_int_i, q_int_b, q_tup_l, q_tup_t, q_list_l, q_list_t, q_min, q_max, q_it_l, q_it_t, q_rng, q_enu_l, q_enu_t, q_rev, q_sl_l, q_sl_t, q_sl_s, q_slL, q_all, q_any, q_sum, q_sort_pp, q_and, q_or, q_ite, q_join, cond_true, cond_false, true_and, and_true, decide_eq_true_eq, decide_true, decide_false, p_un_pl, p_ix_pl0, p_ix_pl1, p_un_pp, p_ix_pp0, p_ix_pp1, p_mk, p_eq, p_ne, p_in, p_notIn, p_lt]
    rw [show ((1 : Int) + (i : Nat) - 1).toNat = i by omega, show ((1 : Int) + (i : Nat)).toNat = i + 1 by omega]
    cases ltPP (cs.getD i (0, 0)) (cs.getD (i + 1) (0, 0)) <;> rfl
theorem e_need_plan (hc : cs.length ≤ 1000) : f_need_plan (plD n cs) K E = cond (planB n cs) (K .none) (E (.own "BadPlan")) := by
  unfold f_need_plan
  simp only [q_add_ii, q_add_ss, q_add_ll, q_add_tt, q_addL, q_sub, q_mul, q_div, q_mod, q_neg, q_bool, q_eq_ii, q_eq_ss, q_eq_bb, q_ne_ii, q_ne_ss, q_ne_bb, q_lt, q_le, q_gt, q_ge, q_un2, q_un3, q_un4, q_intO, q_len_l, q_len_t, q_len_s, q_abs, q_int_i, q_int_b, q_tup_l, q_tup_t, q_list_l, q_list_t, q_min, q_max, q_it_l, q_it_t, q_rng, q_enu_l, q_enu_t, q_rev, q_sl_l, q_sl_t, q_sl_s, q_slL, q_all, q_any, q_sum, q_sort_pp, q_and, q_or, q_ite, q_join, cond_true, cond_false, true_and, and_true, decide_eq_true_eq, decide_true, decide_false, p_un_pl, p_ix_pl0, p_ix_pl1, p_un_pp, p_ix_pp0, p_ix_pp1, p_mk, p_eq, p_ne, p_in, p_notIn, p_lt, e_is_plan hc]
  cases planB n cs <;> rfl
theorem e_need_ok (h : IsPlan n cs) : f_need_plan (plD n cs) K E = K .none := by
  rw [e_need_plan (by have := h.len; have := h.hi; omega), planB_of h]; rfl
theorem e__law_plan {m : Int} (h : 3 ≤ m) (h2 : m ≤ 40) : f__law_plan (.int m) K E = ∀ n, 3 ≤ n → n ≤ m → ∀ l, Arcs 1 n l → K (plD n (planOf n l)) := by
  unfold f__law_plan
  simp only [q_add_ii, q_add_ss, q_add_ll, q_add_tt, q_addL, q_sub, q_mul, q_div, q_mod, q_neg, q_bool, q_eq_ii, q_eq_ss, q_eq_bb, q_ne_ii, q_ne_ss, q_ne_bb, q_lt, q_le, q_gt, q_ge, q_un2, q_un3, q_un4, q_intO, q_len_l, q_len_t, q_len_s, q_abs, q_int_i, q_int_b, q_tup_l, q_tup_t, q_list_l, q_list_t, q_min, q_max, q_it_l, q_it_t, q_rng, q_enu_l, q_enu_t, q_rev, q_sl_l, q_sl_t, q_sl_s, q_slL, q_all, q_any, q_sum, q_sort_pp, q_and, q_or, q_ite, q_join, cond_true, cond_false, true_and, and_true, decide_eq_true_eq, decide_true, decide_false, p_un_pl, p_ix_pl0, p_ix_pl1, p_un_pp, p_ix_pp0, p_ix_pp1, p_mk, p_eq, p_ne, p_in, p_notIn, p_lt]
  rw [e__law_pull (by omega) (by omega)]
  simp only [q_add_ii]
  refine propext ⟨fun hh n hn hn2 l hl => ?_, fun hh r r0 r1 => ?_⟩
  · have := hh (n - 3) (by omega) (by omega)
    rw [show 3 + (n - 3) = n by omega, e__law_drawn_plan hn (by omega)] at this
    exact this l hl
  · rw [e__law_drawn_plan (by omega) (by omega)]
    exact hh _ (by omega) (by omega)
end
end Tx
namespace Tx
open PySem PySem.Spec PyProof.Rows L2 TL
@[irreducible] def f_ways_row (most : PyData) (K : KL) (E : KX) : Prop :=
  ∃ n : Nat, whileM (fun row7 N5 B6 => lenM (.list row7) fun r10 =>
  leM r10 most fun b11 =>
  (b11 = true → (lenM (.list row7) fun r13 =>
  rngM (.int 1) r13 fun xs14 =>
  lcM (fun first_15 kp sk => ixM (.list row7) first_15 fun r17 =>
  subM r13 first_15 fun r18 =>
  ixM (.list row7) r18 fun r19 =>
  mulM r17 r19 fun r20 =>
  kp r20) (fun l16 =>
  sumM (.list l16) fun r21 =>
  row7.length < sizeLine ∧ (N5 (row7 ++ ([r21] : List PyData)))) xs14 [])) ∧ (b11 = false → B6 row7)) (fun row2 =>
  K row2) n [(.int 0), (.int 1)]
def c_ways_row : CT := fun args Φ Ψ => ∃ (most : PyData) (K : KL) (E : KX), args = [.d most] ∧ f_ways_row most K E ∧ (∀ r, K r → Φ (.nl r) args) ∧ ∀ c, E c → Ψ c args
section
variable {K : KD} {Kl : KL} {E : KX} {n i j : Int} {cs : List (Int × Int)} {p q : Int × Int}
def wrF : Nat → Nat → Int → List (List (Int × Int))
  | 0, _, _ => [[]]
  | f + 1, w, s => if w ≤ 1 then [[]] else (List.range (w - 1)).flatMap fun j => (wrF f (1 + j) s).flatMap fun a => (wrF f (w - 1 - j) (s + 1 + (j : Int))).map fun b => a ++ b ++ [(s, s + 1 + (j : Int)), (s + 1 + (j : Int), s + (w : Int))]
def wr (w : Nat) (s : Int) : List (List (Int × Int)) := wrF w w s
theorem valP_put {κ : Type} [DecidableEq κ] {kvs : List (κ × PyData)} {k k' : κ} {d : PyData} : valP (putP kvs k d) k' = if k' = k then some d else valP kvs k' := by
  unfold putP valP
  by_cases h : (kvs.any fun kv => decide (kv.1 = k)) = true
  · rw [if_pos h]
    induction kvs with
    | nil => simp at h
    | cons kv r ih =>
      rw [List.map_cons]
      by_cases e : kv.1 = k
      · rw [if_pos e]
        by_cases e2 : k' = k
        · subst e2; simp [List.find?_cons, e]
        · rw [if_neg e2]
          have ne : ¬ kv.1 = k' := fun z => e2 (z ▸ e)
          simp only [List.find?_cons, ne, decide_false]
          clear ih h
          induction r with
          | nil => rfl
          | cons kv2 r ih2 =>
            rw [List.map_cons]
            by_cases e3 : kv2.1 = k
            · rw [if_pos e3]
              have ne : ¬ kv2.1 = k' := fun z => e2 (z ▸ e3)
              simp only [List.find?_cons, ne, decide_false]
              exact ih2
            · rw [if_neg e3]
              by_cases e4 : kv2.1 = k'
              · simp [List.find?_cons, e4]
              · simp only [List.find?_cons, e4, decide_false]
                exact ih2
      · rw [if_neg e]
        have h' : (r.any fun kv => decide (kv.1 = k)) = true := by simpa [e] using h
        by_cases e4 : kv.1 = k'
        · have : ¬ k' = k := fun z => e (e4.trans z)
          simp [List.find?_cons, e4, this]
        · simp only [List.find?_cons, e4, decide_false]
          exact ih h'
  · rw [if_neg h, List.find?_append]
    by_cases e2 : k' = k
    · subst e2
      have : (kvs.find? fun kv => decide (kv.1 = k')) = none := List.find?_eq_none.mpr fun x hx z => h (List.any_eq_true.mpr ⟨x, hx, z⟩)
      rw [this]; simp
    · have : ¬ k = k' := fun z => e2 z.symm
      rw [if_neg e2]
      cases kvs.find? fun kv => decide (kv.1 = k') <;> simp [this]
theorem putP_len {κ : Type} [DecidableEq κ] {kvs : List (κ × PyData)} {k : κ} {d : PyData} : (putP kvs k d).length ≤ kvs.length + 1 := by
  unfold putP
  split <;> simp
abbrev AT := List (List Key × PyData)
abbrev rowD (l : List (Int × Int)) : PyData := .list (l.map ppD)
abbrev kT (i j : Int) : List Key := [.inl i, .inl j]
/-- widths below w are told, and the first t starts of width w -/
structure Told (n : Int) (w t : Nat) (A : AT) : Prop where
  len : A.length ≤ 100 * w + t
  low : ∀ v : Nat, 1 ≤ v → v < w → ∀ s : Int, 1 ≤ s → s + v ≤ n → valP A (kT s (s + v)) = some (.list ((wr v s).map rowD))
  cur : ∀ s : Int, 1 ≤ s → s ≤ t → s + w ≤ n → valP A (kT s (s + w)) = some (.list ((wr w s).map rowD))
theorem Told.put {w t : Nat} {A : AT} (h : Told n w t A) {v : PyData} (hv : v = .list ((wr w (1 + (t : Int))).map rowD)) : Told n w (t + 1) (putP A (kT (1 + (t : Int)) (1 + (t : Int) + w)) v) := by
  refine ⟨?_, fun v' v1 v2 s s1 s2 => ?_, fun s s1 s2 s3 => ?_⟩
  · have := putP_len (kvs := A) (k := kT (1 + (t : Int)) (1 + (t : Int) + w)) (d := v)
    have := h.len
    omega
  · rw [valP_put, if_neg (fun e => by injection e with e1 e2; injection e1 with e1; injection e2 with e2; injection e2 with e2; omega)]
    exact h.low v' v1 v2 s s1 s2
  · rw [valP_put]
    by_cases e : s = 1 + (t : Int)
    · subst e
      rw [if_pos rfl, hv]
    · rw [if_neg (fun z => by injection z with e1 e2; injection e1 with e1; exact e e1)]
      exact h.cur s s1 (by omega) s3
end
end Tx
namespace Tx
open PySem PySem.Spec PyProof.Rows L2 TL
@[irreducible] def f_neighbours (plan : PyData) (K : KL) (E : KX) : Prop :=
  un2 plan fun faces1 cuts2 =>
  rngM (.int 0) faces1 fun xs4 =>
  f_all_lines plan (fun r10 =>
  itM (.list r10) fun xs9 =>
  forM (fun p24 found27 N25 B26 => un2 p24 fun low30 high31 =>
  rowM found27 low30 fun l33 =>
  subM high31 low30 fun r34 =>
  modM r34 faces1 fun r35 =>
  rowAppM found27 low30 r35 fun rows36 =>
  rowM rows36 high31 fun l39 =>
  subM low30 high31 fun r40 =>
  modM r40 faces1 fun r41 =>
  rowAppM rows36 high31 r41 fun rows42 =>
  N25 rows42) (fun found11 =>
  rngM (.int 0) faces1 fun xs14 =>
  lcM (fun face15 kp sk => rowM found11 face15 fun l18 =>
  sortM (.list l18) fun l19 =>
  itM (.list l19) fun xs17 =>
  lcM (fun step20 kp sk => addM face15 step20 fun r22 =>
  modM r22 faces1 fun r23 =>
  kp r23) (fun l21 =>
  kp (.list l21)) xs17 []) (fun l16 =>
  K l16) xs14 []) xs9 (List.replicate xs4.length ([] : List PyData))) E
def c_neighbours : CT := fun args Φ Ψ => ∃ (plan : PyData) (K : KL) (E : KX), args = [.d plan] ∧ f_neighbours plan K E ∧ (∀ r, K r → Φ (.nl r) args) ∧ ∀ c, E c → Ψ c args
@[irreducible] def f_parts (plan : PyData) (K : KL) (E : KX) : Prop :=
  f_need_plan plan (fun r1 =>
  f_neighbours plan (fun r2 =>
  f_all_lines plan (fun r4 =>
  itM (.list r4) fun xs3 =>
  forM (fun p9 found12 N10 B11 => un2 p9 fun low15 high16 =>
  ixM (.list r2) low15 fun r19 =>
  itM r19 fun xs18 =>
  lcM (fun other20 kp sk => andM (fun Q => gtM other20 high16 fun b23 =>
  Q b23) (fun Q => ixM (.list r2) high16 fun r24 =>
  inM other20 r24 fun b25 =>
  Q b25) fun b22 =>
  (b22 = true → (kp (.tuple [low15, high16, other20]))) ∧ (b22 = false → sk)) (fun l21 =>
  addM found12 (.list l21) fun r26 =>
  N10 r26) xs18 []) (fun found5 =>
  sortM found5 fun l8 =>
  K l8) xs3 (.list [])) E) E) E
def c_parts : CT := fun args Φ Ψ => ∃ (plan : PyData) (K : KL) (E : KX), args = [.d plan] ∧ f_parts plan K E ∧ (∀ r, K r → Φ (.nl r) args) ∧ ∀ c, E c → Ψ c args
@[irreducible] def f_lines (plan : PyData) (K : KL) (E : KX) : Prop :=
  f_need_plan plan (fun r1 =>
  f_all_lines plan (fun r2 =>
  K r2) E) E
def c_lines : CT := fun args Φ Ψ => ∃ (plan : PyData) (K : KL) (E : KX), args = [.d plan] ∧ f_lines plan K E ∧ (∀ r, K r → Φ (.nl r) args) ∧ ∀ c, E c → Ψ c args
def tieB (n : Int) (cs : List (Int × Int)) (a b : Int) : Bool := decide ((a, b) ∈ both (linesOf n cs))
/-- the corners that have a line with f, from the one that follows it on -/
def near (n : Int) (cs : List (Int × Int)) (f : Int) : List Int := ((List.range (n.toNat - 1)).filter fun (k : Nat) => tieB n cs f ((f + k + 1) % n)).map fun (k : Nat) => (f + k + 1) % n
section
variable {K : KD} {Kl : KL} {E : KX} {n i j : Int} {cs : List (Int × Int)} {p q : Int × Int}
variable (hp : IsPlan n cs)
include hp
theorem mem_both {L : List (Int × Int)} {a b : Int} : (a, b) ∈ both L ↔ (a, b) ∈ L ∨ (b, a) ∈ L := by
  unfold both
  rw [List.mem_flatMap]
  refine ⟨fun ⟨p, h1, h2⟩ => ?_, fun h => ?_⟩
  · have h2 : (a, b) = p ∨ (a, b) = swp p := by simpa using h2
    rcases h2 with h | h
    · exact .inl (h ▸ h1)
    · have : p = (b, a) := by
        unfold swp at h
        exact Prod.ext (congrArg Prod.snd h).symm (congrArg Prod.fst h).symm
      exact .inr (this ▸ h1)
  · rcases h with h | h
    · exact ⟨_, h, by simp⟩
    · exact ⟨_, h, by simp [swp]⟩
theorem tie_lt {a b : Int} (h : tieB n cs a b = true) : 0 ≤ a ∧ a < n ∧ 0 ≤ b ∧ b < n ∧ a ≠ b := by
  have lok := lines_ok hp
  rcases (mem_both hp).mp (of_decide_eq_true h) with h | h
  · have := lok.lt _ h; simp only at this; omega
  · have := lok.lt _ h; simp only at this; omega
end
end Tx
namespace Tx
open PySem PySem.Spec PyProof.Rows L2 TL
@[irreducible] def f_middle_corners (plan : PyData) (place : PyData) (K : KD) (E : KX) : Prop :=
  un2 place fun top1 under2 =>
  f_neighbours plan (fun r4 =>
  ixM (.list r4) top1 fun r5 =>
  lstO r5 fun l6 =>
  indexM l6 under2 fun r7 =>
  modM r7 (.int 3) fun r8 =>
  lenM r5 fun r9 =>
  subM r7 r9 fun r10 =>
  addM r10 (.int 1) fun r11 =>
  modM r11 (.int 3) fun r12 =>
  K (.tuple [r8, r12])) E
def c_middle_corners : CT := fun args Φ Ψ => ∃ (plan : PyData) (place : PyData) (K : KD) (E : KX), args = [.d plan, .d place] ∧ f_middle_corners plan place K E ∧ (∀ r, K r → Φ (.rd r) args) ∧ ∀ c, E c → Ψ c args
@[irreducible] def f_middles (plan : PyData) (place : PyData) (K : KD) (E : KX) : Prop :=
  f_need_place plan place (fun r1 =>
  f_middle_corners plan place (fun r2 =>
  K r2) E) E
def c_middles : CT := fun args Φ Ψ => ∃ (plan : PyData) (place : PyData) (K : KD) (E : KX), args = [.d plan, .d place] ∧ f_middles plan place K E ∧ (∀ r, K r → Φ (.rd r) args) ∧ ∀ c, E c → Ψ c args
end Tx
namespace Tx
open PySem PySem.Spec PyProof.Rows L2 TL
theorem mem_lines {n : Int} {cs : List (Int × Int)} {p : Int × Int} (h : 3 ≤ n) : p ∈ linesOf n cs ↔ (0 ≤ p.1 ∧ p.2 = p.1 + 1 ∧ p.2 < n) ∨ p = (0, n - 1) ∨ p ∈ cs := by
  unfold linesOf
  rw [(sortPP_perm _).mem_iff, List.mem_append]
  unfold sides
  rw [List.mem_append, List.mem_map, List.mem_singleton]
  refine ⟨fun z => ?_, fun z => ?_⟩
  · rcases z with (⟨i, hi, rfl⟩ | z) | z
    · have := List.mem_range.mp hi
      exact .inl ⟨by simp, rfl, by simp only; omega⟩
    · exact .inr (.inl z)
    · exact .inr (.inr z)
  · rcases z with ⟨z1, z2, z3⟩ | z | z
    · exact .inl (.inl ⟨p.1.toNat, List.mem_range.mpr (by omega), Prod.ext (by simp only; omega) (by simp only; omega)⟩)
    · exact .inl (.inr z)
    · exact .inr z
section
variable {n : Int} {l : List (Int × Int)}
theorem tie_sym {cs : List (Int × Int)} {a b : Int} : tieB n cs a b = tieB n cs b a := by
  unfold tieB
  refine decide_eq_decide.mpr ?_
  unfold both
  simp only [List.mem_flatMap, List.mem_cons, List.not_mem_nil, or_false]
  have go : ∀ a b : Int, (∃ p, p ∈ linesOf n cs ∧ ((a, b) = p ∨ (a, b) = swp p)) → ∃ p, p ∈ linesOf n cs ∧ ((b, a) = p ∨ (b, a) = swp p) := fun a b ⟨p, h1, h2⟩ => by
    refine ⟨p, h1, ?_⟩
    rcases h2 with h | h
    · right; rw [← h]; rfl
    · left; unfold swp at h; exact Prod.ext (congrArg Prod.snd h) (congrArg Prod.fst h)
  exact ⟨go a b, go b a⟩
end
end Tx
namespace Tx
open PySem PySem.Spec PyProof.Rows L2 TL
@[irreducible] def f_between (faces : PyData) (start : PyData) (corner : PyData) (end_ : PyData) (K : KD) (E : KX) : Prop :=
  subM corner start fun r1 =>
  modM r1 faces fun r2 =>
  andM (fun Q => ltM (.int 0) r2 Q) (fun Q => subM end_ start fun r5 =>
  modM r5 faces fun r6 =>
  ltM r2 r6 Q) fun b3 =>
  K (.bool b3)
def c_between : CT := fun args Φ Ψ => ∃ (faces : PyData) (start : PyData) (corner : PyData) (end_ : PyData) (K : KD) (E : KX), args = [.d faces, .d start, .d corner, .d end_] ∧ f_between faces start corner end_ K E ∧ (∀ r, K r → Φ (.rd r) args) ∧ ∀ c, E c → Ψ c args
@[irreducible] def f_part_corner (faces : PyData) (near : PyData) (start : PyData) (end_ : PyData) (K : KD) (E : KX) : Prop :=
  modM start faces fun r2 =>
  ixM near r2 fun r3 =>
  itM r3 fun xs1 =>
  forM (fun corner5 (_ : Unit) N6 B7 => andM (fun Q => modM end_ faces fun r10 =>
  ixM near r10 fun r11 =>
  inM corner5 r11 fun b12 =>
  Q b12) (fun Q => modM start faces fun r13 =>
  modM end_ faces fun r14 =>
  f_between faces r13 corner5 r14 (fun r15 =>
  boolM r15 fun b16 =>
  Q b16) E) fun b9 =>
  (b9 = true → (subM corner5 start fun r20 =>
  modM r20 faces fun r21 =>
  addM start r21 fun r22 =>
  K r22)) ∧ (b9 = false → (N6 ()))) (fun (_ : Unit) =>
  K PyData.none) xs1 ()
def c_part_corner : CT := fun args Φ Ψ => ∃ (faces : PyData) (near : PyData) (start : PyData) (end_ : PyData) (K : KD) (E : KX), args = [.d faces, .d near, .d start, .d end_] ∧ f_part_corner faces near start end_ K E ∧ (∀ r, K r → Φ (.rd r) args) ∧ ∀ c, E c → Ψ c args
@[irreducible] def f_put_down_s (rec : PyData → PyData → PyData → PyData → KD → KX → Prop) (faces : PyData) (near : PyData) (arc : PyData) (crossed : PyData) (K : KD) (E : KX) : Prop :=
  un2 arc fun start1 end_2 =>
  subM end_2 start1 fun r4 =>
  eqM r4 (.int 1) fun b5 =>
  (b5 = true → (K (.list [start1]))) ∧ (b5 = false → (f_part_corner faces near start1 end_2 (fun r9 =>
  boolM crossed fun b10 =>
  rec faces near (.tuple [start1, r9]) (.bool (!b10)) (fun r11 =>
  boolM crossed fun b12 =>
  rec faces near (.tuple [r9, end_2]) (.bool (!b12)) (fun r13 =>
  boolM crossed fun b14 =>
  (b14 = true → (addM r13 r11 fun r18 =>
  K r18)) ∧ (b14 = false → (addM r11 r13 fun r19 =>
  K r19))) E) E) E))
def f_put_down : Nat → PyData → PyData → PyData → PyData → KD → KX → Prop
  | 0 => fun _ _ _ _ _ _ => False
  | n + 1 => f_put_down_s (f_put_down n)
def c_put_down (n : Nat) : CT := fun args Φ Ψ => ∃ (faces : PyData) (near : PyData) (arc : PyData) (crossed : PyData) (K : KD) (E : KX), args = [.d faces, .d near, .d arc, .d crossed] ∧ f_put_down n faces near arc crossed K E ∧ (∀ r, K r → Φ (.rd r) args) ∧ ∀ c, E c → Ψ c args
@[irreducible] def f_order_of (plan : PyData) (K : KL) (E : KX) : Prop :=
  ixM plan (.int 0) fun r1 =>
  f_neighbours plan (fun r2 =>
  f_put_down 64 r1 (.list r2) (.tuple [(.int 1), r1]) (.bool false) (fun r3 =>
  addLM (.list [(.int 0)]) r3 fun l4 =>
  K l4) E) E
def c_order_of : CT := fun args Φ Ψ => ∃ (plan : PyData) (K : KL) (E : KX), args = [.d plan] ∧ f_order_of plan K E ∧ (∀ r, K r → Φ (.nl r) args) ∧ ∀ c, E c → Ψ c args
@[irreducible] def f_strip_order (plan : PyData) (K : KL) (E : KX) : Prop :=
  f_need_plan plan (fun r1 =>
  f_order_of plan (fun r2 =>
  K r2) E) E
def c_strip_order : CT := fun args Φ Ψ => ∃ (plan : PyData) (K : KL) (E : KX), args = [.d plan] ∧ f_strip_order plan K E ∧ (∀ r, K r → Φ (.nl r) args) ∧ ∀ c, E c → Ψ c args
end Tx
namespace Tx
open PySem PySem.Spec PyProof.Rows L2 TL
@[irreducible] def f__law_crossed (l_one : PyData) (l_other : PyData) (K : KD) (E : KX) : Prop :=
  un2 l_one fun l_low1 l_high2 =>
  un2 l_other fun l_here4 l_there5 =>
  orM (fun Q => andM (fun Q => ltM l_low1 l_here4 Q) (fun Q => andM (fun Q => ltM l_here4 l_high2 Q) (fun Q => ltM l_high2 l_there5 Q) Q) fun b8 =>
  Q b8) (fun Q => andM (fun Q => ltM l_here4 l_low1 Q) (fun Q => andM (fun Q => ltM l_low1 l_there5 Q) (fun Q => ltM l_there5 l_high2 Q) Q) fun b9 =>
  Q b9) fun b7 =>
  K (.bool b7)
def c__law_crossed : CT := fun args Φ Ψ => ∃ (l_one : PyData) (l_other : PyData) (K : KD) (E : KX), args = [.d l_one, .d l_other] ∧ f__law_crossed l_one l_other K E ∧ (∀ r, K r → Φ (.rd r) args) ∧ ∀ c, E c → Ψ c args
@[irreducible] def f__law_good_plan (l_plan_here : PyData) (K : KD) (E : KX) : Prop :=
  un2 l_plan_here fun l_faces1 l_cuts2 =>
  orM (fun Q => ltM l_faces1 (.int 3) fun b5 =>
  Q b5) (fun Q => orM (fun Q => gtM l_faces1 (.int 40) fun b7 =>
  Q b7) (fun Q => lenM l_cuts2 fun r8 =>
  subM l_faces1 (.int 3) fun r9 =>
  neM r8 r9 fun b10 =>
  Q b10) fun b6 =>
  Q b6) fun b4 =>
  (b4 = true → (K (.bool false))) ∧ (b4 = false → (enuM l_cuts2 fun xs14 =>
  forM (fun p19 (_ : Unit) N20 B21 => un2 p19 fun l_at26 p27 =>
  un2 p27 fun l_low29 l_high30 =>
  orM (fun Q => ltM l_low29 (.int 0) fun b33 =>
  Q b33) (fun Q => orM (fun Q => geM l_high30 l_faces1 fun b35 =>
  Q b35) (fun Q => orM (fun Q => subM l_high30 l_low29 fun r37 =>
  ltM r37 (.int 2) fun b38 =>
  Q b38) (fun Q => subM l_high30 l_low29 fun r39 =>
  subM l_faces1 (.int 1) fun r40 =>
  eqM r39 r40 fun b41 =>
  Q b41) fun b36 =>
  Q b36) fun b34 =>
  Q b34) fun b32 =>
  (b32 = true → (K (.bool false))) ∧ (b32 = false → (andM (fun Q => gtM l_at26 (.int 0) fun b46 =>
  Q b46) (fun Q => ixM l_cuts2 l_at26 fun r47 =>
  subM l_at26 (.int 1) fun r48 =>
  ixM l_cuts2 r48 fun r49 =>
  leM r47 r49 fun b50 =>
  Q b50) fun b45 =>
  (b45 = true → (K (.bool false))) ∧ (b45 = false → (intO l_at26 fun i55 =>
  slM l_cuts2 none (some i55) fun r56 =>
  itM r56 fun xs54 =>
  forM (fun l_other58 (_ : Unit) N59 B60 => f__law_crossed l_other58 (.tuple [l_low29, l_high30]) (fun r62 =>
  boolM r62 fun b63 =>
  (b63 = true → (K (.bool false))) ∧ (b63 = false → (N59 ()))) E) (fun (_ : Unit) =>
  N20 ()) xs54 ()))))) (fun (_ : Unit) =>
  K (.bool true)) xs14 ()))
def c__law_good_plan : CT := fun args Φ Ψ => ∃ (l_plan_here : PyData) (K : KD) (E : KX), args = [.d l_plan_here] ∧ f__law_good_plan l_plan_here K E ∧ (∀ r, K r → Φ (.rd r) args) ∧ ∀ c, E c → Ψ c args
section
variable {K : KD} {E : KX} {Kb : KB} {n : Int} {cs : List (Int × Int)} {p q : Int × Int}
def lcr (p q : Int × Int) : Bool := (decide (p.1 < q.1) && (decide (q.1 < p.2) && decide (p.2 < q.2))) || (decide (q.1 < p.1) && (decide (p.1 < q.2) && decide (q.2 < p.2)))
theorem e__law_crossed : f__law_crossed (ppD p) (ppD q) K E = K (.bool (lcr p q)) := by
  unfold f__law_crossed
  simp only [q_add_ii, q_add_ss, q_add_ll, q_add_tt, q_addL, q_sub, q_mul, q_div, q_mod, q_neg, q_bool, q_eq_ii, q_eq_ss, q_eq_bb, q_ne_ii, q_ne_ss, q_ne_bb, q_lt, q_le, q_gt, q_ge, q_un2, q_un3, q_un4, q_intO, q_len_l, q_len_t, q_len_s, q_abs, q_int_i, q_int_b, q_tup_l, q_tup_t, q_list_l, q_list_t, q_min, q_max, q_it_l, q_it_t, q_rng, q_enu_l, q_enu_t, q_rev, q_sl_l, q_sl_t, q_sl_s, q_slL, q_all, q_any, q_sum, q_sort_pp, q_and, q_or, q_ite, q_join, cond_true, cond_false, true_and, and_true, decide_eq_true_eq, decide_true, decide_false, p_un_pl, p_ix_pl0, p_ix_pl1, p_un_pp, p_ix_pp0, p_ix_pp1, p_mk, p_eq, p_ne, p_in, p_notIn, p_lt]
  rfl
theorem p_le : leM (ppD p) (ppD q) Kb = Kb (!ltPP q p) := by
  show Kb (leTup [p.1, p.2] [q.1, q.2]) = _
  refine congrArg Kb ?_
  unfold leTup ltPP
  simp only [List.length_cons, List.length_nil, Ob.lexAt_succ, Ob.lexAt_zero, Nat.min_self]
  rw [Bool.eq_iff_iff]
  by_cases h1 : p.1 = q.1 <;> by_cases h2 : p.2 = q.2 <;> simp [h1, h2, decide_eq_true_iff] <;> omega
def okAt (n : Int) (cs : List (Int × Int)) (i : Nat) (a : Int × Int) : Bool := (!(decide (a.1 < 0) || (decide (n ≤ a.2) || (decide (a.2 - a.1 < 2) || decide (a.2 - a.1 = n - 1))))) && ((!(decide ((0 : Int) < i) && !ltPP (cs.getD (i - 1) (0, 0)) a)) && (cs.take i).all fun d => !lcr d a)
theorem e__law_good_plan' (hc : cs.length ≤ 1000) : f__law_good_plan (plD n cs) K E = K (.bool ((!(decide (n < 3) || (decide (40 < n) || !decide ((cs.length : Int) = n - 3)))) && (cs.mapIdx fun i a => (i, a)).all fun q => okAt n cs q.1 q.2)) := by
  have hsl := sizeLine_eq
  unfold f__law_good_plan
  simp only [q_add_ii, q_add_ss, q_add_ll, q_add_tt, q_addL, q_sub, q_mul, q_div, q_mod, q_neg, q_bool, q_eq_ii, q_eq_ss, q_eq_bb, q_ne_ii, q_ne_ss, q_ne_bb, q_lt, q_le, q_gt, q_ge, q_un2, q_un3, q_un4, q_intO, q_len_l, q_len_t, q_len_s, q_abs, q_int_i, q_int_b, q_tup_l, q_tup_t, q_list_l, q_list_t, q_min, q_max, q_it_l, q_it_t, q_rng, q_enu_l, q_enu_t, q_rev, q_sl_l, q_sl_t, q_sl_s, q_slL, q_all, q_any, q_sum, q_sort_pp, q_and, q_or, q_ite, q_join, cond_true, cond_false, true_and, and_true, decide_eq_true_eq, decide_true, decide_false, p_un_pl, p_ix_pl0, p_ix_pl1, p_un_pp, p_ix_pp0, p_ix_pp1, p_mk, p_eq, p_ne, p_in, p_notIn, p_lt, List.length_map]
  cases (decide (n < 3) || (decide (40 < n) || !decide ((cs.length : Int) = n - 3)))
  · rw [cond_false, Bool.not_false, Bool.true_and, enum_map]
    rw [q_for_all (R := K (.bool false)) _ _ (fun q => okAt n cs q.1 q.2) fun q hq N => ?_]
    · cases (cs.mapIdx fun i a => (i, a)).all fun q => okAt n cs q.1 q.2 <;> rfl
    · obtain ⟨i, c⟩ := q
      have hi : i < cs.length := by
        obtain ⟨j, hj⟩ := List.mem_iff_getElem?.mp hq
        rw [List.getElem?_mapIdx] at hj
        obtain ⟨c, hc, e⟩ := Option.map_eq_some_iff.mp hj
        cases e
        exact (List.getElem?_eq_some_iff.mp hc).1
      have hic : cs[i]? = some c := by
        obtain ⟨j, hj⟩ := List.mem_iff_getElem?.mp hq
        rw [List.getElem?_mapIdx] at hj
        obtain ⟨c', hc', e⟩ := Option.map_eq_some_iff.mp hj
        cases e
        exact hc'
      unfold okAt
      simp only [q_add_ii, q_add_ss, q_add_ll, q_add_tt, q_addL, q_sub, q_mul, q_div, q_mod, q_neg, q_bool, q_eq_ii, q_eq_ss, q_eq_bb, q_ne_ii, q_ne_ss, q_ne_bb, q_lt, q_le, q_gt, q_ge, q_un2, q_un3, q_un4, q_intO, q_len_l, q_len_t, q_len_s, q_abs, q_int_i, q_int_b, q_tup_l, q_tup_t, q_list_l, q_list_t, q_min, q_max, q_it_l, q_it_t, q_rng, q_enu_l, q_enu_t, q_rev, q_sl_l, q_sl_t, q_sl_s, q_slL, q_all, q_any, q_sum, q_sort_pp, q_and, q_or, q_ite, q_join, cond_true, cond_false, true_and, and_true, decide_eq_true_eq, decide_true, decide_false, p_un_pl, p_ix_pl0, p_ix_pl1, p_un_pp, p_ix_pp0, p_ix_pp1, p_mk, p_eq, p_ne, p_in, p_notIn, p_lt]
      cases (decide (c.1 < 0) || (decide (n ≤ c.2) || (decide (c.2 - c.1 < 2) || decide (c.2 - c.1 = n - 1))))
      · rw [cond_false, Bool.not_false, Bool.true_and]
        have ec : cs.getD i (0, 0) = c := by rw [List.getD_eq_getElem?_getD, hic]; rfl
        rw [q_and' (b1 := decide ((0 : Int) < i)) (b2 := !ltPP (cs.getD (i - 1) (0, 0)) c) (fun Q => rfl) fun e Q => by
          have e := of_decide_eq_true e
          rw [at_cs (by omega) (by omega)]
          show ixM _ _ _ = _
          rw [at_cs (by omega) (by omega), Int.toNat_natCast, ec, show ((i : Int) - 1).toNat = i - 1 by omega]
          exact p_le]
        cases (decide ((0 : Int) < i) && !ltPP (cs.getD (i - 1) (0, 0)) c)
        · rw [cond_false, Bool.not_false, Bool.true_and, cut_pp (by omega) (by omega), Int.toNat_natCast]
          rw [q_for_all (R := K (.bool false)) _ _ (fun d => !lcr d c) fun d hd N => ?_]
          show f__law_crossed (ppD d) (ppD c) _ _ = _
          rw [e__law_crossed, q_bool]
          cases lcr d c <;> rfl
        · rfl
      · rfl
  · rfl
theorem cutB_if2 {c : Int × Int} : cutB n c = true ↔ 0 ≤ c.1 ∧ c.2 < n ∧ 2 ≤ c.2 - c.1 ∧ c.2 - c.1 ≠ n - 1 := by
  unfold cutB
  simp only [Bool.and_eq_true, decide_eq_true_eq, Bool.not_eq_true', decide_eq_false_iff_not]
  omega
theorem cross_lcr {c d : Int × Int} (h1 : c.1 < c.2) (h2 : d.1 < d.2) : crossB c d = lcr d c := by
  rw [cross_eq, Bool.eq_iff_iff]
  unfold lcr
  simp only [Bool.and_eq_true, Bool.or_eq_true, decide_eq_true_eq]
  omega
theorem okAt_iff {i : Nat} {a : Int × Int} : okAt n cs i a = true ↔ cutB n a = true ∧ (0 < i → ltPP (cs.getD (i - 1) (0, 0)) a = true) ∧ ∀ d ∈ cs.take i, lcr d a = false := by
  rw [cutB_if2]
  unfold okAt
  simp only [Bool.and_eq_true, Bool.not_eq_true', Bool.or_eq_false_iff, decide_eq_false_iff_not, List.all_eq_true, Bool.and_eq_false_iff]
  refine ⟨fun ⟨h1, h2, h3⟩ => ⟨by omega, fun hi => ?_, h3⟩, fun ⟨h1, h2, h3⟩ => ⟨by omega, ?_, h3⟩⟩
  · rcases h2 with h | h
    · omega
    · simpa using h
  · by_cases hi : (0 : Int) < i
    · exact .inr (by simpa using h2 (by omega))
    · exact .inl hi
theorem good_eq : ((!(decide (n < 3) || (decide (40 < n) || !decide ((cs.length : Int) = n - 3)))) && (cs.mapIdx fun i a => (i, a)).all fun q => okAt n cs q.1 q.2) = planB n cs := by
  have ai : (cs.mapIdx fun i a => (i, a)).all (fun q => okAt n cs q.1 q.2) = true ↔ ∀ i (hi : i < cs.length), okAt n cs i cs[i] = true := by
    rw [List.all_eq_true]
    refine ⟨fun h i hi => h (i, cs[i]) (List.mem_iff_getElem?.mpr ⟨i, by rw [List.getElem?_mapIdx, List.getElem?_eq_getElem hi]; rfl⟩), fun h q hq => ?_⟩
    obtain ⟨j, hj⟩ := List.mem_iff_getElem?.mp hq
    rw [List.getElem?_mapIdx] at hj
    obtain ⟨c, hc, rfl⟩ := Option.map_eq_some_iff.mp hj
    obtain ⟨hjl, hjc⟩ := List.getElem?_eq_some_iff.mp hc
    have := h j hjl
    rw [hjc] at this
    exact this
  have hd : (!(decide (n < 3) || (decide (40 < n) || !decide ((cs.length : Int) = n - 3)))) = (decide (3 ≤ n) && decide (n ≤ 40) && decide ((cs.length : Int) = n - 3)) := by
    rw [Bool.eq_iff_iff]
    simp only [Bool.not_eq_true', Bool.or_eq_false_iff, decide_eq_false_iff_not, Bool.and_eq_true, decide_eq_true_eq, Bool.not_eq_false']
    omega
  unfold planB
  rw [hd]
  cases (decide (3 ≤ n) && decide (n ≤ 40) && decide ((cs.length : Int) = n - 3))
  · rfl
  rw [Bool.true_and, Bool.true_and, Bool.eq_iff_iff, ai, Bool.and_eq_true, Bool.and_eq_true, List.all_eq_true]
  unfold adjB nocB
  rw [List.all_eq_true, List.all_eq_true]
  refine ⟨fun h => ⟨⟨fun c hc => ?_, fun i hi => ?_⟩, fun i hi => ?_⟩, fun ⟨⟨h1, h2⟩, h3⟩ i hi => ?_⟩
  · obtain ⟨i, hi, rfl⟩ := List.getElem_of_mem hc
    exact (okAt_iff.mp (h i hi)).1
  · have hi := List.mem_range.mp hi
    have := (okAt_iff.mp (h (i + 1) (by omega))).2.1 (by omega)
    rw [getD_at (show i + 1 < cs.length by omega)]
    exact this
  · have hi := List.mem_range.mp hi
    rw [getD_at hi, Bool.not_eq_true', List.any_eq_false]
    intro d hd
    have o := okAt_iff.mp (h i hi)
    have c1 := cutB_if2.mp o.1
    obtain ⟨j, hj, rfl⟩ := List.getElem_of_mem (List.mem_of_mem_take hd)
    have c2 := cutB_if2.mp (okAt_iff.mp (h j hj)).1
    rw [cross_lcr (by omega) (by omega), o.2.2 _ hd]
    decide
  · have c1 := h1 cs[i] (List.getElem_mem hi)
    refine okAt_iff.mpr ⟨c1, fun h0 => ?_, fun d hd => ?_⟩
    · have := h2 (i - 1) (List.mem_range.mpr (by omega))
      rw [show i - 1 + 1 = i by omega, getD_at hi] at this
      exact this
    · have q := h3 i (List.mem_range.mpr hi)
      rw [getD_at hi, Bool.not_eq_true', List.any_eq_false] at q
      have := q d hd
      have k1 := cutB_if2.mp c1
      have k2 := cutB_if2.mp (h1 d (List.mem_of_mem_take hd))
      rw [cross_lcr (by omega) (by omega)] at this
      simpa using this
theorem e__law_good_plan (hc : cs.length ≤ 1000) : f__law_good_plan (plD n cs) K E = K (.bool (planB n cs)) := by
  rw [e__law_good_plan' hc, good_eq]
end
end Tx
namespace Tx
open PySem PySem.Spec PyProof.Rows L2 TL
@[irreducible] def f__law_odd (l_many : PyData) (K : KD) (E : KX) : Prop :=
  subM (.int 0) (.int 1) fun r1 =>
  addM l_many (.int 1) fun r2 =>
  subM l_many (.int 1) fun r3 =>
  subM (.int 0) (.int 1000000000000000000000000000000) fun r4 =>
  f__law_pull (.int 50) (fun r5 =>
  f__law_pull (.int 9) (fun r6 =>
  ixM (.list [r1, (.int 0), (.int 1), l_many, r2, r3, (.int 1000000000000000000000000000000), r4, r5]) r6 fun r7 =>
  K r7) E) E
def c__law_odd : CT := fun args Φ Ψ => ∃ (a_l_bag_here : Addr) (l_many : PyData) (K : KD) (E : KX), args = [.bg a_l_bag_here, .d l_many] ∧ f__law_odd l_many K E ∧ (∀ r, K r → Φ (.rd r) args) ∧ ∀ c, E c → Ψ c args
@[irreducible] def f__law_bent_plan (l_plan_here : PyData) (K : KD) (E : KX) : Prop :=
  un2 l_plan_here fun l_faces1 l_cuts2 =>
  f__law_pull (.int 8) (fun r4 =>
  orM (fun Q => eqM r4 (.int 0) fun b6 =>
  Q b6) (fun Q => eqM l_cuts2 (.tuple []) fun b7 =>
  Q b7) fun b5 =>
  (b5 = true → (f__law_odd l_faces1 (fun r11 =>
  K (.tuple [r11, l_cuts2])) E)) ∧ (b5 = false → (lenM l_cuts2 fun r12 =>
  f__law_pull r12 (fun r13 =>
  eqM r4 (.int 1) fun b14 =>
  (b14 = true → (intO r13 fun i18 =>
  slM l_cuts2 none (some i18) fun r19 =>
  addM r13 (.int 1) fun r20 =>
  intO r20 fun i21 =>
  slM l_cuts2 (some i21) none fun r22 =>
  addM r19 r22 fun r23 =>
  K (.tuple [l_faces1, r23]))) ∧ (b14 = false → (eqM r4 (.int 2) fun b24 =>
  (b24 = true → (intO r13 fun i28 =>
  slM l_cuts2 none (some i28) fun r29 =>
  ixM l_cuts2 r13 fun r30 =>
  addM r29 (.tuple [r30]) fun r31 =>
  intO r13 fun i32 =>
  slM l_cuts2 (some i32) none fun r33 =>
  addM r31 r33 fun r34 =>
  K (.tuple [l_faces1, r34]))) ∧ (b24 = false → (eqM r4 (.int 3) fun b35 =>
  (b35 = true → (intO r13 fun i39 =>
  slM l_cuts2 none (some i39) fun r40 =>
  intO r13 fun i41 =>
  addM r13 (.int 2) fun r42 =>
  intO r42 fun i43 =>
  slM l_cuts2 (some i41) (some i43) fun r44 =>
  revDM r44 fun r45 =>
  addM r40 r45 fun r46 =>
  addM r13 (.int 2) fun r47 =>
  intO r47 fun i48 =>
  slM l_cuts2 (some i48) none fun r49 =>
  addM r46 r49 fun r50 =>
  K (.tuple [l_faces1, r50]))) ∧ (b35 = false → (eqM r4 (.int 4) fun b51 =>
  (b51 = true → (intO r13 fun i55 =>
  slM l_cuts2 none (some i55) fun r56 =>
  ixM l_cuts2 r13 fun r57 =>
  ixM r57 (.int 1) fun r58 =>
  ixM l_cuts2 r13 fun r59 =>
  ixM r59 (.int 0) fun r60 =>
  addM r56 (.tuple [(.tuple [r58, r60])]) fun r61 =>
  addM r13 (.int 1) fun r62 =>
  intO r62 fun i63 =>
  slM l_cuts2 (some i63) none fun r64 =>
  addM r61 r64 fun r65 =>
  K (.tuple [l_faces1, r65]))) ∧ (b51 = false → (ixM l_cuts2 r13 fun r66 =>
  un2 r66 fun l_low67 l_high68 =>
  f__law_odd l_faces1 (fun r70 =>
  absM r70 fun r71 =>
  modM r71 (.int 41) fun r72 =>
  f__law_pull (.int 41) (fun r73 =>
  addM r72 r73 fun r74 =>
  subM r4 (.int 5) fun r75 =>
  ixM (.list [(.tuple [r70, l_high68]), (.tuple [l_low67, r70]), (.tuple [r72, r74])]) r75 fun r76 =>
  un2 r76 fun l_low77 l_high78 =>
  intO r13 fun i80 =>
  slM l_cuts2 none (some i80) fun r81 =>
  addM r13 (.int 1) fun r82 =>
  intO r82 fun i83 =>
  slM l_cuts2 (some i83) none fun r84 =>
  addM r81 r84 fun r85 =>
  listM r85 fun l86 =>
  addM (.list l86) (.list [(.tuple [l_low77, l_high78])]) fun r87 =>
  sortM r87 fun l88 =>
  tupM (.list l88) fun r89 =>
  K (.tuple [l_faces1, r89])) E) E))))))))) E))) E
def c__law_bent_plan : CT := fun args Φ Ψ => ∃ (a_l_bag_here : Addr) (l_plan_here : PyData) (K : KD) (E : KX), args = [.bg a_l_bag_here, .d l_plan_here] ∧ f__law_bent_plan l_plan_here K E ∧ (∀ r, K r → Φ (.rd r) args) ∧ ∀ c, E c → Ψ c args
section
variable {K : KD} {E : KX} {Kb : KB} {n : Int} {cs : List (Int × Int)} {p q : Int × Int}
theorem i__law_odd {m : Int} (hK : ∀ k : Int, K (.int k)) : f__law_odd (.int m) K E := by
  unfold f__law_odd
  simp only [q_add_ii, q_add_ss, q_add_ll, q_add_tt, q_addL, q_sub, q_mul, q_div, q_mod, q_neg, q_bool, q_eq_ii, q_eq_ss, q_eq_bb, q_ne_ii, q_ne_ss, q_ne_bb, q_lt, q_le, q_gt, q_ge, q_un2, q_un3, q_un4, q_intO, q_len_l, q_len_t, q_len_s, q_abs, q_int_i, q_int_b, q_tup_l, q_tup_t, q_list_l, q_list_t, q_min, q_max, q_it_l, q_it_t, q_rng, q_enu_l, q_enu_t, q_rev, q_sl_l, q_sl_t, q_sl_s, q_slL, q_all, q_any, q_sum, q_sort_pp, q_and, q_or, q_ite, q_join, cond_true, cond_false, true_and, and_true, decide_eq_true_eq, decide_true, decide_false, p_un_pl, p_ix_pl0, p_ix_pl1, p_un_pp, p_ix_pp0, p_ix_pp1, p_mk, p_eq, p_ne, p_in, p_notIn, p_lt]
  rw [e__law_pull (by decide) (by decide)]
  intro a a0 a1
  rw [e__law_pull (by decide) (by decide)]
  intro r r0 r1
  have er : r = 0 ∨ r = 1 ∨ r = 2 ∨ r = 3 ∨ r = 4 ∨ r = 5 ∨ r = 6 ∨ r = 7 ∨ r = 8 := by omega
  rcases er with rfl | rfl | rfl | rfl | rfl | rfl | rfl | rfl | rfl <;> exact hK _
theorem shp_ppT (L : List (Int × Int)) : SeqAt.shaped (.tuple (L.map ppD)) = true := by
  have h := shp_pp L
  unfold SeqAt.shaped at *
  exact h
theorem cut_pps (cs : List (Int × Int)) (lo hi : Option Int) : ∃ ds : List (Int × Int), cut (cs.map ppD) lo hi = ds.map ppD ∧ ds.length ≤ cs.length := by
  unfold cut
  rw [← List.map_drop, ← List.map_take]
  exact ⟨_, rfl, by rw [List.length_take, List.length_drop]; omega⟩
theorem at_pps {i : Int} (h0 : 0 ≤ i) (h : i < cs.length) : ∃ p, ∀ K : KD, ixM (.tuple (cs.map ppD)) (.int i) K = K (ppD p) := ⟨cs.getD i.toNat (0, 0), fun K => at_cs h0 h⟩
theorem i__law_bent_plan (hc : cs.length ≤ 1000) (hK : ∀ n' ds, ds.length ≤ 3 * cs.length + 3 → K (plD n' ds)) : f__law_bent_plan (plD n cs) K E := by
  have hsl := sizeLine_eq
  have put : ∀ (A B : List (Int × Int)), A.length ≤ cs.length → B.length ≤ 2 * cs.length + 3 → ∀ K' : KD, (∀ L : List (Int × Int), L.length ≤ A.length + B.length → K' (.tuple (L.map ppD))) → addM (.tuple (A.map ppD)) (.tuple (B.map ppD)) K' := fun A B ha hb K' h => by
    rw [q_add_tt]
    refine ⟨by rw [List.length_map, List.length_map]; omega, ?_⟩
    rw [← List.map_append]
    exact h _ (by rw [List.length_append]; exact Nat.le_refl _)
  have hsn : SeqAt.shaped (.tuple []) = true := by decide +kernel
  unfold f__law_bent_plan
  rw [p_un_pl, e__law_pull (by decide) (by decide)]
  intro w w0 w1
  simp only [q_eq_ii, q_ite, q_intO, q_add_ii, q_sl_t, q_len_t]
  have eor : ∀ Q : KB, TL.orM (fun Q => Q (decide (w = 0))) (fun Q => eqM (.tuple (cs.map ppD)) (.tuple []) fun b => Q b) Q = Q (decide (w = 0) || PyData.eqv (.tuple (cs.map ppD)) (.tuple [])) := fun Q => q_or' (fun _ => rfl) fun _ Q => by
    rw [q_eq_tt]
    exact propext ((and_iff_right (shp_ppT _)).trans (and_iff_right hsn))
  rw [eor]
  cases hb : (decide (w = 0) || PyData.eqv (.tuple (cs.map ppD)) (.tuple []))
  · rw [cond_false]
    have hne : cs ≠ [] := fun z => by
      rw [z] at hb
      have : PyData.eqv (.tuple (List.map ppD [])) (.tuple []) = true := by decide +kernel
      rw [this, Bool.or_true] at hb; cases hb
    have hpos : 0 < cs.length := List.length_pos_iff.mpr hne
    rw [List.length_map, e__law_pull (by omega) (by omega)]
    intro i i0 i1
    obtain ⟨A, hA, lA⟩ := cut_pps cs none (some i)
    obtain ⟨B, hB, lB⟩ := cut_pps cs (some i) none
    obtain ⟨C, hC, lC⟩ := cut_pps cs (some (i + 1)) none
    obtain ⟨D, hD, lD⟩ := cut_pps cs (some i) (some (i + 2))
    obtain ⟨G, hG, lG⟩ := cut_pps cs (some (i + 2)) none
    obtain ⟨p, hp⟩ := at_pps i0 i1
    have ofL : ∀ L : List (Int × Int), L.length ≤ 3 * cs.length + 3 → K (.tuple [.int n, .tuple (L.map ppD)]) := fun L hL => hK n L hL
    simp only [q_eq_ii, q_ite, q_intO, q_add_ii, q_sl_t, q_len_t, revDM, hA, hB, hC, hD, hG, hp, p_ix_pp0, p_ix_pp1, p_un_pp]
    cases h1 : decide (w = 1)
    · rw [cond_false]
      cases h2 : decide (w = 2)
      · rw [cond_false]
        cases h3 : decide (w = 3)
        · rw [cond_false]
          cases h4 : decide (w = 4)
          · rw [cond_false]
            refine i__law_odd fun k => ?_
            simp only [q_abs, q_mod, show (0 : Int) < 41 by decide, true_and]
            rw [e__law_pull (by decide) (by decide)]
            intro r r0 r1
            have fin : ∀ q : Int × Int, (fun r76 => un2 r76 fun l_low77 l_high78 => addM (.tuple (A.map ppD)) (.tuple (C.map ppD)) fun r85 => listM r85 fun l86 => addM (.list l86) (.list [(.tuple [l_low77, l_high78])]) fun r87 => sortM r87 fun l88 => K (.tuple [.int n, .tuple l88])) (ppD q) := fun q => by
              show un2 (ppD q) _
              rw [p_un_pp]
              refine put A C lA (by omega) _ fun L hL => ?_
              rw [q_list_t, show PyData.tuple [.int q.1, .int q.2] = ppD q from rfl, q_add_ll]
              refine ⟨by rw [List.length_map]; simp; omega, ?_⟩
              rw [show L.map ppD ++ [ppD q] = (L ++ [q]).map ppD by simp, q_sort_pp, srt_pp]
              exact ofL _ (by rw [(sortPP_perm _).length_eq]; simp; omega)
            have ew : w = 5 ∨ w = 6 ∨ w = 7 := by
              have := of_decide_eq_false h4
              have h0 : ¬ w = 0 := fun z => by rw [z] at hb; simp at hb
              have a1 := of_decide_eq_false h1
              have a2 := of_decide_eq_false h2
              have a3 := of_decide_eq_false h3
              omega
            rcases ew with rfl | rfl | rfl
            · exact fin (k, p.2)
            · exact fin (p.1, k)
            · exact fin (_, _)
          · rw [cond_true]
            rw [show ([.tuple [.int p.2, .int p.1]] : List PyData) = [(p.2, p.1)].map ppD from rfl]
            refine put A [(p.2, p.1)] lA (by simp) _ fun L hL => ?_
            rw [q_add_tt]
            simp only [List.length_singleton] at hL
            refine ⟨by rw [List.length_map, List.length_map]; omega, ?_⟩
            rw [← List.map_append]
            exact ofL _ (by rw [List.length_append]; omega)
        · rw [cond_true]
          show addM _ _ _
          rw [show (D.map ppD).reverse = D.reverse.map ppD by rw [List.map_reverse]]
          refine put A D.reverse lA (by rw [List.length_reverse]; omega) _ fun L hL => ?_
          rw [List.length_reverse] at hL
          rw [q_add_tt]
          refine ⟨by rw [List.length_map, List.length_map]; omega, ?_⟩
          rw [← List.map_append]
          exact ofL _ (by rw [List.length_append]; omega)
      · rw [cond_true]
        rw [show ([ppD p] : List PyData) = [p].map ppD from rfl]
        refine put A [p] lA (by simp) _ fun L hL => ?_
        simp only [List.length_singleton] at hL
        rw [q_add_tt]
        refine ⟨by rw [List.length_map, List.length_map]; omega, ?_⟩
        rw [← List.map_append]
        exact ofL _ (by rw [List.length_append]; omega)
    · rw [cond_true]
      exact put A C lA (by omega) _ fun L hL => ofL L (by omega)
  · rw [cond_true]
    exact i__law_odd fun k => hK k cs (by omega)
end
end Tx
namespace Tx
open PySem PySem.Spec PyProof.Rows L2 TL
@[irreducible] def f_turned_by (plan : PyData) (many : PyData) (K : KD) (E : KX) : Prop :=
  un2 plan fun faces1 cuts2 =>
  itM cuts2 fun xs4 =>
  lcM (fun p5 kp sk => un2 p5 fun low7 high8 =>
  addM low7 many fun r10 =>
  modM r10 faces1 fun r11 =>
  addM high8 many fun r12 =>
  modM r12 faces1 fun r13 =>
  f_pair_of r11 r13 (fun r14 =>
  kp r14) (fun _ => False)) (fun l6 =>
  sortM (.list l6) fun l15 =>
  tupM (.list l15) fun r16 =>
  K (.tuple [faces1, r16])) xs4 []
def c_turned_by : CT := fun args Φ Ψ => ∃ (plan : PyData) (many : PyData) (K : KD) (E : KX), args = [.d plan, .d many] ∧ f_turned_by plan many K E ∧ (∀ r, K r → Φ (.rd r) args) ∧ ∀ c, E c → Ψ c args
@[irreducible] def f_turned (plan : PyData) (shift : PyData) (K : KD) (E : KX) : Prop :=
  f_need_plan plan (fun r1 =>
  f_turned_by plan shift (fun r2 =>
  K r2) E) E
def c_turned : CT := fun args Φ Ψ => ∃ (plan : PyData) (shift : PyData) (K : KD) (E : KX), args = [.d plan, .d shift] ∧ f_turned plan shift K E ∧ (∀ r, K r → Φ (.rd r) args) ∧ ∀ c, E c → Ψ c args
@[irreducible] def f_mirrored (plan : PyData) (K : KD) (E : KX) : Prop :=
  f_need_plan plan (fun r1 =>
  un2 plan fun faces2 cuts3 =>
  itM cuts3 fun xs5 =>
  lcM (fun p6 kp sk => un2 p6 fun low8 high9 =>
  subM faces2 low8 fun r11 =>
  modM r11 faces2 fun r12 =>
  subM faces2 high9 fun r13 =>
  modM r13 faces2 fun r14 =>
  f_pair_of r12 r14 (fun r15 =>
  kp r15) (fun _ => False)) (fun l7 =>
  sortM (.list l7) fun l16 =>
  tupM (.list l16) fun r17 =>
  K (.tuple [faces2, r17])) xs5 []) E
def c_mirrored : CT := fun args Φ Ψ => ∃ (plan : PyData) (K : KD) (E : KX), args = [.d plan] ∧ f_mirrored plan K E ∧ (∀ r, K r → Φ (.rd r) args) ∧ ∀ c, E c → Ψ c args
/-- a map of the corners that keeps what a cut is, and what crosses -/
structure Cor (n : Int) (g : Int → Int) : Prop where
  rg : ∀ x, 0 ≤ x → x < n → 0 ≤ g x ∧ g x < n
  inj : ∀ x y, 0 ≤ x → x < n → 0 ≤ y → y < n → g x = g y → x = y
  cut : ∀ x y, 0 ≤ x → x < n → 0 ≤ y → y < n → (g x - g y = 1 ∨ g y - g x = 1 ∨ g x - g y = n - 1 ∨ g y - g x = n - 1) → (x - y = 1 ∨ y - x = 1 ∨ x - y = n - 1 ∨ y - x = n - 1)
  noc : ∀ a b c d, 0 ≤ a → a < b → b < n → 0 ≤ c → c < d → d < n → crossB (a, b) (c, d) = false → crossB (nrmP (g a) (g b)) (nrmP (g c) (g d)) = false
theorem nrmP_lt {a b : Int} (h : a ≠ b) : (nrmP a b).1 < (nrmP a b).2 ∧ ((nrmP a b = (a, b) ∧ a < b) ∨ (nrmP a b = (b, a) ∧ b < a)) := by
  unfold nrmP
  by_cases c : b < a
  · rw [if_pos c, if_neg (by omega)]; exact ⟨c, .inr ⟨rfl, c⟩⟩
  · rw [if_neg c, if_pos (by omega)]; exact ⟨by show a < b; omega, .inl ⟨rfl, by omega⟩⟩
theorem Cor.plan {n : Int} {g : Int → Int} {cs : List (Int × Int)} (h : Cor n g) (hp : IsPlan n cs) : IsPlan n (sortPP (cs.map fun p => nrmP (g p.1) (g p.2))) ∧ (cs.map fun p => nrmP (g p.1) (g p.2)).Nodup := by
  have bd : ∀ c ∈ cs, 0 ≤ c.1 ∧ c.1 < n ∧ 0 ≤ c.2 ∧ c.2 < n ∧ c.1 < c.2 := fun c hc => by have := hp.cut c hc; omega
  have ne : ∀ c ∈ cs, g c.1 ≠ g c.2 := fun c hc e => by
    obtain ⟨b1, b2, b3, b4, b5⟩ := bd c hc
    have := h.inj _ _ b1 b2 b3 b4 e; omega
  have pm := sortPP_perm (cs.map fun p => nrmP (g p.1) (g p.2))
  have nd0 : cs.Nodup := hp.srt.imp fun {p q} hlt e => by
    subst e; unfold ltPP at hlt; simp at hlt
  have inj : ∀ p ∈ cs, ∀ q ∈ cs, nrmP (g p.1) (g p.2) = nrmP (g q.1) (g q.2) → p = q := fun p hp1 q hq e => by
    obtain ⟨b1, b2, b3, b4, b5⟩ := bd p hp1
    obtain ⟨c1, c2, c3, c4, c5⟩ := bd q hq
    have e1 := (nrmP_lt (ne p hp1)).2
    have e2 := (nrmP_lt (ne q hq)).2
    rcases e1 with ⟨e1, l1⟩ | ⟨e1, l1⟩ <;> rcases e2 with ⟨e2, l2⟩ | ⟨e2, l2⟩ <;> rw [e1, e2] at e <;> injection e with x1 x2
    · exact Prod.ext (h.inj _ _ b1 b2 c1 c2 x1) (h.inj _ _ b3 b4 c3 c4 x2)
    · have := h.inj _ _ b1 b2 c3 c4 x1; have := h.inj _ _ b3 b4 c1 c2 x2; omega
    · have := h.inj _ _ b3 b4 c1 c2 x1; have := h.inj _ _ b1 b2 c3 c4 x2; omega
    · exact Prod.ext (h.inj _ _ b1 b2 c1 c2 x2) (h.inj _ _ b3 b4 c3 c4 x1)
  have nd : (cs.map fun p => nrmP (g p.1) (g p.2)).Nodup := by
    refine List.pairwise_map.mpr ?_
    have : cs.Pairwise fun p q => p ∈ cs ∧ q ∈ cs ∧ p ≠ q := by
      have := List.Pairwise.and_mem.mp nd0
      exact this.imp fun {p q} hh => ⟨hh.1, hh.2.1, hh.2.2⟩
    exact this.imp fun {p q} ⟨m1, m2, hne⟩ e => hne (inj p m1 q m2 e)
  refine ⟨⟨hp.lo, hp.hi, by rw [pm.length_eq, List.length_map]; exact hp.len, fun c hc => ?_, sortPP_lt nd, fun c hc d hd => ?_⟩, nd⟩
  · obtain ⟨p, hp1, rfl⟩ := List.mem_map.mp (pm.mem_iff.mp hc)
    obtain ⟨b1, b2, b3, b4, b5⟩ := bd p hp1
    have r1 := h.rg _ b1 b2
    have r2 := h.rg _ b3 b4
    have cu := hp.cut p hp1
    have hc := h.cut p.1 p.2 b1 b2 b3 b4
    rcases (nrmP_lt (ne p hp1)).2 with ⟨e1, l1⟩ | ⟨e1, l1⟩ <;> rw [e1] <;> dsimp only <;> refine ⟨by omega, ?_, by omega, fun z => ?_⟩
    · by_cases q : g p.2 - g p.1 = 1
      · have := hc (.inr (.inl q)); omega
      · omega
    · have := hc (.inr (.inr (.inr (by omega)))); omega
    · by_cases q : g p.1 - g p.2 = 1
      · have := hc (.inl q); omega
      · omega
    · have := hc (.inr (.inr (.inl (by omega)))); omega
  · obtain ⟨p, hp1, rfl⟩ := List.mem_map.mp (pm.mem_iff.mp hc)
    obtain ⟨q, hq1, rfl⟩ := List.mem_map.mp (pm.mem_iff.mp hd)
    obtain ⟨b1, b2, b3, b4, b5⟩ := bd p hp1
    obtain ⟨c1, c2, c3, c4, c5⟩ := bd q hq1
    exact h.noc p.1 p.2 q.1 q.2 b1 b5 b4 c1 c5 c4 (hp.noc p hp1 q hq1)
end Tx
namespace Tx
open PySem PySem.Spec PyProof.Rows L2 TL
@[irreducible] def f_right_parts (plan : PyData) (K : (List (List Key × PyData) → Prop)) (E : KX) : Prop :=
  f_neighbours plan (fun r1 =>
  ixM plan (.int 0) fun r2 =>
  ∃ n : Nat, whileM (fun (s : (List PyData) × (List (List Key × PyData))) N13 B14 => match s with
  | (left_15, found16) => neM (.list left_15) (.list []) fun b23 =>
  (b23 = true → (popM left_15 fun l25 y26 =>
  un2 y26 fun p27 right_28 =>
  un2 p27 fun start30 end_31 =>
  ixM (.list r1) start30 fun r34 =>
  itM r34 fun xs33 =>
  forM (fun corner40 (s : (List (List Key × PyData)) × (List PyData)) N41 B42 => match s with
  | (found43, left_44) => andM (fun Q => ixM (.list r1) end_31 fun r49 =>
  inM corner40 r49 fun b50 =>
  Q b50) (fun Q => f_between r2 end_31 corner40 start30 (fun r51 =>
  boolM r51 fun b52 =>
  Q b52) E) fun b48 =>
  (b48 = true → (sortM (.list [start30, end_31, corner40]) fun l56 =>
  tupM (.list l56) fun r57 =>
  putTM found43 r57 right_28 fun kv58 =>
  boolM right_28 fun b59 =>
  left_44.length < sizeLine ∧ (boolM right_28 fun b61 =>
  (left_44 ++ ([(.tuple [(.tuple [corner40, end_31]), (.bool (!b59))])] : List PyData)).length < sizeLine ∧ (N41 (kv58, ((left_44 ++ ([(.tuple [(.tuple [corner40, end_31]), (.bool (!b59))])] : List PyData)) ++ ([(.tuple [(.tuple [start30, corner40]), (.bool (!b61))])] : List PyData))))))) ∧ (b48 = false → (N41 (found43, left_44)))) (fun (s : (List (List Key × PyData)) × (List PyData)) =>
  match s with
  | (found35, left_36) => N13 (left_36, found35)) xs33 (found16, l25))) ∧ (b23 = false → B14 (left_15, found16))) (fun (s : (List PyData) × (List (List Key × PyData))) =>
  match s with
  | (left_5, found6) => K found6) n ([(.tuple [(.tuple [(.int 0), (.int 1)]), (.bool true)])], [])) E
def c_right_parts : CT := fun args Φ Ψ => ∃ (plan : PyData) (K : (List (List Key × PyData) → Prop)) (E : KX), args = [.d plan] ∧ f_right_parts plan K E ∧ (∀ r, K r → Φ (.nt r) args) ∧ ∀ c, E c → Ψ c args
inductive Tr where
  | lf
  | nd (a b : Tr)
namespace Tr
def sz : Tr → Int
  | .lf => 1
  | .nd a b => a.sz + b.sz
def arcs : Tr → Int → List (Int × Int)
  | .lf, _ => []
  | .nd a b, s => (s, s + a.sz) :: (s + a.sz, s + a.sz + b.sz) :: (a.arcs s ++ b.arcs (s + a.sz))
end Tr
open Tr
theorem Arcs.tr {s e : Int} {l : List (Int × Int)} (h : Arcs s e l) (hs : s < e) : ∃ t : Tr, t.sz = e - s ∧ l = t.arcs s := by
  induction h with
  | leaf h => exact ⟨.lf, by show (1 : Int) = _; omega, rfl⟩
  | @node s m e a b h1 h2 _ _ ia ib =>
    obtain ⟨ta, a1, rfl⟩ := ia h1
    obtain ⟨tb, b1, rfl⟩ := ib h2
    have e1 : s + ta.sz = m := by omega
    have e2 : m + tb.sz = e := by omega
    refine ⟨.nd ta tb, by show ta.sz + tb.sz = _; omega, ?_⟩
    show _ = (s, s + ta.sz) :: (s + ta.sz, s + ta.sz + tb.sz) :: (ta.arcs s ++ tb.arcs (s + ta.sz))
    rw [e1, e2]
end Tx
namespace Tx
open PySem PySem.Spec PyProof.Rows L2 TL
open Tr
/-- parts of a depth below k -/
def Tr.dp : Tr → Int → Nat → List (Int × Int × Int)
  | _, _, 0 => []
  | .lf, _, _ => []
  | .nd a b, s, k + 1 => (s, s + a.sz, s + a.sz + b.sz) :: (b.dp (s + a.sz) k ++ a.dp s k)
end Tx
namespace Tx
open PySem PySem.Spec PyProof.Rows L2 TL
/-- the stretch from a on, ahead of b -/
def sb (R : List Bool) (a b : Nat) : List Bool := (R.drop a).take (b - a)
end Tx
namespace Tx
open PySem PySem.Spec PyProof.Rows L2 TL
@[irreducible] def f_row_of (plan : PyData) (K : KD) (E : KX) : Prop :=
  f_need_plan plan (fun r1 =>
  ixM plan (.int 0) fun r2 =>
  f_neighbours plan (fun r3 =>
  f_right_parts plan (fun r5 =>
  f_order_of plan (fun r7 =>
  itM (.list r7) fun xs6 =>
  forM (fun leaf12 found15 N13 B14 => addM leaf12 (.int 1) fun r19 =>
  modM r19 r2 fun r20 =>
  ixM (.list r3) leaf12 fun r22 =>
  itM r22 fun xs21 =>
  lcM (fun other23 kp sk => ixM (.list r3) r20 fun r25 =>
  inM other23 r25 fun b26 =>
  (b26 = true → (kp other23)) ∧ (b26 = false → sk)) (fun l24 =>
  ixM (.list l24) (.int 0) fun r27 =>
  joinM (fun (Q : PyData → Prop) => sortM (.list [leaf12, r20, r27]) fun l28 =>
  tupM (.list l28) fun r29 =>
  getTM r5 r29 fun r30 =>
  boolM r30 fun b31 =>
  (b31 = true → (addM found15 (.str "r") fun r35 =>
  Q r35)) ∧ (b31 = false → (addM found15 (.str "l") fun r36 =>
  Q r36))) (fun found37 =>
  N13 found37)) xs21 []) (fun found8 =>
  K found8) xs6 (.str "")) E) E) E) E
def c_row_of : CT := fun args Φ Ψ => ∃ (plan : PyData) (K : KD) (E : KX), args = [.d plan] ∧ f_row_of plan K E ∧ (∀ r, K r → Φ (.rd r) args) ∧ ∀ c, E c → Ψ c args
open Tr
namespace Tr
/-- the hands of the leaves in order -/
def row : Tr → Bool → Bool → List Bool
  | .lf, _, h => [h]
  | .nd a b, x, h => if x then b.row (!x) (!h) ++ a.row (!x) (!h) else a.row (!x) (!h) ++ b.row (!x) (!h)
end Tr
end Tx
namespace Tx
open PySem PySem.Spec PyProof.Rows L2 TL
@[irreducible] def f_third_corner (plan : PyData) (near : PyData) (place : PyData) (way : PyData) (K : KD) (E : KX) : Prop :=
  un2 place fun top1 under2 =>
  ifM (fun Q => eqM way (.str "even") fun b5 =>
  Q b5) (fun Q => Q (.tuple [top1, under2])) (fun Q => Q (.tuple [under2, top1])) fun r4 =>
  un2 r4 fun start6 end_7 =>
  ixM near top1 fun r10 =>
  itM r10 fun xs9 =>
  forM (fun corner12 (_ : Unit) N13 B14 => andM (fun Q => ixM near under2 fun r17 =>
  inM corner12 r17 fun b18 =>
  Q b18) (fun Q => ixM plan (.int 0) fun r19 =>
  f_between r19 start6 corner12 end_7 (fun r20 =>
  boolM r20 fun b21 =>
  Q b21) E) fun b16 =>
  (b16 = true → (K corner12)) ∧ (b16 = false → (N13 ()))) (fun (_ : Unit) =>
  K PyData.none) xs9 ()
def c_third_corner : CT := fun args Φ Ψ => ∃ (plan : PyData) (near : PyData) (place : PyData) (way : PyData) (K : KD) (E : KX), args = [.d plan, .d near, .d place, .d way] ∧ f_third_corner plan near place way K E ∧ (∀ r, K r → Φ (.rd r) args) ∧ ∀ c, E c → Ψ c args
@[irreducible] def f_need_way (way : PyData) (K : KD) (E : KX) : Prop :=
  inTupM way [.str "even", .str "odd"] fun b1 =>
  ((!b1) = true → (E (.own "BadWay"))) ∧ ((!b1) = false → (K .none))
def c_need_way : CT := fun args Φ Ψ => ∃ (way : PyData) (K : KD) (E : KX), args = [.d way] ∧ f_need_way way K E ∧ (∀ r, K r → Φ (.rd r) args) ∧ ∀ c, E c → Ψ c args
@[irreducible] def f_third (plan : PyData) (place : PyData) (way : PyData) (K : KD) (E : KX) : Prop :=
  f_need_place plan place (fun r1 =>
  f_need_way way (fun r2 =>
  f_neighbours plan (fun r3 =>
  f_third_corner plan (.list r3) place way (fun r4 =>
  K r4) E) E) E) E
def c_third : CT := fun args Φ Ψ => ∃ (plan : PyData) (place : PyData) (way : PyData) (K : KD) (E : KX), args = [.d plan, .d place, .d way] ∧ f_third plan place way K E ∧ (∀ r, K r → Φ (.rd r) args) ∧ ∀ c, E c → Ψ c args
@[irreducible] def f_corner_for (plan : PyData) (place : PyData) (way : PyData) (K : KD) (E : KX) : Prop :=
  f_third plan place way (fun r1 =>
  ((isNone r1) = true → (E (.own "NoPinch"))) ∧ ((isNone r1) = false → (K r1))) E
def c_corner_for : CT := fun args Φ Ψ => ∃ (plan : PyData) (place : PyData) (way : PyData) (K : KD) (E : KX), args = [.d plan, .d place, .d way] ∧ f_corner_for plan place way K E ∧ (∀ r, K r → Φ (.rd r) args) ∧ ∀ c, E c → Ψ c args
@[irreducible] def f_pinch (plan : PyData) (place : PyData) (way : PyData) (K : KD) (E : KX) : Prop :=
  f_corner_for plan place way (fun r1 =>
  ixM place (.int 0) fun r2 =>
  K (.tuple [r1, r2])) E
def c_pinch : CT := fun args Φ Ψ => ∃ (plan : PyData) (place : PyData) (way : PyData) (K : KD) (E : KX), args = [.d plan, .d place, .d way] ∧ f_pinch plan place way K E ∧ (∀ r, K r → Φ (.rd r) args) ∧ ∀ c, E c → Ψ c args
@[irreducible] def f_unpinch (plan : PyData) (place : PyData) (way : PyData) (K : KD) (E : KX) : Prop :=
  f_corner_for plan place way (fun r1 =>
  ixM place (.int 1) fun r2 =>
  K (.tuple [r2, r1])) E
def c_unpinch : CT := fun args Φ Ψ => ∃ (plan : PyData) (place : PyData) (way : PyData) (K : KD) (E : KX), args = [.d plan, .d place, .d way] ∧ f_unpinch plan place way K E ∧ (∀ r, K r → Φ (.rd r) args) ∧ ∀ c, E c → Ψ c args
@[irreducible] def f_is_upright (plan : PyData) (place : PyData) (K : KD) (E : KX) : Prop :=
  f_neighbours plan (fun r1 =>
  f_right_parts plan (fun r3 =>
  un2 place fun top4 under5 =>
  f_third_corner plan (.list r1) place (.str "odd") (fun r7 =>
  ((!isNone r7) = true → (sortM (.list [top4, under5, r7]) fun l11 =>
  tupM (.list l11) fun r12 =>
  getTM r3 r12 fun r13 =>
  K r13)) ∧ ((!isNone r7) = false → (f_third_corner plan (.list r1) place (.str "even") (fun r14 =>
  sortM (.list [top4, under5, r14]) fun l15 =>
  tupM (.list l15) fun r16 =>
  getTM r3 r16 fun r17 =>
  boolM r17 fun b18 =>
  K (.bool (!b18))) E))) E) E) E
def c_is_upright : CT := fun args Φ Ψ => ∃ (plan : PyData) (place : PyData) (K : KD) (E : KX), args = [.d plan, .d place] ∧ f_is_upright plan place K E ∧ (∀ r, K r → Φ (.rd r) args) ∧ ∀ c, E c → Ψ c args
@[irreducible] def f_upright (plan : PyData) (place : PyData) (K : KD) (E : KX) : Prop :=
  f_need_place plan place (fun r1 =>
  f_is_upright plan place (fun r2 =>
  K r2) E) E
def c_upright : CT := fun args Φ Ψ => ∃ (plan : PyData) (place : PyData) (K : KD) (E : KX), args = [.d plan, .d place] ∧ f_upright plan place K E ∧ (∀ r, K r → Φ (.rd r) args) ∧ ∀ c, E c → Ψ c args
open Tr
/-- the first corner behind s and ahead of e that has a line with both -/
def thd (n : Int) (cs : List (Int × Int)) (s e : Int) : Option Int := ((List.range ((e - s) % n - 1).toNat).find? fun (k : Nat) => tieB n cs s ((s + k + 1) % n) && tieB n cs e ((s + k + 1) % n)).map fun (k : Nat) => (s + k + 1) % n
/-- the third corner of a place, by its way -/
def thW (n : Int) (cs : List (Int × Int)) (p : Int × Int) (ev : Bool) : Option Int := if ev then thd n cs p.1 p.2 else thd n cs p.2 p.1
section
variable {K : KD} {Kl : KL} {E : KX} {Kb : KB} {n : Int} {cs : List (Int × Int)}
variable (hp : IsPlan n cs)
include hp
theorem mod_diff {a b : Int} (ha : 0 ≤ a) (ha2 : a < n) (hb : 0 ≤ b) (hb2 : b < n) (hab : a ≠ b) : ((b - a) % n = b - a ∧ a < b ∨ (b - a) % n = b - a + n ∧ b < a) ∧ 0 < (b - a) % n ∧ (b - a) % n < n ∧ (b - a) % n + (a - b) % n = n := by
  have h3 := hp.lo
  by_cases h : a < b
  · have e1 : (b - a) % n = b - a := Int.emod_eq_of_lt (by omega) (by omega)
    have e2 : (a - b) % n = a - b + n := by rw [← Int.add_emod_right, Int.emod_eq_of_lt (by omega) (by omega)]
    refine ⟨.inl ⟨e1, h⟩, ?_, ?_, ?_⟩ <;> omega
  · have e1 : (a - b) % n = a - b := Int.emod_eq_of_lt (by omega) (by omega)
    have e2 : (b - a) % n = b - a + n := by rw [← Int.add_emod_right, Int.emod_eq_of_lt (by omega) (by omega)]
    refine ⟨.inr ⟨e2, by omega⟩, ?_, ?_, ?_⟩ <;> omega
end
end Tx
namespace Tx
open PySem PySem.Spec PyProof.Rows L2 TL
/-- two neighbours alike -/
def adj : List Bool → Bool
  | a :: b :: r => (a == b) || adj (b :: r)
  | _ => false
end Tx
namespace Tx
open PySem PySem.Spec PyProof.Rows L2 TL
@[irreducible] def f_number_by_s (rec : PyData → PyData → PyData → PyData → KD → KX → Prop) (row : PyData) (near : PyData) (start : PyData) (steps : PyData) (K : KD) (E : KX) : Prop :=
  eqM steps (.int 1) fun b1 =>
  (b1 = true → (K (.int 0))) ∧ (b1 = false → (lenM near fun r5 =>
  rngM (.int 1) steps fun xs6 =>
  forM (fun first_11 found14 N12 B13 => addM start first_11 fun r18 =>
  modM r18 r5 fun r19 =>
  andM (fun Q => modM start r5 fun r21 =>
  ixM near r21 fun r22 =>
  inM r19 r22 fun b23 =>
  Q b23) (fun Q => addM start steps fun r24 =>
  modM r24 r5 fun r25 =>
  ixM near r25 fun r26 =>
  inM r19 r26 fun b27 =>
  Q b27) fun b20 =>
  (b20 = true → (subM steps first_11 fun r31 =>
  ixM row r31 fun r32 =>
  intO found14 fun u33 =>
  rec row near start first_11 (fun r36 =>
  mulM r36 r32 fun r37 =>
  intO r37 fun m34 =>
  addM start first_11 fun r38 =>
  subM steps first_11 fun r39 =>
  rec row near r38 r39 (fun r40 =>
  addM (.int (u33 + m34)) r40 fun r41 =>
  K r41) E) E)) ∧ (b20 = false → (intO found14 fun u42 =>
  ixM row first_11 fun r45 =>
  subM steps first_11 fun r46 =>
  ixM row r46 fun r47 =>
  mulM r45 r47 fun r48 =>
  intO r48 fun m43 =>
  N12 (.int (u42 + m43))))) (fun found7 =>
  K found7) xs6 (.int 0)))
def f_number_by : Nat → PyData → PyData → PyData → PyData → KD → KX → Prop
  | 0 => fun _ _ _ _ _ _ => False
  | n + 1 => f_number_by_s (f_number_by n)
def c_number_by (n : Nat) : CT := fun args Φ Ψ => ∃ (row : PyData) (near : PyData) (start : PyData) (steps : PyData) (K : KD) (E : KX), args = [.d row, .d near, .d start, .d steps] ∧ f_number_by n row near start steps K E ∧ (∀ r, K r → Φ (.rd r) args) ∧ ∀ c, E c → Ψ c args
@[irreducible] def f_number_of (plan : PyData) (K : KD) (E : KX) : Prop :=
  f_need_plan plan (fun r1 =>
  ixM plan (.int 0) fun r2 =>
  subM r2 (.int 1) fun r3 =>
  f_ways_row r3 (fun r4 =>
  f_neighbours plan (fun r5 =>
  ixM plan (.int 0) fun r6 =>
  subM r6 (.int 1) fun r7 =>
  f_number_by 64 (.list r4) (.list r5) (.int 1) r7 (fun r8 =>
  K r8) E) E) E) E
def c_number_of : CT := fun args Φ Ψ => ∃ (plan : PyData) (K : KD) (E : KX), args = [.d plan] ∧ f_number_of plan K E ∧ (∀ r, K r → Φ (.rd r) args) ∧ ∀ c, E c → Ψ c args
open Tr
end Tx
namespace Tx
open PySem PySem.Spec PyProof.Rows L2 TL
@[irreducible] def f_least_of (plan : PyData) (K : KD) (E : KX) : Prop :=
  ixM plan (.int 0) fun r2 =>
  rngM (.int 0) r2 fun xs1 =>
  lcM (fun many3 kp sk => f_turned_by plan many3 (fun r5 =>
  kp r5) (fun _ => False)) (fun l4 =>
  minDM (.list l4) fun r6 =>
  K r6) xs1 []
def c_least_of : CT := fun args Φ Ψ => ∃ (plan : PyData) (K : KD) (E : KX), args = [.d plan] ∧ f_least_of plan K E ∧ (∀ r, K r → Φ (.rd r) args) ∧ ∀ c, E c → Ψ c args
@[irreducible] def f_alike (one : PyData) (other : PyData) (K : KD) (E : KX) : Prop :=
  f_need_plan one (fun r1 =>
  f_need_plan other (fun r2 =>
  andM (fun Q => ixM one (.int 0) fun r4 =>
  ixM other (.int 0) fun r5 =>
  eqM r4 r5 fun b6 =>
  Q b6) (fun Q => f_least_of one (fun r7 =>
  f_least_of other (fun r8 =>
  eqM r7 r8 fun b9 =>
  Q b9) E) E) fun b3 =>
  K (.bool b3)) E) E
def c_alike : CT := fun args Φ Ψ => ∃ (one : PyData) (other : PyData) (K : KD) (E : KX), args = [.d one, .d other] ∧ f_alike one other K E ∧ (∀ r, K r → Φ (.rd r) args) ∧ ∀ c, E c → Ψ c args
@[irreducible] def f_first_form (plan : PyData) (K : KD) (E : KX) : Prop :=
  f_need_plan plan (fun r1 =>
  f_least_of plan (fun r2 =>
  K r2) E) E
def c_first_form : CT := fun args Φ Ψ => ∃ (plan : PyData) (K : KD) (E : KX), args = [.d plan] ∧ f_first_form plan K E ∧ (∀ r, K r → Φ (.rd r) args) ∧ ∀ c, E c → Ψ c args
end Tx
namespace Tx
open PySem PySem.Spec PyProof.Rows L2 TL
open Tr
/-- between two corners, going round from the first one -/
def btw (n s c e : Int) : Bool := decide (0 < (c - s) % n) && decide ((c - s) % n < (e - s) % n)
theorem btw_iff {n s c e : Int} : btw n s c e = true ↔ 0 < (c - s) % n ∧ (c - s) % n < (e - s) % n := by
  unfold btw
  rw [Bool.and_eq_true_iff, decide_eq_true_iff, decide_eq_true_iff]
def goL (n s e : Int) : List Int := (List.range ((e - s) % n - 1).toNat).map fun (k : Nat) => (s + k + 1) % n
section
variable {K : KD} {Kl : KL} {E : KX} {Kb : KB} {n : Int} {cs : List (Int × Int)}
variable (hp : IsPlan n cs)
include hp
theorem mem_goL {s c e : Int} (s0 : 0 ≤ s) (s1 : s < n) (c0 : 0 ≤ c) (c1 : c < n) (e0 : 0 ≤ e) (e1 : e < n) (hne : s ≠ e) : decide (c ∈ goL n s e) = btw n s c e := by
  have h3 := hp.lo
  obtain ⟨d1, d2, d3, d4⟩ := mod_diff hp s0 s1 e0 e1 hne
  rw [Bool.eq_iff_iff, decide_eq_true_iff, btw_iff]
  unfold goL
  rw [List.mem_map]
  constructor
  · rintro ⟨k, hk, rfl⟩
    have hk := List.mem_range.mp hk
    have : ((s + (k : Int) + 1) % n - s) % n = k + 1 := by
      rw [Int.emod_sub_emod, show s + (k : Int) + 1 - s = k + 1 by omega]
      exact Int.emod_eq_of_lt (by omega) (by omega)
    omega
  · rintro ⟨h1, h2⟩
    refine ⟨((c - s) % n - 1).toNat, List.mem_range.mpr (by omega), ?_⟩
    rw [show s + ((((c - s) % n - 1).toNat : Nat) : Int) + 1 = s + (c - s) % n by omega, Int.add_emod_emod, show s + (c - s) = c by omega]
    exact Int.emod_eq_of_lt c0 c1
theorem thd_eq (s e : Int) : thd n cs s e = (goL n s e).find? fun c => tieB n cs s c && tieB n cs e c := by
  unfold thd goL
  rw [List.find?_map]
  rfl
/-- lines do not cross -/
theorem noX {a b c d : Int} (h1 : tieB n cs a b = true) (h2 : tieB n cs c d = true) (x1 : a < c) (x2 : c < b) (x3 : b < d) : False := by
  have lok := lines_ok hp
  have b1 := tie_lt hp h1
  have b2 := tie_lt hp h2
  have one : ∀ x y : Int, x < y → tieB n cs x y = true → (x, y) ∈ linesOf n cs := fun x y hxy h => by
    unfold tieB at h
    rw [decide_eq_true_iff, mem_both hp] at h
    rcases h with h | h
    · exact h
    · have := lok.lt _ h; simp only at this; omega
  have m1 := one a b (by omega) h1
  have m2 := one c d (by omega) h2
  have cut : ∀ x y : Int, x + 1 < y → ¬ (x = 0 ∧ y = n - 1) → (x, y) ∈ linesOf n cs → (x, y) ∈ cs := fun x y hxy hn h => by
    rcases (mem_lines hp.lo).mp h with h | h | h
    · simp only at h; omega
    · exact absurd ⟨congrArg Prod.fst h, congrArg Prod.snd h⟩ hn
    · exact h
  have := hp.noc _ (cut a b (by omega) (by omega) m1) _ (cut c d (by omega) (by omega) m2)
  rw [cross_eq] at this
  have := of_decide_eq_false this
  simp only at this
  omega
theorem uniq_side {t u c d : Int} (h : tieB n cs t u = true) (c1 : tieB n cs t c = true) (c2 : tieB n cs u c = true) (d1 : tieB n cs t d = true) (d2 : tieB n cs u d = true) (bc : btw n u c t = true) (bd : btw n u d t = true) : c = d := by
  have key : ∀ c d : Int, tieB n cs t c = true → tieB n cs u c = true → tieB n cs t d = true → tieB n cs u d = true → btw n u c t = true → btw n u d t = true → (c - u) % n < (d - u) % n → False := fun c d c1 c2 d1 d2 bc bd lt => by
    have bc := btw_iff.mp bc
    have bd := btw_iff.mp bd
    have h0 := tie_lt hp h
    have hc := tie_lt hp c1
    have hd := tie_lt hp d1
    have hc2 := tie_lt hp c2
    have hd2 := tie_lt hp d2
    obtain ⟨mt, _, _, _⟩ := mod_diff hp (a := u) (b := t) (by omega) (by omega) (by omega) (by omega) (by omega)
    obtain ⟨mc, _, _, _⟩ := mod_diff hp (a := u) (b := c) (by omega) (by omega) (by omega) (by omega) (by omega)
    obtain ⟨md, _, _, _⟩ := mod_diff hp (a := u) (b := d) (by omega) (by omega) (by omega) (by omega) (by omega)
    have sym : ∀ {x y : Int}, tieB n cs x y = true → tieB n cs y x = true := fun h => by rw [tie_sym]; exact h
    have hcase : (u < c ∧ c < d ∧ d < t) ∨ (c < d ∧ d < t ∧ t < u) ∨ (d < t ∧ t < u ∧ u < c) ∨ (t < u ∧ u < c ∧ c < d) := by omega
    rcases hcase with ⟨x1, x2, x3⟩ | ⟨x1, x2, x3⟩ | ⟨x1, x2, x3⟩ | ⟨x1, x2, x3⟩
    · exact noX hp d2 (sym c1) x1 x2 x3
    · exact noX hp (sym c1) (sym d2) x1 x2 x3
    · exact noX hp (sym d2) c1 x1 x2 x3
    · exact noX hp c1 d2 x1 x2 x3
  rcases Int.lt_trichotomy ((c - u) % n) ((d - u) % n) with x | x | x
  · exact (key c d c1 c2 d1 d2 bc bd x).elim
  · have hc := tie_lt hp c1
    have hd := tie_lt hp d1
    have h0 := tie_lt hp h
    have hc2 := tie_lt hp c2
    have hd2 := tie_lt hp d2
    obtain ⟨mc, _, _, _⟩ := mod_diff hp (a := u) (b := c) (by omega) (by omega) (by omega) (by omega) (by omega)
    obtain ⟨md, _, _, _⟩ := mod_diff hp (a := u) (b := d) (by omega) (by omega) (by omega) (by omega) (by omega)
    omega
  · exact (key d c d1 d2 c1 c2 bd bc x).elim
/-- what the third corner tells -/
theorem thd_some {s e c : Int} (h : tieB n cs s e = true) (ht : thd n cs s e = some c) : tieB n cs s c = true ∧ tieB n cs e c = true ∧ btw n s c e = true := by
  obtain ⟨s0, s1, e0, e1, hne⟩ := tie_lt hp h
  rw [thd_eq hp] at ht
  have h1 := List.find?_some (p := fun c => tieB n cs s c && tieB n cs e c) ht
  have h2 := List.mem_of_find?_eq_some ht
  obtain ⟨a, b⟩ := Bool.and_eq_true_iff.mp h1
  obtain ⟨_, _, c0, c1, _⟩ := tie_lt hp a
  exact ⟨a, b, by rw [← mem_goL hp s0 s1 c0 c1 e0 e1 hne]; exact decide_eq_true h2⟩
theorem thd_none {s e c : Int} (h : tieB n cs s e = true) (ht : thd n cs s e = none) (h1 : tieB n cs s c = true) (h2 : tieB n cs e c = true) (hb : btw n s c e = true) : False := by
  obtain ⟨s0, s1, e0, e1, hne⟩ := tie_lt hp h
  obtain ⟨_, _, c0, c1, _⟩ := tie_lt hp h1
  rw [thd_eq hp] at ht
  rw [← mem_goL hp s0 s1 c0 c1 e0 e1 hne] at hb
  have := List.find?_eq_none.mp ht c (of_decide_eq_true hb)
  rw [h1, h2] at this
  exact this rfl
theorem thd_is {s e c : Int} (h : tieB n cs s e = true) (h1 : tieB n cs s c = true) (h2 : tieB n cs e c = true) (hb : btw n s c e = true) : thd n cs s e = some c := by
  cases ht : thd n cs s e with
  | none => exact (thd_none hp h ht h1 h2 hb).elim
  | some d =>
    obtain ⟨a, b, e'⟩ := thd_some hp h ht
    have h' : tieB n cs e s = true := by rw [tie_sym]; exact h
    rw [uniq_side hp h' b a h2 h1 e' hb]
end
end Tx
namespace Tx
open PySem PySem.Spec PyProof.Rows L2 TL
section
variable {K : KD} {Kl : KL} {E : KX} {Kb : KB} {n : Int} {cs : List (Int × Int)}
variable (hp : IsPlan n cs)
include hp
/-- c is the third corner of the place (t, u), by its way -/
structure Th (n : Int) (cs : List (Int × Int)) (ev : Bool) (t u c : Int) : Prop where
  tu : tieB n cs t u = true
  tc : tieB n cs t c = true
  uc : tieB n cs u c = true
  o : (if ev then btw n t c u else btw n u c t) = true
omit hp in
theorem tsym {a b : Int} (h : tieB n cs a b = true) : tieB n cs b a = true := by rw [tie_sym]; exact h
theorem Th.eq {ev : Bool} {t u c : Int} (x : Th n cs ev t u c) : thW n cs (t, u) ev = some c := by
  have o := x.o
  unfold thW
  cases ev with
  | true => rw [if_pos rfl] at o ⊢; exact thd_is hp x.tu x.tc x.uc o
  | false => rw [if_neg (by decide)] at o ⊢; exact thd_is hp (tsym x.tu) x.uc x.tc o
/-- turned over -/
theorem Th.ov {ev : Bool} {t u c : Int} (x : Th n cs ev t u c) : Th n cs (!ev) u t c := by
  refine ⟨tsym x.tu, x.uc, x.tc, ?_⟩
  have o := x.o
  cases ev with
  | true => exact o
  | false => exact o
end
end Tx
namespace Tx
open PySem PySem.Spec PyProof.Rows L2 TL
@[irreducible] def f_stepped (plan : PyData) (place : PyData) (step : PyData) (K : KD) (E : KX) : Prop :=
  eqM step (.tuple [(.str "over")]) fun b1 =>
  (b1 = true → (ixM place (.int 1) fun r5 =>
  ixM place (.int 0) fun r6 =>
  K (.tuple [r5, r6]))) ∧ (b1 = false → (orM (fun Q => lenM step fun r8 =>
  neM r8 (.int 2) fun b9 =>
  Q b9) (fun Q => orM (fun Q => ixM step (.int 0) fun r11 =>
  notInM r11 (.tuple [(.str "pinch"), (.str "unpinch")]) fun b12 =>
  Q b12) (fun Q => ixM step (.int 1) fun r13 =>
  inTupM r13 [.str "even", .str "odd"] fun b14 =>
  Q (!b14)) fun b10 =>
  Q b10) fun b7 =>
  (b7 = true → (E (.own "BadStep"))) ∧ (b7 = false → (ixM step (.int 0) fun r18 =>
  eqM r18 (.str "pinch") fun b19 =>
  (b19 = true → (ixM step (.int 1) fun r23 =>
  f_pinch plan place r23 (fun r24 =>
  K r24) E)) ∧ (b19 = false → (ixM step (.int 1) fun r25 =>
  f_unpinch plan place r25 (fun r26 =>
  K r26) E))))))
def c_stepped : CT := fun args Φ Ψ => ∃ (plan : PyData) (place : PyData) (step : PyData) (K : KD) (E : KX), args = [.d plan, .d place, .d step] ∧ f_stepped plan place step K E ∧ (∀ r, K r → Φ (.rd r) args) ∧ ∀ c, E c → Ψ c args
@[irreducible] def f_walked (plan : PyData) (place : PyData) (steps : PyData) (K : KD) (E : KX) : Prop :=
  f_need_place plan place (fun r1 =>
  itM steps fun xs2 =>
  forM (fun step5 here8 N6 B7 => f_stepped plan here8 step5 (fun r10 =>
  N6 r10) E) (fun here3 =>
  K here3) xs2 place) E
def c_walked : CT := fun args Φ Ψ => ∃ (plan : PyData) (place : PyData) (steps : PyData) (K : KD) (E : KX), args = [.d plan, .d place, .d steps] ∧ f_walked plan place steps K E ∧ (∀ r, K r → Φ (.rd r) args) ∧ ∀ c, E c → Ψ c args
end Tx
namespace Tx
open PySem PySem.Spec PyProof.Rows L2 TL
@[irreducible] def f_round_from (faces : PyData) (start : PyData) (end_ : PyData) (K : KL) (E : KX) : Prop :=
  ∃ n : Nat, whileM (fun (s : (List PyData) × PyData) N5 B6 => match s with
  | (found7, here8) => neM here8 end_ fun b10 =>
  (b10 = true → (found7.length < sizeLine ∧ (f_follows faces here8 (fun r13 =>
  N5 ((found7 ++ ([here8] : List PyData)), r13)) E))) ∧ (b10 = false → B6 (found7, here8))) (fun (s : (List PyData) × PyData) =>
  match s with
  | (found2, here3) => K found2) n ([], start)
def c_round_from : CT := fun args Φ Ψ => ∃ (faces : PyData) (start : PyData) (end_ : PyData) (K : KL) (E : KX), args = [.d faces, .d start, .d end_] ∧ f_round_from faces start end_ K E ∧ (∀ r, K r → Φ (.nl r) args) ∧ ∀ c, E c → Ψ c args
@[irreducible] def f_stacks (plan : PyData) (place : PyData) (K : KD) (E : KX) : Prop :=
  f_need_place plan place (fun r1 =>
  un2 place fun top2 under3 =>
  ixM plan (.int 0) fun r5 =>
  f_round_from r5 top2 under3 (fun r6 =>
  ixM plan (.int 0) fun r7 =>
  f_round_from r7 under3 top2 (fun r8 =>
  revDM (.list r8) fun r9 =>
  K (.tuple [(.list r6), r9])) E) E) E
def c_stacks : CT := fun args Φ Ψ => ∃ (plan : PyData) (place : PyData) (K : KD) (E : KX), args = [.d plan, .d place] ∧ f_stacks plan place K E ∧ (∀ r, K r → Φ (.rd r) args) ∧ ∀ c, E c → Ψ c args
@[irreducible] def f_steps_from (plan : PyData) (near : PyData) (place : PyData) (K : KL) (E : KX) : Prop :=
  un2 place fun top1 under2 =>
  forM (fun way9 found12 N10 B11 => f_third_corner plan near place way9 (fun r16 =>
  ((!isNone r16) = true → (found12.length < sizeLine ∧ ((found12 ++ ([(.tuple [(.tuple [(.str "pinch"), way9]), (.tuple [r16, top1])])] : List PyData)).length < sizeLine ∧ (N10 ((found12 ++ ([(.tuple [(.tuple [(.str "pinch"), way9]), (.tuple [r16, top1])])] : List PyData)) ++ ([(.tuple [(.tuple [(.str "unpinch"), way9]), (.tuple [under2, r16])])] : List PyData)))))) ∧ ((!isNone r16) = false → (N10 found12))) E) (fun found5 =>
  K found5) [.str "even", .str "odd"] []
def c_steps_from : CT := fun args Φ Ψ => ∃ (plan : PyData) (near : PyData) (place : PyData) (K : KL) (E : KX), args = [.d plan, .d near, .d place] ∧ f_steps_from plan near place K E ∧ (∀ r, K r → Φ (.nl r) args) ∧ ∀ c, E c → Ψ c args
@[irreducible] def f_road (plan : PyData) (place : PyData) (other : PyData) (K : KL) (E : KX) : Prop :=
  f_need_place plan place (fun r1 =>
  f_need_place plan other (fun r2 =>
  f_neighbours plan (fun r3 =>
  dispTM [(place, PyData.none)] fun m6 =>
  ∃ n : Nat, whileM (fun (s : (List (List Key × PyData)) × (List PyData) × PyData) N44 B45 => match s with
  | (came46, row47, at_48) => lenM (.list row47) fun r53 =>
  ltM at_48 r53 fun b54 =>
  (b54 = true → (ixM (.list row47) at_48 fun r57 =>
  f_steps_from plan (.list r3) r57 (fun r58 =>
  itM (.list r58) fun xs56 =>
  forM (fun p68 (s : (List (List Key × PyData)) × (List PyData)) N69 B70 => match s with
  | (came71, row72) => un2 p68 fun step77 there78 =>
  inTM came71 there78 fun b80 =>
  ((!b80) = true → (ixM (.list row72) at_48 fun r84 =>
  putTM came71 there78 (.tuple [step77, r84]) fun kv85 =>
  row72.length < sizeLine ∧ (N69 (kv85, (row72 ++ ([there78] : List PyData)))))) ∧ ((!b80) = false → (N69 (came71, row72)))) (fun (s : (List (List Key × PyData)) × (List PyData)) =>
  match s with
  | (came59, row60) => intO at_48 fun u65 =>
  intO (.int 1) fun m66 =>
  N44 (came59, row60, (.int (u65 + m66)))) xs56 (came46, row47)) E)) ∧ (b54 = false → B45 (came46, row47, at_48))) (fun (s : (List (List Key × PyData)) × (List PyData) × PyData) =>
  match s with
  | (came8, row9, at_10) => joinM (fun (Q : ((List PyData) × PyData) → Prop) => inTM came8 other fun b16 =>
  ((!b16) = true → (([] : List PyData).length < sizeLine ∧ (ixM other (.int 1) fun r21 =>
  ixM other (.int 0) fun r22 =>
  Q (([] ++ ([(.tuple [(.str "over")])] : List PyData)), (.tuple [r21, r22]))))) ∧ ((!b16) = false → (Q ([], other)))) (fun (s : (List PyData) × PyData) =>
  match s with
  | (found23, here24) => ∃ n : Nat, whileM (fun (s : PyData × (List PyData)) N31 B32 => match s with
  | (here33, found34) => getTM came8 here33 fun r37 =>
  ((!isNone r37) = true → (getTM came8 here33 fun r39 =>
  un2 r39 fun step40 here41 =>
  found34.length < sizeLine ∧ (N31 (here41, (found34 ++ ([step40] : List PyData)))))) ∧ ((!isNone r37) = false → B32 (here33, found34))) (fun (s : PyData × (List PyData)) =>
  match s with
  | (here26, found27) => revM (.list found27) fun l30 =>
  K l30) n (here24, found23))) n (m6, [place], (.int 0))) E) E) E
def c_road : CT := fun args Φ Ψ => ∃ (plan : PyData) (place : PyData) (other : PyData) (K : KL) (E : KX), args = [.d plan, .d place, .d other] ∧ f_road plan place other K E ∧ (∀ r, K r → Φ (.nl r) args) ∧ ∀ c, E c → Ψ c args
@[irreducible] def f_tour_by_s (rec : PyData → PyData → PyData → (List (List Key × PyData)) → (List PyData → List (List Key × PyData) → Prop) → Prop) (plan : PyData) (near : PyData) (place : PyData) (seen : List (List Key × PyData)) (K : (List PyData → List (List Key × PyData) → Prop)) : Prop :=
  forM (fun way10 (s : (List (List Key × PyData)) × (List PyData)) N11 B12 => match s with
  | (seen13, found14) => f_third_corner plan near place way10 (fun r21 =>
  ((!isNone r21) = true → (ixM place (.int 0) fun r25 =>
  ixM place (.int 1) fun r26 =>
  sortM (.list [r25, r26, r21]) fun l27 =>
  tupM (.list l27) fun r28 =>
  inTM seen13 r28 fun b29 =>
  ((!b29) = true → (putTM seen13 r28 (.bool true) fun kv33 =>
  rngM (.int 0) (.int 3) fun xs34 =>
  forM (fun turn40 (s : (List PyData) × PyData × (List (List Key × PyData))) N41 B42 => match s with
  | (found43, here44, seen45) => found43.length < sizeLine ∧ (f_third_corner plan near here44 way10 (fun r49 =>
  ixM here44 (.int 0) fun r50 =>
  ltM turn40 (.int 2) fun b51 =>
  (b51 = true → (rec plan near (.tuple [r49, r50]) seen45 (fun l55 kv56 =>
  ((found43 ++ ([(.tuple [(.str "pinch"), way10])] : List PyData)).length + l55.length ≤ sizeLine) ∧ (N41 (((found43 ++ ([(.tuple [(.str "pinch"), way10])] : List PyData)) ++ l55), (.tuple [r49, r50]), kv56))))) ∧ (b51 = false → (N41 ((found43 ++ ([(.tuple [(.str "pinch"), way10])] : List PyData)), (.tuple [r49, r50]), seen45)))) (fun _ => False))) (fun (s : (List PyData) × PyData × (List (List Key × PyData))) =>
  match s with
  | (found35, here36, seen37) => N11 (seen37, found35)) xs34 (found14, place, kv33))) ∧ ((!b29) = false → (N11 (seen13, found14))))) ∧ ((!isNone r21) = false → (N11 (seen13, found14)))) (fun _ => False)) (fun (s : (List (List Key × PyData)) × (List PyData)) =>
  match s with
  | (seen2, found3) => K found3 seen2) [.str "even", .str "odd"] (seen, [])
def f_tour_by : Nat → PyData → PyData → PyData → (List (List Key × PyData)) → (List PyData → List (List Key × PyData) → Prop) → Prop
  | 0 => fun _ _ _ _ _ => False
  | n + 1 => f_tour_by_s (f_tour_by n)
def c_tour_by (n : Nat) : CT := fun args Φ Ψ => ∃ (plan : PyData) (near : PyData) (place : PyData) (a_seen : Addr) (seen : List (List Key × PyData)) (K : (List PyData → List (List Key × PyData) → Prop)), args = [.d plan, .d near, .d place, .dt a_seen seen] ∧ f_tour_by n plan near place seen K ∧ ∀ r s, K r s → Φ (.nl r) [.d plan, .d near, .d place, .dt a_seen s]
@[irreducible] def f_tour (plan : PyData) (place : PyData) (K : KL) (E : KX) : Prop :=
  f_need_place plan place (fun r1 =>
  f_neighbours plan (fun r2 =>
  f_tour_by 64 plan (.list r2) place [] (fun l3 s4 =>
  K l3)) E) E
def c_tour : CT := fun args Φ Ψ => ∃ (plan : PyData) (place : PyData) (K : KL) (E : KX), args = [.d plan, .d place] ∧ f_tour plan place K E ∧ (∀ r, K r → Φ (.nl r) args) ∧ ∀ c, E c → Ψ c args
@[irreducible] def f_need_lie (plan : PyData) (lie : PyData) (K : KD) (E : KX) : Prop :=
  un3 lie fun top1 under2 front3 =>
  f_need_place plan (.tuple [top1, under2]) (fun r5 =>
  andM (fun Q => leM (.int 0) front3 Q) (fun Q => ltM front3 (.int 3) Q) fun b6 =>
  ((!b6) = true → (E (.own "BadLie"))) ∧ ((!b6) = false → (K .none))) E
def c_need_lie : CT := fun args Φ Ψ => ∃ (plan : PyData) (lie : PyData) (K : KD) (E : KX), args = [.d plan, .d lie] ∧ f_need_lie plan lie K E ∧ (∀ r, K r → Φ (.rd r) args) ∧ ∀ c, E c → Ψ c args
@[irreducible] def f_stretch_start (spots : PyData) (leaves : PyData) (K : KD) (E : KX) : Prop :=
  lenM spots fun r1 =>
  itM leaves fun xs3 =>
  forM (fun leaf21 held24 N22 B23 => ixM spots leaf21 fun r27 =>
  putKM held24 r27 (.bool true) fun kv28 =>
  N22 kv28) (fun held4 =>
  itM leaves fun xs7 =>
  forM (fun leaf9 (_ : Unit) N10 B11 => ixM spots leaf9 fun r13 =>
  subM r13 (.int 1) fun r14 =>
  modM r14 r1 fun r15 =>
  inKM held4 r15 fun b16 =>
  ((!b16) = true → (ixM spots leaf9 fun r20 =>
  K r20)) ∧ ((!b16) = false → (N10 ()))) (fun (_ : Unit) =>
  K (.int 0)) xs7 ()) xs3 []
def c_stretch_start : CT := fun args Φ Ψ => ∃ (spots : PyData) (leaves : PyData) (K : KD) (E : KX), args = [.d spots, .d leaves] ∧ f_stretch_start spots leaves K E ∧ (∀ r, K r → Φ (.rd r) args) ∧ ∀ c, E c → Ψ c args
@[irreducible] def f_heap_from (spots : PyData) (leaves : PyData) (start : PyData) (K : KL) (E : KX) : Prop :=
  lenM spots fun r1 =>
  f_stretch_start spots leaves (fun r2 =>
  itM leaves fun xs3 =>
  lcM (fun leaf4 kp sk => ixM spots leaf4 fun r6 =>
  subM r6 r2 fun r7 =>
  modM r7 r1 fun r8 =>
  addM start r8 fun r9 =>
  mulM (.int 3) r1 fun r10 =>
  modM r9 r10 fun r11 =>
  kp r11) (fun l5 =>
  K l5) xs3 []) E
def c_heap_from : CT := fun args Φ Ψ => ∃ (spots : PyData) (leaves : PyData) (start : PyData) (K : KL) (E : KX), args = [.d spots, .d leaves, .d start] ∧ f_heap_from spots leaves start K E ∧ (∀ r, K r → Φ (.nl r) args) ∧ ∀ c, E c → Ψ c args
@[irreducible] def f_heaps_of (plan : PyData) (lie : PyData) (K : KL) (E : KX) : Prop :=
  un3 lie fun top1 under2 front3 =>
  ixM plan (.int 0) fun r5 =>
  f_order_of plan (fun r6 =>
  rngM (.int 0) r5 fun xs7 =>
  lcM (fun leaf8 kp sk => lstO (.list r6) fun l10 =>
  indexM l10 leaf8 fun r11 =>
  kp r11) (fun l9 =>
  f_round_from r5 top1 under2 (fun r12 =>
  f_round_from r5 under2 top1 (fun r13 =>
  f_is_upright plan (.tuple [top1, under2]) (fun r14 =>
  ixM (.list l9) top1 fun r15 =>
  mulM front3 r5 fun r16 =>
  addM r15 r16 fun r17 =>
  ixM (.list l9) top1 fun r18 =>
  f_stretch_start (.list l9) (.list r12) (fun r19 =>
  subM r18 r19 fun r20 =>
  modM r20 r5 fun r21 =>
  subM r17 r21 fun r22 =>
  rngM (.int 0) (.int 3) fun xs24 =>
  forM (fun turn30 found33 N31 B32 => joinM (fun (Q : (PyData × PyData) → Prop) => boolM r14 fun b38 =>
  (b38 = true → (mulM turn30 r5 fun r42 =>
  addM r22 r42 fun r43 =>
  lenM (.list r12) fun r44 =>
  addM r43 r44 fun r45 =>
  Q (r43, r45))) ∧ (b38 = false → (mulM turn30 r5 fun r46 =>
  subM r22 r46 fun r47 =>
  lenM (.list r13) fun r48 =>
  subM r47 r48 fun r49 =>
  Q (r47, r49)))) (fun (s : PyData × PyData) =>
  match s with
  | (here50, behind51) => f_heap_from (.list l9) (.list r12) here50 (fun r52 =>
  found33.length < sizeLine ∧ (f_heap_from (.list l9) (.list r13) behind51 (fun r54 =>
  revDM (.list r54) fun r55 =>
  (found33 ++ ([(.list r52)] : List PyData)).length < sizeLine ∧ (N31 ((found33 ++ ([(.list r52)] : List PyData)) ++ ([r55] : List PyData)))) E)) E)) (fun found25 =>
  K found25) xs24 []) E) E) E) E) xs7 []) E
def c_heaps_of : CT := fun args Φ Ψ => ∃ (plan : PyData) (lie : PyData) (K : KL) (E : KX), args = [.d plan, .d lie] ∧ f_heaps_of plan lie K E ∧ (∀ r, K r → Φ (.nl r) args) ∧ ∀ c, E c → Ψ c args
@[irreducible] def f_ring_of (plan : PyData) (lie : PyData) (K : KL) (E : KX) : Prop :=
  slM lie none (some 2) fun r1 =>
  f_middle_corners plan r1 (fun r2 =>
  f_heaps_of plan lie (fun r5 =>
  enuM (.list r5) fun xs4 =>
  forM (fun p10 found13 N11 B12 => un2 p10 fun slot17 heap18 =>
  ixM heap18 (.int 0) fun r20 =>
  modM slot17 (.int 2) fun r21 =>
  ixM (.tuple [(.str "fore"), (.str "back")]) r21 fun r22 =>
  modM slot17 (.int 2) fun r23 =>
  ixM r2 r23 fun r24 =>
  found13.length < sizeLine ∧ (N11 (found13 ++ ([(.tuple [r20, r22, r24])] : List PyData)))) (fun found6 =>
  K found6) xs4 []) E) E
def c_ring_of : CT := fun args Φ Ψ => ∃ (plan : PyData) (lie : PyData) (K : KL) (E : KX), args = [.d plan, .d lie] ∧ f_ring_of plan lie K E ∧ (∀ r, K r → Φ (.nl r) args) ∧ ∀ c, E c → Ψ c args
@[irreducible] def f_ring (plan : PyData) (lie : PyData) (K : KL) (E : KX) : Prop :=
  f_need_lie plan lie (fun r1 =>
  f_ring_of plan lie (fun r2 =>
  K r2) E) E
def c_ring : CT := fun args Φ Ψ => ∃ (plan : PyData) (lie : PyData) (K : KL) (E : KX), args = [.d plan, .d lie] ∧ f_ring plan lie K E ∧ (∀ r, K r → Φ (.nl r) args) ∧ ∀ c, E c → Ψ c args
@[irreducible] def f_turned_lie (lie : PyData) (K : KD) (E : KX) : Prop :=
  un3 lie fun top1 under2 front3 =>
  K (.tuple [under2, top1, front3])
def c_turned_lie : CT := fun args Φ Ψ => ∃ (lie : PyData) (K : KD) (E : KX), args = [.d lie] ∧ f_turned_lie lie K E ∧ (∀ r, K r → Φ (.rd r) args) ∧ ∀ c, E c → Ψ c args
@[irreducible] def f_beneath (plan : PyData) (lie : PyData) (K : KL) (E : KX) : Prop :=
  f_need_lie plan lie (fun r1 =>
  f_turned_lie lie (fun r2 =>
  f_ring_of plan r2 (fun r3 =>
  K r3) E) E) E
def c_beneath : CT := fun args Φ Ψ => ∃ (plan : PyData) (lie : PyData) (K : KL) (E : KX), args = [.d plan, .d lie] ∧ f_beneath plan lie K E ∧ (∀ r, K r → Φ (.nl r) args) ∧ ∀ c, E c → Ψ c args
@[irreducible] def f_heaps (plan : PyData) (lie : PyData) (K : KL) (E : KX) : Prop :=
  f_need_lie plan lie (fun r1 =>
  f_heaps_of plan lie (fun r2 =>
  K r2) E) E
def c_heaps : CT := fun args Φ Ψ => ∃ (plan : PyData) (lie : PyData) (K : KL) (E : KX), args = [.d plan, .d lie] ∧ f_heaps plan lie K E ∧ (∀ r, K r → Φ (.nl r) args) ∧ ∀ c, E c → Ψ c args
end Tx
namespace Tx
open PySem PySem.Spec PyProof.Rows L2 TL
theorem lamP_at {Rs : List Prop} {R : Prop} (k : Nat) (h : Rs[k]? = some R) : lamP (.int (k : Int)) Rs = R := by
  have hk := (List.getElem?_eq_some_iff.mp h).1
  unfold lamP lamIx
  have e : ixN Rs.length (k : Int) = some k := by
    unfold ixN
    rw [if_pos (by omega), if_pos (by omega)]
    simp
  dsimp only
  rw [e]
  dsimp only
  rw [h]; rfl
end Tx
namespace Tx
open PySem PySem.Spec PyProof.Rows L2 TL
@[irreducible] def f_fan (plan : PyData) (face : PyData) (K : KD) (E : KX) : Prop :=
  f_need_plan plan (fun r1 =>
  andM (fun Q => leM (.int 0) face Q) (fun Q => ixM plan (.int 0) fun r4 =>
  ltM face r4 Q) fun b2 =>
  ((!b2) = true → (E (.own "BadFace"))) ∧ ((!b2) = false → (f_neighbours plan (fun r8 =>
  ixM (.list r8) face fun r9 =>
  K r9) E))) E
def c_fan : CT := fun args Φ Ψ => ∃ (plan : PyData) (face : PyData) (K : KD) (E : KX), args = [.d plan, .d face] ∧ f_fan plan face K E ∧ (∀ r, K r → Φ (.rd r) args) ∧ ∀ c, E c → Ψ c args
end Tx
namespace Tx
open PySem PySem.Spec PyProof.Rows L2 TL
@[irreducible] def f__law_plan_door (l_which : PyData) (l_plan_here : PyData) (K : KD) (E : KX) : Prop :=
  joinM (fun (Q : PyData → Prop) => tryM (fun E21 => lamP l_which [(f_lines l_plan_here (fun r73 =>
  Q (.str "told")) E21),
  (f_parts l_plan_here (fun r75 =>
  Q (.str "told")) E21),
  (f_fan l_plan_here (.int 99) (fun r77 =>
  Q (.str "told")) E21),
  (f_turned l_plan_here (.int 1) (fun r79 =>
  Q (.str "told")) E21),
  (f_mirrored l_plan_here (fun r81 =>
  Q (.str "told")) E21),
  (f_alike l_plan_here (.tuple [(.int 3), (.tuple [])]) (fun r83 =>
  Q (.str "told")) E21),
  (f_alike (.tuple [(.int 3), (.tuple [])]) l_plan_here (fun r85 =>
  Q (.str "told")) E21),
  (f_first_form l_plan_here (fun r87 =>
  Q (.str "told")) E21),
  (f_number_of l_plan_here (fun r89 =>
  Q (.str "told")) E21),
  (f_places l_plan_here (fun r91 =>
  Q (.str "told")) E21),
  (f_third l_plan_here (.tuple [(.int 9), (.int 9)]) (.str "no") (fun r93 =>
  Q (.str "told")) E21),
  (f_pinch l_plan_here (.tuple [(.int 9), (.int 9)]) (.str "no") (fun r95 =>
  Q (.str "told")) E21),
  (f_unpinch l_plan_here (.tuple [(.int 9), (.int 9)]) (.str "no") (fun r97 =>
  Q (.str "told")) E21),
  (f_over l_plan_here (.tuple [(.int 9), (.int 9)]) (fun r99 =>
  Q (.str "told")) E21),
  (f_stacks l_plan_here (.tuple [(.int 9), (.int 9)]) (fun r101 =>
  Q (.str "told")) E21),
  (f_upright l_plan_here (.tuple [(.int 9), (.int 9)]) (fun r103 =>
  Q (.str "told")) E21),
  (f_strip_order l_plan_here (fun r105 =>
  Q (.str "told")) E21),
  (f_row_of l_plan_here (fun r107 =>
  Q (.str "told")) E21),
  (f_road l_plan_here (.tuple [(.int 9), (.int 9)]) (.tuple [(.int 9), (.int 9)]) (fun r109 =>
  Q (.str "told")) E21),
  (f_walked l_plan_here (.tuple [(.int 9), (.int 9)]) (.list [(.tuple [(.str "no")])]) (fun r111 =>
  Q (.str "told")) E21),
  (f_tour l_plan_here (.tuple [(.int 9), (.int 9)]) (fun r113 =>
  Q (.str "told")) E21),
  (f_middles l_plan_here (.tuple [(.int 9), (.int 9)]) (fun r115 =>
  Q (.str "told")) E21),
  (f_ring l_plan_here (.tuple [(.int 9), (.int 9), (.int 9)]) (fun r117 =>
  Q (.str "told")) E21),
  (f_beneath l_plan_here (.tuple [(.int 9), (.int 9), (.int 9)]) (fun r119 =>
  Q (.str "told")) E21),
  (f_heaps l_plan_here (.tuple [(.int 9), (.int 9), (.int 9)]) (fun r121 =>
  Q (.str "told")) E21)]) ["BadPlan", "BadFace", "BadPlace", "BadWay", "NoPinch", "BadLie", "BadStep"] [("BadPlan", Q (.str "BadPlan")), ("PinchError", Q (.str "other"))] E) (fun l_word122 =>
  K l_word122)
def c__law_plan_door : CT := fun args Φ Ψ => ∃ (l_which : PyData) (l_plan_here : PyData) (K : KD) (E : KX), args = [.d l_which, .d l_plan_here] ∧ f__law_plan_door l_which l_plan_here K E ∧ (∀ r, K r → Φ (.rd r) args) ∧ ∀ c, E c → Ψ c args
@[irreducible] def f_law_k06 (script : PyData) (K : KD) (E : KX) : Prop :=
  f__law_plan (.int 8) (fun r1 =>
  f__law_pull (.int 3) (fun r3 =>
  addM (.int 1) r3 fun r4 =>
  rngM (.int 0) r4 fun xs2 =>
  forM (fun l_bend22 l_plan_here25 N23 B24 => f__law_bent_plan l_plan_here25 (fun r27 =>
  N23 r27) E) (fun l_plan_here5 =>
  joinM (fun (Q : PyData → Prop) => f__law_good_plan l_plan_here5 (fun r7 =>
  boolM r7 fun b8 =>
  (b8 = true → (ixM l_plan_here5 (.int 0) fun r12 =>
  ixM l_plan_here5 (.int 1) fun r13 =>
  addM r13 (.tuple [(.tuple [(.int 0), (.int 2)]), (.tuple [(.int 0), (.int 2)])]) fun r14 =>
  Q (.tuple [r12, r14]))) ∧ (b8 = false → (Q l_plan_here5))) E) (fun l_plan_here15 =>
  rngM (.int 0) (.int 25) fun xs16 =>
  lcM (fun l_which17 kp sk => f__law_plan_door l_which17 l_plan_here15 (fun r19 =>
  eqM r19 (.str "BadPlan") fun b20 =>
  kp (.bool b20)) (fun _ => False)) (fun l18 =>
  allM (.list l18) fun r21 =>
  K r21) xs16 [])) xs2 r1) E) E
section
variable {n : Int} {cs : List (Int × Int)} {K : KD} {E : KX} (hc : cs.length ≤ 1000) (hb : planB n cs = false)
include hc hb
theorem bad_plan {K : KD} {E : KX} : f_need_plan (plD n cs) K E = E (.own "BadPlan") := by
  rw [e_need_plan hc, hb]; rfl
theorem bad_place {p : PyData} {K : KD} {E : KX} : f_need_place (plD n cs) p K E = E (.own "BadPlan") := by
  unfold f_need_place
  rw [bad_plan hc hb]
theorem bad_lie {a b c : PyData} {K : KD} {E : KX} : f_need_lie (plD n cs) (.tuple [a, b, c]) K E = E (.own "BadPlan") := by
  unfold f_need_lie
  rw [q_un3, bad_place hc hb]
theorem plan_door {k : Int} (k0 : 0 ≤ k) (k1 : k < 25) (hK : K (.str "BadPlan")) : f__law_plan_door (.int k) (plD n cs) K E := by
  unfold f__law_plan_door TL.joinM tryM
  dsimp only
  have fin : ∀ (H2 : Prop), hdM ["BadPlan", "BadFace", "BadPlace", "BadWay", "NoPinch", "BadLie", "BadStep"] [("BadPlan", K (.str "BadPlan")), ("PinchError", H2)] E (.own "BadPlan") := fun H2 => ⟨by decide, fun _ => hK, fun z => absurd z (by decide)⟩
  have bp := @bad_plan n cs hc hb
  have bq := fun p => @bad_place n cs hc hb p
  have bl := fun a b c => @bad_lie n cs hc hb a b c
  have p3 : IsPlan 3 [] := planB_ok (by decide)
  have e3 : (PyData.tuple [.int 3, .tuple []]) = plD 3 [] := rfl
  have ek : k = 0 ∨ k = 1 ∨ k = 2 ∨ k = 3 ∨ k = 4 ∨ k = 5 ∨ k = 6 ∨ k = 7 ∨ k = 8 ∨ k = 9 ∨ k = 10 ∨ k = 11 ∨ k = 12 ∨ k = 13 ∨ k = 14 ∨ k = 15 ∨ k = 16 ∨ k = 17 ∨ k = 18 ∨ k = 19 ∨ k = 20 ∨ k = 21 ∨ k = 22 ∨ k = 23 ∨ k = 24 := by omega
  rcases ek with rfl | rfl | rfl | rfl | rfl | rfl | rfl | rfl | rfl | rfl | rfl | rfl | rfl | rfl | rfl | rfl | rfl | rfl | rfl | rfl | rfl | rfl | rfl | rfl | rfl
  · refine (lamP_at 0 rfl).mpr ?_
    unfold f_lines; rw [bp]; exact fin _
  · refine (lamP_at 1 rfl).mpr ?_
    unfold f_parts; rw [bp]; exact fin _
  · refine (lamP_at 2 rfl).mpr ?_
    unfold f_fan; rw [bp]; exact fin _
  · refine (lamP_at 3 rfl).mpr ?_
    unfold f_turned; rw [bp]; exact fin _
  · refine (lamP_at 4 rfl).mpr ?_
    unfold f_mirrored; rw [bp]; exact fin _
  · refine (lamP_at 5 rfl).mpr ?_
    unfold f_alike; rw [bp]; exact fin _
  · refine (lamP_at 6 rfl).mpr ?_
    rw [e3]
    unfold f_alike; rw [e_need_ok p3, bp]; exact fin _
  · refine (lamP_at 7 rfl).mpr ?_
    unfold f_first_form; rw [bp]; exact fin _
  · refine (lamP_at 8 rfl).mpr ?_
    unfold f_number_of; rw [bp]; exact fin _
  · refine (lamP_at 9 rfl).mpr ?_
    unfold f_places; rw [bp]; exact fin _
  · refine (lamP_at 10 rfl).mpr ?_
    unfold f_third; rw [bq]; exact fin _
  · refine (lamP_at 11 rfl).mpr ?_
    unfold f_pinch f_corner_for f_third; rw [bq]; exact fin _
  · refine (lamP_at 12 rfl).mpr ?_
    unfold f_unpinch f_corner_for f_third; rw [bq]; exact fin _
  · refine (lamP_at 13 rfl).mpr ?_
    unfold f_over; rw [bq]; exact fin _
  · refine (lamP_at 14 rfl).mpr ?_
    unfold f_stacks; rw [bq]; exact fin _
  · refine (lamP_at 15 rfl).mpr ?_
    unfold f_upright; rw [bq]; exact fin _
  · refine (lamP_at 16 rfl).mpr ?_
    unfold f_strip_order; rw [bp]; exact fin _
  · refine (lamP_at 17 rfl).mpr ?_
    unfold f_row_of; rw [bp]; exact fin _
  · refine (lamP_at 18 rfl).mpr ?_
    unfold f_road; rw [bq]; exact fin _
  · refine (lamP_at 19 rfl).mpr ?_
    unfold f_walked; rw [bq]; exact fin _
  · refine (lamP_at 20 rfl).mpr ?_
    unfold f_tour; rw [bq]; exact fin _
  · refine (lamP_at 21 rfl).mpr ?_
    unfold f_middles; rw [bq]; exact fin _
  · refine (lamP_at 22 rfl).mpr ?_
    unfold f_ring; rw [bl]; exact fin _
  · refine (lamP_at 23 rfl).mpr ?_
    unfold f_beneath; rw [bl]; exact fin _
  · refine (lamP_at 24 rfl).mpr ?_
    unfold f_heaps; rw [bl]; exact fin _
end
theorem e_law_k06 (ns : List Int) (h : ns.length ≤ 63) : f_law_k06 (.list (ns.map .int)) (fun r => r = .bool true) (fun _ => False) := by
  have hsl := sizeLine_eq
  unfold f_law_k06
  rw [e__law_plan (by decide) (by decide)]
  intro n hn hnm l hl
  have hp := arcs_plan hn (by omega) hl
  rw [e__law_pull (by decide) (by decide)]
  intro r r0 r1
  rw [q_add_ii, q_rng]
  refine ⟨by omega, ?_⟩
  rw [range0]
  have l0 : (planOf n l).length ≤ 5 := by have hl0 : ((planOf n l).length : Int) = n - 3 := hp.len; omega
  -- the bends
  refine forM_inv (List.range (1 + r).toNat) (fun (i : Nat) => PyData.int i) (fun i s => ∃ m ds, s = plD m ds ∧ (i = 0 → ds.length ≤ 5) ∧ (i = 1 → ds.length ≤ 18) ∧ (i = 2 → ds.length ≤ 57) ∧ ds.length ≤ 200) (fun i a ha s hs N hN => ?_) (fun s hs => ?_) _ ⟨n, planOf n l, rfl, fun _ => l0, fun z => (by cases z), fun z => (by cases z), by omega⟩
  · obtain ⟨m, ds, rfl, h0, h1, h2, h3⟩ := hs
    have hi : i < (1 + r).toNat := by
      have := (List.getElem?_eq_some_iff.mp ha).1
      rwa [List.length_range] at this
    refine i__law_bent_plan (by omega) fun m' ds' hl => hN _ ⟨m', ds', rfl, ?_⟩
    have : i = 0 ∨ i = 1 ∨ i = 2 := by omega
    rcases this with rfl | rfl | rfl
    · have := h0 rfl
      exact ⟨fun z => (by cases z), fun _ => by omega, fun z => (by cases z), by omega⟩
    · have := h1 rfl
      exact ⟨fun z => (by cases z), fun z => (by cases z), fun _ => by omega, by omega⟩
    · have := h2 rfl
      exact ⟨fun z => (by cases z), fun z => (by cases z), fun z => (by cases z), by omega⟩
  · obtain ⟨m, ds, rfl, _, _, _, h3⟩ := hs
    have go : ∀ (m : Int) (ds : List (Int × Int)), ds.length ≤ 1000 → planB m ds = false → (fun l_plan_here15 => rngM (.int 0) (.int 25) fun xs16 => lcM (fun l_which17 kp sk => f__law_plan_door l_which17 l_plan_here15 (fun r19 => eqM r19 (.str "BadPlan") fun b20 => kp (.bool b20)) (fun _ => False)) (fun l18 => allM (.list l18) fun r21 => ((fun r => r = PyData.bool true) r21)) xs16 []) (plD m ds) := fun m ds hc hb => by
      dsimp only
      rw [q_rng]
      refine ⟨by decide, ?_⟩
      rw [range0]
      have lc : ∀ (L : List Nat) (acc : List PyData) (Q : KL), (∀ i ∈ L, i < 25) → Q (acc ++ L.map fun _ => PyData.bool true) → lcM (fun l_which17 kp sk => f__law_plan_door l_which17 (plD m ds) (fun r19 => eqM r19 (.str "BadPlan") fun b20 => kp (.bool b20)) (fun _ => False)) Q (L.map fun (i : Nat) => PyData.int i) acc := fun L => by
        induction L with
        | nil => intro acc Q _ h; rw [List.map_nil, List.append_nil] at h; exact h
        | cons a L ih =>
          intro acc Q hL h
          have := hL a (List.mem_cons_self ..)
          refine plan_door hc hb (by omega) (by omega) ?_
          rw [q_eq_ss, decide_eq_true rfl]
          refine ih _ _ (fun i hi => hL i (List.mem_cons_of_mem _ hi)) ?_
          rw [List.append_assoc]; exact h
      refine lc _ [] _ (fun i hi => by have := List.mem_range.mp hi; omega) ?_
      rfl
    show joinM _ _
    unfold TL.joinM
    dsimp only
    rw [e__law_good_plan (by omega), q_bool]
    cases hb : planB m ds with
    | false => exact ⟨fun z => (by cases z), fun _ => go m ds (by omega) hb⟩
    | true =>
      refine ⟨fun _ => ?_, fun z => (by cases z)⟩
      have hq := planB_ok hb
      rw [p_ix_pl0, p_ix_pl1, show (PyData.tuple [.tuple [.int 0, .int 2], .tuple [.int 0, .int 2]]) = .tuple (([(0, 2), (0, 2)] : List (Int × Int)).map ppD) from rfl, q_add_tt]
      refine ⟨by rw [List.length_map, List.length_map]; show ds.length + 2 ≤ _; omega, ?_⟩
      rw [← List.map_append]
      refine go m (ds ++ [(0, 2), (0, 2)]) (by rw [List.length_append]; show ds.length + 2 ≤ 1000; omega) ?_
      cases hb2 : planB m (ds ++ [(0, 2), (0, 2)]) with
      | false => rfl
      | true =>
        have := (planB_ok hb2).len
        have := hq.len
        rw [List.length_append, List.length_cons, List.length_singleton] at *
        omega
end Tx
namespace Tx
open PySem PySem.Spec PyProof.Rows L2 TL
section
variable {P : Program} {w : World} {K : PySem.W.Frag} {mg : Str → Option Value} {base : Heap} {f : Addr} {fd : FuncData} {k : Nat}
abbrev FnP (K : PySem.W.Frag) (x : Str) (st : Stmt) (f : Addr) (fd : FuncData) : Prop := FunD K x x (defArgs st) (defBody st) (defScope st) [] [] f fd
abbrev FnPD (K : PySem.W.Frag) (x : Str) (st : Stmt) (dvs : List V) (f : Addr) (fd : FuncData) : Prop := FunD K x x (defArgs st) (defBody st) (defScope st) dvs [] f fd
theorem ok_o__law_bag (F : FnP K "_law_bag" s__law_bag f fd) (hm : mg "_law_bag" = some (.ref f)) (hb : Binds K fd ["_law_script"] []) (m_len : mg "len" = none) (m_abs : mg "abs" = none) (m_int : mg "int" = none) :
    Has P w K mg base (k + 1) "_law_bag" ["_law_script"] o__law_bag := by
  refine fn_has F hm sc__law_bag hb rfl ?_
  rintro cdv A outer s H E g args Φ Ψ hr hp hM hl ⟨ns, rfl, hn, hΦ⟩
  have hcut : cut (ns.map PyData.int) none (some 63) = ns.map .int := cut_le _ _ (by decide) (by simp; omega)
  refine ws_cons (w1_setLc 1 (own := [("_law_one", 2)]) rfl sc__law_bag.nd (pi_list (peI _)) (blkOk_by (by rfl)) (fun _ _ _ _ _ => (pg_name (i := 2) sc__law_bag.nd rfl (by first | exact Or.inl rfl | exact Or.inr rfl))) (by decide) (nt_lcL (tgd_name 2) rfl ?_))
  refine we_of_wn ?_
  refine wn_sliceL ?_
  refine we_n 0 ?_
  refine ⟨_, rfl, ?_⟩
  refine wp_none ?_
  refine wp_e ?_
  refine we_int ?_
  refine ⟨_, rfl, ?_⟩
  refine ⟨rfl, _, fun i acc => acc = (ns.take i).map fun c => .int (absI c), rfl, rfl, fun i x hx => ⟨_, rfl, rfl, ?_⟩, fun acc ha => ?_⟩
  · intro acc ha g1 s1 H1 C1 cl1 fp1
    rw [hcut] at hx
    obtain ⟨n, rfl, hn2⟩ := ints_get hx
    refine ⟨fun _ s1 H1 C1 cl1 fp1 => ?_, fun z => by cases z⟩
    refine we_abs m_abs ?_
    refine we_n 2 ?_
    refine ⟨_, rfl, ?_⟩
    refine ⟨rfl, ?_⟩
    subst ha
    exact tk_succ (fun c => .int (absI c)) hn2
  · subst ha
    rw [hcut, List.length_map, List.take_length]
    have em : (ns.map fun c => PyData.int (absI c)) = (ns.map absI).map .int := by simp
    rw [em]
    refine ws_cons (w1_set 3 sc__law_bag.nd ?_)
    refine we_add ?_
    refine we_int ?_
    refine we_len m_len ?_
    refine we_n 1 ?_
    refine .lst ?_
    refine .int ?_
    refine ⟨rfl, ?_⟩
    refine ws_cons (w1_forL hp rfl (pg_name (i := 2) sc__law_bag.nd rfl (by first | exact Or.inl rfl | exact Or.inr rfl)) (tgd_name 2) ?_)
    refine we_of_wn ?_
    refine wn_sliceL ?_
    refine we_n 0 ?_
    refine ⟨_, rfl, ?_⟩
    refine wp_none ?_
    refine wp_e ?_
    refine we_int ?_
    refine ⟨_, rfl, ?_⟩
    refine ⟨rfl, _, fun i e => ∃ (x : Sl) (t : Int), 0 ≤ t ∧ t < 2147483629 ∧ e = [.d (.list (ns.map .int)), .d (.list ((ns.map absI).map .int)), x, .d (.int t)], rfl, ⟨.un, _, ?_, ?_, rfl⟩, ?_, ?_⟩
    · omega
    · simp; omega
    · rintro i x hx _ ⟨x2, t, t0, t1, rfl⟩
      rw [hcut] at hx
      obtain ⟨n, rfl, hn2⟩ := ints_get hx
      refine ⟨_, rfl, rfl, ?_⟩
      refine ws_cons (w1_set 3 sc__law_bag.nd ?_)
      refine we_mod ?_
      refine we_add ?_
      refine we_add ?_
      refine we_mul ?_
      refine we_n 3 ?_
      refine we_int ?_
      refine ⟨?_, by unfold L2.CMul; omega⟩
      refine we_abs m_abs ?_
      refine we_n 2 ?_
      refine ⟨_, rfl, ?_⟩
      refine .int ?_
      refine we_mul ?_
      refine we_int ?_
      refine we_intof m_int ?_
      refine we_cp (op_ltA hr) ?_
      refine we_n 2 ?_
      refine we_int ?_
      refine ⟨_, cp_lt, ?_⟩
      refine .bool ?_
      refine ⟨?_, by unfold L2.CMul; omega⟩
      refine .int ?_
      refine we_int ?_
      refine ⟨?_, by decide⟩
      refine ⟨rfl, ?_⟩
      refine ws_nil ?_
      exact ⟨_, _, Int.emod_nonneg _ (by decide), Int.emod_lt_of_pos _ (by decide), rfl⟩
    · rintro _ ⟨x2, t, t0, t1, rfl⟩
      refine ws_cons (w1_retN ?_)
      refine wn_list ?_
      refine wa_d ?_
      refine we_n 1 ?_
      refine ⟨rfl, ?_⟩
      refine wa_d ?_
      refine we_int ?_
      refine ⟨rfl, ?_⟩
      refine wa_d ?_
      refine we_int ?_
      refine ⟨rfl, ?_⟩
      refine wa_d ?_
      refine we_n 3 ?_
      refine ⟨rfl, ?_⟩
      refine wa_nil ?_
      refine ⟨_, rfl, szOk rfl, ?_⟩
      refine ⟨_, hΦ _ ⟨ns.map absI, 0, 0, t, rfl, fun c hc => ?_, by decide, by decide, t0, t1⟩, trivial, rfl, rfl⟩
      obtain ⟨z, _, rfl⟩ := List.mem_map.mp hc
      exact absI_nn z
theorem ok_o__law_pull (F : FnP K "_law_pull" s__law_pull f fd) (hm : mg "_law_pull" = some (.ref f)) (hb : Binds K fd ["_law_bag_here", "_law_many"] []) (m_len : mg "len" = none) :
    Has P w K mg base (k + 1) "_law_pull" ["_law_bag_here", "_law_many"] o__law_pull := by
  refine fn_has F hm sc__law_pull hb rfl ?_
  rintro cdv A outer s H E g args Φ Ψ hr hp hM hl ⟨b, many, rfl, m0, m1, hΦ⟩
  have hd : ∀ i, CDivW i many := fun i => wide_div m0 m1 (by decide) (by decide)
  refine ws_open 0 rfl fun cells i z t hc i0 z0 t0 t1 => ?_
  have bag : ∀ z' : Int, 0 ≤ z' → BagD [.list (cells.map .int), .int (i + 1), .int z', .int t] := fun z' h => ⟨cells, i + 1, z', t, rfl, hc, by omega, h, t0, t1⟩
  refine ws_cons (w1_if ?_)
  refine wt_cp (op_ltA hr) ?_
  refine we_ix ?_
  refine we_nl 0 ?_
  refine we_int ?_
  refine ix_lst (by decide) rfl ?_
  refine we_int ?_
  refine ⟨_, cp_lt, ?_⟩
  refine ⟨fun b1 => ?_, fun b1 => ?_⟩
  · -- then
    refine ws_cons (w1_augix 0 rfl ?_)
    refine we_int ?_
    refine ⟨1, 1, _, rfl, rfl, rfl, ?_⟩
    refine we_int ?_
    refine ⟨_, rfl, ?_⟩
    refine ws_cons (w1_set 2 sc__law_pull.nd ?_)
    refine we_ix ?_
    refine we_nl 0 ?_
    refine we_int ?_
    refine ix_lst (by decide) rfl ?_
    refine ⟨rfl, ?_⟩
    refine ws_mid (fun e => ∃ y : Int, 0 ≤ y ∧ e = [.ol b [.list (cells.map .int), .int (i + 1), .int z, .int t], .d (.int many), .d (.int y), .un, .un]) (w1_if ?_) ?_
    · refine wt_cp op_le ?_
      refine we_ix ?_
      refine we_nl 0 ?_
      refine we_int ?_
      refine ix_lst (by decide) rfl ?_
      refine we_len m_len ?_
      refine we_ix ?_
      refine we_nl 0 ?_
      refine we_int ?_
      refine ix_lst (by decide) rfl ?_
      refine .lst ?_
      refine ⟨_, cp_le, ?_⟩
      refine ⟨fun b2 => ?_, fun b2 => ?_⟩
      · -- then
        have b2 := of_decide_eq_true b2
        rw [List.length_map] at b2
        refine ws_cons (w1_set 2 sc__law_pull.nd ?_)
        refine we_ix ?_
        refine we_ix ?_
        refine we_nl 0 ?_
        refine we_int ?_
        refine ix_lst (by decide) rfl ?_
        refine we_sub ?_
        refine we_ix ?_
        refine we_nl 0 ?_
        refine we_int ?_
        refine ix_lst (by decide) rfl ?_
        refine we_int ?_
        refine ⟨?_, trivial⟩
        refine ix_ints (by omega) (by omega) fun n hn => ?_
        have n0 := hc n hn
        refine ⟨rfl, ?_⟩
        refine ws_cons (w1_if ?_)
        refine wt_cp op_ge ?_
        refine we_n 2 ?_
        refine we_pow ?_
        refine we_int ?_
        refine we_int ?_
        refine ⟨?_, by unfold L2.CPow; decide⟩
        refine ⟨_, cp_ge, ?_⟩
        refine ⟨fun b3 => ?_, fun b3 => ?_⟩
        · -- then
          refine ws_cons (w1_setix 0 rfl ?_)
          refine we_div ?_
          refine we_n 2 ?_
          refine we_n 1 ?_
          refine ⟨?_, hd _⟩
          refine ⟨rfl, ?_⟩
          refine we_int ?_
          refine ⟨2, 2, rfl, rfl, ?_⟩
          refine ws_cons (w1_ret ?_)
          refine we_mod ?_
          refine we_n 2 ?_
          refine we_n 1 ?_
          refine ⟨?_, m0⟩
          refine ⟨rfl, ?_⟩
          exact ⟨_, hΦ _ (Int.emod_nonneg _ (by omega)) (Int.emod_lt_of_pos _ m0), trivial, ⟨rfl, bag _ (Int.ediv_nonneg n0 (by omega)), rfl⟩, rfl, rfl⟩
        · -- else
          refine ws_nil (ws_nil ?_)
          exact ⟨n, n0, rfl⟩
      · -- else
        refine ws_nil ?_
        exact ⟨i + 1, by omega, rfl⟩
    rintro _ ⟨y, y0, rfl⟩
    refine ws_cons (w1_set 3 sc__law_pull.nd ?_)
    refine we_mod ?_
    refine we_add ?_
    refine we_add ?_
    refine we_n 2 ?_
    refine we_mul ?_
    refine we_ix ?_
    refine we_nl 0 ?_
    refine we_int ?_
    refine ix_lst (by decide) rfl ?_
    refine we_int ?_
    refine ⟨?_, by unfold L2.CMul; omega⟩
    refine .int ?_
    refine we_mul ?_
    refine we_ix ?_
    refine we_nl 0 ?_
    refine we_int ?_
    refine ix_lst (by decide) rfl ?_
    refine we_int ?_
    refine ⟨?_, by unfold L2.CMul; omega⟩
    refine .int ?_
    refine we_int ?_
    refine ⟨?_, by decide⟩
    refine ⟨rfl, ?_⟩
    generalize (y + t * 31 + (i + 1) * 69061) = y1
    refine ws_cons (w1_set 3 sc__law_pull.nd ?_)
    refine we_mod ?_
    refine we_add ?_
    refine we_mul ?_
    refine we_n 3 ?_
    refine we_n 3 ?_
    have y2 := Int.emod_nonneg y1 (b := 2147483629) (by decide)
    have y3 := Int.emod_lt_of_pos y1 (b := 2147483629) (by decide)
    refine ⟨?_, by unfold L2.CMul; omega⟩
    refine we_int ?_
    refine .int ?_
    refine we_int ?_
    refine ⟨?_, by decide⟩
    refine ⟨rfl, ?_⟩
    generalize (y1 % 2147483629 * (y1 % 2147483629) + 40961) = y4
    refine ws_cons (w1_ret ?_)
    refine we_mod ?_
    refine we_div ?_
    refine we_mod ?_
    refine we_add ?_
    refine we_mul ?_
    refine we_n 3 ?_
    refine we_n 3 ?_
    have y5 := Int.emod_nonneg y4 (b := 2147483587) (by decide)
    have y6 := Int.emod_lt_of_pos y4 (b := 2147483587) (by decide)
    refine ⟨?_, by unfold L2.CMul; omega⟩
    refine we_ix ?_
    refine we_nl 0 ?_
    refine we_int ?_
    refine ix_lst (by decide) rfl ?_
    refine .int ?_
    refine we_int ?_
    refine ⟨?_, by decide⟩
    refine we_int ?_
    refine ⟨?_, cdiv_small _ (by decide) (by decide)⟩
    refine we_n 1 ?_
    refine ⟨?_, m0⟩
    refine ⟨rfl, ?_⟩
    exact ⟨_, hΦ _ (Int.emod_nonneg _ (by omega)) (Int.emod_lt_of_pos _ m0), trivial, ⟨rfl, bag z z0, rfl⟩, rfl, rfl⟩
  · -- else
    refine ws_nil ?_
    refine ws_cons (w1_set 4 sc__law_pull.nd ?_)
    refine we_mod ?_
    refine we_ix ?_
    refine we_nl 0 ?_
    refine we_int ?_
    refine ix_lst (by decide) rfl ?_
    refine we_n 1 ?_
    refine ⟨?_, m0⟩
    refine ⟨rfl, ?_⟩
    refine ws_cons (w1_setix 0 rfl ?_)
    refine we_div ?_
    refine we_ix ?_
    refine we_nl 0 ?_
    refine we_int ?_
    refine ix_lst (by decide) rfl ?_
    refine we_n 1 ?_
    refine ⟨?_, hd _⟩
    refine ⟨rfl, ?_⟩
    refine we_int ?_
    refine ⟨2, 2, rfl, rfl, ?_⟩
    refine ws_cons (w1_ret ?_)
    refine we_n 4 ?_
    refine ⟨rfl, ?_⟩
    exact ⟨_, hΦ _ (Int.emod_nonneg _ (by omega)) (Int.emod_lt_of_pos _ m0), trivial, ⟨rfl, ⟨cells, i, z / many, t, rfl, hc, i0, Int.ediv_nonneg z0 (by omega), t0, t1⟩, rfl⟩, rfl, rfl⟩
theorem ok__law_pull (h : Has P w K mg base k "_law_pull" ["_law_bag_here", "_law_many"] o__law_pull) : Has P w K mg base k "_law_pull" ["_law_bag_here", "_law_many"] c__law_pull := h.imp fun args Φ Ψ ⟨b, m, Kf, Ef, e, hf, h1, h2⟩ => by
  subst e
  cases m with
  | int m => exact ⟨b, m, rfl, hf.1.1, hf.1.2, fun r r0 r1 => h1 _ (hf.2 r r0 r1)⟩
  | _ => exact (show False from hf).elim
theorem ok_o__law_cut_arc (F : FnP K "_law_cut_arc" s__law_cut_arc f fd) (hm : mg "_law_cut_arc" = some (.ref f)) (hb : Binds K fd ["_law_bag_here", "_law_start", "_law_end", "_law_found"] []) (ho__law_pull : Has P w K mg base 1 "_law_pull" ["_law_bag_here", "_law_many"] o__law_pull) (k0 : Nat) :
    ∀ N : Nat, Has P w K mg base (k0 + N + 2) "_law_cut_arc" ["_law_bag_here", "_law_start", "_law_end", "_law_found"] (o__law_cut_arc N)
  | 0 => by
    refine fn_has F hm sc__law_cut_arc hb rfl ?_
    rintro cdv A outer s H E g args Φ Ψ hr hp hM hl ⟨b, st, en, fa, ds, rfl, h1, h2, _⟩
    omega
  | N + 1 => by
    have ih := ok_o__law_cut_arc F hm hb ho__law_pull k0 N
    refine fn_has F hm sc__law_cut_arc hb rfl ?_
    rintro cdv A outer s H E g args Φ Ψ hr hp hM hl ⟨b, st, en, fa, ds, rfl, h1, h2, h3, hΦ⟩
    have hsl := sizeLine_eq
    refine ws_cons (w1_if ?_)
    refine wt_cp op_gt ?_
    refine we_sub ?_
    refine we_n 2 ?_
    refine we_n 1 ?_
    refine ⟨?_, trivial⟩
    refine we_int ?_
    refine ⟨_, cp_gt, ?_⟩
    refine ⟨fun b1 => ?_, fun b1 => ?_⟩
    · -- then
      have b1 := of_decide_eq_true b1
      refine ws_cons (w1_set 4 sc__law_cut_arc.nd ?_)
      refine we_sub ?_
      refine we_sub ?_
      refine we_n 2 ?_
      refine we_n 1 ?_
      refine ⟨?_, trivial⟩
      refine we_int ?_
      refine ⟨?_, trivial⟩
      refine ⟨rfl, ?_⟩
      refine ws_cons (w1_set 5 sc__law_cut_arc.nd ?_)
      refine we_call ho__law_pull hr ?_
      refine wa_s 0 ?_
      refine wa_d ?_
      refine we_int ?_
      refine ⟨rfl, ?_⟩
      refine wa_nil ?_
      refine ⟨rfl, b, _, rfl, by decide, nb (by decide), fun wy y0 y1 => ⟨rfl, _, rfl, ?_⟩⟩
      refine ⟨rfl, ?_⟩
      refine ws_cons (w1_set 6 sc__law_cut_arc.nd ?_)
      refine we_add ?_
      refine we_add ?_
      refine we_n 1 ?_
      refine we_int ?_
      refine .int ?_
      refine we_ix ?_
      refine we_list ?_
      refine wa_d ?_
      refine we_call ho__law_pull hr ?_
      refine wa_s 0 ?_
      refine wa_d ?_
      refine we_n 4 ?_
      refine ⟨rfl, ?_⟩
      refine wa_nil ?_
      have hw : (en - st - 1).natAbs < 2 ^ 120 := by omega
      refine ⟨rfl, b, _, rfl, by omega, nb hw, fun r r0 r1 => ⟨rfl, _, rfl, ?_⟩⟩
      refine ⟨rfl, ?_⟩
      refine wa_d ?_
      refine we_int ?_
      refine ⟨rfl, ?_⟩
      refine wa_d ?_
      refine we_sub ?_
      refine we_n 4 ?_
      refine we_int ?_
      refine ⟨?_, trivial⟩
      refine ⟨rfl, ?_⟩
      refine wa_d ?_
      refine we_div ?_
      refine we_n 4 ?_
      refine we_int ?_
      refine ⟨?_, cdiv_small _ (by decide) (by decide)⟩
      refine ⟨rfl, ?_⟩
      refine wa_d ?_
      refine we_call ho__law_pull hr ?_
      refine wa_s 0 ?_
      refine wa_d ?_
      refine we_n 4 ?_
      refine ⟨rfl, ?_⟩
      refine wa_nil ?_
      refine ⟨rfl, b, _, rfl, by omega, nb hw, fun r' r0' r1' => ⟨rfl, _, rfl, ?_⟩⟩
      refine ⟨rfl, ?_⟩
      refine wa_nil ?_
      refine ⟨_, rfl, szOk rfl, ?_⟩
      refine we_n 5 ?_
      refine ix_mem 5 y0 (by omega) fun x hx => ?_
      obtain ⟨v, rfl, v0, v1⟩ : ∃ v : Int, x = .int v ∧ 0 ≤ v ∧ v < en - st - 1 := by
        simp at hx
        rcases hx with rfl | rfl | rfl | rfl | rfl
        · exact ⟨_, rfl, r0, r1⟩
        · exact ⟨_, rfl, by omega, by omega⟩
        · exact ⟨_, rfl, by omega, by omega⟩
        · exact ⟨_, rfl, by omega, by omega⟩
        · exact ⟨_, rfl, r0', r1'⟩
      refine .int ?_
      refine ⟨rfl, ?_⟩
      obtain ⟨m, hm1⟩ : ∃ m : Int, st + 1 + v = m := ⟨_, rfl⟩
      rw [hm1]
      have m1 : st < m := by omega
      have m2 : m < en := by omega
      refine ws_cons (w1_append 3 rfl ?_)
      refine we_tuple ?_
      refine wa_d ?_
      refine we_n 1 ?_
      refine ⟨rfl, ?_⟩
      refine wa_d ?_
      refine we_n 6 ?_
      refine ⟨rfl, ?_⟩
      refine wa_nil ?_
      refine ⟨_, rfl, szOk rfl, ?_⟩
      refine ⟨rfl, by omega, ?_⟩
      refine ws_cons (w1_append 3 rfl ?_)
      refine we_tuple ?_
      refine wa_d ?_
      refine we_n 6 ?_
      refine ⟨rfl, ?_⟩
      refine wa_d ?_
      refine we_n 2 ?_
      refine ⟨rfl, ?_⟩
      refine wa_nil ?_
      refine ⟨_, rfl, szOk rfl, ?_⟩
      refine ⟨rfl, by simp; omega, ?_⟩
      refine ws_cons (w1_callM ih hr ?_)
      refine wa_s 0 ?_
      refine wa_d ?_
      refine we_n 1 ?_
      refine ⟨rfl, ?_⟩
      refine wa_d ?_
      refine we_n 6 ?_
      refine ⟨rfl, ?_⟩
      refine wa_s 3 ?_
      refine wa_nil ?_
      refine ⟨rfl, b, st, m, fa, _, rfl, m1, by omega, by simp; omega, fun la ha => ⟨rfl, ?_⟩⟩
      have hla := ha.len m1
      refine ws_cons (w1_callM ih hr ?_)
      refine wa_s 0 ?_
      refine wa_d ?_
      refine we_n 6 ?_
      refine ⟨rfl, ?_⟩
      refine wa_d ?_
      refine we_n 2 ?_
      refine ⟨rfl, ?_⟩
      refine wa_s 3 ?_
      refine wa_nil ?_
      refine ⟨rfl, b, m, en, fa, _, rfl, m2, by omega, by simp; omega, fun lb hb2 => ⟨rfl, ?_⟩⟩
      refine ws_nil ?_
      refine ws_cons (w1_retA 3 rfl (by intro z; cases z) ?_)
      have hq := hΦ _ (Arcs.node m1 m2 ha hb2)
      refine ⟨_, hq, ⟨ltB rfl, fun s' h => by cases h; intro z; cases z⟩, ⟨rfl, rfl⟩, rfl, rfl, ⟨rfl, ?_⟩, rfl⟩
      simp [ppD]
    · -- else
      have b1 := of_decide_eq_false b1
      refine ws_nil ?_
      refine ws_cons (w1_retA 3 rfl (by intro z; cases z) ?_)
      have hq := hΦ _ (Arcs.leaf (by omega))
      refine ⟨_, hq, ⟨ltB rfl, fun s' h => by cases h; intro z; cases z⟩, ⟨rfl, rfl⟩, rfl, rfl, ⟨rfl, ?_⟩, rfl⟩
      simp
theorem ok__law_pair (F : FnP K "_law_pair" s__law_pair f fd) (hm : mg "_law_pair" = some (.ref f)) (hb : Binds K fd ["_law_one", "_law_other"] []) (m_min : mg "min" = none) (m_max : mg "max" = none) :
    Has P w K mg base (k + 1) "_law_pair" ["_law_one", "_law_other"] c__law_pair := by
  refine fn_has F hm sc__law_pair hb rfl ?_
  rintro cdv A outer s H E g args Φ Ψ hr hp hM hl ⟨l_one, l_other, Kf, Ef, rfl, h, hK, hE⟩
  unfold f__law_pair at h
  refine ws_env (env' := [.d l_one, .d l_other]) rfl ?_
  refine ws_cons (w1_ret ?_)
  refine we_tuple ?_
  refine wa_d ?_
  refine we_min2A m_min rfl ?_
  refine we_n 0 ?_
  refine we_n 1 ?_
  refine min2_m h fun r1 h => ?_
  refine ⟨rfl, ?_⟩
  refine wa_d ?_
  refine we_max2A m_max rfl ?_
  refine we_n 0 ?_
  refine we_n 1 ?_
  refine max2_m h fun r2 h => ?_
  refine ⟨rfl, ?_⟩
  refine wa_nil ?_
  refine ⟨_, rfl, szOk rfl, ?_⟩
  exact ⟨rfl, _, hK _ h, trivial, rfl, rfl, rfl⟩
theorem ok_o__law_pair (F : FnP K "_law_pair" s__law_pair f fd) (hm : mg "_law_pair" = some (.ref f)) (hb : Binds K fd ["_law_one", "_law_other"] []) (m_min : mg "min" = none) (m_max : mg "max" = none) :
    Has P w K mg base (k + 1) "_law_pair" ["_law_one", "_law_other"] o__law_pair := by
  refine fn_has F hm sc__law_pair hb rfl ?_
  rintro cdv A outer s H E g args Φ Ψ hr hp hM hl ⟨i, j, rfl, hΦ⟩
  refine ws_cons (w1_ret ?_)
  refine we_tuple ?_
  refine wa_d ?_
  refine we_min2 m_min rfl ?_
  refine we_n 0 ?_
  refine we_n 1 ?_
  refine ⟨i, j, rfl, rfl, rfl, ?_⟩
  refine wa_d ?_
  refine we_max2 m_max rfl ?_
  refine we_n 0 ?_
  refine we_n 1 ?_
  refine ⟨i, j, rfl, rfl, rfl, ?_⟩
  refine wa_nil ?_
  refine ⟨_, rfl, szOk rfl, rfl, ?_⟩
  exact ⟨_, hΦ, trivial, rfl, rfl, rfl⟩
theorem ok_o__law_drawn_plan (F : FnP K "_law_drawn_plan" s__law_drawn_plan f fd) (hm : mg "_law_drawn_plan" = some (.ref f)) (hb : Binds K fd ["_law_bag_here", "_law_faces"] []) (m_tuple : mg "tuple" = none) (ho__law_cut_arc : Has P w K mg base k "_law_cut_arc" ["_law_bag_here", "_law_start", "_law_end", "_law_found"] (o__law_cut_arc 64)) (m_sorted : mg "sorted" = none) (ho__law_pair : Has P w K mg base k "_law_pair" ["_law_one", "_law_other"] o__law_pair) :
    Has P w K mg base (k + 1) "_law_drawn_plan" ["_law_bag_here", "_law_faces"] o__law_drawn_plan := by
  refine fn_has F hm sc__law_drawn_plan hb rfl ?_
  rintro cdv A outer s H E g args Φ Ψ hr hp hM hl ⟨b, n, rfl, n3, n40, hΦ⟩
  refine ws_cons (w1_setLc 2 (own := [("_law_low", 3), ("_law_high", 4)]) rfl sc__law_drawn_plan.nd (pi_list (peI _)) (blkOk_by (by rfl)) (fun _ _ _ _ _ => (pg_tup rfl (pgs_cons (pg_name (i := 3) sc__law_drawn_plan.nd rfl (by first | exact Or.inl rfl | exact Or.inr rfl)) (pgs_cons (pg_name (i := 4) sc__law_drawn_plan.nd rfl (by first | exact Or.inl rfl | exact Or.inr rfl)) pgs_nil)))) (by decide) (nt_lcL (tgd_tup (tgds_cons (tgd_name 3) (tgds_cons (tgd_name 4) tgds_nil)) rfl) rfl ?_))
  refine we_of_wn ?_
  refine wn_callN ho__law_cut_arc hr ?_
  refine wan_s 0 ?_
  refine wan_d ?_
  refine we_int ?_
  refine ⟨rfl, ?_⟩
  refine wan_d ?_
  refine we_n 1 ?_
  refine ⟨rfl, ?_⟩
  refine wan_l ?_
  refine ⟨rfl, by decide, fun q => ⟨b, 1, n, q, [], rfl, by omega, by omega, by simp; omega, fun l hl => ⟨_, rfl, rfl, ?_⟩⟩⟩
  rw [List.nil_append]
  refine ⟨rfl, _, fun i acc => acc = ((l.take i).filter wide).map ppD, rfl, rfl, fun i x hx => ?_, fun acc ha => ?_⟩
  · obtain ⟨p, hp1, rfl⟩ := map_get hx
    refine ⟨_, rfl, rfl, ?_⟩
    intro acc ha g1 s1 H1 C1 cl1 fp1
    subst ha
    show WT _ _ _ _ _ _
    refine wt_cp op_gt ?_
    refine we_sub ?_
    refine we_n 4 ?_
    refine we_n 3 ?_
    refine ⟨?_, trivial⟩
    refine we_int ?_
    refine ⟨_, cp_gt, ?_⟩
    refine ⟨fun b s1 H1 C1 cl1 fp1 => ?_, fun b => tkf_f ppD hp1 b⟩
    refine we_tuple ?_
    refine wa_d ?_
    refine we_n 3 ?_
    refine ⟨rfl, ?_⟩
    refine wa_d ?_
    refine we_n 4 ?_
    refine ⟨rfl, ?_⟩
    refine wa_nil ?_
    refine ⟨_, rfl, szOk rfl, ?_⟩
    exact ⟨rfl, tkf_t ppD hp1 b⟩
  · subst ha
    rw [List.length_map, List.take_length]
    obtain ⟨ws, hws⟩ : ∃ ws, l.filter wide = ws := ⟨_, rfl⟩
    rw [hws]
    refine ws_cons (w1_ret ?_)
    refine we_tuple ?_
    refine wa_d ?_
    refine we_n 1 ?_
    refine ⟨rfl, ?_⟩
    refine wa_d ?_
    refine we_tupof m_tuple ?_
    refine we_of_wn ?_
    refine wn_sorted m_sorted hr ?_
    refine we_of_wn ?_
    refine wn_lcL (own := [("_law_low", 3), ("_law_high", 4)]) rfl sc__law_drawn_plan.nd (blkOk_by (by rfl)) (fun _ _ _ _ _ => (pg_tup rfl (pgs_cons (pg_name (i := 3) sc__law_drawn_plan.nd rfl (by first | exact Or.inl rfl | exact Or.inr rfl)) (pgs_cons (pg_name (i := 4) sc__law_drawn_plan.nd rfl (by first | exact Or.inl rfl | exact Or.inr rfl)) pgs_nil)))) (tgd_tup (tgds_cons (tgd_name 3) (tgds_cons (tgd_name 4) tgds_nil)) rfl) (by decide) rfl ?_
    refine we_n 2 ?_
    refine ⟨rfl, _, fun i acc => acc = (ws.take i).map fun p => ppD (nrm n p), rfl, rfl, fun i x hx => ?_, fun acc ha => ?_⟩
    · obtain ⟨p, hp1, rfl⟩ := map_get hx
      refine ⟨_, rfl, rfl, ?_⟩
      intro acc ha g1 s1 H1 C1 cl1 fp1
      refine ⟨fun _ s1 H1 C1 cl1 fp1 => ?_, fun z => by cases z⟩
      refine we_call ho__law_pair hr ?_
      refine wa_d ?_
      refine we_n 3 ?_
      refine ⟨rfl, ?_⟩
      refine wa_d ?_
      refine we_mod ?_
      refine we_n 4 ?_
      refine we_n 1 ?_
      refine ⟨?_, by omega⟩
      refine ⟨rfl, ?_⟩
      refine wa_nil ?_
      refine ⟨rfl, p.1, p.2 % n, rfl, rfl, _, rfl, ?_⟩
      refine ⟨rfl, ?_⟩
      subst ha
      exact tk_succ (fun p => ppD (nrm n p)) hp1
    · subst ha
      rw [List.length_map, List.take_length]
      have em : (ws.map fun p => ppD (nrm n p)) = (ws.map (nrm n)).map ppD := by simp
      rw [em]
      refine ⟨_, rfl, pairs_alike _, pairs_sortable _, pairs_depth _, ?_⟩
      refine .lst ?_
      refine ⟨rfl, ?_⟩
      refine wa_nil ?_
      refine ⟨_, rfl, szOk rfl, ?_⟩
      rw [srt_pp]
      have hq := hΦ l hl
      unfold planOf at hq
      rw [hws] at hq
      exact ⟨rfl, _, hq, trivial, ⟨rfl, rfl⟩, rfl, rfl⟩
theorem ok__law_drawn_plan (h : Has P w K mg base k "_law_drawn_plan" ["_law_bag_here", "_law_faces"] o__law_drawn_plan) : Has P w K mg base k "_law_drawn_plan" ["_law_bag_here", "_law_faces"] c__law_drawn_plan := h.imp fun args Φ Ψ ⟨b, m, Kf, Ef, e, hf, h1, h2⟩ => by
  subst e
  cases m with
  | int m => exact ⟨b, m, rfl, hf.1.1, hf.1.2, fun l hl => h1 _ (hf.2 l hl)⟩
  | _ => exact (show False from hf).elim
theorem ok__law_plan (F : FnP K "_law_plan" s__law_plan f fd) (hm : mg "_law_plan" = some (.ref f)) (hb : Binds K fd ["_law_bag_here", "_law_most"] []) (h__law_pull : Has P w K mg base k "_law_pull" ["_law_bag_here", "_law_many"] c__law_pull) (h__law_drawn_plan : Has P w K mg base k "_law_drawn_plan" ["_law_bag_here", "_law_faces"] c__law_drawn_plan) :
    Has P w K mg base (k + 1) "_law_plan" ["_law_bag_here", "_law_most"] c__law_plan := by
  refine fn_has F hm sc__law_plan hb rfl ?_
  rintro cdv A outer s H E g args Φ Ψ hr hp hM hl ⟨a_l_bag_here, l_most, Kf, Ef, rfl, h, hK, hE⟩
  unfold f__law_plan at h
  refine ws_env (env' := [.bg a_l_bag_here, .d l_most, .un]) rfl ?_
  refine ws_cons (w1_set 2 sc__law_plan.nd ?_)
  refine we_add ?_
  refine we_int ?_
  refine we_call h__law_pull hr ?_
  refine wa_s 0 ?_
  refine wa_d ?_
  refine we_sub ?_
  refine we_n 1 ?_
  refine we_int ?_
  refine sub_sh h fun r1 h => ?_
  refine ⟨rfl, ?_⟩
  refine wa_nil ?_
  refine ⟨rfl, _, _, _, _, rfl, h, fun r2 h => ⟨rfl, _, rfl, ?_⟩, fun c hc => ⟨rfl, ⟨_, hE _ hc, ⟨rfl, rfl⟩, rfl, rfl⟩⟩⟩
  refine add_sh h fun r3 h => ?_
  refine ⟨rfl, ?_⟩
  refine ws_env (env' := [.bg a_l_bag_here, .d l_most, .d r3]) rfl ?_
  refine ws_cons (w1_ret ?_)
  refine we_call h__law_drawn_plan hr ?_
  refine wa_s 0 ?_
  refine wa_d ?_
  refine we_n 2 ?_
  refine ⟨rfl, ?_⟩
  refine wa_nil ?_
  refine ⟨rfl, _, _, _, _, rfl, h, fun r4 h => ⟨rfl, _, rfl, ?_⟩, fun c hc => ⟨rfl, ⟨_, hE _ hc, ⟨rfl, rfl⟩, rfl, rfl⟩⟩⟩
  exact ⟨rfl, _, hK _ h, trivial, ⟨rfl, rfl⟩, rfl, rfl⟩
theorem ok__law_crossed (F : FnP K "_law_crossed" s__law_crossed f fd) (hm : mg "_law_crossed" = some (.ref f)) (hb : Binds K fd ["_law_one", "_law_other"] [])  :
    Has P w K mg base (k + 1) "_law_crossed" ["_law_one", "_law_other"] c__law_crossed := by
  refine fn_has F hm sc__law_crossed hb rfl ?_
  rintro cdv A outer s H E g args Φ Ψ hr hp hM hl ⟨l_one, l_other, Kf, Ef, rfl, h, hK, hE⟩
  unfold f__law_crossed at h
  refine ws_env (env' := [.d l_one, .d l_other, .un, .un, .un, .un]) rfl ?_
  refine ws_cons (w1_unpack (pg_tup rfl (pgs_cons (pg_name (i := 2) sc__law_crossed.nd rfl (by first | exact Or.inl rfl | exact Or.inr rfl)) (pgs_cons (pg_name (i := 3) sc__law_crossed.nd rfl (by first | exact Or.inl rfl | exact Or.inr rfl)) pgs_nil))) (tgd_tup (tgds_cons (tgd_name 2) (tgds_cons (tgd_name 3) tgds_nil)) rfl) ?_)
  refine we_n 0 ?_
  obtain ⟨l_low1, l_high2, he3, h⟩ := un2_sh h
  refine ⟨rfl, [(2, l_low1), (3, l_high2)], (by rw [he3]; rfl), rfl, ?_⟩
  refine ws_env (env' := [.d l_one, .d l_other, .d l_low1, .d l_high2, .un, .un]) rfl ?_
  refine ws_cons (w1_unpack (pg_tup rfl (pgs_cons (pg_name (i := 4) sc__law_crossed.nd rfl (by first | exact Or.inl rfl | exact Or.inr rfl)) (pgs_cons (pg_name (i := 5) sc__law_crossed.nd rfl (by first | exact Or.inl rfl | exact Or.inr rfl)) pgs_nil))) (tgd_tup (tgds_cons (tgd_name 4) (tgds_cons (tgd_name 5) tgds_nil)) rfl) ?_)
  refine we_n 1 ?_
  obtain ⟨l_here4, l_there5, he6, h⟩ := un2_sh h
  refine ⟨rfl, [(4, l_here4), (5, l_there5)], (by rw [he6]; rfl), rfl, ?_⟩
  refine ws_env (env' := [.d l_one, .d l_other, .d l_low1, .d l_high2, .d l_here4, .d l_there5]) rfl ?_
  refine ws_cons (w1_ret ?_)
  refine we_orS h (fun Q h => ?_) (fun Q h => ?_) fun b7 h => ?_
  · refine we_ch3 (op_ltA hr) (op_ltA hr) (op_ltA hr) ?_
    refine we_n 2 ?_
    refine we_n 4 ?_
    refine ch_sh3 h (fun Q h => lt_sh h fun _ h => h) (fun Q h => ?_) fun b8 h => ?_
    · refine we_n 3 ?_
      refine ch_sh2 h (fun Q h => lt_sh h fun _ h => h) (fun Q h => ?_) fun _ h => h
      · refine we_n 5 ?_
        exact lt_sh h fun _ h => h
    refine ⟨_, rfl, ?_⟩
    exact h
  · refine we_one ?_
    refine we_ch3 (op_ltA hr) (op_ltA hr) (op_ltA hr) ?_
    refine we_n 4 ?_
    refine we_n 2 ?_
    refine ch_sh3 h (fun Q h => lt_sh h fun _ h => h) (fun Q h => ?_) fun b9 h => ?_
    · refine we_n 5 ?_
      refine ch_sh2 h (fun Q h => lt_sh h fun _ h => h) (fun Q h => ?_) fun _ h => h
      · refine we_n 3 ?_
        exact lt_sh h fun _ h => h
    refine ⟨_, rfl, ?_⟩
    exact h
  exact ⟨rfl, _, hK _ h, trivial, rfl, rfl, rfl⟩
theorem ok__law_good_plan (F : FnP K "_law_good_plan" s__law_good_plan f fd) (hm : mg "_law_good_plan" = some (.ref f)) (hb : Binds K fd ["_law_plan_here"] []) (m_len : mg "len" = none) (m_enumerate : mg "enumerate" = none) (h__law_crossed : Has P w K mg base k "_law_crossed" ["_law_one", "_law_other"] c__law_crossed) :
    Has P w K mg base (k + 1) "_law_good_plan" ["_law_plan_here"] c__law_good_plan := by
  refine fn_has F hm sc__law_good_plan hb rfl ?_
  rintro cdv A outer s H E g args Φ Ψ hr hp hM hl ⟨l_plan_here, Kf, Ef, rfl, h, hK, hE⟩
  unfold f__law_good_plan at h
  refine ws_env (env' := [.d l_plan_here, .un, .un, .un, .un, .un, .un]) rfl ?_
  refine ws_cons (w1_unpack (pg_tup rfl (pgs_cons (pg_name (i := 1) sc__law_good_plan.nd rfl (by first | exact Or.inl rfl | exact Or.inr rfl)) (pgs_cons (pg_name (i := 2) sc__law_good_plan.nd rfl (by first | exact Or.inl rfl | exact Or.inr rfl)) pgs_nil))) (tgd_tup (tgds_cons (tgd_name 1) (tgds_cons (tgd_name 2) tgds_nil)) rfl) ?_)
  refine we_n 0 ?_
  obtain ⟨l_faces1, l_cuts2, he3, h⟩ := un2_sh h
  refine ⟨rfl, [(1, l_faces1), (2, l_cuts2)], (by rw [he3]; rfl), rfl, ?_⟩
  refine ws_env (env' := [.d l_plan_here, .d l_faces1, .d l_cuts2, .un, .un, .un, .un]) rfl ?_
  refine ws_cons (w1_if ?_)
  refine wt_ww ?_
  refine ww_orS h (fun Q h => ?_) (fun Q h => ?_) fun b4 h => ?_
  · refine wt_cp (op_ltA hr) ?_
    refine we_n 1 ?_
    refine we_int ?_
    refine lt_sh h fun b5 h => ?_
    exact h
  · refine ww_orS h (fun Q h => ?_) (fun Q h => ?_) fun b6 h => ?_
    · refine wt_cp op_gt ?_
      refine we_n 1 ?_
      refine we_int ?_
      refine gt_sh h fun b7 h => ?_
      exact h
    · refine ww_or1 ?_
      refine wt_cp (op_neA hr) ?_
      refine we_len m_len ?_
      refine we_n 2 ?_
      refine len_sh h fun r8 h => ?_
      refine we_sub ?_
      refine we_n 1 ?_
      refine we_int ?_
      refine sub_sh h fun r9 h => ?_
      refine ne_sh h fun b10 h => ?_
      exact h
    exact h
  obtain ⟨h11, h12⟩ := h
  refine ⟨fun e13 => ?_, fun e13 => ?_⟩
  · replace h := h11 e13
    refine ws_cons (w1_ret ?_)
    refine we_bool ?_
    exact ⟨rfl, _, hK _ h, trivial, rfl, rfl⟩
  · replace h := h12 e13
    refine ws_nil ?_
    refine ws_cons (w1_for hp rfl (pg_tup rfl (pgs_cons (pg_name (i := 3) sc__law_good_plan.nd rfl (by first | exact Or.inl rfl | exact Or.inr rfl)) (pgs_cons (pg_tup rfl (pgs_cons (pg_name (i := 4) sc__law_good_plan.nd rfl (by first | exact Or.inl rfl | exact Or.inr rfl)) (pgs_cons (pg_name (i := 5) sc__law_good_plan.nd rfl (by first | exact Or.inl rfl | exact Or.inr rfl)) pgs_nil))) pgs_nil))) (tgd_tup (tgds_cons (tgd_name 3) (tgds_cons (tgd_tup (tgds_cons (tgd_name 4) (tgds_cons (tgd_name 5) tgds_nil)) rfl) tgds_nil)) rfl) ?_)
    refine wi_en m_enumerate ?_
    refine we_n 2 ?_
    refine ⟨rfl, enu_sh h fun xs14 h => ?_⟩
    refine forS h (fun (s : Unit) (u : Sl × Sl × Sl × Sl) => [.d l_plan_here, .d l_faces1, .d l_cuts2, u.2.1, u.2.2.1, u.2.2.2, u.1]) ((.un), (.un), (.un), (.un)) rfl ?_ ?_
    · rintro _ ⟨w15, w16, w17, w18⟩ h
      refine ws_env (env' := [.d l_plan_here, .d l_faces1, .d l_cuts2, w16, w17, w18, w15]) rfl ?_
      refine ws_cons (w1_ret ?_)
      refine we_bool ?_
      exact ⟨rfl, _, hK _ h, trivial, rfl, rfl⟩
    · rintro hend p19 _ ⟨w22, w23, w24, w25⟩ N20 h
      obtain ⟨l_at26, p27, he28, h⟩ := un2_sh h
      obtain ⟨l_low29, l_high30, he31, h⟩ := un2_sh h
      refine ⟨[(3, l_at26), (4, l_low29), (5, l_high30)], (by rw [he28, he31]; rfl), rfl, ?_⟩
      refine ws_env (env' := [.d l_plan_here, .d l_faces1, .d l_cuts2, .d l_at26, .d l_low29, .d l_high30, w22]) rfl ?_
      refine ws_cons (w1_if ?_)
      refine wt_ww ?_
      refine ww_orS h (fun Q h => ?_) (fun Q h => ?_) fun b32 h => ?_
      · refine wt_cp (op_ltA hr) ?_
        refine we_n 4 ?_
        refine we_int ?_
        refine lt_sh h fun b33 h => ?_
        exact h
      · refine ww_orS h (fun Q h => ?_) (fun Q h => ?_) fun b34 h => ?_
        · refine wt_cp op_ge ?_
          refine we_n 5 ?_
          refine we_n 1 ?_
          refine ge_sh h fun b35 h => ?_
          exact h
        · refine ww_orS h (fun Q h => ?_) (fun Q h => ?_) fun b36 h => ?_
          · refine wt_cp (op_ltA hr) ?_
            refine we_sub ?_
            refine we_n 5 ?_
            refine we_n 4 ?_
            refine sub_sh h fun r37 h => ?_
            refine we_int ?_
            refine lt_sh h fun b38 h => ?_
            exact h
          · refine ww_or1 ?_
            refine wt_cp (op_eqA hr) ?_
            refine we_sub ?_
            refine we_n 5 ?_
            refine we_n 4 ?_
            refine sub_sh h fun r39 h => ?_
            refine we_sub ?_
            refine we_n 1 ?_
            refine we_int ?_
            refine sub_sh h fun r40 h => ?_
            refine eq_sh h fun b41 h => ?_
            exact h
          exact h
        exact h
      obtain ⟨h42, h43⟩ := h
      refine ⟨fun e44 => ?_, fun e44 => ?_⟩
      · replace h := h42 e44
        refine ws_cons (w1_ret ?_)
        refine we_bool ?_
        exact ⟨rfl, _, hK _ h, trivial, rfl, rfl⟩
      · replace h := h43 e44
        refine ws_nil ?_
        refine ws_cons (w1_if ?_)
        refine wt_ww ?_
        refine ww_andS h (fun Q h => ?_) (fun Q h => ?_) fun b45 h => ?_
        · refine wt_cp op_gt ?_
          refine we_n 3 ?_
          refine we_int ?_
          refine gt_sh h fun b46 h => ?_
          exact h
        · refine ww_and1 ?_
          refine wt_cp (op_leA hr) ?_
          refine we_ix ?_
          refine we_n 2 ?_
          refine we_n 3 ?_
          refine ix_sh h fun r47 h => ?_
          refine we_ix ?_
          refine we_n 2 ?_
          refine we_sub ?_
          refine we_n 3 ?_
          refine we_int ?_
          refine sub_sh h fun r48 h => ?_
          refine ix_sh h fun r49 h => ?_
          refine le_sh h fun b50 h => ?_
          exact h
        obtain ⟨h51, h52⟩ := h
        refine ⟨fun e53 => ?_, fun e53 => ?_⟩
        · replace h := h51 e53
          refine ws_cons (w1_ret ?_)
          refine we_bool ?_
          exact ⟨rfl, _, hK _ h, trivial, rfl, rfl⟩
        · replace h := h52 e53
          refine ws_nil ?_
          refine ws_cons (w1_for hp rfl (pg_name (i := 6) sc__law_good_plan.nd rfl (by first | exact Or.inl rfl | exact Or.inr rfl)) (tgd_name 6) ?_)
          refine wi_d ?_
          refine we_slA ?_
          refine we_n 2 ?_
          refine ⟨rfl, ?_⟩
          refine wp_none ?_
          refine wp_e ?_
          refine we_n 3 ?_
          refine into_sh h fun i55 h => ?_
          refine sl_sh h fun r56 h => ?_
          refine ⟨rfl, it_sh h fun xs54 h => ?_⟩
          refine forS h (fun (s : Unit) (u : Sl) => [.d l_plan_here, .d l_faces1, .d l_cuts2, .d l_at26, .d l_low29, .d l_high30, u]) (w22) rfl ?_ ?_
          · rintro _ w57 h
            refine ws_env (env' := [.d l_plan_here, .d l_faces1, .d l_cuts2, .d l_at26, .d l_low29, .d l_high30, w57]) rfl ?_
            exact ws_nil ⟨(), ((w57), (.d l_at26), (.d l_low29), (.d l_high30)), h, rfl⟩
          · rintro hend l_other58 _ w61 N59 h
            refine ⟨[(6, l_other58)], rfl, rfl, ?_⟩
            refine ws_env (env' := [.d l_plan_here, .d l_faces1, .d l_cuts2, .d l_at26, .d l_low29, .d l_high30, .d l_other58]) rfl ?_
            refine ws_cons (w1_if ?_)
            refine wt_e ?_
            refine we_call h__law_crossed hr ?_
            refine wa_d ?_
            refine we_n 6 ?_
            refine ⟨rfl, ?_⟩
            refine wa_d ?_
            refine we_tuple ?_
            refine wa_d ?_
            refine we_n 4 ?_
            refine ⟨rfl, ?_⟩
            refine wa_d ?_
            refine we_n 5 ?_
            refine ⟨rfl, ?_⟩
            refine wa_nil ?_
            refine ⟨_, rfl, szOk rfl, ?_⟩
            refine ⟨rfl, ?_⟩
            refine wa_nil ?_
            refine ⟨rfl, _, _, _, _, rfl, h, fun r62 h => ⟨rfl, _, rfl, ?_⟩, fun c hc => ⟨rfl, ⟨_, hE _ hc, rfl, rfl⟩⟩⟩
            refine bool_sh h fun b63 h => ?_
            obtain ⟨h64, h65⟩ := h
            refine ⟨fun e66 => ?_, fun e66 => ?_⟩
            · replace h := h64 e66
              refine ws_cons (w1_ret ?_)
              refine we_bool ?_
              exact ⟨rfl, _, hK _ h, trivial, rfl, rfl⟩
            · replace h := h65 e66
              refine ws_nil ?_
              exact ws_nil ⟨(), (.d l_other58), h, rfl⟩
theorem ok__law_odd (F : FnP K "_law_odd" s__law_odd f fd) (hm : mg "_law_odd" = some (.ref f)) (hb : Binds K fd ["_law_bag_here", "_law_many"] []) (h__law_pull : Has P w K mg base k "_law_pull" ["_law_bag_here", "_law_many"] c__law_pull) :
    Has P w K mg base (k + 1) "_law_odd" ["_law_bag_here", "_law_many"] c__law_odd := by
  refine fn_has F hm sc__law_odd hb rfl ?_
  rintro cdv A outer s H E g args Φ Ψ hr hp hM hl ⟨a_l_bag_here, l_many, Kf, Ef, rfl, h, hK, hE⟩
  unfold f__law_odd at h
  refine ws_env (env' := [.bg a_l_bag_here, .d l_many]) rfl ?_
  refine ws_cons (w1_ret ?_)
  refine we_ix ?_
  refine we_list ?_
  refine wa_d ?_
  refine we_sub ?_
  refine we_int ?_
  refine we_int ?_
  refine sub_sh h fun r1 h => ?_
  refine ⟨rfl, ?_⟩
  refine wa_d ?_
  refine we_int ?_
  refine ⟨rfl, ?_⟩
  refine wa_d ?_
  refine we_int ?_
  refine ⟨rfl, ?_⟩
  refine wa_d ?_
  refine we_n 1 ?_
  refine ⟨rfl, ?_⟩
  refine wa_d ?_
  refine we_add ?_
  refine we_n 1 ?_
  refine we_int ?_
  refine add_sh h fun r2 h => ?_
  refine ⟨rfl, ?_⟩
  refine wa_d ?_
  refine we_sub ?_
  refine we_n 1 ?_
  refine we_int ?_
  refine sub_sh h fun r3 h => ?_
  refine ⟨rfl, ?_⟩
  refine wa_d ?_
  refine we_pow ?_
  refine we_int ?_
  refine we_int ?_
  refine powP (v := 1000000000000000000000000000000) (by decide +kernel) ?_ (by unfold L2.CPow; decide)
  refine ⟨rfl, ?_⟩
  refine wa_d ?_
  refine we_sub ?_
  refine we_int ?_
  refine we_pow ?_
  refine we_int ?_
  refine we_int ?_
  refine powP (v := 1000000000000000000000000000000) (by decide +kernel) ?_ (by unfold L2.CPow; decide)
  refine sub_sh h fun r4 h => ?_
  refine ⟨rfl, ?_⟩
  refine wa_d ?_
  refine we_call h__law_pull hr ?_
  refine wa_s 0 ?_
  refine wa_d ?_
  refine we_int ?_
  refine ⟨rfl, ?_⟩
  refine wa_nil ?_
  refine ⟨rfl, _, _, _, _, rfl, h, fun r5 h => ⟨rfl, _, rfl, ?_⟩, fun c hc => ⟨rfl, ⟨_, hE _ hc, ⟨rfl, rfl⟩, rfl, rfl⟩⟩⟩
  refine ⟨rfl, ?_⟩
  refine wa_nil ?_
  refine ⟨_, rfl, szOk rfl, ?_⟩
  refine we_call h__law_pull hr ?_
  refine wa_s 0 ?_
  refine wa_d ?_
  refine we_int ?_
  refine ⟨rfl, ?_⟩
  refine wa_nil ?_
  refine ⟨rfl, _, _, _, _, rfl, h, fun r6 h => ⟨rfl, _, rfl, ?_⟩, fun c hc => ⟨rfl, ⟨_, hE _ hc, ⟨rfl, rfl⟩, rfl, rfl⟩⟩⟩
  refine ix_sh h fun r7 h => ?_
  exact ⟨rfl, _, hK _ h, trivial, ⟨rfl, rfl⟩, rfl, rfl⟩
theorem ok__law_bent_plan (F : FnP K "_law_bent_plan" s__law_bent_plan f fd) (hm : mg "_law_bent_plan" = some (.ref f)) (hb : Binds K fd ["_law_bag_here", "_law_plan_here"] []) (h__law_pull : Has P w K mg base k "_law_pull" ["_law_bag_here", "_law_many"] c__law_pull) (h__law_odd : Has P w K mg base k "_law_odd" ["_law_bag_here", "_law_many"] c__law_odd) (m_len : mg "len" = none) (m_abs : mg "abs" = none) (m_tuple : mg "tuple" = none) (m_sorted : mg "sorted" = none) (m_list : mg "list" = none) :
    Has P w K mg base (k + 1) "_law_bent_plan" ["_law_bag_here", "_law_plan_here"] c__law_bent_plan := by
  refine fn_has F hm sc__law_bent_plan hb rfl ?_
  rintro cdv A outer s H E g args Φ Ψ hr hp hM hl ⟨a_l_bag_here, l_plan_here, Kf, Ef, rfl, h, hK, hE⟩
  unfold f__law_bent_plan at h
  refine ws_env (env' := [.bg a_l_bag_here, .d l_plan_here, .un, .un, .un, .un, .un, .un, .un, .un]) rfl ?_
  refine ws_cons (w1_unpack (pg_tup rfl (pgs_cons (pg_name (i := 2) sc__law_bent_plan.nd rfl (by first | exact Or.inl rfl | exact Or.inr rfl)) (pgs_cons (pg_name (i := 3) sc__law_bent_plan.nd rfl (by first | exact Or.inl rfl | exact Or.inr rfl)) pgs_nil))) (tgd_tup (tgds_cons (tgd_name 2) (tgds_cons (tgd_name 3) tgds_nil)) rfl) ?_)
  refine we_n 1 ?_
  obtain ⟨l_faces1, l_cuts2, he3, h⟩ := un2_sh h
  refine ⟨rfl, [(2, l_faces1), (3, l_cuts2)], (by rw [he3]; rfl), rfl, ?_⟩
  refine ws_env (env' := [.bg a_l_bag_here, .d l_plan_here, .d l_faces1, .d l_cuts2, .un, .un, .un, .un, .un, .un]) rfl ?_
  refine ws_cons (w1_set 4 sc__law_bent_plan.nd ?_)
  refine we_call h__law_pull hr ?_
  refine wa_s 0 ?_
  refine wa_d ?_
  refine we_int ?_
  refine ⟨rfl, ?_⟩
  refine wa_nil ?_
  refine ⟨rfl, _, _, _, _, rfl, h, fun r4 h => ⟨rfl, _, rfl, ?_⟩, fun c hc => ⟨rfl, ⟨_, hE _ hc, ⟨rfl, rfl⟩, rfl, rfl⟩⟩⟩
  refine ⟨rfl, ?_⟩
  refine ws_env (env' := [.bg a_l_bag_here, .d l_plan_here, .d l_faces1, .d l_cuts2, .d r4, .un, .un, .un, .un, .un]) rfl ?_
  refine ws_cons (w1_if ?_)
  refine wt_ww ?_
  refine ww_orS h (fun Q h => ?_) (fun Q h => ?_) fun b5 h => ?_
  · refine wt_cp (op_eqA hr) ?_
    refine we_n 4 ?_
    refine we_int ?_
    refine eq_sh h fun b6 h => ?_
    exact h
  · refine ww_or1 ?_
    refine wt_cp (op_eqA hr) ?_
    refine we_n 3 ?_
    refine we_tuple ?_
    refine wa_nil ?_
    refine ⟨_, rfl, szOk rfl, ?_⟩
    refine eq_sh h fun b7 h => ?_
    exact h
  obtain ⟨h8, h9⟩ := h
  refine ⟨fun e10 => ?_, fun e10 => ?_⟩
  · replace h := h8 e10
    refine ws_cons (w1_ret ?_)
    refine we_tuple ?_
    refine wa_d ?_
    refine we_call h__law_odd hr ?_
    refine wa_s 0 ?_
    refine wa_d ?_
    refine we_n 2 ?_
    refine ⟨rfl, ?_⟩
    refine wa_nil ?_
    refine ⟨rfl, _, _, _, _, rfl, h, fun r11 h => ⟨rfl, _, rfl, ?_⟩, fun c hc => ⟨rfl, ⟨_, hE _ hc, ⟨rfl, rfl⟩, rfl, rfl⟩⟩⟩
    refine ⟨rfl, ?_⟩
    refine wa_d ?_
    refine we_n 3 ?_
    refine ⟨rfl, ?_⟩
    refine wa_nil ?_
    refine ⟨_, rfl, szOk rfl, ?_⟩
    exact ⟨rfl, _, hK _ h, trivial, ⟨rfl, rfl⟩, rfl, rfl⟩
  · replace h := h9 e10
    refine ws_nil ?_
    refine ws_cons (w1_set 5 sc__law_bent_plan.nd ?_)
    refine we_call h__law_pull hr ?_
    refine wa_s 0 ?_
    refine wa_d ?_
    refine we_len m_len ?_
    refine we_n 3 ?_
    refine len_sh h fun r12 h => ?_
    refine ⟨rfl, ?_⟩
    refine wa_nil ?_
    refine ⟨rfl, _, _, _, _, rfl, h, fun r13 h => ⟨rfl, _, rfl, ?_⟩, fun c hc => ⟨rfl, ⟨_, hE _ hc, ⟨rfl, rfl⟩, rfl, rfl⟩⟩⟩
    refine ⟨rfl, ?_⟩
    refine ws_env (env' := [.bg a_l_bag_here, .d l_plan_here, .d l_faces1, .d l_cuts2, .d r4, .d r13, .un, .un, .un, .un]) rfl ?_
    refine ws_cons (w1_if ?_)
    refine wt_cp (op_eqA hr) ?_
    refine we_n 4 ?_
    refine we_int ?_
    refine eq_sh h fun b14 h => ?_
    obtain ⟨h15, h16⟩ := h
    refine ⟨fun e17 => ?_, fun e17 => ?_⟩
    · replace h := h15 e17
      refine ws_cons (w1_ret ?_)
      refine we_tuple ?_
      refine wa_d ?_
      refine we_n 2 ?_
      refine ⟨rfl, ?_⟩
      refine wa_d ?_
      refine we_add ?_
      refine we_slA ?_
      refine we_n 3 ?_
      refine ⟨rfl, ?_⟩
      refine wp_none ?_
      refine wp_e ?_
      refine we_n 5 ?_
      refine into_sh h fun i18 h => ?_
      refine sl_sh h fun r19 h => ?_
      refine we_slA ?_
      refine we_n 3 ?_
      refine ⟨rfl, ?_⟩
      refine wp_e ?_
      refine we_add ?_
      refine we_n 5 ?_
      refine we_int ?_
      refine add_sh h fun r20 h => ?_
      refine into_sh h fun i21 h => ?_
      refine wp_none ?_
      refine sl_sh h fun r22 h => ?_
      refine add_sh h fun r23 h => ?_
      refine ⟨rfl, ?_⟩
      refine wa_nil ?_
      refine ⟨_, rfl, szOk rfl, ?_⟩
      exact ⟨rfl, _, hK _ h, trivial, ⟨rfl, rfl⟩, rfl, rfl⟩
    · replace h := h16 e17
      refine ws_nil ?_
      refine ws_cons (w1_if ?_)
      refine wt_cp (op_eqA hr) ?_
      refine we_n 4 ?_
      refine we_int ?_
      refine eq_sh h fun b24 h => ?_
      obtain ⟨h25, h26⟩ := h
      refine ⟨fun e27 => ?_, fun e27 => ?_⟩
      · replace h := h25 e27
        refine ws_cons (w1_ret ?_)
        refine we_tuple ?_
        refine wa_d ?_
        refine we_n 2 ?_
        refine ⟨rfl, ?_⟩
        refine wa_d ?_
        refine we_add ?_
        refine we_add ?_
        refine we_slA ?_
        refine we_n 3 ?_
        refine ⟨rfl, ?_⟩
        refine wp_none ?_
        refine wp_e ?_
        refine we_n 5 ?_
        refine into_sh h fun i28 h => ?_
        refine sl_sh h fun r29 h => ?_
        refine we_tuple ?_
        refine wa_d ?_
        refine we_ix ?_
        refine we_n 3 ?_
        refine we_n 5 ?_
        refine ix_sh h fun r30 h => ?_
        refine ⟨rfl, ?_⟩
        refine wa_nil ?_
        refine ⟨_, rfl, szOk rfl, ?_⟩
        refine add_sh h fun r31 h => ?_
        refine we_slA ?_
        refine we_n 3 ?_
        refine ⟨rfl, ?_⟩
        refine wp_e ?_
        refine we_n 5 ?_
        refine into_sh h fun i32 h => ?_
        refine wp_none ?_
        refine sl_sh h fun r33 h => ?_
        refine add_sh h fun r34 h => ?_
        refine ⟨rfl, ?_⟩
        refine wa_nil ?_
        refine ⟨_, rfl, szOk rfl, ?_⟩
        exact ⟨rfl, _, hK _ h, trivial, ⟨rfl, rfl⟩, rfl, rfl⟩
      · replace h := h26 e27
        refine ws_nil ?_
        refine ws_cons (w1_if ?_)
        refine wt_cp (op_eqA hr) ?_
        refine we_n 4 ?_
        refine we_int ?_
        refine eq_sh h fun b35 h => ?_
        obtain ⟨h36, h37⟩ := h
        refine ⟨fun e38 => ?_, fun e38 => ?_⟩
        · replace h := h36 e38
          refine ws_cons (w1_ret ?_)
          refine we_tuple ?_
          refine wa_d ?_
          refine we_n 2 ?_
          refine ⟨rfl, ?_⟩
          refine wa_d ?_
          refine we_add ?_
          refine we_add ?_
          refine we_slA ?_
          refine we_n 3 ?_
          refine ⟨rfl, ?_⟩
          refine wp_none ?_
          refine wp_e ?_
          refine we_n 5 ?_
          refine into_sh h fun i39 h => ?_
          refine sl_sh h fun r40 h => ?_
          refine we_revD ?_
          refine we_slA ?_
          refine we_n 3 ?_
          refine ⟨rfl, ?_⟩
          refine wp_e ?_
          refine we_n 5 ?_
          refine into_sh h fun i41 h => ?_
          refine wp_e ?_
          refine we_add ?_
          refine we_n 5 ?_
          refine we_int ?_
          refine add_sh h fun r42 h => ?_
          refine into_sh h fun i43 h => ?_
          refine sl_sh h fun r44 h => ?_
          refine revD_m h fun r45 h => ?_
          refine add_sh h fun r46 h => ?_
          refine we_slA ?_
          refine we_n 3 ?_
          refine ⟨rfl, ?_⟩
          refine wp_e ?_
          refine we_add ?_
          refine we_n 5 ?_
          refine we_int ?_
          refine add_sh h fun r47 h => ?_
          refine into_sh h fun i48 h => ?_
          refine wp_none ?_
          refine sl_sh h fun r49 h => ?_
          refine add_sh h fun r50 h => ?_
          refine ⟨rfl, ?_⟩
          refine wa_nil ?_
          refine ⟨_, rfl, szOk rfl, ?_⟩
          exact ⟨rfl, _, hK _ h, trivial, ⟨rfl, rfl⟩, rfl, rfl⟩
        · replace h := h37 e38
          refine ws_nil ?_
          refine ws_cons (w1_if ?_)
          refine wt_cp (op_eqA hr) ?_
          refine we_n 4 ?_
          refine we_int ?_
          refine eq_sh h fun b51 h => ?_
          obtain ⟨h52, h53⟩ := h
          refine ⟨fun e54 => ?_, fun e54 => ?_⟩
          · replace h := h52 e54
            refine ws_cons (w1_ret ?_)
            refine we_tuple ?_
            refine wa_d ?_
            refine we_n 2 ?_
            refine ⟨rfl, ?_⟩
            refine wa_d ?_
            refine we_add ?_
            refine we_add ?_
            refine we_slA ?_
            refine we_n 3 ?_
            refine ⟨rfl, ?_⟩
            refine wp_none ?_
            refine wp_e ?_
            refine we_n 5 ?_
            refine into_sh h fun i55 h => ?_
            refine sl_sh h fun r56 h => ?_
            refine we_tuple ?_
            refine wa_d ?_
            refine we_tuple ?_
            refine wa_d ?_
            refine we_ix ?_
            refine we_ix ?_
            refine we_n 3 ?_
            refine we_n 5 ?_
            refine ix_sh h fun r57 h => ?_
            refine we_int ?_
            refine ix_sh h fun r58 h => ?_
            refine ⟨rfl, ?_⟩
            refine wa_d ?_
            refine we_ix ?_
            refine we_ix ?_
            refine we_n 3 ?_
            refine we_n 5 ?_
            refine ix_sh h fun r59 h => ?_
            refine we_int ?_
            refine ix_sh h fun r60 h => ?_
            refine ⟨rfl, ?_⟩
            refine wa_nil ?_
            refine ⟨_, rfl, szOk rfl, ?_⟩
            refine ⟨rfl, ?_⟩
            refine wa_nil ?_
            refine ⟨_, rfl, szOk rfl, ?_⟩
            refine add_sh h fun r61 h => ?_
            refine we_slA ?_
            refine we_n 3 ?_
            refine ⟨rfl, ?_⟩
            refine wp_e ?_
            refine we_add ?_
            refine we_n 5 ?_
            refine we_int ?_
            refine add_sh h fun r62 h => ?_
            refine into_sh h fun i63 h => ?_
            refine wp_none ?_
            refine sl_sh h fun r64 h => ?_
            refine add_sh h fun r65 h => ?_
            refine ⟨rfl, ?_⟩
            refine wa_nil ?_
            refine ⟨_, rfl, szOk rfl, ?_⟩
            exact ⟨rfl, _, hK _ h, trivial, ⟨rfl, rfl⟩, rfl, rfl⟩
          · replace h := h53 e54
            refine ws_nil ?_
            refine ws_cons (w1_unpack (pg_tup rfl (pgs_cons (pg_name (i := 6) sc__law_bent_plan.nd rfl (by first | exact Or.inl rfl | exact Or.inr rfl)) (pgs_cons (pg_name (i := 7) sc__law_bent_plan.nd rfl (by first | exact Or.inl rfl | exact Or.inr rfl)) pgs_nil))) (tgd_tup (tgds_cons (tgd_name 6) (tgds_cons (tgd_name 7) tgds_nil)) rfl) ?_)
            refine we_ix ?_
            refine we_n 3 ?_
            refine we_n 5 ?_
            refine ix_sh h fun r66 h => ?_
            obtain ⟨l_low67, l_high68, he69, h⟩ := un2_sh h
            refine ⟨rfl, [(6, l_low67), (7, l_high68)], (by rw [he69]; rfl), rfl, ?_⟩
            refine ws_env (env' := [.bg a_l_bag_here, .d l_plan_here, .d l_faces1, .d l_cuts2, .d r4, .d r13, .d l_low67, .d l_high68, .un, .un]) rfl ?_
            refine ws_cons (w1_set 8 sc__law_bent_plan.nd ?_)
            refine we_call h__law_odd hr ?_
            refine wa_s 0 ?_
            refine wa_d ?_
            refine we_n 2 ?_
            refine ⟨rfl, ?_⟩
            refine wa_nil ?_
            refine ⟨rfl, _, _, _, _, rfl, h, fun r70 h => ⟨rfl, _, rfl, ?_⟩, fun c hc => ⟨rfl, ⟨_, hE _ hc, ⟨rfl, rfl⟩, rfl, rfl⟩⟩⟩
            refine ⟨rfl, ?_⟩
            refine ws_env (env' := [.bg a_l_bag_here, .d l_plan_here, .d l_faces1, .d l_cuts2, .d r4, .d r13, .d l_low67, .d l_high68, .d r70, .un]) rfl ?_
            refine ws_cons (w1_set 9 sc__law_bent_plan.nd ?_)
            refine we_mod ?_
            refine we_absA m_abs ?_
            refine we_n 8 ?_
            refine abs_m h fun r71 h => ?_
            refine we_int ?_
            refine mod_sh h fun r72 h => ?_
            refine ⟨rfl, ?_⟩
            refine ws_env (env' := [.bg a_l_bag_here, .d l_plan_here, .d l_faces1, .d l_cuts2, .d r4, .d r13, .d l_low67, .d l_high68, .d r70, .d r72]) rfl ?_
            refine ws_cons (w1_unpack (pg_tup rfl (pgs_cons (pg_name (i := 6) sc__law_bent_plan.nd rfl (by first | exact Or.inl rfl | exact Or.inr rfl)) (pgs_cons (pg_name (i := 7) sc__law_bent_plan.nd rfl (by first | exact Or.inl rfl | exact Or.inr rfl)) pgs_nil))) (tgd_tup (tgds_cons (tgd_name 6) (tgds_cons (tgd_name 7) tgds_nil)) rfl) ?_)
            refine we_ix ?_
            refine we_list ?_
            refine wa_d ?_
            refine we_tuple ?_
            refine wa_d ?_
            refine we_n 8 ?_
            refine ⟨rfl, ?_⟩
            refine wa_d ?_
            refine we_n 7 ?_
            refine ⟨rfl, ?_⟩
            refine wa_nil ?_
            refine ⟨_, rfl, szOk rfl, ?_⟩
            refine ⟨rfl, ?_⟩
            refine wa_d ?_
            refine we_tuple ?_
            refine wa_d ?_
            refine we_n 6 ?_
            refine ⟨rfl, ?_⟩
            refine wa_d ?_
            refine we_n 8 ?_
            refine ⟨rfl, ?_⟩
            refine wa_nil ?_
            refine ⟨_, rfl, szOk rfl, ?_⟩
            refine ⟨rfl, ?_⟩
            refine wa_d ?_
            refine we_tuple ?_
            refine wa_d ?_
            refine we_n 9 ?_
            refine ⟨rfl, ?_⟩
            refine wa_d ?_
            refine we_add ?_
            refine we_n 9 ?_
            refine we_call h__law_pull hr ?_
            refine wa_s 0 ?_
            refine wa_d ?_
            refine we_int ?_
            refine ⟨rfl, ?_⟩
            refine wa_nil ?_
            refine ⟨rfl, _, _, _, _, rfl, h, fun r73 h => ⟨rfl, _, rfl, ?_⟩, fun c hc => ⟨rfl, ⟨_, hE _ hc, ⟨rfl, rfl⟩, rfl, rfl⟩⟩⟩
            refine add_sh h fun r74 h => ?_
            refine ⟨rfl, ?_⟩
            refine wa_nil ?_
            refine ⟨_, rfl, szOk rfl, ?_⟩
            refine ⟨rfl, ?_⟩
            refine wa_nil ?_
            refine ⟨_, rfl, szOk rfl, ?_⟩
            refine we_sub ?_
            refine we_n 4 ?_
            refine we_int ?_
            refine sub_sh h fun r75 h => ?_
            refine ix_sh h fun r76 h => ?_
            obtain ⟨l_low77, l_high78, he79, h⟩ := un2_sh h
            refine ⟨rfl, [(6, l_low77), (7, l_high78)], (by rw [he79]; rfl), rfl, ?_⟩
            refine ws_env (env' := [.bg a_l_bag_here, .d l_plan_here, .d l_faces1, .d l_cuts2, .d r4, .d r13, .d l_low77, .d l_high78, .d r70, .d r72]) rfl ?_
            refine ws_cons (w1_ret ?_)
            refine we_tuple ?_
            refine wa_d ?_
            refine we_n 2 ?_
            refine ⟨rfl, ?_⟩
            refine wa_d ?_
            refine we_tupof m_tuple ?_
            refine we_of_wn ?_
            refine wn_sortedA m_sorted hr ?_
            refine we_add ?_
            refine we_of_wn ?_
            refine wn_listof m_list ?_
            refine we_add ?_
            refine we_slA ?_
            refine we_n 3 ?_
            refine ⟨rfl, ?_⟩
            refine wp_none ?_
            refine wp_e ?_
            refine we_n 5 ?_
            refine into_sh h fun i80 h => ?_
            refine sl_sh h fun r81 h => ?_
            refine we_slA ?_
            refine we_n 3 ?_
            refine ⟨rfl, ?_⟩
            refine wp_e ?_
            refine we_add ?_
            refine we_n 5 ?_
            refine we_int ?_
            refine add_sh h fun r82 h => ?_
            refine into_sh h fun i83 h => ?_
            refine wp_none ?_
            refine sl_sh h fun r84 h => ?_
            refine add_sh h fun r85 h => ?_
            refine list_sh h fun l86 h => ?_
            refine we_list ?_
            refine wa_d ?_
            refine we_tuple ?_
            refine wa_d ?_
            refine we_n 6 ?_
            refine ⟨rfl, ?_⟩
            refine wa_d ?_
            refine we_n 7 ?_
            refine ⟨rfl, ?_⟩
            refine wa_nil ?_
            refine ⟨_, rfl, szOk rfl, ?_⟩
            refine ⟨rfl, ?_⟩
            refine wa_nil ?_
            refine ⟨_, rfl, szOk rfl, ?_⟩
            refine add_sh h fun r87 h => ?_
            refine sort_m h fun l88 h => ?_
            refine tup_sh h fun r89 h => ?_
            refine ⟨rfl, ?_⟩
            refine wa_nil ?_
            refine ⟨_, rfl, szOk rfl, ?_⟩
            exact ⟨rfl, _, hK _ h, trivial, ⟨rfl, rfl⟩, rfl, rfl⟩
theorem ok_is_cut (F : FnP K "is_cut" s_is_cut f fd) (hm : mg "is_cut" = some (.ref f)) (hb : Binds K fd ["faces", "cut"] [])  :
    Has P w K mg base (k + 1) "is_cut" ["faces", "cut"] c_is_cut := by
  refine fn_has F hm sc_is_cut hb rfl ?_
  rintro cdv A outer s H E g args Φ Ψ hr hp hM hl ⟨faces, cut, Kf, Ef, rfl, h, hK, hE⟩
  unfold f_is_cut at h
  refine ws_env (env' := [.d faces, .d cut, .un, .un]) rfl ?_
  refine ws_cons (w1_unpack (pg_tup rfl (pgs_cons (pg_name (i := 2) sc_is_cut.nd rfl (by first | exact Or.inl rfl | exact Or.inr rfl)) (pgs_cons (pg_name (i := 3) sc_is_cut.nd rfl (by first | exact Or.inl rfl | exact Or.inr rfl)) pgs_nil))) (tgd_tup (tgds_cons (tgd_name 2) (tgds_cons (tgd_name 3) tgds_nil)) rfl) ?_)
  refine we_n 1 ?_
  obtain ⟨low1, high2, he3, h⟩ := un2_sh h
  refine ⟨rfl, [(2, low1), (3, high2)], (by rw [he3]; rfl), rfl, ?_⟩
  refine ws_env (env' := [.d faces, .d cut, .d low1, .d high2]) rfl ?_
  refine ws_cons (w1_ret ?_)
  refine we_andS h (fun Q h => ?_) (fun Q h => ?_) fun b4 h => ?_
  · refine we_cp (op_leA hr) ?_
    refine we_int ?_
    refine we_n 2 ?_
    refine le_sh h fun b5 h => ?_
    refine ⟨_, rfl, ?_⟩
    exact h
  · refine we_andS h (fun Q h => ?_) (fun Q h => ?_) fun b6 h => ?_
    · refine we_ch (op_ltA hr) (op_ltA hr) ?_
      refine we_add ?_
      refine we_n 2 ?_
      refine we_int ?_
      refine add_sh h fun r7 h => ?_
      refine we_n 3 ?_
      refine ch_sh2 h (fun Q h => lt_sh h fun _ h => h) (fun Q h => ?_) fun b8 h => ?_
      · refine we_n 0 ?_
        exact lt_sh h fun _ h => h
      refine ⟨_, rfl, ?_⟩
      exact h
    · refine we_one ?_
      refine we_cp (op_neA hr) ?_
      refine we_tuple ?_
      refine wa_d ?_
      refine we_n 2 ?_
      refine ⟨rfl, ?_⟩
      refine wa_d ?_
      refine we_n 3 ?_
      refine ⟨rfl, ?_⟩
      refine wa_nil ?_
      refine ⟨_, rfl, szOk rfl, ?_⟩
      refine we_tuple ?_
      refine wa_d ?_
      refine we_int ?_
      refine ⟨rfl, ?_⟩
      refine wa_d ?_
      refine we_sub ?_
      refine we_n 0 ?_
      refine we_int ?_
      refine sub_sh h fun r10 h => ?_
      refine ⟨rfl, ?_⟩
      refine wa_nil ?_
      refine ⟨_, rfl, szOk rfl, ?_⟩
      refine ne_sh h fun b11 h => ?_
      refine ⟨_, rfl, ?_⟩
      exact h
    exact ⟨_, rfl, h⟩
  exact ⟨rfl, _, hK _ h, trivial, rfl, rfl, rfl⟩
theorem ok_crossing (F : FnP K "crossing" s_crossing f fd) (hm : mg "crossing" = some (.ref f)) (hb : Binds K fd ["one", "other"] []) (m_len : mg "len" = none) :
    Has P w K mg base (k + 1) "crossing" ["one", "other"] c_crossing := by
  refine fn_has F hm sc_crossing hb rfl ?_
  rintro cdv A outer s H E g args Φ Ψ hr hp hM hl ⟨one, other, Kf, Ef, rfl, h, hK, hE⟩
  unfold f_crossing at h
  refine ws_env (env' := [.d one, .d other, .un, .un, .un, .un]) rfl ?_
  refine ws_cons (w1_unpack (pg_tup rfl (pgs_cons (pg_name (i := 2) sc_crossing.nd rfl (by first | exact Or.inl rfl | exact Or.inr rfl)) (pgs_cons (pg_name (i := 3) sc_crossing.nd rfl (by first | exact Or.inl rfl | exact Or.inr rfl)) pgs_nil))) (tgd_tup (tgds_cons (tgd_name 2) (tgds_cons (tgd_name 3) tgds_nil)) rfl) ?_)
  refine we_n 0 ?_
  obtain ⟨low1, high2, he3, h⟩ := un2_sh h
  refine ⟨rfl, [(2, low1), (3, high2)], (by rw [he3]; rfl), rfl, ?_⟩
  refine ws_env (env' := [.d one, .d other, .d low1, .d high2, .un, .un]) rfl ?_
  refine ws_cons (w1_setLc 4 (own := [("corner", 5)]) rfl sc_crossing.nd piS (blkOk_by (by rfl)) (fun _ _ _ _ _ => (pg_name (i := 5) sc_crossing.nd rfl (by first | exact Or.inl rfl | exact Or.inr rfl))) (by decide) (nt_lc (tgd_name 5) rfl ?_))
  refine wi_d ?_
  refine we_n 1 ?_
  refine ⟨rfl, it_sh h fun xs4 h => ?_⟩
  refine lcS h (fun corner5 kp sk h => ?_) fun l6 h => ?_
  · refine ⟨[(5, corner5)], rfl, rfl, fun g' s1 H1 C1 cl1 fp1 => ?_⟩
    show WT _ _ _ _ _ _
    refine wt_ww ?_
    refine ww_andS h (fun Q h => ?_) (fun Q h => ?_) fun b7 h => ?_
    · refine wt_cp (op_neA hr) ?_
      refine we_n 5 ?_
      refine we_n 2 ?_
      refine ne_sh h fun b8 h => ?_
      exact h
    · refine ww_and1 ?_
      refine wt_cp (op_neA hr) ?_
      refine we_n 5 ?_
      refine we_n 3 ?_
      refine ne_sh h fun b9 h => ?_
      exact h
    refine ⟨fun e s1 H1 C1 cl1 fp1 => ?_, h.2⟩
    replace h := h.1 e
    refine we_ch (op_ltA hr) (op_ltA hr) ?_
    refine we_n 2 ?_
    refine we_n 5 ?_
    refine ch_sh2 h (fun Q h => lt_sh h fun _ h => h) (fun Q h => ?_) fun b10 h => ?_
    · refine we_n 3 ?_
      exact lt_sh h fun _ h => h
    exact ⟨rfl, h⟩
  refine ws_env (env' := [.d one, .d other, .d low1, .d high2, .d (.list l6), .un]) rfl ?_
  refine ws_cons (w1_ret ?_)
  refine we_andS h (fun Q h => ?_) (fun Q h => ?_) fun b12 h => ?_
  · refine we_cp (op_eqA hr) ?_
    refine we_len m_len ?_
    refine we_n 4 ?_
    refine len_sh h fun r13 h => ?_
    refine we_int ?_
    refine eq_sh h fun b14 h => ?_
    refine ⟨_, rfl, ?_⟩
    exact h
  · refine we_one ?_
    refine we_cp (op_neA hr) ?_
    refine we_ix ?_
    refine we_n 4 ?_
    refine we_int ?_
    refine ix_sh h fun r15 h => ?_
    refine we_ix ?_
    refine we_n 4 ?_
    refine we_int ?_
    refine ix_sh h fun r16 h => ?_
    refine ne_sh h fun b17 h => ?_
    refine ⟨_, rfl, ?_⟩
    exact h
  exact ⟨rfl, _, hK _ h, trivial, rfl, rfl, rfl⟩
theorem ok_is_plan (F : FnP K "is_plan" s_is_plan f fd) (hm : mg "is_plan" = some (.ref f)) (hb : Binds K fd ["plan"] []) (g_LEAST : ∃ t, mg "LEAST" = some (.int 3 t)) (g_MOST : ∃ t, mg "MOST" = some (.int 40 t)) (m_len : mg "len" = none) (m_all : mg "all" = none) (h_is_cut : Has P w K mg base k "is_cut" ["faces", "cut"] c_is_cut) (m_range : mg "range" = none) (m_enumerate : mg "enumerate" = none) (m_any : mg "any" = none) (h_crossing : Has P w K mg base k "crossing" ["one", "other"] c_crossing) :
    Has P w K mg base (k + 1) "is_plan" ["plan"] c_is_plan := by
  refine fn_has F hm sc_is_plan hb rfl ?_
  rintro cdv A outer s H E g args Φ Ψ hr hp hM hl ⟨plan, Kf, Ef, rfl, h, hK, hE⟩
  unfold f_is_plan at h
  refine ws_env (env' := [.d plan, .un, .un, .un, .un, .un]) rfl ?_
  refine ws_cons (w1_unpack (pg_tup rfl (pgs_cons (pg_name (i := 1) sc_is_plan.nd rfl (by first | exact Or.inl rfl | exact Or.inr rfl)) (pgs_cons (pg_name (i := 2) sc_is_plan.nd rfl (by first | exact Or.inl rfl | exact Or.inr rfl)) pgs_nil))) (tgd_tup (tgds_cons (tgd_name 1) (tgds_cons (tgd_name 2) tgds_nil)) rfl) ?_)
  refine we_n 0 ?_
  obtain ⟨faces1, cuts2, he3, h⟩ := un2_sh h
  refine ⟨rfl, [(1, faces1), (2, cuts2)], (by rw [he3]; rfl), rfl, ?_⟩
  refine ws_env (env' := [.d plan, .d faces1, .d cuts2, .un, .un, .un]) rfl ?_
  refine ws_cons (w1_if ?_)
  refine wt_ww ?_
  refine ww_orS h (fun Q h => ?_) (fun Q h => ?_) fun b4 h => ?_
  · refine wt_not ?_
    refine wt_ch (op_leA hr) (op_leA hr) ?_
    refine we_gint g_LEAST ?_
    refine we_n 1 ?_
    refine ch_sh2 h (fun Q h => le_sh h fun _ h => h) (fun Q h => ?_) fun b5 h => ?_
    · refine we_gint g_MOST ?_
      exact le_sh h fun _ h => h
    exact h
  · refine ww_or1 ?_
    refine wt_cp (op_neA hr) ?_
    refine we_len m_len ?_
    refine we_n 2 ?_
    refine len_sh h fun r7 h => ?_
    refine we_sub ?_
    refine we_n 1 ?_
    refine we_int ?_
    refine sub_sh h fun r8 h => ?_
    refine ne_sh h fun b9 h => ?_
    exact h
  obtain ⟨h10, h11⟩ := h
  refine ⟨fun e12 => ?_, fun e12 => ?_⟩
  · replace h := h10 e12
    refine ws_cons (w1_ret ?_)
    refine we_bool ?_
    exact ⟨rfl, _, hK _ h, trivial, rfl, rfl⟩
  · replace h := h11 e12
    refine ws_nil ?_
    refine ws_cons (w1_if ?_)
    refine wt_not ?_
    refine wt_e ?_
    refine we_allA m_all rfl ?_
    refine we_of_wn ?_
    refine wn_lc (own := [("cut", 3)]) rfl sc_is_plan.nd (blkOk_by (by rfl)) (fun _ _ _ _ _ => (pg_name (i := 3) sc_is_plan.nd rfl (by first | exact Or.inl rfl | exact Or.inr rfl))) (tgd_name 3) (by decide) rfl ?_
    refine wi_d ?_
    refine we_n 2 ?_
    refine ⟨rfl, it_sh h fun xs13 h => ?_⟩
    refine lcS h (fun cut14 kp sk h => ?_) fun l15 h => ?_
    · refine ⟨[(3, cut14)], rfl, rfl, fun g' s1 H1 C1 cl1 fp1 => ?_⟩
      refine ⟨fun _ s1 H1 C1 cl1 fp1 => ?_, fun z => by cases z⟩
      refine we_call h_is_cut hr ?_
      refine wa_d ?_
      refine we_n 1 ?_
      refine ⟨rfl, ?_⟩
      refine wa_d ?_
      refine we_n 3 ?_
      refine ⟨rfl, ?_⟩
      refine wa_nil ?_
      refine ⟨rfl, _, _, _, _, rfl, h, fun r16 h => ⟨rfl, _, rfl, ?_⟩, fun c hc => ⟨rfl, hc.elim⟩⟩
      exact ⟨rfl, h⟩
    refine all_m h fun r17 h => ?_
    refine bool_sh h fun b18 h => ?_
    obtain ⟨h19, h20⟩ := h
    refine ⟨fun e21 => ?_, fun e21 => ?_⟩
    · replace h := h19 e21
      refine ws_cons (w1_ret ?_)
      refine we_bool ?_
      exact ⟨rfl, _, hK _ h, trivial, rfl, rfl⟩
    · replace h := h20 e21
      refine ws_nil ?_
      refine ws_cons (w1_for hp rfl (pg_name (i := 4) sc_is_plan.nd rfl (by first | exact Or.inl rfl | exact Or.inr rfl)) (tgd_name 4) ?_)
      refine wi_r2 m_range ?_
      refine we_int ?_
      refine we_len m_len ?_
      refine we_n 2 ?_
      refine len_sh h fun r23 h => ?_
      refine rng_sh h fun xs22 h => ?_
      refine forS h (fun (s : Unit) (u : Sl) => [.d plan, .d faces1, .d cuts2, .un, u, .un]) (.un) rfl ?_ ?_
      · rintro _ w24 h
        refine ws_env (env' := [.d plan, .d faces1, .d cuts2, .un, w24, .un]) rfl ?_
        refine ws_cons (w1_for hp rfl (pg_tup rfl (pgs_cons (pg_name (i := 4) sc_is_plan.nd rfl (by first | exact Or.inl rfl | exact Or.inr rfl)) (pgs_cons (pg_name (i := 3) sc_is_plan.nd rfl (by first | exact Or.inl rfl | exact Or.inr rfl)) pgs_nil))) (tgd_tup (tgds_cons (tgd_name 4) (tgds_cons (tgd_name 3) tgds_nil)) rfl) ?_)
        refine wi_en m_enumerate ?_
        refine we_n 2 ?_
        refine ⟨rfl, enu_sh h fun xs25 h => ?_⟩
        refine forS h (fun (s : Unit) (u : Sl × Sl) => [.d plan, .d faces1, .d cuts2, u.2, u.1, .un]) ((w24), (.un)) rfl ?_ ?_
        · rintro _ ⟨w26, w27⟩ h
          refine ws_env (env' := [.d plan, .d faces1, .d cuts2, w27, w26, .un]) rfl ?_
          refine ws_cons (w1_ret ?_)
          refine we_bool ?_
          exact ⟨rfl, _, hK _ h, trivial, rfl, rfl⟩
        · rintro hend p28 _ ⟨w31, w32⟩ N29 h
          obtain ⟨at_33, cut34, he35, h⟩ := un2_sh h
          refine ⟨[(4, at_33), (3, cut34)], (by rw [he35]; rfl), rfl, ?_⟩
          refine ws_env (env' := [.d plan, .d faces1, .d cuts2, .d cut34, .d at_33, .un]) rfl ?_
          refine ws_cons (w1_if ?_)
          refine wt_e ?_
          refine we_anyA m_any rfl ?_
          refine we_of_wn ?_
          refine wn_lc (own := [("other", 5)]) rfl sc_is_plan.nd (blkOk_by (by rfl)) (fun _ _ _ _ _ => (pg_name (i := 5) sc_is_plan.nd rfl (by first | exact Or.inl rfl | exact Or.inr rfl))) (tgd_name 5) (by decide) rfl ?_
          refine wi_d ?_
          refine we_slA ?_
          refine we_n 2 ?_
          refine ⟨rfl, ?_⟩
          refine wp_none ?_
          refine wp_e ?_
          refine we_n 4 ?_
          refine into_sh h fun i37 h => ?_
          refine sl_sh h fun r38 h => ?_
          refine ⟨rfl, it_sh h fun xs36 h => ?_⟩
          refine lcS h (fun other39 kp sk h => ?_) fun l40 h => ?_
          · refine ⟨[(5, other39)], rfl, rfl, fun g' s1 H1 C1 cl1 fp1 => ?_⟩
            refine ⟨fun _ s1 H1 C1 cl1 fp1 => ?_, fun z => by cases z⟩
            refine we_call h_crossing hr ?_
            refine wa_d ?_
            refine we_n 3 ?_
            refine ⟨rfl, ?_⟩
            refine wa_d ?_
            refine we_n 5 ?_
            refine ⟨rfl, ?_⟩
            refine wa_nil ?_
            refine ⟨rfl, _, _, _, _, rfl, h, fun r41 h => ⟨rfl, _, rfl, ?_⟩, fun c hc => ⟨rfl, hc.elim⟩⟩
            exact ⟨rfl, h⟩
          refine any_m h fun r42 h => ?_
          refine bool_sh h fun b43 h => ?_
          obtain ⟨h44, h45⟩ := h
          refine ⟨fun e46 => ?_, fun e46 => ?_⟩
          · replace h := h44 e46
            refine ws_cons (w1_ret ?_)
            refine we_bool ?_
            exact ⟨rfl, _, hK _ h, trivial, rfl, rfl⟩
          · replace h := h45 e46
            refine ws_nil ?_
            exact ws_nil ⟨(), ((.d at_33), (.d cut34)), h, rfl⟩
      · rintro hend at_47 _ w50 N48 h
        refine ⟨[(4, at_47)], rfl, rfl, ?_⟩
        refine ws_env (env' := [.d plan, .d faces1, .d cuts2, .un, .d at_47, .un]) rfl ?_
        refine ws_cons (w1_if ?_)
        refine wt_not ?_
        refine wt_cp (op_ltA hr) ?_
        refine we_ix ?_
        refine we_n 2 ?_
        refine we_sub ?_
        refine we_n 4 ?_
        refine we_int ?_
        refine sub_sh h fun r51 h => ?_
        refine ix_sh h fun r52 h => ?_
        refine we_ix ?_
        refine we_n 2 ?_
        refine we_n 4 ?_
        refine ix_sh h fun r53 h => ?_
        refine lt_sh h fun b54 h => ?_
        obtain ⟨h55, h56⟩ := h
        refine ⟨fun e57 => ?_, fun e57 => ?_⟩
        · replace h := h55 e57
          refine ws_cons (w1_ret ?_)
          refine we_bool ?_
          exact ⟨rfl, _, hK _ h, trivial, rfl, rfl⟩
        · replace h := h56 e57
          refine ws_nil ?_
          exact ws_nil ⟨(), (.d at_47), h, rfl⟩
theorem ok_need_plan (F : FnP K "need_plan" s_need_plan f fd) (hm : mg "need_plan" = some (.ref f)) (hb : Binds K fd ["plan"] []) (h_is_plan : Has P w K mg base k "is_plan" ["plan"] c_is_plan) (x_BadPlan : ExK K mg "BadPlan") :
    Has P w K mg base (k + 1) "need_plan" ["plan"] c_need_plan := by
  refine fn_has F hm sc_need_plan hb rfl ?_
  rintro cdv A outer s H E g args Φ Ψ hr hp hM hl ⟨plan, Kf, Ef, rfl, h, hK, hE⟩
  unfold f_need_plan at h
  refine ws_env (env' := [.d plan]) rfl ?_
  refine ws_cons (w1_if ?_)
  refine wt_not ?_
  refine wt_e ?_
  refine we_call h_is_plan hr ?_
  refine wa_d ?_
  refine we_n 0 ?_
  refine ⟨rfl, ?_⟩
  refine wa_nil ?_
  refine ⟨rfl, _, _, _, rfl, h, fun r1 h => ⟨rfl, _, rfl, ?_⟩, fun c hc => ⟨rfl, ⟨_, hE _ hc, rfl, rfl⟩⟩⟩
  refine bool_sh h fun b2 h => ?_
  obtain ⟨h3, h4⟩ := h
  refine ⟨fun e5 => ?_, fun e5 => ?_⟩
  · replace h := h3 e5
    exact ws_cons (w1_raise rfl x_BadPlan ⟨_, hE _ h, rfl, rfl⟩)
  · replace h := h4 e5
    refine ws_nil ?_
    exact ws_nil ⟨_, hK _ h, rfl, rfl⟩
theorem ok_pair_of (F : FnP K "pair_of" s_pair_of f fd) (hm : mg "pair_of" = some (.ref f)) (hb : Binds K fd ["one", "other"] []) (m_min : mg "min" = none) (m_max : mg "max" = none) :
    Has P w K mg base (k + 1) "pair_of" ["one", "other"] c_pair_of := by
  refine fn_has F hm sc_pair_of hb rfl ?_
  rintro cdv A outer s H E g args Φ Ψ hr hp hM hl ⟨one, other, Kf, Ef, rfl, h, hK, hE⟩
  unfold f_pair_of at h
  refine ws_env (env' := [.d one, .d other]) rfl ?_
  refine ws_cons (w1_ret ?_)
  refine we_tuple ?_
  refine wa_d ?_
  refine we_min2A m_min rfl ?_
  refine we_n 0 ?_
  refine we_n 1 ?_
  refine min2_m h fun r1 h => ?_
  refine ⟨rfl, ?_⟩
  refine wa_d ?_
  refine we_max2A m_max rfl ?_
  refine we_n 0 ?_
  refine we_n 1 ?_
  refine max2_m h fun r2 h => ?_
  refine ⟨rfl, ?_⟩
  refine wa_nil ?_
  refine ⟨_, rfl, szOk rfl, ?_⟩
  exact ⟨rfl, _, hK _ h, trivial, rfl, rfl, rfl⟩
theorem ok_follows (F : FnP K "follows" s_follows f fd) (hm : mg "follows" = some (.ref f)) (hb : Binds K fd ["faces", "face"] [])  :
    Has P w K mg base (k + 1) "follows" ["faces", "face"] c_follows := by
  refine fn_has F hm sc_follows hb rfl ?_
  rintro cdv A outer s H E g args Φ Ψ hr hp hM hl ⟨faces, face, Kf, Ef, rfl, h, hK, hE⟩
  unfold f_follows at h
  refine ws_env (env' := [.d faces, .d face]) rfl ?_
  refine ws_cons (w1_ret ?_)
  refine we_mod ?_
  refine we_add ?_
  refine we_n 1 ?_
  refine we_int ?_
  refine add_sh h fun r1 h => ?_
  refine we_n 0 ?_
  refine mod_sh h fun r2 h => ?_
  exact ⟨rfl, _, hK _ h, trivial, rfl, rfl, rfl⟩
theorem ok_all_lines (F : FnP K "all_lines" s_all_lines f fd) (hm : mg "all_lines" = some (.ref f)) (hb : Binds K fd ["plan"] []) (m_sorted : mg "sorted" = none) (m_range : mg "range" = none) (h_pair_of : Has P w K mg base k "pair_of" ["one", "other"] c_pair_of) (h_follows : Has P w K mg base k "follows" ["faces", "face"] c_follows) (m_list : mg "list" = none) :
    Has P w K mg base (k + 1) "all_lines" ["plan"] c_all_lines := by
  refine fn_has F hm sc_all_lines hb rfl ?_
  rintro cdv A outer s H E g args Φ Ψ hr hp hM hl ⟨plan, Kf, Ef, rfl, h, hK, hE⟩
  unfold f_all_lines at h
  refine ws_env (env' := [.d plan, .un, .un, .un]) rfl ?_
  refine ws_cons (w1_unpack (pg_tup rfl (pgs_cons (pg_name (i := 1) sc_all_lines.nd rfl (by first | exact Or.inl rfl | exact Or.inr rfl)) (pgs_cons (pg_name (i := 2) sc_all_lines.nd rfl (by first | exact Or.inl rfl | exact Or.inr rfl)) pgs_nil))) (tgd_tup (tgds_cons (tgd_name 1) (tgds_cons (tgd_name 2) tgds_nil)) rfl) ?_)
  refine we_n 0 ?_
  obtain ⟨faces1, cuts2, he3, h⟩ := un2_sh h
  refine ⟨rfl, [(1, faces1), (2, cuts2)], (by rw [he3]; rfl), rfl, ?_⟩
  refine ws_env (env' := [.d plan, .d faces1, .d cuts2, .un]) rfl ?_
  refine ws_cons (w1_retN ?_)
  refine wn_sortedA m_sorted hr ?_
  refine we_add ?_
  refine we_of_wn ?_
  refine wn_lc (own := [("face", 3)]) rfl sc_all_lines.nd (blkOk_by (by rfl)) (fun _ _ _ _ _ => (pg_name (i := 3) sc_all_lines.nd rfl (by first | exact Or.inl rfl | exact Or.inr rfl))) (tgd_name 3) (by decide) rfl ?_
  refine wi_r1 m_range ?_
  refine we_n 1 ?_
  refine rng_sh h fun xs4 h => ?_
  refine lcS h (fun face5 kp sk h => ?_) fun l6 h => ?_
  · refine ⟨[(3, face5)], rfl, rfl, fun g' s1 H1 C1 cl1 fp1 => ?_⟩
    refine ⟨fun _ s1 H1 C1 cl1 fp1 => ?_, fun z => by cases z⟩
    refine we_call h_pair_of hr ?_
    refine wa_d ?_
    refine we_n 3 ?_
    refine ⟨rfl, ?_⟩
    refine wa_d ?_
    refine we_call h_follows hr ?_
    refine wa_d ?_
    refine we_n 1 ?_
    refine ⟨rfl, ?_⟩
    refine wa_d ?_
    refine we_n 3 ?_
    refine ⟨rfl, ?_⟩
    refine wa_nil ?_
    refine ⟨rfl, _, _, _, _, rfl, h, fun r7 h => ⟨rfl, _, rfl, ?_⟩, fun c hc => ⟨rfl, hc.elim⟩⟩
    refine ⟨rfl, ?_⟩
    refine wa_nil ?_
    refine ⟨rfl, _, _, _, _, rfl, h, fun r8 h => ⟨rfl, _, rfl, ?_⟩, fun c hc => ⟨rfl, hc.elim⟩⟩
    exact ⟨rfl, h⟩
  refine we_of_wn ?_
  refine wn_listof m_list ?_
  refine we_n 2 ?_
  refine list_sh h fun l9 h => ?_
  refine add_sh h fun r10 h => ?_
  refine sort_m h fun l11 h => ?_
  exact ⟨_, hK _ h, trivial, rfl, rfl⟩
theorem ok_lines (F : FnP K "lines" s_lines f fd) (hm : mg "lines" = some (.ref f)) (hb : Binds K fd ["plan"] []) (h_need_plan : Has P w K mg base k "need_plan" ["plan"] c_need_plan) (h_all_lines : Has P w K mg base k "all_lines" ["plan"] c_all_lines) :
    Has P w K mg base (k + 1) "lines" ["plan"] c_lines := by
  refine fn_has F hm sc_lines hb rfl ?_
  rintro cdv A outer s H E g args Φ Ψ hr hp hM hl ⟨plan, Kf, Ef, rfl, h, hK, hE⟩
  unfold f_lines at h
  refine ws_env (env' := [.d plan]) rfl ?_
  refine ws_cons (w1_expr ?_)
  refine we_call h_need_plan hr ?_
  refine wa_d ?_
  refine we_n 0 ?_
  refine ⟨rfl, ?_⟩
  refine wa_nil ?_
  refine ⟨rfl, _, _, _, rfl, h, fun r1 h => ⟨rfl, _, rfl, ?_⟩, fun c hc => ⟨rfl, ⟨_, hE _ hc, rfl, rfl⟩⟩⟩
  refine ws_cons (w1_retN ?_)
  refine wn_call h_all_lines hr ?_
  refine wa_d ?_
  refine we_n 0 ?_
  refine ⟨rfl, ?_⟩
  refine wa_nil ?_
  refine ⟨rfl, _, _, _, rfl, h, fun r2 h => ⟨rfl, _, rfl, ?_⟩, fun c hc => ⟨rfl, ⟨_, hE _ hc, rfl, rfl⟩⟩⟩
  exact ⟨_, hK _ h, trivial, rfl, rfl⟩
theorem ok_neighbours (F : FnP K "neighbours" s_neighbours f fd) (hm : mg "neighbours" = some (.ref f)) (hb : Binds K fd ["plan"] []) (m_range : mg "range" = none) (h_all_lines : Has P w K mg base k "all_lines" ["plan"] c_all_lines) (m_sorted : mg "sorted" = none) :
    Has P w K mg base (k + 1) "neighbours" ["plan"] c_neighbours := by
  refine fn_has F hm sc_neighbours hb rfl ?_
  rintro cdv A outer s H E g args Φ Ψ hr hp hM hl ⟨plan, Kf, Ef, rfl, h, hK, hE⟩
  unfold f_neighbours at h
  refine ws_env (env' := [.d plan, .un, .un, .un, .un, .un, .un, .un]) rfl ?_
  refine ws_cons (w1_unpack (pg_tup rfl (pgs_cons (pg_name (i := 1) sc_neighbours.nd rfl (by first | exact Or.inl rfl | exact Or.inr rfl)) (pgs_cons (pg_name (i := 2) sc_neighbours.nd rfl (by first | exact Or.inl rfl | exact Or.inr rfl)) pgs_nil))) (tgd_tup (tgds_cons (tgd_name 1) (tgds_cons (tgd_name 2) tgds_nil)) rfl) ?_)
  refine we_n 0 ?_
  obtain ⟨faces1, cuts2, he3, h⟩ := un2_sh h
  refine ⟨rfl, [(1, faces1), (2, cuts2)], (by rw [he3]; rfl), rfl, ?_⟩
  refine ws_env (env' := [.d plan, .d faces1, .d cuts2, .un, .un, .un, .un, .un]) rfl ?_
  refine ws_cons (w1_newOOc 3 (own := [("face", 4)]) rfl sc_neighbours.nd (blkOk_by (by rfl)) (fun _ _ _ _ _ => (pg_name (i := 4) sc_neighbours.nd rfl (by first | exact Or.inl rfl | exact Or.inr rfl))) (tgd_name 4) rfl ?_)
  refine wi_r1 m_range ?_
  refine we_n 1 ?_
  refine rng_sh h fun xs4 h => ?_
  refine ⟨fun x _ => ⟨_, rfl, rfl⟩, fun a5 as6 n_a5 hl7 => ?_⟩
  have hl8 : as6.length = (List.replicate xs4.length ([] : List PyData)).length := by rw [hl7, List.length_replicate]
  refine ws_env (env' := [.d plan, .d faces1, .d cuts2, ooS a5 as6 (List.replicate xs4.length ([] : List PyData)), .un, .un, .un, .un]) rfl ?_
  refine ws_cons (w1_for hp rfl (pg_tup rfl (pgs_cons (pg_name (i := 5) sc_neighbours.nd rfl (by first | exact Or.inl rfl | exact Or.inr rfl)) (pgs_cons (pg_name (i := 6) sc_neighbours.nd rfl (by first | exact Or.inl rfl | exact Or.inr rfl)) pgs_nil))) (tgd_tup (tgds_cons (tgd_name 5) (tgds_cons (tgd_name 6) tgds_nil)) rfl) ?_)
  refine wi_d ?_
  refine we_call h_all_lines hr ?_
  refine wa_d ?_
  refine we_n 0 ?_
  refine ⟨rfl, ?_⟩
  refine wa_nil ?_
  refine ⟨rfl, _, _, _, rfl, h, fun r10 h => ⟨rfl, _, rfl, ?_⟩, fun c hc => ⟨rfl, ⟨_, hE _ hc, rfl, rfl⟩⟩⟩
  refine ⟨rfl, it_sh h fun xs9 h => ?_⟩
  refine forSC h (fun (s : (List (List PyData))) (u : Sl × Sl) => [.d plan, .d faces1, .d cuts2, ooS a5 as6 s, .un, u.1, u.2, .un]) (fun (s : (List (List PyData))) (u : Sl × Sl) => as6.length = s.length) ((.un), (.un)) rfl hl8 ?_ ?_
  · rintro found11 ⟨w12, w13⟩ hc h
    refine ws_env (env' := [.d plan, .d faces1, .d cuts2, ooS a5 as6 found11, .un, w12, w13, .un]) rfl ?_
    refine ws_cons (w1_retN ?_)
    refine wn_lc (own := [("face", 4)]) rfl sc_neighbours.nd (blkOk_by (by rfl)) (fun _ _ _ _ _ => (pg_name (i := 4) sc_neighbours.nd rfl (by first | exact Or.inl rfl | exact Or.inr rfl))) (tgd_name 4) (by decide) rfl ?_
    refine wi_r1 m_range ?_
    refine we_n 1 ?_
    refine rng_sh h fun xs14 h => ?_
    refine lcS h (fun face15 kp sk h => ?_) fun l16 h => ?_
    · refine ⟨[(4, face15)], rfl, rfl, fun g' s1 H1 C1 cl1 fp1 => ?_⟩
      refine ⟨fun _ s1 H1 C1 cl1 fp1 => ?_, fun z => by cases z⟩
      refine we_of_wn ?_
      refine wn_lc (own := [("step", 7)]) rfl sc_neighbours.nd (blkOk_by (by rfl)) (fun _ _ _ _ _ => (pg_name (i := 7) sc_neighbours.nd rfl (by first | exact Or.inl rfl | exact Or.inr rfl))) (tgd_name 7) (by decide) rfl ?_
      refine wi_d ?_
      refine we_of_wn ?_
      refine wn_sortedA m_sorted hr ?_
      refine we_ixOO 3 hc ?_
      refine we_n 4 ?_
      refine row_m h fun l18 h => ?_
      refine sort_m h fun l19 h => ?_
      refine ⟨rfl, it_sh h fun xs17 h => ?_⟩
      refine lcS h (fun step20 kp sk h => ?_) fun l21 h => ?_
      · refine ⟨[(7, step20)], rfl, rfl, fun g' s1 H1 C1 cl1 fp1 => ?_⟩
        refine ⟨fun _ s1 H1 C1 cl1 fp1 => ?_, fun z => by cases z⟩
        refine we_mod ?_
        refine we_add ?_
        refine we_n 4 ?_
        refine we_n 7 ?_
        refine add_sh h fun r22 h => ?_
        refine we_n 1 ?_
        refine mod_sh h fun r23 h => ?_
        exact ⟨rfl, h⟩
      exact ⟨rfl, h⟩
    exact ⟨_, hK _ h, trivial, rfl, rfl⟩
  · rintro hend p24 found27 ⟨w28, w29⟩ N25 hc h
    obtain ⟨low30, high31, he32, h⟩ := un2_sh h
    refine ⟨[(5, low30), (6, high31)], (by rw [he32]; rfl), rfl, ?_⟩
    refine ws_env (env' := [.d plan, .d faces1, .d cuts2, ooS a5 as6 found27, .un, .d low30, .d high31, .un]) rfl ?_
    refine ws_cons (w1_appendOO 3 hc ?_)
    refine we_n 5 ?_
    refine row_m h fun l33 h => ?_
    refine we_mod ?_
    refine we_sub ?_
    refine we_n 6 ?_
    refine we_n 5 ?_
    refine sub_sh h fun r34 h => ?_
    refine we_n 1 ?_
    refine mod_sh h fun r35 h => ?_
    refine ⟨rfl, rowApp_m h fun rows36 hq37 h => ?_⟩
    have hl38 : as6.length = rows36.length := by rw [hq37]; exact hc
    refine ws_env (env' := [.d plan, .d faces1, .d cuts2, ooS a5 as6 rows36, .un, .d low30, .d high31, .un]) rfl ?_
    refine ws_cons (w1_appendOO 3 hl38 ?_)
    refine we_n 6 ?_
    refine row_m h fun l39 h => ?_
    refine we_mod ?_
    refine we_sub ?_
    refine we_n 5 ?_
    refine we_n 6 ?_
    refine sub_sh h fun r40 h => ?_
    refine we_n 1 ?_
    refine mod_sh h fun r41 h => ?_
    refine ⟨rfl, rowApp_m h fun rows42 hq43 h => ?_⟩
    have hl44 : as6.length = rows42.length := by rw [hq43]; exact hl38
    refine ws_env (env' := [.d plan, .d faces1, .d cuts2, ooS a5 as6 rows42, .un, .d low30, .d high31, .un]) rfl ?_
    exact ws_nil ⟨rows42, ((.d low30), (.d high31)), h, hl44, rfl⟩
theorem ok_parts (F : FnP K "parts" s_parts f fd) (hm : mg "parts" = some (.ref f)) (hb : Binds K fd ["plan"] []) (h_need_plan : Has P w K mg base k "need_plan" ["plan"] c_need_plan) (h_neighbours : Has P w K mg base k "neighbours" ["plan"] c_neighbours) (h_all_lines : Has P w K mg base k "all_lines" ["plan"] c_all_lines) (m_sorted : mg "sorted" = none) :
    Has P w K mg base (k + 1) "parts" ["plan"] c_parts := by
  refine fn_has F hm sc_parts hb rfl ?_
  rintro cdv A outer s H E g args Φ Ψ hr hp hM hl ⟨plan, Kf, Ef, rfl, h, hK, hE⟩
  unfold f_parts at h
  refine ws_env (env' := [.d plan, .un, .un, .un, .un, .un]) rfl ?_
  refine ws_cons (w1_expr ?_)
  refine we_call h_need_plan hr ?_
  refine wa_d ?_
  refine we_n 0 ?_
  refine ⟨rfl, ?_⟩
  refine wa_nil ?_
  refine ⟨rfl, _, _, _, rfl, h, fun r1 h => ⟨rfl, _, rfl, ?_⟩, fun c hc => ⟨rfl, ⟨_, hE _ hc, rfl, rfl⟩⟩⟩
  refine ws_cons (w1_set 1 sc_parts.nd ?_)
  refine we_call h_neighbours hr ?_
  refine wa_d ?_
  refine we_n 0 ?_
  refine ⟨rfl, ?_⟩
  refine wa_nil ?_
  refine ⟨rfl, _, _, _, rfl, h, fun r2 h => ⟨rfl, _, rfl, ?_⟩, fun c hc => ⟨rfl, ⟨_, hE _ hc, rfl, rfl⟩⟩⟩
  refine ⟨rfl, ?_⟩
  refine ws_env (env' := [.d plan, .d (.list r2), .un, .un, .un, .un]) rfl ?_
  refine ws_cons (w1_set 2 sc_parts.nd ?_)
  refine we_list ?_
  refine wa_nil ?_
  refine ⟨_, rfl, szOk rfl, ?_⟩
  refine ⟨rfl, ?_⟩
  refine ws_env (env' := [.d plan, .d (.list r2), .d (.list []), .un, .un, .un]) rfl ?_
  refine ws_cons (w1_for hp rfl (pg_tup rfl (pgs_cons (pg_name (i := 3) sc_parts.nd rfl (by first | exact Or.inl rfl | exact Or.inr rfl)) (pgs_cons (pg_name (i := 4) sc_parts.nd rfl (by first | exact Or.inl rfl | exact Or.inr rfl)) pgs_nil))) (tgd_tup (tgds_cons (tgd_name 3) (tgds_cons (tgd_name 4) tgds_nil)) rfl) ?_)
  refine wi_d ?_
  refine we_call h_all_lines hr ?_
  refine wa_d ?_
  refine we_n 0 ?_
  refine ⟨rfl, ?_⟩
  refine wa_nil ?_
  refine ⟨rfl, _, _, _, rfl, h, fun r4 h => ⟨rfl, _, rfl, ?_⟩, fun c hc => ⟨rfl, ⟨_, hE _ hc, rfl, rfl⟩⟩⟩
  refine ⟨rfl, it_sh h fun xs3 h => ?_⟩
  refine forS h (fun (s : PyData) (u : Sl × Sl) => [.d plan, .d (.list r2), .d s, u.1, u.2, .un]) ((.un), (.un)) rfl ?_ ?_
  · rintro found5 ⟨w6, w7⟩ h
    refine ws_env (env' := [.d plan, .d (.list r2), .d found5, w6, w7, .un]) rfl ?_
    refine ws_cons (w1_retN ?_)
    refine wn_sortedA m_sorted hr ?_
    refine we_n 2 ?_
    refine sort_m h fun l8 h => ?_
    exact ⟨_, hK _ h, trivial, rfl, rfl⟩
  · rintro hend p9 found12 ⟨w13, w14⟩ N10 h
    obtain ⟨low15, high16, he17, h⟩ := un2_sh h
    refine ⟨[(3, low15), (4, high16)], (by rw [he17]; rfl), rfl, ?_⟩
    refine ws_env (env' := [.d plan, .d (.list r2), .d found12, .d low15, .d high16, .un]) rfl ?_
    refine ws_cons (w1_set 2 sc_parts.nd ?_)
    refine we_add ?_
    refine we_n 2 ?_
    refine we_of_wn ?_
    refine wn_lc (own := [("other", 5)]) rfl sc_parts.nd (blkOk_by (by rfl)) (fun _ _ _ _ _ => (pg_name (i := 5) sc_parts.nd rfl (by first | exact Or.inl rfl | exact Or.inr rfl))) (tgd_name 5) (by decide) rfl ?_
    refine wi_d ?_
    refine we_ix ?_
    refine we_n 1 ?_
    refine we_n 3 ?_
    refine ix_sh h fun r19 h => ?_
    refine ⟨rfl, it_sh h fun xs18 h => ?_⟩
    refine lcS h (fun other20 kp sk h => ?_) fun l21 h => ?_
    · refine ⟨[(5, other20)], rfl, rfl, fun g' s1 H1 C1 cl1 fp1 => ?_⟩
      show WT _ _ _ _ _ _
      refine wt_ww ?_
      refine ww_andS h (fun Q h => ?_) (fun Q h => ?_) fun b22 h => ?_
      · refine wt_cp op_gt ?_
        refine we_n 5 ?_
        refine we_n 4 ?_
        refine gt_sh h fun b23 h => ?_
        exact h
      · refine ww_and1 ?_
        refine wt_cp (op_inA hr) ?_
        refine we_n 5 ?_
        refine we_ix ?_
        refine we_n 1 ?_
        refine we_n 4 ?_
        refine ix_sh h fun r24 h => ?_
        refine in_sh h fun b25 h => ?_
        exact h
      refine ⟨fun e s1 H1 C1 cl1 fp1 => ?_, h.2⟩
      replace h := h.1 e
      refine we_tuple ?_
      refine wa_d ?_
      refine we_n 3 ?_
      refine ⟨rfl, ?_⟩
      refine wa_d ?_
      refine we_n 4 ?_
      refine ⟨rfl, ?_⟩
      refine wa_d ?_
      refine we_n 5 ?_
      refine ⟨rfl, ?_⟩
      refine wa_nil ?_
      refine ⟨_, rfl, szOk rfl, ?_⟩
      exact ⟨rfl, h⟩
    refine add_sh h fun r26 h => ?_
    refine ⟨rfl, ?_⟩
    refine ws_env (env' := [.d plan, .d (.list r2), .d r26, .d low15, .d high16, .un]) rfl ?_
    exact ws_nil ⟨r26, ((.d low15), (.d high16)), h, rfl⟩
theorem ok_fan (F : FnP K "fan" s_fan f fd) (hm : mg "fan" = some (.ref f)) (hb : Binds K fd ["plan", "face"] []) (h_need_plan : Has P w K mg base k "need_plan" ["plan"] c_need_plan) (x_BadFace : ExK K mg "BadFace") (h_neighbours : Has P w K mg base k "neighbours" ["plan"] c_neighbours) :
    Has P w K mg base (k + 1) "fan" ["plan", "face"] c_fan := by
  refine fn_has F hm sc_fan hb rfl ?_
  rintro cdv A outer s H E g args Φ Ψ hr hp hM hl ⟨plan, face, Kf, Ef, rfl, h, hK, hE⟩
  unfold f_fan at h
  refine ws_env (env' := [.d plan, .d face]) rfl ?_
  refine ws_cons (w1_expr ?_)
  refine we_call h_need_plan hr ?_
  refine wa_d ?_
  refine we_n 0 ?_
  refine ⟨rfl, ?_⟩
  refine wa_nil ?_
  refine ⟨rfl, _, _, _, rfl, h, fun r1 h => ⟨rfl, _, rfl, ?_⟩, fun c hc => ⟨rfl, ⟨_, hE _ hc, rfl, rfl, rfl⟩⟩⟩
  refine ws_cons (w1_if ?_)
  refine wt_not ?_
  refine wt_ch (op_leA hr) (op_ltA hr) ?_
  refine we_int ?_
  refine we_n 1 ?_
  refine ch_sh2 h (fun Q h => le_sh h fun _ h => h) (fun Q h => ?_) fun b2 h => ?_
  · refine we_ix ?_
    refine we_n 0 ?_
    refine we_int ?_
    refine ix_sh h fun r4 h => ?_
    exact lt_sh h fun _ h => h
  obtain ⟨h5, h6⟩ := h
  refine ⟨fun e7 => ?_, fun e7 => ?_⟩
  · replace h := h5 e7
    exact ws_cons (w1_raise rfl x_BadFace ⟨_, hE _ h, rfl, rfl, rfl⟩)
  · replace h := h6 e7
    refine ws_nil ?_
    refine ws_cons (w1_ret ?_)
    refine we_ix ?_
    refine we_call h_neighbours hr ?_
    refine wa_d ?_
    refine we_n 0 ?_
    refine ⟨rfl, ?_⟩
    refine wa_nil ?_
    refine ⟨rfl, _, _, _, rfl, h, fun r8 h => ⟨rfl, _, rfl, ?_⟩, fun c hc => ⟨rfl, ⟨_, hE _ hc, rfl, rfl, rfl⟩⟩⟩
    refine we_n 1 ?_
    refine ix_sh h fun r9 h => ?_
    exact ⟨rfl, _, hK _ h, trivial, rfl, rfl, rfl⟩
theorem ok_turned_by (F : FnP K "turned_by" s_turned_by f fd) (hm : mg "turned_by" = some (.ref f)) (hb : Binds K fd ["plan", "many"] []) (h_pair_of : Has P w K mg base k "pair_of" ["one", "other"] c_pair_of) (m_tuple : mg "tuple" = none) (m_sorted : mg "sorted" = none) :
    Has P w K mg base (k + 1) "turned_by" ["plan", "many"] c_turned_by := by
  refine fn_has F hm sc_turned_by hb rfl ?_
  rintro cdv A outer s H E g args Φ Ψ hr hp hM hl ⟨plan, many, Kf, Ef, rfl, h, hK, hE⟩
  unfold f_turned_by at h
  refine ws_env (env' := [.d plan, .d many, .un, .un, .un, .un, .un]) rfl ?_
  refine ws_cons (w1_unpack (pg_tup rfl (pgs_cons (pg_name (i := 2) sc_turned_by.nd rfl (by first | exact Or.inl rfl | exact Or.inr rfl)) (pgs_cons (pg_name (i := 3) sc_turned_by.nd rfl (by first | exact Or.inl rfl | exact Or.inr rfl)) pgs_nil))) (tgd_tup (tgds_cons (tgd_name 2) (tgds_cons (tgd_name 3) tgds_nil)) rfl) ?_)
  refine we_n 0 ?_
  obtain ⟨faces1, cuts2, he3, h⟩ := un2_sh h
  refine ⟨rfl, [(2, faces1), (3, cuts2)], (by rw [he3]; rfl), rfl, ?_⟩
  refine ws_env (env' := [.d plan, .d many, .d faces1, .d cuts2, .un, .un, .un]) rfl ?_
  refine ws_cons (w1_setLc 4 (own := [("low", 5), ("high", 6)]) rfl sc_turned_by.nd piS (blkOk_by (by rfl)) (fun _ _ _ _ _ => (pg_tup rfl (pgs_cons (pg_name (i := 5) sc_turned_by.nd rfl (by first | exact Or.inl rfl | exact Or.inr rfl)) (pgs_cons (pg_name (i := 6) sc_turned_by.nd rfl (by first | exact Or.inl rfl | exact Or.inr rfl)) pgs_nil)))) (by decide) (nt_lc (tgd_tup (tgds_cons (tgd_name 5) (tgds_cons (tgd_name 6) tgds_nil)) rfl) rfl ?_))
  refine wi_d ?_
  refine we_n 3 ?_
  refine ⟨rfl, it_sh h fun xs4 h => ?_⟩
  refine lcS h (fun p5 kp sk h => ?_) fun l6 h => ?_
  · obtain ⟨low7, high8, he9, h⟩ := un2_sh h
    refine ⟨[(5, low7), (6, high8)], (by rw [he9]; rfl), rfl, fun g' s1 H1 C1 cl1 fp1 => ?_⟩
    refine ⟨fun _ s1 H1 C1 cl1 fp1 => ?_, fun z => by cases z⟩
    refine we_call h_pair_of hr ?_
    refine wa_d ?_
    refine we_mod ?_
    refine we_add ?_
    refine we_n 5 ?_
    refine we_n 1 ?_
    refine add_sh h fun r10 h => ?_
    refine we_n 2 ?_
    refine mod_sh h fun r11 h => ?_
    refine ⟨rfl, ?_⟩
    refine wa_d ?_
    refine we_mod ?_
    refine we_add ?_
    refine we_n 6 ?_
    refine we_n 1 ?_
    refine add_sh h fun r12 h => ?_
    refine we_n 2 ?_
    refine mod_sh h fun r13 h => ?_
    refine ⟨rfl, ?_⟩
    refine wa_nil ?_
    refine ⟨rfl, _, _, _, _, rfl, h, fun r14 h => ⟨rfl, _, rfl, ?_⟩, fun c hc => ⟨rfl, hc.elim⟩⟩
    exact ⟨rfl, h⟩
  refine ws_env (env' := [.d plan, .d many, .d faces1, .d cuts2, .d (.list l6), .un, .un]) rfl ?_
  refine ws_cons (w1_ret ?_)
  refine we_tuple ?_
  refine wa_d ?_
  refine we_n 2 ?_
  refine ⟨rfl, ?_⟩
  refine wa_d ?_
  refine we_tupof m_tuple ?_
  refine we_of_wn ?_
  refine wn_sortedA m_sorted hr ?_
  refine we_n 4 ?_
  refine sort_m h fun l15 h => ?_
  refine tup_sh h fun r16 h => ?_
  refine ⟨rfl, ?_⟩
  refine wa_nil ?_
  refine ⟨_, rfl, szOk rfl, ?_⟩
  exact ⟨rfl, _, hK _ h, trivial, rfl, rfl, rfl⟩
theorem ok_turned (F : FnPD K "turned" s_turned [.int 1] f fd) (hm : mg "turned" = some (.ref f)) (hb : Binds K fd ["plan", "shift"] []) (h_need_plan : Has P w K mg base k "need_plan" ["plan"] c_need_plan) (h_turned_by : Has P w K mg base k "turned_by" ["plan", "many"] c_turned_by) :
    FnOk P w K mg base (L2.CX P w) (k + 1) f fd ["plan", "shift"] (spOf K 2 c_turned) := by
  refine fn_ok (ps := ["plan", "shift"]) F sc_turned rfl ?_
  rintro cdv A outer s H E g args Φ Ψ hr hp hM hl ⟨plan, shift, Kf, Ef, rfl, h, hK, hE⟩
  unfold f_turned at h
  refine ws_env (env' := [.d plan, .d shift]) rfl ?_
  refine ws_cons (w1_expr ?_)
  refine we_call h_need_plan hr ?_
  refine wa_d ?_
  refine we_n 0 ?_
  refine ⟨rfl, ?_⟩
  refine wa_nil ?_
  refine ⟨rfl, _, _, _, rfl, h, fun r1 h => ⟨rfl, _, rfl, ?_⟩, fun c hc => ⟨rfl, ⟨_, hE _ hc, rfl, rfl, rfl⟩⟩⟩
  refine ws_cons (w1_ret ?_)
  refine we_call h_turned_by hr ?_
  refine wa_d ?_
  refine we_n 0 ?_
  refine ⟨rfl, ?_⟩
  refine wa_d ?_
  refine we_n 1 ?_
  refine ⟨rfl, ?_⟩
  refine wa_nil ?_
  refine ⟨rfl, _, _, _, _, rfl, h, fun r2 h => ⟨rfl, _, rfl, ?_⟩, fun c hc => ⟨rfl, ⟨_, hE _ hc, rfl, rfl, rfl⟩⟩⟩
  exact ⟨rfl, _, hK _ h, trivial, rfl, rfl, rfl⟩
theorem ok_mirrored (F : FnP K "mirrored" s_mirrored f fd) (hm : mg "mirrored" = some (.ref f)) (hb : Binds K fd ["plan"] []) (h_need_plan : Has P w K mg base k "need_plan" ["plan"] c_need_plan) (h_pair_of : Has P w K mg base k "pair_of" ["one", "other"] c_pair_of) (m_tuple : mg "tuple" = none) (m_sorted : mg "sorted" = none) :
    Has P w K mg base (k + 1) "mirrored" ["plan"] c_mirrored := by
  refine fn_has F hm sc_mirrored hb rfl ?_
  rintro cdv A outer s H E g args Φ Ψ hr hp hM hl ⟨plan, Kf, Ef, rfl, h, hK, hE⟩
  unfold f_mirrored at h
  refine ws_env (env' := [.d plan, .un, .un, .un, .un, .un]) rfl ?_
  refine ws_cons (w1_expr ?_)
  refine we_call h_need_plan hr ?_
  refine wa_d ?_
  refine we_n 0 ?_
  refine ⟨rfl, ?_⟩
  refine wa_nil ?_
  refine ⟨rfl, _, _, _, rfl, h, fun r1 h => ⟨rfl, _, rfl, ?_⟩, fun c hc => ⟨rfl, ⟨_, hE _ hc, rfl, rfl⟩⟩⟩
  refine ws_cons (w1_unpack (pg_tup rfl (pgs_cons (pg_name (i := 1) sc_mirrored.nd rfl (by first | exact Or.inl rfl | exact Or.inr rfl)) (pgs_cons (pg_name (i := 2) sc_mirrored.nd rfl (by first | exact Or.inl rfl | exact Or.inr rfl)) pgs_nil))) (tgd_tup (tgds_cons (tgd_name 1) (tgds_cons (tgd_name 2) tgds_nil)) rfl) ?_)
  refine we_n 0 ?_
  obtain ⟨faces2, cuts3, he4, h⟩ := un2_sh h
  refine ⟨rfl, [(1, faces2), (2, cuts3)], (by rw [he4]; rfl), rfl, ?_⟩
  refine ws_env (env' := [.d plan, .d faces2, .d cuts3, .un, .un, .un]) rfl ?_
  refine ws_cons (w1_setLc 3 (own := [("low", 4), ("high", 5)]) rfl sc_mirrored.nd piS (blkOk_by (by rfl)) (fun _ _ _ _ _ => (pg_tup rfl (pgs_cons (pg_name (i := 4) sc_mirrored.nd rfl (by first | exact Or.inl rfl | exact Or.inr rfl)) (pgs_cons (pg_name (i := 5) sc_mirrored.nd rfl (by first | exact Or.inl rfl | exact Or.inr rfl)) pgs_nil)))) (by decide) (nt_lc (tgd_tup (tgds_cons (tgd_name 4) (tgds_cons (tgd_name 5) tgds_nil)) rfl) rfl ?_))
  refine wi_d ?_
  refine we_n 2 ?_
  refine ⟨rfl, it_sh h fun xs5 h => ?_⟩
  refine lcS h (fun p6 kp sk h => ?_) fun l7 h => ?_
  · obtain ⟨low8, high9, he10, h⟩ := un2_sh h
    refine ⟨[(4, low8), (5, high9)], (by rw [he10]; rfl), rfl, fun g' s1 H1 C1 cl1 fp1 => ?_⟩
    refine ⟨fun _ s1 H1 C1 cl1 fp1 => ?_, fun z => by cases z⟩
    refine we_call h_pair_of hr ?_
    refine wa_d ?_
    refine we_mod ?_
    refine we_sub ?_
    refine we_n 1 ?_
    refine we_n 4 ?_
    refine sub_sh h fun r11 h => ?_
    refine we_n 1 ?_
    refine mod_sh h fun r12 h => ?_
    refine ⟨rfl, ?_⟩
    refine wa_d ?_
    refine we_mod ?_
    refine we_sub ?_
    refine we_n 1 ?_
    refine we_n 5 ?_
    refine sub_sh h fun r13 h => ?_
    refine we_n 1 ?_
    refine mod_sh h fun r14 h => ?_
    refine ⟨rfl, ?_⟩
    refine wa_nil ?_
    refine ⟨rfl, _, _, _, _, rfl, h, fun r15 h => ⟨rfl, _, rfl, ?_⟩, fun c hc => ⟨rfl, hc.elim⟩⟩
    exact ⟨rfl, h⟩
  refine ws_env (env' := [.d plan, .d faces2, .d cuts3, .d (.list l7), .un, .un]) rfl ?_
  refine ws_cons (w1_ret ?_)
  refine we_tuple ?_
  refine wa_d ?_
  refine we_n 1 ?_
  refine ⟨rfl, ?_⟩
  refine wa_d ?_
  refine we_tupof m_tuple ?_
  refine we_of_wn ?_
  refine wn_sortedA m_sorted hr ?_
  refine we_n 3 ?_
  refine sort_m h fun l16 h => ?_
  refine tup_sh h fun r17 h => ?_
  refine ⟨rfl, ?_⟩
  refine wa_nil ?_
  refine ⟨_, rfl, szOk rfl, ?_⟩
  exact ⟨rfl, _, hK _ h, trivial, rfl, rfl⟩
theorem ok_least_of (F : FnP K "least_of" s_least_of f fd) (hm : mg "least_of" = some (.ref f)) (hb : Binds K fd ["plan"] []) (m_min : mg "min" = none) (m_range : mg "range" = none) (h_turned_by : Has P w K mg base k "turned_by" ["plan", "many"] c_turned_by) :
    Has P w K mg base (k + 1) "least_of" ["plan"] c_least_of := by
  refine fn_has F hm sc_least_of hb rfl ?_
  rintro cdv A outer s H E g args Φ Ψ hr hp hM hl ⟨plan, Kf, Ef, rfl, h, hK, hE⟩
  unfold f_least_of at h
  refine ws_env (env' := [.d plan, .un]) rfl ?_
  refine ws_cons (w1_ret ?_)
  refine we_minD m_min rfl hr ?_
  refine we_of_wn ?_
  refine wn_lc (own := [("many", 1)]) rfl sc_least_of.nd (blkOk_by (by rfl)) (fun _ _ _ _ _ => (pg_name (i := 1) sc_least_of.nd rfl (by first | exact Or.inl rfl | exact Or.inr rfl))) (tgd_name 1) (by decide) rfl ?_
  refine wi_r1 m_range ?_
  refine we_ix ?_
  refine we_n 0 ?_
  refine we_int ?_
  refine ix_sh h fun r2 h => ?_
  refine rng_sh h fun xs1 h => ?_
  refine lcS h (fun many3 kp sk h => ?_) fun l4 h => ?_
  · refine ⟨[(1, many3)], rfl, rfl, fun g' s1 H1 C1 cl1 fp1 => ?_⟩
    refine ⟨fun _ s1 H1 C1 cl1 fp1 => ?_, fun z => by cases z⟩
    refine we_call h_turned_by hr ?_
    refine wa_d ?_
    refine we_n 0 ?_
    refine ⟨rfl, ?_⟩
    refine wa_d ?_
    refine we_n 1 ?_
    refine ⟨rfl, ?_⟩
    refine wa_nil ?_
    refine ⟨rfl, _, _, _, _, rfl, h, fun r5 h => ⟨rfl, _, rfl, ?_⟩, fun c hc => ⟨rfl, hc.elim⟩⟩
    exact ⟨rfl, h⟩
  refine minD_m h fun r6 h => ?_
  exact ⟨rfl, _, hK _ h, trivial, rfl, rfl⟩
theorem ok_alike (F : FnP K "alike" s_alike f fd) (hm : mg "alike" = some (.ref f)) (hb : Binds K fd ["one", "other"] []) (h_need_plan : Has P w K mg base k "need_plan" ["plan"] c_need_plan) (h_least_of : Has P w K mg base k "least_of" ["plan"] c_least_of) :
    Has P w K mg base (k + 1) "alike" ["one", "other"] c_alike := by
  refine fn_has F hm sc_alike hb rfl ?_
  rintro cdv A outer s H E g args Φ Ψ hr hp hM hl ⟨one, other, Kf, Ef, rfl, h, hK, hE⟩
  unfold f_alike at h
  refine ws_env (env' := [.d one, .d other]) rfl ?_
  refine ws_cons (w1_expr ?_)
  refine we_call h_need_plan hr ?_
  refine wa_d ?_
  refine we_n 0 ?_
  refine ⟨rfl, ?_⟩
  refine wa_nil ?_
  refine ⟨rfl, _, _, _, rfl, h, fun r1 h => ⟨rfl, _, rfl, ?_⟩, fun c hc => ⟨rfl, ⟨_, hE _ hc, rfl, rfl, rfl⟩⟩⟩
  refine ws_cons (w1_expr ?_)
  refine we_call h_need_plan hr ?_
  refine wa_d ?_
  refine we_n 1 ?_
  refine ⟨rfl, ?_⟩
  refine wa_nil ?_
  refine ⟨rfl, _, _, _, rfl, h, fun r2 h => ⟨rfl, _, rfl, ?_⟩, fun c hc => ⟨rfl, ⟨_, hE _ hc, rfl, rfl, rfl⟩⟩⟩
  refine ws_cons (w1_ret ?_)
  refine we_andS h (fun Q h => ?_) (fun Q h => ?_) fun b3 h => ?_
  · refine we_cp (op_eqA hr) ?_
    refine we_ix ?_
    refine we_n 0 ?_
    refine we_int ?_
    refine ix_sh h fun r4 h => ?_
    refine we_ix ?_
    refine we_n 1 ?_
    refine we_int ?_
    refine ix_sh h fun r5 h => ?_
    refine eq_sh h fun b6 h => ?_
    refine ⟨_, rfl, ?_⟩
    exact h
  · refine we_one ?_
    refine we_cp (op_eqA hr) ?_
    refine we_call h_least_of hr ?_
    refine wa_d ?_
    refine we_n 0 ?_
    refine ⟨rfl, ?_⟩
    refine wa_nil ?_
    refine ⟨rfl, _, _, _, rfl, h, fun r7 h => ⟨rfl, _, rfl, ?_⟩, fun c hc => ⟨rfl, ⟨_, hE _ hc, rfl, rfl, rfl⟩⟩⟩
    refine we_call h_least_of hr ?_
    refine wa_d ?_
    refine we_n 1 ?_
    refine ⟨rfl, ?_⟩
    refine wa_nil ?_
    refine ⟨rfl, _, _, _, rfl, h, fun r8 h => ⟨rfl, _, rfl, ?_⟩, fun c hc => ⟨rfl, ⟨_, hE _ hc, rfl, rfl, rfl⟩⟩⟩
    refine eq_sh h fun b9 h => ?_
    refine ⟨_, rfl, ?_⟩
    exact h
  exact ⟨rfl, _, hK _ h, trivial, rfl, rfl, rfl⟩
theorem ok_first_form (F : FnP K "first_form" s_first_form f fd) (hm : mg "first_form" = some (.ref f)) (hb : Binds K fd ["plan"] []) (h_need_plan : Has P w K mg base k "need_plan" ["plan"] c_need_plan) (h_least_of : Has P w K mg base k "least_of" ["plan"] c_least_of) :
    Has P w K mg base (k + 1) "first_form" ["plan"] c_first_form := by
  refine fn_has F hm sc_first_form hb rfl ?_
  rintro cdv A outer s H E g args Φ Ψ hr hp hM hl ⟨plan, Kf, Ef, rfl, h, hK, hE⟩
  unfold f_first_form at h
  refine ws_env (env' := [.d plan]) rfl ?_
  refine ws_cons (w1_expr ?_)
  refine we_call h_need_plan hr ?_
  refine wa_d ?_
  refine we_n 0 ?_
  refine ⟨rfl, ?_⟩
  refine wa_nil ?_
  refine ⟨rfl, _, _, _, rfl, h, fun r1 h => ⟨rfl, _, rfl, ?_⟩, fun c hc => ⟨rfl, ⟨_, hE _ hc, rfl, rfl⟩⟩⟩
  refine ws_cons (w1_ret ?_)
  refine we_call h_least_of hr ?_
  refine wa_d ?_
  refine we_n 0 ?_
  refine ⟨rfl, ?_⟩
  refine wa_nil ?_
  refine ⟨rfl, _, _, _, rfl, h, fun r2 h => ⟨rfl, _, rfl, ?_⟩, fun c hc => ⟨rfl, ⟨_, hE _ hc, rfl, rfl⟩⟩⟩
  exact ⟨rfl, _, hK _ h, trivial, rfl, rfl⟩
theorem ok_number_by (F : FnP K "number_by" s_number_by f fd) (hm : mg "number_by" = some (.ref f)) (hb : Binds K fd ["row", "near", "start", "steps"] []) (m_len : mg "len" = none) (m_range : mg "range" = none) :
    ∀ n : Nat, Has P w K mg base (k + n + 1) "number_by" ["row", "near", "start", "steps"] (c_number_by n)
  | 0 => by
    refine fn_has F hm sc_number_by hb rfl ?_
    rintro cdv A outer s H E g args Φ Ψ hr hp hM hl ⟨row, near, start, steps, Kf, Ef, rfl, h, hK, hE⟩
    exact (show False from h).elim
  | n + 1 => by
    have h_number_by := ok_number_by F hm hb m_len m_range n
    refine fn_has F hm sc_number_by hb rfl ?_
    rintro cdv A outer s H E g args Φ Ψ hr hp hM hl ⟨row, near, start, steps, Kf, Ef, rfl, h, hK, hE⟩
    have h : f_number_by_s (f_number_by n) row near start steps Kf Ef := h
    unfold f_number_by_s at h
    refine ws_env (env' := [.d row, .d near, .d start, .d steps, .un, .un, .un, .un, .un]) rfl ?_
    refine ws_cons (w1_if ?_)
    refine wt_cp (op_eqA hr) ?_
    refine we_n 3 ?_
    refine we_int ?_
    refine eq_sh h fun b1 h => ?_
    obtain ⟨h2, h3⟩ := h
    refine ⟨fun e4 => ?_, fun e4 => ?_⟩
    · replace h := h2 e4
      refine ws_cons (w1_ret ?_)
      refine we_int ?_
      exact ⟨rfl, _, hK _ h, trivial, rfl, rfl, rfl, rfl, rfl⟩
    · replace h := h3 e4
      refine ws_nil ?_
      refine ws_cons (w1_set 4 sc_number_by.nd ?_)
      refine we_len m_len ?_
      refine we_n 1 ?_
      refine len_sh h fun r5 h => ?_
      refine ⟨rfl, ?_⟩
      refine ws_env (env' := [.d row, .d near, .d start, .d steps, .d r5, .un, .un, .un, .un]) rfl ?_
      refine ws_cons (w1_set 5 sc_number_by.nd ?_)
      refine we_int ?_
      refine ⟨rfl, ?_⟩
      refine ws_env (env' := [.d row, .d near, .d start, .d steps, .d r5, .d (.int 0), .un, .un, .un]) rfl ?_
      refine ws_cons (w1_for hp rfl (pg_name (i := 6) sc_number_by.nd rfl (by first | exact Or.inl rfl | exact Or.inr rfl)) (tgd_name 6) ?_)
      refine wi_r2 m_range ?_
      refine we_int ?_
      refine we_n 3 ?_
      refine rng_sh h fun xs6 h => ?_
      refine forS h (fun (s : PyData) (u : Sl × Sl × Sl) => [.d row, .d near, .d start, .d steps, .d r5, .d s, u.2.2, u.1, u.2.1]) ((.un), (.un), (.un)) rfl ?_ ?_
      · rintro found7 ⟨w8, w9, w10⟩ h
        refine ws_env (env' := [.d row, .d near, .d start, .d steps, .d r5, .d found7, w10, w8, w9]) rfl ?_
        refine ws_cons (w1_ret ?_)
        refine we_n 5 ?_
        exact ⟨rfl, _, hK _ h, trivial, rfl, rfl, rfl, rfl, rfl⟩
      · rintro hend first_11 found14 ⟨w15, w16, w17⟩ N12 h
        refine ⟨[(6, first_11)], rfl, rfl, ?_⟩
        refine ws_env (env' := [.d row, .d near, .d start, .d steps, .d r5, .d found14, .d first_11, w15, w16]) rfl ?_
        refine ws_cons (w1_set 7 sc_number_by.nd ?_)
        refine we_mod ?_
        refine we_add ?_
        refine we_n 2 ?_
        refine we_n 6 ?_
        refine add_sh h fun r18 h => ?_
        refine we_n 4 ?_
        refine mod_sh h fun r19 h => ?_
        refine ⟨rfl, ?_⟩
        refine ws_env (env' := [.d row, .d near, .d start, .d steps, .d r5, .d found14, .d first_11, .d r19, w16]) rfl ?_
        refine ws_cons (w1_if ?_)
        refine wt_ww ?_
        refine ww_andS h (fun Q h => ?_) (fun Q h => ?_) fun b20 h => ?_
        · refine wt_cp (op_inA hr) ?_
          refine we_n 7 ?_
          refine we_ix ?_
          refine we_n 1 ?_
          refine we_mod ?_
          refine we_n 2 ?_
          refine we_n 4 ?_
          refine mod_sh h fun r21 h => ?_
          refine ix_sh h fun r22 h => ?_
          refine in_sh h fun b23 h => ?_
          exact h
        · refine ww_and1 ?_
          refine wt_cp (op_inA hr) ?_
          refine we_n 7 ?_
          refine we_ix ?_
          refine we_n 1 ?_
          refine we_mod ?_
          refine we_add ?_
          refine we_n 2 ?_
          refine we_n 3 ?_
          refine add_sh h fun r24 h => ?_
          refine we_n 4 ?_
          refine mod_sh h fun r25 h => ?_
          refine ix_sh h fun r26 h => ?_
          refine in_sh h fun b27 h => ?_
          exact h
        obtain ⟨h28, h29⟩ := h
        refine ⟨fun e30 => ?_, fun e30 => ?_⟩
        · replace h := h28 e30
          refine ws_cons (w1_set 8 sc_number_by.nd ?_)
          refine we_ix ?_
          refine we_n 0 ?_
          refine we_sub ?_
          refine we_n 3 ?_
          refine we_n 6 ?_
          refine sub_sh h fun r31 h => ?_
          refine ix_sh h fun r32 h => ?_
          refine ⟨rfl, ?_⟩
          refine ws_env (env' := [.d row, .d near, .d start, .d steps, .d r5, .d found14, .d first_11, .d r19, .d r32]) rfl ?_
          obtain ⟨u33, he35, h⟩ := into_ob h
          refine ws_env (env' := [.d row, .d near, .d start, .d steps, .d r5, .d found14, .d first_11, .d r19, .d r32]) rfl ?_
          rw [he35]
          refine ws_cons (w1_add 5 sc_number_by.nd rfl ?_)
          refine we_mulA ?_
          refine we_call h_number_by hr ?_
          refine wa_d ?_
          refine we_n 0 ?_
          refine ⟨rfl, ?_⟩
          refine wa_d ?_
          refine we_n 1 ?_
          refine ⟨rfl, ?_⟩
          refine wa_d ?_
          refine we_n 2 ?_
          refine ⟨rfl, ?_⟩
          refine wa_d ?_
          refine we_n 6 ?_
          refine ⟨rfl, ?_⟩
          refine wa_nil ?_
          refine ⟨rfl, _, _, _, _, _, _, rfl, h, fun r36 h => ⟨rfl, _, rfl, ?_⟩, fun c hc => ⟨rfl, ⟨_, hE _ hc, rfl, rfl, rfl, rfl, rfl⟩⟩⟩
          refine we_n 8 ?_
          refine mul_sh h fun r37 h => ?_
          refine into_sh h fun m34 h => ?_
          refine ws_env (env' := [.d row, .d near, .d start, .d steps, .d r5, .d (.int (u33 + m34)), .d first_11, .d r19, .d r32]) rfl ?_
          refine ws_cons (w1_ret ?_)
          refine we_add ?_
          refine we_n 5 ?_
          refine we_call h_number_by hr ?_
          refine wa_d ?_
          refine we_n 0 ?_
          refine ⟨rfl, ?_⟩
          refine wa_d ?_
          refine we_n 1 ?_
          refine ⟨rfl, ?_⟩
          refine wa_d ?_
          refine we_add ?_
          refine we_n 2 ?_
          refine we_n 6 ?_
          refine add_sh h fun r38 h => ?_
          refine ⟨rfl, ?_⟩
          refine wa_d ?_
          refine we_sub ?_
          refine we_n 3 ?_
          refine we_n 6 ?_
          refine sub_sh h fun r39 h => ?_
          refine ⟨rfl, ?_⟩
          refine wa_nil ?_
          refine ⟨rfl, _, _, _, _, _, _, rfl, h, fun r40 h => ⟨rfl, _, rfl, ?_⟩, fun c hc => ⟨rfl, ⟨_, hE _ hc, rfl, rfl, rfl, rfl, rfl⟩⟩⟩
          refine add_sh h fun r41 h => ?_
          exact ⟨rfl, _, hK _ h, trivial, rfl, rfl, rfl, rfl, rfl⟩
        · replace h := h29 e30
          refine ws_nil ?_
          obtain ⟨u42, he44, h⟩ := into_ob h
          refine ws_env (env' := [.d row, .d near, .d start, .d steps, .d r5, .d found14, .d first_11, .d r19, w16]) rfl ?_
          rw [he44]
          refine ws_cons (w1_add 5 sc_number_by.nd rfl ?_)
          refine we_mulA ?_
          refine we_ix ?_
          refine we_n 0 ?_
          refine we_n 6 ?_
          refine ix_sh h fun r45 h => ?_
          refine we_ix ?_
          refine we_n 0 ?_
          refine we_sub ?_
          refine we_n 3 ?_
          refine we_n 6 ?_
          refine sub_sh h fun r46 h => ?_
          refine ix_sh h fun r47 h => ?_
          refine mul_sh h fun r48 h => ?_
          refine into_sh h fun m43 h => ?_
          refine ws_env (env' := [.d row, .d near, .d start, .d steps, .d r5, .d (.int (u42 + m43)), .d first_11, .d r19, w16]) rfl ?_
          exact ws_nil ⟨(.int (u42 + m43)), ((.d r19), (w16), (.d first_11)), h, rfl⟩
theorem ok_ways_row (F : FnP K "ways_row" s_ways_row f fd) (hm : mg "ways_row" = some (.ref f)) (hb : Binds K fd ["most"] []) (m_len : mg "len" = none) (m_sum : mg "sum" = none) (m_range : mg "range" = none) :
    Has P w K mg base (k + 1) "ways_row" ["most"] c_ways_row := by
  refine fn_has F hm sc_ways_row hb rfl ?_
  rintro cdv A outer s H E g args Φ Ψ hr hp hM hl ⟨most, Kf, Ef, rfl, h, hK, hE⟩
  unfold f_ways_row at h
  refine ws_env (env' := [.d most, .un, .un, .un]) rfl ?_
  refine ws_cons (w1_setN 1 sc_ways_row.nd ?_)
  refine wn_list ?_
  refine wa_d ?_
  refine we_int ?_
  refine ⟨rfl, ?_⟩
  refine wa_d ?_
  refine we_int ?_
  refine ⟨rfl, ?_⟩
  refine wa_nil ?_
  refine ⟨_, rfl, szOk rfl, ?_⟩
  intro a1 n_a1
  refine ws_env (env' := [.d most, .ol a1 [(.int 0), (.int 1)], .un, .un]) rfl ?_
  refine ws_cons (whileS h hp (fun (s : (List PyData)) (u : Sl × {a : Addr // a ∉ g.M}) => [.d most, .ol u.2.1 s, u.1, .un]) ((.un), ⟨a1, n_a1⟩) rfl ?_ ?_)
  · rintro row2 ⟨w3, ⟨a4, n_a4⟩⟩ h
    refine ws_env (env' := [.d most, .ol a4 row2, w3, .un]) rfl ?_
    exact ws_cons (w1_retO 1 rfl n_a4 ⟨_, hK _ h, trivial, rfl, rfl⟩)
  · rintro hend row7 ⟨w8, ⟨a9, n_a9⟩⟩ N5 h
    refine wt_cp (op_leA hr) ?_
    refine we_len m_len ?_
    refine we_nl 1 ?_
    refine len_sh h fun r10 h => ?_
    refine we_n 0 ?_
    refine le_sh h fun b11 h => ?_
    refine ⟨fun e12 => ?_, fun e12 => hend row7 ((w8), ⟨a9, n_a9⟩) (h.2 e12)⟩
    replace h := h.1 e12
    refine ws_env (env' := [.d most, .ol a9 row7, w8, .un]) rfl ?_
    refine ws_cons (w1_set 2 sc_ways_row.nd ?_)
    refine we_len m_len ?_
    refine we_nl 1 ?_
    refine len_sh h fun r13 h => ?_
    refine ⟨rfl, ?_⟩
    refine ws_env (env' := [.d most, .ol a9 row7, .d r13, .un]) rfl ?_
    refine ws_cons (w1_append 1 rfl ?_)
    refine we_sumA m_sum rfl ?_
    refine we_of_wn ?_
    refine wn_lc (own := [("first", 3)]) rfl sc_ways_row.nd (blkOk_by (by rfl)) (fun _ _ _ _ _ => (pg_name (i := 3) sc_ways_row.nd rfl (by first | exact Or.inl rfl | exact Or.inr rfl))) (tgd_name 3) (by decide) rfl ?_
    refine wi_r2 m_range ?_
    refine we_int ?_
    refine we_n 2 ?_
    refine rng_sh h fun xs14 h => ?_
    refine lcS h (fun first_15 kp sk h => ?_) fun l16 h => ?_
    · refine ⟨[(3, first_15)], rfl, rfl, fun g' s1 H1 C1 cl1 fp1 => ?_⟩
      refine ⟨fun _ s1 H1 C1 cl1 fp1 => ?_, fun z => by cases z⟩
      refine we_mulA ?_
      refine we_ix ?_
      refine we_nl 1 ?_
      refine we_n 3 ?_
      refine ix_sh h fun r17 h => ?_
      refine we_ix ?_
      refine we_nl 1 ?_
      refine we_sub ?_
      refine we_n 2 ?_
      refine we_n 3 ?_
      refine sub_sh h fun r18 h => ?_
      refine ix_sh h fun r19 h => ?_
      refine mul_sh h fun r20 h => ?_
      exact ⟨rfl, h⟩
    refine sum_m h fun r21 h => ?_
    obtain ⟨hl22, h⟩ := h
    refine ⟨rfl, hl22, ?_⟩
    refine ws_env (env' := [.d most, .ol a9 (row7 ++ ([r21] : List PyData)), .d r13, .un]) rfl ?_
    exact ws_nil ⟨(row7 ++ ([r21] : List PyData)), ((.d r13), ⟨a9, n_a9⟩), h, rfl⟩
theorem ok_number_of (F : FnP K "number_of" s_number_of f fd) (hm : mg "number_of" = some (.ref f)) (hb : Binds K fd ["plan"] []) (h_need_plan : Has P w K mg base k "need_plan" ["plan"] c_need_plan) (h_number_by : Has P w K mg base k "number_by" ["row", "near", "start", "steps"] (c_number_by 64)) (h_ways_row : Has P w K mg base k "ways_row" ["most"] c_ways_row) (h_neighbours : Has P w K mg base k "neighbours" ["plan"] c_neighbours) :
    Has P w K mg base (k + 1) "number_of" ["plan"] c_number_of := by
  refine fn_has F hm sc_number_of hb rfl ?_
  rintro cdv A outer s H E g args Φ Ψ hr hp hM hl ⟨plan, Kf, Ef, rfl, h, hK, hE⟩
  unfold f_number_of at h
  refine ws_env (env' := [.d plan]) rfl ?_
  refine ws_cons (w1_expr ?_)
  refine we_call h_need_plan hr ?_
  refine wa_d ?_
  refine we_n 0 ?_
  refine ⟨rfl, ?_⟩
  refine wa_nil ?_
  refine ⟨rfl, _, _, _, rfl, h, fun r1 h => ⟨rfl, _, rfl, ?_⟩, fun c hc => ⟨rfl, ⟨_, hE _ hc, rfl, rfl⟩⟩⟩
  refine ws_cons (w1_ret ?_)
  refine we_call h_number_by hr ?_
  refine wa_d ?_
  refine we_call h_ways_row hr ?_
  refine wa_d ?_
  refine we_sub ?_
  refine we_ix ?_
  refine we_n 0 ?_
  refine we_int ?_
  refine ix_sh h fun r2 h => ?_
  refine we_int ?_
  refine sub_sh h fun r3 h => ?_
  refine ⟨rfl, ?_⟩
  refine wa_nil ?_
  refine ⟨rfl, _, _, _, rfl, h, fun r4 h => ⟨rfl, _, rfl, ?_⟩, fun c hc => ⟨rfl, ⟨_, hE _ hc, rfl, rfl⟩⟩⟩
  refine ⟨rfl, ?_⟩
  refine wa_d ?_
  refine we_call h_neighbours hr ?_
  refine wa_d ?_
  refine we_n 0 ?_
  refine ⟨rfl, ?_⟩
  refine wa_nil ?_
  refine ⟨rfl, _, _, _, rfl, h, fun r5 h => ⟨rfl, _, rfl, ?_⟩, fun c hc => ⟨rfl, ⟨_, hE _ hc, rfl, rfl⟩⟩⟩
  refine ⟨rfl, ?_⟩
  refine wa_d ?_
  refine we_int ?_
  refine ⟨rfl, ?_⟩
  refine wa_d ?_
  refine we_sub ?_
  refine we_ix ?_
  refine we_n 0 ?_
  refine we_int ?_
  refine ix_sh h fun r6 h => ?_
  refine we_int ?_
  refine sub_sh h fun r7 h => ?_
  refine ⟨rfl, ?_⟩
  refine wa_nil ?_
  refine ⟨rfl, _, _, _, _, _, _, rfl, h, fun r8 h => ⟨rfl, _, rfl, ?_⟩, fun c hc => ⟨rfl, ⟨_, hE _ hc, rfl, rfl⟩⟩⟩
  exact ⟨rfl, _, hK _ h, trivial, rfl, rfl⟩
theorem ok_places (F : FnP K "places" s_places f fd) (hm : mg "places" = some (.ref f)) (hb : Binds K fd ["plan"] []) (h_need_plan : Has P w K mg base k "need_plan" ["plan"] c_need_plan) (h_all_lines : Has P w K mg base k "all_lines" ["plan"] c_all_lines) (m_sorted : mg "sorted" = none) :
    Has P w K mg base (k + 1) "places" ["plan"] c_places := by
  refine fn_has F hm sc_places hb rfl ?_
  rintro cdv A outer s H E g args Φ Ψ hr hp hM hl ⟨plan, Kf, Ef, rfl, h, hK, hE⟩
  unfold f_places at h
  refine ws_env (env' := [.d plan, .un, .un, .un]) rfl ?_
  refine ws_cons (w1_expr ?_)
  refine we_call h_need_plan hr ?_
  refine wa_d ?_
  refine we_n 0 ?_
  refine ⟨rfl, ?_⟩
  refine wa_nil ?_
  refine ⟨rfl, _, _, _, rfl, h, fun r1 h => ⟨rfl, _, rfl, ?_⟩, fun c hc => ⟨rfl, ⟨_, hE _ hc, rfl, rfl⟩⟩⟩
  refine ws_cons (w1_set 1 sc_places.nd ?_)
  refine we_call h_all_lines hr ?_
  refine wa_d ?_
  refine we_n 0 ?_
  refine ⟨rfl, ?_⟩
  refine wa_nil ?_
  refine ⟨rfl, _, _, _, rfl, h, fun r2 h => ⟨rfl, _, rfl, ?_⟩, fun c hc => ⟨rfl, ⟨_, hE _ hc, rfl, rfl⟩⟩⟩
  refine ⟨rfl, ?_⟩
  refine ws_env (env' := [.d plan, .d (.list r2), .un, .un]) rfl ?_
  refine ws_cons (w1_retN ?_)
  refine wn_sortedA m_sorted hr ?_
  refine we_add ?_
  refine we_n 1 ?_
  refine we_of_wn ?_
  refine wn_lc (own := [("low", 2), ("high", 3)]) rfl sc_places.nd (blkOk_by (by rfl)) (fun _ _ _ _ _ => (pg_tup rfl (pgs_cons (pg_name (i := 2) sc_places.nd rfl (by first | exact Or.inl rfl | exact Or.inr rfl)) (pgs_cons (pg_name (i := 3) sc_places.nd rfl (by first | exact Or.inl rfl | exact Or.inr rfl)) pgs_nil)))) (tgd_tup (tgds_cons (tgd_name 2) (tgds_cons (tgd_name 3) tgds_nil)) rfl) (by decide) rfl ?_
  refine wi_d ?_
  refine we_n 1 ?_
  refine ⟨rfl, it_sh h fun xs3 h => ?_⟩
  refine lcS h (fun p4 kp sk h => ?_) fun l5 h => ?_
  · obtain ⟨low6, high7, he8, h⟩ := un2_sh h
    refine ⟨[(2, low6), (3, high7)], (by rw [he8]; rfl), rfl, fun g' s1 H1 C1 cl1 fp1 => ?_⟩
    refine ⟨fun _ s1 H1 C1 cl1 fp1 => ?_, fun z => by cases z⟩
    refine we_tuple ?_
    refine wa_d ?_
    refine we_n 3 ?_
    refine ⟨rfl, ?_⟩
    refine wa_d ?_
    refine we_n 2 ?_
    refine ⟨rfl, ?_⟩
    refine wa_nil ?_
    refine ⟨_, rfl, szOk rfl, ?_⟩
    exact ⟨rfl, h⟩
  refine add_sh h fun r9 h => ?_
  refine sort_m h fun l10 h => ?_
  exact ⟨_, hK _ h, trivial, rfl, rfl⟩
theorem ok_need_place (F : FnP K "need_place" s_need_place f fd) (hm : mg "need_place" = some (.ref f)) (hb : Binds K fd ["plan", "place"] []) (h_need_plan : Has P w K mg base k "need_plan" ["plan"] c_need_plan) (h_pair_of : Has P w K mg base k "pair_of" ["one", "other"] c_pair_of) (h_all_lines : Has P w K mg base k "all_lines" ["plan"] c_all_lines) (x_BadPlace : ExK K mg "BadPlace") :
    Has P w K mg base (k + 1) "need_place" ["plan", "place"] c_need_place := by
  refine fn_has F hm sc_need_place hb rfl ?_
  rintro cdv A outer s H E g args Φ Ψ hr hp hM hl ⟨plan, place, Kf, Ef, rfl, h, hK, hE⟩
  unfold f_need_place at h
  refine ws_env (env' := [.d plan, .d place, .un, .un]) rfl ?_
  refine ws_cons (w1_expr ?_)
  refine we_call h_need_plan hr ?_
  refine wa_d ?_
  refine we_n 0 ?_
  refine ⟨rfl, ?_⟩
  refine wa_nil ?_
  refine ⟨rfl, _, _, _, rfl, h, fun r1 h => ⟨rfl, _, rfl, ?_⟩, fun c hc => ⟨rfl, ⟨_, hE _ hc, rfl, rfl, rfl⟩⟩⟩
  refine ws_cons (w1_unpack (pg_tup rfl (pgs_cons (pg_name (i := 2) sc_need_place.nd rfl (by first | exact Or.inl rfl | exact Or.inr rfl)) (pgs_cons (pg_name (i := 3) sc_need_place.nd rfl (by first | exact Or.inl rfl | exact Or.inr rfl)) pgs_nil))) (tgd_tup (tgds_cons (tgd_name 2) (tgds_cons (tgd_name 3) tgds_nil)) rfl) ?_)
  refine we_n 1 ?_
  obtain ⟨top2, under3, he4, h⟩ := un2_sh h
  refine ⟨rfl, [(2, top2), (3, under3)], (by rw [he4]; rfl), rfl, ?_⟩
  refine ws_env (env' := [.d plan, .d place, .d top2, .d under3]) rfl ?_
  refine ws_cons (w1_if ?_)
  refine wt_ww ?_
  refine ww_orS h (fun Q h => ?_) (fun Q h => ?_) fun b5 h => ?_
  · refine wt_not ?_
    refine wt_ch (op_leA hr) (op_ltA hr) ?_
    refine we_int ?_
    refine we_n 2 ?_
    refine ch_sh2 h (fun Q h => le_sh h fun _ h => h) (fun Q h => ?_) fun b6 h => ?_
    · refine we_ix ?_
      refine we_n 0 ?_
      refine we_int ?_
      refine ix_sh h fun r8 h => ?_
      exact lt_sh h fun _ h => h
    exact h
  · refine ww_orS h (fun Q h => ?_) (fun Q h => ?_) fun b9 h => ?_
    · refine wt_not ?_
      refine wt_ch (op_leA hr) (op_ltA hr) ?_
      refine we_int ?_
      refine we_n 3 ?_
      refine ch_sh2 h (fun Q h => le_sh h fun _ h => h) (fun Q h => ?_) fun b10 h => ?_
      · refine we_ix ?_
        refine we_n 0 ?_
        refine we_int ?_
        refine ix_sh h fun r12 h => ?_
        exact lt_sh h fun _ h => h
      exact h
    · refine ww_or1 ?_
      refine wt_cp (op_notInA hr) ?_
      refine we_call h_pair_of hr ?_
      refine wa_d ?_
      refine we_n 2 ?_
      refine ⟨rfl, ?_⟩
      refine wa_d ?_
      refine we_n 3 ?_
      refine ⟨rfl, ?_⟩
      refine wa_nil ?_
      refine ⟨rfl, _, _, _, _, rfl, h, fun r13 h => ⟨rfl, _, rfl, ?_⟩, fun c hc => ⟨rfl, ⟨_, hE _ hc, rfl, rfl, rfl⟩⟩⟩
      refine we_call h_all_lines hr ?_
      refine wa_d ?_
      refine we_n 0 ?_
      refine ⟨rfl, ?_⟩
      refine wa_nil ?_
      refine ⟨rfl, _, _, _, rfl, h, fun r14 h => ⟨rfl, _, rfl, ?_⟩, fun c hc => ⟨rfl, ⟨_, hE _ hc, rfl, rfl, rfl⟩⟩⟩
      refine notIn_sh h fun b15 h => ?_
      exact h
    exact h
  obtain ⟨h16, h17⟩ := h
  refine ⟨fun e18 => ?_, fun e18 => ?_⟩
  · replace h := h16 e18
    exact ws_cons (w1_raise rfl x_BadPlace ⟨_, hE _ h, rfl, rfl, rfl⟩)
  · replace h := h17 e18
    refine ws_nil ?_
    exact ws_nil ⟨_, hK _ h, rfl, rfl, rfl⟩
theorem ok_need_way (F : FnP K "need_way" s_need_way f fd) (hm : mg "need_way" = some (.ref f)) (hb : Binds K fd ["way"] []) (g_WAYS : GTup K mg "WAYS" [.str "even", .str "odd"]) (x_BadWay : ExK K mg "BadWay") :
    Has P w K mg base (k + 1) "need_way" ["way"] c_need_way := by
  refine fn_has F hm sc_need_way hb rfl ?_
  rintro cdv A outer s H E g args Φ Ψ hr hp hM hl ⟨way, Kf, Ef, rfl, h, hK, hE⟩
  unfold f_need_way at h
  refine ws_env (env' := [.d way]) rfl ?_
  refine ws_cons (w1_if ?_)
  refine wt_notInG g_WAYS ?_
  refine we_n 0 ?_
  refine inG_sh h fun b1 h => ?_
  obtain ⟨h2, h3⟩ := h
  refine ⟨fun e4 => ?_, fun e4 => ?_⟩
  · replace h := h2 e4
    exact ws_cons (w1_raise rfl x_BadWay ⟨_, hE _ h, rfl, rfl⟩)
  · replace h := h3 e4
    refine ws_nil ?_
    exact ws_nil ⟨_, hK _ h, rfl, rfl⟩
theorem ok_between (F : FnP K "between" s_between f fd) (hm : mg "between" = some (.ref f)) (hb : Binds K fd ["faces", "start", "corner", "end"] [])  :
    Has P w K mg base (k + 1) "between" ["faces", "start", "corner", "end"] c_between := by
  refine fn_has F hm sc_between hb rfl ?_
  rintro cdv A outer s H E g args Φ Ψ hr hp hM hl ⟨faces, start, corner, end_, Kf, Ef, rfl, h, hK, hE⟩
  unfold f_between at h
  refine ws_env (env' := [.d faces, .d start, .d corner, .d end_]) rfl ?_
  refine ws_cons (w1_ret ?_)
  refine we_ch (op_ltA hr) (op_ltA hr) ?_
  refine we_int ?_
  refine we_mod ?_
  refine we_sub ?_
  refine we_n 2 ?_
  refine we_n 1 ?_
  refine sub_sh h fun r1 h => ?_
  refine we_n 0 ?_
  refine mod_sh h fun r2 h => ?_
  refine ch_sh2 h (fun Q h => lt_sh h fun _ h => h) (fun Q h => ?_) fun b3 h => ?_
  · refine we_mod ?_
    refine we_sub ?_
    refine we_n 3 ?_
    refine we_n 1 ?_
    refine sub_sh h fun r5 h => ?_
    refine we_n 0 ?_
    refine mod_sh h fun r6 h => ?_
    exact lt_sh h fun _ h => h
  exact ⟨rfl, _, hK _ h, trivial, rfl, rfl, rfl, rfl, rfl⟩
theorem ok_third_corner (F : FnP K "third_corner" s_third_corner f fd) (hm : mg "third_corner" = some (.ref f)) (hb : Binds K fd ["plan", "near", "place", "way"] []) (h_between : Has P w K mg base k "between" ["faces", "start", "corner", "end"] c_between) :
    Has P w K mg base (k + 1) "third_corner" ["plan", "near", "place", "way"] c_third_corner := by
  refine fn_has F hm sc_third_corner hb rfl ?_
  rintro cdv A outer s H E g args Φ Ψ hr hp hM hl ⟨plan, near, place, way, Kf, Ef, rfl, h, hK, hE⟩
  unfold f_third_corner at h
  refine ws_env (env' := [.d plan, .d near, .d place, .d way, .un, .un, .un, .un, .un]) rfl ?_
  refine ws_cons (w1_unpack (pg_tup rfl (pgs_cons (pg_name (i := 4) sc_third_corner.nd rfl (by first | exact Or.inl rfl | exact Or.inr rfl)) (pgs_cons (pg_name (i := 5) sc_third_corner.nd rfl (by first | exact Or.inl rfl | exact Or.inr rfl)) pgs_nil))) (tgd_tup (tgds_cons (tgd_name 4) (tgds_cons (tgd_name 5) tgds_nil)) rfl) ?_)
  refine we_n 2 ?_
  obtain ⟨top1, under2, he3, h⟩ := un2_sh h
  refine ⟨rfl, [(4, top1), (5, under2)], (by rw [he3]; rfl), rfl, ?_⟩
  refine ws_env (env' := [.d plan, .d near, .d place, .d way, .d top1, .d under2, .un, .un, .un]) rfl ?_
  refine ws_cons (w1_unpack (pg_tup rfl (pgs_cons (pg_name (i := 6) sc_third_corner.nd rfl (by first | exact Or.inl rfl | exact Or.inr rfl)) (pgs_cons (pg_name (i := 7) sc_third_corner.nd rfl (by first | exact Or.inl rfl | exact Or.inr rfl)) pgs_nil))) (tgd_tup (tgds_cons (tgd_name 6) (tgds_cons (tgd_name 7) tgds_nil)) rfl) ?_)
  refine we_ifS h (fun Q h => ?_) (fun Q h => ?_) (fun Q h => ?_) fun r4 h => ?_
  · refine wt_cp (op_eqA hr) ?_
    refine we_n 3 ?_
    refine we_str ?_
    refine eq_sh h fun b5 h => ?_
    exact h
  · refine we_tuple ?_
    refine wa_d ?_
    refine we_n 4 ?_
    refine ⟨rfl, ?_⟩
    refine wa_d ?_
    refine we_n 5 ?_
    refine ⟨rfl, ?_⟩
    refine wa_nil ?_
    refine ⟨_, rfl, szOk rfl, ?_⟩
    exact ⟨rfl, h⟩
  · refine we_tuple ?_
    refine wa_d ?_
    refine we_n 5 ?_
    refine ⟨rfl, ?_⟩
    refine wa_d ?_
    refine we_n 4 ?_
    refine ⟨rfl, ?_⟩
    refine wa_nil ?_
    refine ⟨_, rfl, szOk rfl, ?_⟩
    exact ⟨rfl, h⟩
  obtain ⟨start6, end_7, he8, h⟩ := un2_sh h
  refine ⟨rfl, [(6, start6), (7, end_7)], (by rw [he8]; rfl), rfl, ?_⟩
  refine ws_env (env' := [.d plan, .d near, .d place, .d way, .d top1, .d under2, .d start6, .d end_7, .un]) rfl ?_
  refine ws_cons (w1_for hp rfl (pg_name (i := 8) sc_third_corner.nd rfl (by first | exact Or.inl rfl | exact Or.inr rfl)) (tgd_name 8) ?_)
  refine wi_d ?_
  refine we_ix ?_
  refine we_n 1 ?_
  refine we_n 4 ?_
  refine ix_sh h fun r10 h => ?_
  refine ⟨rfl, it_sh h fun xs9 h => ?_⟩
  refine forS h (fun (s : Unit) (u : Sl) => [.d plan, .d near, .d place, .d way, .d top1, .d under2, .d start6, .d end_7, u]) (.un) rfl ?_ ?_
  · rintro _ w11 h
    refine ws_env (env' := [.d plan, .d near, .d place, .d way, .d top1, .d under2, .d start6, .d end_7, w11]) rfl ?_
    refine ws_cons (w1_ret ?_)
    refine we_none ?_
    exact ⟨rfl, _, hK _ h, trivial, rfl, rfl, rfl, rfl, rfl⟩
  · rintro hend corner12 _ w15 N13 h
    refine ⟨[(8, corner12)], rfl, rfl, ?_⟩
    refine ws_env (env' := [.d plan, .d near, .d place, .d way, .d top1, .d under2, .d start6, .d end_7, .d corner12]) rfl ?_
    refine ws_cons (w1_if ?_)
    refine wt_ww ?_
    refine ww_andS h (fun Q h => ?_) (fun Q h => ?_) fun b16 h => ?_
    · refine wt_cp (op_inA hr) ?_
      refine we_n 8 ?_
      refine we_ix ?_
      refine we_n 1 ?_
      refine we_n 5 ?_
      refine ix_sh h fun r17 h => ?_
      refine in_sh h fun b18 h => ?_
      exact h
    · refine ww_and1 ?_
      refine wt_e ?_
      refine we_call h_between hr ?_
      refine wa_d ?_
      refine we_ix ?_
      refine we_n 0 ?_
      refine we_int ?_
      refine ix_sh h fun r19 h => ?_
      refine ⟨rfl, ?_⟩
      refine wa_d ?_
      refine we_n 6 ?_
      refine ⟨rfl, ?_⟩
      refine wa_d ?_
      refine we_n 8 ?_
      refine ⟨rfl, ?_⟩
      refine wa_d ?_
      refine we_n 7 ?_
      refine ⟨rfl, ?_⟩
      refine wa_nil ?_
      refine ⟨rfl, _, _, _, _, _, _, rfl, h, fun r20 h => ⟨rfl, _, rfl, ?_⟩, fun c hc => ⟨rfl, ⟨_, hE _ hc, rfl, rfl, rfl, rfl, rfl⟩⟩⟩
      refine bool_sh h fun b21 h => ?_
      exact h
    obtain ⟨h22, h23⟩ := h
    refine ⟨fun e24 => ?_, fun e24 => ?_⟩
    · replace h := h22 e24
      refine ws_cons (w1_ret ?_)
      refine we_n 8 ?_
      exact ⟨rfl, _, hK _ h, trivial, rfl, rfl, rfl, rfl, rfl⟩
    · replace h := h23 e24
      refine ws_nil ?_
      exact ws_nil ⟨(), (.d corner12), h, rfl⟩
theorem ok_third (F : FnP K "third" s_third f fd) (hm : mg "third" = some (.ref f)) (hb : Binds K fd ["plan", "place", "way"] []) (h_need_place : Has P w K mg base k "need_place" ["plan", "place"] c_need_place) (h_need_way : Has P w K mg base k "need_way" ["way"] c_need_way) (h_third_corner : Has P w K mg base k "third_corner" ["plan", "near", "place", "way"] c_third_corner) (h_neighbours : Has P w K mg base k "neighbours" ["plan"] c_neighbours) :
    Has P w K mg base (k + 1) "third" ["plan", "place", "way"] c_third := by
  refine fn_has F hm sc_third hb rfl ?_
  rintro cdv A outer s H E g args Φ Ψ hr hp hM hl ⟨plan, place, way, Kf, Ef, rfl, h, hK, hE⟩
  unfold f_third at h
  refine ws_env (env' := [.d plan, .d place, .d way]) rfl ?_
  refine ws_cons (w1_expr ?_)
  refine we_call h_need_place hr ?_
  refine wa_d ?_
  refine we_n 0 ?_
  refine ⟨rfl, ?_⟩
  refine wa_d ?_
  refine we_n 1 ?_
  refine ⟨rfl, ?_⟩
  refine wa_nil ?_
  refine ⟨rfl, _, _, _, _, rfl, h, fun r1 h => ⟨rfl, _, rfl, ?_⟩, fun c hc => ⟨rfl, ⟨_, hE _ hc, rfl, rfl, rfl, rfl⟩⟩⟩
  refine ws_cons (w1_expr ?_)
  refine we_call h_need_way hr ?_
  refine wa_d ?_
  refine we_n 2 ?_
  refine ⟨rfl, ?_⟩
  refine wa_nil ?_
  refine ⟨rfl, _, _, _, rfl, h, fun r2 h => ⟨rfl, _, rfl, ?_⟩, fun c hc => ⟨rfl, ⟨_, hE _ hc, rfl, rfl, rfl, rfl⟩⟩⟩
  refine ws_cons (w1_ret ?_)
  refine we_call h_third_corner hr ?_
  refine wa_d ?_
  refine we_n 0 ?_
  refine ⟨rfl, ?_⟩
  refine wa_d ?_
  refine we_call h_neighbours hr ?_
  refine wa_d ?_
  refine we_n 0 ?_
  refine ⟨rfl, ?_⟩
  refine wa_nil ?_
  refine ⟨rfl, _, _, _, rfl, h, fun r3 h => ⟨rfl, _, rfl, ?_⟩, fun c hc => ⟨rfl, ⟨_, hE _ hc, rfl, rfl, rfl, rfl⟩⟩⟩
  refine ⟨rfl, ?_⟩
  refine wa_d ?_
  refine we_n 1 ?_
  refine ⟨rfl, ?_⟩
  refine wa_d ?_
  refine we_n 2 ?_
  refine ⟨rfl, ?_⟩
  refine wa_nil ?_
  refine ⟨rfl, _, _, _, _, _, _, rfl, h, fun r4 h => ⟨rfl, _, rfl, ?_⟩, fun c hc => ⟨rfl, ⟨_, hE _ hc, rfl, rfl, rfl, rfl⟩⟩⟩
  exact ⟨rfl, _, hK _ h, trivial, rfl, rfl, rfl, rfl⟩
theorem ok_corner_for (F : FnP K "corner_for" s_corner_for f fd) (hm : mg "corner_for" = some (.ref f)) (hb : Binds K fd ["plan", "place", "way"] []) (h_third : Has P w K mg base k "third" ["plan", "place", "way"] c_third) (x_NoPinch : ExK K mg "NoPinch") :
    Has P w K mg base (k + 1) "corner_for" ["plan", "place", "way"] c_corner_for := by
  refine fn_has F hm sc_corner_for hb rfl ?_
  rintro cdv A outer s H E g args Φ Ψ hr hp hM hl ⟨plan, place, way, Kf, Ef, rfl, h, hK, hE⟩
  unfold f_corner_for at h
  refine ws_env (env' := [.d plan, .d place, .d way, .un]) rfl ?_
  refine ws_cons (w1_set 3 sc_corner_for.nd ?_)
  refine we_call h_third hr ?_
  refine wa_d ?_
  refine we_n 0 ?_
  refine ⟨rfl, ?_⟩
  refine wa_d ?_
  refine we_n 1 ?_
  refine ⟨rfl, ?_⟩
  refine wa_d ?_
  refine we_n 2 ?_
  refine ⟨rfl, ?_⟩
  refine wa_nil ?_
  refine ⟨rfl, _, _, _, _, _, rfl, h, fun r1 h => ⟨rfl, _, rfl, ?_⟩, fun c hc => ⟨rfl, ⟨_, hE _ hc, rfl, rfl, rfl, rfl⟩⟩⟩
  refine ⟨rfl, ?_⟩
  refine ws_env (env' := [.d plan, .d place, .d way, .d r1]) rfl ?_
  refine ws_cons (w1_if ?_)
  refine wt_cp op_isN ?_
  refine we_n 3 ?_
  refine we_none ?_
  refine isN_sh ?_
  obtain ⟨h2, h3⟩ := h
  refine ⟨fun e4 => ?_, fun e4 => ?_⟩
  · replace h := h2 e4
    exact ws_cons (w1_raise rfl x_NoPinch ⟨_, hE _ h, rfl, rfl, rfl, rfl⟩)
  · replace h := h3 e4
    refine ws_nil ?_
    refine ws_cons (w1_ret ?_)
    refine we_n 3 ?_
    exact ⟨rfl, _, hK _ h, trivial, rfl, rfl, rfl, rfl⟩
theorem ok_pinch (F : FnP K "pinch" s_pinch f fd) (hm : mg "pinch" = some (.ref f)) (hb : Binds K fd ["plan", "place", "way"] []) (h_corner_for : Has P w K mg base k "corner_for" ["plan", "place", "way"] c_corner_for) :
    Has P w K mg base (k + 1) "pinch" ["plan", "place", "way"] c_pinch := by
  refine fn_has F hm sc_pinch hb rfl ?_
  rintro cdv A outer s H E g args Φ Ψ hr hp hM hl ⟨plan, place, way, Kf, Ef, rfl, h, hK, hE⟩
  unfold f_pinch at h
  refine ws_env (env' := [.d plan, .d place, .d way]) rfl ?_
  refine ws_cons (w1_ret ?_)
  refine we_tuple ?_
  refine wa_d ?_
  refine we_call h_corner_for hr ?_
  refine wa_d ?_
  refine we_n 0 ?_
  refine ⟨rfl, ?_⟩
  refine wa_d ?_
  refine we_n 1 ?_
  refine ⟨rfl, ?_⟩
  refine wa_d ?_
  refine we_n 2 ?_
  refine ⟨rfl, ?_⟩
  refine wa_nil ?_
  refine ⟨rfl, _, _, _, _, _, rfl, h, fun r1 h => ⟨rfl, _, rfl, ?_⟩, fun c hc => ⟨rfl, ⟨_, hE _ hc, rfl, rfl, rfl, rfl⟩⟩⟩
  refine ⟨rfl, ?_⟩
  refine wa_d ?_
  refine we_ix ?_
  refine we_n 1 ?_
  refine we_int ?_
  refine ix_sh h fun r2 h => ?_
  refine ⟨rfl, ?_⟩
  refine wa_nil ?_
  refine ⟨_, rfl, szOk rfl, ?_⟩
  exact ⟨rfl, _, hK _ h, trivial, rfl, rfl, rfl, rfl⟩
theorem ok_unpinch (F : FnP K "unpinch" s_unpinch f fd) (hm : mg "unpinch" = some (.ref f)) (hb : Binds K fd ["plan", "place", "way"] []) (h_corner_for : Has P w K mg base k "corner_for" ["plan", "place", "way"] c_corner_for) :
    Has P w K mg base (k + 1) "unpinch" ["plan", "place", "way"] c_unpinch := by
  refine fn_has F hm sc_unpinch hb rfl ?_
  rintro cdv A outer s H E g args Φ Ψ hr hp hM hl ⟨plan, place, way, Kf, Ef, rfl, h, hK, hE⟩
  unfold f_unpinch at h
  refine ws_env (env' := [.d plan, .d place, .d way, .un]) rfl ?_
  refine ws_cons (w1_set 3 sc_unpinch.nd ?_)
  refine we_call h_corner_for hr ?_
  refine wa_d ?_
  refine we_n 0 ?_
  refine ⟨rfl, ?_⟩
  refine wa_d ?_
  refine we_n 1 ?_
  refine ⟨rfl, ?_⟩
  refine wa_d ?_
  refine we_n 2 ?_
  refine ⟨rfl, ?_⟩
  refine wa_nil ?_
  refine ⟨rfl, _, _, _, _, _, rfl, h, fun r1 h => ⟨rfl, _, rfl, ?_⟩, fun c hc => ⟨rfl, ⟨_, hE _ hc, rfl, rfl, rfl, rfl⟩⟩⟩
  refine ⟨rfl, ?_⟩
  refine ws_env (env' := [.d plan, .d place, .d way, .d r1]) rfl ?_
  refine ws_cons (w1_ret ?_)
  refine we_tuple ?_
  refine wa_d ?_
  refine we_ix ?_
  refine we_n 1 ?_
  refine we_int ?_
  refine ix_sh h fun r2 h => ?_
  refine ⟨rfl, ?_⟩
  refine wa_d ?_
  refine we_n 3 ?_
  refine ⟨rfl, ?_⟩
  refine wa_nil ?_
  refine ⟨_, rfl, szOk rfl, ?_⟩
  exact ⟨rfl, _, hK _ h, trivial, rfl, rfl, rfl, rfl⟩
theorem ok_over (F : FnP K "over" s_over f fd) (hm : mg "over" = some (.ref f)) (hb : Binds K fd ["plan", "place"] []) (h_need_place : Has P w K mg base k "need_place" ["plan", "place"] c_need_place) :
    Has P w K mg base (k + 1) "over" ["plan", "place"] c_over := by
  refine fn_has F hm sc_over hb rfl ?_
  rintro cdv A outer s H E g args Φ Ψ hr hp hM hl ⟨plan, place, Kf, Ef, rfl, h, hK, hE⟩
  unfold f_over at h
  refine ws_env (env' := [.d plan, .d place]) rfl ?_
  refine ws_cons (w1_expr ?_)
  refine we_call h_need_place hr ?_
  refine wa_d ?_
  refine we_n 0 ?_
  refine ⟨rfl, ?_⟩
  refine wa_d ?_
  refine we_n 1 ?_
  refine ⟨rfl, ?_⟩
  refine wa_nil ?_
  refine ⟨rfl, _, _, _, _, rfl, h, fun r1 h => ⟨rfl, _, rfl, ?_⟩, fun c hc => ⟨rfl, ⟨_, hE _ hc, rfl, rfl, rfl⟩⟩⟩
  refine ws_cons (w1_ret ?_)
  refine we_tuple ?_
  refine wa_d ?_
  refine we_ix ?_
  refine we_n 1 ?_
  refine we_int ?_
  refine ix_sh h fun r2 h => ?_
  refine ⟨rfl, ?_⟩
  refine wa_d ?_
  refine we_ix ?_
  refine we_n 1 ?_
  refine we_int ?_
  refine ix_sh h fun r3 h => ?_
  refine ⟨rfl, ?_⟩
  refine wa_nil ?_
  refine ⟨_, rfl, szOk rfl, ?_⟩
  exact ⟨rfl, _, hK _ h, trivial, rfl, rfl, rfl⟩
theorem ok_round_from (F : FnP K "round_from" s_round_from f fd) (hm : mg "round_from" = some (.ref f)) (hb : Binds K fd ["faces", "start", "end"] []) (h_follows : Has P w K mg base k "follows" ["faces", "face"] c_follows) :
    Has P w K mg base (k + 1) "round_from" ["faces", "start", "end"] c_round_from := by
  refine fn_has F hm sc_round_from hb rfl ?_
  rintro cdv A outer s H E g args Φ Ψ hr hp hM hl ⟨faces, start, end_, Kf, Ef, rfl, h, hK, hE⟩
  unfold f_round_from at h
  refine ws_env (env' := [.d faces, .d start, .d end_, .un, .un]) rfl ?_
  refine ws_cons (w1_setN 3 sc_round_from.nd ?_)
  refine wn_list ?_
  refine wa_nil ?_
  refine ⟨_, rfl, szOk rfl, ?_⟩
  intro a1 n_a1
  refine ws_env (env' := [.d faces, .d start, .d end_, .ol a1 [], .un]) rfl ?_
  refine ws_cons (w1_set 4 sc_round_from.nd ?_)
  refine we_n 1 ?_
  refine ⟨rfl, ?_⟩
  refine ws_env (env' := [.d faces, .d start, .d end_, .ol a1 [], .d start]) rfl ?_
  refine ws_cons (whileS h hp (fun (s : (List PyData) × PyData) (u : {a : Addr // a ∉ g.M}) => [.d faces, .d start, .d end_, .ol u.1 s.1, .d s.2]) ⟨a1, n_a1⟩ rfl ?_ ?_)
  · rintro ⟨found2, here3⟩ ⟨a4, n_a4⟩ h
    refine ws_env (env' := [.d faces, .d start, .d end_, .ol a4 found2, .d here3]) rfl ?_
    exact ws_cons (w1_retO 3 rfl n_a4 ⟨_, hK _ h, trivial, rfl, rfl, rfl, rfl⟩)
  · rintro hend ⟨found7, here8⟩ ⟨a9, n_a9⟩ N5 h
    refine wt_cp (op_neA hr) ?_
    refine we_n 4 ?_
    refine we_n 2 ?_
    refine ne_sh h fun b10 h => ?_
    refine ⟨fun e11 => ?_, fun e11 => hend (found7, here8) ⟨a9, n_a9⟩ (h.2 e11)⟩
    replace h := h.1 e11
    refine ws_env (env' := [.d faces, .d start, .d end_, .ol a9 found7, .d here8]) rfl ?_
    refine ws_cons (w1_append 3 rfl ?_)
    refine we_n 4 ?_
    obtain ⟨hl12, h⟩ := h
    refine ⟨rfl, hl12, ?_⟩
    refine ws_env (env' := [.d faces, .d start, .d end_, .ol a9 (found7 ++ ([here8] : List PyData)), .d here8]) rfl ?_
    refine ws_cons (w1_set 4 sc_round_from.nd ?_)
    refine we_call h_follows hr ?_
    refine wa_d ?_
    refine we_n 0 ?_
    refine ⟨rfl, ?_⟩
    refine wa_d ?_
    refine we_n 4 ?_
    refine ⟨rfl, ?_⟩
    refine wa_nil ?_
    refine ⟨rfl, _, _, _, _, rfl, h, fun r13 h => ⟨rfl, _, rfl, ?_⟩, fun c hc => ⟨rfl, ⟨_, hE _ hc, rfl, rfl, rfl, rfl⟩⟩⟩
    refine ⟨rfl, ?_⟩
    refine ws_env (env' := [.d faces, .d start, .d end_, .ol a9 (found7 ++ ([here8] : List PyData)), .d r13]) rfl ?_
    exact ws_nil ⟨((found7 ++ ([here8] : List PyData)), r13), ⟨a9, n_a9⟩, h, rfl⟩
theorem ok_stacks (F : FnP K "stacks" s_stacks f fd) (hm : mg "stacks" = some (.ref f)) (hb : Binds K fd ["plan", "place"] []) (h_need_place : Has P w K mg base k "need_place" ["plan", "place"] c_need_place) (h_round_from : Has P w K mg base k "round_from" ["faces", "start", "end"] c_round_from) :
    Has P w K mg base (k + 1) "stacks" ["plan", "place"] c_stacks := by
  refine fn_has F hm sc_stacks hb rfl ?_
  rintro cdv A outer s H E g args Φ Ψ hr hp hM hl ⟨plan, place, Kf, Ef, rfl, h, hK, hE⟩
  unfold f_stacks at h
  refine ws_env (env' := [.d plan, .d place, .un, .un]) rfl ?_
  refine ws_cons (w1_expr ?_)
  refine we_call h_need_place hr ?_
  refine wa_d ?_
  refine we_n 0 ?_
  refine ⟨rfl, ?_⟩
  refine wa_d ?_
  refine we_n 1 ?_
  refine ⟨rfl, ?_⟩
  refine wa_nil ?_
  refine ⟨rfl, _, _, _, _, rfl, h, fun r1 h => ⟨rfl, _, rfl, ?_⟩, fun c hc => ⟨rfl, ⟨_, hE _ hc, rfl, rfl, rfl⟩⟩⟩
  refine ws_cons (w1_unpack (pg_tup rfl (pgs_cons (pg_name (i := 2) sc_stacks.nd rfl (by first | exact Or.inl rfl | exact Or.inr rfl)) (pgs_cons (pg_name (i := 3) sc_stacks.nd rfl (by first | exact Or.inl rfl | exact Or.inr rfl)) pgs_nil))) (tgd_tup (tgds_cons (tgd_name 2) (tgds_cons (tgd_name 3) tgds_nil)) rfl) ?_)
  refine we_n 1 ?_
  obtain ⟨top2, under3, he4, h⟩ := un2_sh h
  refine ⟨rfl, [(2, top2), (3, under3)], (by rw [he4]; rfl), rfl, ?_⟩
  refine ws_env (env' := [.d plan, .d place, .d top2, .d under3]) rfl ?_
  refine ws_cons (w1_ret ?_)
  refine we_tuple ?_
  refine wa_d ?_
  refine we_call h_round_from hr ?_
  refine wa_d ?_
  refine we_ix ?_
  refine we_n 0 ?_
  refine we_int ?_
  refine ix_sh h fun r5 h => ?_
  refine ⟨rfl, ?_⟩
  refine wa_d ?_
  refine we_n 2 ?_
  refine ⟨rfl, ?_⟩
  refine wa_d ?_
  refine we_n 3 ?_
  refine ⟨rfl, ?_⟩
  refine wa_nil ?_
  refine ⟨rfl, _, _, _, _, _, rfl, h, fun r6 h => ⟨rfl, _, rfl, ?_⟩, fun c hc => ⟨rfl, ⟨_, hE _ hc, rfl, rfl, rfl⟩⟩⟩
  refine ⟨rfl, ?_⟩
  refine wa_d ?_
  refine we_revD ?_
  refine we_call h_round_from hr ?_
  refine wa_d ?_
  refine we_ix ?_
  refine we_n 0 ?_
  refine we_int ?_
  refine ix_sh h fun r7 h => ?_
  refine ⟨rfl, ?_⟩
  refine wa_d ?_
  refine we_n 3 ?_
  refine ⟨rfl, ?_⟩
  refine wa_d ?_
  refine we_n 2 ?_
  refine ⟨rfl, ?_⟩
  refine wa_nil ?_
  refine ⟨rfl, _, _, _, _, _, rfl, h, fun r8 h => ⟨rfl, _, rfl, ?_⟩, fun c hc => ⟨rfl, ⟨_, hE _ hc, rfl, rfl, rfl⟩⟩⟩
  refine revD_m h fun r9 h => ?_
  refine ⟨rfl, ?_⟩
  refine wa_nil ?_
  refine ⟨_, rfl, szOk rfl, ?_⟩
  exact ⟨rfl, _, hK _ h, trivial, rfl, rfl, rfl⟩
theorem ok_right_parts (F : FnP K "right_parts" s_right_parts f fd) (hm : mg "right_parts" = some (.ref f)) (hb : Binds K fd ["plan"] []) (h_neighbours : Has P w K mg base k "neighbours" ["plan"] c_neighbours) (h_between : Has P w K mg base k "between" ["faces", "start", "corner", "end"] c_between) (m_tuple : mg "tuple" = none) (m_sorted : mg "sorted" = none) :
    Has P w K mg base (k + 1) "right_parts" ["plan"] c_right_parts := by
  refine fn_has F hm sc_right_parts hb rfl ?_
  rintro cdv A outer s H E g args Φ Ψ hr hp hM hl ⟨plan, Kf, Ef, rfl, h, hK, hE⟩
  unfold f_right_parts at h
  refine ws_env (env' := [.d plan, .un, .un, .un, .un, .un, .un, .un, .un]) rfl ?_
  refine ws_cons (w1_set 1 sc_right_parts.nd ?_)
  refine we_call h_neighbours hr ?_
  refine wa_d ?_
  refine we_n 0 ?_
  refine ⟨rfl, ?_⟩
  refine wa_nil ?_
  refine ⟨rfl, _, _, _, rfl, h, fun r1 h => ⟨rfl, _, rfl, ?_⟩, fun c hc => ⟨rfl, ⟨_, hE _ hc, rfl, rfl⟩⟩⟩
  refine ⟨rfl, ?_⟩
  refine ws_env (env' := [.d plan, .d (.list r1), .un, .un, .un, .un, .un, .un, .un]) rfl ?_
  refine ws_cons (w1_set 2 sc_right_parts.nd ?_)
  refine we_ix ?_
  refine we_n 0 ?_
  refine we_int ?_
  refine ix_sh h fun r2 h => ?_
  refine ⟨rfl, ?_⟩
  refine ws_env (env' := [.d plan, .d (.list r1), .d r2, .un, .un, .un, .un, .un, .un]) rfl ?_
  refine ws_cons (w1_newT 3 sc_right_parts.nd fun a3 n_a3 => ?_)
  refine ws_env (env' := [.d plan, .d (.list r1), .d r2, .dt a3 [], .un, .un, .un, .un, .un]) rfl ?_
  refine ws_cons (w1_setN 4 sc_right_parts.nd ?_)
  refine wn_list ?_
  refine wa_d ?_
  refine we_tuple ?_
  refine wa_d ?_
  refine we_tuple ?_
  refine wa_d ?_
  refine we_int ?_
  refine ⟨rfl, ?_⟩
  refine wa_d ?_
  refine we_int ?_
  refine ⟨rfl, ?_⟩
  refine wa_nil ?_
  refine ⟨_, rfl, szOk rfl, ?_⟩
  refine ⟨rfl, ?_⟩
  refine wa_d ?_
  refine we_bool ?_
  refine ⟨rfl, ?_⟩
  refine wa_nil ?_
  refine ⟨_, rfl, szOk rfl, ?_⟩
  refine ⟨rfl, ?_⟩
  refine wa_nil ?_
  refine ⟨_, rfl, szOk rfl, ?_⟩
  intro a4 n_a4
  refine ws_env (env' := [.d plan, .d (.list r1), .d r2, .dt a3 [], .ol a4 [(.tuple [(.tuple [(.int 0), (.int 1)]), (.bool true)])], .un, .un, .un, .un]) rfl ?_
  refine ws_cons (whileS h hp (fun (s : (List PyData) × (List (List Key × PyData))) (u : Sl × Sl × Sl × {a : Addr // a ∉ g.M} × Sl × {a : Addr // a ∉ g.M}) => [.d plan, .d (.list r1), .d r2, .dt u.2.2.2.2.2.1 s.2, .ol u.2.2.2.1.1 s.1, u.1, u.2.1, u.2.2.1, u.2.2.2.2.1]) ((.un), (.un), (.un), ⟨a4, n_a4⟩, (.un), ⟨a3, n_a3⟩) rfl ?_ ?_)
  · rintro ⟨left_5, found6⟩ ⟨w7, w8, w9, ⟨a10, n_a10⟩, w11, ⟨a12, n_a12⟩⟩ h
    refine ws_env (env' := [.d plan, .d (.list r1), .d r2, .dt a12 found6, .ol a10 left_5, w7, w8, w9, w11]) rfl ?_
    exact ws_cons (w1_retT 3 rfl n_a12 ⟨_, hK _ h, trivial, rfl, rfl⟩)
  · rintro hend ⟨left_15, found16⟩ ⟨w17, w18, w19, ⟨a20, n_a20⟩, w21, ⟨a22, n_a22⟩⟩ N13 h
    refine wt_cp (op_neA hr) ?_
    refine we_nl 4 ?_
    refine we_list ?_
    refine wa_nil ?_
    refine ⟨_, rfl, szOk rfl, ?_⟩
    refine ne_sh h fun b23 h => ?_
    refine ⟨fun e24 => ?_, fun e24 => hend (left_15, found16) ((w17), (w18), (w19), ⟨a20, n_a20⟩, (w21), ⟨a22, n_a22⟩) (h.2 e24)⟩
    replace h := h.1 e24
    refine ws_env (env' := [.d plan, .d (.list r1), .d r2, .dt a22 found16, .ol a20 left_15, w17, w18, w19, w21]) rfl ?_
    obtain ⟨l25, y26, hq, h⟩ := h
    refine ws_cons (w1_popU 4 (pg_tup rfl (pgs_cons (pg_tup rfl (pgs_cons (pg_name (i := 5) sc_right_parts.nd rfl (by first | exact Or.inl rfl | exact Or.inr rfl)) (pgs_cons (pg_name (i := 6) sc_right_parts.nd rfl (by first | exact Or.inl rfl | exact Or.inr rfl)) pgs_nil))) (pgs_cons (pg_name (i := 7) sc_right_parts.nd rfl (by first | exact Or.inl rfl | exact Or.inr rfl)) pgs_nil))) (tgd_tup (tgds_cons (tgd_tup (tgds_cons (tgd_name 5) (tgds_cons (tgd_name 6) tgds_nil)) rfl) (tgds_cons (tgd_name 7) tgds_nil)) rfl) ⟨l25, y26, hq, ?_⟩)
    obtain ⟨p27, right_28, he29, h⟩ := un2_sh h
    obtain ⟨start30, end_31, he32, h⟩ := un2_sh h
    refine ⟨[(5, start30), (6, end_31), (7, right_28)], (by rw [he29, he32]; rfl), rfl, ?_⟩
    refine ws_env (env' := [.d plan, .d (.list r1), .d r2, .dt a22 found16, .ol a20 l25, .d start30, .d end_31, .d right_28, w21]) rfl ?_
    refine ws_cons (w1_for hp rfl (pg_name (i := 8) sc_right_parts.nd rfl (by first | exact Or.inl rfl | exact Or.inr rfl)) (tgd_name 8) ?_)
    refine wi_d ?_
    refine we_ix ?_
    refine we_n 1 ?_
    refine we_n 5 ?_
    refine ix_sh h fun r34 h => ?_
    refine ⟨rfl, it_sh h fun xs33 h => ?_⟩
    refine forS h (fun (s : (List (List Key × PyData)) × (List PyData)) (u : {a : Addr // a ∉ g.M} × {a : Addr // a ∉ g.M} × Sl) => [.d plan, .d (.list r1), .d r2, .dt u.1.1 s.1, .ol u.2.1.1 s.2, .d start30, .d end_31, .d right_28, u.2.2]) (⟨a22, n_a22⟩, ⟨a20, n_a20⟩, (w21)) rfl ?_ ?_
    · rintro ⟨found35, left_36⟩ ⟨⟨a37, n_a37⟩, ⟨a38, n_a38⟩, w39⟩ h
      refine ws_env (env' := [.d plan, .d (.list r1), .d r2, .dt a37 found35, .ol a38 left_36, .d start30, .d end_31, .d right_28, w39]) rfl ?_
      exact ws_nil ⟨(left_36, found35), ((.d start30), (.d end_31), (.d right_28), ⟨a38, n_a38⟩, (w39), ⟨a37, n_a37⟩), h, rfl⟩
    · rintro hend corner40 ⟨found43, left_44⟩ ⟨⟨a45, n_a45⟩, ⟨a46, n_a46⟩, w47⟩ N41 h
      refine ⟨[(8, corner40)], rfl, rfl, ?_⟩
      refine ws_env (env' := [.d plan, .d (.list r1), .d r2, .dt a45 found43, .ol a46 left_44, .d start30, .d end_31, .d right_28, .d corner40]) rfl ?_
      refine ws_cons (w1_if ?_)
      refine wt_ww ?_
      refine ww_andS h (fun Q h => ?_) (fun Q h => ?_) fun b48 h => ?_
      · refine wt_cp (op_inA hr) ?_
        refine we_n 8 ?_
        refine we_ix ?_
        refine we_n 1 ?_
        refine we_n 6 ?_
        refine ix_sh h fun r49 h => ?_
        refine in_sh h fun b50 h => ?_
        exact h
      · refine ww_and1 ?_
        refine wt_e ?_
        refine we_call h_between hr ?_
        refine wa_d ?_
        refine we_n 2 ?_
        refine ⟨rfl, ?_⟩
        refine wa_d ?_
        refine we_n 6 ?_
        refine ⟨rfl, ?_⟩
        refine wa_d ?_
        refine we_n 8 ?_
        refine ⟨rfl, ?_⟩
        refine wa_d ?_
        refine we_n 5 ?_
        refine ⟨rfl, ?_⟩
        refine wa_nil ?_
        refine ⟨rfl, _, _, _, _, _, _, rfl, h, fun r51 h => ⟨rfl, _, rfl, ?_⟩, fun c hc => ⟨rfl, ⟨_, hE _ hc, rfl, rfl⟩⟩⟩
        refine bool_sh h fun b52 h => ?_
        exact h
      obtain ⟨h53, h54⟩ := h
      refine ⟨fun e55 => ?_, fun e55 => ?_⟩
      · replace h := h53 e55
        refine ws_cons (w1_storeTB 3 hr ?_)
        refine we_n 7 ?_
        refine ⟨rfl, ?_⟩
        refine we_tupof m_tuple ?_
        refine we_of_wn ?_
        refine wn_sortedA m_sorted hr ?_
        refine we_list ?_
        refine wa_d ?_
        refine we_n 5 ?_
        refine ⟨rfl, ?_⟩
        refine wa_d ?_
        refine we_n 6 ?_
        refine ⟨rfl, ?_⟩
        refine wa_d ?_
        refine we_n 8 ?_
        refine ⟨rfl, ?_⟩
        refine wa_nil ?_
        refine ⟨_, rfl, szOk rfl, ?_⟩
        refine sort_m h fun l56 h => ?_
        refine tup_sh h fun r57 h => ?_
        refine ⟨rfl, putT_m h fun kv58 h => ?_⟩
        refine ws_env (env' := [.d plan, .d (.list r1), .d r2, .dt a45 kv58, .ol a46 left_44, .d start30, .d end_31, .d right_28, .d corner40]) rfl ?_
        refine ws_cons (w1_append 4 rfl ?_)
        refine we_tuple ?_
        refine wa_d ?_
        refine we_tuple ?_
        refine wa_d ?_
        refine we_n 8 ?_
        refine ⟨rfl, ?_⟩
        refine wa_d ?_
        refine we_n 6 ?_
        refine ⟨rfl, ?_⟩
        refine wa_nil ?_
        refine ⟨_, rfl, szOk rfl, ?_⟩
        refine ⟨rfl, ?_⟩
        refine wa_d ?_
        refine we_not ?_
        refine we_n 7 ?_
        refine bool_sh h fun b59 h => ?_
        refine ⟨rfl, ?_⟩
        refine wa_nil ?_
        refine ⟨_, rfl, szOk rfl, ?_⟩
        obtain ⟨hl60, h⟩ := h
        refine ⟨rfl, hl60, ?_⟩
        refine ws_env (env' := [.d plan, .d (.list r1), .d r2, .dt a45 kv58, .ol a46 (left_44 ++ ([(.tuple [(.tuple [corner40, end_31]), (.bool (!b59))])] : List PyData)), .d start30, .d end_31, .d right_28, .d corner40]) rfl ?_
        refine ws_cons (w1_append 4 rfl ?_)
        refine we_tuple ?_
        refine wa_d ?_
        refine we_tuple ?_
        refine wa_d ?_
        refine we_n 5 ?_
        refine ⟨rfl, ?_⟩
        refine wa_d ?_
        refine we_n 8 ?_
        refine ⟨rfl, ?_⟩
        refine wa_nil ?_
        refine ⟨_, rfl, szOk rfl, ?_⟩
        refine ⟨rfl, ?_⟩
        refine wa_d ?_
        refine we_not ?_
        refine we_n 7 ?_
        refine bool_sh h fun b61 h => ?_
        refine ⟨rfl, ?_⟩
        refine wa_nil ?_
        refine ⟨_, rfl, szOk rfl, ?_⟩
        obtain ⟨hl62, h⟩ := h
        refine ⟨rfl, hl62, ?_⟩
        refine ws_env (env' := [.d plan, .d (.list r1), .d r2, .dt a45 kv58, .ol a46 ((left_44 ++ ([(.tuple [(.tuple [corner40, end_31]), (.bool (!b59))])] : List PyData)) ++ ([(.tuple [(.tuple [start30, corner40]), (.bool (!b61))])] : List PyData)), .d start30, .d end_31, .d right_28, .d corner40]) rfl ?_
        refine ws_nil ?_
        exact ws_nil ⟨(kv58, ((left_44 ++ ([(.tuple [(.tuple [corner40, end_31]), (.bool (!b59))])] : List PyData)) ++ ([(.tuple [(.tuple [start30, corner40]), (.bool (!b61))])] : List PyData))), (⟨a45, n_a45⟩, ⟨a46, n_a46⟩, (.d corner40)), h, rfl⟩
      · replace h := h54 e55
        refine ws_nil ?_
        exact ws_nil ⟨(found43, left_44), (⟨a45, n_a45⟩, ⟨a46, n_a46⟩, (.d corner40)), h, rfl⟩
theorem ok_is_upright (F : FnP K "is_upright" s_is_upright f fd) (hm : mg "is_upright" = some (.ref f)) (hb : Binds K fd ["plan", "place"] []) (h_neighbours : Has P w K mg base k "neighbours" ["plan"] c_neighbours) (h_right_parts : Has P w K mg base k "right_parts" ["plan"] c_right_parts) (h_third_corner : Has P w K mg base k "third_corner" ["plan", "near", "place", "way"] c_third_corner) (m_tuple : mg "tuple" = none) (m_sorted : mg "sorted" = none) :
    Has P w K mg base (k + 1) "is_upright" ["plan", "place"] c_is_upright := by
  refine fn_has F hm sc_is_upright hb rfl ?_
  rintro cdv A outer s H E g args Φ Ψ hr hp hM hl ⟨plan, place, Kf, Ef, rfl, h, hK, hE⟩
  unfold f_is_upright at h
  refine ws_env (env' := [.d plan, .d place, .un, .un, .un, .un, .un]) rfl ?_
  refine ws_cons (w1_set 2 sc_is_upright.nd ?_)
  refine we_call h_neighbours hr ?_
  refine wa_d ?_
  refine we_n 0 ?_
  refine ⟨rfl, ?_⟩
  refine wa_nil ?_
  refine ⟨rfl, _, _, _, rfl, h, fun r1 h => ⟨rfl, _, rfl, ?_⟩, fun c hc => ⟨rfl, ⟨_, hE _ hc, rfl, rfl, rfl⟩⟩⟩
  refine ⟨rfl, ?_⟩
  refine ws_env (env' := [.d plan, .d place, .d (.list r1), .un, .un, .un, .un]) rfl ?_
  refine ws_cons (w1_setT 3 sc_is_upright.nd ?_)
  refine wd_call h_right_parts hr ?_
  refine wa_d ?_
  refine we_n 0 ?_
  refine ⟨rfl, ?_⟩
  refine wa_nil ?_
  refine ⟨rfl, _, _, _, rfl, h, fun r3 h => ⟨rfl, _, rfl, ?_⟩, fun c hc => ⟨rfl, ⟨_, hE _ hc, rfl, rfl, rfl⟩⟩⟩
  intro a2 n_a2
  refine ws_env (env' := [.d plan, .d place, .d (.list r1), .dt a2 r3, .un, .un, .un]) rfl ?_
  refine ws_cons (w1_unpack (pg_tup rfl (pgs_cons (pg_name (i := 4) sc_is_upright.nd rfl (by first | exact Or.inl rfl | exact Or.inr rfl)) (pgs_cons (pg_name (i := 5) sc_is_upright.nd rfl (by first | exact Or.inl rfl | exact Or.inr rfl)) pgs_nil))) (tgd_tup (tgds_cons (tgd_name 4) (tgds_cons (tgd_name 5) tgds_nil)) rfl) ?_)
  refine we_n 1 ?_
  obtain ⟨top4, under5, he6, h⟩ := un2_sh h
  refine ⟨rfl, [(4, top4), (5, under5)], (by rw [he6]; rfl), rfl, ?_⟩
  refine ws_env (env' := [.d plan, .d place, .d (.list r1), .dt a2 r3, .d top4, .d under5, .un]) rfl ?_
  refine ws_cons (w1_set 6 sc_is_upright.nd ?_)
  refine we_call h_third_corner hr ?_
  refine wa_d ?_
  refine we_n 0 ?_
  refine ⟨rfl, ?_⟩
  refine wa_d ?_
  refine we_n 2 ?_
  refine ⟨rfl, ?_⟩
  refine wa_d ?_
  refine we_n 1 ?_
  refine ⟨rfl, ?_⟩
  refine wa_d ?_
  refine we_str ?_
  refine ⟨rfl, ?_⟩
  refine wa_nil ?_
  refine ⟨rfl, _, _, _, _, _, _, rfl, h, fun r7 h => ⟨rfl, _, rfl, ?_⟩, fun c hc => ⟨rfl, ⟨_, hE _ hc, rfl, rfl, rfl⟩⟩⟩
  refine ⟨rfl, ?_⟩
  refine ws_env (env' := [.d plan, .d place, .d (.list r1), .dt a2 r3, .d top4, .d under5, .d r7]) rfl ?_
  refine ws_cons (w1_if ?_)
  refine wt_cp op_notN ?_
  refine we_n 6 ?_
  refine we_none ?_
  refine notN_sh ?_
  obtain ⟨h8, h9⟩ := h
  refine ⟨fun e10 => ?_, fun e10 => ?_⟩
  · replace h := h8 e10
    refine ws_cons (w1_ret ?_)
    refine we_getT 3 hr rfl ?_
    refine we_tupof m_tuple ?_
    refine we_of_wn ?_
    refine wn_sortedA m_sorted hr ?_
    refine we_list ?_
    refine wa_d ?_
    refine we_n 4 ?_
    refine ⟨rfl, ?_⟩
    refine wa_d ?_
    refine we_n 5 ?_
    refine ⟨rfl, ?_⟩
    refine wa_d ?_
    refine we_n 6 ?_
    refine ⟨rfl, ?_⟩
    refine wa_nil ?_
    refine ⟨_, rfl, szOk rfl, ?_⟩
    refine sort_m h fun l11 h => ?_
    refine tup_sh h fun r12 h => ?_
    refine ⟨rfl, getT_s h fun r13 h => ?_⟩
    exact ⟨rfl, _, hK _ h, trivial, rfl, rfl, rfl⟩
  · replace h := h9 e10
    refine ws_nil ?_
    refine ws_cons (w1_set 6 sc_is_upright.nd ?_)
    refine we_call h_third_corner hr ?_
    refine wa_d ?_
    refine we_n 0 ?_
    refine ⟨rfl, ?_⟩
    refine wa_d ?_
    refine we_n 2 ?_
    refine ⟨rfl, ?_⟩
    refine wa_d ?_
    refine we_n 1 ?_
    refine ⟨rfl, ?_⟩
    refine wa_d ?_
    refine we_str ?_
    refine ⟨rfl, ?_⟩
    refine wa_nil ?_
    refine ⟨rfl, _, _, _, _, _, _, rfl, h, fun r14 h => ⟨rfl, _, rfl, ?_⟩, fun c hc => ⟨rfl, ⟨_, hE _ hc, rfl, rfl, rfl⟩⟩⟩
    refine ⟨rfl, ?_⟩
    refine ws_env (env' := [.d plan, .d place, .d (.list r1), .dt a2 r3, .d top4, .d under5, .d r14]) rfl ?_
    refine ws_cons (w1_ret ?_)
    refine we_not ?_
    refine we_getT 3 hr rfl ?_
    refine we_tupof m_tuple ?_
    refine we_of_wn ?_
    refine wn_sortedA m_sorted hr ?_
    refine we_list ?_
    refine wa_d ?_
    refine we_n 4 ?_
    refine ⟨rfl, ?_⟩
    refine wa_d ?_
    refine we_n 5 ?_
    refine ⟨rfl, ?_⟩
    refine wa_d ?_
    refine we_n 6 ?_
    refine ⟨rfl, ?_⟩
    refine wa_nil ?_
    refine ⟨_, rfl, szOk rfl, ?_⟩
    refine sort_m h fun l15 h => ?_
    refine tup_sh h fun r16 h => ?_
    refine ⟨rfl, getT_s h fun r17 h => ?_⟩
    refine bool_sh h fun b18 h => ?_
    exact ⟨rfl, _, hK _ h, trivial, rfl, rfl, rfl⟩
theorem ok_upright (F : FnP K "upright" s_upright f fd) (hm : mg "upright" = some (.ref f)) (hb : Binds K fd ["plan", "place"] []) (h_need_place : Has P w K mg base k "need_place" ["plan", "place"] c_need_place) (h_is_upright : Has P w K mg base k "is_upright" ["plan", "place"] c_is_upright) :
    Has P w K mg base (k + 1) "upright" ["plan", "place"] c_upright := by
  refine fn_has F hm sc_upright hb rfl ?_
  rintro cdv A outer s H E g args Φ Ψ hr hp hM hl ⟨plan, place, Kf, Ef, rfl, h, hK, hE⟩
  unfold f_upright at h
  refine ws_env (env' := [.d plan, .d place]) rfl ?_
  refine ws_cons (w1_expr ?_)
  refine we_call h_need_place hr ?_
  refine wa_d ?_
  refine we_n 0 ?_
  refine ⟨rfl, ?_⟩
  refine wa_d ?_
  refine we_n 1 ?_
  refine ⟨rfl, ?_⟩
  refine wa_nil ?_
  refine ⟨rfl, _, _, _, _, rfl, h, fun r1 h => ⟨rfl, _, rfl, ?_⟩, fun c hc => ⟨rfl, ⟨_, hE _ hc, rfl, rfl, rfl⟩⟩⟩
  refine ws_cons (w1_ret ?_)
  refine we_call h_is_upright hr ?_
  refine wa_d ?_
  refine we_n 0 ?_
  refine ⟨rfl, ?_⟩
  refine wa_d ?_
  refine we_n 1 ?_
  refine ⟨rfl, ?_⟩
  refine wa_nil ?_
  refine ⟨rfl, _, _, _, _, rfl, h, fun r2 h => ⟨rfl, _, rfl, ?_⟩, fun c hc => ⟨rfl, ⟨_, hE _ hc, rfl, rfl, rfl⟩⟩⟩
  exact ⟨rfl, _, hK _ h, trivial, rfl, rfl, rfl⟩
theorem ok_part_corner (F : FnP K "part_corner" s_part_corner f fd) (hm : mg "part_corner" = some (.ref f)) (hb : Binds K fd ["faces", "near", "start", "end"] []) (h_between : Has P w K mg base k "between" ["faces", "start", "corner", "end"] c_between) :
    Has P w K mg base (k + 1) "part_corner" ["faces", "near", "start", "end"] c_part_corner := by
  refine fn_has F hm sc_part_corner hb rfl ?_
  rintro cdv A outer s H E g args Φ Ψ hr hp hM hl ⟨faces, near, start, end_, Kf, Ef, rfl, h, hK, hE⟩
  unfold f_part_corner at h
  refine ws_env (env' := [.d faces, .d near, .d start, .d end_, .un]) rfl ?_
  refine ws_cons (w1_for hp rfl (pg_name (i := 4) sc_part_corner.nd rfl (by first | exact Or.inl rfl | exact Or.inr rfl)) (tgd_name 4) ?_)
  refine wi_d ?_
  refine we_ix ?_
  refine we_n 1 ?_
  refine we_mod ?_
  refine we_n 2 ?_
  refine we_n 0 ?_
  refine mod_sh h fun r2 h => ?_
  refine ix_sh h fun r3 h => ?_
  refine ⟨rfl, it_sh h fun xs1 h => ?_⟩
  refine forS h (fun (s : Unit) (u : Sl) => [.d faces, .d near, .d start, .d end_, u]) (.un) rfl ?_ ?_
  · rintro _ w4 h
    refine ws_env (env' := [.d faces, .d near, .d start, .d end_, w4]) rfl ?_
    refine ws_cons (w1_ret ?_)
    refine we_none ?_
    exact ⟨rfl, _, hK _ h, trivial, rfl, rfl, rfl, rfl, rfl⟩
  · rintro hend corner5 _ w8 N6 h
    refine ⟨[(4, corner5)], rfl, rfl, ?_⟩
    refine ws_env (env' := [.d faces, .d near, .d start, .d end_, .d corner5]) rfl ?_
    refine ws_cons (w1_if ?_)
    refine wt_ww ?_
    refine ww_andS h (fun Q h => ?_) (fun Q h => ?_) fun b9 h => ?_
    · refine wt_cp (op_inA hr) ?_
      refine we_n 4 ?_
      refine we_ix ?_
      refine we_n 1 ?_
      refine we_mod ?_
      refine we_n 3 ?_
      refine we_n 0 ?_
      refine mod_sh h fun r10 h => ?_
      refine ix_sh h fun r11 h => ?_
      refine in_sh h fun b12 h => ?_
      exact h
    · refine ww_and1 ?_
      refine wt_e ?_
      refine we_call h_between hr ?_
      refine wa_d ?_
      refine we_n 0 ?_
      refine ⟨rfl, ?_⟩
      refine wa_d ?_
      refine we_mod ?_
      refine we_n 2 ?_
      refine we_n 0 ?_
      refine mod_sh h fun r13 h => ?_
      refine ⟨rfl, ?_⟩
      refine wa_d ?_
      refine we_n 4 ?_
      refine ⟨rfl, ?_⟩
      refine wa_d ?_
      refine we_mod ?_
      refine we_n 3 ?_
      refine we_n 0 ?_
      refine mod_sh h fun r14 h => ?_
      refine ⟨rfl, ?_⟩
      refine wa_nil ?_
      refine ⟨rfl, _, _, _, _, _, _, rfl, h, fun r15 h => ⟨rfl, _, rfl, ?_⟩, fun c hc => ⟨rfl, ⟨_, hE _ hc, rfl, rfl, rfl, rfl, rfl⟩⟩⟩
      refine bool_sh h fun b16 h => ?_
      exact h
    obtain ⟨h17, h18⟩ := h
    refine ⟨fun e19 => ?_, fun e19 => ?_⟩
    · replace h := h17 e19
      refine ws_cons (w1_ret ?_)
      refine we_add ?_
      refine we_n 2 ?_
      refine we_mod ?_
      refine we_sub ?_
      refine we_n 4 ?_
      refine we_n 2 ?_
      refine sub_sh h fun r20 h => ?_
      refine we_n 0 ?_
      refine mod_sh h fun r21 h => ?_
      refine add_sh h fun r22 h => ?_
      exact ⟨rfl, _, hK _ h, trivial, rfl, rfl, rfl, rfl, rfl⟩
    · replace h := h18 e19
      refine ws_nil ?_
      exact ws_nil ⟨(), (.d corner5), h, rfl⟩
theorem ok_put_down (F : FnP K "put_down" s_put_down f fd) (hm : mg "put_down" = some (.ref f)) (hb : Binds K fd ["faces", "near", "arc", "crossed"] []) (h_part_corner : Has P w K mg base k "part_corner" ["faces", "near", "start", "end"] c_part_corner) :
    ∀ n : Nat, Has P w K mg base (k + n + 1) "put_down" ["faces", "near", "arc", "crossed"] (c_put_down n)
  | 0 => by
    refine fn_has F hm sc_put_down hb rfl ?_
    rintro cdv A outer s H E g args Φ Ψ hr hp hM hl ⟨faces, near, arc, crossed, Kf, Ef, rfl, h, hK, hE⟩
    exact (show False from h).elim
  | n + 1 => by
    have h_put_down := ok_put_down F hm hb h_part_corner n
    refine fn_has F hm sc_put_down hb rfl ?_
    rintro cdv A outer s H E g args Φ Ψ hr hp hM hl ⟨faces, near, arc, crossed, Kf, Ef, rfl, h, hK, hE⟩
    have h : f_put_down_s (f_put_down n) faces near arc crossed Kf Ef := h
    unfold f_put_down_s at h
    refine ws_env (env' := [.d faces, .d near, .d arc, .d crossed, .un, .un, .un, .un, .un]) rfl ?_
    refine ws_cons (w1_unpack (pg_tup rfl (pgs_cons (pg_name (i := 4) sc_put_down.nd rfl (by first | exact Or.inl rfl | exact Or.inr rfl)) (pgs_cons (pg_name (i := 5) sc_put_down.nd rfl (by first | exact Or.inl rfl | exact Or.inr rfl)) pgs_nil))) (tgd_tup (tgds_cons (tgd_name 4) (tgds_cons (tgd_name 5) tgds_nil)) rfl) ?_)
    refine we_n 2 ?_
    obtain ⟨start1, end_2, he3, h⟩ := un2_sh h
    refine ⟨rfl, [(4, start1), (5, end_2)], (by rw [he3]; rfl), rfl, ?_⟩
    refine ws_env (env' := [.d faces, .d near, .d arc, .d crossed, .d start1, .d end_2, .un, .un, .un]) rfl ?_
    refine ws_cons (w1_if ?_)
    refine wt_cp (op_eqA hr) ?_
    refine we_sub ?_
    refine we_n 5 ?_
    refine we_n 4 ?_
    refine sub_sh h fun r4 h => ?_
    refine we_int ?_
    refine eq_sh h fun b5 h => ?_
    obtain ⟨h6, h7⟩ := h
    refine ⟨fun e8 => ?_, fun e8 => ?_⟩
    · replace h := h6 e8
      refine ws_cons (w1_ret ?_)
      refine we_list ?_
      refine wa_d ?_
      refine we_n 4 ?_
      refine ⟨rfl, ?_⟩
      refine wa_nil ?_
      refine ⟨_, rfl, szOk rfl, ?_⟩
      exact ⟨rfl, _, hK _ h, trivial, rfl, rfl, rfl, rfl, rfl⟩
    · replace h := h7 e8
      refine ws_nil ?_
      refine ws_cons (w1_set 6 sc_put_down.nd ?_)
      refine we_call h_part_corner hr ?_
      refine wa_d ?_
      refine we_n 0 ?_
      refine ⟨rfl, ?_⟩
      refine wa_d ?_
      refine we_n 1 ?_
      refine ⟨rfl, ?_⟩
      refine wa_d ?_
      refine we_n 4 ?_
      refine ⟨rfl, ?_⟩
      refine wa_d ?_
      refine we_n 5 ?_
      refine ⟨rfl, ?_⟩
      refine wa_nil ?_
      refine ⟨rfl, _, _, _, _, _, _, rfl, h, fun r9 h => ⟨rfl, _, rfl, ?_⟩, fun c hc => ⟨rfl, ⟨_, hE _ hc, rfl, rfl, rfl, rfl, rfl⟩⟩⟩
      refine ⟨rfl, ?_⟩
      refine ws_env (env' := [.d faces, .d near, .d arc, .d crossed, .d start1, .d end_2, .d r9, .un, .un]) rfl ?_
      refine ws_cons (w1_set 7 sc_put_down.nd ?_)
      refine we_call h_put_down hr ?_
      refine wa_d ?_
      refine we_n 0 ?_
      refine ⟨rfl, ?_⟩
      refine wa_d ?_
      refine we_n 1 ?_
      refine ⟨rfl, ?_⟩
      refine wa_d ?_
      refine we_tuple ?_
      refine wa_d ?_
      refine we_n 4 ?_
      refine ⟨rfl, ?_⟩
      refine wa_d ?_
      refine we_n 6 ?_
      refine ⟨rfl, ?_⟩
      refine wa_nil ?_
      refine ⟨_, rfl, szOk rfl, ?_⟩
      refine ⟨rfl, ?_⟩
      refine wa_d ?_
      refine we_not ?_
      refine we_n 3 ?_
      refine bool_sh h fun b10 h => ?_
      refine ⟨rfl, ?_⟩
      refine wa_nil ?_
      refine ⟨rfl, _, _, _, _, _, _, rfl, h, fun r11 h => ⟨rfl, _, rfl, ?_⟩, fun c hc => ⟨rfl, ⟨_, hE _ hc, rfl, rfl, rfl, rfl, rfl⟩⟩⟩
      refine ⟨rfl, ?_⟩
      refine ws_env (env' := [.d faces, .d near, .d arc, .d crossed, .d start1, .d end_2, .d r9, .d r11, .un]) rfl ?_
      refine ws_cons (w1_set 8 sc_put_down.nd ?_)
      refine we_call h_put_down hr ?_
      refine wa_d ?_
      refine we_n 0 ?_
      refine ⟨rfl, ?_⟩
      refine wa_d ?_
      refine we_n 1 ?_
      refine ⟨rfl, ?_⟩
      refine wa_d ?_
      refine we_tuple ?_
      refine wa_d ?_
      refine we_n 6 ?_
      refine ⟨rfl, ?_⟩
      refine wa_d ?_
      refine we_n 5 ?_
      refine ⟨rfl, ?_⟩
      refine wa_nil ?_
      refine ⟨_, rfl, szOk rfl, ?_⟩
      refine ⟨rfl, ?_⟩
      refine wa_d ?_
      refine we_not ?_
      refine we_n 3 ?_
      refine bool_sh h fun b12 h => ?_
      refine ⟨rfl, ?_⟩
      refine wa_nil ?_
      refine ⟨rfl, _, _, _, _, _, _, rfl, h, fun r13 h => ⟨rfl, _, rfl, ?_⟩, fun c hc => ⟨rfl, ⟨_, hE _ hc, rfl, rfl, rfl, rfl, rfl⟩⟩⟩
      refine ⟨rfl, ?_⟩
      refine ws_env (env' := [.d faces, .d near, .d arc, .d crossed, .d start1, .d end_2, .d r9, .d r11, .d r13]) rfl ?_
      refine ws_cons (w1_if ?_)
      refine wt_e ?_
      refine we_n 3 ?_
      refine bool_sh h fun b14 h => ?_
      obtain ⟨h15, h16⟩ := h
      refine ⟨fun e17 => ?_, fun e17 => ?_⟩
      · replace h := h15 e17
        refine ws_cons (w1_ret ?_)
        refine we_add ?_
        refine we_n 8 ?_
        refine we_n 7 ?_
        refine add_sh h fun r18 h => ?_
        exact ⟨rfl, _, hK _ h, trivial, rfl, rfl, rfl, rfl, rfl⟩
      · replace h := h16 e17
        refine ws_nil ?_
        refine ws_cons (w1_ret ?_)
        refine we_add ?_
        refine we_n 7 ?_
        refine we_n 8 ?_
        refine add_sh h fun r19 h => ?_
        exact ⟨rfl, _, hK _ h, trivial, rfl, rfl, rfl, rfl, rfl⟩
theorem ok_order_of (F : FnP K "order_of" s_order_of f fd) (hm : mg "order_of" = some (.ref f)) (hb : Binds K fd ["plan"] []) (h_put_down : Has P w K mg base k "put_down" ["faces", "near", "arc", "crossed"] (c_put_down 64)) (h_neighbours : Has P w K mg base k "neighbours" ["plan"] c_neighbours) :
    Has P w K mg base (k + 1) "order_of" ["plan"] c_order_of := by
  refine fn_has F hm sc_order_of hb rfl ?_
  rintro cdv A outer s H E g args Φ Ψ hr hp hM hl ⟨plan, Kf, Ef, rfl, h, hK, hE⟩
  unfold f_order_of at h
  refine ws_env (env' := [.d plan, .un]) rfl ?_
  refine ws_cons (w1_set 1 sc_order_of.nd ?_)
  refine we_ix ?_
  refine we_n 0 ?_
  refine we_int ?_
  refine ix_sh h fun r1 h => ?_
  refine ⟨rfl, ?_⟩
  refine ws_env (env' := [.d plan, .d r1]) rfl ?_
  refine ws_cons (w1_retN ?_)
  refine wn_addB ?_
  refine we_list ?_
  refine wa_d ?_
  refine we_int ?_
  refine ⟨rfl, ?_⟩
  refine wa_nil ?_
  refine ⟨_, rfl, szOk rfl, ?_⟩
  refine we_call h_put_down hr ?_
  refine wa_d ?_
  refine we_n 1 ?_
  refine ⟨rfl, ?_⟩
  refine wa_d ?_
  refine we_call h_neighbours hr ?_
  refine wa_d ?_
  refine we_n 0 ?_
  refine ⟨rfl, ?_⟩
  refine wa_nil ?_
  refine ⟨rfl, _, _, _, rfl, h, fun r2 h => ⟨rfl, _, rfl, ?_⟩, fun c hc => ⟨rfl, ⟨_, hE _ hc, rfl, rfl⟩⟩⟩
  refine ⟨rfl, ?_⟩
  refine wa_d ?_
  refine we_tuple ?_
  refine wa_d ?_
  refine we_int ?_
  refine ⟨rfl, ?_⟩
  refine wa_d ?_
  refine we_n 1 ?_
  refine ⟨rfl, ?_⟩
  refine wa_nil ?_
  refine ⟨_, rfl, szOk rfl, ?_⟩
  refine ⟨rfl, ?_⟩
  refine wa_d ?_
  refine we_bool ?_
  refine ⟨rfl, ?_⟩
  refine wa_nil ?_
  refine ⟨rfl, _, _, _, _, _, _, rfl, h, fun r3 h => ⟨rfl, _, rfl, ?_⟩, fun c hc => ⟨rfl, ⟨_, hE _ hc, rfl, rfl⟩⟩⟩
  refine addL_m h fun l4 h => ?_
  exact ⟨_, hK _ h, trivial, rfl, rfl⟩
theorem ok_strip_order (F : FnP K "strip_order" s_strip_order f fd) (hm : mg "strip_order" = some (.ref f)) (hb : Binds K fd ["plan"] []) (h_need_plan : Has P w K mg base k "need_plan" ["plan"] c_need_plan) (h_order_of : Has P w K mg base k "order_of" ["plan"] c_order_of) :
    Has P w K mg base (k + 1) "strip_order" ["plan"] c_strip_order := by
  refine fn_has F hm sc_strip_order hb rfl ?_
  rintro cdv A outer s H E g args Φ Ψ hr hp hM hl ⟨plan, Kf, Ef, rfl, h, hK, hE⟩
  unfold f_strip_order at h
  refine ws_env (env' := [.d plan]) rfl ?_
  refine ws_cons (w1_expr ?_)
  refine we_call h_need_plan hr ?_
  refine wa_d ?_
  refine we_n 0 ?_
  refine ⟨rfl, ?_⟩
  refine wa_nil ?_
  refine ⟨rfl, _, _, _, rfl, h, fun r1 h => ⟨rfl, _, rfl, ?_⟩, fun c hc => ⟨rfl, ⟨_, hE _ hc, rfl, rfl⟩⟩⟩
  refine ws_cons (w1_retN ?_)
  refine wn_call h_order_of hr ?_
  refine wa_d ?_
  refine we_n 0 ?_
  refine ⟨rfl, ?_⟩
  refine wa_nil ?_
  refine ⟨rfl, _, _, _, rfl, h, fun r2 h => ⟨rfl, _, rfl, ?_⟩, fun c hc => ⟨rfl, ⟨_, hE _ hc, rfl, rfl⟩⟩⟩
  exact ⟨_, hK _ h, trivial, rfl, rfl⟩
theorem ok_row_of (F : FnP K "row_of" s_row_of f fd) (hm : mg "row_of" = some (.ref f)) (hb : Binds K fd ["plan"] []) (h_need_plan : Has P w K mg base k "need_plan" ["plan"] c_need_plan) (h_neighbours : Has P w K mg base k "neighbours" ["plan"] c_neighbours) (h_right_parts : Has P w K mg base k "right_parts" ["plan"] c_right_parts) (h_order_of : Has P w K mg base k "order_of" ["plan"] c_order_of) (m_tuple : mg "tuple" = none) (m_sorted : mg "sorted" = none) :
    Has P w K mg base (k + 1) "row_of" ["plan"] c_row_of := by
  refine fn_has F hm sc_row_of hb rfl ?_
  rintro cdv A outer s H E g args Φ Ψ hr hp hM hl ⟨plan, Kf, Ef, rfl, h, hK, hE⟩
  unfold f_row_of at h
  refine ws_env (env' := [.d plan, .un, .un, .un, .un, .un, .un, .un, .un]) rfl ?_
  refine ws_cons (w1_expr ?_)
  refine we_call h_need_plan hr ?_
  refine wa_d ?_
  refine we_n 0 ?_
  refine ⟨rfl, ?_⟩
  refine wa_nil ?_
  refine ⟨rfl, _, _, _, rfl, h, fun r1 h => ⟨rfl, _, rfl, ?_⟩, fun c hc => ⟨rfl, ⟨_, hE _ hc, rfl, rfl⟩⟩⟩
  refine ws_cons (w1_set 1 sc_row_of.nd ?_)
  refine we_ix ?_
  refine we_n 0 ?_
  refine we_int ?_
  refine ix_sh h fun r2 h => ?_
  refine ⟨rfl, ?_⟩
  refine ws_env (env' := [.d plan, .d r2, .un, .un, .un, .un, .un, .un, .un]) rfl ?_
  refine ws_cons (w1_set 2 sc_row_of.nd ?_)
  refine we_call h_neighbours hr ?_
  refine wa_d ?_
  refine we_n 0 ?_
  refine ⟨rfl, ?_⟩
  refine wa_nil ?_
  refine ⟨rfl, _, _, _, rfl, h, fun r3 h => ⟨rfl, _, rfl, ?_⟩, fun c hc => ⟨rfl, ⟨_, hE _ hc, rfl, rfl⟩⟩⟩
  refine ⟨rfl, ?_⟩
  refine ws_env (env' := [.d plan, .d r2, .d (.list r3), .un, .un, .un, .un, .un, .un]) rfl ?_
  refine ws_cons (w1_set 3 sc_row_of.nd ?_)
  refine we_str ?_
  refine ⟨rfl, ?_⟩
  refine ws_env (env' := [.d plan, .d r2, .d (.list r3), .d (.str ""), .un, .un, .un, .un, .un]) rfl ?_
  refine ws_cons (w1_setT 4 sc_row_of.nd ?_)
  refine wd_call h_right_parts hr ?_
  refine wa_d ?_
  refine we_n 0 ?_
  refine ⟨rfl, ?_⟩
  refine wa_nil ?_
  refine ⟨rfl, _, _, _, rfl, h, fun r5 h => ⟨rfl, _, rfl, ?_⟩, fun c hc => ⟨rfl, ⟨_, hE _ hc, rfl, rfl⟩⟩⟩
  intro a4 n_a4
  refine ws_env (env' := [.d plan, .d r2, .d (.list r3), .d (.str ""), .dt a4 r5, .un, .un, .un, .un]) rfl ?_
  refine ws_cons (w1_for hp rfl (pg_name (i := 5) sc_row_of.nd rfl (by first | exact Or.inl rfl | exact Or.inr rfl)) (tgd_name 5) ?_)
  refine wi_d ?_
  refine we_call h_order_of hr ?_
  refine wa_d ?_
  refine we_n 0 ?_
  refine ⟨rfl, ?_⟩
  refine wa_nil ?_
  refine ⟨rfl, _, _, _, rfl, h, fun r7 h => ⟨rfl, _, rfl, ?_⟩, fun c hc => ⟨rfl, ⟨_, hE _ hc, rfl, rfl⟩⟩⟩
  refine ⟨rfl, it_sh h fun xs6 h => ?_⟩
  refine forS h (fun (s : PyData) (u : Sl × Sl × Sl) => [.d plan, .d r2, .d (.list r3), .d s, .dt a4 r5, u.2.2, u.1, u.2.1, .un]) ((.un), (.un), (.un)) rfl ?_ ?_
  · rintro found8 ⟨w9, w10, w11⟩ h
    refine ws_env (env' := [.d plan, .d r2, .d (.list r3), .d found8, .dt a4 r5, w11, w9, w10, .un]) rfl ?_
    refine ws_cons (w1_ret ?_)
    refine we_n 3 ?_
    exact ⟨rfl, _, hK _ h, trivial, rfl, rfl⟩
  · rintro hend leaf12 found15 ⟨w16, w17, w18⟩ N13 h
    refine ⟨[(5, leaf12)], rfl, rfl, ?_⟩
    refine ws_env (env' := [.d plan, .d r2, .d (.list r3), .d found15, .dt a4 r5, .d leaf12, w16, w17, .un]) rfl ?_
    refine ws_cons (w1_set 6 sc_row_of.nd ?_)
    refine we_mod ?_
    refine we_add ?_
    refine we_n 5 ?_
    refine we_int ?_
    refine add_sh h fun r19 h => ?_
    refine we_n 1 ?_
    refine mod_sh h fun r20 h => ?_
    refine ⟨rfl, ?_⟩
    refine ws_env (env' := [.d plan, .d r2, .d (.list r3), .d found15, .dt a4 r5, .d leaf12, .d r20, w17, .un]) rfl ?_
    refine ws_cons (w1_set 7 sc_row_of.nd ?_)
    refine we_ix ?_
    refine we_of_wn ?_
    refine wn_lc (own := [("other", 8)]) rfl sc_row_of.nd (blkOk_by (by rfl)) (fun _ _ _ _ _ => (pg_name (i := 8) sc_row_of.nd rfl (by first | exact Or.inl rfl | exact Or.inr rfl))) (tgd_name 8) (by decide) rfl ?_
    refine wi_d ?_
    refine we_ix ?_
    refine we_n 2 ?_
    refine we_n 5 ?_
    refine ix_sh h fun r22 h => ?_
    refine ⟨rfl, it_sh h fun xs21 h => ?_⟩
    refine lcS h (fun other23 kp sk h => ?_) fun l24 h => ?_
    · refine ⟨[(8, other23)], rfl, rfl, fun g' s1 H1 C1 cl1 fp1 => ?_⟩
      show WT _ _ _ _ _ _
      refine wt_cp (op_inA hr) ?_
      refine we_n 8 ?_
      refine we_ix ?_
      refine we_n 2 ?_
      refine we_n 6 ?_
      refine ix_sh h fun r25 h => ?_
      refine in_sh h fun b26 h => ?_
      refine ⟨fun e s1 H1 C1 cl1 fp1 => ?_, h.2⟩
      replace h := h.1 e
      refine we_n 8 ?_
      exact ⟨rfl, h⟩
    refine we_int ?_
    refine ix_sh h fun r27 h => ?_
    refine ⟨rfl, ?_⟩
    refine ws_env (env' := [.d plan, .d r2, .d (.list r3), .d found15, .dt a4 r5, .d leaf12, .d r20, .d r27, .un]) rfl ?_
    refine ws_joinS h (fun (s : PyData) (u : Unit) => [.d plan, .d r2, .d (.list r3), .d s, .dt a4 r5, .d leaf12, .d r20, .d r27, .un]) (fun Q h => ?_) ?_
    · refine w1_if ?_
      refine wt_e ?_
      refine we_getT 4 hr rfl ?_
      refine we_tupof m_tuple ?_
      refine we_of_wn ?_
      refine wn_sortedA m_sorted hr ?_
      refine we_list ?_
      refine wa_d ?_
      refine we_n 5 ?_
      refine ⟨rfl, ?_⟩
      refine wa_d ?_
      refine we_n 6 ?_
      refine ⟨rfl, ?_⟩
      refine wa_d ?_
      refine we_n 7 ?_
      refine ⟨rfl, ?_⟩
      refine wa_nil ?_
      refine ⟨_, rfl, szOk rfl, ?_⟩
      refine sort_m h fun l28 h => ?_
      refine tup_sh h fun r29 h => ?_
      refine ⟨rfl, getT_s h fun r30 h => ?_⟩
      refine bool_sh h fun b31 h => ?_
      obtain ⟨h32, h33⟩ := h
      refine ⟨fun e34 => ?_, fun e34 => ?_⟩
      · replace h := h32 e34
        refine ws_cons (w1_set 3 sc_row_of.nd ?_)
        refine we_add ?_
        refine we_n 3 ?_
        refine we_str ?_
        refine add_sh h fun r35 h => ?_
        refine ⟨rfl, ?_⟩
        refine ws_env (env' := [.d plan, .d r2, .d (.list r3), .d r35, .dt a4 r5, .d leaf12, .d r20, .d r27, .un]) rfl ?_
        exact ws_nil ⟨r35, (), h, rfl⟩
      · replace h := h33 e34
        refine ws_cons (w1_set 3 sc_row_of.nd ?_)
        refine we_add ?_
        refine we_n 3 ?_
        refine we_str ?_
        refine add_sh h fun r36 h => ?_
        refine ⟨rfl, ?_⟩
        refine ws_env (env' := [.d plan, .d r2, .d (.list r3), .d r36, .dt a4 r5, .d leaf12, .d r20, .d r27, .un]) rfl ?_
        exact ws_nil ⟨r36, (), h, rfl⟩
    · rintro found37 _ h
      refine ws_env (env' := [.d plan, .d r2, .d (.list r3), .d found37, .dt a4 r5, .d leaf12, .d r20, .d r27, .un]) rfl ?_
      exact ws_nil ⟨found37, ((.d r20), (.d r27), (.d leaf12)), h, rfl⟩
theorem ok_steps_from (F : FnP K "steps_from" s_steps_from f fd) (hm : mg "steps_from" = some (.ref f)) (hb : Binds K fd ["plan", "near", "place"] []) (g_WAYS : GTup K mg "WAYS" [.str "even", .str "odd"]) (h_third_corner : Has P w K mg base k "third_corner" ["plan", "near", "place", "way"] c_third_corner) :
    Has P w K mg base (k + 1) "steps_from" ["plan", "near", "place"] c_steps_from := by
  refine fn_has F hm sc_steps_from hb rfl ?_
  rintro cdv A outer s H E g args Φ Ψ hr hp hM hl ⟨plan, near, place, Kf, Ef, rfl, h, hK, hE⟩
  unfold f_steps_from at h
  refine ws_env (env' := [.d plan, .d near, .d place, .un, .un, .un, .un, .un]) rfl ?_
  refine ws_cons (w1_unpack (pg_tup rfl (pgs_cons (pg_name (i := 3) sc_steps_from.nd rfl (by first | exact Or.inl rfl | exact Or.inr rfl)) (pgs_cons (pg_name (i := 4) sc_steps_from.nd rfl (by first | exact Or.inl rfl | exact Or.inr rfl)) pgs_nil))) (tgd_tup (tgds_cons (tgd_name 3) (tgds_cons (tgd_name 4) tgds_nil)) rfl) ?_)
  refine we_n 2 ?_
  obtain ⟨top1, under2, he3, h⟩ := un2_sh h
  refine ⟨rfl, [(3, top1), (4, under2)], (by rw [he3]; rfl), rfl, ?_⟩
  refine ws_env (env' := [.d plan, .d near, .d place, .d top1, .d under2, .un, .un, .un]) rfl ?_
  refine ws_cons (w1_setN 5 sc_steps_from.nd ?_)
  refine wn_list ?_
  refine wa_nil ?_
  refine ⟨_, rfl, szOk rfl, ?_⟩
  intro a4 n_a4
  refine ws_env (env' := [.d plan, .d near, .d place, .d top1, .d under2, .ol a4 [], .un, .un]) rfl ?_
  refine ws_cons (w1_for hp rfl (pg_name (i := 6) sc_steps_from.nd rfl (by first | exact Or.inl rfl | exact Or.inr rfl)) (tgd_name 6) ?_)
  refine wi_g g_WAYS ?_
  refine forS h (fun (s : (List PyData)) (u : Sl × {a : Addr // a ∉ g.M} × Sl) => [.d plan, .d near, .d place, .d top1, .d under2, .ol u.2.1.1 s, u.2.2, u.1]) ((.un), ⟨a4, n_a4⟩, (.un)) rfl ?_ ?_
  · rintro found5 ⟨w6, ⟨a7, n_a7⟩, w8⟩ h
    refine ws_env (env' := [.d plan, .d near, .d place, .d top1, .d under2, .ol a7 found5, w8, w6]) rfl ?_
    exact ws_cons (w1_retO 5 rfl n_a7 ⟨_, hK _ h, trivial, rfl, rfl, rfl, rfl⟩)
  · rintro hend way9 found12 ⟨w13, ⟨a14, n_a14⟩, w15⟩ N10 h
    refine ⟨[(6, way9)], rfl, rfl, ?_⟩
    refine ws_env (env' := [.d plan, .d near, .d place, .d top1, .d under2, .ol a14 found12, .d way9, w13]) rfl ?_
    refine ws_cons (w1_set 7 sc_steps_from.nd ?_)
    refine we_call h_third_corner hr ?_
    refine wa_d ?_
    refine we_n 0 ?_
    refine ⟨rfl, ?_⟩
    refine wa_d ?_
    refine we_n 1 ?_
    refine ⟨rfl, ?_⟩
    refine wa_d ?_
    refine we_n 2 ?_
    refine ⟨rfl, ?_⟩
    refine wa_d ?_
    refine we_n 6 ?_
    refine ⟨rfl, ?_⟩
    refine wa_nil ?_
    refine ⟨rfl, _, _, _, _, _, _, rfl, h, fun r16 h => ⟨rfl, _, rfl, ?_⟩, fun c hc => ⟨rfl, ⟨_, hE _ hc, rfl, rfl, rfl, rfl⟩⟩⟩
    refine ⟨rfl, ?_⟩
    refine ws_env (env' := [.d plan, .d near, .d place, .d top1, .d under2, .ol a14 found12, .d way9, .d r16]) rfl ?_
    refine ws_cons (w1_if ?_)
    refine wt_cp op_notN ?_
    refine we_n 7 ?_
    refine we_none ?_
    refine notN_sh ?_
    obtain ⟨h17, h18⟩ := h
    refine ⟨fun e19 => ?_, fun e19 => ?_⟩
    · replace h := h17 e19
      refine ws_cons (w1_append 5 rfl ?_)
      refine we_tuple ?_
      refine wa_d ?_
      refine we_tuple ?_
      refine wa_d ?_
      refine we_str ?_
      refine ⟨rfl, ?_⟩
      refine wa_d ?_
      refine we_n 6 ?_
      refine ⟨rfl, ?_⟩
      refine wa_nil ?_
      refine ⟨_, rfl, szOk rfl, ?_⟩
      refine ⟨rfl, ?_⟩
      refine wa_d ?_
      refine we_tuple ?_
      refine wa_d ?_
      refine we_n 7 ?_
      refine ⟨rfl, ?_⟩
      refine wa_d ?_
      refine we_n 3 ?_
      refine ⟨rfl, ?_⟩
      refine wa_nil ?_
      refine ⟨_, rfl, szOk rfl, ?_⟩
      refine ⟨rfl, ?_⟩
      refine wa_nil ?_
      refine ⟨_, rfl, szOk rfl, ?_⟩
      obtain ⟨hl20, h⟩ := h
      refine ⟨rfl, hl20, ?_⟩
      refine ws_env (env' := [.d plan, .d near, .d place, .d top1, .d under2, .ol a14 (found12 ++ ([(.tuple [(.tuple [(.str "pinch"), way9]), (.tuple [r16, top1])])] : List PyData)), .d way9, .d r16]) rfl ?_
      refine ws_cons (w1_append 5 rfl ?_)
      refine we_tuple ?_
      refine wa_d ?_
      refine we_tuple ?_
      refine wa_d ?_
      refine we_str ?_
      refine ⟨rfl, ?_⟩
      refine wa_d ?_
      refine we_n 6 ?_
      refine ⟨rfl, ?_⟩
      refine wa_nil ?_
      refine ⟨_, rfl, szOk rfl, ?_⟩
      refine ⟨rfl, ?_⟩
      refine wa_d ?_
      refine we_tuple ?_
      refine wa_d ?_
      refine we_n 4 ?_
      refine ⟨rfl, ?_⟩
      refine wa_d ?_
      refine we_n 7 ?_
      refine ⟨rfl, ?_⟩
      refine wa_nil ?_
      refine ⟨_, rfl, szOk rfl, ?_⟩
      refine ⟨rfl, ?_⟩
      refine wa_nil ?_
      refine ⟨_, rfl, szOk rfl, ?_⟩
      obtain ⟨hl21, h⟩ := h
      refine ⟨rfl, hl21, ?_⟩
      refine ws_env (env' := [.d plan, .d near, .d place, .d top1, .d under2, .ol a14 ((found12 ++ ([(.tuple [(.tuple [(.str "pinch"), way9]), (.tuple [r16, top1])])] : List PyData)) ++ ([(.tuple [(.tuple [(.str "unpinch"), way9]), (.tuple [under2, r16])])] : List PyData)), .d way9, .d r16]) rfl ?_
      refine ws_nil ?_
      exact ws_nil ⟨((found12 ++ ([(.tuple [(.tuple [(.str "pinch"), way9]), (.tuple [r16, top1])])] : List PyData)) ++ ([(.tuple [(.tuple [(.str "unpinch"), way9]), (.tuple [under2, r16])])] : List PyData)), ((.d r16), ⟨a14, n_a14⟩, (.d way9)), h, rfl⟩
    · replace h := h18 e19
      refine ws_nil ?_
      exact ws_nil ⟨found12, ((.d r16), ⟨a14, n_a14⟩, (.d way9)), h, rfl⟩
theorem ok_road (F : FnP K "road" s_road f fd) (hm : mg "road" = some (.ref f)) (hb : Binds K fd ["plan", "place", "other"] []) (h_need_place : Has P w K mg base k "need_place" ["plan", "place"] c_need_place) (h_neighbours : Has P w K mg base k "neighbours" ["plan"] c_neighbours) (m_len : mg "len" = none) (h_steps_from : Has P w K mg base k "steps_from" ["plan", "near", "place"] c_steps_from) :
    Has P w K mg base (k + 1) "road" ["plan", "place", "other"] c_road := by
  refine fn_has F hm sc_road hb rfl ?_
  rintro cdv A outer s H E g args Φ Ψ hr hp hM hl ⟨plan, place, other, Kf, Ef, rfl, h, hK, hE⟩
  unfold f_road at h
  refine ws_env (env' := [.d plan, .d place, .d other, .un, .un, .un, .un, .un, .un, .un, .un]) rfl ?_
  refine ws_cons (w1_expr ?_)
  refine we_call h_need_place hr ?_
  refine wa_d ?_
  refine we_n 0 ?_
  refine ⟨rfl, ?_⟩
  refine wa_d ?_
  refine we_n 1 ?_
  refine ⟨rfl, ?_⟩
  refine wa_nil ?_
  refine ⟨rfl, _, _, _, _, rfl, h, fun r1 h => ⟨rfl, _, rfl, ?_⟩, fun c hc => ⟨rfl, ⟨_, hE _ hc, rfl, rfl, rfl, rfl⟩⟩⟩
  refine ws_cons (w1_expr ?_)
  refine we_call h_need_place hr ?_
  refine wa_d ?_
  refine we_n 0 ?_
  refine ⟨rfl, ?_⟩
  refine wa_d ?_
  refine we_n 2 ?_
  refine ⟨rfl, ?_⟩
  refine wa_nil ?_
  refine ⟨rfl, _, _, _, _, rfl, h, fun r2 h => ⟨rfl, _, rfl, ?_⟩, fun c hc => ⟨rfl, ⟨_, hE _ hc, rfl, rfl, rfl, rfl⟩⟩⟩
  refine ws_cons (w1_set 3 sc_road.nd ?_)
  refine we_call h_neighbours hr ?_
  refine wa_d ?_
  refine we_n 0 ?_
  refine ⟨rfl, ?_⟩
  refine wa_nil ?_
  refine ⟨rfl, _, _, _, rfl, h, fun r3 h => ⟨rfl, _, rfl, ?_⟩, fun c hc => ⟨rfl, ⟨_, hE _ hc, rfl, rfl, rfl, rfl⟩⟩⟩
  refine ⟨rfl, ?_⟩
  refine ws_env (env' := [.d plan, .d place, .d other, .d (.list r3), .un, .un, .un, .un, .un, .un, .un]) rfl ?_
  refine ws_cons (w1_setT 4 sc_road.nd ?_)
  refine wdt_disp1 hr (fun g5 => ?_)
  refine wps_cons ?_
  refine we_n 1 ?_
  refine ⟨rfl, ?_⟩
  refine we_none ?_
  refine ⟨rfl, ?_⟩
  refine wps_nil ?_
  refine dispT_m h fun m6 h => ?_
  intro a4 n_a4
  refine ws_env (env' := [.d plan, .d place, .d other, .d (.list r3), .dt a4 m6, .un, .un, .un, .un, .un, .un]) rfl ?_
  refine ws_cons (w1_setN 5 sc_road.nd ?_)
  refine wn_list ?_
  refine wa_d ?_
  refine we_n 1 ?_
  refine ⟨rfl, ?_⟩
  refine wa_nil ?_
  refine ⟨_, rfl, szOk rfl, ?_⟩
  intro a7 n_a7
  refine ws_env (env' := [.d plan, .d place, .d other, .d (.list r3), .dt a4 m6, .ol a7 [place], .un, .un, .un, .un, .un]) rfl ?_
  refine ws_cons (w1_set 6 sc_road.nd ?_)
  refine we_int ?_
  refine ⟨rfl, ?_⟩
  refine ws_env (env' := [.d plan, .d place, .d other, .d (.list r3), .dt a4 m6, .ol a7 [place], .d (.int 0), .un, .un, .un, .un]) rfl ?_
  refine ws_cons (whileS h hp (fun (s : (List (List Key × PyData)) × (List PyData) × PyData) (u : Sl × Sl × {a : Addr // a ∉ g.M} × {a : Addr // a ∉ g.M}) => [.d plan, .d place, .d other, .d (.list r3), .dt u.2.2.1.1 s.1, .ol u.2.2.2.1 s.2.1, .d s.2.2, u.1, u.2.1, .un, .un]) ((.un), (.un), ⟨a4, n_a4⟩, ⟨a7, n_a7⟩) rfl ?_ ?_)
  · rintro ⟨came8, row9, at_10⟩ ⟨w11, w12, ⟨a13, n_a13⟩, ⟨a14, n_a14⟩⟩ h
    refine ws_env (env' := [.d plan, .d place, .d other, .d (.list r3), .dt a13 came8, .ol a14 row9, .d at_10, w11, w12, .un, .un]) rfl ?_
    refine ws_cons (w1_setN 9 sc_road.nd ?_)
    refine wn_list ?_
    refine wa_nil ?_
    refine ⟨_, rfl, szOk rfl, ?_⟩
    intro a15 n_a15
    refine ws_env (env' := [.d plan, .d place, .d other, .d (.list r3), .dt a13 came8, .ol a14 row9, .d at_10, w11, w12, .ol a15 [], .un]) rfl ?_
    refine ws_cons (w1_set 10 sc_road.nd ?_)
    refine we_n 2 ?_
    refine ⟨rfl, ?_⟩
    refine ws_env (env' := [.d plan, .d place, .d other, .d (.list r3), .dt a13 came8, .ol a14 row9, .d at_10, w11, w12, .ol a15 [], .d other]) rfl ?_
    refine ws_joinS h (fun (s : (List PyData) × PyData) (u : {a : Addr // a ∉ g.M}) => [.d plan, .d place, .d other, .d (.list r3), .dt a13 came8, .ol a14 row9, .d at_10, w11, w12, .ol u.1 s.1, .d s.2]) (fun Q h => ?_) ?_
    · refine w1_if ?_
      refine wt_notInTA 4 hr ?_
      refine we_n 2 ?_
      refine ⟨rfl, inT_m h fun b16 h => ?_⟩
      obtain ⟨h17, h18⟩ := h
      refine ⟨fun e19 => ?_, fun e19 => ?_⟩
      · replace h := h17 e19
        refine ws_cons (w1_append 9 rfl ?_)
        refine we_tuple ?_
        refine wa_d ?_
        refine we_str ?_
        refine ⟨rfl, ?_⟩
        refine wa_nil ?_
        refine ⟨_, rfl, szOk rfl, ?_⟩
        obtain ⟨hl20, h⟩ := h
        refine ⟨rfl, hl20, ?_⟩
        refine ws_env (env' := [.d plan, .d place, .d other, .d (.list r3), .dt a13 came8, .ol a14 row9, .d at_10, w11, w12, .ol a15 ([] ++ ([(.tuple [(.str "over")])] : List PyData)), .d other]) rfl ?_
        refine ws_cons (w1_set 10 sc_road.nd ?_)
        refine we_tuple ?_
        refine wa_d ?_
        refine we_ix ?_
        refine we_n 2 ?_
        refine we_int ?_
        refine ix_sh h fun r21 h => ?_
        refine ⟨rfl, ?_⟩
        refine wa_d ?_
        refine we_ix ?_
        refine we_n 2 ?_
        refine we_int ?_
        refine ix_sh h fun r22 h => ?_
        refine ⟨rfl, ?_⟩
        refine wa_nil ?_
        refine ⟨_, rfl, szOk rfl, ?_⟩
        refine ⟨rfl, ?_⟩
        refine ws_env (env' := [.d plan, .d place, .d other, .d (.list r3), .dt a13 came8, .ol a14 row9, .d at_10, w11, w12, .ol a15 ([] ++ ([(.tuple [(.str "over")])] : List PyData)), .d (.tuple [r21, r22])]) rfl ?_
        exact ws_nil ⟨(([] ++ ([(.tuple [(.str "over")])] : List PyData)), (.tuple [r21, r22])), ⟨a15, n_a15⟩, h, rfl⟩
      · replace h := h18 e19
        exact ws_nil ⟨([], other), ⟨a15, n_a15⟩, h, rfl⟩
    · rintro ⟨found23, here24⟩ ⟨a25, n_a25⟩ h
      refine ws_env (env' := [.d plan, .d place, .d other, .d (.list r3), .dt a13 came8, .ol a14 row9, .d at_10, w11, w12, .ol a25 found23, .d here24]) rfl ?_
      refine ws_cons (whileS h hp (fun (s : PyData × (List PyData)) (u : Sl × {a : Addr // a ∉ g.M}) => [.d plan, .d place, .d other, .d (.list r3), .dt a13 came8, .ol a14 row9, .d at_10, u.1, w12, .ol u.2.1 s.2, .d s.1]) ((w11), ⟨a25, n_a25⟩) rfl ?_ ?_)
      · rintro ⟨here26, found27⟩ ⟨w28, ⟨a29, n_a29⟩⟩ h
        refine ws_env (env' := [.d plan, .d place, .d other, .d (.list r3), .dt a13 came8, .ol a14 row9, .d at_10, w28, w12, .ol a29 found27, .d here26]) rfl ?_
        refine ws_cons (w1_retN ?_)
        refine wn_revA ?_
        refine we_nl 9 ?_
        refine rev_sh h fun l30 h => ?_
        exact ⟨_, hK _ h, trivial, rfl, rfl, rfl, rfl⟩
      · rintro hend ⟨here33, found34⟩ ⟨w35, ⟨a36, n_a36⟩⟩ N31 h
        refine wt_cp op_notN ?_
        refine we_getT 4 hr rfl ?_
        refine we_n 10 ?_
        refine ⟨rfl, getT_s h fun r37 h => ?_⟩
        refine we_none ?_
        refine notN_sh ?_
        refine ⟨fun e38 => ?_, fun e38 => hend (here33, found34) ((w35), ⟨a36, n_a36⟩) (h.2 e38)⟩
        replace h := h.1 e38
        refine ws_env (env' := [.d plan, .d place, .d other, .d (.list r3), .dt a13 came8, .ol a14 row9, .d at_10, w35, w12, .ol a36 found34, .d here33]) rfl ?_
        refine ws_cons (w1_unpack (pg_tup rfl (pgs_cons (pg_name (i := 7) sc_road.nd rfl (by first | exact Or.inl rfl | exact Or.inr rfl)) (pgs_cons (pg_name (i := 10) sc_road.nd rfl (by first | exact Or.inl rfl | exact Or.inr rfl)) pgs_nil))) (tgd_tup (tgds_cons (tgd_name 7) (tgds_cons (tgd_name 10) tgds_nil)) rfl) ?_)
        refine we_getT 4 hr rfl ?_
        refine we_n 10 ?_
        refine ⟨rfl, getT_s h fun r39 h => ?_⟩
        obtain ⟨step40, here41, he42, h⟩ := un2_sh h
        refine ⟨rfl, [(7, step40), (10, here41)], (by rw [he42]; rfl), rfl, ?_⟩
        refine ws_env (env' := [.d plan, .d place, .d other, .d (.list r3), .dt a13 came8, .ol a14 row9, .d at_10, .d step40, w12, .ol a36 found34, .d here41]) rfl ?_
        refine ws_cons (w1_append 9 rfl ?_)
        refine we_n 7 ?_
        obtain ⟨hl43, h⟩ := h
        refine ⟨rfl, hl43, ?_⟩
        refine ws_env (env' := [.d plan, .d place, .d other, .d (.list r3), .dt a13 came8, .ol a14 row9, .d at_10, .d step40, w12, .ol a36 (found34 ++ ([step40] : List PyData)), .d here41]) rfl ?_
        exact ws_nil ⟨(here41, (found34 ++ ([step40] : List PyData))), ((.d step40), ⟨a36, n_a36⟩), h, rfl⟩
  · rintro hend ⟨came46, row47, at_48⟩ ⟨w49, w50, ⟨a51, n_a51⟩, ⟨a52, n_a52⟩⟩ N44 h
    refine wt_cp (op_ltA hr) ?_
    refine we_n 6 ?_
    refine we_len m_len ?_
    refine we_nl 5 ?_
    refine len_sh h fun r53 h => ?_
    refine lt_sh h fun b54 h => ?_
    refine ⟨fun e55 => ?_, fun e55 => hend (came46, row47, at_48) ((w49), (w50), ⟨a51, n_a51⟩, ⟨a52, n_a52⟩) (h.2 e55)⟩
    replace h := h.1 e55
    refine ws_env (env' := [.d plan, .d place, .d other, .d (.list r3), .dt a51 came46, .ol a52 row47, .d at_48, w49, w50, .un, .un]) rfl ?_
    refine ws_cons (w1_for hp rfl (pg_tup rfl (pgs_cons (pg_name (i := 7) sc_road.nd rfl (by first | exact Or.inl rfl | exact Or.inr rfl)) (pgs_cons (pg_name (i := 8) sc_road.nd rfl (by first | exact Or.inl rfl | exact Or.inr rfl)) pgs_nil))) (tgd_tup (tgds_cons (tgd_name 7) (tgds_cons (tgd_name 8) tgds_nil)) rfl) ?_)
    refine wi_d ?_
    refine we_call h_steps_from hr ?_
    refine wa_d ?_
    refine we_n 0 ?_
    refine ⟨rfl, ?_⟩
    refine wa_d ?_
    refine we_n 3 ?_
    refine ⟨rfl, ?_⟩
    refine wa_d ?_
    refine we_ix ?_
    refine we_nl 5 ?_
    refine we_n 6 ?_
    refine ix_sh h fun r57 h => ?_
    refine ⟨rfl, ?_⟩
    refine wa_nil ?_
    refine ⟨rfl, _, _, _, _, _, rfl, h, fun r58 h => ⟨rfl, _, rfl, ?_⟩, fun c hc => ⟨rfl, ⟨_, hE _ hc, rfl, rfl, rfl, rfl⟩⟩⟩
    refine ⟨rfl, it_sh h fun xs56 h => ?_⟩
    refine forS h (fun (s : (List (List Key × PyData)) × (List PyData)) (u : {a : Addr // a ∉ g.M} × {a : Addr // a ∉ g.M} × Sl × Sl) => [.d plan, .d place, .d other, .d (.list r3), .dt u.1.1 s.1, .ol u.2.1.1 s.2, .d at_48, u.2.2.1, u.2.2.2, .un, .un]) (⟨a51, n_a51⟩, ⟨a52, n_a52⟩, (w49), (w50)) rfl ?_ ?_
    · rintro ⟨came59, row60⟩ ⟨⟨a61, n_a61⟩, ⟨a62, n_a62⟩, w63, w64⟩ h
      refine ws_env (env' := [.d plan, .d place, .d other, .d (.list r3), .dt a61 came59, .ol a62 row60, .d at_48, w63, w64, .un, .un]) rfl ?_
      obtain ⟨u65, he67, h⟩ := into_ob h
      refine ws_env (env' := [.d plan, .d place, .d other, .d (.list r3), .dt a61 came59, .ol a62 row60, .d at_48, w63, w64, .un, .un]) rfl ?_
      rw [he67]
      refine ws_cons (w1_add 6 sc_road.nd rfl ?_)
      refine we_int ?_
      refine into_sh h fun m66 h => ?_
      refine ws_env (env' := [.d plan, .d place, .d other, .d (.list r3), .dt a61 came59, .ol a62 row60, .d (.int (u65 + m66)), w63, w64, .un, .un]) rfl ?_
      exact ws_nil ⟨(came59, row60, (.int (u65 + m66))), ((w63), (w64), ⟨a61, n_a61⟩, ⟨a62, n_a62⟩), h, rfl⟩
    · rintro hend p68 ⟨came71, row72⟩ ⟨⟨a73, n_a73⟩, ⟨a74, n_a74⟩, w75, w76⟩ N69 h
      obtain ⟨step77, there78, he79, h⟩ := un2_sh h
      refine ⟨[(7, step77), (8, there78)], (by rw [he79]; rfl), rfl, ?_⟩
      refine ws_env (env' := [.d plan, .d place, .d other, .d (.list r3), .dt a73 came71, .ol a74 row72, .d at_48, .d step77, .d there78, .un, .un]) rfl ?_
      refine ws_cons (w1_if ?_)
      refine wt_notInTA 4 hr ?_
      refine we_n 8 ?_
      refine ⟨rfl, inT_m h fun b80 h => ?_⟩
      obtain ⟨h81, h82⟩ := h
      refine ⟨fun e83 => ?_, fun e83 => ?_⟩
      · replace h := h81 e83
        refine ws_cons (w1_storeTB 4 hr ?_)
        refine we_tuple ?_
        refine wa_d ?_
        refine we_n 7 ?_
        refine ⟨rfl, ?_⟩
        refine wa_d ?_
        refine we_ix ?_
        refine we_nl 5 ?_
        refine we_n 6 ?_
        refine ix_sh h fun r84 h => ?_
        refine ⟨rfl, ?_⟩
        refine wa_nil ?_
        refine ⟨_, rfl, szOk rfl, ?_⟩
        refine ⟨rfl, ?_⟩
        refine we_n 8 ?_
        refine ⟨rfl, putT_m h fun kv85 h => ?_⟩
        refine ws_env (env' := [.d plan, .d place, .d other, .d (.list r3), .dt a73 kv85, .ol a74 row72, .d at_48, .d step77, .d there78, .un, .un]) rfl ?_
        refine ws_cons (w1_append 5 rfl ?_)
        refine we_n 8 ?_
        obtain ⟨hl86, h⟩ := h
        refine ⟨rfl, hl86, ?_⟩
        refine ws_env (env' := [.d plan, .d place, .d other, .d (.list r3), .dt a73 kv85, .ol a74 (row72 ++ ([there78] : List PyData)), .d at_48, .d step77, .d there78, .un, .un]) rfl ?_
        refine ws_nil ?_
        exact ws_nil ⟨(kv85, (row72 ++ ([there78] : List PyData))), (⟨a73, n_a73⟩, ⟨a74, n_a74⟩, (.d step77), (.d there78)), h, rfl⟩
      · replace h := h82 e83
        refine ws_nil ?_
        exact ws_nil ⟨(came71, row72), (⟨a73, n_a73⟩, ⟨a74, n_a74⟩, (.d step77), (.d there78)), h, rfl⟩
theorem ok_stepped (F : FnP K "stepped" s_stepped f fd) (hm : mg "stepped" = some (.ref f)) (hb : Binds K fd ["plan", "place", "step"] []) (m_len : mg "len" = none) (g_WAYS : GTup K mg "WAYS" [.str "even", .str "odd"]) (x_BadStep : ExK K mg "BadStep") (h_pinch : Has P w K mg base k "pinch" ["plan", "place", "way"] c_pinch) (h_unpinch : Has P w K mg base k "unpinch" ["plan", "place", "way"] c_unpinch) :
    Has P w K mg base (k + 1) "stepped" ["plan", "place", "step"] c_stepped := by
  refine fn_has F hm sc_stepped hb rfl ?_
  rintro cdv A outer s H E g args Φ Ψ hr hp hM hl ⟨plan, place, step, Kf, Ef, rfl, h, hK, hE⟩
  unfold f_stepped at h
  refine ws_env (env' := [.d plan, .d place, .d step]) rfl ?_
  refine ws_cons (w1_if ?_)
  refine wt_cp (op_eqA hr) ?_
  refine we_n 2 ?_
  refine we_tuple ?_
  refine wa_d ?_
  refine we_str ?_
  refine ⟨rfl, ?_⟩
  refine wa_nil ?_
  refine ⟨_, rfl, szOk rfl, ?_⟩
  refine eq_sh h fun b1 h => ?_
  obtain ⟨h2, h3⟩ := h
  refine ⟨fun e4 => ?_, fun e4 => ?_⟩
  · replace h := h2 e4
    refine ws_cons (w1_ret ?_)
    refine we_tuple ?_
    refine wa_d ?_
    refine we_ix ?_
    refine we_n 1 ?_
    refine we_int ?_
    refine ix_sh h fun r5 h => ?_
    refine ⟨rfl, ?_⟩
    refine wa_d ?_
    refine we_ix ?_
    refine we_n 1 ?_
    refine we_int ?_
    refine ix_sh h fun r6 h => ?_
    refine ⟨rfl, ?_⟩
    refine wa_nil ?_
    refine ⟨_, rfl, szOk rfl, ?_⟩
    exact ⟨rfl, _, hK _ h, trivial, rfl, rfl, rfl, rfl⟩
  · replace h := h3 e4
    refine ws_nil ?_
    refine ws_cons (w1_if ?_)
    refine wt_ww ?_
    refine ww_orS h (fun Q h => ?_) (fun Q h => ?_) fun b7 h => ?_
    · refine wt_cp (op_neA hr) ?_
      refine we_len m_len ?_
      refine we_n 2 ?_
      refine len_sh h fun r8 h => ?_
      refine we_int ?_
      refine ne_sh h fun b9 h => ?_
      exact h
    · refine ww_orS h (fun Q h => ?_) (fun Q h => ?_) fun b10 h => ?_
      · refine wt_cp (op_notInA hr) ?_
        refine we_ix ?_
        refine we_n 2 ?_
        refine we_int ?_
        refine ix_sh h fun r11 h => ?_
        refine we_tuple ?_
        refine wa_d ?_
        refine we_str ?_
        refine ⟨rfl, ?_⟩
        refine wa_d ?_
        refine we_str ?_
        refine ⟨rfl, ?_⟩
        refine wa_nil ?_
        refine ⟨_, rfl, szOk rfl, ?_⟩
        refine notIn_sh h fun b12 h => ?_
        exact h
      · refine ww_or1 ?_
        refine wt_notInG g_WAYS ?_
        refine we_ix ?_
        refine we_n 2 ?_
        refine we_int ?_
        refine ix_sh h fun r13 h => ?_
        refine inG_sh h fun b14 h => ?_
        exact h
      exact h
    obtain ⟨h15, h16⟩ := h
    refine ⟨fun e17 => ?_, fun e17 => ?_⟩
    · replace h := h15 e17
      exact ws_cons (w1_raise rfl x_BadStep ⟨_, hE _ h, rfl, rfl, rfl, rfl⟩)
    · replace h := h16 e17
      refine ws_nil ?_
      refine ws_cons (w1_if ?_)
      refine wt_cp (op_eqA hr) ?_
      refine we_ix ?_
      refine we_n 2 ?_
      refine we_int ?_
      refine ix_sh h fun r18 h => ?_
      refine we_str ?_
      refine eq_sh h fun b19 h => ?_
      obtain ⟨h20, h21⟩ := h
      refine ⟨fun e22 => ?_, fun e22 => ?_⟩
      · replace h := h20 e22
        refine ws_cons (w1_ret ?_)
        refine we_call h_pinch hr ?_
        refine wa_d ?_
        refine we_n 0 ?_
        refine ⟨rfl, ?_⟩
        refine wa_d ?_
        refine we_n 1 ?_
        refine ⟨rfl, ?_⟩
        refine wa_d ?_
        refine we_ix ?_
        refine we_n 2 ?_
        refine we_int ?_
        refine ix_sh h fun r23 h => ?_
        refine ⟨rfl, ?_⟩
        refine wa_nil ?_
        refine ⟨rfl, _, _, _, _, _, rfl, h, fun r24 h => ⟨rfl, _, rfl, ?_⟩, fun c hc => ⟨rfl, ⟨_, hE _ hc, rfl, rfl, rfl, rfl⟩⟩⟩
        exact ⟨rfl, _, hK _ h, trivial, rfl, rfl, rfl, rfl⟩
      · replace h := h21 e22
        refine ws_nil ?_
        refine ws_cons (w1_ret ?_)
        refine we_call h_unpinch hr ?_
        refine wa_d ?_
        refine we_n 0 ?_
        refine ⟨rfl, ?_⟩
        refine wa_d ?_
        refine we_n 1 ?_
        refine ⟨rfl, ?_⟩
        refine wa_d ?_
        refine we_ix ?_
        refine we_n 2 ?_
        refine we_int ?_
        refine ix_sh h fun r25 h => ?_
        refine ⟨rfl, ?_⟩
        refine wa_nil ?_
        refine ⟨rfl, _, _, _, _, _, rfl, h, fun r26 h => ⟨rfl, _, rfl, ?_⟩, fun c hc => ⟨rfl, ⟨_, hE _ hc, rfl, rfl, rfl, rfl⟩⟩⟩
        exact ⟨rfl, _, hK _ h, trivial, rfl, rfl, rfl, rfl⟩
theorem ok_walked (F : FnP K "walked" s_walked f fd) (hm : mg "walked" = some (.ref f)) (hb : Binds K fd ["plan", "place", "steps"] []) (h_need_place : Has P w K mg base k "need_place" ["plan", "place"] c_need_place) (h_stepped : Has P w K mg base k "stepped" ["plan", "place", "step"] c_stepped) :
    Has P w K mg base (k + 1) "walked" ["plan", "place", "steps"] c_walked := by
  refine fn_has F hm sc_walked hb rfl ?_
  rintro cdv A outer s H E g args Φ Ψ hr hp hM hl ⟨plan, place, steps, Kf, Ef, rfl, h, hK, hE⟩
  unfold f_walked at h
  refine ws_env (env' := [.d plan, .d place, .d steps, .un, .un]) rfl ?_
  refine ws_cons (w1_expr ?_)
  refine we_call h_need_place hr ?_
  refine wa_d ?_
  refine we_n 0 ?_
  refine ⟨rfl, ?_⟩
  refine wa_d ?_
  refine we_n 1 ?_
  refine ⟨rfl, ?_⟩
  refine wa_nil ?_
  refine ⟨rfl, _, _, _, _, rfl, h, fun r1 h => ⟨rfl, _, rfl, ?_⟩, fun c hc => ⟨rfl, ⟨_, hE _ hc, rfl, rfl, rfl, rfl⟩⟩⟩
  refine ws_cons (w1_set 3 sc_walked.nd ?_)
  refine we_n 1 ?_
  refine ⟨rfl, ?_⟩
  refine ws_env (env' := [.d plan, .d place, .d steps, .d place, .un]) rfl ?_
  refine ws_cons (w1_for hp rfl (pg_name (i := 4) sc_walked.nd rfl (by first | exact Or.inl rfl | exact Or.inr rfl)) (tgd_name 4) ?_)
  refine wi_d ?_
  refine we_n 2 ?_
  refine ⟨rfl, it_sh h fun xs2 h => ?_⟩
  refine forS h (fun (s : PyData) (u : Sl) => [.d plan, .d place, .d steps, .d s, u]) (.un) rfl ?_ ?_
  · rintro here3 w4 h
    refine ws_env (env' := [.d plan, .d place, .d steps, .d here3, w4]) rfl ?_
    refine ws_cons (w1_ret ?_)
    refine we_n 3 ?_
    exact ⟨rfl, _, hK _ h, trivial, rfl, rfl, rfl, rfl⟩
  · rintro hend step5 here8 w9 N6 h
    refine ⟨[(4, step5)], rfl, rfl, ?_⟩
    refine ws_env (env' := [.d plan, .d place, .d steps, .d here8, .d step5]) rfl ?_
    refine ws_cons (w1_set 3 sc_walked.nd ?_)
    refine we_call h_stepped hr ?_
    refine wa_d ?_
    refine we_n 0 ?_
    refine ⟨rfl, ?_⟩
    refine wa_d ?_
    refine we_n 3 ?_
    refine ⟨rfl, ?_⟩
    refine wa_d ?_
    refine we_n 4 ?_
    refine ⟨rfl, ?_⟩
    refine wa_nil ?_
    refine ⟨rfl, _, _, _, _, _, rfl, h, fun r10 h => ⟨rfl, _, rfl, ?_⟩, fun c hc => ⟨rfl, ⟨_, hE _ hc, rfl, rfl, rfl, rfl⟩⟩⟩
    refine ⟨rfl, ?_⟩
    refine ws_env (env' := [.d plan, .d place, .d steps, .d r10, .d step5]) rfl ?_
    exact ws_nil ⟨r10, (.d step5), h, rfl⟩
theorem ok_tour_by (F : FnP K "tour_by" s_tour_by f fd) (hm : mg "tour_by" = some (.ref f)) (hb : Binds K fd ["plan", "near", "place", "seen"] []) (g_WAYS : GTup K mg "WAYS" [.str "even", .str "odd"]) (h_third_corner : Has P w K mg base k "third_corner" ["plan", "near", "place", "way"] c_third_corner) (m_tuple : mg "tuple" = none) (m_sorted : mg "sorted" = none) (m_range : mg "range" = none) :
    ∀ n : Nat, Has P w K mg base (k + n + 1) "tour_by" ["plan", "near", "place", "seen"] (c_tour_by n)
  | 0 => by
    refine fn_has F hm sc_tour_by hb rfl ?_
    rintro cdv A outer s H E g args Φ Ψ hr hp hM hl ⟨plan, near, place, a_seen, seen, Kf, rfl, h, hK⟩
    exact (show False from h).elim
  | n + 1 => by
    have h_tour_by := ok_tour_by F hm hb g_WAYS h_third_corner m_tuple m_sorted m_range n
    refine fn_has F hm sc_tour_by hb rfl ?_
    rintro cdv A outer s H E g args Φ Ψ hr hp hM hl ⟨plan, near, place, a_seen, seen, Kf, rfl, h, hK⟩
    have h : f_tour_by_s (f_tour_by n) plan near place seen Kf := h
    unfold f_tour_by_s at h
    refine ws_env (env' := [.d plan, .d near, .d place, .dt a_seen seen, .un, .un, .un, .un, .un, .un]) rfl ?_
    refine ws_cons (w1_setN 4 sc_tour_by.nd ?_)
    refine wn_list ?_
    refine wa_nil ?_
    refine ⟨_, rfl, szOk rfl, ?_⟩
    intro a1 n_a1
    refine ws_env (env' := [.d plan, .d near, .d place, .dt a_seen seen, .ol a1 [], .un, .un, .un, .un, .un]) rfl ?_
    refine ws_cons (w1_for hp rfl (pg_name (i := 5) sc_tour_by.nd rfl (by first | exact Or.inl rfl | exact Or.inr rfl)) (tgd_name 5) ?_)
    refine wi_g g_WAYS ?_
    refine forS h (fun (s : (List (List Key × PyData)) × (List PyData)) (u : Sl × Sl × Sl × Sl × {a : Addr // a ∉ g.M} × Sl) => [.d plan, .d near, .d place, .dt a_seen s.1, .ol u.2.2.2.2.1.1 s.2, u.2.2.2.2.2, u.1, u.2.1, u.2.2.1, u.2.2.2.1]) ((.un), (.un), (.un), (.un), ⟨a1, n_a1⟩, (.un)) rfl ?_ ?_
    · rintro ⟨seen2, found3⟩ ⟨w4, w5, w6, w7, ⟨a8, n_a8⟩, w9⟩ h
      refine ws_env (env' := [.d plan, .d near, .d place, .dt a_seen seen2, .ol a8 found3, w9, w4, w5, w6, w7]) rfl ?_
      exact ws_cons (w1_retO 4 rfl n_a8 ⟨_, hK _ _ h, trivial, rfl, rfl, rfl, ⟨rfl, rfl⟩, rfl⟩)
    · rintro hend way10 ⟨seen13, found14⟩ ⟨w15, w16, w17, w18, ⟨a19, n_a19⟩, w20⟩ N11 h
      refine ⟨[(5, way10)], rfl, rfl, ?_⟩
      refine ws_env (env' := [.d plan, .d near, .d place, .dt a_seen seen13, .ol a19 found14, .d way10, w15, w16, w17, w18]) rfl ?_
      refine ws_cons (w1_set 6 sc_tour_by.nd ?_)
      refine we_call h_third_corner hr ?_
      refine wa_d ?_
      refine we_n 0 ?_
      refine ⟨rfl, ?_⟩
      refine wa_d ?_
      refine we_n 1 ?_
      refine ⟨rfl, ?_⟩
      refine wa_d ?_
      refine we_n 2 ?_
      refine ⟨rfl, ?_⟩
      refine wa_d ?_
      refine we_n 5 ?_
      refine ⟨rfl, ?_⟩
      refine wa_nil ?_
      refine ⟨rfl, _, _, _, _, _, _, rfl, h, fun r21 h => ⟨rfl, _, rfl, ?_⟩, fun c hc => ⟨rfl, hc.elim⟩⟩
      refine ⟨rfl, ?_⟩
      refine ws_env (env' := [.d plan, .d near, .d place, .dt a_seen seen13, .ol a19 found14, .d way10, .d r21, w16, w17, w18]) rfl ?_
      refine ws_cons (w1_if ?_)
      refine wt_cp op_notN ?_
      refine we_n 6 ?_
      refine we_none ?_
      refine notN_sh ?_
      obtain ⟨h22, h23⟩ := h
      refine ⟨fun e24 => ?_, fun e24 => ?_⟩
      · replace h := h22 e24
        refine ws_cons (w1_set 7 sc_tour_by.nd ?_)
        refine we_tupof m_tuple ?_
        refine we_of_wn ?_
        refine wn_sortedA m_sorted hr ?_
        refine we_list ?_
        refine wa_d ?_
        refine we_ix ?_
        refine we_n 2 ?_
        refine we_int ?_
        refine ix_sh h fun r25 h => ?_
        refine ⟨rfl, ?_⟩
        refine wa_d ?_
        refine we_ix ?_
        refine we_n 2 ?_
        refine we_int ?_
        refine ix_sh h fun r26 h => ?_
        refine ⟨rfl, ?_⟩
        refine wa_d ?_
        refine we_n 6 ?_
        refine ⟨rfl, ?_⟩
        refine wa_nil ?_
        refine ⟨_, rfl, szOk rfl, ?_⟩
        refine sort_m h fun l27 h => ?_
        refine tup_sh h fun r28 h => ?_
        refine ⟨rfl, ?_⟩
        refine ws_env (env' := [.d plan, .d near, .d place, .dt a_seen seen13, .ol a19 found14, .d way10, .d r21, .d r28, w17, w18]) rfl ?_
        refine ws_cons (w1_if ?_)
        refine wt_notInTA 3 hr ?_
        refine we_n 7 ?_
        refine ⟨rfl, inT_m h fun b29 h => ?_⟩
        obtain ⟨h30, h31⟩ := h
        refine ⟨fun e32 => ?_, fun e32 => ?_⟩
        · replace h := h30 e32
          refine ws_cons (w1_storeTB 3 hr ?_)
          refine we_bool ?_
          refine ⟨rfl, ?_⟩
          refine we_n 7 ?_
          refine ⟨rfl, putT_m h fun kv33 h => ?_⟩
          refine ws_env (env' := [.d plan, .d near, .d place, .dt a_seen kv33, .ol a19 found14, .d way10, .d r21, .d r28, w17, w18]) rfl ?_
          refine ws_cons (w1_set 8 sc_tour_by.nd ?_)
          refine we_n 2 ?_
          refine ⟨rfl, ?_⟩
          refine ws_env (env' := [.d plan, .d near, .d place, .dt a_seen kv33, .ol a19 found14, .d way10, .d r21, .d r28, .d place, w18]) rfl ?_
          refine ws_cons (w1_for hp rfl (pg_name (i := 9) sc_tour_by.nd rfl (by first | exact Or.inl rfl | exact Or.inr rfl)) (tgd_name 9) ?_)
          refine wi_r1 m_range ?_
          refine we_int ?_
          refine rng_sh h fun xs34 h => ?_
          refine forS h (fun (s : (List PyData) × PyData × (List (List Key × PyData))) (u : {a : Addr // a ∉ g.M} × Sl) => [.d plan, .d near, .d place, .dt a_seen s.2.2, .ol u.1.1 s.1, .d way10, .d r21, .d r28, .d s.2.1, u.2]) (⟨a19, n_a19⟩, (w18)) rfl ?_ ?_
          · rintro ⟨found35, here36, seen37⟩ ⟨⟨a38, n_a38⟩, w39⟩ h
            refine ws_env (env' := [.d plan, .d near, .d place, .dt a_seen seen37, .ol a38 found35, .d way10, .d r21, .d r28, .d here36, w39]) rfl ?_
            refine ws_nil ?_
            refine ws_nil ?_
            exact ws_nil ⟨(seen37, found35), ((.d r21), (.d r28), (.d here36), (w39), ⟨a38, n_a38⟩, (.d way10)), h, rfl⟩
          · rintro hend turn40 ⟨found43, here44, seen45⟩ ⟨⟨a46, n_a46⟩, w47⟩ N41 h
            refine ⟨[(9, turn40)], rfl, rfl, ?_⟩
            refine ws_env (env' := [.d plan, .d near, .d place, .dt a_seen seen45, .ol a46 found43, .d way10, .d r21, .d r28, .d here44, .d turn40]) rfl ?_
            refine ws_cons (w1_append 4 rfl ?_)
            refine we_tuple ?_
            refine wa_d ?_
            refine we_str ?_
            refine ⟨rfl, ?_⟩
            refine wa_d ?_
            refine we_n 5 ?_
            refine ⟨rfl, ?_⟩
            refine wa_nil ?_
            refine ⟨_, rfl, szOk rfl, ?_⟩
            obtain ⟨hl48, h⟩ := h
            refine ⟨rfl, hl48, ?_⟩
            refine ws_env (env' := [.d plan, .d near, .d place, .dt a_seen seen45, .ol a46 (found43 ++ ([(.tuple [(.str "pinch"), way10])] : List PyData)), .d way10, .d r21, .d r28, .d here44, .d turn40]) rfl ?_
            refine ws_cons (w1_set 8 sc_tour_by.nd ?_)
            refine we_tuple ?_
            refine wa_d ?_
            refine we_call h_third_corner hr ?_
            refine wa_d ?_
            refine we_n 0 ?_
            refine ⟨rfl, ?_⟩
            refine wa_d ?_
            refine we_n 1 ?_
            refine ⟨rfl, ?_⟩
            refine wa_d ?_
            refine we_n 8 ?_
            refine ⟨rfl, ?_⟩
            refine wa_d ?_
            refine we_n 5 ?_
            refine ⟨rfl, ?_⟩
            refine wa_nil ?_
            refine ⟨rfl, _, _, _, _, _, _, rfl, h, fun r49 h => ⟨rfl, _, rfl, ?_⟩, fun c hc => ⟨rfl, hc.elim⟩⟩
            refine ⟨rfl, ?_⟩
            refine wa_d ?_
            refine we_ix ?_
            refine we_n 8 ?_
            refine we_int ?_
            refine ix_sh h fun r50 h => ?_
            refine ⟨rfl, ?_⟩
            refine wa_nil ?_
            refine ⟨_, rfl, szOk rfl, ?_⟩
            refine ⟨rfl, ?_⟩
            refine ws_env (env' := [.d plan, .d near, .d place, .dt a_seen seen45, .ol a46 (found43 ++ ([(.tuple [(.str "pinch"), way10])] : List PyData)), .d way10, .d r21, .d r28, .d (.tuple [r49, r50]), .d turn40]) rfl ?_
            refine ws_cons (w1_if ?_)
            refine wt_cp (op_ltA hr) ?_
            refine we_n 9 ?_
            refine we_int ?_
            refine lt_sh h fun b51 h => ?_
            obtain ⟨h52, h53⟩ := h
            refine ⟨fun e54 => ?_, fun e54 => ?_⟩
            · replace h := h52 e54
              refine ws_cons (w1_catM 4 rfl sc_tour_by.nd h_tour_by hr ?_)
              refine wa_d ?_
              refine we_n 0 ?_
              refine ⟨rfl, ?_⟩
              refine wa_d ?_
              refine we_n 1 ?_
              refine ⟨rfl, ?_⟩
              refine wa_d ?_
              refine we_n 8 ?_
              refine ⟨rfl, ?_⟩
              refine wa_s 3 ?_
              refine wa_nil ?_
              refine ⟨rfl, rfl, _, _, _, _, _, _, rfl, h, fun l55 kv56 h => ?_⟩
              obtain ⟨hl57, h⟩ := h
              refine ⟨rfl, _, rfl, hl57, fun a58 n_a58 => ?_⟩
              refine ws_env (env' := [.d plan, .d near, .d place, .dt a_seen kv56, .ol a58 ((found43 ++ ([(.tuple [(.str "pinch"), way10])] : List PyData)) ++ l55), .d way10, .d r21, .d r28, .d (.tuple [r49, r50]), .d turn40]) rfl ?_
              refine ws_nil ?_
              exact ws_nil ⟨(((found43 ++ ([(.tuple [(.str "pinch"), way10])] : List PyData)) ++ l55), (.tuple [r49, r50]), kv56), (⟨a58, n_a58⟩, (.d turn40)), h, rfl⟩
            · replace h := h53 e54
              refine ws_nil ?_
              exact ws_nil ⟨((found43 ++ ([(.tuple [(.str "pinch"), way10])] : List PyData)), (.tuple [r49, r50]), seen45), (⟨a46, n_a46⟩, (.d turn40)), h, rfl⟩
        · replace h := h31 e32
          refine ws_nil ?_
          refine ws_nil ?_
          exact ws_nil ⟨(seen13, found14), ((.d r21), (.d r28), (w17), (w18), ⟨a19, n_a19⟩, (.d way10)), h, rfl⟩
      · replace h := h23 e24
        refine ws_nil ?_
        exact ws_nil ⟨(seen13, found14), ((.d r21), (w16), (w17), (w18), ⟨a19, n_a19⟩, (.d way10)), h, rfl⟩
theorem ok_tour (F : FnP K "tour" s_tour f fd) (hm : mg "tour" = some (.ref f)) (hb : Binds K fd ["plan", "place"] []) (h_need_place : Has P w K mg base k "need_place" ["plan", "place"] c_need_place) (h_tour_by : Has P w K mg base k "tour_by" ["plan", "near", "place", "seen"] (c_tour_by 64)) (h_neighbours : Has P w K mg base k "neighbours" ["plan"] c_neighbours) :
    Has P w K mg base (k + 1) "tour" ["plan", "place"] c_tour := by
  refine fn_has F hm sc_tour hb rfl ?_
  rintro cdv A outer s H E g args Φ Ψ hr hp hM hl ⟨plan, place, Kf, Ef, rfl, h, hK, hE⟩
  unfold f_tour at h
  refine ws_env (env' := [.d plan, .d place]) rfl ?_
  refine ws_cons (w1_expr ?_)
  refine we_call h_need_place hr ?_
  refine wa_d ?_
  refine we_n 0 ?_
  refine ⟨rfl, ?_⟩
  refine wa_d ?_
  refine we_n 1 ?_
  refine ⟨rfl, ?_⟩
  refine wa_nil ?_
  refine ⟨rfl, _, _, _, _, rfl, h, fun r1 h => ⟨rfl, _, rfl, ?_⟩, fun c hc => ⟨rfl, ⟨_, hE _ hc, rfl, rfl, rfl⟩⟩⟩
  refine ws_cons (w1_retN ?_)
  refine wn_callD h_tour_by hr ?_
  refine wad_d ?_
  refine we_n 0 ?_
  refine ⟨rfl, ?_⟩
  refine wad_d ?_
  refine we_call h_neighbours hr ?_
  refine wa_d ?_
  refine we_n 0 ?_
  refine ⟨rfl, ?_⟩
  refine wa_nil ?_
  refine ⟨rfl, _, _, _, rfl, h, fun r2 h => ⟨rfl, _, rfl, ?_⟩, fun c hc => ⟨rfl, ⟨_, hE _ hc, rfl, rfl, rfl⟩⟩⟩
  refine ⟨rfl, ?_⟩
  refine wad_d ?_
  refine we_n 1 ?_
  refine ⟨rfl, ?_⟩
  refine wad_t ?_
  refine ⟨rfl, by decide, fun q => ⟨_, _, _, _, _, _, rfl, h, fun l3 s4 h => ⟨_, _, rfl, rfl, ?_⟩⟩⟩
  exact ⟨_, hK _ h, trivial, rfl, rfl, rfl⟩
theorem ok_middle_corners (F : FnP K "middle_corners" s_middle_corners f fd) (hm : mg "middle_corners" = some (.ref f)) (hb : Binds K fd ["plan", "place"] []) (h_neighbours : Has P w K mg base k "neighbours" ["plan"] c_neighbours) (m_len : mg "len" = none) :
    Has P w K mg base (k + 1) "middle_corners" ["plan", "place"] c_middle_corners := by
  refine fn_has F hm sc_middle_corners hb rfl ?_
  rintro cdv A outer s H E g args Φ Ψ hr hp hM hl ⟨plan, place, Kf, Ef, rfl, h, hK, hE⟩
  unfold f_middle_corners at h
  refine ws_env (env' := [.d plan, .d place, .un, .un, .un, .un]) rfl ?_
  refine ws_cons (w1_unpack (pg_tup rfl (pgs_cons (pg_name (i := 2) sc_middle_corners.nd rfl (by first | exact Or.inl rfl | exact Or.inr rfl)) (pgs_cons (pg_name (i := 3) sc_middle_corners.nd rfl (by first | exact Or.inl rfl | exact Or.inr rfl)) pgs_nil))) (tgd_tup (tgds_cons (tgd_name 2) (tgds_cons (tgd_name 3) tgds_nil)) rfl) ?_)
  refine we_n 1 ?_
  obtain ⟨top1, under2, he3, h⟩ := un2_sh h
  refine ⟨rfl, [(2, top1), (3, under2)], (by rw [he3]; rfl), rfl, ?_⟩
  refine ws_env (env' := [.d plan, .d place, .d top1, .d under2, .un, .un]) rfl ?_
  refine ws_cons (w1_set 4 sc_middle_corners.nd ?_)
  refine we_ix ?_
  refine we_call h_neighbours hr ?_
  refine wa_d ?_
  refine we_n 0 ?_
  refine ⟨rfl, ?_⟩
  refine wa_nil ?_
  refine ⟨rfl, _, _, _, rfl, h, fun r4 h => ⟨rfl, _, rfl, ?_⟩, fun c hc => ⟨rfl, ⟨_, hE _ hc, rfl, rfl, rfl⟩⟩⟩
  refine we_n 2 ?_
  refine ix_sh h fun r5 h => ?_
  refine ⟨rfl, ?_⟩
  refine ws_env (env' := [.d plan, .d place, .d top1, .d under2, .d r5, .un]) rfl ?_
  refine ws_cons (w1_set 5 sc_middle_corners.nd ?_)
  refine we_index hr ?_
  refine we_n 4 ?_
  refine ⟨rfl, lstO_sh h fun l6 h => ?_⟩
  refine we_n 3 ?_
  refine ⟨rfl, index_sh h fun r7 h => ?_⟩
  refine ⟨rfl, ?_⟩
  refine ws_env (env' := [.d plan, .d place, .d top1, .d under2, .d r5, .d r7]) rfl ?_
  refine ws_cons (w1_ret ?_)
  refine we_tuple ?_
  refine wa_d ?_
  refine we_mod ?_
  refine we_n 5 ?_
  refine we_int ?_
  refine mod_sh h fun r8 h => ?_
  refine ⟨rfl, ?_⟩
  refine wa_d ?_
  refine we_mod ?_
  refine we_add ?_
  refine we_sub ?_
  refine we_n 5 ?_
  refine we_len m_len ?_
  refine we_n 4 ?_
  refine len_sh h fun r9 h => ?_
  refine sub_sh h fun r10 h => ?_
  refine we_int ?_
  refine add_sh h fun r11 h => ?_
  refine we_int ?_
  refine mod_sh h fun r12 h => ?_
  refine ⟨rfl, ?_⟩
  refine wa_nil ?_
  refine ⟨_, rfl, szOk rfl, ?_⟩
  exact ⟨rfl, _, hK _ h, trivial, rfl, rfl, rfl⟩
theorem ok_middles (F : FnP K "middles" s_middles f fd) (hm : mg "middles" = some (.ref f)) (hb : Binds K fd ["plan", "place"] []) (h_need_place : Has P w K mg base k "need_place" ["plan", "place"] c_need_place) (h_middle_corners : Has P w K mg base k "middle_corners" ["plan", "place"] c_middle_corners) :
    Has P w K mg base (k + 1) "middles" ["plan", "place"] c_middles := by
  refine fn_has F hm sc_middles hb rfl ?_
  rintro cdv A outer s H E g args Φ Ψ hr hp hM hl ⟨plan, place, Kf, Ef, rfl, h, hK, hE⟩
  unfold f_middles at h
  refine ws_env (env' := [.d plan, .d place]) rfl ?_
  refine ws_cons (w1_expr ?_)
  refine we_call h_need_place hr ?_
  refine wa_d ?_
  refine we_n 0 ?_
  refine ⟨rfl, ?_⟩
  refine wa_d ?_
  refine we_n 1 ?_
  refine ⟨rfl, ?_⟩
  refine wa_nil ?_
  refine ⟨rfl, _, _, _, _, rfl, h, fun r1 h => ⟨rfl, _, rfl, ?_⟩, fun c hc => ⟨rfl, ⟨_, hE _ hc, rfl, rfl, rfl⟩⟩⟩
  refine ws_cons (w1_ret ?_)
  refine we_call h_middle_corners hr ?_
  refine wa_d ?_
  refine we_n 0 ?_
  refine ⟨rfl, ?_⟩
  refine wa_d ?_
  refine we_n 1 ?_
  refine ⟨rfl, ?_⟩
  refine wa_nil ?_
  refine ⟨rfl, _, _, _, _, rfl, h, fun r2 h => ⟨rfl, _, rfl, ?_⟩, fun c hc => ⟨rfl, ⟨_, hE _ hc, rfl, rfl, rfl⟩⟩⟩
  exact ⟨rfl, _, hK _ h, trivial, rfl, rfl, rfl⟩
theorem ok_need_lie (F : FnP K "need_lie" s_need_lie f fd) (hm : mg "need_lie" = some (.ref f)) (hb : Binds K fd ["plan", "lie"] []) (h_need_place : Has P w K mg base k "need_place" ["plan", "place"] c_need_place) (g_THIRDS : ∃ t, mg "THIRDS" = some (.int 3 t)) (x_BadLie : ExK K mg "BadLie") :
    Has P w K mg base (k + 1) "need_lie" ["plan", "lie"] c_need_lie := by
  refine fn_has F hm sc_need_lie hb rfl ?_
  rintro cdv A outer s H E g args Φ Ψ hr hp hM hl ⟨plan, lie, Kf, Ef, rfl, h, hK, hE⟩
  unfold f_need_lie at h
  refine ws_env (env' := [.d plan, .d lie, .un, .un, .un]) rfl ?_
  refine ws_cons (w1_unpack (pg_tup rfl (pgs_cons (pg_name (i := 2) sc_need_lie.nd rfl (by first | exact Or.inl rfl | exact Or.inr rfl)) (pgs_cons (pg_name (i := 3) sc_need_lie.nd rfl (by first | exact Or.inl rfl | exact Or.inr rfl)) (pgs_cons (pg_name (i := 4) sc_need_lie.nd rfl (by first | exact Or.inl rfl | exact Or.inr rfl)) pgs_nil)))) (tgd_tup (tgds_cons (tgd_name 2) (tgds_cons (tgd_name 3) (tgds_cons (tgd_name 4) tgds_nil))) rfl) ?_)
  refine we_n 1 ?_
  obtain ⟨top1, under2, front3, he4, h⟩ := un3_sh h
  refine ⟨rfl, [(2, top1), (3, under2), (4, front3)], (by rw [he4]; rfl), rfl, ?_⟩
  refine ws_env (env' := [.d plan, .d lie, .d top1, .d under2, .d front3]) rfl ?_
  refine ws_cons (w1_expr ?_)
  refine we_call h_need_place hr ?_
  refine wa_d ?_
  refine we_n 0 ?_
  refine ⟨rfl, ?_⟩
  refine wa_d ?_
  refine we_tuple ?_
  refine wa_d ?_
  refine we_n 2 ?_
  refine ⟨rfl, ?_⟩
  refine wa_d ?_
  refine we_n 3 ?_
  refine ⟨rfl, ?_⟩
  refine wa_nil ?_
  refine ⟨_, rfl, szOk rfl, ?_⟩
  refine ⟨rfl, ?_⟩
  refine wa_nil ?_
  refine ⟨rfl, _, _, _, _, rfl, h, fun r5 h => ⟨rfl, _, rfl, ?_⟩, fun c hc => ⟨rfl, ⟨_, hE _ hc, rfl, rfl, rfl⟩⟩⟩
  refine ws_cons (w1_if ?_)
  refine wt_not ?_
  refine wt_ch (op_leA hr) (op_ltA hr) ?_
  refine we_int ?_
  refine we_n 4 ?_
  refine ch_sh2 h (fun Q h => le_sh h fun _ h => h) (fun Q h => ?_) fun b6 h => ?_
  · refine we_gint g_THIRDS ?_
    exact lt_sh h fun _ h => h
  obtain ⟨h8, h9⟩ := h
  refine ⟨fun e10 => ?_, fun e10 => ?_⟩
  · replace h := h8 e10
    exact ws_cons (w1_raise rfl x_BadLie ⟨_, hE _ h, rfl, rfl, rfl⟩)
  · replace h := h9 e10
    refine ws_nil ?_
    exact ws_nil ⟨_, hK _ h, rfl, rfl, rfl⟩
theorem ok_stretch_start (F : FnP K "stretch_start" s_stretch_start f fd) (hm : mg "stretch_start" = some (.ref f)) (hb : Binds K fd ["spots", "leaves"] []) (m_len : mg "len" = none) :
    Has P w K mg base (k + 1) "stretch_start" ["spots", "leaves"] c_stretch_start := by
  refine fn_has F hm sc_stretch_start hb rfl ?_
  rintro cdv A outer s H E g args Φ Ψ hr hp hM hl ⟨spots, leaves, Kf, Ef, rfl, h, hK, hE⟩
  unfold f_stretch_start at h
  refine ws_env (env' := [.d spots, .d leaves, .un, .un, .un]) rfl ?_
  refine ws_cons (w1_set 2 sc_stretch_start.nd ?_)
  refine we_len m_len ?_
  refine we_n 0 ?_
  refine len_sh h fun r1 h => ?_
  refine ⟨rfl, ?_⟩
  refine ws_env (env' := [.d spots, .d leaves, .d r1, .un, .un]) rfl ?_
  refine ws_cons (w1_setKd 3 sc_stretch_start.nd (wdk_new fun a2 n_a2 => ?_))
  refine ws_env (env' := [.d spots, .d leaves, .d r1, .dk a2 [], .un]) rfl ?_
  refine ws_cons (w1_for hp rfl (pg_name (i := 4) sc_stretch_start.nd rfl (by first | exact Or.inl rfl | exact Or.inr rfl)) (tgd_name 4) ?_)
  refine wi_d ?_
  refine we_n 1 ?_
  refine ⟨rfl, it_sh h fun xs3 h => ?_⟩
  refine forS h (fun (s : (List (Key × PyData))) (u : {a : Addr // a ∉ g.M} × Sl) => [.d spots, .d leaves, .d r1, .dk u.1.1 s, u.2]) (⟨a2, n_a2⟩, (.un)) rfl ?_ ?_
  · rintro held4 ⟨⟨a5, n_a5⟩, w6⟩ h
    refine ws_env (env' := [.d spots, .d leaves, .d r1, .dk a5 held4, w6]) rfl ?_
    refine ws_cons (w1_for hp rfl (pg_name (i := 4) sc_stretch_start.nd rfl (by first | exact Or.inl rfl | exact Or.inr rfl)) (tgd_name 4) ?_)
    refine wi_d ?_
    refine we_n 1 ?_
    refine ⟨rfl, it_sh h fun xs7 h => ?_⟩
    refine forS h (fun (s : Unit) (u : Sl) => [.d spots, .d leaves, .d r1, .dk a5 held4, u]) (w6) rfl ?_ ?_
    · rintro _ w8 h
      refine ws_env (env' := [.d spots, .d leaves, .d r1, .dk a5 held4, w8]) rfl ?_
      refine ws_cons (w1_ret ?_)
      refine we_int ?_
      exact ⟨rfl, _, hK _ h, trivial, rfl, rfl, rfl⟩
    · rintro hend leaf9 _ w12 N10 h
      refine ⟨[(4, leaf9)], rfl, rfl, ?_⟩
      refine ws_env (env' := [.d spots, .d leaves, .d r1, .dk a5 held4, .d leaf9]) rfl ?_
      refine ws_cons (w1_if ?_)
      refine wt_notInKA 3 hr ?_
      refine we_mod ?_
      refine we_sub ?_
      refine we_ix ?_
      refine we_n 0 ?_
      refine we_n 4 ?_
      refine ix_sh h fun r13 h => ?_
      refine we_int ?_
      refine sub_sh h fun r14 h => ?_
      refine we_n 2 ?_
      refine mod_sh h fun r15 h => ?_
      refine ⟨rfl, inK_m h fun b16 h => ?_⟩
      obtain ⟨h17, h18⟩ := h
      refine ⟨fun e19 => ?_, fun e19 => ?_⟩
      · replace h := h17 e19
        refine ws_cons (w1_ret ?_)
        refine we_ix ?_
        refine we_n 0 ?_
        refine we_n 4 ?_
        refine ix_sh h fun r20 h => ?_
        exact ⟨rfl, _, hK _ h, trivial, rfl, rfl, rfl⟩
      · replace h := h18 e19
        refine ws_nil ?_
        exact ws_nil ⟨(), (.d leaf9), h, rfl⟩
  · rintro hend leaf21 held24 ⟨⟨a25, n_a25⟩, w26⟩ N22 h
    refine ⟨[(4, leaf21)], rfl, rfl, ?_⟩
    refine ws_env (env' := [.d spots, .d leaves, .d r1, .dk a25 held24, .d leaf21]) rfl ?_
    refine ws_cons (w1_storeKB 3 hr ?_)
    refine we_bool ?_
    refine ⟨rfl, ?_⟩
    refine we_ix ?_
    refine we_n 0 ?_
    refine we_n 4 ?_
    refine ix_sh h fun r27 h => ?_
    refine ⟨rfl, putK_m h fun kv28 h => ?_⟩
    refine ws_env (env' := [.d spots, .d leaves, .d r1, .dk a25 kv28, .d leaf21]) rfl ?_
    exact ws_nil ⟨kv28, (⟨a25, n_a25⟩, (.d leaf21)), h, rfl⟩
theorem ok_heap_from (F : FnP K "heap_from" s_heap_from f fd) (hm : mg "heap_from" = some (.ref f)) (hb : Binds K fd ["spots", "leaves", "start"] []) (m_len : mg "len" = none) (h_stretch_start : Has P w K mg base k "stretch_start" ["spots", "leaves"] c_stretch_start) (g_THIRDS : ∃ t, mg "THIRDS" = some (.int 3 t)) :
    Has P w K mg base (k + 1) "heap_from" ["spots", "leaves", "start"] c_heap_from := by
  refine fn_has F hm sc_heap_from hb rfl ?_
  rintro cdv A outer s H E g args Φ Ψ hr hp hM hl ⟨spots, leaves, start, Kf, Ef, rfl, h, hK, hE⟩
  unfold f_heap_from at h
  refine ws_env (env' := [.d spots, .d leaves, .d start, .un, .un, .un]) rfl ?_
  refine ws_cons (w1_set 3 sc_heap_from.nd ?_)
  refine we_len m_len ?_
  refine we_n 0 ?_
  refine len_sh h fun r1 h => ?_
  refine ⟨rfl, ?_⟩
  refine ws_env (env' := [.d spots, .d leaves, .d start, .d r1, .un, .un]) rfl ?_
  refine ws_cons (w1_set 4 sc_heap_from.nd ?_)
  refine we_call h_stretch_start hr ?_
  refine wa_d ?_
  refine we_n 0 ?_
  refine ⟨rfl, ?_⟩
  refine wa_d ?_
  refine we_n 1 ?_
  refine ⟨rfl, ?_⟩
  refine wa_nil ?_
  refine ⟨rfl, _, _, _, _, rfl, h, fun r2 h => ⟨rfl, _, rfl, ?_⟩, fun c hc => ⟨rfl, ⟨_, hE _ hc, rfl, rfl, rfl, rfl⟩⟩⟩
  refine ⟨rfl, ?_⟩
  refine ws_env (env' := [.d spots, .d leaves, .d start, .d r1, .d r2, .un]) rfl ?_
  refine ws_cons (w1_retN ?_)
  refine wn_lc (own := [("leaf", 5)]) rfl sc_heap_from.nd (blkOk_by (by rfl)) (fun _ _ _ _ _ => (pg_name (i := 5) sc_heap_from.nd rfl (by first | exact Or.inl rfl | exact Or.inr rfl))) (tgd_name 5) (by decide) rfl ?_
  refine wi_d ?_
  refine we_n 1 ?_
  refine ⟨rfl, it_sh h fun xs3 h => ?_⟩
  refine lcS h (fun leaf4 kp sk h => ?_) fun l5 h => ?_
  · refine ⟨[(5, leaf4)], rfl, rfl, fun g' s1 H1 C1 cl1 fp1 => ?_⟩
    refine ⟨fun _ s1 H1 C1 cl1 fp1 => ?_, fun z => by cases z⟩
    refine we_mod ?_
    refine we_add ?_
    refine we_n 2 ?_
    refine we_mod ?_
    refine we_sub ?_
    refine we_ix ?_
    refine we_n 0 ?_
    refine we_n 5 ?_
    refine ix_sh h fun r6 h => ?_
    refine we_n 4 ?_
    refine sub_sh h fun r7 h => ?_
    refine we_n 3 ?_
    refine mod_sh h fun r8 h => ?_
    refine add_sh h fun r9 h => ?_
    refine we_mulA ?_
    refine we_gint g_THIRDS ?_
    refine we_n 3 ?_
    refine mul_sh h fun r10 h => ?_
    refine mod_sh h fun r11 h => ?_
    exact ⟨rfl, h⟩
  exact ⟨_, hK _ h, trivial, rfl, rfl, rfl, rfl⟩
theorem ok_heaps_of (F : FnP K "heaps_of" s_heaps_of f fd) (hm : mg "heaps_of" = some (.ref f)) (hb : Binds K fd ["plan", "lie"] []) (h_order_of : Has P w K mg base k "order_of" ["plan"] c_order_of) (m_range : mg "range" = none) (h_round_from : Has P w K mg base k "round_from" ["faces", "start", "end"] c_round_from) (h_is_upright : Has P w K mg base k "is_upright" ["plan", "place"] c_is_upright) (h_stretch_start : Has P w K mg base k "stretch_start" ["spots", "leaves"] c_stretch_start) (g_THIRDS : ∃ t, mg "THIRDS" = some (.int 3 t)) (m_len : mg "len" = none) (h_heap_from : Has P w K mg base k "heap_from" ["spots", "leaves", "start"] c_heap_from) :
    Has P w K mg base (k + 1) "heaps_of" ["plan", "lie"] c_heaps_of := by
  refine fn_has F hm sc_heaps_of hb rfl ?_
  rintro cdv A outer s H E g args Φ Ψ hr hp hM hl ⟨plan, lie, Kf, Ef, rfl, h, hK, hE⟩
  unfold f_heaps_of at h
  refine ws_env (env' := [.d plan, .d lie, .un, .un, .un, .un, .un, .un, .un, .un, .un, .un, .un, .un, .un, .un, .un, .un]) rfl ?_
  refine ws_cons (w1_unpack (pg_tup rfl (pgs_cons (pg_name (i := 2) sc_heaps_of.nd rfl (by first | exact Or.inl rfl | exact Or.inr rfl)) (pgs_cons (pg_name (i := 3) sc_heaps_of.nd rfl (by first | exact Or.inl rfl | exact Or.inr rfl)) (pgs_cons (pg_name (i := 4) sc_heaps_of.nd rfl (by first | exact Or.inl rfl | exact Or.inr rfl)) pgs_nil)))) (tgd_tup (tgds_cons (tgd_name 2) (tgds_cons (tgd_name 3) (tgds_cons (tgd_name 4) tgds_nil))) rfl) ?_)
  refine we_n 1 ?_
  obtain ⟨top1, under2, front3, he4, h⟩ := un3_sh h
  refine ⟨rfl, [(2, top1), (3, under2), (4, front3)], (by rw [he4]; rfl), rfl, ?_⟩
  refine ws_env (env' := [.d plan, .d lie, .d top1, .d under2, .d front3, .un, .un, .un, .un, .un, .un, .un, .un, .un, .un, .un, .un, .un]) rfl ?_
  refine ws_cons (w1_set 5 sc_heaps_of.nd ?_)
  refine we_ix ?_
  refine we_n 0 ?_
  refine we_int ?_
  refine ix_sh h fun r5 h => ?_
  refine ⟨rfl, ?_⟩
  refine ws_env (env' := [.d plan, .d lie, .d top1, .d under2, .d front3, .d r5, .un, .un, .un, .un, .un, .un, .un, .un, .un, .un, .un, .un]) rfl ?_
  refine ws_cons (w1_set 6 sc_heaps_of.nd ?_)
  refine we_call h_order_of hr ?_
  refine wa_d ?_
  refine we_n 0 ?_
  refine ⟨rfl, ?_⟩
  refine wa_nil ?_
  refine ⟨rfl, _, _, _, rfl, h, fun r6 h => ⟨rfl, _, rfl, ?_⟩, fun c hc => ⟨rfl, ⟨_, hE _ hc, rfl, rfl, rfl⟩⟩⟩
  refine ⟨rfl, ?_⟩
  refine ws_env (env' := [.d plan, .d lie, .d top1, .d under2, .d front3, .d r5, .d (.list r6), .un, .un, .un, .un, .un, .un, .un, .un, .un, .un, .un]) rfl ?_
  refine ws_cons (w1_setLc 7 (own := [("leaf", 8)]) rfl sc_heaps_of.nd piS (blkOk_by (by rfl)) (fun _ _ _ _ _ => (pg_name (i := 8) sc_heaps_of.nd rfl (by first | exact Or.inl rfl | exact Or.inr rfl))) (by decide) (nt_lc (tgd_name 8) rfl ?_))
  refine wi_r1 m_range ?_
  refine we_n 5 ?_
  refine rng_sh h fun xs7 h => ?_
  refine lcS h (fun leaf8 kp sk h => ?_) fun l9 h => ?_
  · refine ⟨[(8, leaf8)], rfl, rfl, fun g' s1 H1 C1 cl1 fp1 => ?_⟩
    refine ⟨fun _ s1 H1 C1 cl1 fp1 => ?_, fun z => by cases z⟩
    refine we_index hr ?_
    refine we_n 6 ?_
    refine ⟨rfl, lstO_sh h fun l10 h => ?_⟩
    refine we_n 8 ?_
    refine ⟨rfl, index_sh h fun r11 h => ?_⟩
    exact ⟨rfl, h⟩
  refine ws_env (env' := [.d plan, .d lie, .d top1, .d under2, .d front3, .d r5, .d (.list r6), .d (.list l9), .un, .un, .un, .un, .un, .un, .un, .un, .un, .un]) rfl ?_
  refine ws_cons (w1_set 9 sc_heaps_of.nd ?_)
  refine we_call h_round_from hr ?_
  refine wa_d ?_
  refine we_n 5 ?_
  refine ⟨rfl, ?_⟩
  refine wa_d ?_
  refine we_n 2 ?_
  refine ⟨rfl, ?_⟩
  refine wa_d ?_
  refine we_n 3 ?_
  refine ⟨rfl, ?_⟩
  refine wa_nil ?_
  refine ⟨rfl, _, _, _, _, _, rfl, h, fun r12 h => ⟨rfl, _, rfl, ?_⟩, fun c hc => ⟨rfl, ⟨_, hE _ hc, rfl, rfl, rfl⟩⟩⟩
  refine ⟨rfl, ?_⟩
  refine ws_env (env' := [.d plan, .d lie, .d top1, .d under2, .d front3, .d r5, .d (.list r6), .d (.list l9), .un, .d (.list r12), .un, .un, .un, .un, .un, .un, .un, .un]) rfl ?_
  refine ws_cons (w1_set 10 sc_heaps_of.nd ?_)
  refine we_call h_round_from hr ?_
  refine wa_d ?_
  refine we_n 5 ?_
  refine ⟨rfl, ?_⟩
  refine wa_d ?_
  refine we_n 3 ?_
  refine ⟨rfl, ?_⟩
  refine wa_d ?_
  refine we_n 2 ?_
  refine ⟨rfl, ?_⟩
  refine wa_nil ?_
  refine ⟨rfl, _, _, _, _, _, rfl, h, fun r13 h => ⟨rfl, _, rfl, ?_⟩, fun c hc => ⟨rfl, ⟨_, hE _ hc, rfl, rfl, rfl⟩⟩⟩
  refine ⟨rfl, ?_⟩
  refine ws_env (env' := [.d plan, .d lie, .d top1, .d under2, .d front3, .d r5, .d (.list r6), .d (.list l9), .un, .d (.list r12), .d (.list r13), .un, .un, .un, .un, .un, .un, .un]) rfl ?_
  refine ws_cons (w1_set 11 sc_heaps_of.nd ?_)
  refine we_call h_is_upright hr ?_
  refine wa_d ?_
  refine we_n 0 ?_
  refine ⟨rfl, ?_⟩
  refine wa_d ?_
  refine we_tuple ?_
  refine wa_d ?_
  refine we_n 2 ?_
  refine ⟨rfl, ?_⟩
  refine wa_d ?_
  refine we_n 3 ?_
  refine ⟨rfl, ?_⟩
  refine wa_nil ?_
  refine ⟨_, rfl, szOk rfl, ?_⟩
  refine ⟨rfl, ?_⟩
  refine wa_nil ?_
  refine ⟨rfl, _, _, _, _, rfl, h, fun r14 h => ⟨rfl, _, rfl, ?_⟩, fun c hc => ⟨rfl, ⟨_, hE _ hc, rfl, rfl, rfl⟩⟩⟩
  refine ⟨rfl, ?_⟩
  refine ws_env (env' := [.d plan, .d lie, .d top1, .d under2, .d front3, .d r5, .d (.list r6), .d (.list l9), .un, .d (.list r12), .d (.list r13), .d r14, .un, .un, .un, .un, .un, .un]) rfl ?_
  refine ws_cons (w1_set 12 sc_heaps_of.nd ?_)
  refine we_add ?_
  refine we_ix ?_
  refine we_n 7 ?_
  refine we_n 2 ?_
  refine ix_sh h fun r15 h => ?_
  refine we_mulA ?_
  refine we_n 4 ?_
  refine we_n 5 ?_
  refine mul_sh h fun r16 h => ?_
  refine add_sh h fun r17 h => ?_
  refine ⟨rfl, ?_⟩
  refine ws_env (env' := [.d plan, .d lie, .d top1, .d under2, .d front3, .d r5, .d (.list r6), .d (.list l9), .un, .d (.list r12), .d (.list r13), .d r14, .d r17, .un, .un, .un, .un, .un]) rfl ?_
  refine ws_cons (w1_set 13 sc_heaps_of.nd ?_)
  refine we_sub ?_
  refine we_n 12 ?_
  refine we_mod ?_
  refine we_sub ?_
  refine we_ix ?_
  refine we_n 7 ?_
  refine we_n 2 ?_
  refine ix_sh h fun r18 h => ?_
  refine we_call h_stretch_start hr ?_
  refine wa_d ?_
  refine we_n 7 ?_
  refine ⟨rfl, ?_⟩
  refine wa_d ?_
  refine we_n 9 ?_
  refine ⟨rfl, ?_⟩
  refine wa_nil ?_
  refine ⟨rfl, _, _, _, _, rfl, h, fun r19 h => ⟨rfl, _, rfl, ?_⟩, fun c hc => ⟨rfl, ⟨_, hE _ hc, rfl, rfl, rfl⟩⟩⟩
  refine sub_sh h fun r20 h => ?_
  refine we_n 5 ?_
  refine mod_sh h fun r21 h => ?_
  refine sub_sh h fun r22 h => ?_
  refine ⟨rfl, ?_⟩
  refine ws_env (env' := [.d plan, .d lie, .d top1, .d under2, .d front3, .d r5, .d (.list r6), .d (.list l9), .un, .d (.list r12), .d (.list r13), .d r14, .d r17, .d r22, .un, .un, .un, .un]) rfl ?_
  refine ws_cons (w1_setN 14 sc_heaps_of.nd ?_)
  refine wn_list ?_
  refine wa_nil ?_
  refine ⟨_, rfl, szOk rfl, ?_⟩
  intro a23 n_a23
  refine ws_env (env' := [.d plan, .d lie, .d top1, .d under2, .d front3, .d r5, .d (.list r6), .d (.list l9), .un, .d (.list r12), .d (.list r13), .d r14, .d r17, .d r22, .ol a23 [], .un, .un, .un]) rfl ?_
  refine ws_cons (w1_for hp rfl (pg_name (i := 15) sc_heaps_of.nd rfl (by first | exact Or.inl rfl | exact Or.inr rfl)) (tgd_name 15) ?_)
  refine wi_r1 m_range ?_
  refine we_gint g_THIRDS ?_
  refine rng_sh h fun xs24 h => ?_
  refine forS h (fun (s : (List PyData)) (u : Sl × Sl × {a : Addr // a ∉ g.M} × Sl) => [.d plan, .d lie, .d top1, .d under2, .d front3, .d r5, .d (.list r6), .d (.list l9), .un, .d (.list r12), .d (.list r13), .d r14, .d r17, .d r22, .ol u.2.2.1.1 s, u.2.2.2, u.1, u.2.1]) ((.un), (.un), ⟨a23, n_a23⟩, (.un)) rfl ?_ ?_
  · rintro found25 ⟨w26, w27, ⟨a28, n_a28⟩, w29⟩ h
    refine ws_env (env' := [.d plan, .d lie, .d top1, .d under2, .d front3, .d r5, .d (.list r6), .d (.list l9), .un, .d (.list r12), .d (.list r13), .d r14, .d r17, .d r22, .ol a28 found25, w29, w26, w27]) rfl ?_
    exact ws_cons (w1_retO 14 rfl n_a28 ⟨_, hK _ h, trivial, rfl, rfl, rfl⟩)
  · rintro hend turn30 found33 ⟨w34, w35, ⟨a36, n_a36⟩, w37⟩ N31 h
    refine ⟨[(15, turn30)], rfl, rfl, ?_⟩
    refine ws_env (env' := [.d plan, .d lie, .d top1, .d under2, .d front3, .d r5, .d (.list r6), .d (.list l9), .un, .d (.list r12), .d (.list r13), .d r14, .d r17, .d r22, .ol a36 found33, .d turn30, w34, w35]) rfl ?_
    refine ws_joinS h (fun (s : PyData × PyData) (u : Unit) => [.d plan, .d lie, .d top1, .d under2, .d front3, .d r5, .d (.list r6), .d (.list l9), .un, .d (.list r12), .d (.list r13), .d r14, .d r17, .d r22, .ol a36 found33, .d turn30, .d s.1, .d s.2]) (fun Q h => ?_) ?_
    · refine w1_if ?_
      refine wt_e ?_
      refine we_n 11 ?_
      refine bool_sh h fun b38 h => ?_
      obtain ⟨h39, h40⟩ := h
      refine ⟨fun e41 => ?_, fun e41 => ?_⟩
      · replace h := h39 e41
        refine ws_cons (w1_set 16 sc_heaps_of.nd ?_)
        refine we_add ?_
        refine we_n 13 ?_
        refine we_mulA ?_
        refine we_n 15 ?_
        refine we_n 5 ?_
        refine mul_sh h fun r42 h => ?_
        refine add_sh h fun r43 h => ?_
        refine ⟨rfl, ?_⟩
        refine ws_env (env' := [.d plan, .d lie, .d top1, .d under2, .d front3, .d r5, .d (.list r6), .d (.list l9), .un, .d (.list r12), .d (.list r13), .d r14, .d r17, .d r22, .ol a36 found33, .d turn30, .d r43, w35]) rfl ?_
        refine ws_cons (w1_set 17 sc_heaps_of.nd ?_)
        refine we_add ?_
        refine we_n 16 ?_
        refine we_len m_len ?_
        refine we_n 9 ?_
        refine len_sh h fun r44 h => ?_
        refine add_sh h fun r45 h => ?_
        refine ⟨rfl, ?_⟩
        refine ws_env (env' := [.d plan, .d lie, .d top1, .d under2, .d front3, .d r5, .d (.list r6), .d (.list l9), .un, .d (.list r12), .d (.list r13), .d r14, .d r17, .d r22, .ol a36 found33, .d turn30, .d r43, .d r45]) rfl ?_
        exact ws_nil ⟨(r43, r45), (), h, rfl⟩
      · replace h := h40 e41
        refine ws_cons (w1_set 16 sc_heaps_of.nd ?_)
        refine we_sub ?_
        refine we_n 13 ?_
        refine we_mulA ?_
        refine we_n 15 ?_
        refine we_n 5 ?_
        refine mul_sh h fun r46 h => ?_
        refine sub_sh h fun r47 h => ?_
        refine ⟨rfl, ?_⟩
        refine ws_env (env' := [.d plan, .d lie, .d top1, .d under2, .d front3, .d r5, .d (.list r6), .d (.list l9), .un, .d (.list r12), .d (.list r13), .d r14, .d r17, .d r22, .ol a36 found33, .d turn30, .d r47, w35]) rfl ?_
        refine ws_cons (w1_set 17 sc_heaps_of.nd ?_)
        refine we_sub ?_
        refine we_n 16 ?_
        refine we_len m_len ?_
        refine we_n 10 ?_
        refine len_sh h fun r48 h => ?_
        refine sub_sh h fun r49 h => ?_
        refine ⟨rfl, ?_⟩
        refine ws_env (env' := [.d plan, .d lie, .d top1, .d under2, .d front3, .d r5, .d (.list r6), .d (.list l9), .un, .d (.list r12), .d (.list r13), .d r14, .d r17, .d r22, .ol a36 found33, .d turn30, .d r47, .d r49]) rfl ?_
        exact ws_nil ⟨(r47, r49), (), h, rfl⟩
    · rintro ⟨here50, behind51⟩ _ h
      refine ws_env (env' := [.d plan, .d lie, .d top1, .d under2, .d front3, .d r5, .d (.list r6), .d (.list l9), .un, .d (.list r12), .d (.list r13), .d r14, .d r17, .d r22, .ol a36 found33, .d turn30, .d here50, .d behind51]) rfl ?_
      refine ws_cons (w1_append 14 rfl ?_)
      refine we_call h_heap_from hr ?_
      refine wa_d ?_
      refine we_n 7 ?_
      refine ⟨rfl, ?_⟩
      refine wa_d ?_
      refine we_n 9 ?_
      refine ⟨rfl, ?_⟩
      refine wa_d ?_
      refine we_n 16 ?_
      refine ⟨rfl, ?_⟩
      refine wa_nil ?_
      refine ⟨rfl, _, _, _, _, _, rfl, h, fun r52 h => ⟨rfl, _, rfl, ?_⟩, fun c hc => ⟨rfl, ⟨_, hE _ hc, rfl, rfl, rfl⟩⟩⟩
      obtain ⟨hl53, h⟩ := h
      refine ⟨rfl, hl53, ?_⟩
      refine ws_env (env' := [.d plan, .d lie, .d top1, .d under2, .d front3, .d r5, .d (.list r6), .d (.list l9), .un, .d (.list r12), .d (.list r13), .d r14, .d r17, .d r22, .ol a36 (found33 ++ ([(.list r52)] : List PyData)), .d turn30, .d here50, .d behind51]) rfl ?_
      refine ws_cons (w1_append 14 rfl ?_)
      refine we_revD ?_
      refine we_call h_heap_from hr ?_
      refine wa_d ?_
      refine we_n 7 ?_
      refine ⟨rfl, ?_⟩
      refine wa_d ?_
      refine we_n 10 ?_
      refine ⟨rfl, ?_⟩
      refine wa_d ?_
      refine we_n 17 ?_
      refine ⟨rfl, ?_⟩
      refine wa_nil ?_
      refine ⟨rfl, _, _, _, _, _, rfl, h, fun r54 h => ⟨rfl, _, rfl, ?_⟩, fun c hc => ⟨rfl, ⟨_, hE _ hc, rfl, rfl, rfl⟩⟩⟩
      refine revD_m h fun r55 h => ?_
      obtain ⟨hl56, h⟩ := h
      refine ⟨rfl, hl56, ?_⟩
      refine ws_env (env' := [.d plan, .d lie, .d top1, .d under2, .d front3, .d r5, .d (.list r6), .d (.list l9), .un, .d (.list r12), .d (.list r13), .d r14, .d r17, .d r22, .ol a36 ((found33 ++ ([(.list r52)] : List PyData)) ++ ([r55] : List PyData)), .d turn30, .d here50, .d behind51]) rfl ?_
      exact ws_nil ⟨((found33 ++ ([(.list r52)] : List PyData)) ++ ([r55] : List PyData)), ((.d here50), (.d behind51), ⟨a36, n_a36⟩, (.d turn30)), h, rfl⟩
theorem ok_ring_of (F : FnP K "ring_of" s_ring_of f fd) (hm : mg "ring_of" = some (.ref f)) (hb : Binds K fd ["plan", "lie"] []) (h_middle_corners : Has P w K mg base k "middle_corners" ["plan", "place"] c_middle_corners) (m_enumerate : mg "enumerate" = none) (h_heaps_of : Has P w K mg base k "heaps_of" ["plan", "lie"] c_heaps_of) :
    Has P w K mg base (k + 1) "ring_of" ["plan", "lie"] c_ring_of := by
  refine fn_has F hm sc_ring_of hb rfl ?_
  rintro cdv A outer s H E g args Φ Ψ hr hp hM hl ⟨plan, lie, Kf, Ef, rfl, h, hK, hE⟩
  unfold f_ring_of at h
  refine ws_env (env' := [.d plan, .d lie, .un, .un, .un, .un, .un]) rfl ?_
  refine ws_cons (w1_set 2 sc_ring_of.nd ?_)
  refine we_call h_middle_corners hr ?_
  refine wa_d ?_
  refine we_n 0 ?_
  refine ⟨rfl, ?_⟩
  refine wa_d ?_
  refine we_slA ?_
  refine we_n 1 ?_
  refine ⟨rfl, ?_⟩
  refine wp_none ?_
  refine wp_e ?_
  refine we_int ?_
  refine ⟨_, rfl, ?_⟩
  refine sl_sh h fun r1 h => ?_
  refine ⟨rfl, ?_⟩
  refine wa_nil ?_
  refine ⟨rfl, _, _, _, _, rfl, h, fun r2 h => ⟨rfl, _, rfl, ?_⟩, fun c hc => ⟨rfl, ⟨_, hE _ hc, rfl, rfl, rfl⟩⟩⟩
  refine ⟨rfl, ?_⟩
  refine ws_env (env' := [.d plan, .d lie, .d r2, .un, .un, .un, .un]) rfl ?_
  refine ws_cons (w1_set 3 sc_ring_of.nd ?_)
  refine we_tuple ?_
  refine wa_d ?_
  refine we_str ?_
  refine ⟨rfl, ?_⟩
  refine wa_d ?_
  refine we_str ?_
  refine ⟨rfl, ?_⟩
  refine wa_nil ?_
  refine ⟨_, rfl, szOk rfl, ?_⟩
  refine ⟨rfl, ?_⟩
  refine ws_env (env' := [.d plan, .d lie, .d r2, .d (.tuple [(.str "fore"), (.str "back")]), .un, .un, .un]) rfl ?_
  refine ws_cons (w1_setN 4 sc_ring_of.nd ?_)
  refine wn_list ?_
  refine wa_nil ?_
  refine ⟨_, rfl, szOk rfl, ?_⟩
  intro a3 n_a3
  refine ws_env (env' := [.d plan, .d lie, .d r2, .d (.tuple [(.str "fore"), (.str "back")]), .ol a3 [], .un, .un]) rfl ?_
  refine ws_cons (w1_for hp rfl (pg_tup rfl (pgs_cons (pg_name (i := 5) sc_ring_of.nd rfl (by first | exact Or.inl rfl | exact Or.inr rfl)) (pgs_cons (pg_name (i := 6) sc_ring_of.nd rfl (by first | exact Or.inl rfl | exact Or.inr rfl)) pgs_nil))) (tgd_tup (tgds_cons (tgd_name 5) (tgds_cons (tgd_name 6) tgds_nil)) rfl) ?_)
  refine wi_en m_enumerate ?_
  refine we_call h_heaps_of hr ?_
  refine wa_d ?_
  refine we_n 0 ?_
  refine ⟨rfl, ?_⟩
  refine wa_d ?_
  refine we_n 1 ?_
  refine ⟨rfl, ?_⟩
  refine wa_nil ?_
  refine ⟨rfl, _, _, _, _, rfl, h, fun r5 h => ⟨rfl, _, rfl, ?_⟩, fun c hc => ⟨rfl, ⟨_, hE _ hc, rfl, rfl, rfl⟩⟩⟩
  refine ⟨rfl, enu_sh h fun xs4 h => ?_⟩
  refine forS h (fun (s : (List PyData)) (u : {a : Addr // a ∉ g.M} × Sl × Sl) => [.d plan, .d lie, .d r2, .d (.tuple [(.str "fore"), (.str "back")]), .ol u.1.1 s, u.2.1, u.2.2]) (⟨a3, n_a3⟩, (.un), (.un)) rfl ?_ ?_
  · rintro found6 ⟨⟨a7, n_a7⟩, w8, w9⟩ h
    refine ws_env (env' := [.d plan, .d lie, .d r2, .d (.tuple [(.str "fore"), (.str "back")]), .ol a7 found6, w8, w9]) rfl ?_
    exact ws_cons (w1_retO 4 rfl n_a7 ⟨_, hK _ h, trivial, rfl, rfl, rfl⟩)
  · rintro hend p10 found13 ⟨⟨a14, n_a14⟩, w15, w16⟩ N11 h
    obtain ⟨slot17, heap18, he19, h⟩ := un2_sh h
    refine ⟨[(5, slot17), (6, heap18)], (by rw [he19]; rfl), rfl, ?_⟩
    refine ws_env (env' := [.d plan, .d lie, .d r2, .d (.tuple [(.str "fore"), (.str "back")]), .ol a14 found13, .d slot17, .d heap18]) rfl ?_
    refine ws_cons (w1_append 4 rfl ?_)
    refine we_tuple ?_
    refine wa_d ?_
    refine we_ix ?_
    refine we_n 6 ?_
    refine we_int ?_
    refine ix_sh h fun r20 h => ?_
    refine ⟨rfl, ?_⟩
    refine wa_d ?_
    refine we_ix ?_
    refine we_n 3 ?_
    refine we_mod ?_
    refine we_n 5 ?_
    refine we_int ?_
    refine mod_sh h fun r21 h => ?_
    refine ix_sh h fun r22 h => ?_
    refine ⟨rfl, ?_⟩
    refine wa_d ?_
    refine we_ix ?_
    refine we_n 2 ?_
    refine we_mod ?_
    refine we_n 5 ?_
    refine we_int ?_
    refine mod_sh h fun r23 h => ?_
    refine ix_sh h fun r24 h => ?_
    refine ⟨rfl, ?_⟩
    refine wa_nil ?_
    refine ⟨_, rfl, szOk rfl, ?_⟩
    obtain ⟨hl25, h⟩ := h
    refine ⟨rfl, hl25, ?_⟩
    refine ws_env (env' := [.d plan, .d lie, .d r2, .d (.tuple [(.str "fore"), (.str "back")]), .ol a14 (found13 ++ ([(.tuple [r20, r22, r24])] : List PyData)), .d slot17, .d heap18]) rfl ?_
    exact ws_nil ⟨(found13 ++ ([(.tuple [r20, r22, r24])] : List PyData)), (⟨a14, n_a14⟩, (.d slot17), (.d heap18)), h, rfl⟩
theorem ok_ring (F : FnP K "ring" s_ring f fd) (hm : mg "ring" = some (.ref f)) (hb : Binds K fd ["plan", "lie"] []) (h_need_lie : Has P w K mg base k "need_lie" ["plan", "lie"] c_need_lie) (h_ring_of : Has P w K mg base k "ring_of" ["plan", "lie"] c_ring_of) :
    Has P w K mg base (k + 1) "ring" ["plan", "lie"] c_ring := by
  refine fn_has F hm sc_ring hb rfl ?_
  rintro cdv A outer s H E g args Φ Ψ hr hp hM hl ⟨plan, lie, Kf, Ef, rfl, h, hK, hE⟩
  unfold f_ring at h
  refine ws_env (env' := [.d plan, .d lie]) rfl ?_
  refine ws_cons (w1_expr ?_)
  refine we_call h_need_lie hr ?_
  refine wa_d ?_
  refine we_n 0 ?_
  refine ⟨rfl, ?_⟩
  refine wa_d ?_
  refine we_n 1 ?_
  refine ⟨rfl, ?_⟩
  refine wa_nil ?_
  refine ⟨rfl, _, _, _, _, rfl, h, fun r1 h => ⟨rfl, _, rfl, ?_⟩, fun c hc => ⟨rfl, ⟨_, hE _ hc, rfl, rfl, rfl⟩⟩⟩
  refine ws_cons (w1_retN ?_)
  refine wn_call h_ring_of hr ?_
  refine wa_d ?_
  refine we_n 0 ?_
  refine ⟨rfl, ?_⟩
  refine wa_d ?_
  refine we_n 1 ?_
  refine ⟨rfl, ?_⟩
  refine wa_nil ?_
  refine ⟨rfl, _, _, _, _, rfl, h, fun r2 h => ⟨rfl, _, rfl, ?_⟩, fun c hc => ⟨rfl, ⟨_, hE _ hc, rfl, rfl, rfl⟩⟩⟩
  exact ⟨_, hK _ h, trivial, rfl, rfl, rfl⟩
theorem ok_turned_lie (F : FnP K "turned_lie" s_turned_lie f fd) (hm : mg "turned_lie" = some (.ref f)) (hb : Binds K fd ["lie"] [])  :
    Has P w K mg base (k + 1) "turned_lie" ["lie"] c_turned_lie := by
  refine fn_has F hm sc_turned_lie hb rfl ?_
  rintro cdv A outer s H E g args Φ Ψ hr hp hM hl ⟨lie, Kf, Ef, rfl, h, hK, hE⟩
  unfold f_turned_lie at h
  refine ws_env (env' := [.d lie, .un, .un, .un]) rfl ?_
  refine ws_cons (w1_unpack (pg_tup rfl (pgs_cons (pg_name (i := 1) sc_turned_lie.nd rfl (by first | exact Or.inl rfl | exact Or.inr rfl)) (pgs_cons (pg_name (i := 2) sc_turned_lie.nd rfl (by first | exact Or.inl rfl | exact Or.inr rfl)) (pgs_cons (pg_name (i := 3) sc_turned_lie.nd rfl (by first | exact Or.inl rfl | exact Or.inr rfl)) pgs_nil)))) (tgd_tup (tgds_cons (tgd_name 1) (tgds_cons (tgd_name 2) (tgds_cons (tgd_name 3) tgds_nil))) rfl) ?_)
  refine we_n 0 ?_
  obtain ⟨top1, under2, front3, he4, h⟩ := un3_sh h
  refine ⟨rfl, [(1, top1), (2, under2), (3, front3)], (by rw [he4]; rfl), rfl, ?_⟩
  refine ws_env (env' := [.d lie, .d top1, .d under2, .d front3]) rfl ?_
  refine ws_cons (w1_ret ?_)
  refine we_tuple ?_
  refine wa_d ?_
  refine we_n 2 ?_
  refine ⟨rfl, ?_⟩
  refine wa_d ?_
  refine we_n 1 ?_
  refine ⟨rfl, ?_⟩
  refine wa_d ?_
  refine we_n 3 ?_
  refine ⟨rfl, ?_⟩
  refine wa_nil ?_
  refine ⟨_, rfl, szOk rfl, ?_⟩
  exact ⟨rfl, _, hK _ h, trivial, rfl, rfl⟩
theorem ok_beneath (F : FnP K "beneath" s_beneath f fd) (hm : mg "beneath" = some (.ref f)) (hb : Binds K fd ["plan", "lie"] []) (h_need_lie : Has P w K mg base k "need_lie" ["plan", "lie"] c_need_lie) (h_ring_of : Has P w K mg base k "ring_of" ["plan", "lie"] c_ring_of) (h_turned_lie : Has P w K mg base k "turned_lie" ["lie"] c_turned_lie) :
    Has P w K mg base (k + 1) "beneath" ["plan", "lie"] c_beneath := by
  refine fn_has F hm sc_beneath hb rfl ?_
  rintro cdv A outer s H E g args Φ Ψ hr hp hM hl ⟨plan, lie, Kf, Ef, rfl, h, hK, hE⟩
  unfold f_beneath at h
  refine ws_env (env' := [.d plan, .d lie]) rfl ?_
  refine ws_cons (w1_expr ?_)
  refine we_call h_need_lie hr ?_
  refine wa_d ?_
  refine we_n 0 ?_
  refine ⟨rfl, ?_⟩
  refine wa_d ?_
  refine we_n 1 ?_
  refine ⟨rfl, ?_⟩
  refine wa_nil ?_
  refine ⟨rfl, _, _, _, _, rfl, h, fun r1 h => ⟨rfl, _, rfl, ?_⟩, fun c hc => ⟨rfl, ⟨_, hE _ hc, rfl, rfl, rfl⟩⟩⟩
  refine ws_cons (w1_retN ?_)
  refine wn_call h_ring_of hr ?_
  refine wa_d ?_
  refine we_n 0 ?_
  refine ⟨rfl, ?_⟩
  refine wa_d ?_
  refine we_call h_turned_lie hr ?_
  refine wa_d ?_
  refine we_n 1 ?_
  refine ⟨rfl, ?_⟩
  refine wa_nil ?_
  refine ⟨rfl, _, _, _, rfl, h, fun r2 h => ⟨rfl, _, rfl, ?_⟩, fun c hc => ⟨rfl, ⟨_, hE _ hc, rfl, rfl, rfl⟩⟩⟩
  refine ⟨rfl, ?_⟩
  refine wa_nil ?_
  refine ⟨rfl, _, _, _, _, rfl, h, fun r3 h => ⟨rfl, _, rfl, ?_⟩, fun c hc => ⟨rfl, ⟨_, hE _ hc, rfl, rfl, rfl⟩⟩⟩
  exact ⟨_, hK _ h, trivial, rfl, rfl, rfl⟩
theorem ok_heaps (F : FnP K "heaps" s_heaps f fd) (hm : mg "heaps" = some (.ref f)) (hb : Binds K fd ["plan", "lie"] []) (h_need_lie : Has P w K mg base k "need_lie" ["plan", "lie"] c_need_lie) (h_heaps_of : Has P w K mg base k "heaps_of" ["plan", "lie"] c_heaps_of) :
    Has P w K mg base (k + 1) "heaps" ["plan", "lie"] c_heaps := by
  refine fn_has F hm sc_heaps hb rfl ?_
  rintro cdv A outer s H E g args Φ Ψ hr hp hM hl ⟨plan, lie, Kf, Ef, rfl, h, hK, hE⟩
  unfold f_heaps at h
  refine ws_env (env' := [.d plan, .d lie]) rfl ?_
  refine ws_cons (w1_expr ?_)
  refine we_call h_need_lie hr ?_
  refine wa_d ?_
  refine we_n 0 ?_
  refine ⟨rfl, ?_⟩
  refine wa_d ?_
  refine we_n 1 ?_
  refine ⟨rfl, ?_⟩
  refine wa_nil ?_
  refine ⟨rfl, _, _, _, _, rfl, h, fun r1 h => ⟨rfl, _, rfl, ?_⟩, fun c hc => ⟨rfl, ⟨_, hE _ hc, rfl, rfl, rfl⟩⟩⟩
  refine ws_cons (w1_retN ?_)
  refine wn_call h_heaps_of hr ?_
  refine wa_d ?_
  refine we_n 0 ?_
  refine ⟨rfl, ?_⟩
  refine wa_d ?_
  refine we_n 1 ?_
  refine ⟨rfl, ?_⟩
  refine wa_nil ?_
  refine ⟨rfl, _, _, _, _, rfl, h, fun r2 h => ⟨rfl, _, rfl, ?_⟩, fun c hc => ⟨rfl, ⟨_, hE _ hc, rfl, rfl, rfl⟩⟩⟩
  exact ⟨_, hK _ h, trivial, rfl, rfl, rfl⟩
theorem ok__law_plan_door (F : FnP K "_law_plan_door" s__law_plan_door f fd) (hm : mg "_law_plan_door" = some (.ref f)) (hb : Binds K fd ["_law_which", "_law_plan_here"] []) (h_lines : Has P w K mg base k "lines" ["plan"] c_lines) (h_parts : Has P w K mg base k "parts" ["plan"] c_parts) (h_fan : Has P w K mg base k "fan" ["plan", "face"] c_fan) (h_turned : Has P w K mg base k "turned" ["plan", "shift"] c_turned) (h_mirrored : Has P w K mg base k "mirrored" ["plan"] c_mirrored) (h_alike : Has P w K mg base k "alike" ["one", "other"] c_alike) (h_first_form : Has P w K mg base k "first_form" ["plan"] c_first_form) (h_number_of : Has P w K mg base k "number_of" ["plan"] c_number_of) (h_places : Has P w K mg base k "places" ["plan"] c_places) (h_third : Has P w K mg base k "third" ["plan", "place", "way"] c_third) (h_pinch : Has P w K mg base k "pinch" ["plan", "place", "way"] c_pinch) (h_unpinch : Has P w K mg base k "unpinch" ["plan", "place", "way"] c_unpinch) (h_over : Has P w K mg base k "over" ["plan", "place"] c_over) (h_stacks : Has P w K mg base k "stacks" ["plan", "place"] c_stacks) (h_upright : Has P w K mg base k "upright" ["plan", "place"] c_upright) (h_strip_order : Has P w K mg base k "strip_order" ["plan"] c_strip_order) (h_row_of : Has P w K mg base k "row_of" ["plan"] c_row_of) (h_road : Has P w K mg base k "road" ["plan", "place", "other"] c_road) (h_walked : Has P w K mg base k "walked" ["plan", "place", "steps"] c_walked) (h_tour : Has P w K mg base k "tour" ["plan", "place"] c_tour) (h_middles : Has P w K mg base k "middles" ["plan", "place"] c_middles) (h_ring : Has P w K mg base k "ring" ["plan", "lie"] c_ring) (h_beneath : Has P w K mg base k "beneath" ["plan", "lie"] c_beneath) (h_heaps : Has P w K mg base k "heaps" ["plan", "lie"] c_heaps) (lt : LTab K mg base fd "_law_plan_door.<locals>.<lambda>") (xg_BadPlan : mg "BadPlan" = some (.ref (He.ga K "BadPlan"))) (xm_BadPlan : ∀ m ∈ (["BadPlan", "BadFace", "BadPlace", "BadWay", "NoPinch", "BadLie", "BadStep"] : List Str), ExM K (.own m) "BadPlan" = some (isE m "BadPlan")) (xg_PinchError : mg "PinchError" = some (.ref (He.ga K "PinchError"))) (xm_PinchError : ∀ m ∈ (["BadPlan", "BadFace", "BadPlace", "BadWay", "NoPinch", "BadLie", "BadStep"] : List Str), ExM K (.own m) "PinchError" = some (isE m "PinchError")) :
    Has P w K mg base (k + 3) "_law_plan_door" ["_law_which", "_law_plan_here"] c__law_plan_door := by
  refine fn_hasL F hm sc__law_plan_door hb rfl ?_
  rintro cdv A outer s H E g args Φ Ψ hr hp hM hl ⟨l_which, l_plan_here, Kf, Ef, rfl, h, hK, hE⟩ hcd
  refine ws_lh lt hcd fun c0 T0 lh => ?_
  unfold f__law_plan_door at h
  refine ws_env (env' := [.d l_which, .d l_plan_here, .un, .un, .un]) rfl ?_
  refine ws_cons (w1_lams 2 sc__law_plan_door.nd ⟨lh.tb, lh.code, lh.mem, lh.uq⟩ (.cons lamOk_by (.cons lamOk_by (.cons lamOk_by (.cons lamOk_by (.cons lamOk_by (.cons lamOk_by (.cons lamOk_by (.cons lamOk_by (.cons lamOk_by (.cons lamOk_by (.cons lamOk_by (.cons lamOk_by (.cons lamOk_by (.cons lamOk_by (.cons lamOk_by (.cons lamOk_by (.cons lamOk_by (.cons lamOk_by (.cons lamOk_by (.cons lamOk_by (.cons lamOk_by (.cons lamOk_by (.cons lamOk_by (.cons lamOk_by (.cons lamOk_by .nil))))))))))))))))))))))))) fun ls1 hls2 => ?_)
  refine ws_env (env' := [.d l_which, .d l_plan_here, .fl ls1, .un, .un]) rfl ?_
  refine ws_cons (w1_set 3 sc__law_plan_door.nd ?_)
  refine we_str ?_
  refine ⟨rfl, ?_⟩
  refine ws_env (env' := [.d l_which, .d l_plan_here, .fl ls1, .d (.str "told"), .un]) rfl ?_
  refine ws_joinS h (fun (s : PyData) (u : Sl) => [.d l_which, .d l_plan_here, .fl ls1, .d s, u]) (fun Q h => ?_) ?_
  · refine w1_tryW (fun (u : Sl) => [.d l_which, .d l_plan_here, .fl ls1, .d (.str "told"), u]) h (.cons ⟨rfl, rfl, Or.inl xg_BadPlan⟩ (.cons ⟨rfl, rfl, Or.inl xg_PinchError⟩ .nil)) (fun w8 m3 hm4 h => ?_) (fun h pn5 xe6 F7 hp => ?_)
    · obtain ⟨h9, h10⟩ := h
      refine ⟨_, xm_BadPlan m3 hm4, fun e11 a12 q13 pn14 => ?_, fun e11 => ?_⟩
      · replace h := h9 e11
        refine ws_cons (w1_set 3 sc__law_plan_door.nd ?_)
        refine we_str ?_
        refine ⟨rfl, ?_⟩
        refine ws_env (env' := [.d l_which, .d l_plan_here, .fl ls1, .d (.str "BadPlan"), w8]) rfl ?_
        exact ws_nil ⟨(.str "BadPlan"), (w8), h, rfl⟩
      replace h := h10 e11
      obtain ⟨h15, h16⟩ := h
      refine ⟨_, xm_PinchError m3 hm4, fun e17 a18 q19 pn20 => ?_, fun e17 => ?_⟩
      · replace h := h15 e17
        refine ws_cons (w1_set 3 sc__law_plan_door.nd ?_)
        refine we_str ?_
        refine ⟨rfl, ?_⟩
        refine ws_env (env' := [.d l_which, .d l_plan_here, .fl ls1, .d (.str "other"), w8]) rfl ?_
        exact ws_nil ⟨(.str "other"), (w8), h, rfl⟩
      replace h := h16 e17
      exact ⟨_, hE _ h, rfl, rfl, rfl⟩
    · refine ws_cons (w1_lamAtN 2 4 0 h hls2 sc__law_plan_door.nd (.cons (fun h l22 hl23 => ?_) (.cons (fun h l24 hl25 => ?_) (.cons (fun h l26 hl27 => ?_) (.cons (fun h l28 hl29 => ?_) (.cons (fun h l30 hl31 => ?_) (.cons (fun h l32 hl33 => ?_) (.cons (fun h l34 hl35 => ?_) (.cons (fun h l36 hl37 => ?_) (.cons (fun h l38 hl39 => ?_) (.cons (fun h l40 hl41 => ?_) (.cons (fun h l42 hl43 => ?_) (.cons (fun h l44 hl45 => ?_) (.cons (fun h l46 hl47 => ?_) (.cons (fun h l48 hl49 => ?_) (.cons (fun h l50 hl51 => ?_) (.cons (fun h l52 hl53 => ?_) (.cons (fun h l54 hl55 => ?_) (.cons (fun h l56 hl57 => ?_) (.cons (fun h l58 hl59 => ?_) (.cons (fun h l60 hl61 => ?_) (.cons (fun h l62 hl63 => ?_) (.cons (fun h l64 hl65 => ?_) (.cons (fun h l66 hl67 => ?_) (.cons (fun h l68 hl69 => ?_) (.cons (fun h l70 hl71 => ?_) .nil))))))))))))))))))))))))))
      · refine ws_env (env' := [.d l_which, .d l_plan_here, .fl ls1, .d (.str "told"), .fv l22]) rfl ?_
        refine ws_cons (w1_expr ?_)
        have hro72 := hr
        refine we_callN 4 hl23 hr ?_
        intro A outer s H E f c hr
        refine we_call h_lines hr ?_
        refine wa_d ?_
        refine we_n 1 ?_
        refine ⟨rfl, ?_⟩
        refine wa_nil ?_
        refine ⟨rfl, _, _, _, rfl, h, fun r73 h => ⟨rfl, _, rfl, ?_⟩, fun c hc => ⟨rfl, ⟨hc, (.fv l22), rfl⟩⟩⟩
        have hr := hro72
        exact ws_nil ⟨(.str "told"), (.fv l22), h, rfl⟩
      · refine ws_env (env' := [.d l_which, .d l_plan_here, .fl ls1, .d (.str "told"), .fv l24]) rfl ?_
        refine ws_cons (w1_expr ?_)
        have hro74 := hr
        refine we_callN 4 hl25 hr ?_
        intro A outer s H E f c hr
        refine we_call h_parts hr ?_
        refine wa_d ?_
        refine we_n 1 ?_
        refine ⟨rfl, ?_⟩
        refine wa_nil ?_
        refine ⟨rfl, _, _, _, rfl, h, fun r75 h => ⟨rfl, _, rfl, ?_⟩, fun c hc => ⟨rfl, ⟨hc, (.fv l24), rfl⟩⟩⟩
        have hr := hro74
        exact ws_nil ⟨(.str "told"), (.fv l24), h, rfl⟩
      · refine ws_env (env' := [.d l_which, .d l_plan_here, .fl ls1, .d (.str "told"), .fv l26]) rfl ?_
        refine ws_cons (w1_expr ?_)
        have hro76 := hr
        refine we_callN 4 hl27 hr ?_
        intro A outer s H E f c hr
        refine we_call h_fan hr ?_
        refine wa_d ?_
        refine we_n 1 ?_
        refine ⟨rfl, ?_⟩
        refine wa_d ?_
        refine we_int ?_
        refine ⟨rfl, ?_⟩
        refine wa_nil ?_
        refine ⟨rfl, _, _, _, _, rfl, h, fun r77 h => ⟨rfl, _, rfl, ?_⟩, fun c hc => ⟨rfl, ⟨hc, (.fv l26), rfl⟩⟩⟩
        have hr := hro76
        exact ws_nil ⟨(.str "told"), (.fv l26), h, rfl⟩
      · refine ws_env (env' := [.d l_which, .d l_plan_here, .fl ls1, .d (.str "told"), .fv l28]) rfl ?_
        refine ws_cons (w1_expr ?_)
        have hro78 := hr
        refine we_callN 4 hl29 hr ?_
        intro A outer s H E f c hr
        refine we_call h_turned hr ?_
        refine wa_d ?_
        refine we_n 1 ?_
        refine ⟨rfl, ?_⟩
        refine wa_d ?_
        refine we_int ?_
        refine ⟨rfl, ?_⟩
        refine wa_nil ?_
        refine ⟨rfl, _, _, _, _, rfl, h, fun r79 h => ⟨rfl, _, rfl, ?_⟩, fun c hc => ⟨rfl, ⟨hc, (.fv l28), rfl⟩⟩⟩
        have hr := hro78
        exact ws_nil ⟨(.str "told"), (.fv l28), h, rfl⟩
      · refine ws_env (env' := [.d l_which, .d l_plan_here, .fl ls1, .d (.str "told"), .fv l30]) rfl ?_
        refine ws_cons (w1_expr ?_)
        have hro80 := hr
        refine we_callN 4 hl31 hr ?_
        intro A outer s H E f c hr
        refine we_call h_mirrored hr ?_
        refine wa_d ?_
        refine we_n 1 ?_
        refine ⟨rfl, ?_⟩
        refine wa_nil ?_
        refine ⟨rfl, _, _, _, rfl, h, fun r81 h => ⟨rfl, _, rfl, ?_⟩, fun c hc => ⟨rfl, ⟨hc, (.fv l30), rfl⟩⟩⟩
        have hr := hro80
        exact ws_nil ⟨(.str "told"), (.fv l30), h, rfl⟩
      · refine ws_env (env' := [.d l_which, .d l_plan_here, .fl ls1, .d (.str "told"), .fv l32]) rfl ?_
        refine ws_cons (w1_expr ?_)
        have hro82 := hr
        refine we_callN 4 hl33 hr ?_
        intro A outer s H E f c hr
        refine we_call h_alike hr ?_
        refine wa_d ?_
        refine we_n 1 ?_
        refine ⟨rfl, ?_⟩
        refine wa_d ?_
        refine we_tuple ?_
        refine wa_d ?_
        refine we_int ?_
        refine ⟨rfl, ?_⟩
        refine wa_d ?_
        refine we_tuple ?_
        refine wa_nil ?_
        refine ⟨_, rfl, szOk rfl, ?_⟩
        refine ⟨rfl, ?_⟩
        refine wa_nil ?_
        refine ⟨_, rfl, szOk rfl, ?_⟩
        refine ⟨rfl, ?_⟩
        refine wa_nil ?_
        refine ⟨rfl, _, _, _, _, rfl, h, fun r83 h => ⟨rfl, _, rfl, ?_⟩, fun c hc => ⟨rfl, ⟨hc, (.fv l32), rfl⟩⟩⟩
        have hr := hro82
        exact ws_nil ⟨(.str "told"), (.fv l32), h, rfl⟩
      · refine ws_env (env' := [.d l_which, .d l_plan_here, .fl ls1, .d (.str "told"), .fv l34]) rfl ?_
        refine ws_cons (w1_expr ?_)
        have hro84 := hr
        refine we_callN 4 hl35 hr ?_
        intro A outer s H E f c hr
        refine we_call h_alike hr ?_
        refine wa_d ?_
        refine we_tuple ?_
        refine wa_d ?_
        refine we_int ?_
        refine ⟨rfl, ?_⟩
        refine wa_d ?_
        refine we_tuple ?_
        refine wa_nil ?_
        refine ⟨_, rfl, szOk rfl, ?_⟩
        refine ⟨rfl, ?_⟩
        refine wa_nil ?_
        refine ⟨_, rfl, szOk rfl, ?_⟩
        refine ⟨rfl, ?_⟩
        refine wa_d ?_
        refine we_n 1 ?_
        refine ⟨rfl, ?_⟩
        refine wa_nil ?_
        refine ⟨rfl, _, _, _, _, rfl, h, fun r85 h => ⟨rfl, _, rfl, ?_⟩, fun c hc => ⟨rfl, ⟨hc, (.fv l34), rfl⟩⟩⟩
        have hr := hro84
        exact ws_nil ⟨(.str "told"), (.fv l34), h, rfl⟩
      · refine ws_env (env' := [.d l_which, .d l_plan_here, .fl ls1, .d (.str "told"), .fv l36]) rfl ?_
        refine ws_cons (w1_expr ?_)
        have hro86 := hr
        refine we_callN 4 hl37 hr ?_
        intro A outer s H E f c hr
        refine we_call h_first_form hr ?_
        refine wa_d ?_
        refine we_n 1 ?_
        refine ⟨rfl, ?_⟩
        refine wa_nil ?_
        refine ⟨rfl, _, _, _, rfl, h, fun r87 h => ⟨rfl, _, rfl, ?_⟩, fun c hc => ⟨rfl, ⟨hc, (.fv l36), rfl⟩⟩⟩
        have hr := hro86
        exact ws_nil ⟨(.str "told"), (.fv l36), h, rfl⟩
      · refine ws_env (env' := [.d l_which, .d l_plan_here, .fl ls1, .d (.str "told"), .fv l38]) rfl ?_
        refine ws_cons (w1_expr ?_)
        have hro88 := hr
        refine we_callN 4 hl39 hr ?_
        intro A outer s H E f c hr
        refine we_call h_number_of hr ?_
        refine wa_d ?_
        refine we_n 1 ?_
        refine ⟨rfl, ?_⟩
        refine wa_nil ?_
        refine ⟨rfl, _, _, _, rfl, h, fun r89 h => ⟨rfl, _, rfl, ?_⟩, fun c hc => ⟨rfl, ⟨hc, (.fv l38), rfl⟩⟩⟩
        have hr := hro88
        exact ws_nil ⟨(.str "told"), (.fv l38), h, rfl⟩
      · refine ws_env (env' := [.d l_which, .d l_plan_here, .fl ls1, .d (.str "told"), .fv l40]) rfl ?_
        refine ws_cons (w1_expr ?_)
        have hro90 := hr
        refine we_callN 4 hl41 hr ?_
        intro A outer s H E f c hr
        refine we_call h_places hr ?_
        refine wa_d ?_
        refine we_n 1 ?_
        refine ⟨rfl, ?_⟩
        refine wa_nil ?_
        refine ⟨rfl, _, _, _, rfl, h, fun r91 h => ⟨rfl, _, rfl, ?_⟩, fun c hc => ⟨rfl, ⟨hc, (.fv l40), rfl⟩⟩⟩
        have hr := hro90
        exact ws_nil ⟨(.str "told"), (.fv l40), h, rfl⟩
      · refine ws_env (env' := [.d l_which, .d l_plan_here, .fl ls1, .d (.str "told"), .fv l42]) rfl ?_
        refine ws_cons (w1_expr ?_)
        have hro92 := hr
        refine we_callN 4 hl43 hr ?_
        intro A outer s H E f c hr
        refine we_call h_third hr ?_
        refine wa_d ?_
        refine we_n 1 ?_
        refine ⟨rfl, ?_⟩
        refine wa_d ?_
        refine we_tuple ?_
        refine wa_d ?_
        refine we_int ?_
        refine ⟨rfl, ?_⟩
        refine wa_d ?_
        refine we_int ?_
        refine ⟨rfl, ?_⟩
        refine wa_nil ?_
        refine ⟨_, rfl, szOk rfl, ?_⟩
        refine ⟨rfl, ?_⟩
        refine wa_d ?_
        refine we_str ?_
        refine ⟨rfl, ?_⟩
        refine wa_nil ?_
        refine ⟨rfl, _, _, _, _, _, rfl, h, fun r93 h => ⟨rfl, _, rfl, ?_⟩, fun c hc => ⟨rfl, ⟨hc, (.fv l42), rfl⟩⟩⟩
        have hr := hro92
        exact ws_nil ⟨(.str "told"), (.fv l42), h, rfl⟩
      · refine ws_env (env' := [.d l_which, .d l_plan_here, .fl ls1, .d (.str "told"), .fv l44]) rfl ?_
        refine ws_cons (w1_expr ?_)
        have hro94 := hr
        refine we_callN 4 hl45 hr ?_
        intro A outer s H E f c hr
        refine we_call h_pinch hr ?_
        refine wa_d ?_
        refine we_n 1 ?_
        refine ⟨rfl, ?_⟩
        refine wa_d ?_
        refine we_tuple ?_
        refine wa_d ?_
        refine we_int ?_
        refine ⟨rfl, ?_⟩
        refine wa_d ?_
        refine we_int ?_
        refine ⟨rfl, ?_⟩
        refine wa_nil ?_
        refine ⟨_, rfl, szOk rfl, ?_⟩
        refine ⟨rfl, ?_⟩
        refine wa_d ?_
        refine we_str ?_
        refine ⟨rfl, ?_⟩
        refine wa_nil ?_
        refine ⟨rfl, _, _, _, _, _, rfl, h, fun r95 h => ⟨rfl, _, rfl, ?_⟩, fun c hc => ⟨rfl, ⟨hc, (.fv l44), rfl⟩⟩⟩
        have hr := hro94
        exact ws_nil ⟨(.str "told"), (.fv l44), h, rfl⟩
      · refine ws_env (env' := [.d l_which, .d l_plan_here, .fl ls1, .d (.str "told"), .fv l46]) rfl ?_
        refine ws_cons (w1_expr ?_)
        have hro96 := hr
        refine we_callN 4 hl47 hr ?_
        intro A outer s H E f c hr
        refine we_call h_unpinch hr ?_
        refine wa_d ?_
        refine we_n 1 ?_
        refine ⟨rfl, ?_⟩
        refine wa_d ?_
        refine we_tuple ?_
        refine wa_d ?_
        refine we_int ?_
        refine ⟨rfl, ?_⟩
        refine wa_d ?_
        refine we_int ?_
        refine ⟨rfl, ?_⟩
        refine wa_nil ?_
        refine ⟨_, rfl, szOk rfl, ?_⟩
        refine ⟨rfl, ?_⟩
        refine wa_d ?_
        refine we_str ?_
        refine ⟨rfl, ?_⟩
        refine wa_nil ?_
        refine ⟨rfl, _, _, _, _, _, rfl, h, fun r97 h => ⟨rfl, _, rfl, ?_⟩, fun c hc => ⟨rfl, ⟨hc, (.fv l46), rfl⟩⟩⟩
        have hr := hro96
        exact ws_nil ⟨(.str "told"), (.fv l46), h, rfl⟩
      · refine ws_env (env' := [.d l_which, .d l_plan_here, .fl ls1, .d (.str "told"), .fv l48]) rfl ?_
        refine ws_cons (w1_expr ?_)
        have hro98 := hr
        refine we_callN 4 hl49 hr ?_
        intro A outer s H E f c hr
        refine we_call h_over hr ?_
        refine wa_d ?_
        refine we_n 1 ?_
        refine ⟨rfl, ?_⟩
        refine wa_d ?_
        refine we_tuple ?_
        refine wa_d ?_
        refine we_int ?_
        refine ⟨rfl, ?_⟩
        refine wa_d ?_
        refine we_int ?_
        refine ⟨rfl, ?_⟩
        refine wa_nil ?_
        refine ⟨_, rfl, szOk rfl, ?_⟩
        refine ⟨rfl, ?_⟩
        refine wa_nil ?_
        refine ⟨rfl, _, _, _, _, rfl, h, fun r99 h => ⟨rfl, _, rfl, ?_⟩, fun c hc => ⟨rfl, ⟨hc, (.fv l48), rfl⟩⟩⟩
        have hr := hro98
        exact ws_nil ⟨(.str "told"), (.fv l48), h, rfl⟩
      · refine ws_env (env' := [.d l_which, .d l_plan_here, .fl ls1, .d (.str "told"), .fv l50]) rfl ?_
        refine ws_cons (w1_expr ?_)
        have hro100 := hr
        refine we_callN 4 hl51 hr ?_
        intro A outer s H E f c hr
        refine we_call h_stacks hr ?_
        refine wa_d ?_
        refine we_n 1 ?_
        refine ⟨rfl, ?_⟩
        refine wa_d ?_
        refine we_tuple ?_
        refine wa_d ?_
        refine we_int ?_
        refine ⟨rfl, ?_⟩
        refine wa_d ?_
        refine we_int ?_
        refine ⟨rfl, ?_⟩
        refine wa_nil ?_
        refine ⟨_, rfl, szOk rfl, ?_⟩
        refine ⟨rfl, ?_⟩
        refine wa_nil ?_
        refine ⟨rfl, _, _, _, _, rfl, h, fun r101 h => ⟨rfl, _, rfl, ?_⟩, fun c hc => ⟨rfl, ⟨hc, (.fv l50), rfl⟩⟩⟩
        have hr := hro100
        exact ws_nil ⟨(.str "told"), (.fv l50), h, rfl⟩
      · refine ws_env (env' := [.d l_which, .d l_plan_here, .fl ls1, .d (.str "told"), .fv l52]) rfl ?_
        refine ws_cons (w1_expr ?_)
        have hro102 := hr
        refine we_callN 4 hl53 hr ?_
        intro A outer s H E f c hr
        refine we_call h_upright hr ?_
        refine wa_d ?_
        refine we_n 1 ?_
        refine ⟨rfl, ?_⟩
        refine wa_d ?_
        refine we_tuple ?_
        refine wa_d ?_
        refine we_int ?_
        refine ⟨rfl, ?_⟩
        refine wa_d ?_
        refine we_int ?_
        refine ⟨rfl, ?_⟩
        refine wa_nil ?_
        refine ⟨_, rfl, szOk rfl, ?_⟩
        refine ⟨rfl, ?_⟩
        refine wa_nil ?_
        refine ⟨rfl, _, _, _, _, rfl, h, fun r103 h => ⟨rfl, _, rfl, ?_⟩, fun c hc => ⟨rfl, ⟨hc, (.fv l52), rfl⟩⟩⟩
        have hr := hro102
        exact ws_nil ⟨(.str "told"), (.fv l52), h, rfl⟩
      · refine ws_env (env' := [.d l_which, .d l_plan_here, .fl ls1, .d (.str "told"), .fv l54]) rfl ?_
        refine ws_cons (w1_expr ?_)
        have hro104 := hr
        refine we_callN 4 hl55 hr ?_
        intro A outer s H E f c hr
        refine we_call h_strip_order hr ?_
        refine wa_d ?_
        refine we_n 1 ?_
        refine ⟨rfl, ?_⟩
        refine wa_nil ?_
        refine ⟨rfl, _, _, _, rfl, h, fun r105 h => ⟨rfl, _, rfl, ?_⟩, fun c hc => ⟨rfl, ⟨hc, (.fv l54), rfl⟩⟩⟩
        have hr := hro104
        exact ws_nil ⟨(.str "told"), (.fv l54), h, rfl⟩
      · refine ws_env (env' := [.d l_which, .d l_plan_here, .fl ls1, .d (.str "told"), .fv l56]) rfl ?_
        refine ws_cons (w1_expr ?_)
        have hro106 := hr
        refine we_callN 4 hl57 hr ?_
        intro A outer s H E f c hr
        refine we_call h_row_of hr ?_
        refine wa_d ?_
        refine we_n 1 ?_
        refine ⟨rfl, ?_⟩
        refine wa_nil ?_
        refine ⟨rfl, _, _, _, rfl, h, fun r107 h => ⟨rfl, _, rfl, ?_⟩, fun c hc => ⟨rfl, ⟨hc, (.fv l56), rfl⟩⟩⟩
        have hr := hro106
        exact ws_nil ⟨(.str "told"), (.fv l56), h, rfl⟩
      · refine ws_env (env' := [.d l_which, .d l_plan_here, .fl ls1, .d (.str "told"), .fv l58]) rfl ?_
        refine ws_cons (w1_expr ?_)
        have hro108 := hr
        refine we_callN 4 hl59 hr ?_
        intro A outer s H E f c hr
        refine we_call h_road hr ?_
        refine wa_d ?_
        refine we_n 1 ?_
        refine ⟨rfl, ?_⟩
        refine wa_d ?_
        refine we_tuple ?_
        refine wa_d ?_
        refine we_int ?_
        refine ⟨rfl, ?_⟩
        refine wa_d ?_
        refine we_int ?_
        refine ⟨rfl, ?_⟩
        refine wa_nil ?_
        refine ⟨_, rfl, szOk rfl, ?_⟩
        refine ⟨rfl, ?_⟩
        refine wa_d ?_
        refine we_tuple ?_
        refine wa_d ?_
        refine we_int ?_
        refine ⟨rfl, ?_⟩
        refine wa_d ?_
        refine we_int ?_
        refine ⟨rfl, ?_⟩
        refine wa_nil ?_
        refine ⟨_, rfl, szOk rfl, ?_⟩
        refine ⟨rfl, ?_⟩
        refine wa_nil ?_
        refine ⟨rfl, _, _, _, _, _, rfl, h, fun r109 h => ⟨rfl, _, rfl, ?_⟩, fun c hc => ⟨rfl, ⟨hc, (.fv l58), rfl⟩⟩⟩
        have hr := hro108
        exact ws_nil ⟨(.str "told"), (.fv l58), h, rfl⟩
      · refine ws_env (env' := [.d l_which, .d l_plan_here, .fl ls1, .d (.str "told"), .fv l60]) rfl ?_
        refine ws_cons (w1_expr ?_)
        have hro110 := hr
        refine we_callN 4 hl61 hr ?_
        intro A outer s H E f c hr
        refine we_call h_walked hr ?_
        refine wa_d ?_
        refine we_n 1 ?_
        refine ⟨rfl, ?_⟩
        refine wa_d ?_
        refine we_tuple ?_
        refine wa_d ?_
        refine we_int ?_
        refine ⟨rfl, ?_⟩
        refine wa_d ?_
        refine we_int ?_
        refine ⟨rfl, ?_⟩
        refine wa_nil ?_
        refine ⟨_, rfl, szOk rfl, ?_⟩
        refine ⟨rfl, ?_⟩
        refine wa_d ?_
        refine we_list ?_
        refine wa_d ?_
        refine we_tuple ?_
        refine wa_d ?_
        refine we_str ?_
        refine ⟨rfl, ?_⟩
        refine wa_nil ?_
        refine ⟨_, rfl, szOk rfl, ?_⟩
        refine ⟨rfl, ?_⟩
        refine wa_nil ?_
        refine ⟨_, rfl, szOk rfl, ?_⟩
        refine ⟨rfl, ?_⟩
        refine wa_nil ?_
        refine ⟨rfl, _, _, _, _, _, rfl, h, fun r111 h => ⟨rfl, _, rfl, ?_⟩, fun c hc => ⟨rfl, ⟨hc, (.fv l60), rfl⟩⟩⟩
        have hr := hro110
        exact ws_nil ⟨(.str "told"), (.fv l60), h, rfl⟩
      · refine ws_env (env' := [.d l_which, .d l_plan_here, .fl ls1, .d (.str "told"), .fv l62]) rfl ?_
        refine ws_cons (w1_expr ?_)
        have hro112 := hr
        refine we_callN 4 hl63 hr ?_
        intro A outer s H E f c hr
        refine we_call h_tour hr ?_
        refine wa_d ?_
        refine we_n 1 ?_
        refine ⟨rfl, ?_⟩
        refine wa_d ?_
        refine we_tuple ?_
        refine wa_d ?_
        refine we_int ?_
        refine ⟨rfl, ?_⟩
        refine wa_d ?_
        refine we_int ?_
        refine ⟨rfl, ?_⟩
        refine wa_nil ?_
        refine ⟨_, rfl, szOk rfl, ?_⟩
        refine ⟨rfl, ?_⟩
        refine wa_nil ?_
        refine ⟨rfl, _, _, _, _, rfl, h, fun r113 h => ⟨rfl, _, rfl, ?_⟩, fun c hc => ⟨rfl, ⟨hc, (.fv l62), rfl⟩⟩⟩
        have hr := hro112
        exact ws_nil ⟨(.str "told"), (.fv l62), h, rfl⟩
      · refine ws_env (env' := [.d l_which, .d l_plan_here, .fl ls1, .d (.str "told"), .fv l64]) rfl ?_
        refine ws_cons (w1_expr ?_)
        have hro114 := hr
        refine we_callN 4 hl65 hr ?_
        intro A outer s H E f c hr
        refine we_call h_middles hr ?_
        refine wa_d ?_
        refine we_n 1 ?_
        refine ⟨rfl, ?_⟩
        refine wa_d ?_
        refine we_tuple ?_
        refine wa_d ?_
        refine we_int ?_
        refine ⟨rfl, ?_⟩
        refine wa_d ?_
        refine we_int ?_
        refine ⟨rfl, ?_⟩
        refine wa_nil ?_
        refine ⟨_, rfl, szOk rfl, ?_⟩
        refine ⟨rfl, ?_⟩
        refine wa_nil ?_
        refine ⟨rfl, _, _, _, _, rfl, h, fun r115 h => ⟨rfl, _, rfl, ?_⟩, fun c hc => ⟨rfl, ⟨hc, (.fv l64), rfl⟩⟩⟩
        have hr := hro114
        exact ws_nil ⟨(.str "told"), (.fv l64), h, rfl⟩
      · refine ws_env (env' := [.d l_which, .d l_plan_here, .fl ls1, .d (.str "told"), .fv l66]) rfl ?_
        refine ws_cons (w1_expr ?_)
        have hro116 := hr
        refine we_callN 4 hl67 hr ?_
        intro A outer s H E f c hr
        refine we_call h_ring hr ?_
        refine wa_d ?_
        refine we_n 1 ?_
        refine ⟨rfl, ?_⟩
        refine wa_d ?_
        refine we_tuple ?_
        refine wa_d ?_
        refine we_int ?_
        refine ⟨rfl, ?_⟩
        refine wa_d ?_
        refine we_int ?_
        refine ⟨rfl, ?_⟩
        refine wa_d ?_
        refine we_int ?_
        refine ⟨rfl, ?_⟩
        refine wa_nil ?_
        refine ⟨_, rfl, szOk rfl, ?_⟩
        refine ⟨rfl, ?_⟩
        refine wa_nil ?_
        refine ⟨rfl, _, _, _, _, rfl, h, fun r117 h => ⟨rfl, _, rfl, ?_⟩, fun c hc => ⟨rfl, ⟨hc, (.fv l66), rfl⟩⟩⟩
        have hr := hro116
        exact ws_nil ⟨(.str "told"), (.fv l66), h, rfl⟩
      · refine ws_env (env' := [.d l_which, .d l_plan_here, .fl ls1, .d (.str "told"), .fv l68]) rfl ?_
        refine ws_cons (w1_expr ?_)
        have hro118 := hr
        refine we_callN 4 hl69 hr ?_
        intro A outer s H E f c hr
        refine we_call h_beneath hr ?_
        refine wa_d ?_
        refine we_n 1 ?_
        refine ⟨rfl, ?_⟩
        refine wa_d ?_
        refine we_tuple ?_
        refine wa_d ?_
        refine we_int ?_
        refine ⟨rfl, ?_⟩
        refine wa_d ?_
        refine we_int ?_
        refine ⟨rfl, ?_⟩
        refine wa_d ?_
        refine we_int ?_
        refine ⟨rfl, ?_⟩
        refine wa_nil ?_
        refine ⟨_, rfl, szOk rfl, ?_⟩
        refine ⟨rfl, ?_⟩
        refine wa_nil ?_
        refine ⟨rfl, _, _, _, _, rfl, h, fun r119 h => ⟨rfl, _, rfl, ?_⟩, fun c hc => ⟨rfl, ⟨hc, (.fv l68), rfl⟩⟩⟩
        have hr := hro118
        exact ws_nil ⟨(.str "told"), (.fv l68), h, rfl⟩
      · refine ws_env (env' := [.d l_which, .d l_plan_here, .fl ls1, .d (.str "told"), .fv l70]) rfl ?_
        refine ws_cons (w1_expr ?_)
        have hro120 := hr
        refine we_callN 4 hl71 hr ?_
        intro A outer s H E f c hr
        refine we_call h_heaps hr ?_
        refine wa_d ?_
        refine we_n 1 ?_
        refine ⟨rfl, ?_⟩
        refine wa_d ?_
        refine we_tuple ?_
        refine wa_d ?_
        refine we_int ?_
        refine ⟨rfl, ?_⟩
        refine wa_d ?_
        refine we_int ?_
        refine ⟨rfl, ?_⟩
        refine wa_d ?_
        refine we_int ?_
        refine ⟨rfl, ?_⟩
        refine wa_nil ?_
        refine ⟨_, rfl, szOk rfl, ?_⟩
        refine ⟨rfl, ?_⟩
        refine wa_nil ?_
        refine ⟨rfl, _, _, _, _, rfl, h, fun r121 h => ⟨rfl, _, rfl, ?_⟩, fun c hc => ⟨rfl, ⟨hc, (.fv l70), rfl⟩⟩⟩
        have hr := hro120
        exact ws_nil ⟨(.str "told"), (.fv l70), h, rfl⟩
  · rintro l_word122 w123 h
    refine ws_env (env' := [.d l_which, .d l_plan_here, .fl ls1, .d l_word122, w123]) rfl ?_
    refine ws_cons (w1_ret ?_)
    refine we_n 3 ?_
    exact ⟨rfl, _, hK _ h, trivial, rfl, rfl, rfl⟩
theorem ok_law (F : FnP K "law" s_law f fd) (ho__law_bag : Has P w K mg base k "_law_bag" ["_law_script"] o__law_bag) (h__law_plan : Has P w K mg base k "_law_plan" ["_law_bag_here", "_law_most"] c__law_plan) (m_range : mg "range" = none) (h__law_pull : Has P w K mg base k "_law_pull" ["_law_bag_here", "_law_many"] c__law_pull) (h__law_good_plan : Has P w K mg base k "_law_good_plan" ["_law_plan_here"] c__law_good_plan) (m_all : mg "all" = none) (h__law_plan_door : Has P w K mg base k "_law_plan_door" ["_law_which", "_law_plan_here"] c__law_plan_door) (h__law_bent_plan : Has P w K mg base k "_law_bent_plan" ["_law_bag_here", "_law_plan_here"] c__law_bent_plan) :
    FnOk P w K mg base (L2.CX P w) (k + 1) f fd ["_law_script"] (spOf K 1 cLaw) := by
  refine fn_ok (ps := ["_law_script"]) F sc_law rfl ?_
  rintro cdv A outer s H E g args Φ Ψ hr hp hM hl ⟨ns, rfl, hns, hΦ⟩
  have h := e_law_k06 ns hns
  unfold f_law_k06 at h
  have hK : ∀ r, r = PyData.bool true → Φ (.rd r) [.d (.list (ns.map .int))] := fun r e => e ▸ hΦ
  have hE : ∀ c, False → Ψ c [.d (.list (ns.map .int))] := fun c h => h.elim
  refine ws_env (env' := [.d (.list (ns.map .int)), .un, .un, .un, .un]) rfl ?_
  refine ws_cons (w1_setN 1 sc_law.nd ?_)
  refine wn_call ho__law_bag hr ?_
  refine wa_d ?_
  refine we_n 0 ?_
  refine ⟨rfl, ?_⟩
  refine wa_nil ?_
  refine ⟨rfl, ns, rfl, hns, fun ds hds => ⟨rfl, ds, rfl, ?_⟩⟩
  intro a_bag n_bag
  refine ws_close 1 rfl hds ?_
  refine ws_env (env' := [.d (.list (ns.map .int)), .bg a_bag, .un, .un, .un]) rfl ?_
  refine ws_cons (w1_set 2 sc_law.nd ?_)
  refine we_call h__law_plan hr ?_
  refine wa_s 1 ?_
  refine wa_d ?_
  refine we_int ?_
  refine ⟨rfl, ?_⟩
  refine wa_nil ?_
  refine ⟨rfl, _, _, _, _, rfl, h, fun r1 h => ⟨rfl, _, rfl, ?_⟩, fun c hc => ⟨rfl, ⟨_, hE _ hc, rfl, rfl⟩⟩⟩
  refine ⟨rfl, ?_⟩
  refine ws_env (env' := [.d (.list (ns.map .int)), .bg a_bag, .d r1, .un, .un]) rfl ?_
  refine ws_cons (w1_for hp rfl (pg_name (i := 3) sc_law.nd rfl (by first | exact Or.inl rfl | exact Or.inr rfl)) (tgd_name 3) ?_)
  refine wi_r1 m_range ?_
  refine we_add ?_
  refine we_int ?_
  refine we_call h__law_pull hr ?_
  refine wa_s 1 ?_
  refine wa_d ?_
  refine we_int ?_
  refine ⟨rfl, ?_⟩
  refine wa_nil ?_
  refine ⟨rfl, _, _, _, _, rfl, h, fun r3 h => ⟨rfl, _, rfl, ?_⟩, fun c hc => ⟨rfl, ⟨_, hE _ hc, rfl, rfl⟩⟩⟩
  refine add_sh h fun r4 h => ?_
  refine rng_sh h fun xs2 h => ?_
  refine forS h (fun (s : PyData) (u : Sl) => [.d (.list (ns.map .int)), .bg a_bag, .d s, u, .un]) (.un) rfl ?_ ?_
  · rintro l_plan_here5 w6 h
    refine ws_env (env' := [.d (.list (ns.map .int)), .bg a_bag, .d l_plan_here5, w6, .un]) rfl ?_
    refine ws_joinS h (fun (s : PyData) (u : Unit) => [.d (.list (ns.map .int)), .bg a_bag, .d s, w6, .un]) (fun Q h => ?_) ?_
    · refine w1_if ?_
      refine wt_e ?_
      refine we_call h__law_good_plan hr ?_
      refine wa_d ?_
      refine we_n 2 ?_
      refine ⟨rfl, ?_⟩
      refine wa_nil ?_
      refine ⟨rfl, _, _, _, rfl, h, fun r7 h => ⟨rfl, _, rfl, ?_⟩, fun c hc => ⟨rfl, ⟨_, hE _ hc, rfl, rfl⟩⟩⟩
      refine bool_sh h fun b8 h => ?_
      obtain ⟨h9, h10⟩ := h
      refine ⟨fun e11 => ?_, fun e11 => ?_⟩
      · replace h := h9 e11
        refine ws_cons (w1_set 2 sc_law.nd ?_)
        refine we_tuple ?_
        refine wa_d ?_
        refine we_ix ?_
        refine we_n 2 ?_
        refine we_int ?_
        refine ix_sh h fun r12 h => ?_
        refine ⟨rfl, ?_⟩
        refine wa_d ?_
        refine we_add ?_
        refine we_ix ?_
        refine we_n 2 ?_
        refine we_int ?_
        refine ix_sh h fun r13 h => ?_
        refine we_tuple ?_
        refine wa_d ?_
        refine we_tuple ?_
        refine wa_d ?_
        refine we_int ?_
        refine ⟨rfl, ?_⟩
        refine wa_d ?_
        refine we_int ?_
        refine ⟨rfl, ?_⟩
        refine wa_nil ?_
        refine ⟨_, rfl, szOk rfl, ?_⟩
        refine ⟨rfl, ?_⟩
        refine wa_d ?_
        refine we_tuple ?_
        refine wa_d ?_
        refine we_int ?_
        refine ⟨rfl, ?_⟩
        refine wa_d ?_
        refine we_int ?_
        refine ⟨rfl, ?_⟩
        refine wa_nil ?_
        refine ⟨_, rfl, szOk rfl, ?_⟩
        refine ⟨rfl, ?_⟩
        refine wa_nil ?_
        refine ⟨_, rfl, szOk rfl, ?_⟩
        refine add_sh h fun r14 h => ?_
        refine ⟨rfl, ?_⟩
        refine wa_nil ?_
        refine ⟨_, rfl, szOk rfl, ?_⟩
        refine ⟨rfl, ?_⟩
        refine ws_env (env' := [.d (.list (ns.map .int)), .bg a_bag, .d (.tuple [r12, r14]), w6, .un]) rfl ?_
        exact ws_nil ⟨(.tuple [r12, r14]), (), h, rfl⟩
      · replace h := h10 e11
        exact ws_nil ⟨l_plan_here5, (), h, rfl⟩
    · rintro l_plan_here15 _ h
      refine ws_env (env' := [.d (.list (ns.map .int)), .bg a_bag, .d l_plan_here15, w6, .un]) rfl ?_
      refine ws_cons (w1_ret ?_)
      refine we_allA m_all rfl ?_
      refine we_of_wn ?_
      refine wn_lc (own := [("_law_which", 4)]) rfl sc_law.nd (blkOk_by (by rfl)) (fun _ _ _ _ _ => (pg_name (i := 4) sc_law.nd rfl (by first | exact Or.inl rfl | exact Or.inr rfl))) (tgd_name 4) (by decide) rfl ?_
      refine wi_r1 m_range ?_
      refine we_int ?_
      refine rng_sh h fun xs16 h => ?_
      refine lcS h (fun l_which17 kp sk h => ?_) fun l18 h => ?_
      · refine ⟨[(4, l_which17)], rfl, rfl, fun g' s1 H1 C1 cl1 fp1 => ?_⟩
        refine ⟨fun _ s1 H1 C1 cl1 fp1 => ?_, fun z => by cases z⟩
        refine we_cp (op_eqA hr) ?_
        refine we_call h__law_plan_door hr ?_
        refine wa_d ?_
        refine we_n 4 ?_
        refine ⟨rfl, ?_⟩
        refine wa_d ?_
        refine we_n 2 ?_
        refine ⟨rfl, ?_⟩
        refine wa_nil ?_
        refine ⟨rfl, _, _, _, _, rfl, h, fun r19 h => ⟨rfl, _, rfl, ?_⟩, fun c hc => ⟨rfl, hc.elim⟩⟩
        refine we_str ?_
        refine eq_sh h fun b20 h => ?_
        exact ⟨rfl, h⟩
      refine all_m h fun r21 h => ?_
      exact ⟨rfl, _, hK _ h, trivial, rfl, rfl⟩
  · rintro hend l_bend22 l_plan_here25 w26 N23 h
    refine ⟨[(3, l_bend22)], rfl, rfl, ?_⟩
    refine ws_env (env' := [.d (.list (ns.map .int)), .bg a_bag, .d l_plan_here25, .d l_bend22, .un]) rfl ?_
    refine ws_cons (w1_set 2 sc_law.nd ?_)
    refine we_call h__law_bent_plan hr ?_
    refine wa_s 1 ?_
    refine wa_d ?_
    refine we_n 2 ?_
    refine ⟨rfl, ?_⟩
    refine wa_nil ?_
    refine ⟨rfl, _, _, _, _, rfl, h, fun r27 h => ⟨rfl, _, rfl, ?_⟩, fun c hc => ⟨rfl, ⟨_, hE _ hc, rfl, rfl⟩⟩⟩
    refine ⟨rfl, ?_⟩
    refine ws_env (env' := [.d (.list (ns.map .int)), .bg a_bag, .d r27, .d l_bend22, .un]) rfl ?_
    exact ws_nil ⟨r27, (.d l_bend22), h, rfl⟩
end
end Tx
namespace Tx
open Hd PySem PySem.Spec PyProof.Rows L2 TL
set_option maxRecDepth 100000
theorem facts {P : Program} {w : World} {K0 K : PySem.W.Frag} (hK : K = markK tf K0) {h : Heap} {mg : Str → Option Value} {f : Addr} (X0 : K0.In h) (G : h.Ns mainGlobals mg) (hfa : mg ("law" : Str) = some (.ref f)) (sl : SaysL xf fa fn tf h K0) :
    ∃ fd : FuncData, (∀ (s : Shared) (v : Value), BindsTo s fd ⟨[v], []⟩ [("_law_script", v)]) ∧ ∀ base : Heap, K.In base → base.Ns mainGlobals mg → (∀ p ∈ csOf tf K0, LamX.TabB base mg p.1 p.2) → FnOk P w K mg base (L2.CX P w) 75 f fd ["_law_script"] (spOf K 1 cLaw) := by
  have X : K.In h := by rw [hK]; exact sl.kin X0
  have c : SaysX xf fa fn K := by rw [hK]; exact sl.x
  obtain ⟨fd_crossing, F_crossing⟩ := c.d.def_ 0 (d := d_crossing) rfl
  obtain ⟨fd_is_cut, F_is_cut⟩ := c.d.def_ 1 (d := d_is_cut) rfl
  obtain ⟨fd_is_plan, F_is_plan⟩ := c.d.def_ 2 (d := d_is_plan) rfl
  obtain ⟨fd_need_plan, F_need_plan⟩ := c.d.def_ 3 (d := d_need_plan) rfl
  obtain ⟨fd_follows, F_follows⟩ := c.d.def_ 4 (d := d_follows) rfl
  obtain ⟨fd_pair_of, F_pair_of⟩ := c.d.def_ 5 (d := d_pair_of) rfl
  obtain ⟨fd_all_lines, F_all_lines⟩ := c.d.def_ 6 (d := d_all_lines) rfl
  obtain ⟨fd_neighbours, F_neighbours⟩ := c.d.def_ 7 (d := d_neighbours) rfl
  obtain ⟨fd_lines, F_lines⟩ := c.d.def_ 8 (d := d_lines) rfl
  obtain ⟨fd_parts, F_parts⟩ := c.d.def_ 9 (d := d_parts) rfl
  obtain ⟨fd_fan, F_fan⟩ := c.d.def_ 10 (d := d_fan) rfl
  obtain ⟨fd_turned_by, F_turned_by⟩ := c.d.def_ 11 (d := d_turned_by) rfl
  obtain ⟨fd_turned, F_turned⟩ := c.d.def_ 12 (d := d_turned) rfl
  obtain ⟨fd_mirrored, F_mirrored⟩ := c.d.def_ 13 (d := d_mirrored) rfl
  obtain ⟨fd_least_of, F_least_of⟩ := c.d.def_ 14 (d := d_least_of) rfl
  obtain ⟨fd_first_form, F_first_form⟩ := c.d.def_ 15 (d := d_first_form) rfl
  obtain ⟨fd_alike, F_alike⟩ := c.d.def_ 16 (d := d_alike) rfl
  obtain ⟨fd_ways_row, F_ways_row⟩ := c.d.def_ 17 (d := d_ways_row) rfl
  obtain ⟨fd_number_by, F_number_by⟩ := c.d.def_ 18 (d := d_number_by) rfl
  obtain ⟨fd_number_of, F_number_of⟩ := c.d.def_ 19 (d := d_number_of) rfl
  obtain ⟨fd_need_place, F_need_place⟩ := c.d.def_ 20 (d := d_need_place) rfl
  obtain ⟨fd_need_way, F_need_way⟩ := c.d.def_ 21 (d := d_need_way) rfl
  obtain ⟨fd_places, F_places⟩ := c.d.def_ 22 (d := d_places) rfl
  obtain ⟨fd_between, F_between⟩ := c.d.def_ 23 (d := d_between) rfl
  obtain ⟨fd_third_corner, F_third_corner⟩ := c.d.def_ 24 (d := d_third_corner) rfl
  obtain ⟨fd_third, F_third⟩ := c.d.def_ 25 (d := d_third) rfl
  obtain ⟨fd_corner_for, F_corner_for⟩ := c.d.def_ 26 (d := d_corner_for) rfl
  obtain ⟨fd_pinch, F_pinch⟩ := c.d.def_ 27 (d := d_pinch) rfl
  obtain ⟨fd_unpinch, F_unpinch⟩ := c.d.def_ 28 (d := d_unpinch) rfl
  obtain ⟨fd_over, F_over⟩ := c.d.def_ 29 (d := d_over) rfl
  obtain ⟨fd_round_from, F_round_from⟩ := c.d.def_ 30 (d := d_round_from) rfl
  obtain ⟨fd_stacks, F_stacks⟩ := c.d.def_ 31 (d := d_stacks) rfl
  obtain ⟨fd_right_parts, F_right_parts⟩ := c.d.def_ 32 (d := d_right_parts) rfl
  obtain ⟨fd_upright, F_upright⟩ := c.d.def_ 33 (d := d_upright) rfl
  obtain ⟨fd_is_upright, F_is_upright⟩ := c.d.def_ 34 (d := d_is_upright) rfl
  obtain ⟨fd_steps_from, F_steps_from⟩ := c.d.def_ 35 (d := d_steps_from) rfl
  obtain ⟨fd_road, F_road⟩ := c.d.def_ 36 (d := d_road) rfl
  obtain ⟨fd_stepped, F_stepped⟩ := c.d.def_ 37 (d := d_stepped) rfl
  obtain ⟨fd_walked, F_walked⟩ := c.d.def_ 38 (d := d_walked) rfl
  obtain ⟨fd_tour_by, F_tour_by⟩ := c.d.def_ 39 (d := d_tour_by) rfl
  obtain ⟨fd_tour, F_tour⟩ := c.d.def_ 40 (d := d_tour) rfl
  obtain ⟨fd_part_corner, F_part_corner⟩ := c.d.def_ 41 (d := d_part_corner) rfl
  obtain ⟨fd_put_down, F_put_down⟩ := c.d.def_ 42 (d := d_put_down) rfl
  obtain ⟨fd_order_of, F_order_of⟩ := c.d.def_ 43 (d := d_order_of) rfl
  obtain ⟨fd_strip_order, F_strip_order⟩ := c.d.def_ 44 (d := d_strip_order) rfl
  obtain ⟨fd_row_of, F_row_of⟩ := c.d.def_ 45 (d := d_row_of) rfl
  obtain ⟨fd_need_lie, F_need_lie⟩ := c.d.def_ 46 (d := d_need_lie) rfl
  obtain ⟨fd_middle_corners, F_middle_corners⟩ := c.d.def_ 47 (d := d_middle_corners) rfl
  obtain ⟨fd_middles, F_middles⟩ := c.d.def_ 48 (d := d_middles) rfl
  obtain ⟨fd_stretch_start, F_stretch_start⟩ := c.d.def_ 49 (d := d_stretch_start) rfl
  obtain ⟨fd_heap_from, F_heap_from⟩ := c.d.def_ 50 (d := d_heap_from) rfl
  obtain ⟨fd_heaps_of, F_heaps_of⟩ := c.d.def_ 51 (d := d_heaps_of) rfl
  obtain ⟨fd_heaps, F_heaps⟩ := c.d.def_ 52 (d := d_heaps) rfl
  obtain ⟨fd_ring_of, F_ring_of⟩ := c.d.def_ 53 (d := d_ring_of) rfl
  obtain ⟨fd_ring, F_ring⟩ := c.d.def_ 54 (d := d_ring) rfl
  obtain ⟨fd_turned_lie, F_turned_lie⟩ := c.d.def_ 55 (d := d_turned_lie) rfl
  obtain ⟨fd_beneath, F_beneath⟩ := c.d.def_ 56 (d := d_beneath) rfl
  obtain ⟨fd__law_bag, F__law_bag⟩ := c.d.def_ 57 (d := d__law_bag) rfl
  obtain ⟨fd__law_bent_plan, F__law_bent_plan⟩ := c.d.def_ 58 (d := d__law_bent_plan) rfl
  obtain ⟨fd__law_crossed, F__law_crossed⟩ := c.d.def_ 59 (d := d__law_crossed) rfl
  obtain ⟨fd__law_cut_arc, F__law_cut_arc⟩ := c.d.def_ 60 (d := d__law_cut_arc) rfl
  obtain ⟨fd__law_drawn_plan, F__law_drawn_plan⟩ := c.d.def_ 61 (d := d__law_drawn_plan) rfl
  obtain ⟨fd__law_good_plan, F__law_good_plan⟩ := c.d.def_ 62 (d := d__law_good_plan) rfl
  obtain ⟨fd__law_odd, F__law_odd⟩ := c.d.def_ 63 (d := d__law_odd) rfl
  obtain ⟨fd__law_pair, F__law_pair⟩ := c.d.def_ 64 (d := d__law_pair) rfl
  obtain ⟨fd__law_plan, F__law_plan⟩ := c.d.def_ 65 (d := d__law_plan) rfl
  obtain ⟨fd__law_plan_door, F__law_plan_door⟩ := c.d.def_ 66 (d := d__law_plan_door) rfl
  obtain ⟨fd__law_pull, F__law_pull⟩ := c.d.def_ 67 (d := d__law_pull) rfl
  obtain ⟨fd_law, F_law⟩ := c.d.def_ 68 (d := d_law) rfl
  have e := hfa.symm.trans (He.glo_ok X G (c.d.fact 68 (f := .glo "law") rfl))
  cases e
  have bl := FunD.bindsA (ps := ["_law_script"]) F_law fun _ _ _ _ _ _ us hl => match us, hl with | [_], _ => rfl
  refine ⟨fd_law, fun s v => bl s [v] rfl, fun base _ _ hB => ?_⟩
  have h_o__law_bag := ok_o__law_bag (P := P) (w := w) (K := K) (mg := mg) (base := base) (k := 0) F__law_bag (He.glo_ok X G (c.d.fact 57 (f := .glo "_law_bag") rfl)) (F__law_bag.bindsN fun _ _ _ _ _ _ us hl => match us, hl with | [_], _ => rfl) (He.free_ok X G (c.d.fact 82 (f := .free "len") rfl)) (He.free_ok X G (c.d.fact 77 (f := .free "abs") rfl)) (He.free_ok X G (c.d.fact 81 (f := .free "int") rfl))
  have h_o__law_pull := ok_o__law_pull (P := P) (w := w) (K := K) (mg := mg) (base := base) (k := 0) F__law_pull (He.glo_ok X G (c.d.fact 67 (f := .glo "_law_pull") rfl)) (F__law_pull.bindsN fun _ _ _ _ _ _ us hl => match us, hl with | [_, _], _ => rfl) (He.free_ok X G (c.d.fact 82 (f := .free "len") rfl))
  have h__law_pull := ok__law_pull (P := P) (w := w) (K := K) (mg := mg) (base := base) (k := 1) (h_o__law_pull.mono (by decide))
  have h_o__law_cut_arc := ok_o__law_cut_arc (P := P) (w := w) (K := K) (mg := mg) (base := base) F__law_cut_arc (He.glo_ok X G (c.d.fact 60 (f := .glo "_law_cut_arc") rfl)) (F__law_cut_arc.bindsN fun _ _ _ _ _ _ us hl => match us, hl with | [_, _, _, _], _ => rfl) (h_o__law_pull.mono (by decide)) 0 64
  have h__law_pair := ok__law_pair (P := P) (w := w) (K := K) (mg := mg) (base := base) (k := 0) F__law_pair (He.glo_ok X G (c.d.fact 64 (f := .glo "_law_pair") rfl)) (F__law_pair.bindsN fun _ _ _ _ _ _ us hl => match us, hl with | [_, _], _ => rfl) (He.free_ok X G (c.d.fact 85 (f := .free "min") rfl)) (He.free_ok X G (c.d.fact 84 (f := .free "max") rfl))
  have h_o__law_pair := ok_o__law_pair (P := P) (w := w) (K := K) (mg := mg) (base := base) (k := 0) F__law_pair (He.glo_ok X G (c.d.fact 64 (f := .glo "_law_pair") rfl)) (F__law_pair.bindsN fun _ _ _ _ _ _ us hl => match us, hl with | [_, _], _ => rfl) (He.free_ok X G (c.d.fact 85 (f := .free "min") rfl)) (He.free_ok X G (c.d.fact 84 (f := .free "max") rfl))
  have h_o__law_drawn_plan := ok_o__law_drawn_plan (P := P) (w := w) (K := K) (mg := mg) (base := base) (k := 66) F__law_drawn_plan (He.glo_ok X G (c.d.fact 61 (f := .glo "_law_drawn_plan") rfl)) (F__law_drawn_plan.bindsN fun _ _ _ _ _ _ us hl => match us, hl with | [_, _], _ => rfl) (He.free_ok X G (c.d.fact 89 (f := .free "tuple") rfl)) (h_o__law_cut_arc.mono (by decide)) (He.free_ok X G (c.d.fact 87 (f := .free "sorted") rfl)) (h_o__law_pair.mono (by decide))
  have h__law_drawn_plan := ok__law_drawn_plan (P := P) (w := w) (K := K) (mg := mg) (base := base) (k := 67) (h_o__law_drawn_plan.mono (by decide))
  have h__law_plan := ok__law_plan (P := P) (w := w) (K := K) (mg := mg) (base := base) (k := 67) F__law_plan (He.glo_ok X G (c.d.fact 65 (f := .glo "_law_plan") rfl)) (F__law_plan.bindsN fun _ _ _ _ _ _ us hl => match us, hl with | [_, _], _ => rfl) (h__law_pull.mono (by decide)) (h__law_drawn_plan.mono (by decide))
  have h__law_crossed := ok__law_crossed (P := P) (w := w) (K := K) (mg := mg) (base := base) (k := 0) F__law_crossed (He.glo_ok X G (c.d.fact 59 (f := .glo "_law_crossed") rfl)) (F__law_crossed.bindsN fun _ _ _ _ _ _ us hl => match us, hl with | [_, _], _ => rfl)
  have h__law_good_plan := ok__law_good_plan (P := P) (w := w) (K := K) (mg := mg) (base := base) (k := 1) F__law_good_plan (He.glo_ok X G (c.d.fact 62 (f := .glo "_law_good_plan") rfl)) (F__law_good_plan.bindsN fun _ _ _ _ _ _ us hl => match us, hl with | [_], _ => rfl) (He.free_ok X G (c.d.fact 82 (f := .free "len") rfl)) (He.free_ok X G (c.d.fact 80 (f := .free "enumerate") rfl)) (h__law_crossed.mono (by decide))
  have h__law_odd := ok__law_odd (P := P) (w := w) (K := K) (mg := mg) (base := base) (k := 1) F__law_odd (He.glo_ok X G (c.d.fact 63 (f := .glo "_law_odd") rfl)) (F__law_odd.bindsN fun _ _ _ _ _ _ us hl => match us, hl with | [_, _], _ => rfl) (h__law_pull.mono (by decide))
  have h__law_bent_plan := ok__law_bent_plan (P := P) (w := w) (K := K) (mg := mg) (base := base) (k := 2) F__law_bent_plan (He.glo_ok X G (c.d.fact 58 (f := .glo "_law_bent_plan") rfl)) (F__law_bent_plan.bindsN fun _ _ _ _ _ _ us hl => match us, hl with | [_, _], _ => rfl) (h__law_pull.mono (by decide)) (h__law_odd.mono (by decide)) (He.free_ok X G (c.d.fact 82 (f := .free "len") rfl)) (He.free_ok X G (c.d.fact 77 (f := .free "abs") rfl)) (He.free_ok X G (c.d.fact 89 (f := .free "tuple") rfl)) (He.free_ok X G (c.d.fact 87 (f := .free "sorted") rfl)) (He.free_ok X G (c.d.fact 83 (f := .free "list") rfl))
  have h_is_cut := ok_is_cut (P := P) (w := w) (K := K) (mg := mg) (base := base) (k := 0) F_is_cut (He.glo_ok X G (c.d.fact 1 (f := .glo "is_cut") rfl)) (F_is_cut.bindsN fun _ _ _ _ _ _ us hl => match us, hl with | [_, _], _ => rfl)
  have h_crossing := ok_crossing (P := P) (w := w) (K := K) (mg := mg) (base := base) (k := 0) F_crossing (He.glo_ok X G (c.d.fact 0 (f := .glo "crossing") rfl)) (F_crossing.bindsN fun _ _ _ _ _ _ us hl => match us, hl with | [_, _], _ => rfl) (He.free_ok X G (c.d.fact 82 (f := .free "len") rfl))
  have h_is_plan := ok_is_plan (P := P) (w := w) (K := K) (mg := mg) (base := base) (k := 1) F_is_plan (He.glo_ok X G (c.d.fact 2 (f := .glo "is_plan") rfl)) (F_is_plan.bindsN fun _ _ _ _ _ _ us hl => match us, hl with | [_], _ => rfl) (He.int_ok X G (c.d.fact 90 (f := .int "LEAST" 3) rfl)) (He.int_ok X G (c.d.fact 91 (f := .int "MOST" 40) rfl)) (He.free_ok X G (c.d.fact 82 (f := .free "len") rfl)) (He.free_ok X G (c.d.fact 78 (f := .free "all") rfl)) (h_is_cut.mono (by decide)) (He.free_ok X G (c.d.fact 86 (f := .free "range") rfl)) (He.free_ok X G (c.d.fact 80 (f := .free "enumerate") rfl)) (He.free_ok X G (c.d.fact 79 (f := .free "any") rfl)) (h_crossing.mono (by decide))
  have h_need_plan := ok_need_plan (P := P) (w := w) (K := K) (mg := mg) (base := base) (k := 2) F_need_plan (He.glo_ok X G (c.d.fact 3 (f := .glo "need_plan") rfl)) (F_need_plan.bindsN fun _ _ _ _ _ _ us hl => match us, hl with | [_], _ => rfl) (h_is_plan.mono (by decide)) (exk_of (He.glo_ok X G (c.d.fact 70 (f := .glo "BadPlan") rfl)) (He.exc_ok (c.d.fact 95 (f := .exc "BadPlan") rfl)))
  have h_pair_of := ok_pair_of (P := P) (w := w) (K := K) (mg := mg) (base := base) (k := 0) F_pair_of (He.glo_ok X G (c.d.fact 5 (f := .glo "pair_of") rfl)) (F_pair_of.bindsN fun _ _ _ _ _ _ us hl => match us, hl with | [_, _], _ => rfl) (He.free_ok X G (c.d.fact 85 (f := .free "min") rfl)) (He.free_ok X G (c.d.fact 84 (f := .free "max") rfl))
  have h_follows := ok_follows (P := P) (w := w) (K := K) (mg := mg) (base := base) (k := 0) F_follows (He.glo_ok X G (c.d.fact 4 (f := .glo "follows") rfl)) (F_follows.bindsN fun _ _ _ _ _ _ us hl => match us, hl with | [_, _], _ => rfl)
  have h_all_lines := ok_all_lines (P := P) (w := w) (K := K) (mg := mg) (base := base) (k := 1) F_all_lines (He.glo_ok X G (c.d.fact 6 (f := .glo "all_lines") rfl)) (F_all_lines.bindsN fun _ _ _ _ _ _ us hl => match us, hl with | [_], _ => rfl) (He.free_ok X G (c.d.fact 87 (f := .free "sorted") rfl)) (He.free_ok X G (c.d.fact 86 (f := .free "range") rfl)) (h_pair_of.mono (by decide)) (h_follows.mono (by decide)) (He.free_ok X G (c.d.fact 83 (f := .free "list") rfl))
  have h_lines := ok_lines (P := P) (w := w) (K := K) (mg := mg) (base := base) (k := 3) F_lines (He.glo_ok X G (c.d.fact 8 (f := .glo "lines") rfl)) (F_lines.bindsN fun _ _ _ _ _ _ us hl => match us, hl with | [_], _ => rfl) (h_need_plan.mono (by decide)) (h_all_lines.mono (by decide))
  have h_neighbours := ok_neighbours (P := P) (w := w) (K := K) (mg := mg) (base := base) (k := 2) F_neighbours (He.glo_ok X G (c.d.fact 7 (f := .glo "neighbours") rfl)) (F_neighbours.bindsN fun _ _ _ _ _ _ us hl => match us, hl with | [_], _ => rfl) (He.free_ok X G (c.d.fact 86 (f := .free "range") rfl)) (h_all_lines.mono (by decide)) (He.free_ok X G (c.d.fact 87 (f := .free "sorted") rfl))
  have h_parts := ok_parts (P := P) (w := w) (K := K) (mg := mg) (base := base) (k := 3) F_parts (He.glo_ok X G (c.d.fact 9 (f := .glo "parts") rfl)) (F_parts.bindsN fun _ _ _ _ _ _ us hl => match us, hl with | [_], _ => rfl) (h_need_plan.mono (by decide)) (h_neighbours.mono (by decide)) (h_all_lines.mono (by decide)) (He.free_ok X G (c.d.fact 87 (f := .free "sorted") rfl))
  have h_fan := ok_fan (P := P) (w := w) (K := K) (mg := mg) (base := base) (k := 3) F_fan (He.glo_ok X G (c.d.fact 10 (f := .glo "fan") rfl)) (F_fan.bindsN fun _ _ _ _ _ _ us hl => match us, hl with | [_, _], _ => rfl) (h_need_plan.mono (by decide)) (exk_of (He.glo_ok X G (c.d.fact 71 (f := .glo "BadFace") rfl)) (He.exc_ok (c.d.fact 96 (f := .exc "BadFace") rfl))) (h_neighbours.mono (by decide))
  have h_turned_by := ok_turned_by (P := P) (w := w) (K := K) (mg := mg) (base := base) (k := 1) F_turned_by (He.glo_ok X G (c.d.fact 11 (f := .glo "turned_by") rfl)) (F_turned_by.bindsN fun _ _ _ _ _ _ us hl => match us, hl with | [_, _], _ => rfl) (h_pair_of.mono (by decide)) (He.free_ok X G (c.d.fact 89 (f := .free "tuple") rfl)) (He.free_ok X G (c.d.fact 87 (f := .free "sorted") rfl))
  have hb_turned := binds_full (ps := ["plan", "shift"]) F_turned 2 rfl (fun T kV doc pm an cdv ct us its hu hi => match us, its, hu, hi with | [_, _], [_], _, _ => ⟨_, rfl, rfl⟩)
  have ok_turned := ok_turned (P := P) (w := w) (K := K) (mg := mg) (base := base) (k := 3) F_turned (He.glo_ok X G (c.d.fact 12 (f := .glo "turned") rfl)) hb_turned (h_need_plan.mono (by decide)) (h_turned_by.mono (by decide))
  have h_turned : Has P w K mg base 4 "turned" ["plan", "shift"] _ := ⟨_, _, (He.glo_ok X G (c.d.fact 12 (f := .glo "turned") rfl)), F_turned.kp, hb_turned, ok_turned⟩
  obtain ⟨ds_turned, vs_turned, bd_turned⟩ := binds_dfl (ps := ["plan", "shift"]) F_turned 1 rfl (fun T kV doc pm an cdv ct us its hu hi => match us, its, hu, hi with | [_], [_], _, _ => ⟨_, rfl, rfl⟩)
  have hd_turned : HasD P w K mg base 4 "turned" ["plan", "shift"] _ _ := ⟨_, _, ds_turned, (He.glo_ok X G (c.d.fact 12 (f := .glo "turned") rfl)), F_turned.kp, vs_turned, bd_turned, ok_turned⟩
  have hk_turned : HasN P w K mg base 4 "turned" ["plan", "shift"] 1 ["shift"] _ := ⟨_, _, (He.glo_ok X G (c.d.fact 12 (f := .glo "turned") rfl)), F_turned.kp, binds_kw F_turned 1 "shift" (fun T kV doc pm an cdv ct us ws its hu hw hi => match us, ws, its, hu, hw, hi with | [_], [_], [_], _, _, _ => ⟨_, rfl, rfl⟩), ok_turned⟩
  have h_mirrored := ok_mirrored (P := P) (w := w) (K := K) (mg := mg) (base := base) (k := 3) F_mirrored (He.glo_ok X G (c.d.fact 13 (f := .glo "mirrored") rfl)) (F_mirrored.bindsN fun _ _ _ _ _ _ us hl => match us, hl with | [_], _ => rfl) (h_need_plan.mono (by decide)) (h_pair_of.mono (by decide)) (He.free_ok X G (c.d.fact 89 (f := .free "tuple") rfl)) (He.free_ok X G (c.d.fact 87 (f := .free "sorted") rfl))
  have h_least_of := ok_least_of (P := P) (w := w) (K := K) (mg := mg) (base := base) (k := 2) F_least_of (He.glo_ok X G (c.d.fact 14 (f := .glo "least_of") rfl)) (F_least_of.bindsN fun _ _ _ _ _ _ us hl => match us, hl with | [_], _ => rfl) (He.free_ok X G (c.d.fact 85 (f := .free "min") rfl)) (He.free_ok X G (c.d.fact 86 (f := .free "range") rfl)) (h_turned_by.mono (by decide))
  have h_alike := ok_alike (P := P) (w := w) (K := K) (mg := mg) (base := base) (k := 3) F_alike (He.glo_ok X G (c.d.fact 16 (f := .glo "alike") rfl)) (F_alike.bindsN fun _ _ _ _ _ _ us hl => match us, hl with | [_, _], _ => rfl) (h_need_plan.mono (by decide)) (h_least_of.mono (by decide))
  have h_first_form := ok_first_form (P := P) (w := w) (K := K) (mg := mg) (base := base) (k := 3) F_first_form (He.glo_ok X G (c.d.fact 15 (f := .glo "first_form") rfl)) (F_first_form.bindsN fun _ _ _ _ _ _ us hl => match us, hl with | [_], _ => rfl) (h_need_plan.mono (by decide)) (h_least_of.mono (by decide))
  have h_number_by := ok_number_by (P := P) (w := w) (K := K) (mg := mg) (base := base) (k := 0) F_number_by (He.glo_ok X G (c.d.fact 18 (f := .glo "number_by") rfl)) (F_number_by.bindsN fun _ _ _ _ _ _ us hl => match us, hl with | [_, _, _, _], _ => rfl) (He.free_ok X G (c.d.fact 82 (f := .free "len") rfl)) (He.free_ok X G (c.d.fact 86 (f := .free "range") rfl)) 64
  have h_ways_row := ok_ways_row (P := P) (w := w) (K := K) (mg := mg) (base := base) (k := 0) F_ways_row (He.glo_ok X G (c.d.fact 17 (f := .glo "ways_row") rfl)) (F_ways_row.bindsN fun _ _ _ _ _ _ us hl => match us, hl with | [_], _ => rfl) (He.free_ok X G (c.d.fact 82 (f := .free "len") rfl)) (He.free_ok X G (c.d.fact 88 (f := .free "sum") rfl)) (He.free_ok X G (c.d.fact 86 (f := .free "range") rfl))
  have h_number_of := ok_number_of (P := P) (w := w) (K := K) (mg := mg) (base := base) (k := 65) F_number_of (He.glo_ok X G (c.d.fact 19 (f := .glo "number_of") rfl)) (F_number_of.bindsN fun _ _ _ _ _ _ us hl => match us, hl with | [_], _ => rfl) (h_need_plan.mono (by decide)) (h_number_by.mono (by decide)) (h_ways_row.mono (by decide)) (h_neighbours.mono (by decide))
  have h_places := ok_places (P := P) (w := w) (K := K) (mg := mg) (base := base) (k := 3) F_places (He.glo_ok X G (c.d.fact 22 (f := .glo "places") rfl)) (F_places.bindsN fun _ _ _ _ _ _ us hl => match us, hl with | [_], _ => rfl) (h_need_plan.mono (by decide)) (h_all_lines.mono (by decide)) (He.free_ok X G (c.d.fact 87 (f := .free "sorted") rfl))
  have h_need_place := ok_need_place (P := P) (w := w) (K := K) (mg := mg) (base := base) (k := 3) F_need_place (He.glo_ok X G (c.d.fact 20 (f := .glo "need_place") rfl)) (F_need_place.bindsN fun _ _ _ _ _ _ us hl => match us, hl with | [_, _], _ => rfl) (h_need_plan.mono (by decide)) (h_pair_of.mono (by decide)) (h_all_lines.mono (by decide)) (exk_of (He.glo_ok X G (c.d.fact 72 (f := .glo "BadPlace") rfl)) (He.exc_ok (c.d.fact 97 (f := .exc "BadPlace") rfl)))
  have h_need_way := ok_need_way (P := P) (w := w) (K := K) (mg := mg) (base := base) (k := 0) F_need_way (He.glo_ok X G (c.d.fact 21 (f := .glo "need_way") rfl)) (F_need_way.bindsN fun _ _ _ _ _ _ us hl => match us, hl with | [_], _ => rfl) (gtup_ok X G (c.d.fact 92 (f := .glo "WAYS") rfl) (c.xf 0)) (exk_of (He.glo_ok X G (c.d.fact 73 (f := .glo "BadWay") rfl)) (He.exc_ok (c.d.fact 98 (f := .exc "BadWay") rfl)))
  have h_between := ok_between (P := P) (w := w) (K := K) (mg := mg) (base := base) (k := 0) F_between (He.glo_ok X G (c.d.fact 23 (f := .glo "between") rfl)) (F_between.bindsN fun _ _ _ _ _ _ us hl => match us, hl with | [_, _, _, _], _ => rfl)
  have h_third_corner := ok_third_corner (P := P) (w := w) (K := K) (mg := mg) (base := base) (k := 1) F_third_corner (He.glo_ok X G (c.d.fact 24 (f := .glo "third_corner") rfl)) (F_third_corner.bindsN fun _ _ _ _ _ _ us hl => match us, hl with | [_, _, _, _], _ => rfl) (h_between.mono (by decide))
  have h_third := ok_third (P := P) (w := w) (K := K) (mg := mg) (base := base) (k := 4) F_third (He.glo_ok X G (c.d.fact 25 (f := .glo "third") rfl)) (F_third.bindsN fun _ _ _ _ _ _ us hl => match us, hl with | [_, _, _], _ => rfl) (h_need_place.mono (by decide)) (h_need_way.mono (by decide)) (h_third_corner.mono (by decide)) (h_neighbours.mono (by decide))
  have h_corner_for := ok_corner_for (P := P) (w := w) (K := K) (mg := mg) (base := base) (k := 5) F_corner_for (He.glo_ok X G (c.d.fact 26 (f := .glo "corner_for") rfl)) (F_corner_for.bindsN fun _ _ _ _ _ _ us hl => match us, hl with | [_, _, _], _ => rfl) (h_third.mono (by decide)) (exk_of (He.glo_ok X G (c.d.fact 74 (f := .glo "NoPinch") rfl)) (He.exc_ok (c.d.fact 99 (f := .exc "NoPinch") rfl)))
  have h_pinch := ok_pinch (P := P) (w := w) (K := K) (mg := mg) (base := base) (k := 6) F_pinch (He.glo_ok X G (c.d.fact 27 (f := .glo "pinch") rfl)) (F_pinch.bindsN fun _ _ _ _ _ _ us hl => match us, hl with | [_, _, _], _ => rfl) (h_corner_for.mono (by decide))
  have h_unpinch := ok_unpinch (P := P) (w := w) (K := K) (mg := mg) (base := base) (k := 6) F_unpinch (He.glo_ok X G (c.d.fact 28 (f := .glo "unpinch") rfl)) (F_unpinch.bindsN fun _ _ _ _ _ _ us hl => match us, hl with | [_, _, _], _ => rfl) (h_corner_for.mono (by decide))
  have h_over := ok_over (P := P) (w := w) (K := K) (mg := mg) (base := base) (k := 4) F_over (He.glo_ok X G (c.d.fact 29 (f := .glo "over") rfl)) (F_over.bindsN fun _ _ _ _ _ _ us hl => match us, hl with | [_, _], _ => rfl) (h_need_place.mono (by decide))
  have h_round_from := ok_round_from (P := P) (w := w) (K := K) (mg := mg) (base := base) (k := 1) F_round_from (He.glo_ok X G (c.d.fact 30 (f := .glo "round_from") rfl)) (F_round_from.bindsN fun _ _ _ _ _ _ us hl => match us, hl with | [_, _, _], _ => rfl) (h_follows.mono (by decide))
  have h_stacks := ok_stacks (P := P) (w := w) (K := K) (mg := mg) (base := base) (k := 4) F_stacks (He.glo_ok X G (c.d.fact 31 (f := .glo "stacks") rfl)) (F_stacks.bindsN fun _ _ _ _ _ _ us hl => match us, hl with | [_, _], _ => rfl) (h_need_place.mono (by decide)) (h_round_from.mono (by decide))
  have h_right_parts := ok_right_parts (P := P) (w := w) (K := K) (mg := mg) (base := base) (k := 3) F_right_parts (He.glo_ok X G (c.d.fact 32 (f := .glo "right_parts") rfl)) (F_right_parts.bindsN fun _ _ _ _ _ _ us hl => match us, hl with | [_], _ => rfl) (h_neighbours.mono (by decide)) (h_between.mono (by decide)) (He.free_ok X G (c.d.fact 89 (f := .free "tuple") rfl)) (He.free_ok X G (c.d.fact 87 (f := .free "sorted") rfl))
  have h_is_upright := ok_is_upright (P := P) (w := w) (K := K) (mg := mg) (base := base) (k := 4) F_is_upright (He.glo_ok X G (c.d.fact 34 (f := .glo "is_upright") rfl)) (F_is_upright.bindsN fun _ _ _ _ _ _ us hl => match us, hl with | [_, _], _ => rfl) (h_neighbours.mono (by decide)) (h_right_parts.mono (by decide)) (h_third_corner.mono (by decide)) (He.free_ok X G (c.d.fact 89 (f := .free "tuple") rfl)) (He.free_ok X G (c.d.fact 87 (f := .free "sorted") rfl))
  have h_upright := ok_upright (P := P) (w := w) (K := K) (mg := mg) (base := base) (k := 5) F_upright (He.glo_ok X G (c.d.fact 33 (f := .glo "upright") rfl)) (F_upright.bindsN fun _ _ _ _ _ _ us hl => match us, hl with | [_, _], _ => rfl) (h_need_place.mono (by decide)) (h_is_upright.mono (by decide))
  have h_part_corner := ok_part_corner (P := P) (w := w) (K := K) (mg := mg) (base := base) (k := 1) F_part_corner (He.glo_ok X G (c.d.fact 41 (f := .glo "part_corner") rfl)) (F_part_corner.bindsN fun _ _ _ _ _ _ us hl => match us, hl with | [_, _, _, _], _ => rfl) (h_between.mono (by decide))
  have h_put_down := ok_put_down (P := P) (w := w) (K := K) (mg := mg) (base := base) (k := 2) F_put_down (He.glo_ok X G (c.d.fact 42 (f := .glo "put_down") rfl)) (F_put_down.bindsN fun _ _ _ _ _ _ us hl => match us, hl with | [_, _, _, _], _ => rfl) (h_part_corner.mono (by decide)) 64
  have h_order_of := ok_order_of (P := P) (w := w) (K := K) (mg := mg) (base := base) (k := 67) F_order_of (He.glo_ok X G (c.d.fact 43 (f := .glo "order_of") rfl)) (F_order_of.bindsN fun _ _ _ _ _ _ us hl => match us, hl with | [_], _ => rfl) (h_put_down.mono (by decide)) (h_neighbours.mono (by decide))
  have h_strip_order := ok_strip_order (P := P) (w := w) (K := K) (mg := mg) (base := base) (k := 68) F_strip_order (He.glo_ok X G (c.d.fact 44 (f := .glo "strip_order") rfl)) (F_strip_order.bindsN fun _ _ _ _ _ _ us hl => match us, hl with | [_], _ => rfl) (h_need_plan.mono (by decide)) (h_order_of.mono (by decide))
  have h_row_of := ok_row_of (P := P) (w := w) (K := K) (mg := mg) (base := base) (k := 68) F_row_of (He.glo_ok X G (c.d.fact 45 (f := .glo "row_of") rfl)) (F_row_of.bindsN fun _ _ _ _ _ _ us hl => match us, hl with | [_], _ => rfl) (h_need_plan.mono (by decide)) (h_neighbours.mono (by decide)) (h_right_parts.mono (by decide)) (h_order_of.mono (by decide)) (He.free_ok X G (c.d.fact 89 (f := .free "tuple") rfl)) (He.free_ok X G (c.d.fact 87 (f := .free "sorted") rfl))
  have h_steps_from := ok_steps_from (P := P) (w := w) (K := K) (mg := mg) (base := base) (k := 2) F_steps_from (He.glo_ok X G (c.d.fact 35 (f := .glo "steps_from") rfl)) (F_steps_from.bindsN fun _ _ _ _ _ _ us hl => match us, hl with | [_, _, _], _ => rfl) (gtup_ok X G (c.d.fact 92 (f := .glo "WAYS") rfl) (c.xf 0)) (h_third_corner.mono (by decide))
  have h_road := ok_road (P := P) (w := w) (K := K) (mg := mg) (base := base) (k := 4) F_road (He.glo_ok X G (c.d.fact 36 (f := .glo "road") rfl)) (F_road.bindsN fun _ _ _ _ _ _ us hl => match us, hl with | [_, _, _], _ => rfl) (h_need_place.mono (by decide)) (h_neighbours.mono (by decide)) (He.free_ok X G (c.d.fact 82 (f := .free "len") rfl)) (h_steps_from.mono (by decide))
  have h_stepped := ok_stepped (P := P) (w := w) (K := K) (mg := mg) (base := base) (k := 7) F_stepped (He.glo_ok X G (c.d.fact 37 (f := .glo "stepped") rfl)) (F_stepped.bindsN fun _ _ _ _ _ _ us hl => match us, hl with | [_, _, _], _ => rfl) (He.free_ok X G (c.d.fact 82 (f := .free "len") rfl)) (gtup_ok X G (c.d.fact 92 (f := .glo "WAYS") rfl) (c.xf 0)) (exk_of (He.glo_ok X G (c.d.fact 76 (f := .glo "BadStep") rfl)) (He.exc_ok (c.d.fact 101 (f := .exc "BadStep") rfl))) (h_pinch.mono (by decide)) (h_unpinch.mono (by decide))
  have h_walked := ok_walked (P := P) (w := w) (K := K) (mg := mg) (base := base) (k := 8) F_walked (He.glo_ok X G (c.d.fact 38 (f := .glo "walked") rfl)) (F_walked.bindsN fun _ _ _ _ _ _ us hl => match us, hl with | [_, _, _], _ => rfl) (h_need_place.mono (by decide)) (h_stepped.mono (by decide))
  have h_tour_by := ok_tour_by (P := P) (w := w) (K := K) (mg := mg) (base := base) (k := 2) F_tour_by (He.glo_ok X G (c.d.fact 39 (f := .glo "tour_by") rfl)) (F_tour_by.bindsN fun _ _ _ _ _ _ us hl => match us, hl with | [_, _, _, _], _ => rfl) (gtup_ok X G (c.d.fact 92 (f := .glo "WAYS") rfl) (c.xf 0)) (h_third_corner.mono (by decide)) (He.free_ok X G (c.d.fact 89 (f := .free "tuple") rfl)) (He.free_ok X G (c.d.fact 87 (f := .free "sorted") rfl)) (He.free_ok X G (c.d.fact 86 (f := .free "range") rfl)) 64
  have h_tour := ok_tour (P := P) (w := w) (K := K) (mg := mg) (base := base) (k := 67) F_tour (He.glo_ok X G (c.d.fact 40 (f := .glo "tour") rfl)) (F_tour.bindsN fun _ _ _ _ _ _ us hl => match us, hl with | [_, _], _ => rfl) (h_need_place.mono (by decide)) (h_tour_by.mono (by decide)) (h_neighbours.mono (by decide))
  have h_middle_corners := ok_middle_corners (P := P) (w := w) (K := K) (mg := mg) (base := base) (k := 3) F_middle_corners (He.glo_ok X G (c.d.fact 47 (f := .glo "middle_corners") rfl)) (F_middle_corners.bindsN fun _ _ _ _ _ _ us hl => match us, hl with | [_, _], _ => rfl) (h_neighbours.mono (by decide)) (He.free_ok X G (c.d.fact 82 (f := .free "len") rfl))
  have h_middles := ok_middles (P := P) (w := w) (K := K) (mg := mg) (base := base) (k := 4) F_middles (He.glo_ok X G (c.d.fact 48 (f := .glo "middles") rfl)) (F_middles.bindsN fun _ _ _ _ _ _ us hl => match us, hl with | [_, _], _ => rfl) (h_need_place.mono (by decide)) (h_middle_corners.mono (by decide))
  have h_need_lie := ok_need_lie (P := P) (w := w) (K := K) (mg := mg) (base := base) (k := 4) F_need_lie (He.glo_ok X G (c.d.fact 46 (f := .glo "need_lie") rfl)) (F_need_lie.bindsN fun _ _ _ _ _ _ us hl => match us, hl with | [_, _], _ => rfl) (h_need_place.mono (by decide)) (He.int_ok X G (c.d.fact 93 (f := .int "THIRDS" 3) rfl)) (exk_of (He.glo_ok X G (c.d.fact 75 (f := .glo "BadLie") rfl)) (He.exc_ok (c.d.fact 100 (f := .exc "BadLie") rfl)))
  have h_stretch_start := ok_stretch_start (P := P) (w := w) (K := K) (mg := mg) (base := base) (k := 0) F_stretch_start (He.glo_ok X G (c.d.fact 49 (f := .glo "stretch_start") rfl)) (F_stretch_start.bindsN fun _ _ _ _ _ _ us hl => match us, hl with | [_, _], _ => rfl) (He.free_ok X G (c.d.fact 82 (f := .free "len") rfl))
  have h_heap_from := ok_heap_from (P := P) (w := w) (K := K) (mg := mg) (base := base) (k := 1) F_heap_from (He.glo_ok X G (c.d.fact 50 (f := .glo "heap_from") rfl)) (F_heap_from.bindsN fun _ _ _ _ _ _ us hl => match us, hl with | [_, _, _], _ => rfl) (He.free_ok X G (c.d.fact 82 (f := .free "len") rfl)) (h_stretch_start.mono (by decide)) (He.int_ok X G (c.d.fact 93 (f := .int "THIRDS" 3) rfl))
  have h_heaps_of := ok_heaps_of (P := P) (w := w) (K := K) (mg := mg) (base := base) (k := 68) F_heaps_of (He.glo_ok X G (c.d.fact 51 (f := .glo "heaps_of") rfl)) (F_heaps_of.bindsN fun _ _ _ _ _ _ us hl => match us, hl with | [_, _], _ => rfl) (h_order_of.mono (by decide)) (He.free_ok X G (c.d.fact 86 (f := .free "range") rfl)) (h_round_from.mono (by decide)) (h_is_upright.mono (by decide)) (h_stretch_start.mono (by decide)) (He.int_ok X G (c.d.fact 93 (f := .int "THIRDS" 3) rfl)) (He.free_ok X G (c.d.fact 82 (f := .free "len") rfl)) (h_heap_from.mono (by decide))
  have h_ring_of := ok_ring_of (P := P) (w := w) (K := K) (mg := mg) (base := base) (k := 69) F_ring_of (He.glo_ok X G (c.d.fact 53 (f := .glo "ring_of") rfl)) (F_ring_of.bindsN fun _ _ _ _ _ _ us hl => match us, hl with | [_, _], _ => rfl) (h_middle_corners.mono (by decide)) (He.free_ok X G (c.d.fact 80 (f := .free "enumerate") rfl)) (h_heaps_of.mono (by decide))
  have h_ring := ok_ring (P := P) (w := w) (K := K) (mg := mg) (base := base) (k := 70) F_ring (He.glo_ok X G (c.d.fact 54 (f := .glo "ring") rfl)) (F_ring.bindsN fun _ _ _ _ _ _ us hl => match us, hl with | [_, _], _ => rfl) (h_need_lie.mono (by decide)) (h_ring_of.mono (by decide))
  have h_turned_lie := ok_turned_lie (P := P) (w := w) (K := K) (mg := mg) (base := base) (k := 0) F_turned_lie (He.glo_ok X G (c.d.fact 55 (f := .glo "turned_lie") rfl)) (F_turned_lie.bindsN fun _ _ _ _ _ _ us hl => match us, hl with | [_], _ => rfl)
  have h_beneath := ok_beneath (P := P) (w := w) (K := K) (mg := mg) (base := base) (k := 70) F_beneath (He.glo_ok X G (c.d.fact 56 (f := .glo "beneath") rfl)) (F_beneath.bindsN fun _ _ _ _ _ _ us hl => match us, hl with | [_, _], _ => rfl) (h_need_lie.mono (by decide)) (h_ring_of.mono (by decide)) (h_turned_lie.mono (by decide))
  have h_heaps := ok_heaps (P := P) (w := w) (K := K) (mg := mg) (base := base) (k := 69) F_heaps (He.glo_ok X G (c.d.fact 52 (f := .glo "heaps") rfl)) (F_heaps.bindsN fun _ _ _ _ _ _ us hl => match us, hl with | [_, _], _ => rfl) (h_need_lie.mono (by decide)) (h_heaps_of.mono (by decide))
  have h__law_plan_door := ok__law_plan_door (P := P) (w := w) (K := K) (mg := mg) (base := base) (k := 71) F__law_plan_door (He.glo_ok X G (c.d.fact 66 (f := .glo "_law_plan_door") rfl)) (F__law_plan_door.bindsN fun _ _ _ _ _ _ us hl => match us, hl with | [_, _], _ => rfl) (h_lines.mono (by decide)) (h_parts.mono (by decide)) (h_fan.mono (by decide)) (h_turned.mono (by decide)) (h_mirrored.mono (by decide)) (h_alike.mono (by decide)) (h_first_form.mono (by decide)) (h_number_of.mono (by decide)) (h_places.mono (by decide)) (h_third.mono (by decide)) (h_pinch.mono (by decide)) (h_unpinch.mono (by decide)) (h_over.mono (by decide)) (h_stacks.mono (by decide)) (h_upright.mono (by decide)) (h_strip_order.mono (by decide)) (h_row_of.mono (by decide)) (h_road.mono (by decide)) (h_walked.mono (by decide)) (h_tour.mono (by decide)) (h_middles.mono (by decide)) (h_ring.mono (by decide)) (h_beneath.mono (by decide)) (h_heaps.mono (by decide)) (lt_of sl hK hB (d := d__law_plan_door) (List.mem_cons_self ..) F__law_plan_door rfl) (He.glo_ok X G (c.d.fact 70 (f := .glo "BadPlan") rfl)) (exm_cons (He.exm_ok (c.d.fact 102 (f := .exm "BadPlan" "BadPlan" true) rfl)) (exm_cons (He.exm_ok (c.d.fact 104 (f := .exm "BadFace" "BadPlan" false) rfl)) (exm_cons (He.exm_ok (c.d.fact 106 (f := .exm "BadPlace" "BadPlan" false) rfl)) (exm_cons (He.exm_ok (c.d.fact 108 (f := .exm "BadWay" "BadPlan" false) rfl)) (exm_cons (He.exm_ok (c.d.fact 110 (f := .exm "NoPinch" "BadPlan" false) rfl)) (exm_cons (He.exm_ok (c.d.fact 112 (f := .exm "BadLie" "BadPlan" false) rfl)) (exm_cons (He.exm_ok (c.d.fact 114 (f := .exm "BadStep" "BadPlan" false) rfl)) exm_nil))))))) (He.glo_ok X G (c.d.fact 69 (f := .glo "PinchError") rfl)) (exm_cons (He.exm_ok (c.d.fact 103 (f := .exm "BadPlan" "PinchError" true) rfl)) (exm_cons (He.exm_ok (c.d.fact 105 (f := .exm "BadFace" "PinchError" true) rfl)) (exm_cons (He.exm_ok (c.d.fact 107 (f := .exm "BadPlace" "PinchError" true) rfl)) (exm_cons (He.exm_ok (c.d.fact 109 (f := .exm "BadWay" "PinchError" true) rfl)) (exm_cons (He.exm_ok (c.d.fact 111 (f := .exm "NoPinch" "PinchError" true) rfl)) (exm_cons (He.exm_ok (c.d.fact 113 (f := .exm "BadLie" "PinchError" true) rfl)) (exm_cons (He.exm_ok (c.d.fact 115 (f := .exm "BadStep" "PinchError" true) rfl)) exm_nil)))))))
  exact ok_law (P := P) (w := w) (K := K) (mg := mg) (base := base) (k := 74) F_law (h_o__law_bag.mono (by decide)) (h__law_plan.mono (by decide)) (He.free_ok X G (c.d.fact 86 (f := .free "range") rfl)) (h__law_pull.mono (by decide)) (h__law_good_plan.mono (by decide)) (He.free_ok X G (c.d.fact 78 (f := .free "all") rfl)) (h__law_plan_door.mono (by decide)) (h__law_bent_plan.mono (by decide))
end Tx
open PySem PySem.W PySem.Calls PyProof.Rows
theorem PySem.Challenge.cw_pinchfold_k06_plans_refused_at_every_doo_holds : PySem.Challenge.rw_pinchfold_k06_plans_refused_at_every_doo.Holds := by
  w_on; o_law
  refine HandSHeadRun.head_any (r := OpenLaw.row PySem.Challenge.rw_pinchfold_k06_plans_refused_at_every_doo) (q := view (OpenLaw.row PySem.Challenge.rw_pinchfold_k06_plans_refused_at_every_doo).prog [88]) (H := Tx.Hd.hk) (ob := Tx.Hd.ob) (M := 6000) (loose := Tx.Hd.loose) (d := HandSHeadRun.topDef (OpenLaw.row PySem.Challenge.rw_pinchfold_k06_plans_refused_at_every_doo).prog 88) (kwd := []) Tx.Hd.ob_eq
    (by kernel_rfl) (fun s => by kernel_rfl) Tx.Hd.run (by kernel_rfl) (by kernel_rfl) (by kernel_rfl) (by rfl) (by first | assumption | decide +kernel) (by decide +kernel) ⟨rfl, rfl, rfl, rfl, rfl, by decide +kernel⟩ ?hw ?hc
  case hw => w_witness2
  case hc =>
    refine TL.walk_xT (l := PySem.Challenge.rw_pinchfold_k06_plans_refused_at_every_doo) (m := 63) (j := 75) (x := "_law_script") rfl (by decide) (by kernel_rfl) ⟨rfl, by decide, by decide⟩ ?_
    intro w mg fa h Y G hmg0
    obtain ⟨K0, KX, c⟩ := Y
    have hmg : mg ("law" : PySem.Str) = some (.ref fa) := by
      have e : (HandSHeadRun.topDef (OpenLaw.row PySem.Challenge.rw_pinchfold_k06_plans_refused_at_every_doo).prog 88).name = ("law" : PySem.Str) := by kernel_rfl
      rw [← e]
      exact hmg0
    exact ⟨_, c.kin KX, TL.lawAt c KX (Tx.facts (P := (PySem.Challenge.rw_pinchfold_k06_plans_refused_at_every_doo).prog) (w := w) rfl KX G hmg c)⟩
