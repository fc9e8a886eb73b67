import PyProof.Rows.All
import Wide.All
import OpenK.AllK
import Wide.FinOn
import HandS.Base
import HandS.Call
import HandS.List
import HandS.Exc
import HandS.ExcOwn
import HandS.Defaults
import HandS.HeadHook1
import HandS.HeadHook2
import HandS.Lambda
import HandS.Deep
import HandS.Wide
import HandS.TupAny
import HandS.SortInts
import KE.SortData
import HandS.Comp
import HandS.TryMany
import HandS.TryOnly
import HandS.HeadEnd
import HandS.Words
import HandS.WordsExc
import HandS.EndBits
import HandS.Iter
import HandS.Walk
import KE.GoesEnum
import KE.GoesMore
import HandS.IsInst
import HandS.Text
import HandS.Dict
import HandS.Conv
import HandS.Style
import HandS.TupLe
import PyProof.StrOps2
import HandS.FStr
import HandS.RaiseMore
import HandS.TupSets
import HandS.HeadHook4
import HandS.HeadWalk
import KE.KDictDisplayH
import HandS.TupLen
import KE.DataMinMax
import HandS.MakeKwOnly
import HandS.More
import HandS.DictTup
import KE.KDictCopyH
import KE.KeyNested
import KE.KDictKeyed
import KE.KStateDown
import Lean
import HandS.Head0
import HandS.Head1
import HandS.Head2
import PySem.Challenge.RW_pinchfold_k09_unlike_plans_counted
set_option Elab.async false
set_option linter.all false
set_option maxRecDepth 100000
set_option maxHeartbeats 4000000
namespace TL
open PySem PySem.Spec PyProof.Rows L2
abbrev Frag := PySem.W.Frag
abbrev SS := L2.St
def Ex (H H' : Hp) : Prop := ∀ a o, H a = some o → H' a = some o
theorem Ex.refl (H : Hp) : Ex H H := fun _ _ h => h
theorem Ex.trans {H H1 H2 : Hp} (a : Ex H H1) (b : Ex H1 H2) : Ex H H2 := fun x o h => b x o (a x o h)
theorem Ex.new {H : Hp} {p : Addr} {o : HO} (h : H p = none) : Ex H (upd H p o) := fun a u e => by
  rw [upd_ne (ne_of_none e h)]; exact e
theorem Ex.mut {H H' : Hp} {p : Addr} {o : HO} (e : Ex H H') (h : H p = none) : Ex H (upd H' p o) := fun a u ha => by
  rw [upd_ne (ne_of_none ha h)]; exact e a u ha
theorem Ex.none {H H' : Hp} (e : Ex H H') {a : Addr} (h : H' a = none) : H a = none := by
  cases q : H a with
  | none => rfl
  | some o => rw [e a o q] at h; cases h
theorem ex_rd {H H' : Hp} {a : Addr} {u : HO} (e : Ex H H') (h : Rd H a u) : Rd H' a u := by
  rcases h with h | ⟨o, h⟩
  · exact .inl (e a _ h)
  · exact .inr ⟨o, e a _ h⟩
theorem ex_l {K : Frag} {H H' : Hp} {a : Addr} {xs : List V} (e : Ex H H') (h : SqL K H a xs) : SqL K H' a xs := by
  rcases h with h | h
  · exact .inl (ex_rd e h)
  · exact .inr h
theorem ex_t {K : Frag} {H H' : Hp} {a : Addr} {xs : List V} (e : Ex H H') (h : SqT K H a xs) : SqT K H' a xs := by
  rcases h with h | h
  · exact .inl (ex_rd e h)
  · exact .inr h
def kD : Key → PyData
  | .inl i => .int i
  | .inr s => .str s
def kitTys : List String := ["NoneType", "bool", "int", "str", "list", "tuple", "dict"]
/-- a class of the program's own that is none of the kit's types -/
structure InsK (K : Frag) (n : Str) : Prop where
  cls : Cls K (He.ga K n)
  c1 : PySem.W.findIn K (.ref (He.ga K n)) (Str.ofString "__class__") = some (some (.builtin "object.__class__"))
  c2 : PySem.W.specialIn K (.builtin "object.__class__") (Str.ofString "__get__") = some (some (.builtin "getset_descriptor.__get__"))
  c3 : PySem.W.takesIn K (.builtin "object.__class__") = some true
  c4 : PySem.W.mroIn K (He.ga K n) (.type "object") = some true
  kit : ∀ T ∈ kitTys, PySem.W.kitOne K (.ref (He.ga K n)) (.type T) = some false
/-- the one tuple of the module that becomes data -/
abbrev startD : PyData := .tuple [.int 0, .int 1, .int 0]
abbrev startV : List V := [.int 0, .int 1, .int 0]
mutual
inductive Dq (K : Frag) (H : Hp) : V → PyData → Prop
  | non : Dq K H .non .none
  | bl (b : Bool) : Dq K H (.bl b) (.bool b)
  | int (i : Int) : Dq K H (.int i) (.int i)
  | str (x : Str) : Dq K H (.str x) (.str x)
  | lst {a : Addr} {xs : List V} {ds : List PyData} : SqL K H a xs → DqAll K H xs ds → Dq K H (.ref a) (.list ds)
  | tup {a : Addr} {xs : List V} {ds : List PyData} : H a = some (.tup xs) → DqAll K H xs ds → Dq K H (.ref a) (.tuple ds)
  | ktup {a : Addr} : (∀ H, SqT K H a startV) → Dq K H (.ref a) startD
  | dct {a : Addr} {vs : List (List Key × V)} {kvs : List (PyData × PyData)} : H a = some (.dT vs) → DqT K H vs kvs → Dq K H (.ref a) (.dict ((.none, .none) :: kvs))
  | dck {a : Addr} {vs : List (Key × V)} {kvs : List (PyData × PyData)} : H a = some (.dK vs) → DqK K H vs kvs → Dq K H (.ref a) (.dict kvs)
  | ins {a dx : Addr} {n : Str} {vs : List (Str × V)} {kvs : List (PyData × PyData)} : InsK K n → H a = some (.ins (He.ga K n) dx vs) → DqF K H vs kvs → Dq K H (.ref a) (.dict ((.bool true, .str n) :: kvs))
inductive DqAll (K : Frag) (H : Hp) : List V → List PyData → Prop
  | nil : DqAll K H [] []
  | cons {v : V} {vs : List V} {d : PyData} {ds : List PyData} : Dq K H v d → DqAll K H vs ds → DqAll K H (v :: vs) (d :: ds)
inductive DqT (K : Frag) (H : Hp) : List (List Key × V) → List (PyData × PyData) → Prop
  | nil : DqT K H [] []
  | cons {k : List Key} {v : V} {vs : List (List Key × V)} {d : PyData} {ds : List (PyData × PyData)} : Dq K H v d → DqT K H vs ds → DqT K H ((k, v) :: vs) ((.tuple (k.map kD), d) :: ds)
inductive DqK (K : Frag) (H : Hp) : List (Key × V) → List (PyData × PyData) → Prop
  | nil : DqK K H [] []
  | cons {k : Key} {v : V} {vs : List (Key × V)} {d : PyData} {ds : List (PyData × PyData)} : Dq K H v d → DqK K H vs ds → DqK K H ((k, v) :: vs) ((kD k, d) :: ds)
inductive DqF (K : Frag) (H : Hp) : List (Str × V) → List (PyData × PyData) → Prop
  | nil : DqF K H [] []
  | cons {k : Str} {v : V} {vs : List (Str × V)} {d : PyData} {ds : List (PyData × PyData)} : Dq K H v d → DqF K H vs ds → DqF K H ((k, v) :: vs) ((.str k, d) :: ds)
end
section
variable {K : Frag} {H H' : Hp}
mutual
theorem dp_mono (e : Ex H H') : ∀ (d : PyData) (v : V), Dq K H v d → Dq K H' v d
  | _, _, .non => .non
  | _, _, .bl b => .bl b
  | _, _, .int i => .int i
  | _, _, .str x => .str x
  | _, _, .lst hs ha => .lst (ex_l e hs) (dpa_mono e _ _ ha)
  | _, _, .tup hs ha => .tup (e _ _ hs) (dpa_mono e _ _ ha)
  | _, _, .ktup hs => .ktup hs
  | _, _, .dct hs ha => .dct (e _ _ hs) (dqt_mono e _ _ ha)
  | _, _, .dck hs ha => .dck (e _ _ hs) (dqk_mono e _ _ ha)
  | _, _, .ins hk hs ha => .ins hk (e _ _ hs) (dqf_mono e _ _ ha)
theorem dpa_mono (e : Ex H H') : ∀ (ds : List PyData) (vs : List V), DqAll K H vs ds → DqAll K H' vs ds
  | _, _, .nil => .nil
  | _, _, .cons h1 h2 => .cons (dp_mono e _ _ h1) (dpa_mono e _ _ h2)
theorem dqt_mono (e : Ex H H') : ∀ (ds : List (PyData × PyData)) (vs : List (List Key × V)), DqT K H vs ds → DqT K H' vs ds
  | _, _, .nil => .nil
  | _, _, .cons h1 h2 => .cons (dp_mono e _ _ h1) (dqt_mono e _ _ h2)
theorem dqk_mono (e : Ex H H') : ∀ (ds : List (PyData × PyData)) (vs : List (Key × V)), DqK K H vs ds → DqK K H' vs ds
  | _, _, .nil => .nil
  | _, _, .cons h1 h2 => .cons (dp_mono e _ _ h1) (dqk_mono e _ _ h2)
theorem dqf_mono (e : Ex H H') : ∀ (ds : List (PyData × PyData)) (vs : List (Str × V)), DqF K H vs ds → DqF K H' vs ds
  | _, _, .nil => .nil
  | _, _, .cons h1 h2 => .cons (dp_mono e _ _ h1) (dqf_mono e _ _ h2)
end
mutual
theorem dq_dp : ∀ (d : PyData) (v : V), d.canLay0 = true → Dq K H v d → Dp K H v d
  | .none, _, _, h => by cases h; exact .non
  | .bool b, _, _, h => by cases h; exact .bl b
  | .int i, _, _, h => by cases h; exact .int i
  | .str x, _, _, h => by cases h; exact .str x
  | .list ds, _, c, h => by
    cases h with
    | lst hs ha => exact .lst hs (dqa_dpa ds _ (by simpa [PyData.canLay0] using c) ha)
  | .tuple ds, _, c, h => by
    cases h with
    | tup hs ha => exact .tup (SqT.of hs) (dqa_dpa ds _ (by simpa [PyData.canLay0] using c) ha)
    | ktup hs => exact .tup (hs H) (.cons (.int 0) (.cons (.int 1) (.cons (.int 0) .nil)))
  | .dict _, _, c, _ => nomatch c
theorem dqa_dpa : ∀ (ds : List PyData) (vs : List V), PyData.canLayAll0 ds = true → DqAll K H vs ds → DpAll K H vs ds
  | [], _, _, h => by cases h; exact .nil
  | d :: ds, _, c, h => by
    have c' : d.canLay0 = true ∧ PyData.canLayAll0 ds = true := by simpa [PyData.canLayAll0] using c
    cases h with
    | cons h1 h2 => exact .cons (dq_dp d _ c'.1 h1) (dqa_dpa ds _ c'.2 h2)
end
theorem shp_lay {d : PyData} (h : SeqAt.shaped d = true) : d.canLay0 = true := (Bool.and_eq_true_iff.mp h).1
theorem dp_int {v : V} {i : Int} (h : Dq K H v (.int i)) : v = .int i := by cases h; rfl
theorem dp_str {v : V} {i : Str} (h : Dq K H v (.str i)) : v = .str i := by cases h; rfl
theorem dp_bl {v : V} {i : Bool} (h : Dq K H v (.bool i)) : v = .bl i := by cases h; rfl
theorem dp_non {v : V} (h : Dq K H v .none) : v = .non := by cases h; rfl
theorem dp_lst {v : V} {ds : List PyData} (h : Dq K H v (.list ds)) : ∃ a xs, v = .ref a ∧ SqL K H a xs ∧ DqAll K H xs ds := by
  cases h with
  | lst hs ha => exact ⟨_, _, rfl, hs, ha⟩
theorem dp_tup {v : V} {ds : List PyData} (h : Dq K H v (.tuple ds)) : ∃ a xs, v = .ref a ∧ SqT K H a xs ∧ DqAll K H xs ds := by
  cases h with
  | tup hs ha => exact ⟨_, _, rfl, SqT.of hs, ha⟩
  | ktup hs => exact ⟨_, _, rfl, hs H, .cons (.int 0) (.cons (.int 1) (.cons (.int 0) .nil))⟩
theorem dp_tup' {v : V} {ds : List PyData} (hn : ds ≠ [.int 0, .int 1, .int 0]) (h : Dq K H v (.tuple ds)) : ∃ a xs, v = .ref a ∧ H a = some (.tup xs) ∧ DqAll K H xs ds := by
  cases h with
  | tup hs ha => exact ⟨_, _, rfl, hs, ha⟩
  | ktup hs => exact absurd rfl hn
theorem dpa_len : ∀ {vs : List V} {ds : List PyData}, DqAll K H vs ds → vs.length = ds.length
  | _, [], h => by cases h; rfl
  | _, _ :: _, h => by
    cases h with
    | cons h1 h2 => exact congrArg Nat.succ (dpa_len h2)
theorem dpa_get : ∀ {ds : List PyData} {vs : List V} {i : Nat} {d : PyData}, DqAll K H vs ds → ds[i]? = some d → ∃ v, vs[i]? = some v ∧ Dq K H v d
  | [], _, _, _, _, e => by simp at e
  | x :: ds, _, 0, d, h, e => by
    cases h with
    | cons h1 h2 =>
      have e' : x = d := Option.some.inj e
      subst e'
      exact ⟨_, rfl, h1⟩
  | x :: ds, _, i + 1, d, h, e => by
    cases h with
    | cons h1 h2 => exact dpa_get (i := i) h2 e
theorem dpa_of : ∀ {ds : List PyData} {vs : List V} {i : Nat} {v : V}, DqAll K H vs ds → vs[i]? = some v → ∃ d, ds[i]? = some d ∧ Dq K H v d
  | [], _, _, _, h, e => by cases h; simp at e
  | x :: ds, _, 0, v, h, e => by
    cases h with
    | cons h1 h2 =>
      have e' := Option.some.inj e
      subst e'
      exact ⟨_, rfl, h1⟩
  | x :: ds, _, i + 1, d, h, e => by
    cases h with
    | cons h1 h2 => exact dpa_of (i := i) h2 e
theorem dpa_app : ∀ {ds es : List PyData} {vs ws : List V}, DqAll K H vs ds → DqAll K H ws es → DqAll K H (vs ++ ws) (ds ++ es)
  | [], _, _, _, h, g => by cases h; exact g
  | _ :: _, _, _, _, h, g => by
    cases h with
    | cons h1 h2 => exact .cons h1 (dpa_app h2 g)
theorem dpa_one {v : V} {d : PyData} (h : Dq K H v d) : DqAll K H [v] [d] := .cons h .nil
theorem dpa_set : ∀ {ds : List PyData} {vs : List V} (i : Nat) {v : V} {d : PyData}, DqAll K H vs ds → Dq K H v d → DqAll K H (vs.set i v) (ds.set i d)
  | [], _, _, _, _, h, _ => by cases h; exact .nil
  | _ :: _, _, 0, _, _, h, g => by
    cases h with
    | cons h1 h2 => exact .cons g h2
  | _ :: _, _, i + 1, _, _, h, g => by
    cases h with
    | cons h1 h2 => exact .cons h1 (dpa_set i h2 g)
theorem dpa_take : ∀ (n : Nat) {ds : List PyData} {vs : List V}, DqAll K H vs ds → DqAll K H (vs.take n) (ds.take n)
  | 0, _, _, _ => .nil
  | _ + 1, [], _, h => by cases h; exact .nil
  | n + 1, _ :: _, _, h => by
    cases h with
    | cons h1 h2 => exact .cons h1 (dpa_take n h2)
theorem dpa_drop : ∀ (n : Nat) {ds : List PyData} {vs : List V}, DqAll K H vs ds → DqAll K H (vs.drop n) (ds.drop n)
  | 0, _, _, h => h
  | _ + 1, [], _, h => by cases h; exact .nil
  | n + 1, _ :: _, _, h => by
    cases h with
    | cons h1 h2 => exact dpa_drop n h2
theorem dpa_ints : ∀ (ns : List Int), DqAll K H (ns.map V.int) (ns.map PyData.int)
  | [] => .nil
  | n :: ns => .cons (.int n) (dpa_ints ns)
theorem dpa_ints_eq : ∀ {ns : List Int} {vs : List V}, DqAll K H vs (ns.map PyData.int) → vs = ns.map V.int
  | [], _, h => by
    have h' : DqAll K H _ [] := h
    cases h'; rfl
  | n :: ns, _, h => by
    have h' : DqAll K H _ (.int n :: ns.map PyData.int) := h
    cases h' with
    | cons h1 h2 => rw [dp_int h1, dpa_ints_eq h2]; rfl
end
structure Lam where
  q : Str
  ps : Arguments
  bd : Expr
  sc : Scope
  cl : List (Str × Addr)
abbrev Lam.ob (l : Lam) (c : Addr) (pm ct : Value) : Obj := PySem.W.kla_obj "<lambda>" l.q l.ps l.bd l.sc l.cl pm c ct
def LamO (f : Addr) (l : Lam) (c : Addr) : HO := .ext fun h => ∃ pm ct, h.get? f = some (l.ob c pm ct)
def IsLam (F : Hp) (v : V) (l : Lam) : Prop := ∃ f c, v = .ref f ∧ F f = some (LamO f l c) ∧ F c = some (LamX.CodeO c l.q)
def LamsAre (F : Hp) : List V → List Lam → Prop
  | [], [] => True
  | v :: vs, l :: ls => IsLam F v l ∧ LamsAre F vs ls
  | _, _ => False
theorem IsLam.mono {F F' : Hp} {v : V} {l : Lam} (h : IsLam F v l) (e : Ex F F') : IsLam F' v l := by
  obtain ⟨f, c, h1, h2, h3⟩ := h
  exact ⟨f, c, h1, e _ _ h2, e _ _ h3⟩
theorem LamsAre.mono {F F' : Hp} (e : Ex F F') : ∀ {vs : List V} {ls : List Lam}, LamsAre F vs ls → LamsAre F' vs ls
  | [], [], _ => trivial
  | _ :: _, _ :: _, ⟨h1, h2⟩ => ⟨h1.mono e, h2.mono e⟩
/-- a bag of draws -/
def BagD (ds : List PyData) : Prop := ∃ (cells : List Int) (i s t : Int), ds = [.list (cells.map .int), .int i, .int s, .int t] ∧ (∀ c ∈ cells, 0 ≤ c) ∧ 0 ≤ i ∧ 0 ≤ s ∧ 0 ≤ t ∧ t < 2147483629
def notbl : HO → Bool
  | .tbl _ => false
  | _ => true
structure OwT where
  id : Addr
  fp : List Addr
  ok : Frag → Hp → Hp → V → Prop
  isr : ∀ {K : Frag} {F H : Hp} {v : V}, ok K F H v → v = .ref id
  mono : ∀ {K : Frag} {F F' H H' : Hp} {v : V}, Ex F F' → (∀ a ∈ fp, ∀ u, H a = some u → H' a = some u) → ok K F H v → ok K F' H' v
  there : ∀ {K : Frag} {F H : Hp} {v : V}, ok K F H v → ∀ a ∈ fp, ∃ u, H a = some u ∧ notbl u = true
  /-- the lists in it -/
  rows : List (Addr × List PyData)
  held : ∀ {K : Frag} {F H : Hp} {v : V}, ok K F H v → ∀ r ∈ rows, ∃ vs, H r.1 = some (.lst vs) ∧ DqAll K F vs r.2
inductive Sl where
  | un
  | d (x : PyData)
  | ol (a : Addr) (ds : List PyData)
  | bg (b : Addr)
  | v (x : V)
  | dt (a : Addr) (kvs : List (List Key × PyData))
  | dk (a : Addr) (kvs : List (Key × PyData))
  | oo (a : Addr) (rows : List (Addr × List PyData))
  | fv (l : Lam)
  | fl (ls : List Lam)
  | ow (t : OwT)
def Sl.fp : Sl → List Addr
  | .ol a _ => [a]
  | .bg a => [a]
  | .dt a _ => [a]
  | .dk a _ => [a]
  | .oo a rows => a :: rows.map (·.1)
  | .ow t => t.fp
  | _ => []
def KVp {κ : Type} (K : Frag) (F : Hp) : List (κ × V) → List (κ × PyData) → Prop := Paired fun p q => p.1 = q.1 ∧ Dq K F p.2 q.2
def SlOk (K : Frag) (F H : Hp) (o : Option V) : Sl → Prop
  | .un => True
  | .d x => ∃ v, o = some v ∧ Dq K F v x
  | .ol a ds => o = some (.ref a) ∧ ∃ vs, H a = some (.lst vs) ∧ DqAll K F vs ds
  | .bg a => o = some (.ref a) ∧ ∃ ds vs, BagD ds ∧ H a = some (.lst vs) ∧ DqAll K F vs ds
  | .v x => o = some x
  | .dt a kvs => o = some (.ref a) ∧ ∃ kvs', H a = some (.dT kvs') ∧ KVp K F kvs' kvs
  | .dk a kvs => o = some (.ref a) ∧ ∃ kvs', H a = some (.dK kvs') ∧ KVp K F kvs' kvs
  | .fv l => ∃ v, o = some v ∧ IsLam F v l
  | .fl ls => ∃ a vs, o = some (.ref a) ∧ F a = some (.lst vs) ∧ LamsAre F vs ls
  | .ow t => ∃ v, o = some v ∧ t.ok K F H v
  | .oo a rows => o = some (.ref a) ∧ H a = some (.lst (rows.map fun r => .ref r.1)) ∧ (a :: rows.map (·.1)).Nodup ∧ ∀ r ∈ rows, ∃ vs, H r.1 = some (.lst vs) ∧ DqAll K F vs r.2
def Own (env : List Sl) (a : Addr) : Prop := ∃ (i : Nat) (s : Sl), env[i]? = some s ∧ a ∈ s.fp
theorem paired_imp {α β : Type} {R S : α → β → Prop} : ∀ {xs : List α} {ys : List β}, Paired R xs ys → (∀ a b, R a b → S a b) → Paired S xs ys
  | _, _, .nil, _ => .nil
  | _, _, .cons r t, f => .cons (f _ _ r) (paired_imp t f)
theorem kvp_mono {κ : Type} {K : Frag} {F F' : Hp} (e : Ex F F') {a : List (κ × V)} {b : List (κ × PyData)} (h : KVp K F a b) : KVp K F' a b :=
  paired_imp h fun _ _ z => ⟨z.1, dp_mono e _ _ z.2⟩
theorem slok_mono {K : Frag} {F F' H H' : Hp} {o : Option V} {s : Sl} (e : Ex F F') (k : ∀ a ∈ s.fp, ∀ u, H a = some u → H' a = some u) (h : SlOk K F H o s) : SlOk K F' H' o s := by
  cases s with
  | un => trivial
  | d x => obtain ⟨v, h1, h2⟩ := h; exact ⟨v, h1, dp_mono e _ _ h2⟩
  | ol a ds => obtain ⟨h1, vs, h2, h3⟩ := h; exact ⟨h1, vs, k a (by simp [Sl.fp]) _ h2, dpa_mono e _ _ h3⟩
  | bg a => obtain ⟨h1, ds, vs, h4, h2, h3⟩ := h; exact ⟨h1, ds, vs, h4, k a (by simp [Sl.fp]) _ h2, dpa_mono e _ _ h3⟩
  | v x => exact h
  | dt a kvs => obtain ⟨h1, vs, h2, h3⟩ := h; exact ⟨h1, vs, k a (by simp [Sl.fp]) _ h2, kvp_mono e h3⟩
  | dk a kvs => obtain ⟨h1, vs, h2, h3⟩ := h; exact ⟨h1, vs, k a (by simp [Sl.fp]) _ h2, kvp_mono e h3⟩
  | fv l => obtain ⟨v, h1, h2⟩ := h; exact ⟨v, h1, h2.mono e⟩
  | fl ls => obtain ⟨a, vs, h1, h2, h3⟩ := h; exact ⟨a, vs, h1, e _ _ h2, h3.mono e⟩
  | ow t => obtain ⟨v, h1, h2⟩ := h; exact ⟨v, h1, t.mono e k h2⟩
  | oo a rows =>
    obtain ⟨h1, h2, h3, h4⟩ := h
    refine ⟨h1, k a (by simp [Sl.fp]) _ h2, h3, fun r hr => ?_⟩
    obtain ⟨vs, q1, q2⟩ := h4 r hr
    exact ⟨vs, k r.1 (List.mem_cons_of_mem _ (List.mem_map_of_mem hr)) _ q1, dpa_mono e _ _ q2⟩
theorem slok_there {K : Frag} {F H : Hp} {o : Option V} {s : Sl} (h : SlOk K F H o s) {a : Addr} (ha : a ∈ s.fp) : H a ≠ none := by
  cases s with
  | un => cases ha
  | ow t => obtain ⟨v, _, h2⟩ := h; obtain ⟨u, h3, _⟩ := t.there h2 a ha; rw [h3]; intro z; cases z
  | fv l => cases ha
  | fl l => cases ha
  | d x => cases ha
  | v x => cases ha
  | ol b ds => obtain ⟨_, vs, h2, _⟩ := h; have e : a = b := by simpa [Sl.fp] using ha
               subst e; rw [h2]; intro z; cases z
  | bg b => obtain ⟨_, ds, vs, _, h2, _⟩ := h; have e : a = b := by simpa [Sl.fp] using ha
            subst e; rw [h2]; intro z; cases z
  | dt b ds => obtain ⟨_, vs, h2, _⟩ := h; have e : a = b := by simpa [Sl.fp] using ha
               subst e; rw [h2]; intro z; cases z
  | dk b ds => obtain ⟨_, vs, h2, _⟩ := h; have e : a = b := by simpa [Sl.fp] using ha
               subst e; rw [h2]; intro z; cases z
  | oo b rows =>
    obtain ⟨_, h2, _, h4⟩ := h
    have ha : a = b ∨ a ∈ rows.map (·.1) := List.mem_cons.mp ha
    rcases ha with rfl | ha
    · rw [h2]; intro z; cases z
    · obtain ⟨r, hr, rfl⟩ := List.mem_map.mp ha
      obtain ⟨vs, q1, _⟩ := h4 r hr
      rw [q1]; intro z; cases z
/-- what stood at a def's entry: the frozen part, the heap, the objects that may be changed -/
structure G where
  F0 : Hp
  H0 : Hp
  M : List Addr
def markOf (q : Addr × Obj) : Option (Addr × Str) := match q.2.data with
  | .fields vs => match vs.toList with
    | [.str m _, .ref P, .str n _] => if m = ("lam!" : Str) then some (P, n) else none
    | _ => none
  | _ => none
def tabsK (K : Frag) : List (Addr × Str) := K.filterMap markOf
def ntb (o : HO) : Prop := ∀ ps, o ≠ .tbl ps
def TabF (F H : Hp) (P : Addr) (q : Str) : Prop := ∃ ps : Array Value, H P = some (.tbl ps) ∧ TriplesOk ps.toList ∧ ∀ (pos : Pos) (cv : Value), codeAmong pos ps.toList = some cv → ∃ c, cv = .ref c ∧ F c = some (LamX.CodeO c q)
structure TkOk (K : Frag) (F H : Hp) : Prop where
  fn : ∀ a ps, F a ≠ some (.tbl ps)
  tb : ∀ p ∈ tabsK K, TabF F H p.1 p.2
structure Sk (K : Frag) (F H : Hp) (σ : SS) (env : List Sl) : Prop where
  len : σ.length = env.length
  sl : ∀ (i : Nat) (s : Sl), env[i]? = some s → SlOk K F H (σ[i]?.getD none) s
  nd : ∀ (i j : Nat) (s t : Sl) (a : Addr), env[i]? = some s → env[j]? = some t → a ∈ s.fp → a ∈ t.fp → i = j
  fr : ∀ a, Own env a → F a = none
  ex : Ex F H
  tf : ∀ (a : Addr) (vs : List V), H a = some (.tup vs) → F a = some (.tup vs)
  tk : TkOk K F H
structure GtOk (K : Frag) (g : G) (H : Hp) : Prop where
  g7 : ∀ a ps, g.H0 a = some (.tbl ps) → H a ≠ none
  g8 : ∀ p ∈ tabsK K, g.H0 p.1 ≠ none
structure St (K : Frag) (g : G) (F H : Hp) (σ : SS) (env : List Sl) : Prop extends Sk K F H σ env where
  g1 : ∀ a o, g.H0 a = some o → a ∉ g.M → ntb o → H a = some o
  g2 : ∀ a, Own env a → g.H0 a = none ∨ a ∈ g.M
  g3 : Ex g.F0 F
  g4 : ∀ a, F a ≠ none → g.F0 a ≠ none ∨ g.H0 a = none
  g5 : ∀ a ∈ g.M, H a ≠ none
  g6 : ∀ a ∈ g.M, g.H0 a ≠ none
  gt : GtOk K g H
section
variable {K : Frag} {g : G} {F F' H H' : Hp} {σ : SS} {env : List Sl} {p : Addr} {o : HO}
theorem TabF.mono {P : Addr} {q : Str} (t : TabF F H P q) (e : Ex F F') (h : ∀ u, H P = some u → H' P = some u) : TabF F' H' P q := by
  obtain ⟨ps, h1, h2, h3⟩ := t
  exact ⟨ps, h _ h1, h2, fun pos cv hc => by obtain ⟨c, e1, e2⟩ := h3 pos cv hc; exact ⟨c, e1, e _ _ e2⟩⟩
theorem TkOk.grow (t : TkOk K F H) (e : Ex H H') : TkOk K F H' := ⟨t.fn, fun p hp => (t.tb p hp).mono (Ex.refl F) fun u q => e _ u q⟩
theorem TkOk.put {p' : Addr} (t : TkOk K F H) (h : ∀ p ∈ tabsK K, p.1 ≠ p') : TkOk K F (upd H p' o) := ⟨t.fn, fun p hp => (t.tb p hp).mono (Ex.refl F) fun u q => by rw [upd_ne (h p hp)]; exact q⟩
theorem TkOk.ne (t : TkOk K F H) {a : Addr} (h : ∀ ps, H a ≠ some (.tbl ps)) : ∀ p ∈ tabsK K, p.1 ≠ a := fun p hp z => by
  obtain ⟨ps, h1, _⟩ := t.tb p hp
  exact h ps (z ▸ h1)
theorem slok_ntb {o : Option V} {s : Sl} (h : SlOk K F H o s) {a : Addr} (ha : a ∈ s.fp) : ∀ ps, H a ≠ some (.tbl ps) := by
  cases s with
  | un => cases ha
  | ow t => obtain ⟨v, _, h2⟩ := h; obtain ⟨u, h3, h4⟩ := t.there h2 a ha; rw [h3]; intro ps z; cases z; cases h4
  | fv l => cases ha
  | fl l => cases ha
  | d x => cases ha
  | v x => cases ha
  | ol b ds => obtain ⟨_, vs, h2, _⟩ := h; have e : a = b := by simpa [Sl.fp] using ha
               subst e; rw [h2]; intro _ z; cases z
  | bg b => obtain ⟨_, ds, vs, _, h2, _⟩ := h; have e : a = b := by simpa [Sl.fp] using ha
            subst e; rw [h2]; intro _ z; cases z
  | dt b ds => obtain ⟨_, vs, h2, _⟩ := h; have e : a = b := by simpa [Sl.fp] using ha
               subst e; rw [h2]; intro _ z; cases z
  | dk b ds => obtain ⟨_, vs, h2, _⟩ := h; have e : a = b := by simpa [Sl.fp] using ha
               subst e; rw [h2]; intro _ z; cases z
  | oo b rows =>
    obtain ⟨_, h2, _, h4⟩ := h
    have ha : a = b ∨ a ∈ rows.map (·.1) := List.mem_cons.mp ha
    rcases ha with rfl | ha
    · rw [h2]; intro _ z; cases z
    · obtain ⟨r, hr, rfl⟩ := List.mem_map.mp ha
      obtain ⟨vs, q1, _⟩ := h4 r hr
      rw [q1]; intro _ z; cases z
theorem Sk.ntb (st : Sk K F H σ env) {a : Addr} (h : Own env a) : ∀ ps, H a ≠ some (.tbl ps) := by
  obtain ⟨i, s, h1, h2⟩ := h
  exact slok_ntb (st.sl i s h1) h2
theorem GtOk.grow (t : GtOk K g H) (e : ∀ a, H' a = none → H a = none) : GtOk K g H' := ⟨fun a ps h z => t.g7 a ps h (e a z), t.g8⟩
theorem Sk.there (st : Sk K F H σ env) {a : Addr} (h : Own env a) : H a ≠ none := by
  obtain ⟨i, s, h1, h2⟩ := h
  exact slok_there (st.sl i s h1) h2
theorem Sk.notown (st : Sk K F H σ env) (h : H p = none) : ¬ Own env p := fun z => st.there z h
/-- the heap grows -/
theorem Sk.grow (st : Sk K F H σ env) (e : Ex H H') (t : ∀ (a : Addr) (vs : List V), H' a = some (.tup vs) → H a = some (.tup vs)) : Sk K F H' σ env :=
  ⟨st.len, fun i s h => slok_mono (Ex.refl F) (fun a _ u q => e a u q) (st.sl i s h), st.nd, st.fr, st.ex.trans e, fun a vs h => st.tf a vs (t a vs h), st.tk.grow e⟩
theorem St.grow (st : St K g F H σ env) (e : Ex H H') (t : ∀ (a : Addr) (vs : List V), H' a = some (.tup vs) → H a = some (.tup vs)) : St K g F H' σ env :=
  { st.toSk.grow e t with g1 := fun a o h m n => e a o (st.g1 a o h m n), gt := st.gt.grow fun a z => e.none z, g2 := st.g2, g3 := st.g3, g4 := st.g4, g5 := fun a m z => st.g5 a m (e.none z), g6 := st.g6 }
theorem St.alloc (st : St K g F H σ env) (h : H p = none) (ht : ∀ vs, o ≠ .tup vs := by intro _ z; cases z) : St K g F (upd H p o) σ env := st.grow (Ex.new h) fun a vs q => by
  by_cases e : a = p
  · subst e; rw [upd_same] at q; exact absurd (Option.some.inj q) (ht vs)
  · rw [upd_ne e] at q; exact q
/-- frozen part and heap grow by what is fresh -/
theorem St.h0 (st : St K g F H σ env) (h : H p = none) : g.H0 p = none := by
  cases q : g.H0 p with
  | none => rfl
  | some u =>
    by_cases m : p ∈ g.M
    · exact absurd h (st.g5 p m)
    · have hn : TL.ntb u := fun ps z => st.gt.g7 p ps (by rw [q, z]) h
      rw [st.g1 p u q m hn] at h; cases h
theorem Sk.freeze (st : Sk K F H σ env) (h : H p = some o) (hF : F p = none) (hn : ¬ Own env p) (hb : TL.ntb o := by intro _ z; cases z) : Sk K (upd F p o) H σ env where
  len := st.len
  sl := fun i s e => slok_mono (Ex.new hF) (fun a _ u q => q) (st.sl i s e)
  nd := st.nd
  fr := fun a ha => by
    have hne : a ≠ p := fun z => hn (z ▸ ha)
    rw [upd_ne hne]; exact st.fr a ha
  ex := fun a u q => by
    by_cases hp : a = p
    · subst hp; rw [upd_same] at q; cases q; exact h
    · rw [upd_ne hp] at q; exact st.ex a u q
  tf := fun a vs q => by
    by_cases hp : a = p
    · subst hp; rw [h] at q; cases q; exact upd_same
    · rw [upd_ne hp]; exact st.tf a vs q
  tk := ⟨fun a ps q => by
    by_cases hp : a = p
    · subst hp; rw [upd_same] at q; exact hb ps (Option.some.inj q)
    · rw [upd_ne hp] at q; exact st.tk.fn a ps q, fun r hr => (st.tk.tb r hr).mono (Ex.new hF) fun _ q => q⟩
theorem St.freeze (st : St K g F H σ env) (h : H p = some o) (hF : F p = none) (hn : ¬ Own env p) (h0 : g.H0 p = none) (hb : TL.ntb o := by intro _ z; cases z) : St K g (upd F p o) H σ env :=
  { st.toSk.freeze h hF hn hb with
    gt := st.gt,
    g1 := st.g1, g2 := st.g2, g3 := st.g3.trans (Ex.new hF), g5 := st.g5, g6 := st.g6,
    g4 := fun a ha => by
      by_cases hp : a = p
      · subst hp; exact .inr h0
      · rw [upd_ne hp] at ha; exact st.g4 a ha }
theorem St.allocF (st : St K g F H σ env) (h : H p = none) (hb : TL.ntb o := by intro _ z; cases z) : St K g (upd F p o) (upd H p o) σ env where
  len := st.len
  sl := fun i s e => slok_mono (Ex.new (st.ex.none h)) (fun a _ u q => Ex.new h a u q) (st.sl i s e)
  nd := st.nd
  fr := fun a ha => by
    have hne : a ≠ p := fun z => st.toSk.notown h (z ▸ ha)
    rw [upd_ne hne]; exact st.fr a ha
  ex := fun a u q => by
    by_cases e : a = p
    · subst e; rw [upd_same] at q; rw [upd_same]; exact q
    · rw [upd_ne e] at q; rw [upd_ne e]; exact st.ex a u q
  tf := fun a vs q => by
    by_cases e : a = p
    · subst e; rw [upd_same] at q; rw [upd_same]; exact q
    · rw [upd_ne e] at q; rw [upd_ne e]; exact st.tf a vs q
  tk := ⟨fun a ps q => by
    by_cases hp : a = p
    · subst hp; rw [upd_same] at q; exact hb ps (Option.some.inj q)
    · rw [upd_ne hp] at q; exact st.tk.fn a ps q, fun r hr => (st.tk.tb r hr).mono (Ex.new (st.ex.none h)) fun u q => Ex.new h _ u q⟩
  gt := st.gt.grow fun a z => by
    by_cases e : a = p
    · subst e; exact h
    · rw [upd_ne e] at z; exact z
  g1 := fun a u q m n => by
    have hne : a ≠ p := fun z => by subst z; have := st.g1 a u q m n; rw [h] at this; cases this
    rw [upd_ne hne]; exact st.g1 a u q m n
  g2 := st.g2
  g3 := st.g3.trans (Ex.new (st.ex.none h))
  g4 := fun a ha => by
    by_cases e : a = p
    · subst e; exact .inr (st.h0 h)
    · rw [upd_ne e] at ha; exact st.g4 a ha
  g5 := fun a m z => by
    by_cases e : a = p
    · subst e; rw [upd_same] at z; cases z
    · rw [upd_ne e] at z; exact st.g5 a m z
  g6 := st.g6
theorem getD_set {σ : SS} {i j : Nat} {v : V} (hl : i < σ.length) : ((σ.set i (some v))[j]?.getD none) = if i = j then some v else (σ[j]?.getD none) := by
  rw [List.getElem?_set]
  by_cases h : i = j
  · subst h; rw [if_pos rfl, if_pos rfl, if_pos hl]; rfl
  · rw [if_neg h, if_neg h]
theorem set_get {env : List Sl} {i j : Nat} {s t : Sl} (h : (env.set i s)[j]? = some t) : (i = j ∧ t = s) ∨ (i ≠ j ∧ env[j]? = some t) := by
  rw [List.getElem?_set] at h
  by_cases e : i = j
  · subst e
    rw [if_pos rfl] at h
    split at h
    · exact .inl ⟨rfl, (Option.some.inj h).symm⟩
    · cases h
  · rw [if_neg e] at h; exact .inr ⟨e, h⟩
theorem own_set {i : Nat} {s : Sl} {a : Addr} (h : Own (env.set i s) a) : a ∈ s.fp ∨ Own env a := by
  obtain ⟨j, t, h1, h2⟩ := h
  rcases set_get h1 with ⟨_, rfl⟩ | ⟨_, h1⟩
  · exact .inl h2
  · exact .inr ⟨j, t, h1, h2⟩
/-- a slot is stored: s is a new description, its footprint new or the slot's own -/
theorem Sk.set {i : Nat} {v : V} {s : Sl} (st : Sk K F H σ env) (hi : i < env.length) (h : SlOk K F H (some v) s) (hfr : ∀ a ∈ s.fp, F a = none)
    (hn : ∀ a ∈ s.fp, ∀ (j : Nat) (t : Sl), j ≠ i → env[j]? = some t → a ∉ t.fp) : Sk K F H (σ.set i (some v)) (env.set i s) where
  len := by rw [List.length_set, List.length_set]; exact st.len
  sl := fun j t e => by
    rw [getD_set (by rw [st.len]; exact hi)]
    rcases set_get e with ⟨rfl, rfl⟩ | ⟨ne, e⟩
    · rw [if_pos rfl]; exact h
    · rw [if_neg ne]; exact st.sl j t e
  nd := fun j k t u a ej ek ht hu => by
    rcases set_get ej with ⟨rfl, rfl⟩ | ⟨ne, ej2⟩
    · rcases set_get ek with ⟨rfl, rfl⟩ | ⟨ne2, ek⟩
      · rfl
      · exact absurd hu (hn a ht k u (Ne.symm ne2) ek)
    · rcases set_get ek with ⟨rfl, rfl⟩ | ⟨ne2, ek⟩
      · exact absurd ht (hn a hu j t (Ne.symm ne) ej2)
      · exact st.nd j k t u a ej2 ek ht hu
  fr := fun a ha => by
    rcases own_set ha with h1 | h1
    · exact hfr a h1
    · exact st.fr a h1
  ex := st.ex
  tf := st.tf
  tk := st.tk
theorem St.set {i : Nat} {v : V} {s : Sl} (st : St K g F H σ env) (hi : i < env.length) (h : SlOk K F H (some v) s) (hfr : ∀ a ∈ s.fp, F a = none)
    (hn : ∀ a ∈ s.fp, ∀ (j : Nat) (t : Sl), j ≠ i → env[j]? = some t → a ∉ t.fp) (hg : ∀ a ∈ s.fp, g.H0 a = none ∨ a ∈ g.M) : St K g F H (σ.set i (some v)) (env.set i s) :=
  { st.toSk.set hi h hfr hn with
    g1 := st.g1, gt := st.gt, g3 := st.g3, g4 := st.g4, g5 := st.g5, g6 := st.g6,
    g2 := fun a ha => by
      rcases own_set ha with h1 | h1
      · exact hg a h1
      · exact st.g2 a h1 }
theorem St.setD {i : Nat} {v : V} {x : PyData} (st : St K g F H σ env) (hi : i < env.length) (h : Dq K F v x) : St K g F H (σ.set i (some v)) (env.set i (.d x)) :=
  st.set hi ⟨v, rfl, h⟩ (fun _ h => by cases h) (fun _ h => by cases h) (fun _ h => by cases h)
theorem St.setL {i : Nat} {a : Addr} {vs : List V} {ds : List PyData} (st : St K g F H σ env) (hi : i < env.length) (hH : H a = some (.lst vs)) (hd : DqAll K F vs ds) (hF : F a = none) (hn : ¬ Own env a) (h0 : g.H0 a = none) :
    St K g F H (σ.set i (some (.ref a))) (env.set i (.ol a ds)) := by
  have one : ∀ b ∈ (Sl.ol a ds).fp, b = a := fun b hb => by simpa [Sl.fp] using hb
  exact st.set (s := .ol a ds) hi ⟨rfl, vs, hH, hd⟩ (fun b hb => by rw [one b hb]; exact hF) (fun b hb j t _ e ht => hn ⟨j, t, e, by rw [← one b hb]; exact ht⟩) (fun b hb => by rw [one b hb]; exact .inl h0)
/-- an object of a slot is changed in place -/
theorem St.write {i : Nat} {a : Addr} {s s' : Sl} {o' : HO} (st : St K g F H σ env) (hs : env[i]? = some s) (ha : s.fp = [a]) (ha' : s'.fp = [a]) (h : SlOk K F (upd H a o') (σ[i]?.getD none) s') (ht : ∀ vs, o' ≠ .tup vs := by intro _ z; cases z) : St K g F (upd H a o') σ (env.set i s') := by
  have own : Own env a := ⟨i, s, hs, by rw [ha]; simp⟩
  have hF : F a = none := st.fr a own
  have hi : i < env.length := (List.getElem?_eq_some_iff.mp hs).1
  have sub : ∀ b, Own (env.set i s') b → Own env b := fun b hb => by
    rcases own_set hb with h1 | h1
    · rw [ha'] at h1
      have e : b = a := by simpa using h1
      rw [e]; exact own
    · exact h1
  have oth : ∀ (j : Nat) (t : Sl), i ≠ j → env[j]? = some t → a ∉ t.fp := fun j t ne e ht => ne (st.nd i j s t a hs e (by rw [ha]; simp) ht)
  refine { len := by rw [List.length_set]; exact st.len, sl := fun j t e => ?_, nd := fun j k t u b ej ek ht hu => ?_, fr := fun b hb => st.fr b (sub b hb), ex := st.ex.mut hF, tf := fun b vs q => by
             by_cases e : b = a
             · subst e; rw [upd_same] at q; exact absurd (Option.some.inj q) (ht vs)
             · rw [upd_ne e] at q; exact st.tf b vs q, tk := st.tk.put (st.tk.ne (st.toSk.ntb own)), gt := st.gt.grow fun b z => by
             by_cases e : b = a
             · subst e; rw [upd_same] at z; cases z
             · rw [upd_ne e] at z; exact z, g1 := fun b u q m n => ?_, g2 := fun b hb => st.g2 b (sub b hb), g3 := st.g3, g4 := st.g4, g5 := fun b m z => ?_, g6 := st.g6 }
  · rcases set_get e with ⟨rfl, rfl⟩ | ⟨ne, e⟩
    · exact h
    · refine slok_mono (Ex.refl F) (fun b hb u q => ?_) (st.sl j t e)
      have hne : b ≠ a := fun z => oth j t ne e (z ▸ hb)
      rw [upd_ne hne]; exact q
  · rcases set_get ej with ⟨rfl, rfl⟩ | ⟨ne, ej2⟩
    · rcases set_get ek with ⟨rfl, rfl⟩ | ⟨ne2, ek⟩
      · rfl
      · rw [ha'] at ht
        have e : b = a := by simpa using ht
        exact absurd (e ▸ hu) (oth k u ne2 ek)
    · rcases set_get ek with ⟨rfl, rfl⟩ | ⟨ne2, ek⟩
      · rw [ha'] at hu
        have e : b = a := by simpa using hu
        exact absurd (e ▸ ht) (oth j t ne ej2)
      · exact st.nd j k t u b ej2 ek ht hu
  · have hne : b ≠ a := fun z => by
      subst z
      rcases st.g2 b own with h1 | h1
      · rw [h1] at q; cases q
      · exact m h1
    rw [upd_ne hne]; exact st.g1 b u q m n
  · by_cases hb : b = a
    · subst hb; rw [upd_same] at z; cases z
    · rw [upd_ne hb] at z; exact st.g5 b m z
/-- a slot's description is weakened -/
theorem St.weak {i : Nat} {s s' : Sl} (st : St K g F H σ env) (hs : env[i]? = some s) (hfp : ∀ a ∈ s'.fp, a ∈ s.fp) (h : SlOk K F H (σ[i]?.getD none) s → SlOk K F H (σ[i]?.getD none) s') : St K g F H σ (env.set i s') := by
  have sub : ∀ b, Own (env.set i s') b → Own env b := fun b hb => by
    rcases own_set hb with h1 | h1
    · exact ⟨i, s, hs, hfp b h1⟩
    · exact h1
  refine { len := by rw [List.length_set]; exact st.len, sl := fun j t e => ?_, nd := fun j k t u b ej ek ht hu => ?_, fr := fun b hb => st.fr b (sub b hb), ex := st.ex, tf := st.tf, tk := st.tk, gt := st.gt,
           g1 := st.g1, g2 := fun b hb => st.g2 b (sub b hb), g3 := st.g3, g4 := st.g4, g5 := st.g5, g6 := st.g6 }
  · rcases set_get e with ⟨rfl, rfl⟩ | ⟨ne, e⟩
    · exact h (st.sl i s hs)
    · exact st.sl j t e
  · rcases set_get ej with ⟨rfl, rfl⟩ | ⟨ne, ej2⟩
    · rcases set_get ek with ⟨rfl, rfl⟩ | ⟨ne2, ek⟩
      · rfl
      · exact st.nd i k s u b hs ek (hfp b ht) hu
    · rcases set_get ek with ⟨rfl, rfl⟩ | ⟨ne2, ek⟩
      · exact st.nd j i t s b ej2 hs ht (hfp b hu)
      · exact st.nd j k t u b ej2 ek ht hu
end
end TL
namespace TL
open PySem PySem.Spec PyProof.Rows L2
inductive Exc where
  | own (n : Str)
def ExcW (K : Frag) (W : WX) (σ : SS) (H : Hp) : Exc → Prop
  | .own n => W (.ref (He.ga K n)) none σ H
structure SemE (X : Cx) (e : Expr) (σ : SS) (H : Hp) (Q : VK) : Prop where
  run : ∀ (pins : List (Addr × Obj)) (s : Shared), Inv X pins σ H s → wpAny (model X.prog X.w) X.A (eval e X.env) (EP X pins σ Q) X.xe s
def semE (X : Cx) (e : Expr) : TE := fun σ H Q => SemE X e σ H Q
structure SemT (X : Cx) (e : Expr) (σ : SS) (H : Hp) (Q : Bool → Hp → Prop) : Prop where
  run : ∀ (pins : List (Addr × Obj)) (s : Shared), Inv X pins σ H s → wpAny (model X.prog X.w) X.A (isTrue e X.env (eval e X.env)) (TP X pins σ Q) X.xe s
def semT (X : Cx) (e : Expr) : TT := fun σ H Q => SemT X e σ H Q
structure SemS (X : Cx) (st : List Stmt) (D : Ends) (σ : SS) (H : Hp) : Prop where
  run : ∀ (pins : List (Addr × Obj)) (s : Shared), Inv X pins σ H s → wpAny (model X.prog X.w) X.A (execs st X.env) (SP X pins D) X.xe s
def semS (X : Cx) (st : List Stmt) : TS := fun D σ H => SemS X st D σ H
section
variable {X : Cx}
theorem peS (e : Expr) : PE X e (semE X e) := ⟨fun pins s _ _ _ I h => h.run pins s I⟩
theorem ptS (e : Expr) : PT X e (semT X e) := ⟨fun pins s _ _ _ I h => h.run pins s I⟩
theorem pssS (st : List Stmt) : PSs X st (semS X st) := ⟨fun pins s _ _ _ I h => h.run pins s I⟩
theorem semE_of {e : Expr} {t : TE} (h : PE X e t) {σ : SS} {H : Hp} {Q : VK} (q : t σ H Q) : semE X e σ H Q := ⟨fun pins s I => h.run pins s σ H Q I q⟩
theorem semT_of {e : Expr} {t : TT} (h : PT X e t) {σ : SS} {H : Hp} {Q : Bool → Hp → Prop} (q : t σ H Q) : semT X e σ H Q := ⟨fun pins s I => h.run pins s σ H Q I q⟩
theorem semS_of {st : List Stmt} {t : TS} (h : PSs X st t) {D : Ends} {σ : SS} {H : Hp} (q : t D σ H) : semS X st D σ H := ⟨fun pins s I => h.run pins s σ H D I q⟩
end
def Hld (env : List Sl) (a : Addr) (ds : List PyData) : Prop := (∃ i : Nat, env[i]? = some (Sl.ol a ds)) ∨ (∃ (i : Nat) (b : Addr) (rows : List (Addr × List PyData)), env[i]? = some (Sl.oo b rows) ∧ (a, ds) ∈ rows) ∨ ∃ (i : Nat) (t : OwT), env[i]? = some (Sl.ow t) ∧ (a, ds) ∈ t.rows
/-- how a value is known: z: by the frozen part; else it is an object that a slot holds -/
def Rd (K : Frag) (F : Hp) (env : List Sl) (z : Bool) (v : V) (d : PyData) : Prop :=
  match z with
  | true => Dq K F v d
  | false => ∃ a ds, Hld env a ds ∧ v = .ref a ∧ d = .list ds
def HX (X : Cx) (g : G) (env : List Sl) (Ψ : Exc → Prop) (W : WX) (σ : SS) : Prop := ∀ c F' H', Ψ c → St X.K g F' H' σ env → ExcW X.K W σ H' c
def WE (X : Cx) (g : G) (e : Expr) (env : List Sl) (Φ : PyData → Bool → Prop) (Ψ : Exc → Prop) : Prop :=
  ∀ (W : WX), Takes X W → ∀ (σ : SS) (F H : Hp), St X.K g F H σ env → HX X g env Ψ W σ →
    ∀ Q : VK, (∀ d z v F' H', Φ d z → St X.K g F' H' σ env → Ex F F' → Rd X.K F' env z v d → Q v H') → semE X e σ H Q
/-- a test -/
def WT (X : Cx) (g : G) (e : Expr) (env : List Sl) (Φ : Bool → Prop) (Ψ : Exc → Prop) : Prop :=
  ∀ (W : WX), Takes X W → ∀ (σ : SS) (F H : Hp), St X.K g F H σ env → HX X g env Ψ W σ →
    ∀ Q : Bool → Hp → Prop, (∀ b F' H', Φ b → St X.K g F' H' σ env → Ex F F' → Q b H') → semT X e σ H Q
/-- a new list, no slot's -/
def NewL (K : Frag) (g : G) (F H : Hp) (env : List Sl) (v : V) (ds : List PyData) : Prop :=
  ∃ p vs, v = .ref p ∧ H p = some (.lst vs) ∧ DqAll K F vs ds ∧ F p = none ∧ ¬ Own env p ∧ g.H0 p = none
def WN (X : Cx) (g : G) (e : Expr) (env : List Sl) (Φ : List PyData → Prop) (Ψ : Exc → Prop) : Prop :=
  ∀ (W : WX), Takes X W → ∀ (σ : SS) (F H : Hp), St X.K g F H σ env → HX X g env Ψ W σ →
    ∀ Q : VK, (∀ ds v F' H', Φ ds → St X.K g F' H' σ env → Ex F F' → NewL X.K g F' H' env v ds → Q v H') → semE X e σ H Q
/-- arguments: data, or a slot handed on -/
inductive Ar where
  | d (x : PyData)
  | s (i : Nat)
def ArOk (K : Frag) (F : Hp) (σ : SS) (v : V) : Ar → Prop
  | .d x => Dq K F v x
  | .s i => σ[i]? = some (some v)
def ArAll (K : Frag) (F : Hp) (σ : SS) : List V → List Ar → Prop
  | [], [] => True
  | v :: vs, a :: as => ArOk K F σ v a ∧ ArAll K F σ vs as
  | _, _ => False
section
variable {X : Cx} {g : G} {env : List Sl} {Ψ : Exc → Prop} {pos : Pos} {a b c e : Expr} {K : Frag} {F F' H : Hp} {σ : SS}
theorem rd_mono {z : Bool} {v : V} {d : PyData} (e : Ex F F') (h : Rd K F env z v d) : Rd K F' env z v d := by
  cases z with
  | true => exact dp_mono e _ _ h
  | false => exact h
theorem hld_at {a : Addr} {ds : List PyData} (st : Sk K F H σ env) (h : Hld env a ds) : ∃ vs, H a = some (.lst vs) ∧ DqAll K F vs ds := by
  rcases h with ⟨i, hi⟩ | ⟨i, b, rows, hi, hm⟩ | ⟨i, t, hi, hm⟩
  · exact (st.sl i _ hi).2
  · exact (st.sl i _ hi).2.2.2 _ hm
  · obtain ⟨v, _, h⟩ := st.sl i _ hi
    exact t.held h _ hm
/-- as it stands now -/
theorem rd_now {z : Bool} {v : V} {d : PyData} (st : Sk K F H σ env) (h : Rd K F env z v d) : Dq K H v d := by
  cases z with
  | true => exact dp_mono st.ex _ _ h
  | false =>
    obtain ⟨a, ds, hi, rfl, rfl⟩ := h
    obtain ⟨vs, h2, h3⟩ := hld_at st hi
    exact .lst (SqL.of h2) (dpa_mono st.ex _ _ h3)
theorem rd_nowP {z : Bool} {v : V} {d : PyData} (st : Sk K F H σ env) (h : Rd K F env z v d) (c : SeqAt.shaped d = true) : Dp K H v d := dq_dp _ _ (shp_lay c) (rd_now st h)
/-- a list: where it stands, its items by the frozen part -/
theorem rd_lst {z : Bool} {v : V} {ds : List PyData} (st : Sk K F H σ env) (h : Rd K F env z v (.list ds)) : ∃ a vs, v = .ref a ∧ SqL K H a vs ∧ DqAll K F vs ds := by
  cases z with
  | true =>
    obtain ⟨a, xs, rfl, h2, h3⟩ := dp_lst h
    exact ⟨a, xs, rfl, ex_l st.ex h2, h3⟩
  | false =>
    obtain ⟨a, ds', hi, rfl, e⟩ := h
    injection e with e
    subst e
    obtain ⟨vs, h2, h3⟩ := hld_at st hi
    exact ⟨a, vs, rfl, SqL.of h2, h3⟩
theorem rd_tup {z : Bool} {v : V} {ds : List PyData} (st : Sk K F H σ env) (h : Rd K F env z v (.tuple ds)) : ∃ a vs, v = .ref a ∧ SqT K H a vs ∧ DqAll K F vs ds := by
  cases z with
  | true =>
    obtain ⟨a, xs, rfl, h2, h3⟩ := dp_tup h
    exact ⟨a, xs, rfl, ex_t st.ex h2, h3⟩
  | false => obtain ⟨_, _, _, _, e⟩ := h; cases e
theorem rd_int {z : Bool} {v : V} {i : Int} (h : Rd K F env z v (.int i)) : v = .int i := by
  cases z with
  | true => exact dp_int h
  | false => obtain ⟨_, _, _, _, e⟩ := h; cases e
theorem rd_str {z : Bool} {v : V} {i : Str} (h : Rd K F env z v (.str i)) : v = .str i := by
  cases z with
  | true => exact dp_str h
  | false => obtain ⟨_, _, _, _, e⟩ := h; cases e
theorem rd_bl {z : Bool} {v : V} {i : Bool} (h : Rd K F env z v (.bool i)) : v = .bl i := by
  cases z with
  | true => exact dp_bl h
  | false => obtain ⟨_, _, _, _, e⟩ := h; cases e
theorem rd_non {z : Bool} {v : V} (h : Rd K F env z v .none) : v = .non := by
  cases z with
  | true => exact dp_non h
  | false => obtain ⟨_, _, _, _, e⟩ := h; cases e
theorem WE.mono {Φ Φ' : PyData → Bool → Prop} (h : WE X g e env Φ Ψ) (k : ∀ d z, Φ d z → Φ' d z) : WE X g e env Φ' Ψ :=
  fun W tk σ F H st hx Q hQ => h W tk σ F H st hx Q fun d z v F' H' p => hQ d z v F' H' (k d z p)
/-- a two-place operation on data -/
def DOp (K : Frag) (g : G) (env : List Sl) (r : R2) (d1 : PyData) (z1 : Bool) (d2 : PyData) (z2 : Bool) (Φ : PyData → Bool → Prop) : Prop :=
  ∀ (σ : SS) (F H : Hp) (v1 v2 : V), St K g F H σ env → Rd K F env z1 v1 d1 → Rd K F env z2 v2 d2 →
    ∀ Q : VK, (∀ d z v F' H', Φ d z → St K g F' H' σ env → Ex F F' → Rd K F' env z v d → Q v H') → r v1 v2 H Q
theorem we_op {Φ : PyData → Bool → Prop} {R : PyData → Bool → PyData → Bool → Prop} {r : R2} (hop : PE X e (tOp r (semE X a) (semE X b)))
    (hr : ∀ d1 z1 d2 z2, R d1 z1 d2 z2 → DOp X.K g env r d1 z1 d2 z2 Φ)
    (h : WE X g a env (fun d1 z1 => WE X g b env (fun d2 z2 => R d1 z1 d2 z2) Ψ) Ψ) : WE X g e env Φ Ψ := by
  intro W tk σ F H st hx Q hQ
  refine semE_of hop ?_
  refine h W tk σ F H st hx _ fun d1 z1 v1 F1 H1 h1 st1 e1 r1 => ?_
  refine h1 W tk σ F1 H1 st1 hx _ fun d2 z2 v2 F2 H2 h2 st2 e2 r2 => ?_
  exact hr _ _ _ _ h2 σ F2 H2 v1 v2 st2 (rd_mono e2 r1) r2 Q fun d z v F' H' hp s3 e3 r3 => hQ d z v F' H' hp s3 ((e1.trans e2).trans e3) r3
theorem wt_op {Φ : Bool → Prop} {R : PyData → Bool → PyData → Bool → Prop} {r : R2} (hop : PT X e (tTest (tOp r (semE X a) (semE X b))))
    (hr : ∀ d1 z1 d2 z2, R d1 z1 d2 z2 → DOp X.K g env r d1 z1 d2 z2 (fun d _ => ∃ k, d = .bool k ∧ Φ k))
    (h : WE X g a env (fun d1 z1 => WE X g b env (fun d2 z2 => R d1 z1 d2 z2) Ψ) Ψ) : WT X g e env Φ Ψ := by
  intro W tk σ F H st hx Q hQ
  refine semT_of hop ?_
  refine h W tk σ F H st hx _ fun d1 z1 v1 F1 H1 h1 st1 e1 r1 => ?_
  refine h1 W tk σ F1 H1 st1 hx _ fun d2 z2 v2 F2 H2 h2 st2 e2 r2 => ?_
  refine hr _ _ _ _ h2 σ F2 H2 v1 v2 st2 (rd_mono e2 r1) r2 _ fun d z v F' H' ⟨k, hd, hp⟩ s3 e3 r3 => ?_
  subst hd
  exact ⟨k, rd_bl r3, hQ k F' H' hp s3 ((e1.trans e2).trans e3)⟩
def DUn (K : Frag) (g : G) (env : List Sl) (r : V → Hp → VK → Prop) (d1 : PyData) (z1 : Bool) (Φ : PyData → Bool → Prop) : Prop :=
  ∀ (σ : SS) (F H : Hp) (v1 : V), St K g F H σ env → Rd K F env z1 v1 d1 →
    ∀ Q : VK, (∀ d z v F' H', Φ d z → St K g F' H' σ env → Ex F F' → Rd K F' env z v d → Q v H') → r v1 H Q
theorem we_un1 {Φ : PyData → Bool → Prop} {R : PyData → Bool → Prop} {r : V → Hp → VK → Prop} (hop : PE X e (tUn r (semE X a)))
    (hr : ∀ d1 z1, R d1 z1 → DUn X.K g env r d1 z1 Φ) (h : WE X g a env R Ψ) : WE X g e env Φ Ψ := by
  intro W tk σ F H st hx Q hQ
  refine semE_of hop ?_
  refine h W tk σ F H st hx _ fun d1 z1 v1 F1 H1 h1 st1 e1 r1 => ?_
  exact hr _ _ h1 σ F1 H1 v1 st1 r1 Q fun d z v F' H' hp s3 e3 r3 => hQ d z v F' H' hp s3 (e1.trans e3) r3
theorem dop_of {r : R2} {d1 d2 d : PyData} {z1 z2 z : Bool} {Φ : PyData → Bool → Prop} (hp : Φ d z)
    (h : ∀ (σ : SS) (F H : Hp) (v1 v2 : V) (Q : VK), St K g F H σ env → Rd K F env z1 v1 d1 → Rd K F env z2 v2 d2 → (∀ v, Rd K F env z v d → Q v H) → r v1 v2 H Q) : DOp K g env r d1 z1 d2 z2 Φ :=
  fun σ F H v1 v2 st r1 r2 Q hQ => h σ F H v1 v2 Q st r1 r2 fun v rv => hQ d z v F H hp st (Ex.refl F) rv
theorem dop_l {r r' : R2} {d1 d2 : PyData} {z1 z2 : Bool} {Φ : PyData → Bool → Prop} (h : DOp K g env r d1 z1 d2 z2 Φ) : DOp K g env (fun x y H Q => r x y H Q ∨ r' x y H Q) d1 z1 d2 z2 Φ :=
  fun σ F H v1 v2 st r1 r2 Q hQ => .inl (h σ F H v1 v2 st r1 r2 Q hQ)
theorem dop_r {r r' : R2} {d1 d2 : PyData} {z1 z2 : Bool} {Φ : PyData → Bool → Prop} (h : DOp K g env r' d1 z1 d2 z2 Φ) : DOp K g env (fun x y H Q => r x y H Q ∨ r' x y H Q) d1 z1 d2 z2 Φ :=
  fun σ F H v1 v2 st r1 r2 Q hQ => .inr (h σ F H v1 v2 st r1 r2 Q hQ)
/-- a new object, frozen at once -/
theorem put_lst {p : Addr} {vs : List V} {ds : List PyData} {Φ : PyData → Bool → Prop} {Q : VK} (st : St K g F H σ env) (hn : H p = none) (hd : DqAll K F vs ds) (hp : Φ (.list ds) true)
    (hQ : ∀ d z v F' H', Φ d z → St K g F' H' σ env → Ex F F' → Rd K F' env z v d → Q v H') : Q (.ref p) (upd H p (.lst vs)) := by
  have hF : F p = none := st.ex.none hn
  exact hQ (.list ds) true (.ref p) (upd F p (.lst vs)) _ hp (st.allocF hn) (Ex.new hF) (.lst (SqL.of upd_same) (dpa_mono (Ex.new hF) _ _ hd))
theorem put_tup {p : Addr} {vs : List V} {ds : List PyData} {Φ : PyData → Bool → Prop} {Q : VK} (st : St K g F H σ env) (hn : H p = none) (hd : DqAll K F vs ds) (hp : Φ (.tuple ds) true)
    (hQ : ∀ d z v F' H', Φ d z → St K g F' H' σ env → Ex F F' → Rd K F' env z v d → Q v H') : Q (.ref p) (upd H p (.tup vs)) := by
  have hF : F p = none := st.ex.none hn
  exact hQ (.tuple ds) true (.ref p) (upd F p (.tup vs)) _ hp (st.allocF hn) (Ex.new hF) (.tup upd_same (dpa_mono (Ex.new hF) _ _ hd))
theorem put_new {p : Addr} {vs : List V} {ds : List PyData} {Φ : List PyData → Prop} {Q : VK} (st : St K g F H σ env) (hn : H p = none) (hd : DqAll K F vs ds) (hp : Φ ds)
    (hQ : ∀ ds v F' H', Φ ds → St K g F' H' σ env → Ex F F' → NewL K g F' H' env v ds → Q v H') : Q (.ref p) (upd H p (.lst vs)) :=
  hQ ds (.ref p) F _ hp (st.alloc hn) (Ex.refl F) ⟨p, vs, rfl, upd_same, hd, st.ex.none hn, st.toSk.notown hn, st.h0 hn⟩
theorem we_of_wn {Φ : PyData → Bool → Prop} (h : WN X g e env (fun ds => Φ (.list ds) true) Ψ) : WE X g e env Φ Ψ := fun W tk σ F H st hx Q hQ =>
  h W tk σ F H st hx Q fun ds v F' H' hp st' e' ⟨p, vs, hv, h1, h2, h3, h4, h5⟩ => by
    subst hv
    have e2 := Ex.new (o := .lst vs) h3
    exact hQ (.list ds) true (.ref p) (upd F' p (.lst vs)) H' hp (st'.freeze h1 h3 h4 h5) (e'.trans e2) (.lst (SqL.of upd_same) (dpa_mono e2 _ _ h2))
section
variable {Φ : PyData → Bool → Prop}
theorem we_int {i : Int} {j : Nat} (h : Φ (.int i) true) : WE X g (.Constant (.int i) j pos) env Φ Ψ :=
  fun W tk σ F H st hx Q hQ => semE_of pe_int (hQ _ true _ F H h st (Ex.refl F) (.int i))
theorem we_bool {i : Bool} {j : Nat} (h : Φ (.bool i) true) : WE X g (.Constant (.bool i) j pos) env Φ Ψ :=
  fun W tk σ F H st hx Q hQ => semE_of pe_bl (hQ _ true _ F H h st (Ex.refl F) (.bl i))
theorem we_none {j : Nat} (h : Φ .none true) : WE X g (.Constant .none j pos) env Φ Ψ :=
  fun W tk σ F H st hx Q hQ => semE_of pe_non (hQ _ true _ F H h st (Ex.refl F) .non)
theorem getD_some {σ : SS} {i : Nat} {v : V} (h : σ[i]?.getD none = some v) : σ[i]? = some (some v) := by
  cases e : σ[i]? with
  | none => rw [e] at h; cases h
  | some o => rw [e] at h; exact congrArg some h
/-- a name that holds data -/
theorem we_n (i : Nat) {d : PyData} {x : Str} (h : Φ d true) (he : env[i]? = some (.d d) := by rfl) (hN : X.N[i]? = some x := by rfl)
    (hv : Vis X.env.scope x := by first | exact Or.inl rfl | exact Or.inr (Or.inl rfl) | exact Or.inr (Or.inr rfl)) (hd : (x == ("__debug__" : Str)) = false := by decide)
    (hcd : (x == ("__classdict__" : Str)) = false := by decide) : WE X g (.Name x pos) env Φ Ψ := fun W tk σ F H st hx Q hQ => by
  obtain ⟨v, h1, h2⟩ := st.sl i _ he
  exact semE_of (pe_var hN hv hd hcd) ⟨v, getD_some h1, hQ d true v F H h st (Ex.refl F) h2⟩
/-- a name that holds a list of one's own -/
theorem we_nl (i : Nat) {al : Addr} {ds : List PyData} {x : Str} (h : Φ (.list ds) false) (he : env[i]? = some (.ol al ds) := by rfl) (hN : X.N[i]? = some x := by rfl)
    (hv : Vis X.env.scope x := by first | exact Or.inl rfl | exact Or.inr (Or.inl rfl) | exact Or.inr (Or.inr rfl)) (hd : (x == ("__debug__" : Str)) = false := by decide)
    (hcd : (x == ("__classdict__" : Str)) = false := by decide) : WE X g (.Name x pos) env Φ Ψ := fun W tk σ F H st hx Q hQ => by
  obtain ⟨h1, h2⟩ := st.sl i _ he
  exact semE_of (pe_var hN hv hd hcd) ⟨_, getD_some h1, hQ _ false _ F H h st (Ex.refl F) ⟨al, ds, .inl ⟨i, he⟩, rfl, rfl⟩⟩
/-- a module's int, a module's text -/
theorem we_gint {n : Int} {x : Str} (hm : ∃ t, X.mg x = some (.int n t)) (h : Φ (.int n) true) (hg : Gl X x := by rfl) (hd : (x == ("__debug__" : Str)) = false := by decide) : WE X g (.Name x pos) env Φ Ψ :=
  fun W tk σ F H st hx Q hQ => by
    obtain ⟨t, ht⟩ := hm
    exact semE_of (pe_glob hg ht (v := .int n) ⟨t, rfl⟩ hd) (hQ _ true _ F H h st (Ex.refl F) (.int n))
end
end
end TL
namespace TL
open PySem PySem.Spec PyProof.Rows L2
section
variable {X : Cx} {g : G} {env : List Sl} {Ψ : Exc → Prop} {pos : Pos} {a b c e : Expr} {K : Frag} {F F' H : Hp} {σ : SS}
def rCatL (K : Frag) : R2 := fun x y H Q => ∃ l b xs zs, x = .ref l ∧ y = .ref b ∧ SqL K H l xs ∧ SqL K H b zs ∧ xs.length + zs.length ≤ sizeLine ∧ ∀ p, H p = none → Q (.ref p) (upd H p (.lst (xs ++ zs)))
theorem op_catL : OpR X (binaryOp .Add) (rCatL X.K) := by
  intro pins s σ H x y v u Q I rx ry h
  obtain ⟨l, b, xs, zs, rfl, rfl, hH, hB, hz, q⟩ := h
  cases rx
  cases ry
  obtain ⟨vs, r, ⟨⟨cls, dd, data, sl⟩, n, ho, hc, hdn, hd⟩, hl⟩ := I.list hH
  obtain ⟨ws, r2, ⟨⟨cls2, dd2, data2, sl2⟩, n2, ho2, hc2, hdn2, hd2⟩, hl2⟩ := I.list hB
  simp only at hc hd hc2 hd2
  subst hc hd hc2 hd2
  have e1 := r.length
  have e2 := r2.length
  have e : vs.toArray ++ ws.toArray = (vs ++ ws).toArray := by simp
  refine concat_meets ⟨_, ho, rfl⟩ ⟨_, ho2, rfl⟩ noFill_list_add seq_list_add PySem.F.slot_list_add PySem.F.entry_list_add (PySem.F.args_list_add_2 _ _) (list_addW l b vs.toArray ws.toArray n n2 dd dd2 sl sl2 (by simp only [List.size_toArray]; omega)) ⟨ho, ho2, ?_⟩
  rw [e]
  exact ⟨.ref _, _, I.lnew (t' := s.toks) (r.append r2) (by rw [List.length_append]; omega), rfl, q _ I.fresh⟩
theorem dop_I0 {f : Int → Int → V} {i j : Int} {z1 z2 : Bool} {Φ : PyData → Bool → Prop} {d : PyData} (h : Φ d true) (hf : ∀ F, Dq K F (f i j) d) : DOp K g env (rI0 f) (.int i) z1 (.int j) z2 Φ :=
  dop_of h fun σ F H v1 v2 Q st r1 r2 q => ⟨i, j, rd_int r1, rd_int r2, q _ (hf F)⟩
theorem dop_I {C : Int → Int → Prop} {f : Int → Int → V} {i j : Int} {z1 z2 : Bool} {Φ : PyData → Bool → Prop} {d : PyData} (hc : C i j) (h : Φ d true) (hf : ∀ F, Dq K F (f i j) d) : DOp K g env (rI C f) (.int i) z1 (.int j) z2 Φ :=
  dop_of h fun σ F H v1 v2 Q st r1 r2 q => ⟨i, j, rd_int r1, rd_int r2, hc, q _ (hf F)⟩
inductive AddP (Φ : PyData → Bool → Prop) : PyData → Bool → PyData → Bool → Prop
  | int {i j : Int} {z1 z2 : Bool} : Φ (.int (i + j)) true → AddP Φ (.int i) z1 (.int j) z2
  | str {i j : Str} {z1 z2 : Bool} : Φ (.str (i ++ j)) true → i.length + j.length ≤ sizeLine → AddP Φ (.str i) z1 (.str j) z2
  | lst {xs ys : List PyData} {z1 z2 : Bool} : Φ (.list (xs ++ ys)) true → xs.length + ys.length ≤ sizeLine → AddP Φ (.list xs) z1 (.list ys) z2
  | tup {xs ys : List PyData} {z1 z2 : Bool} : Φ (.tuple (xs ++ ys)) true → xs.length + ys.length ≤ sizeLine → AddP Φ (.tuple xs) z1 (.tuple ys) z2
abbrev rAddS : R2 := fun x y H Q => ∃ i j, x = .str i ∧ y = .str j ∧ i.length + j.length ≤ sizeLine ∧ Q (.str (i ++ j)) H
abbrev rAddA (K : Frag) : R2 := fun x y H Q => (rI0 fun i j => .int (i + j)) x y H Q ∨ (fun x y H Q => rAddS x y H Q ∨ (fun x y H Q => rCatL K x y H Q ∨ rCatA K x y H Q) x y H Q) x y H Q
theorem op_addA : OpR X (binaryOp .Add) (rAddA X.K) := op_add.or (op_add_str.or (op_catL.or op_catA))
theorem dop_add {Φ : PyData → Bool → Prop} {d1 d2 : PyData} {z1 z2 : Bool} (h : AddP Φ d1 z1 d2 z2) : DOp K g env (rAddA K) d1 z1 d2 z2 Φ := by
  cases h with
  | int h => exact dop_l (dop_I0 h fun F => .int _)
  | str h hl => exact dop_r (dop_l (dop_of h fun σ F H v1 v2 Q st r1 r2 q => ⟨_, _, rd_str r1, rd_str r2, hl, q _ (.str _)⟩))
  | lst h hl =>
    refine dop_r (dop_r (dop_l fun σ F H v1 v2 st r1 r2 Q hQ => ?_))
    obtain ⟨a1, vs1, rfl, s1, p1⟩ := rd_lst st.toSk r1
    obtain ⟨a2, vs2, rfl, s2, p2⟩ := rd_lst st.toSk r2
    exact ⟨a1, a2, vs1, vs2, rfl, rfl, s1, s2, by rw [dpa_len p1, dpa_len p2]; exact hl, fun p hp => put_lst st hp (dpa_app p1 p2) h hQ⟩
  | tup h hl =>
    refine dop_r (dop_r (dop_r fun σ F H v1 v2 st r1 r2 Q hQ => ?_))
    obtain ⟨a1, vs1, rfl, s1, p1⟩ := rd_tup st.toSk r1
    obtain ⟨a2, vs2, rfl, s2, p2⟩ := rd_tup st.toSk r2
    refine ⟨a1, a2, vs1, vs2, rfl, rfl, s1, s2, by rw [dpa_len p1, dpa_len p2]; exact hl, fun e => ?_, fun _ e => ?_, fun _ _ p hp => put_tup st hp (dpa_app p1 p2) h hQ⟩
    · subst e
      cases p1
      rw [List.nil_append] at h
      refine hQ _ z2 _ F H ?_ st (Ex.refl F) r2
      cases z2 with
      | true => exact h
      | false => obtain ⟨_, _, _, _, e⟩ := r2; cases e
    subst e
    cases p2
    rw [List.append_nil] at h
    refine hQ _ z1 _ F H ?_ st (Ex.refl F) r1
    cases z1 with
    | true => exact h
    | false => obtain ⟨_, _, _, _, e⟩ := r1; cases e
section
variable {Φ : PyData → Bool → Prop}
theorem we_add (h : WE X g a env (fun d1 z1 => WE X g b env (fun d2 z2 => AddP Φ d1 z1 d2 z2) Ψ) Ψ) : WE X g (.BinOp a .Add b pos) env Φ Ψ :=
  we_op (pe_op op_addA (peS a) (peS b)) (fun _ _ _ _ => dop_add) h
inductive IntP (C : Int → Int → Prop) (f : Int → Int → Int) (Φ : PyData → Bool → Prop) : PyData → Bool → PyData → Bool → Prop
  | mk {i j : Int} {z1 z2 : Bool} : Φ (.int (f i j)) true → C i j → IntP C f Φ (.int i) z1 (.int j) z2
theorem we_sub (h : WE X g a env (fun d1 z1 => WE X g b env (fun d2 z2 => IntP (fun _ _ => True) (fun i j => i - j) Φ d1 z1 d2 z2) Ψ) Ψ) : WE X g (.BinOp a .Sub b pos) env Φ Ψ :=
  we_op (pe_op op_sub (peS a) (peS b)) (fun _ _ _ _ ⟨h, _⟩ => dop_I0 h fun F => .int _) h
theorem we_mul (h : WE X g a env (fun d1 z1 => WE X g b env (fun d2 z2 => IntP CMul (fun i j => i * j) Φ d1 z1 d2 z2) Ψ) Ψ) : WE X g (.BinOp a .Mult b pos) env Φ Ψ :=
  we_op (pe_op op_mul (peS a) (peS b)) (fun _ _ _ _ ⟨h, hc⟩ => dop_I hc h fun F => .int _) h
theorem we_div (h : WE X g a env (fun d1 z1 => WE X g b env (fun d2 z2 => IntP CDivW (fun i j => i / j) Φ d1 z1 d2 z2) Ψ) Ψ) : WE X g (.BinOp a .FloorDiv b pos) env Φ Ψ :=
  we_op (pe_op op_fdivW (peS a) (peS b)) (fun _ _ _ _ ⟨h, hc⟩ => dop_I hc h fun F => .int _) h
theorem we_mod (h : WE X g a env (fun d1 z1 => WE X g b env (fun d2 z2 => IntP (fun _ j => 0 < j) (fun i j => i % j) Φ d1 z1 d2 z2) Ψ) Ψ) : WE X g (.BinOp a .Mod b pos) env Φ Ψ :=
  we_op (pe_op op_mod (peS a) (peS b)) (fun _ _ _ _ ⟨h, hc⟩ => dop_I hc h fun F => .int _) h
theorem we_pow (h : WE X g a env (fun d1 z1 => WE X g b env (fun d2 z2 => IntP CPow (fun i j => i ^ j.toNat) Φ d1 z1 d2 z2) Ψ) Ψ) : WE X g (.BinOp a .Pow b pos) env Φ Ψ :=
  we_op (pe_op op_pow (peS a) (peS b)) (fun _ _ _ _ ⟨h, hc⟩ => dop_I hc h fun F => .int _) h
theorem cdiv_small {j : Int} (i : Int) (h : 0 < j) (h2 : j < 4611686018427387904) : CDivW i j := wide_div h (b := 62) (by omega) (by decide) (by decide)
theorem we_neg (h : WE X g a env (fun d1 z1 => ∃ i, d1 = .int i ∧ Φ (.int (-i)) true) Ψ) : WE X g (.UnaryOp .USub a pos) env Φ Ψ :=
  we_un1 (pe_un un_neg (peS a)) (fun d1 z1 ⟨i, hi, hp⟩ σ F H v1 st r1 Q hQ => ⟨i, by subst hi; exact rd_int r1, hQ _ true _ F H hp st (Ex.refl F) (.int _)⟩) h
end
def CP (K : Frag) (g : G) (env : List Sl) (r : R2) (d1 : PyData) (z1 : Bool) (d2 : PyData) (z2 : Bool) (k : Bool) : Prop :=
  ∀ (σ : SS) (F H : Hp) (v1 v2 : V), St K g F H σ env → Rd K F env z1 v1 d1 → Rd K F env z2 v2 d2 → ∀ Q : VK, Q (.bl k) H → r v1 v2 H Q
theorem cp_l {r r' : R2} {d1 d2 : PyData} {z1 z2 k : Bool} (h : CP K g env r d1 z1 d2 z2 k) : CP K g env (fun x y H Q => r x y H Q ∨ r' x y H Q) d1 z1 d2 z2 k := fun σ F H v1 v2 st r1 r2 Q q => .inl (h σ F H v1 v2 st r1 r2 Q q)
theorem cp_r {r r' : R2} {d1 d2 : PyData} {z1 z2 k : Bool} (h : CP K g env r' d1 z1 d2 z2 k) : CP K g env (fun x y H Q => r x y H Q ∨ r' x y H Q) d1 z1 d2 z2 k := fun σ F H v1 v2 st r1 r2 Q q => .inr (h σ F H v1 v2 st r1 r2 Q q)
theorem we_cp {Φ : PyData → Bool → Prop} {op : CmpOp} {r : R2} (ho : OpR X (compareOp op) r) (h : WE X g a env (fun d1 z1 => WE X g b env (fun d2 z2 => ∃ k, CP X.K g env r d1 z1 d2 z2 k ∧ Φ (.bool k) true) Ψ) Ψ)
    (hm : behindInMarks op b = false := by first | exact nomark _ | rfl) : WE X g (.Compare a [op] [b] pos) env Φ Ψ :=
  we_op (pe_cmpR ho (peS a) (peS b) hm) (fun _ _ _ _ ⟨k, hc, hp⟩ σ F H v1 v2 st r1 r2 Q hQ => hc σ F H v1 v2 st r1 r2 Q (hQ _ true _ F H hp st (Ex.refl F) (.bl k))) h
theorem wt_cp {Φ : Bool → Prop} {op : CmpOp} {r : R2} (ho : OpR X (compareOp op) r) (h : WE X g a env (fun d1 z1 => WE X g b env (fun d2 z2 => ∃ k, CP X.K g env r d1 z1 d2 z2 k ∧ Φ k) Ψ) Ψ)
    (hm : behindInMarks op b = false := by first | exact nomark _ | rfl) : WT X g (.Compare a [op] [b] pos) env Φ Ψ :=
  wt_op (pt_cmpR ho (peS a) (peS b) hm) (fun _ _ _ _ ⟨k, hc, hp⟩ σ F H v1 v2 st r1 r2 Q hQ => hc σ F H v1 v2 st r1 r2 Q (hQ (.bool k) true _ F H ⟨k, rfl, hp⟩ st (Ex.refl F) (.bl k))) h
/-- a op b op' c -/
theorem chain_run {r r' : R2} {C : Bool → Prop} (h : WE X g a env (fun d1 z1 => WE X g b env (fun d2 z2 => ∃ k, CP X.K g env r d1 z1 d2 z2 k ∧ (k = true → WE X g c env (fun d3 z3 => ∃ k', CP X.K g env r' d2 z2 d3 z3 k' ∧ C k') Ψ) ∧ (k = false → C false)) Ψ) Ψ)
    {W : WX} (tk : Takes X W) {F H : Hp} (st : St X.K g F H σ env) (hx : HX X g env Ψ W σ) {Q : VK} (hQ : ∀ k F' H', C k → St X.K g F' H' σ env → Ex F F' → Q (.bl k) H') : tChain r r' (semE X a) (semE X b) (semE X c) σ H Q := by
  refine h W tk σ F H st hx _ fun d1 z1 v1 F1 H1 h1 st1 e1 r1 => ?_
  refine h1 W tk σ F1 H1 st1 hx _ fun d2 z2 v2 F2 H2 h2 st2 e2 r2 => ?_
  obtain ⟨k, hc, ht, hf⟩ := h2
  refine hc σ F2 H2 v1 v2 st2 (rd_mono e2 r1) r2 _ ⟨k, rfl, ?_⟩
  cases k with
  | true =>
    rw [if_pos rfl]
    refine ht rfl W tk σ F2 H2 st2 hx _ fun d3 z3 v3 F3 H3 h3 st3 e3 r3 => ?_
    obtain ⟨k', hc', hp⟩ := h3
    exact hc' σ F3 H3 v2 v3 st3 (rd_mono e3 r2) r3 Q (hQ k' F3 H3 hp st3 ((e1.trans e2).trans e3))
  | false =>
    rw [if_neg Bool.false_ne_true]
    exact hQ false F2 H2 (hf rfl) st2 (e1.trans e2)
theorem wt_ch {Φ : Bool → Prop} {op op' : CmpOp} {r r' : R2} (ho : OpR X (compareOp op) r) (ho' : OpR X (compareOp op') r')
    (h : WE X g a env (fun d1 z1 => WE X g b env (fun d2 z2 => ∃ k, CP X.K g env r d1 z1 d2 z2 k ∧ (k = true → WE X g c env (fun d3 z3 => ∃ k', CP X.K g env r' d2 z2 d3 z3 k' ∧ Φ k') Ψ) ∧ (k = false → Φ false)) Ψ) Ψ)
    (hm : lastMarks [op, op'] [b, c] = false := by with_unfolding_all rfl) : WT X g (.Compare a [op, op'] [b, c] pos) env Φ Ψ := fun W tk σ F H st hx Q hQ =>
  semT_of (pt_chain ho ho' (peS a) (peS b) (peS c) hm) (chain_run h tk st hx fun k F' H' hp s e => ⟨k, rfl, hQ k F' H' hp s e⟩)
/-- the operators' rules, by what they take -/
abbrev rLtA (K : Frag) : R2 := fun x y H Q => (rI0 fun i j => .bl (decide (i < j))) x y H Q ∨ rLtT K x y H Q
theorem op_ltA {k : Nat} (hr : Room k X.A) : OpR X (compareOp .Lt) (rLtA X.K) := op_lt.or (op_ltT hr.units0)
abbrev rEqA (K : Frag) : R2 := fun x y H Q => rEq x y H Q ∨ rEqD K x y H Q
theorem op_eqA {k : Nat} (hr : Room k X.A) : OpR X (compareOp .Eq) (rEqA X.K) := op_eq.or (op_eqD hr.units)
abbrev rNeA (K : Frag) : R2 := fun x y H Q => rNe x y H Q ∨ rNeD K x y H Q
theorem op_neA {k : Nat} (hr : Room k X.A) : OpR X (compareOp .NotEq) (rNeA X.K) := op_ne.or (op_neD hr.units)
theorem units65 {k : Nat} {A : Around} (hr : Room k A) : A.units + 65 < cLine := by have := hr.un; omega
abbrev rIsN : R2 := fun x y H Q => y = .non ∧ Q (.bl (decide (x = .non))) H
section
variable {z1 z2 : Bool} {i j : Int} {s t : Str} {d1 d2 : PyData}
theorem cp_I0 {f : Int → Int → Bool} : CP K g env (rI0 fun i j => .bl (f i j)) (.int i) z1 (.int j) z2 (f i j) := fun σ F H v1 v2 st r1 r2 Q q => ⟨i, j, rd_int r1, rd_int r2, q⟩
theorem cp_lt : CP K g env (rLtA K) (.int i) z1 (.int j) z2 (decide (i < j)) := cp_l cp_I0
theorem cp_le : CP K g env (rI0 fun i j => .bl (decide (i ≤ j))) (.int i) z1 (.int j) z2 (decide (i ≤ j)) := cp_I0
theorem cp_gt : CP K g env (rI0 fun i j => .bl (decide (j < i))) (.int i) z1 (.int j) z2 (decide (j < i)) := cp_I0 (f := fun i j => decide (j < i))
theorem cp_ge : CP K g env (rI0 fun i j => .bl (decide (j ≤ i))) (.int i) z1 (.int j) z2 (decide (j ≤ i)) := cp_I0 (f := fun i j => decide (j ≤ i))
theorem vint_dec : decide (V.int i = V.int j) = decide (i = j) := by
  by_cases h : i = j
  · subst h; simp
  · rw [decide_eq_false h, decide_eq_false fun z => h (V.int.inj z)]
theorem vstr_dec : decide (V.str s = V.str t) = decide (s = t) := by
  by_cases h : s = t
  · subst h; simp
  · rw [decide_eq_false h, decide_eq_false fun z => h (V.str.inj z)]
theorem vbl_dec {k l : Bool} : decide (V.bl k = V.bl l) = decide (k = l) := by
  by_cases h : k = l
  · subst h; simp
  · rw [decide_eq_false h, decide_eq_false fun z => h (V.bl.inj z)]
theorem cp_eqI : CP K g env (rEqA K) (.int i) z1 (.int j) z2 (decide (i = j)) := cp_l fun σ F H v1 v2 st r1 r2 Q q => by
  rw [rd_int r1, rd_int r2]; exact ⟨rfl, by rw [vint_dec]; exact q⟩
theorem cp_eqS : CP K g env (rEqA K) (.str s) z1 (.str t) z2 (decide (s = t)) := cp_l fun σ F H v1 v2 st r1 r2 Q q => by
  rw [rd_str r1, rd_str r2]; exact ⟨rfl, by rw [vstr_dec]; exact q⟩
theorem cp_eqB {k l : Bool} : CP K g env (rEqA K) (.bool k) z1 (.bool l) z2 (decide (k = l)) := cp_l fun σ F H v1 v2 st r1 r2 Q q => by
  rw [rd_bl r1, rd_bl r2]; exact ⟨rfl, by rw [vbl_dec]; exact q⟩
theorem cp_eqD (h1 : SeqAt.shaped d1 = true) (h2 : SeqAt.shaped d2 = true) : CP K g env (rEqA K) d1 z1 d2 z2 (PyData.eqv d1 d2) := cp_r fun σ F H v1 v2 st r1 r2 Q q => ⟨d1, d2, rd_nowP st.toSk r1 h1, rd_nowP st.toSk r2 h2, h1, h2, q⟩
theorem cp_neI : CP K g env (rNeA K) (.int i) z1 (.int j) z2 (!decide (i = j)) := cp_l fun σ F H v1 v2 st r1 r2 Q q => by
  rw [rd_int r1, rd_int r2]; exact ⟨rfl, by rw [vint_dec]; exact q⟩
theorem cp_neB {k l : Bool} : CP K g env (rNeA K) (.bool k) z1 (.bool l) z2 (!decide (k = l)) := cp_l fun σ F H v1 v2 st r1 r2 Q q => by
  rw [rd_bl r1, rd_bl r2]; exact ⟨rfl, by rw [vbl_dec]; exact q⟩
/-- x is None -/
def isNone : PyData → Bool
  | .none => true
  | _ => false
theorem dp_isnone {v : V} {d : PyData} (h : Dq K H v d) : decide (v = .non) = isNone d := by
  cases h <;> first | rfl | exact decide_eq_false (fun z => by cases z)
theorem cp_isN : CP K g env rIsN d1 z1 .none z2 (isNone d1) := fun σ F H v1 v2 st r1 r2 Q q => ⟨rd_non r2, by rw [dp_isnone (rd_now st.toSk r1)]; exact q⟩
/-- flat things in a list or tuple -/
def fl : PyData → Option V
  | .int i => some (.int i)
  | .str s => some (.str s)
  | .none => some .non
  | _ => none
end
section
variable {Φ : Bool → Prop}
theorem WT.mono {Φ' : Bool → Prop} (h : WT X g e env Φ Ψ) (k : ∀ d, Φ d → Φ' d) : WT X g e env Φ' Ψ :=
  fun W tk σ F H st hx Q hQ => h W tk σ F H st hx Q fun d F' H' p => hQ d F' H' (k d p)
theorem wt_e (h : WE X g e env (fun d _ => ∃ k, d = .bool k ∧ Φ k) Ψ) (he : ∀ whole, isTrue e X.env whole = (do let v ← whole; standAt e.pos; holding [v] (truthy v)) := by intro _; rfl) : WT X g e env Φ Ψ := fun W tk σ F H st hx Q hQ => by
  refine semT_of (pt_val (peS e) he) ?_
  refine h W tk σ F H st hx _ fun d z v F' H' ⟨k, hd, hp⟩ s' e' r' => ?_
  subst hd
  exact ⟨k, rd_bl r', hQ k F' H' hp s' e'⟩
theorem wt_not (h : WT X g a env (fun k => Φ (!k)) Ψ) : WT X g (.UnaryOp .Not a pos) env Φ Ψ := fun W tk σ F H st hx Q hQ =>
  semT_of (pt_not (ptS a)) (h W tk σ F H st hx _ fun k F' H' hp s' e' => hQ _ F' H' hp s' e')
theorem we_not {Φ : PyData → Bool → Prop} (h : WE X g a env (fun d _ => ∃ k, d = .bool k ∧ Φ (.bool !k) true) Ψ) : WE X g (.UnaryOp .Not a pos) env Φ Ψ := fun W tk σ F H st hx Q hQ =>
  semE_of (pe_not (peS a)) (h W tk σ F H st hx _ fun d z v F' H' ⟨k, hd, hp⟩ s' e' r' => by
    subst hd
    exact ⟨k, rd_bl r', hQ _ true _ F' H' hp s' e' (.bl _)⟩)
/-- semantic reading of an and/or whatever its whole is -/
structure SemW (X : Cx) (e : Expr) (σ : SS) (H : Hp) (Q : Bool → Hp → Prop) : Prop where
  run : ∀ (whole : Sem Value) (pins : List (Addr × Obj)) (s : Shared), Inv X pins σ H s → wpAny (model X.prog X.w) X.A (isTrue e X.env whole) (TP X pins σ Q) X.xe s
def semW (X : Cx) (e : Expr) : TT := fun σ H Q => SemW X e σ H Q
theorem pwW (e : Expr) : PW X e (semW X e) := ⟨fun whole pins s σ H Q I q => q.run whole pins s I⟩
theorem semW_of {e : Expr} {t : TT} (h : PW X e t) {σ : SS} {H : Hp} {Q : Bool → Hp → Prop} (q : t σ H Q) : semW X e σ H Q := ⟨fun whole pins s I => h.run whole pins s σ H Q I q⟩
/-- a test, whatever its whole is -/
def WW (X : Cx) (g : G) (e : Expr) (env : List Sl) (Φ : Bool → Prop) (Ψ : Exc → Prop) : Prop :=
  ∀ (W : WX), Takes X W → ∀ (σ : SS) (F H : Hp), St X.K g F H σ env → HX X g env Ψ W σ →
    ∀ Q : Bool → Hp → Prop, (∀ b F' H', Φ b → St X.K g F' H' σ env → Ex F F' → Q b H') → semW X e σ H Q
theorem wt_ww (h : WW X g e env Φ Ψ) : WT X g e env Φ Ψ := fun W tk σ F H st hx Q hQ => semT_of (pwW e).pt (h W tk σ F H st hx Q hQ)
theorem ww_or {rest : List Expr} (h : WT X g a env (fun k => (k = true → Φ true) ∧ (k = false → WW X g (.BoolOp .Or (b :: rest) pos) env Φ Ψ)) Ψ) : WW X g (.BoolOp .Or (a :: b :: rest) pos) env Φ Ψ := fun W tk σ F H st hx Q hQ => by
  refine semW_of (pw_or (ptS a) (pwW _)) ?_
  refine h W tk σ F H st hx _ fun k F' H' ⟨ht, hf⟩ s' e' => ?_
  cases k with
  | true => rw [if_pos rfl]; exact hQ true F' H' (ht rfl) s' e'
  | false => rw [if_neg Bool.false_ne_true]; exact hf rfl W tk σ F' H' s' hx Q fun k F2 H2 hp s2 e2 => hQ k F2 H2 hp s2 (e'.trans e2)
theorem ww_or1 (h : WT X g a env Φ Ψ) : WW X g (.BoolOp .Or [a] pos) env Φ Ψ := fun W tk σ F H st hx Q hQ => semW_of (pw_or1 (ptS a)) (h W tk σ F H st hx Q hQ)
end
section
variable {Φ : PyData → Bool → Prop}
/-- as values (truths) -/
theorem we_one {op : BoolOp} (h : WE X g a env Φ Ψ) : WE X g (.BoolOp op [a] pos) env Φ Ψ := fun W tk σ F H st hx Q hQ => semE_of (pe_one (peS a)) (h W tk σ F H st hx Q hQ)
theorem we_and {rest : List Expr} (h : WE X g a env (fun d _ => ∃ k, d = .bool k ∧ (k = true → WE X g (.BoolOp .And (b :: rest) pos) env Φ Ψ) ∧ (k = false → Φ (.bool false) true)) Ψ) : WE X g (.BoolOp .And (a :: b :: rest) pos) env Φ Ψ := fun W tk σ F H st hx Q hQ => by
  refine semE_of (pe_and (peS a) (peS _)) ?_
  refine h W tk σ F H st hx _ fun d z v F' H' ⟨k, hd, ht, hf⟩ s' e' r' => ?_
  subst hd
  refine ⟨k, rd_bl r', ?_⟩
  cases k with
  | true => rw [if_pos rfl]; exact ht rfl W tk σ F' H' s' hx Q fun d z v F2 H2 hp s2 e2 => hQ d z v F2 H2 hp s2 (e'.trans e2)
  | false => rw [if_neg Bool.false_ne_true]; exact hQ _ true _ F' H' (hf rfl) s' e' (.bl false)
end
inductive IxP (Φ : PyData → Bool → Prop) : PyData → Bool → PyData → Bool → Prop
  | lst {xs : List PyData} {i : Int} {x : PyData} {z1 z2 : Bool} : Φ x true → atI xs i = some x → IxP Φ (.list xs) z1 (.int i) z2
  | tup {xs : List PyData} {i : Int} {x : PyData} {z1 z2 : Bool} : Φ x true → atI xs i = some x → IxP Φ (.tuple xs) z1 (.int i) z2
  | str {s : Str} {i : Int} {c : Nat} {z1 z2 : Bool} : Φ (.str ⟨#[c]⟩) true → s.length ≤ sizeLine → atI s.cps.toList i = some c → IxP Φ (.str s) z1 (.int i) z2
theorem dpa_at {ds : List PyData} {vs : List V} {i : Int} {d : PyData} (h : DqAll K H vs ds) (e : atI ds i = some d) : ∃ v, atI vs i = some v ∧ Dq K H v d := by
  unfold atI at e ⊢
  rw [dpa_len h]
  cases q : ixN ds.length i with
  | none => rw [q] at e; cases e
  | some j =>
    rw [q] at e
    obtain ⟨v, h1, h2⟩ := dpa_get h (show ds[j]? = some d from e)
    exact ⟨v, h1, h2⟩
theorem dop_ix {Φ : PyData → Bool → Prop} {d1 d2 : PyData} {z1 z2 : Bool} (h : IxP Φ d1 z1 d2 z2) : DOp K g env (rIx K) d1 z1 d2 z2 Φ := by
  cases h with
  | lst hp ha =>
    refine dop_l fun σ F H v1 v2 st r1 r2 Q hQ => ?_
    obtain ⟨a1, vs1, rfl, s1, p1⟩ := rd_lst st.toSk r1
    obtain ⟨v, e1, e2⟩ := dpa_at p1 ha
    exact ⟨a1, vs1, _, v, rfl, rd_int r2, s1, e1, hQ _ true _ F H hp st (Ex.refl F) e2⟩
  | tup hp ha =>
    refine dop_r (dop_l fun σ F H v1 v2 st r1 r2 Q hQ => ?_)
    obtain ⟨a1, vs1, rfl, s1, p1⟩ := rd_tup st.toSk r1
    obtain ⟨v, e1, e2⟩ := dpa_at p1 ha
    exact ⟨a1, vs1, _, v, rfl, rd_int r2, s1, e1, hQ _ true _ F H hp st (Ex.refl F) e2⟩
  | str hp hl ha => exact dop_r (dop_r fun σ F H v1 v2 st r1 r2 Q hQ => ⟨_, _, _, rd_str r1, rd_int r2, hl, ha, hQ _ true _ F H hp st (Ex.refl F) (.str _)⟩)
theorem we_ix {Φ : PyData → Bool → Prop} (h : WE X g a env (fun d1 z1 => WE X g b env (fun d2 z2 => IxP Φ d1 z1 d2 z2) Ψ) Ψ) (hs : PlainIx b := by exact fun _ _ => rfl) : WE X g (.Subscript a b pos) env Φ Ψ :=
  we_op (pe_ix ix_seq (peS a) (peS b) hs) (fun _ _ _ _ => dop_ix) h
end
end TL
namespace TL
open PySem PySem.Spec PyProof.Rows L2
inductive PR where
  | rd (d : PyData)
  | nl (ds : List PyData)
  | ar (i : Nat)
  | nt (kvs : List (List Key × PyData))
  | nk (kvs : List (Key × PyData))
  | sl (C : Sl → Prop)
abbrev CT := List Sl → (PR → List Sl → Prop) → (Exc → List Sl → Prop) → Prop
def Step (F H : Hp) (args : List Sl) (F' H' : Hp) : Prop :=
  Ex F F' ∧ (∀ a o, H a = some o → ¬ Own args a → ntb o → H' a = some o) ∧ (∀ a, F' a ≠ none → F a ≠ none ∨ H a = none) ∧ ∀ a, H a ≠ none → H' a ≠ none
def PrOk (K : Frag) (vs : List V) (H F' H' : Hp) (args' : List Sl) (v : V) : PR → Prop
  | .rd d => Dq K F' v d
  | .nl ds => ∃ p xs, v = .ref p ∧ H' p = some (.lst xs) ∧ DqAll K F' xs ds ∧ F' p = none ∧ H p = none ∧ ¬ Own args' p
  | .ar i => vs[i]? = some v
  | .nt kvs => ∃ p xs, v = .ref p ∧ H' p = some (.dT xs) ∧ KVp K F' xs kvs ∧ F' p = none ∧ H p = none ∧ ¬ Own args' p
  | .nk kvs => ∃ p xs, v = .ref p ∧ H' p = some (.dK xs) ∧ KVp K F' xs kvs ∧ F' p = none ∧ H p = none ∧ ¬ Own args' p
  | .sl C => ∃ s, C s ∧ SlOk K F' H' (some v) s ∧ ∀ p ∈ s.fp, F' p = none ∧ H p = none ∧ ¬ Own args' p
def ExcE (K : Frag) (E : XK) (H : Hp) : Exc → Prop
  | .own n => E (.ref (He.ga K n)) none H
def spOf (K : Frag) (n : Nat) (S : CT) : Sp := fun vs H Q E => vs.length = n ∧ ∃ F args Φ Ψ, S args Φ Ψ ∧ Sk K F H (vs.map some) args ∧
  (∀ r v args' F' H', Φ r args' → Sk K F' H' (vs.map some) args' → Step F H args F' H' → (∀ a, Own args' a → Own args a ∨ H a = none) → PrOk K vs H F' H' args' v r → Q v H') ∧
  (∀ c args' F' H', Ψ c args' → Sk K F' H' (vs.map some) args' → Step F H args F' H' → (∀ a, Own args' a → Own args a ∨ H a = none) → ExcE K E H' c)
structure Has (P : Program) (w : World) (K : Frag) (mg : Str → Option Value) (base : Heap) (k : Nat) (x : Str) (ps : List Str) (S : CT) : Prop where
  ex : ∃ f fd, mg x = some (.ref f) ∧ PySem.W.keepIn K (.ref f) = true ∧ Binds K fd ps [] ∧ FnOk P w K mg base (L2.CX P w) k f fd ps (spOf K ps.length S)
structure SemA (X : Cx) (es : List Expr) (σ : SS) (H : Hp) (Q : List V → Hp → Prop) : Prop where
  run : ∀ (pos : Pos) (pins : List (Addr × Obj)) (s : Shared), Inv X pins σ H s → wpAny (model X.prog X.w) X.A (spliced (backTo pos (starEach es X.env))) (AP X pins σ Q) X.xe s
def semA (X : Cx) (es : List Expr) : TA := fun σ H Q => SemA X es σ H Q
theorem paS {X : Cx} (es : List Expr) : PA X es (semA X es) := ⟨fun pos pins s σ H Q I h => h.run pos pins s I⟩
theorem semA_of {X : Cx} {es : List Expr} {t : TA} (h : PA X es t) {σ : SS} {H : Hp} {Q : List V → Hp → Prop} (q : t σ H Q) : semA X es σ H Q := ⟨fun pos pins s I => h.run pos pins s σ H Q I q⟩
def WAs (X : Cx) (g : G) (es : List Expr) (env : List Sl) (Φ : List Ar → Prop) (Ψ : Exc → Prop) : Prop :=
  ∀ (W : WX), Takes X W → ∀ (σ : SS) (F H : Hp), St X.K g F H σ env → HX X g env Ψ W σ →
    ∀ Q : List V → Hp → Prop, (∀ as vs F' H', Φ as → St X.K g F' H' σ env → Ex F F' → ArAll X.K F' σ vs as → Q vs H') → semA X es σ H Q
section
variable {X : Cx} {g : G} {env : List Sl} {Ψ : Exc → Prop} {pos p : Pos} {a b c e : Expr} {es : List Expr} {K : Frag} {F F' H H' : Hp} {σ : SS}
section
variable {Φ : List Ar → Prop}
theorem wa_nil (h : Φ []) : WAs X g [] env Φ Ψ := fun W tk σ F H st hx Q hQ => semA_of pa_nil (hQ [] [] F H h st (Ex.refl F) trivial)
/-- an argument that is data -/
theorem wa_d (he : WE X g e env (fun d z => z = true ∧ WAs X g es env (fun as => Φ (.d d :: as)) Ψ) Ψ) (hs : starEach (e :: es) X.env = (false, eval e X.env) :: starEach es X.env := by rfl) : WAs X g (e :: es) env Φ Ψ := fun W tk σ F H st hx Q hQ => by
  refine semA_of (pa_cons (peS e) (paS es) hs) ?_
  refine he W tk σ F H st hx _ fun d z v F1 H1 ⟨hz, hp⟩ s1 e1 r1 => ?_
  subst hz
  exact hp W tk σ F1 H1 s1 hx _ fun as vs F2 H2 hp2 s2 e2 r2 => hQ (.d d :: as) (v :: vs) F2 H2 hp2 s2 (e1.trans e2) ⟨dp_mono e2 _ _ r1, r2⟩
/-- an object that a slot holds -/
theorem wa_s (i : Nat) {x : Str} {s : Sl} (h : WAs X g es env (fun as => Φ (.s i :: as)) Ψ) (he : env[i]? = some s := by rfl) (hne : s.fp ≠ [] := by (intro h; cases h)) (hN : X.N[i]? = some x := by rfl)
    (hv : Vis X.env.scope x := by first | exact Or.inl rfl | exact Or.inr (Or.inl rfl) | exact Or.inr (Or.inr rfl)) (hd : (x == ("__debug__" : Str)) = false := by decide)
    (hcd : (x == ("__classdict__" : Str)) = false := by decide) (hs : starEach ((.Name x pos) :: es) X.env = (false, eval (.Name x pos) X.env) :: starEach es X.env := by rfl) : WAs X g (.Name x pos :: es) env Φ Ψ := fun W tk σ F H st hx Q hQ => by
  refine semA_of (pa_cons (pe_var hN hv hd hcd) (paS es) hs) ?_
  have q := st.sl i s he
  obtain ⟨v, hv⟩ : ∃ v, σ[i]?.getD none = some v := by
    cases s with
    | un => exact absurd rfl hne
    | d x => exact absurd rfl hne
    | v x => exact ⟨_, q⟩
    | ol a ds => exact ⟨_, q.1⟩
    | bg a => exact ⟨_, q.1⟩
    | dt a ds => exact ⟨_, q.1⟩
    | dk a ds => exact ⟨_, q.1⟩
    | fv l => exact absurd rfl hne
    | fl l => exact absurd rfl hne
    | oo a ds => exact ⟨_, q.1⟩
    | ow t => exact ⟨q.choose, q.choose_spec.1⟩
  exact ⟨v, getD_some hv, h W tk σ F H st hx _ fun as vs F2 H2 hp2 s2 e2 r2 => hQ (.s i :: as) (v :: vs) F2 H2 hp2 s2 e2 ⟨getD_some hv, r2⟩⟩
end
def datas : List Ar → Option (List PyData)
  | [] => some []
  | .d x :: r => (datas r).map (x :: ·)
  | .s _ :: _ => none
theorem dpa_datas : ∀ {as : List Ar} {ds : List PyData} {vs : List V}, datas as = some ds → ArAll K F σ vs as → DqAll K F vs ds
  | [], _, [], h, _ => by cases h; exact .nil
  | .d x :: r, _, _ :: _, h, ⟨h1, h2⟩ => by
    obtain ⟨ds, e1, e2⟩ := Option.map_eq_some_iff.mp (show (datas r).map (x :: ·) = some _ from h)
    subst e2
    exact .cons h1 (dpa_datas e1 h2)
  | .s _ :: _, _, _, h, _ => by cases h
theorem wn_list {Φ : List PyData → Prop} (h : WAs X g es env (fun as => ∃ ds, datas as = some ds ∧ ds.length ≤ sizeLine ∧ Φ ds) Ψ) : WN X g (.List es pos) env Φ Ψ := fun W tk σ F H st hx Q hQ => by
  refine semE_of (pe_lst (paS es)) ?_
  refine h W tk σ F H st hx _ fun as vs F1 H1 ⟨ds, e1, hl, hp⟩ s1 ex1 r1 => ?_
  have hd := dpa_datas e1 r1
  refine ⟨by rw [dpa_len hd]; exact hl, fun p hn => ?_⟩
  exact put_new s1 hn hd hp fun ds v F' H' hp s e r => hQ ds v F' H' hp s (ex1.trans e) r
theorem we_list {Φ : PyData → Bool → Prop} (h : WAs X g es env (fun as => ∃ ds, datas as = some ds ∧ ds.length ≤ sizeLine ∧ Φ (.list ds) true) Ψ) : WE X g (.List es pos) env Φ Ψ := we_of_wn (wn_list h)
theorem we_tuple {x1 : Nat} {Φ : PyData → Bool → Prop} (h : WAs X g es env (fun as => ∃ ds, datas as = some ds ∧ ds.length ≤ sizeLine ∧ Φ (.tuple ds) true) Ψ) : WE X g (.Tuple es x1 pos) env Φ Ψ := fun W tk σ F H st hx Q hQ => by
  refine semE_of (pe_tup (paS es)) ?_
  refine h W tk σ F H st hx _ fun as vs F1 H1 ⟨ds, e1, hl, hp⟩ s1 ex1 r1 => ?_
  have hd := dpa_datas e1 r1
  refine ⟨by rw [dpa_len hd]; exact hl, fun p hn => ?_⟩
  exact put_tup s1 hn hd hp fun d z v F' H' hp s e r => hQ d z v F' H' hp s (ex1.trans e) r
def slOf (env : List Sl) : Ar → Sl
  | .d x => .d x
  | .s i => env[i]?.getD .un
def arIx : List Ar → List Nat
  | [] => []
  | .s i :: r => i :: arIx r
  | .d _ :: r => arIx r
theorem arall_len : ∀ {vs : List V} {as : List Ar}, ArAll K F σ vs as → vs.length = as.length
  | [], [], _ => rfl
  | _ :: _, _ :: _, ⟨_, h⟩ => congrArg Nat.succ (arall_len h)
  | [], _ :: _, h => h.elim
  | _ :: _, [], h => h.elim
theorem arall_get : ∀ {vs : List V} {as : List Ar} {j : Nat} {a : Ar}, ArAll K F σ vs as → as[j]? = some a → ∃ v, vs[j]? = some v ∧ ArOk K F σ v a
  | [], [], j, a, _, h => by simp at h
  | v :: vs, x :: as, 0, a, ⟨h1, _⟩, h => by
    have e := Option.some.inj h
    subst e
    exact ⟨v, rfl, h1⟩
  | v :: vs, x :: as, j + 1, a, ⟨_, h2⟩, h => arall_get (j := j) h2 h
  | [], _ :: _, _, _, h, _ => h.elim
  | _ :: _, [], _, _, h, _ => h.elim
theorem arix_mem : ∀ {as : List Ar} {j i : Nat}, as[j]? = some (.s i) → i ∈ arIx as
  | .s k :: r, 0, i, h => by
    have e := Option.some.inj h
    injection e with e
    subst e
    exact List.mem_cons_self ..
  | .d x :: r, 0, i, h => by have e := Option.some.inj h; cases e
  | .s k :: r, j + 1, i, h => List.mem_cons_of_mem _ (arix_mem (as := r) (j := j) h)
  | .d x :: r, j + 1, i, h => arix_mem (as := r) (j := j) h
  | [], _, _, h => by simp at h
/-- the same slot is not handed on twice -/
theorem arix_inj : ∀ {as : List Ar} {j k i : Nat}, (arIx as).Nodup → as[j]? = some (.s i) → as[k]? = some (.s i) → j = k
  | [], _, _, _, _, h, _ => by simp at h
  | _ :: _, 0, 0, _, _, _, _ => rfl
  | .s l :: r, 0, k + 1, i, nd, h1, h2 => by
    have e := Option.some.inj h1
    injection e with e
    subst e
    exact absurd (arix_mem (as := r) (j := k) h2) (List.nodup_cons.mp nd).1
  | .s l :: r, j + 1, 0, i, nd, h1, h2 => by
    have e := Option.some.inj h2
    injection e with e
    subst e
    exact absurd (arix_mem (as := r) (j := j) h1) (List.nodup_cons.mp nd).1
  | .d l :: r, 0, k + 1, i, nd, h1, h2 => by have e := Option.some.inj h1; cases e
  | .d l :: r, j + 1, 0, i, nd, h1, h2 => by have e := Option.some.inj h2; cases e
  | .s l :: r, j + 1, k + 1, i, nd, h1, h2 => congrArg Nat.succ (arix_inj (as := r) (List.nodup_cons.mp nd).2 h1 h2)
  | .d l :: r, j + 1, k + 1, i, nd, h1, h2 => congrArg Nat.succ (arix_inj (as := r) nd h1 h2)
theorem map_get {α β : Type} {f : α → β} {l : List α} {j : Nat} {y : β} (h : (l.map f)[j]? = some y) : ∃ x, l[j]? = some x ∧ f x = y := by
  rw [List.getElem?_map] at h
  exact Option.map_eq_some_iff.mp h
theorem vmap_get {vs : List V} {j : Nat} {v : V} (h : vs[j]? = some v) : ((vs.map some)[j]?.getD none : Option V) = some v := by
  rw [List.getElem?_map, h]; rfl
/-- what the callee is handed -/
theorem Sk.callee {as : List Ar} {vs : List V} (st : Sk K F H σ env) (ha : ArAll K F σ vs as) (nd : (arIx as).Nodup) (hs : ∀ i ∈ arIx as, i < env.length) : Sk K F H (vs.map some) (as.map (slOf env)) where
  len := by rw [List.length_map, List.length_map]; exact arall_len ha
  sl := fun j s e => by
    obtain ⟨a, ea, es⟩ := map_get e
    obtain ⟨v, ev, hv⟩ := arall_get ha ea
    rw [vmap_get ev]
    cases a with
    | d x => rw [← es]; exact ⟨v, rfl, hv⟩
    | s i =>
      have hi := hs i (arix_mem ea)
      have q := st.sl i _ (List.getElem?_eq_getElem hi)
      have hv' : σ[i]? = some (some v) := hv
      rw [hv'] at q
      have e2 : s = env[i] := by rw [← es]; show env[i]?.getD .un = _; rw [List.getElem?_eq_getElem hi]; rfl
      rw [e2]; exact q
  nd := fun j k s t a ej ek h1 h2 => by
    obtain ⟨x, ex, rfl⟩ := map_get ej
    obtain ⟨y, ey, rfl⟩ := map_get ek
    cases x with
    | d z => cases h1
    | s i =>
      cases y with
      | d z => cases h2
      | s l =>
        have hi := hs i (arix_mem ex)
        have hl := hs l (arix_mem ey)
        have e1 : slOf env (.s i) = env[i] := by show env[i]?.getD .un = _; rw [List.getElem?_eq_getElem hi]; rfl
        have e2 : slOf env (.s l) = env[l] := by show env[l]?.getD .un = _; rw [List.getElem?_eq_getElem hl]; rfl
        rw [e1] at h1
        rw [e2] at h2
        have e := st.nd i l _ _ a (List.getElem?_eq_getElem hi) (List.getElem?_eq_getElem hl) h1 h2
        subst e
        exact arix_inj nd ex ey
  fr := fun a ⟨j, s, e, h1⟩ => by
    obtain ⟨x, ex, rfl⟩ := map_get e
    cases x with
    | d z => cases h1
    | s i =>
      have hi := hs i (arix_mem ex)
      have e1 : slOf env (.s i) = env[i] := by show env[i]?.getD .un = _; rw [List.getElem?_eq_getElem hi]; rfl
      exact st.fr a ⟨i, env[i], List.getElem?_eq_getElem hi, by rw [← e1]; exact h1⟩
  ex := st.ex
  tf := st.tf
  tk := st.tk
theorem own_args {as : List Ar} {a : Addr} (h : Own (as.map (slOf env)) a) : ∃ (j i : Nat) (s : Sl), as[j]? = some (.s i) ∧ env[i]? = some s ∧ a ∈ s.fp := by
  obtain ⟨j, s, e, h1⟩ := h
  obtain ⟨x, ex, rfl⟩ := map_get e
  cases x with
  | d z => cases h1
  | s i =>
    cases q : env[i]? with
    | none => have e1 : slOf env (.s i) = .un := by show env[i]?.getD .un = _; rw [q]; rfl
              rw [e1] at h1; cases h1
    | some s => have e1 : slOf env (.s i) = s := by show env[i]?.getD .un = _; rw [q]; rfl
                rw [e1] at h1; exact ⟨j, i, s, ex, q, h1⟩
/-- behind a call: the slots that were handed on are as the callee left them -/
theorem St.called {as : List Ar} {vs : List V} {args' env' : List Sl} (st : St K g F H σ env) (ha : ArAll K F σ vs as) (sk : Sk K F' H' (vs.map some) args') (hst : Step F H (as.map (slOf env)) F' H')
    (hl : env'.length = env.length) (hk : ∀ (i : Nat) (s : Sl), i ∉ arIx as → env'[i]? = some s → env[i]? = some s) (hp : ∀ (j i : Nat) (s : Sl), as[j]? = some (Ar.s i) → env'[i]? = some s → args'[j]? = some s)
    (hsub : ∀ (i : Nat) (s s' : Sl), env[i]? = some s → env'[i]? = some s' → ∀ a ∈ s'.fp, a ∈ s.fp ∨ H a = none) : St K g F' H' σ env' := by
  obtain ⟨e1, e2, e3, e4⟩ := hst
  have sub : ∀ a, Own env' a → Own env a ∨ H a = none := fun a ⟨i, s', h1, h2⟩ => by
    have hi : i < env.length := by rw [← hl]; exact (List.getElem?_eq_some_iff.mp h1).1
    rcases hsub i _ s' (List.getElem?_eq_getElem hi) h1 a h2 with q | q
    · exact .inl ⟨i, env[i], List.getElem?_eq_getElem hi, q⟩
    · exact .inr q
  have ownA : ∀ a, Own (as.map (slOf env)) a → Own env a := fun a h => by
    obtain ⟨j, i, s, _, h2, h3⟩ := own_args h
    exact ⟨i, s, h2, h3⟩
  have ixs : ∀ (i : Nat), i ∈ arIx as → ∃ j : Nat, as[j]? = some (Ar.s i) := fun i h => by
    clear hp hk ownA e2 ha
    induction as with
    | nil => cases h
    | cons x r ih =>
      cases x with
      | d z => obtain ⟨j, hj⟩ := ih h; exact ⟨j + 1, hj⟩
      | s l =>
        rcases List.mem_cons.mp (show i ∈ l :: arIx r from h) with e | h
        · subst e; exact ⟨0, rfl⟩
        · obtain ⟨j, hj⟩ := ih h; exact ⟨j + 1, hj⟩
  refine { len := by rw [hl]; exact st.len, sl := fun i s e => ?_, nd := fun i j s t a ei ej h1 h2 => ?_, fr := fun a h => ?_, ex := sk.ex, tf := sk.tf, tk := sk.tk, gt := st.gt.grow (fun a z => by
      cases q : H a with
      | none => rfl
      | some u => exact absurd z (e4 a (by rw [q]; intro y; cases y))), g1 := fun a o h m n => ?_, g2 := fun a h => (sub a h).elim (st.g2 a) fun z => .inl (st.h0 z), g3 := st.g3.trans e1, g4 := fun a h => ?_, g5 := fun a m z => ?_, g6 := st.g6 }
  · by_cases hi : i ∈ arIx as
    · obtain ⟨j, hj⟩ := ixs i hi
      have q := sk.sl j s (hp j i s hj e)
      obtain ⟨v, ev, hv⟩ := arall_get ha hj
      rw [vmap_get ev] at q
      have hv' : σ[i]? = some (some v) := hv
      rw [hv']; exact q
    · have e' := hk i s hi e
      refine slok_mono e1 (fun a h u q => e2 a u q (fun z => ?_) fun ps y => slok_ntb (st.sl i s e') h ps (by rw [q, y])) (st.sl i s e')
      obtain ⟨j, l, t, h3, h4, h5⟩ := own_args z
      have el := st.nd i l s t a e' h4 h h5
      subst el
      exact hi (arix_mem h3)
  · have hi : i < env.length := by rw [← hl]; exact (List.getElem?_eq_some_iff.mp ei).1
    have hj : j < env.length := by rw [← hl]; exact (List.getElem?_eq_some_iff.mp ej).1
    by_cases mi : i ∈ arIx as
    · by_cases mj : j ∈ arIx as
      · obtain ⟨p, hp1⟩ := ixs i mi
        obtain ⟨q, hq1⟩ := ixs j mj
        have e := sk.nd p q s t a (hp p i s hp1 ei) (hp q j t hq1 ej) h1 h2
        subst e
        rw [hp1] at hq1
        injection hq1 with z
        injection z
      · have ej' := hk j t mj ej
        rcases hsub i _ s (List.getElem?_eq_getElem hi) ei a h1 with z | z
        · exact st.nd i j _ t a (List.getElem?_eq_getElem hi) ej' z h2
        · exact absurd z (st.there ⟨j, t, ej', h2⟩)
    · have ei' := hk i s mi ei
      rcases hsub j _ t (List.getElem?_eq_getElem hj) ej a h2 with z | z
      · exact st.nd i j s _ a ei' (List.getElem?_eq_getElem hj) h1 z
      · exact absurd z (st.there ⟨i, s, ei', h1⟩)
  · obtain ⟨i, s, h1, h2⟩ := h
    by_cases mi : i ∈ arIx as
    · obtain ⟨p, hp1⟩ := ixs i mi
      exact sk.fr a ⟨p, s, hp p i s hp1 h1, h2⟩
    · have ho : Own env a := ⟨i, s, hk i s mi h1, h2⟩
      cases q : F' a with
      | none => rfl
      | some u =>
        rcases e3 a (by rw [q]; intro z; cases z) with z | z
        · exact absurd (st.fr a ho) z
        · exact absurd z (st.there ho)
  · refine e2 a o (st.g1 a o h m n) (fun z => ?_) n
    rcases st.g2 a (ownA a z) with q | q
    · rw [q] at h; cases h
    · exact m q
  · rcases e3 a h with z | z
    · exact st.g4 a z
    · exact .inr (st.h0 z)
  · exact e4 a (st.g5 a m) z
end
end TL
namespace TL
open PySem PySem.Spec PyProof.Rows L2
section
variable {X : Cx} {g : G} {env : List Sl} {Ψ : Exc → Prop} {pos p : Pos} {a b c e : Expr} {es : List Expr} {K : Frag} {F F' H H' : Hp} {σ : SS}
def PRd : PR → PyData → Prop
  | .rd d, d' => d' = d
  | .nl ds, d' => d' = .list ds
  | .ar _, _ => False
  | .nt _, _ => False
  | .nk _, _ => False
  | .sl _, _ => False
def natNd : List Nat → Bool
  | [] => true
  | x :: r => (r.all fun y => !Nat.beq x y) && natNd r
def callOk (as : List Ar) (m n : Nat) : Bool := Nat.beq as.length m && natNd (arIx as) && (arIx as).all fun i => Nat.blt i n
theorem natNd_ok : ∀ {l : List Nat}, natNd l = true → l.Nodup
  | [], _ => List.nodup_nil
  | x :: r, h => by
    have h' : (r.all fun y => !Nat.beq x y) = true ∧ natNd r = true := Bool.and_eq_true_iff.mp h
    refine List.nodup_cons.mpr ⟨fun hm => ?_, natNd_ok h'.2⟩
    have q := List.all_eq_true.mp h'.1 x hm
    rw [Nat.beq_refl] at q
    cases q
theorem callOk_ok {as : List Ar} {m n : Nat} (h : callOk as m n = true) : as.length = m ∧ (arIx as).Nodup ∧ ∀ i ∈ arIx as, i < n := by
  have h1 : (Nat.beq as.length m && natNd (arIx as)) = true ∧ ((arIx as).all fun i => Nat.blt i n) = true := Bool.and_eq_true_iff.mp h
  have h2 := Bool.and_eq_true_iff.mp h1.1
  refine ⟨Nat.eq_of_beq_eq_true h2.1, natNd_ok h2.2, fun i hi => ?_⟩
  have q := List.all_eq_true.mp h1.2 i hi
  exact Nat.le_of_ble_eq_true q
theorem st_same {as : List Ar} {vs : List V} {args' : List Sl} (st : St K g F H σ env) (ha : ArAll K F σ vs as) (sk : Sk K F' H' (vs.map some) args') (hst : Step F H (as.map (slOf env)) F' H') (e : args' = as.map (slOf env)) : St K g F' H' σ env := by
  subst e
  refine st.called ha sk hst rfl (fun _ _ _ h => h) (fun j i s h1 h2 => ?_) (fun i s s' h1 h2 a h3 => ?_)
  · rw [List.getElem?_map, h1]
    show some (env[i]?.getD .un) = some s
    rw [h2]; rfl
  · rw [h1] at h2; cases h2; exact .inl h3
/-- a def is called; what it was handed stays as it is described -/
theorem call_run {j k : Nat} {x : Str} {ps : List Str} {S : CT} {Φ : PR → Prop} (hf : Has X.prog X.w X.K X.mg X.base j x ps S) (hr : Room k X.A)
    (h : WAs X g (e :: es) env (fun as => callOk as ps.length env.length = true ∧ S (as.map (slOf env)) (fun r args' => args' = as.map (slOf env) ∧ Φ r) (fun c args' => args' = as.map (slOf env) ∧ Ψ c)) Ψ)
    (hj : j ≤ k) (hg : Gl X x) (hdb : (x == ("__debug__" : Str)) = false)
    (he : starEach (e :: es) X.env = (false, eval e X.env) :: starEach es X.env) (hpl : (backTo pos (starEach es X.env)).any (·.1) = false)
    {W : WX} (tk : Takes X W) (st : St X.K g F H σ env) (hx : HX X g env Ψ W σ) {Q : VK}
    (hQ : ∀ r vs v F1 H1 F' H' args', Φ r → St X.K g F' H' σ env → Ex F F' → St X.K g F1 H1 σ env → PrOk X.K vs H1 F' H' args' v r → Q v H') : semE X (.Call (.Name x p) (e :: es) [] pos) σ H Q := by
  obtain ⟨f, fd, hm, hk, hb, F0⟩ := hf.ex
  refine semE_of (pe_callS F0 (hr.mono hj) hg hm hk hb (fun σ => passAt tk σ) (paS (e :: es)) hdb he hpl) ?_
  refine h W tk σ F H st hx _ fun as vs F1 H1 ⟨hok, hS⟩ s1 e1 ra => ?_
  obtain ⟨h1, h2, h3⟩ := callOk_ok hok
  refine ⟨by rw [arall_len ra, h1], F1, as.map (slOf env), _, _, hS, s1.toSk.callee ra h2 h3, fun r v args' F' H' ⟨ea, hp⟩ sk hst _ pr => ?_, fun c args' F' H' ⟨ea, hp⟩ sk hst _ => ?_⟩
  · exact hQ r vs v F1 H1 F' H' args' hp (st_same s1 ra sk hst ea) (e1.trans hst.1) s1 pr
  · have := hx c F' H' hp (st_same s1 ra sk hst ea)
    cases c
    exact this
theorem we_call {j k : Nat} {x : Str} {ps : List Str} {S : CT} {Φ : PyData → Bool → Prop} (hf : Has X.prog X.w X.K X.mg X.base j x ps S) (hr : Room k X.A)
    (h : WAs X g (e :: es) env (fun as => callOk as ps.length env.length = true ∧ S (as.map (slOf env)) (fun r args' => args' = as.map (slOf env) ∧ ∃ d, PRd r d ∧ Φ d true) (fun c args' => args' = as.map (slOf env) ∧ Ψ c)) Ψ)
    (hj : j ≤ k := by omega) (hg : Gl X x := by rfl) (hdb : (x == ("__debug__" : Str)) = false := by decide)
    (he : starEach (e :: es) X.env = (false, eval e X.env) :: starEach es X.env := by rfl) (hpl : (backTo pos (starEach es X.env)).any (·.1) = false := by rfl) : WE X g (.Call (.Name x p) (e :: es) [] pos) env Φ Ψ := fun W tk σ F H st hx Q hQ => by
  refine call_run (Φ := fun r => ∃ d, PRd r d ∧ Φ d true) hf hr h hj hg hdb he hpl tk st hx fun r vs v F1 H1 F' H' args' ⟨d, hd, hp⟩ s' e' s1 pr => ?_
  cases r with
  | rd d0 => subst hd; exact hQ _ true v F' H' hp s' e' pr
  | nl ds =>
    subst hd
    obtain ⟨q, xs, rfl, h1, h2, h3, h4, h5⟩ := pr
    have e2 := Ex.new (o := .lst xs) h3
    exact hQ (.list ds) true (.ref q) (upd F' q (.lst xs)) H' hp (s'.freeze h1 h3 (fun z => s1.there z h4) (s1.h0 h4)) (e'.trans e2) (.lst (SqL.of upd_same) (dpa_mono e2 _ _ h2))
  | ar i => exact hd.elim
  | nt _ => exact hd.elim
  | nk _ => exact hd.elim
  | sl _ => exact hd.elim
theorem wn_call {j k : Nat} {x : Str} {ps : List Str} {S : CT} {Φ : List PyData → Prop} (hf : Has X.prog X.w X.K X.mg X.base j x ps S) (hr : Room k X.A)
    (h : WAs X g (e :: es) env (fun as => callOk as ps.length env.length = true ∧ S (as.map (slOf env)) (fun r args' => args' = as.map (slOf env) ∧ ∃ ds, r = .nl ds ∧ Φ ds) (fun c args' => args' = as.map (slOf env) ∧ Ψ c)) Ψ)
    (hj : j ≤ k := by omega) (hg : Gl X x := by rfl) (hdb : (x == ("__debug__" : Str)) = false := by decide)
    (he : starEach (e :: es) X.env = (false, eval e X.env) :: starEach es X.env := by rfl) (hpl : (backTo pos (starEach es X.env)).any (·.1) = false := by rfl) : WN X g (.Call (.Name x p) (e :: es) [] pos) env Φ Ψ := fun W tk σ F H st hx Q hQ => by
  refine call_run (Φ := fun r => ∃ ds, r = .nl ds ∧ Φ ds) hf hr h hj hg hdb he hpl tk st hx fun r vs v F1 H1 F' H' args' ⟨ds, hd, hp⟩ s' e' s1 pr => ?_
  subst hd
  obtain ⟨q, xs, rfl, h1, h2, h3, h4, h5⟩ := pr
  exact hQ ds (.ref q) F' H' hp s' e' ⟨q, xs, rfl, h1, h2, h3, fun z => s1.there z h4, s1.h0 h4⟩
theorem we_b1 {Φ : PyData → Bool → Prop} {R : PyData → Bool → Prop} {x : Str} {id : String} {r : List V → Hp → VK → Prop} (hc : CallR X (.builtin id) r) (hm : X.mg x = none) (hv : bootBuiltins x = some (.builtin id))
    (hr : ∀ d1 z1, R d1 z1 → DUn X.K g env (fun v => r [v]) d1 z1 Φ) (h : WE X g a env R Ψ) (hg : Gl X x := by rfl) (hn : x ≠ "__name__" := by decide) (hdb : (x == ("__debug__" : Str)) = false := by decide)
    (he : starEach [a] X.env = (false, eval a X.env) :: starEach [] X.env := by rfl) (hpl : (backTo pos (starEach ([] : List Expr) X.env)).any (·.1) = false := by rfl) : WE X g (.Call (.Name x p) [a] [] pos) env Φ Ψ := fun W tk σ F H st hx Q hQ => by
  refine semE_of (pe_callB hc hg hm hv (pa_cons (peS a) pa_nil he) hn hdb he hpl) ?_
  refine h W tk σ F H st hx _ fun d1 z1 v1 F1 H1 h1 st1 e1 r1 => ?_
  exact hr _ _ h1 σ F1 H1 v1 st1 r1 Q fun d z v F' H' hp s3 e3 r3 => hQ d z v F' H' hp s3 (e1.trans e3) r3
theorem we_t1 {Φ : PyData → Bool → Prop} {R : PyData → Bool → Prop} {x : Str} {id : String} {r : List V → Hp → VK → Prop} (hc : CallR X (.type id) r) (hm : X.mg x = none) (hv : bootBuiltins x = some (.type id))
    (hr : ∀ d1 z1, R d1 z1 → DUn X.K g env (fun v => r [v]) d1 z1 Φ) (h : WE X g a env R Ψ) (hg : Gl X x := by rfl) (hn : x ≠ "__name__" := by decide) (hdb : (x == ("__debug__" : Str)) = false := by decide)
    (he : starEach [a] X.env = (false, eval a X.env) :: starEach [] X.env := by rfl) (hpl : (backTo pos (starEach ([] : List Expr) X.env)).any (·.1) = false := by rfl) : WE X g (.Call (.Name x p) [a] [] pos) env Φ Ψ := fun W tk σ F H st hx Q hQ => by
  refine semE_of (pe_callTy hc hg hm hv (pa_cons (peS a) pa_nil he) hn hdb he hpl) ?_
  refine h W tk σ F H st hx _ fun d1 z1 v1 F1 H1 h1 st1 e1 r1 => ?_
  exact hr _ _ h1 σ F1 H1 v1 st1 r1 Q fun d z v F' H' hp s3 e3 r3 => hQ d z v F' H' hp s3 (e1.trans e3) r3
section
variable {Φ : PyData → Bool → Prop}
inductive LenP (Φ : PyData → Bool → Prop) : PyData → Bool → Prop
  | lst {xs : List PyData} {z : Bool} : Φ (.int xs.length) true → LenP Φ (.list xs) z
  | tup {xs : List PyData} {z : Bool} : Φ (.int xs.length) true → LenP Φ (.tuple xs) z
  | str {s : Str} {z : Bool} : Φ (.int s.length) true → s.length ≤ sizeLine → LenP Φ (.str s) z
theorem we_len (hm : X.mg "len" = none) (h : WE X g a env (LenP Φ) Ψ) (hg : Gl X "len" := by rfl) (he : starEach [a] X.env = (false, eval a X.env) :: starEach [] X.env := by rfl) : WE X g (.Call (.Name "len" p) [a] [] pos) env Φ Ψ :=
  we_b1 call_len hm PySem.boot_len (fun d1 z1 q σ F H v1 st r1 Q hQ => by
    cases q with
    | @lst xs z q =>
      obtain ⟨a1, vs1, rfl, s1, p1⟩ := rd_lst st.toSk r1
      exact ⟨_, xs.length, rfl, .inl ⟨_, s1, (dpa_len p1).symm⟩, hQ _ true _ F H q st (Ex.refl F) (.int _)⟩
    | @tup xs z q =>
      obtain ⟨a1, vs1, rfl, s1, p1⟩ := rd_tup st.toSk r1
      exact ⟨_, xs.length, rfl, .inr ⟨_, s1, (dpa_len p1).symm⟩, hQ _ true _ F H q st (Ex.refl F) (.int _)⟩
    | @str s z q hl => exact ⟨_, s.length, rfl, by rw [rd_str r1]; exact ⟨hl, rfl⟩, hQ _ true _ F H q st (Ex.refl F) (.int _)⟩) h hg (he := he)
theorem we_abs (hm : X.mg "abs" = none) (h : WE X g a env (fun d _ => ∃ i, d = .int i ∧ Φ (.int (if i < 0 then -i else i)) true) Ψ) (hg : Gl X "abs" := by rfl) (he : starEach [a] X.env = (false, eval a X.env) :: starEach [] X.env := by rfl) : WE X g (.Call (.Name "abs" p) [a] [] pos) env Φ Ψ :=
  we_b1 call_abs hm (by decide +kernel) (fun d1 z1 ⟨i, e, q⟩ σ F H v1 st r1 Q hQ => by
    subst e
    exact ⟨i, by rw [rd_int r1], hQ _ true _ F H q st (Ex.refl F) (.int _)⟩) h hg (he := he)
theorem we_sum (hm : X.mg "sum" = none) (hc : X.calm = true) (h : WE X g a env (fun d _ => ∃ ns : List Int, d = .list (ns.map .int) ∧ Φ (.int ns.sum) true) Ψ) (hg : Gl X "sum" := by rfl) (he : starEach [a] X.env = (false, eval a X.env) :: starEach [] X.env := by rfl) : WE X g (.Call (.Name "sum" p) [a] [] pos) env Φ Ψ :=
  we_b1 (cr_sum hc) hm (by decide +kernel) (fun d1 z1 ⟨ns, e, q⟩ σ F H v1 st r1 Q hQ => by
    subst e
    obtain ⟨a1, vs1, rfl, s1, p1⟩ := rd_lst st.toSk r1
    rw [dpa_ints_eq p1] at s1
    exact ⟨a1, ns, rfl, s1, hQ _ true _ F H q st (Ex.refl F) (.int _)⟩) h hg (he := he)
theorem dpa_bools_eq : ∀ {ns : List Bool} {vs : List V}, DqAll K H vs (ns.map PyData.bool) → vs = ns.map V.bl
  | [], _, h => by
    have h' : DqAll K H _ [] := h
    cases h'; rfl
  | n :: ns, _, h => by
    have h' : DqAll K H _ (.bool n :: ns.map PyData.bool) := h
    cases h' with
    | cons h1 h2 => rw [dp_bl h1, dpa_bools_eq h2]; rfl
theorem we_all (hm : X.mg "all" = none) (hc : X.calm = true) (h : WE X g a env (fun d _ => ∃ ns : List Bool, d = .list (ns.map .bool) ∧ Φ (.bool (ns.all id)) true) Ψ) (hg : Gl X "all" := by rfl) (he : starEach [a] X.env = (false, eval a X.env) :: starEach [] X.env := by rfl) : WE X g (.Call (.Name "all" p) [a] [] pos) env Φ Ψ :=
  we_b1 (cr_all hc) hm (by decide +kernel) (fun d1 z1 ⟨ns, e, q⟩ σ F H v1 st r1 Q hQ => by
    subst e
    obtain ⟨a1, vs1, rfl, s1, p1⟩ := rd_lst st.toSk r1
    rw [dpa_bools_eq p1] at s1
    exact ⟨a1, ns, rfl, s1, hQ _ true _ F H q st (Ex.refl F) (.bl _)⟩) h hg (he := he)
inductive IntOfP (Φ : PyData → Bool → Prop) : PyData → Bool → Prop
  | int {i : Int} {z : Bool} : Φ (.int i) true → IntOfP Φ (.int i) z
  | bool {k : Bool} {z : Bool} : Φ (.int (if k then 1 else 0)) true → IntOfP Φ (.bool k) z
theorem we_intof (hm : X.mg "int" = none) (h : WE X g a env (IntOfP Φ) Ψ) (hg : Gl X "int" := by rfl) (he : starEach [a] X.env = (false, eval a X.env) :: starEach [] X.env := by rfl) : WE X g (.Call (.Name "int" p) [a] [] pos) env Φ Ψ :=
  we_t1 call_int1 hm (by decide +kernel) (fun d1 z1 q σ F H v1 st r1 Q hQ => by
    cases q with
    | @int i z q => exact .inl ⟨i, by rw [rd_int r1], hQ _ true _ F H q st (Ex.refl F) (.int _)⟩
    | @bool k z q => exact .inr ⟨k, by rw [rd_bl r1], hQ _ true _ F H q st (Ex.refl F) (.int _)⟩) h hg (he := he)
inductive TupP (Φ : PyData → Bool → Prop) : PyData → Bool → Prop
  | lst {xs : List PyData} {z : Bool} : Φ (.tuple xs) true → TupP Φ (.list xs) z
  | tup {xs : List PyData} : Φ (.tuple xs) true → TupP Φ (.tuple xs) true
theorem we_tupof (hm : X.mg "tuple" = none) (h : WE X g a env (TupP Φ) Ψ) (hg : Gl X "tuple" := by rfl) (he : starEach [a] X.env = (false, eval a X.env) :: starEach [] X.env := by rfl) : WE X g (.Call (.Name "tuple" p) [a] [] pos) env Φ Ψ :=
  we_t1 call_tuple_of hm (by decide +kernel) (fun d1 z1 q σ F H v1 st r1 Q hQ => by
    cases q with
    | @lst xs z q =>
      obtain ⟨a1, vs1, rfl, s1, p1⟩ := rd_lst st.toSk r1
      exact ⟨a1, vs1, rfl, .inl ⟨s1, fun l hl => put_tup st hl p1 q hQ⟩⟩
    | @tup xs q =>
      obtain ⟨a1, vs1, rfl, s1, p1⟩ := rd_tup st.toSk r1
      exact ⟨a1, vs1, rfl, .inr ⟨s1, hQ _ true _ F H q st (Ex.refl F) r1⟩⟩) h hg (he := he)
end
def DNew (K : Frag) (g : G) (env : List Sl) (r : V → Hp → VK → Prop) (d1 : PyData) (z1 : Bool) (Φ : List PyData → Prop) : Prop :=
  ∀ (σ : SS) (F H : Hp) (v1 : V), St K g F H σ env → Rd K F env z1 v1 d1 →
    ∀ Q : VK, (∀ ds v F' H', Φ ds → St K g F' H' σ env → Ex F F' → NewL K g F' H' env v ds → Q v H') → r v1 H Q
theorem wn_b1 {Φ : List PyData → Prop} {R : PyData → Bool → Prop} {x : Str} {id : String} {r : List V → Hp → VK → Prop} (hc : CallR X (.builtin id) r) (hm : X.mg x = none) (hv : bootBuiltins x = some (.builtin id))
    (hr : ∀ d1 z1, R d1 z1 → DNew X.K g env (fun v => r [v]) d1 z1 Φ) (h : WE X g a env R Ψ) (hg : Gl X x := by rfl) (hn : x ≠ "__name__" := by decide) (hdb : (x == ("__debug__" : Str)) = false := by decide)
    (he : starEach [a] X.env = (false, eval a X.env) :: starEach [] X.env := by rfl) (hpl : (backTo pos (starEach ([] : List Expr) X.env)).any (·.1) = false := by rfl) : WN X g (.Call (.Name x p) [a] [] pos) env Φ Ψ := fun W tk σ F H st hx Q hQ => by
  refine semE_of (pe_callB hc hg hm hv (pa_cons (peS a) pa_nil he) hn hdb he hpl) ?_
  refine h W tk σ F H st hx _ fun d1 z1 v1 F1 H1 h1 st1 e1 r1 => ?_
  exact hr _ _ h1 σ F1 H1 v1 st1 r1 Q fun ds v F' H' hp s3 e3 r3 => hQ ds v F' H' hp s3 (e1.trans e3) r3
/-- sorted(xs), any data that can be put in order -/
def rSortD (K : Frag) : List V → Hp → VK → Prop := fun vs H Q => ∃ (a : Addr) (xs : List V) (ds : List PyData) (F : Hp), vs = [V.ref a] ∧ SqL K H a xs ∧ DqAll K F xs ds ∧ Ex F H ∧ PySem.W.AllAlike ds ∧ PySem.W.Sortable ds ∧ (∀ d ∈ ds, SeqAt.shaped d = true) ∧
  ∀ (ys : List V) (p : Addr), DqAll K F ys (ds.mergeSort (PySem.W.dataLe false id)) → H p = none → Q (.ref p) (upd H p (.lst ys))
theorem each_of {X : Cx} {pins : List (Addr × Obj)} {s : Shared} {F : Hp} (I : Inv X pins σ H s) (e : Ex F H) : ∀ {ds : List PyData} {xs : List V} {its : List Value}, (∀ d ∈ ds, SeqAt.shaped d = true) → Vals xs its → DqAll X.K F xs ds →
    PySem.W.EachIs (fun u d => ∃ x : V, RelV x u ∧ Dq X.K F x d) its ds ∧ PySem.W.EachIs (fun u d => ∃ as, Reads s.heap u (id d) as) its ds
  | [], _, _, _, r, h => by
    cases h
    cases r
    exact ⟨.nil, .nil⟩
  | d :: ds, _, _, c, r, h => by
    cases h with
    | cons h1 h2 =>
      cases r with
      | cons r1 r2 =>
        obtain ⟨q1, q2⟩ := each_of I e (fun b hb => c b (List.mem_cons_of_mem _ hb)) r2 h2
        exact ⟨.cons ⟨_, r1, h1⟩ q1, .cons (Dp.reads I d _ _ (dq_dp _ _ (shp_lay (c d (List.mem_cons_self ..))) (dp_mono e _ _ h1)) r1) q2⟩
theorem each_back {F : Hp} : ∀ {ds : List PyData} {out : List Value}, PySem.W.EachIs (fun u d => ∃ x : V, RelV x u ∧ Dq K F x d) out ds → ∃ ys, Vals ys out ∧ DqAll K F ys ds
  | _, _, .nil => ⟨[], .nil, .nil⟩
  | _, _, .cons ⟨x, h1, h2⟩ t => by
    obtain ⟨ys, q1, q2⟩ := each_back t
    exact ⟨x :: ys, .cons h1 q1, .cons h2 q2⟩
theorem cr_sortD {k : Nat} (hr : Room k X.A) : CallR X (.builtin "sorted") (rSortD X.K) := by
  intro pins s σ H vs us Q I r h
  obtain ⟨a, xs, ds, F, rfl, hs, hd, eF, hal, hk, hdp, q⟩ := h
  obtain ⟨its, rv, hl, hz⟩ := I.list hs
  rw [Vals.ref1 r]
  obtain ⟨q1, q2⟩ := each_of I eF hdp rv hd
  have hids : ds.map id = ds := List.map_id ds
  have hu := hr.un
  refine PySem.W.sorted_data (enc := id) hl.isList q1 q2 (by rw [hids]; exact hal) (by rw [hids]; exact hk) (by rw [← dpa_len hd]; exact hz) (fun b hb => by have : b.depth ≤ 64 := of_decide_eq_true (Bool.and_eq_true_iff.mp (hdp b hb)).2; show X.A.units + 2 + b.depth < cLine; omega) fun out h1 h2 => ?_
  obtain ⟨ys, k1, k2⟩ := each_back h2
  obtain ⟨ep, he'⟩ := PyProof.Rows.sortedAll_at s.heap its out.toArray
  have hlen : ys.length ≤ sizeLine := by rw [k1.length, h1, ← dpa_len hd]; exact hz
  exact ⟨.ref _, upd H (s.heap.objs.size + 1) (.lst ys), I.laid (t' := s.toks) (fun _ _ => PyProof.Rows.sortedAll_old) (Nat.le_succ _) ⟨hlen, out, ep, k1, he'⟩, rfl, q _ _ k2 (I.hok.fresh (Nat.le_succ _))⟩
/-- the list in order -/
def srt (ds : List PyData) : List PyData := ds.mergeSort (PySem.W.dataLe false id)
theorem wn_sorted {k : Nat} {Φ : List PyData → Prop} (hm : X.mg "sorted" = none) (hr : Room k X.A) (h : WE X g a env (fun d _ => ∃ ds, d = .list ds ∧ PySem.W.AllAlike ds ∧ PySem.W.Sortable ds ∧ (∀ d ∈ ds, SeqAt.shaped d = true) ∧ Φ (srt ds)) Ψ) (hg : Gl X "sorted" := by rfl) (he : starEach [a] X.env = (false, eval a X.env) :: starEach [] X.env := by rfl) : WN X g (.Call (.Name "sorted" p) [a] [] pos) env Φ Ψ :=
  wn_b1 (cr_sortD hr) hm (by decide +kernel) (fun d1 z1 ⟨ds, e, h1, h2, h3, q⟩ σ F H v1 st r1 Q hQ => by
    subst e
    obtain ⟨a1, vs1, rfl, s1, p1⟩ := rd_lst st.toSk r1
    exact ⟨a1, vs1, ds, F, rfl, s1, p1, st.ex, h1, h2, h3, fun ys p hy hn => put_new st hn hy q hQ⟩) h hg (he := he)
theorem we_b2 {Φ : PyData → Bool → Prop} {R : PyData → Bool → PyData → Bool → Prop} {x : Str} {id : String} {r : List V → Hp → VK → Prop} (hc : CallR X (.builtin id) r) (hm : X.mg x = none) (hv : bootBuiltins x = some (.builtin id))
    (hr : ∀ d1 z1 d2 z2, R d1 z1 d2 z2 → DOp X.K g env (fun v w => r [v, w]) d1 z1 d2 z2 Φ) (h : WE X g a env (fun d1 z1 => WE X g b env (fun d2 z2 => R d1 z1 d2 z2) Ψ) Ψ) (hg : Gl X x := by rfl) (hn : x ≠ "__name__" := by decide) (hdb : (x == ("__debug__" : Str)) = false := by decide)
    (he : starEach [a, b] X.env = (false, eval a X.env) :: starEach [b] X.env := by rfl) (he2 : starEach [b] X.env = (false, eval b X.env) :: starEach [] X.env := by rfl) (hpl : (backTo pos (starEach [b] X.env)).any (·.1) = false := by rfl) : WE X g (.Call (.Name x p) [a, b] [] pos) env Φ Ψ := fun W tk σ F H st hx Q hQ => by
  refine semE_of (pe_callB hc hg hm hv (pa_cons (peS a) (pa_cons (peS b) pa_nil he2) he) hn hdb he hpl) ?_
  refine h W tk σ F H st hx _ fun d1 z1 v1 F1 H1 h1 st1 e1 r1 => ?_
  refine h1 W tk σ F1 H1 st1 hx _ fun d2 z2 v2 F2 H2 h2 st2 e2 r2 => ?_
  exact hr _ _ _ _ h2 σ F2 H2 v1 v2 st2 (rd_mono e2 r1) r2 Q fun d z v F' H' hp s3 e3 r3 => hQ d z v F' H' hp s3 ((e1.trans e2).trans e3) r3
theorem we_min2 {Φ : PyData → Bool → Prop} (hm : X.mg "min" = none) (hc : X.calm = true) (h : WE X g a env (fun d1 z1 => WE X g b env (fun d2 z2 => ∃ i j, d1 = .int i ∧ d2 = .int j ∧ Φ (.int (if j < i then j else i)) true) Ψ) Ψ) (hg : Gl X "min" := by rfl) (he : starEach [a, b] X.env = (false, eval a X.env) :: starEach [b] X.env := by rfl) (he2 : starEach [b] X.env = (false, eval b X.env) :: starEach [] X.env := by rfl) (hpl : (backTo pos (starEach [b] X.env)).any (·.1) = false := by rfl) : WE X g (.Call (.Name "min" p) [a, b] [] pos) env Φ Ψ :=
  we_b2 (call_min2 hc) hm (by decide +kernel) (fun d1 z1 d2 z2 ⟨i, j, e1, e2, q⟩ => by
    subst e1 e2
    exact dop_of q fun σ F H v1 v2 Q st r1 r2 k => ⟨i, j, by rw [rd_int r1, rd_int r2], k _ (.int _)⟩) h hg (he := he) (he2 := he2) (hpl := hpl)
theorem we_max2 {Φ : PyData → Bool → Prop} (hm : X.mg "max" = none) (hc : X.calm = true) (h : WE X g a env (fun d1 z1 => WE X g b env (fun d2 z2 => ∃ i j, d1 = .int i ∧ d2 = .int j ∧ Φ (.int (if j > i then j else i)) true) Ψ) Ψ) (hg : Gl X "max" := by rfl) (he : starEach [a, b] X.env = (false, eval a X.env) :: starEach [b] X.env := by rfl) (he2 : starEach [b] X.env = (false, eval b X.env) :: starEach [] X.env := by rfl) (hpl : (backTo pos (starEach [b] X.env)).any (·.1) = false := by rfl) : WE X g (.Call (.Name "max" p) [a, b] [] pos) env Φ Ψ :=
  we_b2 (call_max2 hc) hm (by decide +kernel) (fun d1 z1 d2 z2 ⟨i, j, e1, e2, q⟩ => by
    subst e1 e2
    exact dop_of q fun σ F H v1 v2 Q st r1 r2 k => ⟨i, j, by rw [rd_int r1, rd_int r2], k _ (.int _)⟩) h hg (he := he) (he2 := he2) (hpl := hpl)
def WP (X : Cx) (g : G) (e : Option Expr) (env : List Sl) (Φ : Option Int → Prop) (Ψ : Exc → Prop) : Prop := match e with
  | none => Φ none
  | some e => WE X g e env (fun d _ => ∃ i, d = .int i ∧ Φ (some i)) Ψ
def semO (X : Cx) : Option Expr → TO
  | none => tNoPart
  | some e => tPart (semE X e)
theorem poS : ∀ e : Option Expr, PO X e (semO X e)
  | none => po_none
  | some e => po_some (peS e)
theorem wp_run {o : Option Expr} {Φ : Option Int → Prop} (h : WP X g o env Φ Ψ) {W : WX} (tk : Takes X W) (st : St X.K g F H σ env) (hx : HX X g env Ψ W σ) {Q : Option Int → Hp → Prop}
    (hQ : ∀ i F' H', Φ i → St X.K g F' H' σ env → Ex F F' → Q i H') : semO X o σ H Q := by
  cases o with
  | none => exact hQ none F H h st (Ex.refl F)
  | some e =>
    refine h W tk σ F H st hx _ fun d z v F' H' ⟨i, hd, hp⟩ s' e' r' => ?_
    subst hd
    exact ⟨i, rd_int r', hQ (some i) F' H' hp s' e'⟩
/-- the items of xs[lo:hi] -/
def cut {α : Type} (xs : List α) (lo hi : Option Int) : List α := (xs.drop (HT.sIx xs.length 0 lo)).take (HT.sIx xs.length xs.length hi - HT.sIx xs.length 0 lo)
theorem dpa_cut {ds : List PyData} {vs : List V} (h : DqAll K H vs ds) (lo hi : Option Int) : DqAll K H (cutV vs lo hi) (cut ds lo hi) := by
  unfold cutV cut
  rw [dpa_len h]
  exact dpa_take _ (dpa_drop _ h)
theorem wn_sliceL {lo hi : Option Expr} {p2 : Pos} {Φ : List PyData → Prop} (h : WE X g a env (fun d1 _ => ∃ xs, d1 = .list xs ∧ WP X g lo env (fun l => WP X g hi env (fun u => Φ (cut xs l u)) Ψ) Ψ) Ψ) : WN X g (.Subscript a (.Slice lo hi none p2) pos) env Φ Ψ := fun W tk σ F H st hx Q hQ => by
  refine semE_of (pe_slice sl_list (peS a) (poS lo) (poS hi)) ?_
  refine h W tk σ F H st hx _ fun d1 z1 v1 F1 H1 ⟨xs, hd, h1⟩ st1 e1 r1 => ?_
  subst hd
  refine wp_run h1 tk st1 hx fun l F2 H2 h2 st2 e2 => wp_run h2 tk st2 hx fun u F3 H3 h3 st3 e3 => ?_
  obtain ⟨a1, vs1, rfl, s1, p1⟩ := rd_lst st3.toSk (rd_mono (e2.trans e3) r1)
  exact ⟨a1, vs1, rfl, s1, fun p hp => put_new st3 hp (dpa_cut p1 l u) h3 fun ds v F' H' hp s e r => hQ ds v F' H' hp s (((e1.trans e2).trans e3).trans e) r⟩
end
end TL
namespace TL
open PySem PySem.Spec PyProof.Rows L2
def fps (env : List Sl) : List Addr := env.flatMap Sl.fp
theorem own_fps {env : List Sl} {a : Addr} : Own env a ↔ a ∈ fps env := by
  unfold fps
  rw [List.mem_flatMap]
  constructor
  · rintro ⟨i, s, h1, h2⟩
    exact ⟨s, List.mem_of_getElem? h1, h2⟩
  · rintro ⟨s, h1, h2⟩
    obtain ⟨i, hi⟩ := List.getElem?_of_mem h1
    exact ⟨i, s, hi, h2⟩
section
variable {X : Cx} {g : G} {env env' : List Sl} {Ψ : Exc → Prop} {pos p : Pos} {a b c e : Expr} {es : List Expr} {K : Frag} {F F' H H' : Hp} {σ σ' : SS}
theorem Sk.base (st : Sk K F H σ env) : St K ⟨F, H, fps env⟩ F H σ env :=
  { st with g1 := fun _ _ h _ _ => h, gt := ⟨fun a ps h => (by show H a ≠ none; rw [show H a = _ from h]; intro z; cases z), fun p hp z => (by obtain ⟨ps, h1, _⟩ := st.tk.tb p hp; have z : H p.1 = none := z; rw [h1] at z; cases z)⟩, g2 := fun a h => .inr (own_fps.mp h), g3 := Ex.refl F, g4 := fun a h => .inl h, g5 := fun a h => st.there (own_fps.mpr h), g6 := fun a h => st.there (own_fps.mpr h) }
theorem St.rebase (st : St K g F H σ env) (st' : St K ⟨F, H, fps env⟩ F' H' σ' env') (sub : ∀ a, Own env' a → Own env a) : St K g F' H' σ' env' :=
  { st'.toSk with
    g1 := fun a o h m n => st'.g1 a o (st.g1 a o h m n) (fun z => by
      rcases st.g2 a (own_fps.mpr z) with q | q
      · rw [q] at h; cases h
      · exact m q) n
    gt := st.gt.grow fun a z => by
      cases q : H a with
      | none => rfl
      | some u =>
        by_cases hm : a ∈ fps env
        · exact absurd z (st'.g5 a hm)
        · by_cases ht : ∃ ps, u = .tbl ps
          · obtain ⟨ps, rfl⟩ := ht; exact absurd z (st'.gt.g7 a ps q)
          · rw [st'.g1 a u q hm fun ps y => ht ⟨ps, y⟩] at z; cases z
    g2 := fun a h => st.g2 a (sub a h)
    g3 := st.g3.trans st'.g3
    g4 := fun a h => by
      rcases st'.g4 a h with q | q
      · exact st.g4 a q
      · exact .inr (st.h0 q)
    g5 := fun a m z => by
      by_cases h : a ∈ fps env
      · exact st'.g5 a h z
      · cases q : H a with
        | none => exact st.g5 a m q
        | some u =>
          by_cases ht : ∃ ps, u = .tbl ps
          · obtain ⟨ps, rfl⟩ := ht; exact st'.gt.g7 a ps q z
          · rw [st'.g1 a u q h fun ps y => ht ⟨ps, y⟩] at z; cases z
    g6 := st.g6 }
def putsE (env : List Sl) : List (Nat × PyData) → List Sl
  | [] => env
  | (i, d) :: r => putsE (env.set i (.d d)) r
def putsV (σ : SS) : List (Nat × V) → SS
  | [] => σ
  | (i, v) :: r => putsV (σ.set i (some v)) r
def SetsP (K : Frag) (F : Hp) : List (Nat × V) → List (Nat × PyData) → Prop
  | [], [] => True
  | (i, v) :: r, (j, d) :: l => i = j ∧ Dq K F v d ∧ SetsP K F r l
  | _, _ => False
theorem setsP_app : ∀ {r r' : List (Nat × V)} {l l' : List (Nat × PyData)}, SetsP K F r l → SetsP K F r' l' → SetsP K F (r ++ r') (l ++ l')
  | [], _, [], _, _, h => h
  | _ :: _, _, _ :: _, _, ⟨h1, h2, h3⟩, h => ⟨h1, h2, setsP_app h3 h⟩
  | [], _, _ :: _, _, h, _ => h.elim
  | _ :: _, _, [], _, h, _ => h.elim
theorem putsV_app (σ : SS) : ∀ (r r' : List (Nat × V)), putsV σ (r ++ r') = putsV (putsV σ r) r'
  | [], _ => rfl
  | (i, v) :: r, r' => putsV_app (σ.set i (some v)) r r'
theorem putsE_len : ∀ (l : List (Nat × PyData)) (env : List Sl), (putsE env l).length = env.length
  | [], _ => rfl
  | (i, d) :: r, env => by rw [putsE, putsE_len r, List.length_set]
theorem St.sets : ∀ {r : List (Nat × V)} {l : List (Nat × PyData)} {σ : SS} {env : List Sl}, St K g F H σ env → SetsP K F r l → (∀ q ∈ l, q.1 < env.length) → St K g F H (putsV σ r) (putsE env l)
  | [], [], _, _, st, _, _ => st
  | (i, v) :: r, (j, d) :: l, σ, env, st, ⟨h1, h2, h3⟩, hl => by
    have h1' : i = j := h1
    subst h1'
    have s2 : St K g F H (σ.set i (some v)) (env.set i (.d d)) := st.setD (hl (i, d) (List.mem_cons_self ..)) h2
    exact St.sets (r := r) (l := l) s2 h3 fun q hq => by rw [List.length_set]; exact hl q (List.mem_cons_of_mem _ hq)
  | [], _ :: _, _, _, _, h, _ => h.elim
  | _ :: _, [], _, _, _, h, _ => h.elim
theorem setsP_idx {vs : List Nat} : ∀ {r : List (Nat × V)} {l : List (Nat × PyData)}, SetsP K F r l → (∀ q ∈ l, q.1 ∈ vs) → ∀ q ∈ r, q.1 ∈ vs
  | [], _, _, _, q, hq => by cases hq
  | a :: r, b :: l, ⟨h1, _, h3⟩, hl, q, hq => by
    rcases List.mem_cons.mp hq with z | z
    · rw [z, show a.1 = b.1 from h1]; exact hl b (List.mem_cons_self ..)
    · exact setsP_idx h3 (fun q hq => hl q (List.mem_cons_of_mem _ hq)) q z
  | _ :: _, [], h, _, _, _ => h.elim
theorem putsV_len : ∀ (r : List (Nat × V)) (σ : SS), (putsV σ r).length = σ.length
  | [], _ => rfl
  | (i, v) :: r, σ => by rw [putsV, putsV_len r, List.length_set]
theorem putsV_get {i : Nat} : ∀ {r : List (Nat × V)} {σ : SS}, (∀ q ∈ r, q.1 ≠ i) → (putsV σ r)[i]? = σ[i]?
  | [], _, _ => rfl
  | (j, v) :: r, σ, h => by
    rw [putsV, putsV_get fun q hq => h q (List.mem_cons_of_mem _ hq), List.getElem?_set, if_neg (h (j, v) (List.mem_cons_self ..))]
theorem putsE_get {i : Nat} : ∀ {r : List (Nat × PyData)} {env : List Sl}, (∀ q ∈ r, q.1 ≠ i) → (putsE env r)[i]? = env[i]?
  | [], _, _ => rfl
  | (j, v) :: r, env, h => by
    rw [putsE, putsE_get fun q hq => h q (List.mem_cons_of_mem _ hq), List.getElem?_set, if_neg (h (j, v) (List.mem_cons_self ..))]
/-- a new object that no slot holds is changed -/
theorem St.untracked {D : Addr} {o' : HO} (st : St K g F H σ env) (hF : F D = none) (hn : ¬ Own env D) (h0 : g.H0 D = none) (ht : ∀ vs, o' ≠ .tup vs := by intro _ z; cases z) : St K g F (upd H D o') σ env where
  len := st.len
  sl := fun i s e => slok_mono (Ex.refl F) (fun a ha u q => by
    have hne : a ≠ D := fun z => hn ⟨i, s, e, z ▸ ha⟩
    rw [upd_ne hne]; exact q) (st.sl i s e)
  nd := st.nd
  fr := st.fr
  ex := st.ex.mut hF
  tf := fun a vs q => by
    by_cases e : a = D
    · subst e; rw [upd_same] at q; exact absurd (Option.some.inj q) (ht vs)
    · rw [upd_ne e] at q; exact st.tf a vs q
  tk := st.tk.put fun p hp z => st.gt.g8 p hp (by rw [z]; exact h0)
  gt := st.gt.grow fun a z => by
    by_cases e : a = D
    · subst e; rw [upd_same] at z; cases z
    · rw [upd_ne e] at z; exact z
  g1 := fun a o h m n => by
    have hne : a ≠ D := fun z => by rw [z, h0] at h; cases h
    rw [upd_ne hne]; exact st.g1 a o h m n
  g2 := st.g2
  g3 := st.g3
  g4 := st.g4
  g5 := fun a m z => by
    by_cases hb : a = D
    · subst hb; rw [upd_same] at z; cases z
    · rw [upd_ne hb] at z; exact st.g5 a m z
  g6 := st.g6
/-- what a target does with data -/
def TGd (K : Frag) (t : TG) (A : PyData → Option (List (Nat × PyData))) : Prop :=
  ∀ (x : PyData) (l : List (Nat × PyData)) (σ : SS) (F H : Hp) (v : V) (Q : SS → Hp → Prop), A x = some l → Ex F H → Dq K F v x → (∀ r, SetsP K F r l → Q (putsV σ r) H) → t v σ H Q
theorem tgd_name (j : Nat) : TGd K (gName j) (fun x => some [(j, x)]) := fun x l σ F H v Q e eF hd h => by
  have e' := Option.some.inj e
  subst e'
  exact h [(j, v)] ⟨rfl, hd, trivial⟩
def tgs : List (PyData → Option (List (Nat × PyData))) → List PyData → Option (List (Nat × PyData))
  | [], [] => some []
  | A :: As, x :: xs => match A x, tgs As xs with
    | some l, some r => some (l ++ r)
    | _, _ => none
  | _, _ => none
def TGds (K : Frag) (t : TGs) (As : List (PyData → Option (List (Nat × PyData)))) : Prop :=
  ∀ (xs : List PyData) (l : List (Nat × PyData)) (σ : SS) (F H : Hp) (vs : List V) (Q : SS → Hp → Prop), tgs As xs = some l → Ex F H → DqAll K F vs xs → (∀ r, SetsP K F r l → Q (putsV σ r) H) → t vs σ H Q
theorem tgds_nil : TGds K gNil [] := fun xs l σ F H vs Q e eF hd h => by
  cases xs with
  | nil =>
    cases hd
    have e' := Option.some.inj e
    subst e'
    exact ⟨rfl, h [] trivial⟩
  | cons x r => cases e
theorem tgds_cons {t : TG} {u : TGs} {A : PyData → Option (List (Nat × PyData))} {As : List (PyData → Option (List (Nat × PyData)))} (h1 : TGd K t A) (h2 : TGds K u As) : TGds K (gCons t u) (A :: As) := fun xs l σ F H vs Q e eF hd h => by
  cases xs with
  | nil => cases e
  | cons x r =>
    cases hd with
    | @cons v vs d ds hd1 hd2 =>
      have e0 : (match A x, tgs As r with | some l, some r => some (l ++ r) | _, _ => none) = some l := e
      cases q1 : A x with
      | none => rw [q1] at e0; cases e0
      | some l1 =>
        cases q2 : tgs As r with
        | none => rw [q1, q2] at e0; cases e0
        | some l2 =>
          rw [q1, q2] at e0
          have e' := Option.some.inj e0
          subst e'
          refine ⟨v, vs, rfl, h1 x l1 σ F H v _ q1 eF hd1 fun r1 s1 => h2 r l2 _ F H vs Q q2 eF hd2 fun r2 s2 => ?_⟩
          rw [← putsV_app]
          exact h (r1 ++ r2) (setsP_app s1 s2)
def tgTup (As : List (PyData → Option (List (Nat × PyData)))) : PyData → Option (List (Nat × PyData))
  | .tuple xs => tgs As xs
  | _ => none
theorem tgs_len : ∀ {As : List (PyData → Option (List (Nat × PyData)))} {xs : List PyData} {l : List (Nat × PyData)}, tgs As xs = some l → xs.length = As.length
  | [], [], _, _ => rfl
  | A :: As, x :: xs, l, e => by
    have e0 : (match A x, tgs As xs with | some l, some r => some (l ++ r) | _, _ => none) = some l := e
    cases q2 : tgs As xs with
    | none => rw [q2] at e0; cases q1 : A x <;> rw [q1] at e0 <;> cases e0
    | some l2 => exact congrArg Nat.succ (tgs_len q2)
  | [], _ :: _, _, e => by cases e
  | _ :: _, [], _, e => by cases e
theorem tgd_tup {u : TGs} {n : Nat} {As : List (PyData → Option (List (Nat × PyData)))} (h : TGds K u As) (hn : As.length = n) : TGd K (gTup K n u) (tgTup As) := fun x l σ F H v Q e eF hd hQ => by
  cases x with
  | tuple xs =>
    obtain ⟨a, vs, rfl, h1, h2⟩ := dp_tup hd
    exact ⟨a, vs, rfl, ex_t eF h1, by rw [dpa_len h2, tgs_len e, hn], h xs l σ F H vs Q e eF h2 hQ⟩
  | _ => cases e
def wipeE (env : List Sl) : List Nat → List Sl
  | [] => env
  | v :: vs => (wipeE env vs).set v .un
def wipeOk (env : List Sl) (vs : List Nat) : Bool := vs.all fun i => match env[i]? with
  | some s => s.fp.isEmpty
  | none => true
theorem wipeE_len (env : List Sl) : ∀ vs : List Nat, (wipeE env vs).length = env.length
  | [] => rfl
  | v :: vs => by rw [wipeE, List.length_set, wipeE_len env vs]
theorem wipe_get (σ : SS) (i : Nat) : ∀ vs : List Nat, (wipe σ vs)[i]? = if i ∈ vs then (σ[i]?.map fun _ => none) else σ[i]?
  | [] => by rw [if_neg (by simp)]; rfl
  | v :: vs => by
    show ((wipe σ vs).set v none)[i]? = _
    rw [List.getElem?_set]
    by_cases h : v = i
    · subst h
      rw [if_pos rfl, if_pos (List.mem_cons_self ..), wipe_length]
      by_cases hl : v < σ.length
      · rw [if_pos hl, List.getElem?_eq_getElem hl]; rfl
      · rw [if_neg hl, List.getElem?_eq_none (by omega)]; rfl
    · rw [if_neg h, wipe_get σ i vs]
      by_cases hm : i ∈ vs
      · rw [if_pos hm, if_pos (List.mem_cons_of_mem _ hm)]
      · rw [if_neg hm, if_neg fun z => by
          rcases List.mem_cons.mp z with z | z
          · exact h z.symm
          · exact hm z]
theorem wipeE_get (env : List Sl) (i : Nat) : ∀ vs : List Nat, (wipeE env vs)[i]? = if i ∈ vs then (env[i]?.map fun _ => .un) else env[i]?
  | [] => by rw [if_neg (by simp)]; rfl
  | v :: vs => by
    show ((wipeE env vs).set v .un)[i]? = _
    rw [List.getElem?_set]
    by_cases h : v = i
    · subst h
      rw [if_pos rfl, if_pos (List.mem_cons_self ..), wipeE_len]
      by_cases hl : v < env.length
      · rw [if_pos hl, List.getElem?_eq_getElem hl]; rfl
      · rw [if_neg hl, List.getElem?_eq_none (by omega)]; rfl
    · rw [if_neg h, wipeE_get env i vs]
      by_cases hm : i ∈ vs
      · rw [if_pos hm, if_pos (List.mem_cons_of_mem _ hm)]
      · rw [if_neg hm, if_neg fun z => by
          rcases List.mem_cons.mp z with z | z
          · exact h z.symm
          · exact hm z]
theorem wipe_set {σ : SS} {i : Nat} {x : Option V} {vs : List Nat} (hi : i ∈ vs) : wipe (σ.set i x) vs = wipe σ vs := by
  apply List.ext_getElem?
  intro j
  rw [wipe_get, wipe_get]
  by_cases h : j ∈ vs
  · rw [if_pos h, if_pos h, List.getElem?_set]
    by_cases e : i = j
    · subst e
      rw [if_pos rfl]
      by_cases hl : i < σ.length
      · rw [if_pos hl, List.getElem?_eq_getElem hl]; rfl
      · rw [if_neg hl, List.getElem?_eq_none (by omega)]
    · rw [if_neg e]
  · rw [if_neg h, if_neg h, List.getElem?_set, if_neg (fun z : i = j => h (by rw [← z]; exact hi))]
theorem wipe_wipe (σ : SS) (vs : List Nat) : wipe (wipe σ vs) vs = wipe σ vs := by
  apply List.ext_getElem?
  intro j
  rw [wipe_get, wipe_get]
  by_cases h : j ∈ vs
  · rw [if_pos h, if_pos h, Option.map_map]; rfl
  · rw [if_neg h, if_neg h]
theorem wipe_putsV {vs : List Nat} : ∀ {r : List (Nat × V)} {σ : SS}, (∀ q ∈ r, q.1 ∈ vs) → wipe (putsV σ r) vs = wipe σ vs
  | [], _, _ => rfl
  | (i, v) :: r, σ, h => by
    rw [putsV, wipe_putsV fun q hq => h q (List.mem_cons_of_mem _ hq)]
    exact wipe_set (h _ (List.mem_cons_self ..))
theorem own_wipe {vs : List Nat} {a : Addr} (h : Own (wipeE env vs) a) : Own env a := by
  obtain ⟨i, s, h1, h2⟩ := h
  rw [wipeE_get] at h1
  by_cases hm : i ∈ vs
  · rw [if_pos hm] at h1
    obtain ⟨t, _, e⟩ := Option.map_eq_some_iff.mp h1
    subst e
    cases h2
  · rw [if_neg hm] at h1
    exact ⟨i, s, h1, h2⟩
theorem own_wipe' {vs : List Nat} (ok : wipeOk env vs = true) {a : Addr} (h : Own env a) : Own (wipeE env vs) a := by
  obtain ⟨i, s, h1, h2⟩ := h
  refine ⟨i, s, ?_, h2⟩
  rw [wipeE_get]
  by_cases hm : i ∈ vs
  · have q := List.all_eq_true.mp ok i hm
    rw [h1] at q
    have q' : s.fp.isEmpty = true := q
    cases hs : s.fp with
    | nil => rw [hs] at h2; cases h2
    | cons x r => rw [hs] at q'; cases q'
  · rw [if_neg hm]; exact h1
/-- into a block -/
theorem St.wiped (st : St K g F H σ env) (vs : List Nat) : St K g F H (wipe σ vs) (wipeE env vs) where
  len := by rw [wipe_length, wipeE_len]; exact st.len
  sl := fun i s e => by
    rw [wipeE_get] at e
    by_cases hm : i ∈ vs
    · rw [if_pos hm] at e
      obtain ⟨t, _, e⟩ := Option.map_eq_some_iff.mp e
      subst e
      trivial
    · rw [if_neg hm] at e
      rw [wipe_get, if_neg hm]
      exact st.sl i s e
  nd := fun i j s t a ei ej h1 h2 => by
    rw [wipeE_get] at ei ej
    by_cases hi : i ∈ vs
    · rw [if_pos hi] at ei
      obtain ⟨_, _, e⟩ := Option.map_eq_some_iff.mp ei
      subst e
      cases h1
    · by_cases hj : j ∈ vs
      · rw [if_pos hj] at ej
        obtain ⟨_, _, e⟩ := Option.map_eq_some_iff.mp ej
        subst e
        cases h2
      · rw [if_neg hi] at ei
        rw [if_neg hj] at ej
        exact st.nd i j s t a ei ej h1 h2
  fr := fun a h => st.fr a (own_wipe h)
  ex := st.ex
  tf := st.tf
  tk := st.tk
  gt := st.gt
  g1 := st.g1
  g2 := fun a h => st.g2 a (own_wipe h)
  g3 := st.g3
  g4 := st.g4
  g5 := st.g5
  g6 := st.g6
/-- out of a block -/
theorem St.unwiped {vs : List Nat} (st : St K g F H σ env) (ok : wipeOk env vs = true) (st' : St K g F' H' (wipe σ vs) (wipeE env vs)) (e : Ex F F') : St K g F' H' σ env where
  len := st.len
  sl := fun i s e1 => by
    by_cases hm : i ∈ vs
    · have q := List.all_eq_true.mp ok i hm
      rw [e1] at q
      have q' : s.fp.isEmpty = true := q
      refine slok_mono e (fun a ha => ?_) (st.sl i s e1)
      cases hs : s.fp with
      | nil => rw [hs] at ha; cases ha
      | cons x r => rw [hs] at q'; cases q'
    · have q := st'.sl i s (by rw [wipeE_get, if_neg hm]; exact e1)
      rw [wipe_get, if_neg hm] at q
      exact q
  nd := st.nd
  fr := fun a h => st'.fr a (own_wipe' ok h)
  ex := st'.ex
  tf := st'.tf
  tk := st'.tk
  gt := st'.gt
  g1 := st'.g1
  g2 := fun a h => st.g2 a h
  g3 := st'.g3
  g4 := st'.g4
  g5 := st'.g5
  g6 := st'.g6
abbrev BX (X : Cx) (scope : Scope) (s : Shared) (H : Hp) (C : Addr) (cl : List (Str × Addr)) (fp : List Addr) : Cx := X.blk s H scope (compEnvC scope cl C X.env) fp
def semEB (X : Cx) (scope : Scope) (e : Expr) : TE := fun σ H Q => ∀ s H0 C cl fp, semE (BX X scope s H0 C cl fp) e σ H Q
def semTB (X : Cx) (scope : Scope) : List Expr → TT
  | [] => tYes
  | c :: _ => fun σ H Q => ∀ s H0 C cl fp, semT (BX X scope s H0 C cl fp) c σ H Q
/-- the tests of a clause: none or one -/
def WTs (X : Cx) (g : G) (ifs : List Expr) (env : List Sl) (Φ : Bool → Prop) : Prop := match ifs with
  | [] => Φ true
  | c :: _ => WT X g c env Φ (fun _ => False)
theorem takesB {scope : Scope} {s : Shared} {H0 : Hp} {C : Addr} {cl : List (Str × Addr)} {fp : List Addr} : Takes (BX X scope s H0 C cl fp) (fun _ _ _ _ => False) := fun _ _ x => by
  obtain ⟨_, _, _, _, _, _, _, _, _, _, _, _, _, _, _, _, z⟩ := x
  exact z.elim
theorem hxF {W : WX} : HX X g env (fun _ => False) W σ := fun _ _ _ h => h.elim
/-- the state within a comprehension -/
def LJ (K : Frag) (g : G) (F1 : Hp) (σ : SS) (env : List Sl) (Pv : Nat → List PyData → Prop) (D : Addr) (i : Nat) (H : Hp) : Prop :=
  ∃ F acc avs, St K g F H σ env ∧ Ex F1 F ∧ H D = some (.lst avs) ∧ DqAll K F avs acc ∧ F D = none ∧ ¬ Own env D ∧ g.H0 D = none ∧ Pv i acc ∧ acc.length ≤ i
theorem lc_turn {scope : Scope} {ifs : List Expr} {elt : Expr} {t : TG} {A : PyData → Option (List (Nat × PyData))} {F1 : Hp} {vs : List Nat} {Pv : Nat → List PyData → Prop} {D : Addr} {i : Nat} {x : PyData} {v : V} {l : List (Nat × PyData)}
    (htd : TGd X.K t A) (hA : A x = some l) (hl : ∀ q ∈ l, q.1 ∈ vs ∧ q.1 < env.length) (hsz : i < sizeLine) (hv : Dq X.K F1 v x) (hJ : LJ X.K g F1 (wipe σ vs) (wipeE env vs) Pv D i H)
    (hb : ∀ acc, Pv i acc → ∀ (g' : G) s H0 C cl fp, WTs (BX X scope s H0 C cl fp) g' ifs (putsE (wipeE env vs) l) (fun b => (b = true → ∀ s H0 C cl fp, WE (BX X scope s H0 C cl fp) g' elt (putsE (wipeE env vs) l) (fun y z => z = true ∧ Pv (i + 1) (acc ++ [y])) (fun _ => False)) ∧ (b = false → Pv (i + 1) acc))) :
    t v (wipe σ vs) H fun σ2 H2 => wipe σ2 vs = wipe σ vs ∧ semTB X scope ifs σ2 H2 fun b H3 =>
      if b = true then semEB X scope elt σ2 H3 fun y H4 => ∃ acc, H4 D = some (.lst acc) ∧ acc.length < sizeLine ∧ LJ X.K g F1 (wipe σ vs) (wipeE env vs) Pv D (i + 1) (upd H4 D (.lst (acc ++ [y]))) else LJ X.K g F1 (wipe σ vs) (wipeE env vs) Pv D (i + 1) H3 := by
  obtain ⟨F, acc, avs, st, eF, hD, hd, fD, oD, gD, hp, hlen⟩ := hJ
  refine htd x l (wipe σ vs) F H v _ hA st.ex (dp_mono eF _ _ hv) fun r sr => ?_
  have hidx : ∀ q ∈ r, q.1 ∈ vs := setsP_idx sr fun q hq => (hl q hq).1
  refine ⟨by rw [wipe_putsV hidx]; exact wipe_wipe σ vs, ?_⟩
  -- the state within the turn, over a ground of its own
  have st1 : St X.K ⟨F, H, fps (wipeE env vs)⟩ F H (putsV (wipe σ vs) r) (putsE (wipeE env vs) l) := St.sets st.toSk.base sr fun q hq => by rw [wipeE_len]; exact (hl q hq).2
  have back : ∀ {F' H'}, St X.K ⟨F, H, fps (wipeE env vs)⟩ F' H' (putsV (wipe σ vs) r) (putsE (wipeE env vs) l) → Ex F F' → St X.K ⟨F, H, fps (wipeE env vs)⟩ F' H' (wipe σ vs) (wipeE env vs) := fun {F' H'} s' e' =>
    { len := by rw [wipe_length, wipeE_len]; have := s'.len; rw [putsE_len, wipeE_len] at this; rw [← this, putsV_len, wipe_length]
      sl := fun k s e => by
        by_cases hm : k ∈ vs
        · rw [wipeE_get, if_pos hm] at e
          obtain ⟨_, _, e⟩ := Option.map_eq_some_iff.mp e
          subst e
          trivial
        · have e2 : (putsE (wipeE env vs) l)[k]? = some s := by rw [putsE_get (i := k) fun q hq (z : q.1 = k) => hm (by rw [← z]; exact (hl q hq).1)]; exact e
          have q := s'.sl k s e2
          rw [putsV_get (i := k) fun q hq (z : q.1 = k) => hm (by rw [← z]; exact hidx q hq)] at q
          exact q
      nd := st.nd
      fr := fun a h => by
        obtain ⟨k, s, h1, h2⟩ := h
        by_cases hm : k ∈ vs
        · rw [wipeE_get, if_pos hm] at h1
          obtain ⟨_, _, e⟩ := Option.map_eq_some_iff.mp h1
          subst e
          cases h2
        · exact s'.fr a ⟨k, s, by rw [putsE_get (i := k) fun q hq (z : q.1 = k) => hm (by rw [← z]; exact (hl q hq).1)]; exact h1, h2⟩
      ex := s'.ex
      tf := s'.tf
      tk := s'.tk
      gt := s'.gt
      g1 := s'.g1
      g2 := fun a h => .inr (own_fps.mp h)
      g3 := s'.g3
      g4 := s'.g4
      g5 := s'.g5
      g6 := s'.g6 }
  have keepD : ∀ {F' H'}, St X.K ⟨F, H, fps (wipeE env vs)⟩ F' H' (putsV (wipe σ vs) r) (putsE (wipeE env vs) l) → H' D = some (.lst avs) ∧ F' D = none := fun {F' H'} s' => by
    refine ⟨s'.g1 D _ hD (fun z => oD (own_fps.mpr z)) (fun _ z => by cases z), ?_⟩
    cases q : F' D with
    | none => rfl
    | some u =>
      rcases s'.g4 D (by rw [q]; intro z; cases z) with z | z
      · exact absurd fD z
      · have z' : H D = none := z
        rw [hD] at z'; cases z'
  have tests : ∀ (Q : Bool → Hp → Prop), (∀ b F' H', ((b = true → ∀ s H0 C cl fp, WE (BX X scope s H0 C cl fp) ⟨F, H, fps (wipeE env vs)⟩ elt (putsE (wipeE env vs) l) (fun y z => z = true ∧ Pv (i + 1) (acc ++ [y])) (fun _ => False)) ∧ (b = false → Pv (i + 1) acc)) →
      St X.K ⟨F, H, fps (wipeE env vs)⟩ F' H' (putsV (wipe σ vs) r) (putsE (wipeE env vs) l) → Ex F F' → Q b H') → semTB X scope ifs (putsV (wipe σ vs) r) H Q := fun Q hQ => by
    cases ifs with
    | nil =>
      exact hQ true F H ⟨fun _ s H0 C cl fp => (hb acc hp _ (X.s_0) H0 C cl fp).1 rfl s H0 C cl fp, fun z => by cases z⟩ st1 (Ex.refl F)
    | cons c cs =>
      intro s H0 C cl fp
      refine hb acc hp _ s H0 C cl fp _ takesB _ F H st1 hxF Q fun b F' H' hbb s' e' => hQ b F' H' hbb s' e'
  refine tests _ fun b F' H' ⟨h1, h2⟩ s' e' => ?_
  cases b with
  | true =>
    rw [if_pos rfl]
    intro s H0 C cl fp
    refine h1 rfl s H0 C cl fp _ takesB _ F' H' s' hxF _ fun y z w F2 H2 ⟨hz, hp2⟩ s2 e2 rd => ?_
    subst hz
    obtain ⟨hD2, fD2⟩ := keepD s2
    refine ⟨avs, hD2, by rw [dpa_len hd]; omega, F2, acc ++ [y], avs ++ [w], ?_, eF.trans (e'.trans e2), upd_same, ?_, fD2, oD, gD, hp2, by rw [List.length_append, List.length_singleton]; omega⟩
    · have s3 := st.rebase (back s2 (e'.trans e2)) fun a h => h
      exact s3.untracked fD2 oD gD
    · exact dpa_app (dpa_mono (e'.trans e2) _ _ hd) (dpa_one rd)
  | false =>
    rw [if_neg Bool.false_ne_true]
    obtain ⟨hD2, fD2⟩ := keepD s'
    exact ⟨F', acc, avs, st.rebase (back s' e') fun a h => h, eF.trans e', hD2, dpa_mono e' _ _ hd, fD2, oD, gD, h2 rfl, by omega⟩
/-- the state is one of the model's too -/
def tI (X : Cx) (t : TE) : TE := fun σ H Q => t σ H fun v H' => (∃ pins s, Inv X pins σ H' s) → Q v H'
theorem peI (e : Expr) : PE X e (tI X (semE X e)) := ⟨fun pins s σ H Q I h => thn (h.run pins s I) fun u s' ⟨v, H', I', r, q⟩ => ⟨v, H', I', r, q ⟨pins, s', I'⟩⟩⟩
theorem ptsB {scope : Scope} {ifs : List Expr} (h1 : ifs.length ≤ 1) (s : Shared) (H0 : Hp) (C : Addr) (cl : List (Str × Addr)) (fp : List Addr) : PTs (BX X scope s H0 C cl fp) ifs (semTB X scope ifs) := by
  match ifs, h1 with
  | [], _ => exact pts_nil
  | [c], _ => exact pts_one ⟨fun pins s2 σ H Q I h => (h s H0 C cl fp).run pins s2 I⟩
theorem peB {scope : Scope} {e : Expr} (s : Shared) (H0 : Hp) (C : Addr) (cl : List (Str × Addr)) (fp : List Addr) : PE (BX X scope s H0 C cl fp) e (semEB X scope e) := ⟨fun pins s2 σ H Q I h => (h s H0 C cl fp).run pins s2 I⟩
/-- one turn's wish -/
def LT (X : Cx) (env : List Sl) (scope : Scope) (ifs : List Expr) (elt : Expr) (vs : List Nat) (A : PyData → Option (List (Nat × PyData))) (Pv : Nat → List PyData → Prop) (i : Nat) (x : PyData) : Prop :=
  ∃ l, A x = some l ∧ (l.all fun q => vs.elem q.1 && Nat.blt q.1 env.length) = true ∧ ∀ acc, Pv i acc → ∀ (g' : G) s H0 C cl fp, WTs (BX X scope s H0 C cl fp) g' ifs (putsE (wipeE env vs) l) (fun b =>
    (b = true → ∀ s H0 C cl fp, WE (BX X scope s H0 C cl fp) g' elt (putsE (wipeE env vs) l) (fun y z => z = true ∧ Pv (i + 1) (acc ++ [y])) (fun _ => False)) ∧ (b = false → Pv (i + 1) acc))
theorem lt_idx {vs : List Nat} {l : List (Nat × PyData)} {n : Nat} (h : (l.all fun q => vs.elem q.1 && Nat.blt q.1 n) = true) : ∀ q ∈ l, q.1 ∈ vs ∧ q.1 < n := fun q hq => by
  have h1 := Bool.and_eq_true_iff.mp (List.all_eq_true.mp h q hq)
  exact ⟨List.elem_iff.mp h1.1, Nat.le_of_ble_eq_true h1.2⟩
def WNt (X : Cx) (g : G) (t : TE) (env : List Sl) (Φ : List PyData → Prop) (Ψ : Exc → Prop) : Prop :=
  ∀ (W : WX), Takes X W → ∀ (σ : SS) (F H : Hp), St X.K g F H σ env → HX X g env Ψ W σ →
    ∀ Q : VK, (∀ ds v F' H', Φ ds → St X.K g F' H' σ env → Ex F F' → NewL X.K g F' H' env v ds → Q v H') → t σ H Q
section
variable {tg iter elt : Expr} {ifs : List Expr} {scope : Scope} {own : List (Str × Nat)} {t : TG} {A : PyData → Option (List (Nat × PyData))} {Φ : List PyData → Prop}
/-- [elt for tg in a list] -/
theorem nt_lcL (htd : TGd X.K t A) (hwo : wipeOk env (own.map (·.2)) = true)
    (hi : WE X g iter env (fun d z => z = true ∧ ∃ (xs : List PyData) (Pv : Nat → List PyData → Prop), d = .list xs ∧ Pv 0 [] ∧ (∀ i x, xs[i]? = some x → LT X env scope ifs elt (own.map (·.2)) A Pv i x) ∧ ∀ acc, Pv xs.length acc → Φ acc) Ψ) : WNt X g (tLc (iList X.K (tI X (semE X iter))) t (semTB X scope ifs) (semEB X scope elt) (own.map (·.2))) env Φ Ψ := fun W tk σ F H st hx Q hQ => by
  refine hi W tk σ F H st hx _ fun d z v F1 H1 ⟨hz, xs, Pv, hd, p0, pt, pe⟩ s1 e1 rd inv => ?_
  subst hz hd
  obtain ⟨a, vs, rfl, hsq, hda⟩ := dp_lst rd
  obtain ⟨pins, sh, I⟩ := inv
  have hlen : vs.length ≤ sizeLine := by
    obtain ⟨_, _, _, hz⟩ := I.list (ex_l s1.ex hsq)
    exact hz
  refine ⟨a, rfl, ⟨vs, ex_l s1.ex hsq⟩, fun D hD => ?_⟩
  have st2 : St X.K g F1 (upd H1 D (.lst [])) (wipe σ (own.map (·.2))) (wipeE env (own.map (·.2))) := (s1.alloc hD).wiped _
  refine lc_list (xs := vs) (LJ X.K g F1 (wipe σ (own.map (·.2))) (wipeE env (own.map (·.2))) Pv D) ⟨F1, [], [], st2, Ex.refl F1, upd_same, .nil, s1.ex.none hD, fun z => s1.there (own_wipe z) hD, s1.h0 hD, p0, Nat.le_refl 0⟩ (fun i H2 _ ⟨F2, _, _, s3, e3, _⟩ => ex_l s3.ex (ex_l e3 hsq)) (fun i x H2 hx2 hJ => ?_) (fun H2 ⟨F2, acc, avs, s3, e3, hD3, hd3, fD, oD, gD, hp, _⟩ => ?_)
  · obtain ⟨d, hd1, hd2⟩ := dpa_of hda hx2
    obtain ⟨l, hA, hl, hb⟩ := pt i d hd1
    exact lc_turn htd hA (lt_idx hl) (by have := (List.getElem?_eq_some_iff.mp hx2).1; omega) hd2 hJ hb
  · rw [dpa_len hda] at hp
    exact hQ acc (.ref D) F2 H2 (pe acc hp) (s1.unwiped hwo s3 e3) (e1.trans e3) ⟨D, avs, rfl, hD3, hd3, fD, fun z => s1.there z hD, gD⟩
/-- .. over range(n) -/
theorem nt_lcR1 (htd : TGd X.K t A) (hwo : wipeOk env (own.map (·.2)) = true)
    (hi : WE X g a env (fun d z => ∃ (n : Int) (Pv : Nat → List PyData → Prop), d = .int n ∧ (-1000000 ≤ n ∧ n ≤ 16777216) ∧ Pv 0 [] ∧ (∀ i : Nat, (i : Int) < n → LT X env scope ifs elt (own.map (·.2)) A Pv i (.int i)) ∧ ∀ acc, Pv n.toNat acc → Φ acc) Ψ) : WNt X g (tLc (iRng1 (tCons (semE X a) tNil)) t (semTB X scope ifs) (semEB X scope elt) (own.map (·.2))) env Φ Ψ := fun W tk σ F H st hx Q hQ => by
  have hsl := sizeLine_eq
  refine hi W tk σ F H st hx _ fun d z v F1 H1 ⟨n, Pv, hd, hn, p0, pt, pe⟩ s1 e1 rd => ?_
  subst hd
  rw [rd_int rd]
  refine ⟨n, rfl, by omega, by omega, fun D hD => ?_⟩
  have st2 : St X.K g F1 (upd H1 D (.lst [])) (wipe σ (own.map (·.2))) (wipeE env (own.map (·.2))) := (s1.alloc hD).wiped _
  refine lc_range (lo := 0) (n := n.toNat) (LJ X.K g F1 (wipe σ (own.map (·.2))) (wipeE env (own.map (·.2))) Pv D) ⟨F1, [], [], st2, Ex.refl F1, upd_same, .nil, s1.ex.none hD, fun z => s1.there (own_wipe z) hD, s1.h0 hD, p0, Nat.le_refl 0⟩ (fun i H2 hi2 hJ => ?_) (fun H2 ⟨F2, acc, avs, s3, e3, hD3, hd3, fD, oD, gD, hp, _⟩ => ?_)
  · obtain ⟨l, hA, hl, hb⟩ := pt i (by omega)
    rw [Int.zero_add]
    exact lc_turn htd hA (lt_idx hl) (by omega) (.int _) hJ hb
  · exact hQ acc (.ref D) F2 H2 (pe acc hp) (s1.unwiped hwo s3 e3) (e1.trans e3) ⟨D, avs, rfl, hD3, hd3, fD, fun z => s1.there z hD, gD⟩
theorem wn_lcR1 {p1 p2 : Pos} (hm : X.mg "range" = none) (hc : X.calm = true) (hN : X.N.Nodup) (ok : BlkOk X.N X.env.scope scope own) (hpg : ∀ s H C cl fp, PG (BX X scope s H C cl fp) tg t) (htd : TGd X.K t A) (h1 : ifs.length ≤ 1) (hwo : wipeOk env (own.map (·.2)) = true)
    (hi : WE X g a env (fun d z => ∃ (n : Int) (Pv : Nat → List PyData → Prop), d = .int n ∧ (-1000000 ≤ n ∧ n ≤ 16777216) ∧ Pv 0 [] ∧ (∀ i : Nat, (i : Int) < n → LT X env scope ifs elt (own.map (·.2)) A Pv i (.int i)) ∧ ∀ acc, Pv n.toNat acc → Φ acc) Ψ)
    (hs : ∀ x, foldedSetIterable (.Call (.Name "range" p1) [a] [] p2) X.env x = pure x := by intro _; rfl) (hg : Gl X "range" := by rfl) (he : starEach [a] X.env = [(false, eval a X.env)] := by rfl) :
    WN X g (.ListComp elt [⟨tg, .Call (.Name "range" p1) [a] [] p2, ifs, 0⟩] scope pos) env Φ Ψ := fun W tk σ F H st hx Q hQ =>
  semE_of (pe_lc hc hN (pi_range1 hg hm (pa_cons (peS a) pa_nil (by rw [he]; rfl)) he) ok hpg (ptsB h1) peB hs) (nt_lcR1 htd hwo hi W tk σ F H st hx Q hQ)
end
end
end TL
namespace TL
open PySem PySem.Spec PyProof.Rows L2
/-- a new dict, no slot's; its keys tuples, atoms -/
def NewT (K : Frag) (g : G) (F H : Hp) (env : List Sl) (v : V) (kvs : List (List Key × PyData)) : Prop :=
  ∃ p xs, v = .ref p ∧ H p = some (.dT xs) ∧ KVp K F xs kvs ∧ F p = none ∧ ¬ Own env p ∧ g.H0 p = none
def NewK (K : Frag) (g : G) (F H : Hp) (env : List Sl) (v : V) (kvs : List (Key × PyData)) : Prop :=
  ∃ p xs, v = .ref p ∧ H p = some (.dK xs) ∧ KVp K F xs kvs ∧ F p = none ∧ ¬ Own env p ∧ g.H0 p = none
/-- what is wanted behind a statement -/
structure Po where
  nx : List Sl → Prop
  rt : PR → List Sl → Prop
  bk : List Sl → Prop := fun _ => False
  ct : List Sl → Prop := fun _ => False
  ex : Exc → List Sl → Prop
/-- the same, another end -/
abbrev Po.thn (P : Po) (q : List Sl → Prop) : Po := ⟨q, P.rt, P.bk, P.ct, P.ex⟩
abbrev Po.turn (P : Po) (q : List Sl → Prop) : Po := ⟨q, P.rt, P.nx, q, P.ex⟩
def RtOk (K : Frag) (g : G) (v : V) (σ' : SS) (F' H' : Hp) (env' : List Sl) : PR → Prop
  | .rd d => Dq K F' v d
  | .nl ds => NewL K g F' H' env' v ds
  | .ar i => σ'[i]? = some (some v) ∧ ∃ s, env'[i]? = some s ∧ s.fp ≠ []
  | .nt kvs => NewT K g F' H' env' v kvs
  | .nk kvs => NewK K g F' H' env' v kvs
  | .sl C => ∃ s, C s ∧ SlOk K F' H' (some v) s ∧ ∀ p ∈ s.fp, F' p = none ∧ ¬ Own env' p ∧ g.H0 p = none
structure DOk (X : Cx) (g : G) (F : Hp) (P : Po) (D : Ends) : Prop where
  nx : ∀ env' σ' F' H', P.nx env' → St X.K g F' H' σ' env' → Ex F F' → D.nx σ' H'
  rt : ∀ r v env' σ' F' H', P.rt r env' → St X.K g F' H' σ' env' → RtOk X.K g v σ' F' H' env' r → D.rt v H'
  bk : ∀ env' σ' F' H', P.bk env' → St X.K g F' H' σ' env' → Ex F F' → D.bk σ' H'
  ct : ∀ env' σ' F' H', P.ct env' → St X.K g F' H' σ' env' → Ex F F' → D.ct σ' H'
def XOk (X : Cx) (g : G) (P : Po) (W : WX) : Prop := ∀ c env' σ' F' H', P.ex c env' → St X.K g F' H' σ' env' → ExcW X.K W σ' H' c
structure SemP (X : Cx) (st : Stmt) (D : Ends) (σ : SS) (H : Hp) : Prop where
  run : ∀ (pins : List (Addr × Obj)) (s : Shared), Inv X pins σ H s → wpAny (model X.prog X.w) X.A (exec st X.env) (SP X pins D) X.xe s
def semP (X : Cx) (st : Stmt) : TS := fun D σ H => SemP X st D σ H
def WS (X : Cx) (g : G) (sts : List Stmt) (env : List Sl) (P : Po) : Prop :=
  ∀ (W : WX), Takes X W → XOk X g P W → ∀ (σ : SS) (F H : Hp), St X.K g F H σ env → ∀ D : Ends, DOk X g F P D → semS X sts D σ H
def W1 (X : Cx) (g : G) (st : Stmt) (env : List Sl) (P : Po) : Prop :=
  ∀ (W : WX), Takes X W → XOk X g P W → ∀ (σ : SS) (F H : Hp), St X.K g F H σ env → ∀ D : Ends, DOk X g F P D → semP X st D σ H
section
variable {X : Cx} {g : G} {env env' : List Sl} {P : Po} {pos p : Pos} {a b c e : Expr} {es : List Expr} {st : Stmt} {rest body orelse : List Stmt} {K : Frag} {F F' H H' : Hp} {σ σ' : SS} {D : Ends} {W : WX}
theorem psP (st : Stmt) : PS X st (semP X st) := ⟨fun pins s _ _ _ I h => h.run pins s I⟩
theorem semP_of {t : TS} (h : PS X st t) (q : t D σ H) : semP X st D σ H := ⟨fun pins s I => h.run pins s σ H D I q⟩
theorem DOk.mono (h : DOk X g F P D) (e : Ex F F') : DOk X g F' P D :=
  ⟨fun a b c d h1 h2 h3 => h.nx a b c d h1 h2 (e.trans h3), h.rt, fun a b c d h1 h2 h3 => h.bk a b c d h1 h2 (e.trans h3), fun a b c d h1 h2 h3 => h.ct a b c d h1 h2 (e.trans h3)⟩
theorem XOk.hx (h : XOk X g P W) (env : List Sl) (σ : SS) : HX X g env (fun c => P.ex c env) W σ := fun c F' H' hc s => h c env σ F' H' hc s
theorem ws_nil (h : P.nx env) : WS X g [] env P := fun W tk hx σ F H st D hD => semS_of pss_nil (hD.nx env σ F H h st (Ex.refl F))
theorem ws_cons (h : W1 X g st env (P.thn fun env' => WS X g rest env' P)) : WS X g (st :: rest) env P := fun W tk hx σ F H s0 D hD => by
  refine semS_of (pss_cons (psP st) (pssS rest)) ?_
  refine h W tk hx σ F H s0 _ ⟨fun env' σ' F' H' hw s' e' => ?_, hD.rt, hD.bk, hD.ct⟩
  exact hw W tk hx σ' F' H' s' D (hD.mono e')
theorem WS.mono {P' : Po} (h : WS X g rest env P) (h1 : ∀ e, P.nx e → P'.nx e) (h2 : ∀ r e, P.rt r e → P'.rt r e) (h3 : ∀ e, P.bk e → P'.bk e) (h4 : ∀ e, P.ct e → P'.ct e) (h5 : ∀ c e, P.ex c e → P'.ex c e) : WS X g rest env P' :=
  fun W tk hx σ F H st D hD => h W tk (fun c e σ' F' H' hc => hx c e σ' F' H' (h5 c e hc)) σ F H st D
    ⟨fun e σ' F' H' q => hD.nx e σ' F' H' (h1 e q), fun r v e σ' F' H' q => hD.rt r v e σ' F' H' (h2 r e q), fun e σ' F' H' q => hD.bk e σ' F' H' (h3 e q), fun e σ' F' H' q => hD.ct e σ' F' H' (h4 e q)⟩
theorem ltB {n m : Nat} (h : Nat.blt n m = true) : n < m := Nat.le_of_ble_eq_true h
/-- x = e -/
theorem w1_set (i : Nat) {x : Str} {pos' : Pos} (hN : X.N.Nodup) (h : WE X g e env (fun d z => z = true ∧ P.nx (env.set i (.d d))) (fun c => P.ex c env)) (hi : X.N[i]? = some x := by rfl) (hx : Loc X.env.scope x := by first | exact Or.inl rfl | exact Or.inr rfl) (hl : Nat.blt i env.length = true := by rfl)
    (hs : swapsWith e (some (.Name x pos')) pos.line X.env = pure false := by rfl) (hf : X.fn x = true ∨ X.env.scope.names.lookup x = some .local := by first | exact .inl rfl | exact .inr rfl) : W1 X g (.Assign [.Name x pos'] e pos) env P := fun W tk hx2 σ F H s0 D hD => by
  refine semP_of (ps_set hN hi hx (peS e) hs hf) ?_
  refine h W tk σ F H s0 (hx2.hx env σ) _ fun d z v F' H' ⟨hz, hp⟩ s' e' r' => ?_
  subst hz
  exact hD.nx _ _ F' H' hp (s'.setD (ltB hl) r') e'
/-- x = e, a new list that x alone holds -/
theorem w1_setN (i : Nat) {x : Str} {pos' : Pos} (hN : X.N.Nodup) (h : WN X g e env (fun ds => ∀ a, a ∉ g.M → P.nx (env.set i (.ol a ds))) (fun c => P.ex c env)) (hi : X.N[i]? = some x := by rfl) (hx : Loc X.env.scope x := by first | exact Or.inl rfl | exact Or.inr rfl) (hl : Nat.blt i env.length = true := by rfl)
    (hs : swapsWith e (some (.Name x pos')) pos.line X.env = pure false := by rfl) (hf : X.fn x = true ∨ X.env.scope.names.lookup x = some .local := by first | exact .inl rfl | exact .inr rfl) : W1 X g (.Assign [.Name x pos'] e pos) env P := fun W tk hx2 σ F H s0 D hD => by
  refine semP_of (ps_set hN hi hx (peS e) hs hf) ?_
  refine h W tk σ F H s0 (hx2.hx env σ) _ fun ds v F' H' hp s' e' ⟨q, vs, hv, h1, h2, h3, h4, h5⟩ => ?_
  subst hv
  exact hD.nx _ _ F' H' (hp q fun m => s'.g6 q m h5) (s'.setL (ltB hl) h1 h2 h3 h4 h5) e'
/-- x = [..] on one line -/
theorem w1_setLc (i : Nat) {y : Str} {py : Pos} {elt tg iter : Expr} {ifs : List Expr} {scope : Scope} {own : List (Str × Nat)} {wi : TI} {t : TG} (hc : X.calm = true) (hN : X.N.Nodup) (hi : PI X tg iter wi) (ok : BlkOk X.N X.env.scope scope own) (hpg : ∀ s H C cl fp, PG (BX X scope s H C cl fp) tg t) (h1 : ifs.length ≤ 1)
    (h : WNt X g (tLc wi t (semTB X scope ifs) (semEB X scope elt) (own.map (·.2))) env (fun ds => P.nx (env.set i (.d (.list ds)))) (fun c => P.ex c env))
    (hy : X.N[i]? = some y := by rfl) (hyl : X.env.scope.names.lookup y = some .local := by rfl) (hl : Nat.blt i env.length = true := by rfl)
    (hsw : swapsWith (.ListComp elt [⟨tg, iter, ifs, 0⟩] scope pos) (some (.Name y py)) p.line X.env = pure true := by exact sw_true rfl rfl rfl (by decide +kernel)) (hs : ∀ x, foldedSetIterable iter X.env x = pure x := by intro _; rfl) :
    W1 X g (.Assign [.Name y py] (.ListComp elt [⟨tg, iter, ifs, 0⟩] scope pos) p) env P := fun W tk hx2 σ F H s0 D hD => by
  refine semP_of (ps_setLc hc hN hy hyl hsw hi ok hpg (ptsB h1) peB hs) ?_
  refine h W tk σ F H s0 (hx2.hx env σ) _ fun ds v F' H' hp s' e' ⟨q, vs, hv, h1, h2, h3, h4, h5⟩ => ?_
  subst hv
  have e2 := Ex.new (o := .lst vs) h3
  exact hD.nx _ _ _ H' hp ((s'.freeze h1 h3 h4 h5).setD (ltB hl) (.lst (SqL.of upd_same) (dpa_mono e2 _ _ h2))) (e'.trans e2)
/-- a, b, .. = e -/
theorem w1_unpack {tg : Expr} {t : TG} {A : PyData → Option (List (Nat × PyData))} (hpg : PG X tg t) (htd : TGd X.K t A)
    (h : WE X g e env (fun d z => z = true ∧ ∃ l, A d = some l ∧ (l.all fun q => Nat.blt q.1 env.length) = true ∧ P.nx (putsE env l)) (fun c => P.ex c env))
    (hs : swapsWithSole [tg] e pos.line X.env = pure false := by rfl) (hw : swappedStores [tg] e X.env = pure none := by rfl) (h1 : (assignEach [tg] X.env).map (·.2) = [assign tg X.env] := by rfl) : W1 X g (.Assign [tg] e pos) env P := fun W tk hx2 σ F H s0 D hD => by
  refine semP_of (ps_asg (peS e) hpg hs hw h1) ?_
  refine h W tk σ F H s0 (hx2.hx env σ) _ fun d z v F' H' ⟨hz, l, hA, hl, hp⟩ s' e' r' => ?_
  subst hz
  refine htd d l σ F' H' v _ hA s'.ex r' fun r sr => ?_
  exact hD.nx _ _ F' H' hp (s'.sets sr fun q hq => ltB (List.all_eq_true.mp hl q hq)) e'
/-- e -/
theorem w1_expr (h : WE X g e env (fun _ _ => P.nx env) (fun c => P.ex c env)) (hs : swapsWith e none pos.line X.env = pure false := by rfl) : W1 X g (.Expr e pos) env P := fun W tk hx2 σ F H s0 D hD =>
  semP_of (ps_expr (peS e) hs) (h W tk σ F H s0 (hx2.hx env σ) _ fun d z v F' H' hp s' e' r' => hD.nx _ _ F' H' hp s' e')
/-- return e -/
theorem w1_ret (h : WE X g e env (fun d z => z = true ∧ P.rt (.rd d) env) (fun c => P.ex c env)) : W1 X g (.Return (some e) pos) env P := fun W tk hx2 σ F H s0 D hD =>
  semP_of (ps_ret (peS e)) (h W tk σ F H s0 (hx2.hx env σ) _ fun d z v F' H' ⟨hz, hp⟩ s' e' r' => by
    subst hz
    exact hD.rt _ v env σ F' H' hp s' r')
theorem w1_retN (h : WN X g e env (fun ds => P.rt (.nl ds) env) (fun c => P.ex c env)) : W1 X g (.Return (some e) pos) env P := fun W tk hx2 σ F H s0 D hD =>
  semP_of (ps_ret (peS e)) (h W tk σ F H s0 (hx2.hx env σ) _ fun ds v F' H' hp s' e' r' => hD.rt _ v env σ F' H' hp s' r')
/-- return x, x a list made here -/
theorem w1_retO (i : Nat) {x : Str} {q : Pos} {al : Addr} {ds : List PyData} (he : env[i]? = some (.ol al ds)) (ha : al ∉ g.M) (h : P.rt (.nl ds) (env.set i .un)) (hN : X.N[i]? = some x := by rfl)
    (hv : Vis X.env.scope x := by first | exact Or.inl rfl | exact Or.inr (Or.inl rfl) | exact Or.inr (Or.inr rfl)) (hd : (x == ("__debug__" : Str)) = false := by decide)
    (hcd : (x == ("__classdict__" : Str)) = false := by decide) : W1 X g (.Return (some (.Name x q)) pos) env P := fun W tk hx2 σ F H s0 D hD => by
  refine semP_of (ps_ret (pe_var hN hv hd hcd)) ?_
  obtain ⟨h1, vs, h2, h3⟩ := s0.sl i _ he
  have own : Own env al := ⟨i, _, he, by simp [Sl.fp]⟩
  refine ⟨_, getD_some h1, hD.rt _ _ _ σ F H h (s0.weak he (fun _ h => by cases h) fun _ => trivial) ⟨al, vs, rfl, h2, h3, s0.fr al own, fun z => ?_, ?_⟩⟩
  · obtain ⟨j, t, ej, ht⟩ := z
    rcases set_get ej with ⟨_, rfl⟩ | ⟨ne, ej⟩
    · cases ht
    · exact ne (s0.nd i j _ t al he ej (by simp [Sl.fp]) ht)
  · rcases s0.g2 al own with z | z
    · exact z
    · exact absurd z ha
theorem w1_if (h : WT X g c env (fun k => (k = true → WS X g body env P) ∧ (k = false → WS X g orelse env P)) (fun c => P.ex c env)) : W1 X g (.If c body orelse pos) env P := fun W tk hx2 σ F H s0 D hD => by
  refine semP_of (ps_if (ptS c) (pssS body) (pssS orelse)) ?_
  refine h W tk σ F H s0 (hx2.hx env σ) _ fun k F' H' ⟨h1, h2⟩ s' e' => ?_
  cases k with
  | true => rw [if_pos rfl]; exact h1 rfl W tk hx2 σ F' H' s' D (hD.mono e')
  | false => rw [if_neg Bool.false_ne_true]; exact h2 rfl W tk hx2 σ F' H' s' D (hD.mono e')
/-- what a raise of an own class leans on -/
structure ExK (K : Frag) (mg : Str → Option Value) (x : Str) : Prop where
  gC : mg x = some (.ref (He.ga K x))
  ex : PySem.W.excIn K (He.ga K x) He.veBase "ValueError.__new__" = true
  kp : PySem.W.keepIn K (.ref (He.ga K x)) = true
  sb : PySem.W.subIn K (.ref (He.ga K x)) (.type "BaseException") = some true
  ty : PySem.W.typeIn K (.ref (He.ga K x)) = some (.type "type")
/-- raise X('..') -/
theorem w1_raise {x m : Str} {j : Nat} {p p2 q : Pos} (hc : X.calm = true) (k : ExK X.K X.mg x) (h : P.ex (.own x) env) (hg : Gl X x := by rfl) (hdb : (x == ("__debug__" : Str)) = false := by decide) : W1 X g (.Raise (some (.Call (.Name x p) [.Constant (.str m) j p2] [] q)) none pos) env P := fun W tk hx2 σ F H s0 D hD =>
  semP_of (ps_raise hc tk (pmk_own PySem.F.excBase_ValueError k.ex k.gC k.kp (raises_own k.sb k.ty) hg hdb)) (hx2 (.own x) env σ F H h s0)
/-- x.append(e) -/
theorem w1_append (i : Nat) {x : Str} {q apos cpos : Pos} {al : Addr} {ds : List PyData} (he : env[i]? = some (.ol al ds)) (h : WE X g e env (fun d z => z = true ∧ ds.length < sizeLine ∧ P.nx (env.set i (.ol al (ds ++ [d])))) (fun c => P.ex c env)) (hN : X.N[i]? = some x := by rfl)
    (hv : Vis X.env.scope x := by first | exact Or.inl rfl | exact Or.inr (Or.inl rfl) | exact Or.inr (Or.inr rfl)) (hd : (x == ("__debug__" : Str)) = false := by decide)
    (hcd : (x == ("__classdict__" : Str)) = false := by decide)
    (hbase : attributeBase (.Name x q) "append" X.env (eval (.Name x q) X.env) = eval (.Name x q) X.env := by rfl)
    (hfew : ((backTo cpos (starEach [e] X.env)).all (fun x => !x.1) && (backToKw cpos (keywordEach [] X.env)).all (fun x => x.1.isSome)
      && decide ([e].length + ([] : List Keyword).length + (if ([] : List Keyword).isEmpty then 0 else 1) < 30)) = true := by rfl)
    (hline : (apos.endLine == cpos.line) = true := by rfl) (hs1 : starEach [e] X.env = (false, eval e X.env) :: starEach [] X.env := by rfl) (hplain : (backTo cpos (starEach ([] : List Expr) X.env)).any (·.1) = false := by rfl)
    (hs : swapsWith (.Call (.Attribute (.Name x q) "append" apos) [e] [] cpos) none pos.line X.env = pure false := by rfl) :
    W1 X g (.Expr (.Call (.Attribute (.Name x q) "append" apos) [e] [] cpos) pos) env P := fun W tk hx2 σ F H s0 D hD => by
  refine semP_of (ps_expr (pe_bm PySem.F.plainAttrs_list PySem.F.slot_list_append PySem.F.type_list_append mt_append (pe_var hN hv hd hcd) (pa_cons (peS e) pa_nil hs1) hbase hfew hline hs1 hplain) hs) ?_
  obtain ⟨h1, vs, h2, h3⟩ := s0.sl i _ he
  refine ⟨_, getD_some h1, .inl ⟨rfl, vs, SqL.of h2⟩, ?_⟩
  refine h W tk σ F H s0 (hx2.hx env σ) _ fun d z v F' H' ⟨hz, hl, hp⟩ s' e' r' => ?_
  subst hz
  obtain ⟨h1', vs', h2', h3'⟩ := s'.sl i _ he
  refine ⟨al, vs', v, rfl, rfl, h2', by rw [dpa_len h3']; exact hl, ?_⟩
  exact hD.nx _ _ F' _ hp (s'.write he rfl rfl ⟨h1', vs' ++ [v], upd_same, dpa_app h3' (dpa_one r')⟩) e'
/-- x[k] = e -/
theorem w1_setix (i : Nat) {x : Str} {ix : Expr} {q tpos : Pos} {al : Addr} {ds : List PyData} (he : env[i]? = some (.ol al ds)) (h : WE X g e env (fun d z => z = true ∧ WE X g ix env (fun k _ => ∃ n j, k = .int n ∧ ixN ds.length n = some j ∧ P.nx (env.set i (.ol al (ds.set j d)))) (fun c => P.ex c env)) (fun c => P.ex c env)) (hN : X.N[i]? = some x := by rfl)
    (hv : Vis X.env.scope x := by first | exact Or.inl rfl | exact Or.inr (Or.inl rfl) | exact Or.inr (Or.inr rfl)) (hd : (x == ("__debug__" : Str)) = false := by decide)
    (hcd : (x == ("__classdict__" : Str)) = false := by decide)
    (ha : ∀ v, assign (.Subscript (.Name x q) ix tpos) X.env v = (do
      let ov ← holding [v] (eval (.Name x q) X.env)
      let iv ← holding [v, ov] (eval ix X.env)
      standAt tpos
      holding [v, ov, iv] (setItem ov iv v)
      release [v, ov, iv] []) := by intro _; rfl)
    (hs : swapsWithSole [.Subscript (.Name x q) ix tpos] e pos.line X.env = pure false := by rfl) (hw : swappedStores [.Subscript (.Name x q) ix tpos] e X.env = pure none := by rfl)
    (h1 : (assignEach [.Subscript (.Name x q) ix tpos] X.env).map (·.2) = [assign (.Subscript (.Name x q) ix tpos) X.env] := by rfl) : W1 X g (.Assign [.Subscript (.Name x q) ix tpos] e pos) env P := fun W tk hx2 σ F H s0 D hD => by
  refine semP_of (ps_asg (peS e) (pg_sub (pe_var hN hv hd hcd) (peS ix) set_list ha) hs hw h1) ?_
  refine h W tk σ F H s0 (hx2.hx env σ) _ fun d z v F1 H1 ⟨hz, hp⟩ s1 e1 r1 => ?_
  subst hz
  obtain ⟨h1, vs, h2, h3⟩ := s1.sl i _ he
  refine ⟨_, getD_some h1, ?_⟩
  refine hp W tk σ F1 H1 s1 (hx2.hx env σ) _ fun k z2 w F2 H2 ⟨n, j, hk, hj, hp2⟩ s2 e2 r2 => ?_
  subst hk
  obtain ⟨h1', vs', h2', h3'⟩ := s2.sl i _ he
  refine ⟨al, vs', n, j, rfl, rd_int r2, h2', by rw [dpa_len h3']; exact hj, ?_⟩
  exact hD.nx _ _ F2 _ hp2 (s2.write he rfl rfl ⟨h1', vs'.set j v, upd_same, dpa_set j h3' (dp_mono e2 _ _ r1)⟩) (e1.trans e2)
/-- x[k] read, for an augmented store -/
def rGetL : V → V → Hp → VK → Prop := fun o i H Q => ∃ p xs k v, o = .ref p ∧ i = .int k ∧ H p = some (.lst xs) ∧ atI xs k = some v ∧ Q v H
theorem get_list : PGet X rGetL := fun pins s σ H o i ov iv Q I ro ri ⟨p, xs, k, v, ho, hi, hH, ha, q⟩ => by
  subst ho hi
  cases ro
  obtain ⟨t, rfl⟩ := ri
  obtain ⟨its, r, pl, hz⟩ := I.list (SqL.of hH)
  obtain ⟨j, h1, h2, h3, h4, h5⟩ := atI_get ha
  obtain ⟨w, ew, rw'⟩ := r.get h2
  have hl := r.length
  have hn := line63
  have fin : EP X pins σ Q w s := ⟨v, H, I, rw', q⟩
  by_cases h0 : 0 ≤ k
  · have hj : k.toNat = j := by
      rw [seqIndex_of h0 h5] at h1
      exact Option.some.inj h1
    exact wpAny_getItem_list pl.isList h0 (by omega) (by rw [hj]; simpa using ew) fin
  · have hj : (k + (its.toArray.size : Int)).toNat = j := by
      rw [seqIndex_neg (by omega) h4] at h1
      rw [List.size_toArray, ← hl]
      exact Option.some.inj h1
    exact wpAny_getItem_list_neg pl.isList (by omega) (by rw [List.size_toArray]; omega) (by omega) (by rw [hj]; simpa using ew) fin
/-- x[k] += e, ints -/
theorem w1_augix (i : Nat) {x : Str} {ix : Expr} {q tpos : Pos} {al : Addr} {ds : List PyData} (he : env[i]? = some (.ol al ds))
    (h : WE X g ix env (fun k _ => ∃ n j u, k = .int n ∧ ixN ds.length n = some j ∧ ds[j]? = some (.int u) ∧ WE X g e env (fun d _ => ∃ m, d = .int m ∧ P.nx (env.set i (.ol al (ds.set j (.int (u + m)))))) (fun c => P.ex c env)) (fun c => P.ex c env)) (hN : X.N[i]? = some x := by rfl)
    (hv : Vis X.env.scope x := by first | exact Or.inl rfl | exact Or.inr (Or.inl rfl) | exact Or.inr (Or.inr rfl)) (hd : (x == ("__debug__" : Str)) = false := by decide)
    (hcd : (x == ("__classdict__" : Str)) = false := by decide)
    (ha : ∀ ov iv new, augStore ix ov iv new = (do holding [new, ov, iv] (setItem ov iv new); release [new, ov, iv] []; pure .next) := by intros; rfl) : W1 X g (.AugAssign (.Subscript (.Name x q) ix tpos) .Add e pos) env P := fun W tk hx2 σ F H s0 D hD => by
  refine semP_of (ps_augS (pe_var hN hv hd hcd) (peS ix) get_list (peS e) ip_add set_list ha) ?_
  obtain ⟨h1, vs, h2, h3⟩ := s0.sl i _ he
  refine ⟨_, getD_some h1, ?_⟩
  refine h W tk σ F H s0 (hx2.hx env σ) _ fun k z1 w F1 H1 ⟨n, j, u, hk, hj, hu, hp⟩ s1 e1 r1 => ?_
  subst hk
  obtain ⟨h1', vs', h2', h3'⟩ := s1.sl i _ he
  obtain ⟨v0, hv0, hdv⟩ := dpa_get h3' hu
  have hat : atI vs' n = some v0 := by
    unfold atI
    rw [dpa_len h3', hj]
    exact hv0
  refine ⟨al, vs', n, v0, rfl, rd_int r1, h2', hat, ?_⟩
  refine hp W tk σ F1 H1 s1 (hx2.hx env σ) _ fun d z2 w2 F2 H2 ⟨m, hm, hp2⟩ s2 e2 r2 => ?_
  subst hm
  obtain ⟨h1'', vs'', h2'', h3''⟩ := s2.sl i _ he
  refine ⟨u, m, dp_int hdv, rd_int r2, al, vs'', n, j, rfl, rd_int r1, h2'', by rw [dpa_len h3'']; exact hj, ?_⟩
  exact hD.nx _ _ F2 _ hp2 (s2.write he rfl rfl ⟨h1'', vs''.set j (.int (u + m)), upd_same, dpa_set j h3'' (.int _)⟩) (e1.trans e2)
/-- x += e, x -= e, ints -/
theorem w1_add (i : Nat) {x : Str} {pos' : Pos} {u : Int} (hN : X.N.Nodup) (he : env[i]? = some (.d (.int u))) (h : WE X g e env (fun d _ => ∃ m, d = .int m ∧ P.nx (env.set i (.d (.int (u + m))))) (fun c => P.ex c env)) (hi : X.N[i]? = some x := by rfl) (hx : Loc X.env.scope x := by first | exact Or.inl rfl | exact Or.inr rfl)
    (hf : X.fn x = true ∨ X.env.scope.names.lookup x = some .local := by first | exact .inl rfl | exact .inr rfl) : W1 X g (.AugAssign (.Name x pos') .Add e pos) env P := fun W tk hx2 σ F H s0 D hD => by
  refine semP_of (ps_aug hN hi hx (peS e) ip_add hf) ?_
  obtain ⟨v, h1, h2⟩ := s0.sl i _ he
  refine ⟨v, getD_some h1, ?_⟩
  refine h W tk σ F H s0 (hx2.hx env σ) _ fun d z w F1 H1 ⟨m, hm, hp⟩ s1 e1 r1 => ?_
  subst hm
  exact ⟨u, m, dp_int h2, rd_int r1, hD.nx _ _ F1 H1 hp (s1.setD (List.getElem?_eq_some_iff.mp he).1 (.int _)) e1⟩
/-- the state between turns -/
def FJ (K : Frag) (g : G) (F1 : Hp) (Pv : Nat → List Sl → Prop) (i : Nat) (σ : SS) (H : Hp) : Prop := ∃ F env', St K g F H σ env' ∧ Ex F1 F ∧ Pv i env'
section
variable {tg iter : Expr} {t : TG} {A : PyData → Option (List (Nat × PyData))}
/-- one turn -/
def FT (X : Cx) (g : G) (body : List Stmt) (A : PyData → Option (List (Nat × PyData))) (P : Po) (Pv : Nat → List Sl → Prop) (i : Nat) (x : PyData) : Prop :=
  ∀ env', Pv i env' → ∃ l, A x = some l ∧ (l.all fun q => Nat.blt q.1 env'.length) = true ∧ WS X g body (putsE env' l) (P.turn (Pv (i + 1)))
theorem for_turn {F1 : Hp} {Pv : Nat → List Sl → Prop} {i : Nat} {x : PyData} {v : V} (tk : Takes X W) (hx2 : XOk X g P W) (hD : DOk X g F1 P D) (htd : TGd X.K t A) (hv : Dq X.K F1 v x) (hJ : FJ X.K g F1 Pv i σ H) (h : FT X g body A P Pv i x) :
    t v σ H fun σ2 H2 => semS X body { D with nx := FJ X.K g F1 Pv (i + 1), ct := FJ X.K g F1 Pv (i + 1), bk := D.nx } σ2 H2 := by
  obtain ⟨F, env', s1, e1, hp⟩ := hJ
  obtain ⟨l, hA, hl, hw⟩ := h env' hp
  refine htd x l σ F H v _ hA s1.ex (dp_mono e1 _ _ hv) fun r sr => ?_
  have s2 := s1.sets sr fun q hq => ltB (List.all_eq_true.mp hl q hq)
  exact hw W tk hx2 _ F H s2 _ ⟨fun e2 σ' F' H' q s' ex => ⟨F', e2, s', e1.trans ex, q⟩, hD.rt, fun e2 σ' F' H' q s' ex => hD.nx e2 σ' F' H' q s' (e1.trans ex), fun e2 σ' F' H' q s' ex => ⟨F', e2, s', e1.trans ex, q⟩⟩
theorem w1_forL (hp : PassesOwn (model X.prog X.w) X.A X.env X.xe) (hc : X.calm = true) (hpg : PG X tg t) (htd : TGd X.K t A)
    (hi : WE X g iter env (fun d z => z = true ∧ ∃ (xs : List PyData) (Pv : Nat → List Sl → Prop), d = .list xs ∧ Pv 0 env ∧ (∀ i x, xs[i]? = some x → FT X g body A P Pv i x) ∧ ∀ e, Pv xs.length e → P.nx e) (fun c => P.ex c env))
    (hs : ∀ x, foldedSetIterable iter X.env x = pure x := by intro _; rfl) : W1 X g (.For tg iter body [] pos) env P := fun W tk hx2 σ F H s0 D hD => by
  refine semP_of (ps_for hp hc (pi_list (peS iter)) hpg (pssS body) hs) ?_
  refine hi W tk σ F H s0 (hx2.hx env σ) _ fun d z v F1 H1 ⟨hz, xs, Pv, hd, p0, pt, pe⟩ s1 e1 rd => ?_
  subst hz hd
  obtain ⟨a, vs, rfl, hsq, hda⟩ := dp_lst rd
  refine ⟨a, rfl, ⟨vs, ex_l s1.ex hsq⟩, ?_⟩
  refine for_list (xs := vs) (FJ X.K g F1 Pv) ⟨F1, env, s1, Ex.refl F1, p0⟩ (fun i σ' H' _ ⟨F2, e2, s2, ex2, _⟩ => ex_l s2.ex (ex_l ex2 hsq)) (fun i x σ' H' hx hJ => ?_) (fun σ' H' ⟨F2, e2, s2, ex2, hp2⟩ => ?_)
  · obtain ⟨d, hd1, hd2⟩ := dpa_of hda hx
    exact for_turn tk hx2 (hD.mono e1) htd hd2 hJ (pt i d hd1)
  · rw [dpa_len hda] at hp2
    exact hD.nx e2 σ' F2 H' (pe e2 hp2) s2 (e1.trans ex2)
end
/-- while: a word with a number that falls -/
theorem w1_while (hp : PassesOwn (model X.prog X.w) X.A X.env X.xe) (Pv : Nat → List Sl → Prop) (m0 : Nat) (h0 : Pv m0 env)
    (h : ∀ m env', Pv m env' → WT X g c env' (fun k => (k = true → WS X g body env' (P.turn fun e => ∃ m', m' < m ∧ Pv m' e)) ∧ (k = false → P.nx env')) (fun c => P.ex c env')) : W1 X g (.While c body [] pos) env P := fun W tk hx2 σ F H s0 D hD => by
  refine semP_of (ps_while hp (ptS c) (pssS body)) ?_
  refine ⟨fun m σ' H' => FJ X.K g F (fun _ e => Pv m e) 0 σ' H', ⟨m0, F, env, s0, Ex.refl F, h0⟩, fun m σ' H' ⟨F1, e1, s1, ex1, hp1⟩ => ?_⟩
  refine h m e1 hp1 W tk σ' F1 H' s1 (hx2.hx e1 σ') _ fun k F2 H2 ⟨ht, hf⟩ s2 ex2 => ?_
  cases k with
  | true =>
    rw [if_pos rfl]
    refine ⟨fun σ3 H3 => ∃ m', m' < m ∧ FJ X.K g F (fun _ e => Pv m' e) 0 σ3 H3, fun σ3 H3 ⟨m', hm, q⟩ => ⟨m', hm, q⟩, ?_⟩
    exact ht rfl W tk hx2 σ' F2 H2 s2 _ ⟨fun e3 σ3 F3 H3 ⟨m', hm, q⟩ s3 ex3 => ⟨m', hm, F3, e3, s3, (ex1.trans ex2).trans ex3, q⟩, hD.rt, fun e3 σ3 F3 H3 q s3 ex3 => hD.nx e3 σ3 F3 H3 q s3 ((ex1.trans ex2).trans ex3), fun e3 σ3 F3 H3 ⟨m', hm, q⟩ s3 ex3 => ⟨m', hm, F3, e3, s3, (ex1.trans ex2).trans ex3, q⟩⟩
  | false =>
    rw [if_neg Bool.false_ne_true]
    exact hD.nx e1 σ' F2 H2 (hf rfl) s2 (ex1.trans ex2)
end
end TL
namespace TL
open PySem PySem.Spec PyProof.Rows L2
def BackS : Sl → Sl → Sl → Prop
  | .un, _, s' => s' = .un
  | .d x, _, s' => s' = .d x
  | .v x, _, s' => s' = .v x
  | .ol a _, .ol b ds', s' => b = a ∧ s' = .ol a ds'
  | .bg a, .bg b, s' => b = a ∧ s' = .bg a
  | .bg a, .ol b ds, s' => b = a ∧ BagD ds ∧ s' = .bg a
  | .dt a _, .dt b kvs, s' => b = a ∧ s' = .dt a kvs
  | .dk a _, .dk b kvs, s' => b = a ∧ s' = .dk a kvs
  | .ow t, .ow u, s' => u.id = t.id ∧ s' = .ow u
  | _, _, _ => False
def Back : List Sl → List Sl → List Sl → Prop
  | [], _, r => r = []
  | s :: r, e :: env, s' :: r' => BackS s e s' ∧ Back r env r'
  | _, _, _ => False
theorem backS_sub {s e s' : Sl} (h : BackS s e s') : ∀ a ∈ s'.fp, a ∈ e.fp := by
  cases s with
  | un => rw [show s' = _ from h]; intro a z; cases z
  | d x => rw [show s' = _ from h]; intro a z; cases z
  | v x => rw [show s' = _ from h]; intro a z; cases z
  | ol a ds => cases e <;> first | exact h.elim | (obtain ⟨rfl, rfl⟩ := h; exact fun _ z => z)
  | bg a => cases e <;> first | exact h.elim | (obtain ⟨rfl, rfl⟩ := h; exact fun _ z => z) | (obtain ⟨rfl, _, rfl⟩ := h; exact fun _ z => z)
  | dt a ds => cases e <;> first | exact h.elim | (obtain ⟨rfl, rfl⟩ := h; exact fun _ z => z)
  | dk a ds => cases e <;> first | exact h.elim | (obtain ⟨rfl, rfl⟩ := h; exact fun _ z => z)
  | oo a ds => cases e <;> exact h.elim
  | fv l => cases e <;> exact h.elim
  | fl l => cases e <;> exact h.elim
  | ow t => cases e <;> first | exact h.elim | (obtain ⟨_, rfl⟩ := h; exact fun _ z => z)
theorem backS_val {K : Frag} {F F' H H' : Hp} {o o' : Option V} {s e s' : Sl} (h : BackS s e s') (hne : e.fp ≠ []) (hs : s'.fp ≠ []) (h0 : SlOk K F H o s) (h1 : SlOk K F' H' o' e) : o = o' := by
  cases s with
  | un => rw [show s' = _ from h] at hs; exact absurd rfl hs
  | d x => rw [show s' = _ from h] at hs; exact absurd rfl hs
  | v x => rw [show s' = _ from h] at hs; exact absurd rfl hs
  | ol a ds => cases e <;> first | exact h.elim | exact h0.1.trans (by rw [h1.1, h.1])
  | bg a => cases e <;> first | exact h.elim | exact h0.1.trans (by rw [h1.1, h.1])
  | dt a ds => cases e <;> first | exact h.elim | exact h0.1.trans (by rw [h1.1, h.1])
  | dk a ds => cases e <;> first | exact h.elim | exact h0.1.trans (by rw [h1.1, h.1])
  | oo a ds => cases e <;> exact h.elim
  | fv l => cases e <;> exact h.elim
  | fl l => cases e <;> exact h.elim
  | ow t => cases e <;> first
      | exact h.elim
      | (obtain ⟨v, q1, q2⟩ := h0; obtain ⟨w, q3, q4⟩ := h1; rw [q1, q3, t.isr q2, OwT.isr _ q4, h.1])
theorem back_len : ∀ {args env args' : List Sl}, Back args env args' → args'.length = args.length
  | [], _, _, h => by rw [show _ = [] from h]
  | s :: r, e :: env, s' :: r', h => congrArg Nat.succ (back_len h.2)
  | _ :: _, [], _, h => h.elim
  | _ :: _, _ :: _, [], h => h.elim
theorem back_get : ∀ {args env args' : List Sl} {i : Nat} {s' : Sl}, Back args env args' → args'[i]? = some s' → ∃ s e, args[i]? = some s ∧ env[i]? = some e ∧ BackS s e s'
  | [], _, _, i, s', h, e => by rw [show _ = [] from h] at e; simp at e
  | s :: r, e :: env, t :: r', 0, s', h, q => by
    have e' := Option.some.inj q
    subst e'
    exact ⟨s, e, rfl, rfl, h.1⟩
  | s :: r, e :: env, t :: r', i + 1, s', h, q => back_get (i := i) h.2 q
  | _ :: _, [], _, _, _, h, _ => h.elim
  | _ :: _, _ :: _, [], _, _, h, _ => h.elim
theorem slok_back {K : Frag} {F F' H H' : Hp} {o o' : Option V} {s e s' : Sl} (h : BackS s e s') (e0 : Ex F F') (h0 : SlOk K F H o s) (h1 : SlOk K F' H' o' e) : SlOk K F' H' o s' := by
  cases s with
  | un => rw [show s' = .un from h]; trivial
  | d x => rw [show s' = .d x from h]; obtain ⟨v, q1, q2⟩ := h0; exact ⟨v, q1, dp_mono e0 _ _ q2⟩
  | v x => rw [show s' = .v x from h]; exact h0
  | ol a ds =>
    cases e <;> first
      | exact h.elim
      | (obtain ⟨rfl, rfl⟩ := h; exact ⟨h0.1, h1.2⟩)
  | bg a =>
    cases e <;> first
      | exact h.elim
      | (obtain ⟨rfl, rfl⟩ := h; exact ⟨h0.1, h1.2⟩)
      | (obtain ⟨rfl, hb, rfl⟩ := h; obtain ⟨_, vs, q1, q2⟩ := h1; exact ⟨h0.1, _, vs, hb, q1, q2⟩)
  | dt a ds =>
    cases e <;> first
      | exact h.elim
      | (obtain ⟨rfl, rfl⟩ := h; exact ⟨h0.1, h1.2⟩)
  | dk a ds =>
    cases e <;> first
      | exact h.elim
      | (obtain ⟨rfl, rfl⟩ := h; exact ⟨h0.1, h1.2⟩)
  | oo a ds => cases e <;> exact h.elim
  | fv l => cases e <;> exact h.elim
  | fl l => cases e <;> exact h.elim
  | ow t =>
    cases e <;> first
      | exact h.elim
      | (obtain ⟨hi, rfl⟩ := h
         obtain ⟨v, q1, q2⟩ := h0
         obtain ⟨w, q3, q4⟩ := h1
         have e1 := t.isr q2
         have e2 := OwT.isr _ q4
         rw [hi, ← e1] at e2
         subst e2
         exact ⟨w, q1, q4⟩)
def prIx (args args' : List Sl) : PR → Prop
  | .ar i => i < args.length ∧ ∀ s', args'[i]? = some s' → s'.fp ≠ []
  | _ => True
/-- what a body is to reach -/
def endOf (args : List Sl) (Φ : PR → List Sl → Prop) (Ψ : Exc → List Sl → Prop) : Po where
  nx := fun env' => ∃ args', Φ (.rd .none) args' ∧ Back args env' args'
  rt := fun r env' => ∃ args', Φ r args' ∧ prIx args args' r ∧ Back args env' args'
  ex := fun c env' => ∃ args', Ψ c args' ∧ Back args env' args'
theorem pad_get {args : List Sl} {n i : Nat} {s : Sl} (h : (args ++ List.replicate n .un)[i]? = some s) : args[i]? = some s ∨ s = .un := by
  by_cases hi : i < args.length
  · rw [List.getElem?_append_left hi] at h; exact .inl h
  · rw [List.getElem?_append_right (by omega)] at h
    rw [List.getElem?_replicate] at h
    split at h
    · exact .inr (Option.some.inj h).symm
    · cases h
theorem Sk.pad {K : Frag} {F H : Hp} {vs : List V} {args : List Sl} {N : List Str} (sk : Sk K F H (vs.map some) args) (hl : vs.length ≤ N.length) : Sk K F H (L2.start N vs) (args ++ List.replicate (N.length - vs.length) .un) := by
  have hlen : args.length = vs.length := by have := sk.len; rw [List.length_map] at this; exact this.symm
  have ow : ∀ a, Own (args ++ List.replicate (N.length - vs.length) .un) a → Own args a := fun a ⟨i, s, h1, h2⟩ => by
    rcases pad_get h1 with q | q
    · exact ⟨i, s, q, h2⟩
    · subst q; cases h2
  refine ⟨by unfold L2.start; simp only [List.length_append, List.length_map, List.length_replicate]; omega, fun i s h => ?_, fun i j s t a h1 h2 h3 h4 => ?_, fun a h => sk.fr a (ow a h), sk.ex, sk.tf, sk.tk⟩
  · rcases pad_get h with q | q
    · have hi : i < (vs.map some).length := by rw [List.length_map, ← hlen]; exact (List.getElem?_eq_some_iff.mp q).1
      have e : (L2.start N vs)[i]? = (vs.map some)[i]? := by unfold L2.start; rw [List.getElem?_append_left hi]
      rw [e]; exact sk.sl i s q
    · subst q; trivial
  · rcases pad_get h1 with q | q
    · rcases pad_get h2 with q2 | q2
      · exact sk.nd i j s t a q q2 h3 h4
      · subst q2; cases h4
    · subst q; cases h3
section
variable {P : Program} {w : World} {K : Frag} {mg : Str → Option Value} {base : Heap} {f : Addr} {fd : FuncData} {N ps : List Str} {k : Nat} {S : CT}
theorem fn_okL {m x : Str} {st : Stmt} {dvs : List V} {kws : List (Str × V)} (F : FunD K m x (defArgs st) (defBody st) (defScope st) dvs kws f fd) (sc : FnScope N ps (defScope st)) (hln : Nat.ble ps.length N.length = true)
    (body : ∀ (cdv : Value) (A : Around) (outer : List Env) (s : Shared) (H : Hp) (E : XK) (g : G) (args : List Sl) (Φ : PR → List Sl → Prop) (Ψ : Exc → List Sl → Prop),
      Room k (cxOf (L2.CX P w) P w K mg base N x (defScope st) f cdv A outer s H E).A →
      PassesOwn (model P w) (cxOf (L2.CX P w) P w K mg base N x (defScope st) f cdv A outer s H E).A (cxOf (L2.CX P w) P w K mg base N x (defScope st) f cdv A outer s H E).env (cxOf (L2.CX P w) P w K mg base N x (defScope st) f cdv A outer s H E).xe →
      g.M = fps args → args.length = ps.length → S args Φ Ψ →
      fd.code = cdv → WS (cxOf (L2.CX P w) P w K mg base N x (defScope st) f cdv A outer s H E) g (defBody st) (args ++ List.replicate (N.length - ps.length) .un) (endOf args Φ Ψ)) : FnOk P w K mg base (L2.CX P w) (k + 1) f fd ps (spOf K ps.length S) := by
  obtain ⟨oc, od, dV, kV, doc, pm, an, cdv, ct, osl, rfl, lk, hcd, _, _⟩ := F.ex
  refine fn_of lk hcd sc (fun vs H Q E h => h.1) fun A outer s H vs Q E hr h => ?_
  obtain ⟨hvl, F0, args, Φ, Ψ, hS, sk, hret, hexc⟩ := h
  have hal : args.length = ps.length := by have := sk.len; rw [List.length_map] at this; omega
  have hln' : ps.length ≤ N.length := Nat.le_of_ble_eq_true hln
  refine ⟨semS _ _, pssS _, ?_⟩
  have skp := sk.pad (N := N) (by omega)
  rw [hvl] at skp
  have fpe : ∀ a, a ∈ fps args ↔ Own args a := fun a => own_fps.symm
  have st0 : St K ⟨F0, H, fps args⟩ F0 H (L2.start N vs) (args ++ List.replicate (N.length - ps.length) .un) :=
    { skp with
      gt := ⟨fun a ps h => (by show H a ≠ none; rw [show H a = _ from h]; intro z; cases z), fun p hp z => (by obtain ⟨ps, h1, _⟩ := sk.tk.tb p hp; have z : H p.1 = none := z; rw [h1] at z; cases z)⟩
      g1 := fun _ _ h _ _ => h, g3 := Ex.refl F0, g4 := fun a h => .inl h
      g2 := fun a ⟨i, s, h1, h2⟩ => by
        rcases pad_get h1 with q | q
        · exact .inr ((fpe a).mpr ⟨i, s, q, h2⟩)
        · subst q; cases h2
      g5 := fun a h => sk.there ((fpe a).mp h)
      g6 := fun a h => sk.there ((fpe a).mp h) }
  -- what holds at every end
  have fin : ∀ {F' H' : Hp} {σ' : SS} {env' args' : List Sl}, St K ⟨F0, H, fps args⟩ F' H' σ' env' → Back args env' args' →
      Sk K F' H' (vs.map some) args' ∧ Step F0 H args F' H' ∧ (∀ a, Own args' a → Own args a ∨ H a = none) ∧ ∀ a, Own args' a → Own env' a := fun {F' H' σ' env' args'} s' hbk => by
    have sub : ∀ a, Own args' a → (Own args a ∨ H a = none) ∧ Own env' a := fun a ⟨i, t, h1, h2⟩ => by
      obtain ⟨s, e, q1, q2, q3⟩ := back_get hbk h1
      have oe : Own env' a := ⟨i, e, q2, backS_sub q3 a h2⟩
      refine ⟨?_, oe⟩
      rcases s'.g2 a oe with z | z
      · exact .inr z
      · exact .inl ((fpe a).mp z)
    refine ⟨⟨by rw [List.length_map, back_len hbk]; omega, fun i t h => ?_, fun i j s t a h1 h2 h3 h4 => ?_, fun a h => s'.fr a (sub a h).2, s'.ex, s'.tf, s'.tk⟩, ⟨s'.g3, fun a o h hn n => s'.g1 a o h (fun m => hn ((fpe a).mp m)) n, fun a h => s'.g4 a h, fun a h => ?_⟩, fun a h => (sub a h).1, fun a h => (sub a h).2⟩
    · obtain ⟨s, e, q1, q2, q3⟩ := back_get hbk h
      exact slok_back q3 s'.g3 (sk.sl i s q1) (s'.sl i e q2)
    · obtain ⟨s1, e1, _, q2, q3⟩ := back_get hbk h1
      obtain ⟨s2, e2, _, q5, q6⟩ := back_get hbk h2
      exact s'.nd i j e1 e2 a q2 q5 (backS_sub q3 a h3) (backS_sub q6 a h4)
    · intro z
      by_cases m : a ∈ fps args
      · exact s'.g5 a m z
      · cases q : H a with
        | none => exact h q
        | some u =>
          by_cases ht : ∃ ps, u = .tbl ps
          · obtain ⟨ps, rfl⟩ := ht; exact s'.gt.g7 a ps q z
          · rw [s'.g1 a u q m fun ps y => ht ⟨ps, y⟩] at z; cases z
  have hb0 := body cdv A outer s H E ⟨F0, H, fps args⟩ args Φ Ψ hr (passes_of rfl) rfl hal hS rfl
  refine hb0 (fun cls d _ H => E cls d H) (takes_of rfl rfl rfl rfl) (fun c env' σ' F' H' ⟨args', hp, hbk⟩ s' => ?_) (L2.start N vs) F0 H st0 _ ⟨fun env' σ' F' H' ⟨args', hp, hbk⟩ s' e' => ?_, fun r v env' σ' F' H' ⟨args', hp, hix, hbk⟩ s' ro => ?_, fun _ _ _ _ h => h.elim, fun _ _ _ _ h => h.elim⟩
  · obtain ⟨h1, h2, h3, h4⟩ := fin s' hbk
    have := hexc c args' F' H' hp h1 h2 h3
    cases c
    exact this
  · obtain ⟨h1, h2, h3, h4⟩ := fin s' hbk
    exact hret (.rd .none) .non args' F' H' hp h1 h2 h3 .non
  · obtain ⟨h1, h2, h3, h4⟩ := fin s' hbk
    refine hret r v args' F' H' hp h1 h2 h3 ?_
    cases r with
    | rd d => exact ro
    | nl ds =>
      obtain ⟨p, xs, q1, q2, q3, q4, q5, q6⟩ := ro
      exact ⟨p, xs, q1, q2, q3, q4, q6, fun z => q5 (h4 p z)⟩
    | nt ds =>
      obtain ⟨p, xs, q1, q2, q3, q4, q5, q6⟩ := ro
      exact ⟨p, xs, q1, q2, q3, q4, q6, fun z => q5 (h4 p z)⟩
    | nk ds =>
      obtain ⟨p, xs, q1, q2, q3, q4, q5, q6⟩ := ro
      exact ⟨p, xs, q1, q2, q3, q4, q6, fun z => q5 (h4 p z)⟩
    | sl C =>
      obtain ⟨t, c1, c2, c3⟩ := ro
      exact ⟨t, c1, c2, fun p hp => by obtain ⟨y1, y2, y3⟩ := c3 p hp; exact ⟨y1, y3, fun z => y2 (h4 p z)⟩⟩
    | ar i =>
      obtain ⟨q1, e, q2, q3⟩ := ro
      obtain ⟨hi, hown⟩ : i < args.length ∧ ∀ s', args'[i]? = some s' → s'.fp ≠ [] := hix
      have hi' : i < args'.length := by rw [back_len hbk]; exact hi
      obtain ⟨s0, e0, q4, q5, q6⟩ := back_get hbk (List.getElem?_eq_getElem hi')
      rw [q2] at q5
      have q5' := Option.some.inj q5
      subst q5'
      have k2 := s'.sl i e q2
      rw [q1] at k2
      show vs[i]? = some v
      have hv : i < vs.length := by omega
      have k1 := sk.sl i s0 q4
      have ev : ((vs.map some)[i]?.getD none : Option V) = some vs[i] := vmap_get (List.getElem?_eq_getElem hv)
      rw [ev] at k1
      have z := backS_val q6 q3 (hown _ (List.getElem?_eq_getElem hi')) k1 k2
      rw [List.getElem?_eq_getElem hv]
      exact z
theorem fn_ok {m x : Str} {st : Stmt} {dvs : List V} {kws : List (Str × V)} (F : FunD K m x (defArgs st) (defBody st) (defScope st) dvs kws f fd) (sc : FnScope N ps (defScope st)) (hln : Nat.ble ps.length N.length = true)
    (body : ∀ (cdv : Value) (A : Around) (outer : List Env) (s : Shared) (H : Hp) (E : XK) (g : G) (args : List Sl) (Φ : PR → List Sl → Prop) (Ψ : Exc → List Sl → Prop),
      Room k (cxOf (L2.CX P w) P w K mg base N x (defScope st) f cdv A outer s H E).A →
      PassesOwn (model P w) (cxOf (L2.CX P w) P w K mg base N x (defScope st) f cdv A outer s H E).A (cxOf (L2.CX P w) P w K mg base N x (defScope st) f cdv A outer s H E).env (cxOf (L2.CX P w) P w K mg base N x (defScope st) f cdv A outer s H E).xe →
      g.M = fps args → args.length = ps.length → S args Φ Ψ →
      WS (cxOf (L2.CX P w) P w K mg base N x (defScope st) f cdv A outer s H E) g (defBody st) (args ++ List.replicate (N.length - ps.length) .un) (endOf args Φ Ψ)) : FnOk P w K mg base (L2.CX P w) (k + 1) f fd ps (spOf K ps.length S) :=
  fn_okL F sc hln fun cdv A outer s H E g args Φ Ψ h1 h2 h3 h4 h5 _ => body cdv A outer s H E g args Φ Ψ h1 h2 h3 h4 h5
theorem fn_has {x : Str} {st : Stmt} {dvs : List V} {kws : List (Str × V)} (F : FunD K x x (defArgs st) (defBody st) (defScope st) dvs kws f fd) (hm : mg x = some (.ref f)) (sc : FnScope N ps (defScope st)) (hb : Binds K fd ps []) (hln : Nat.ble ps.length N.length = true)
    (body : ∀ (cdv : Value) (A : Around) (outer : List Env) (s : Shared) (H : Hp) (E : XK) (g : G) (args : List Sl) (Φ : PR → List Sl → Prop) (Ψ : Exc → List Sl → Prop),
      Room k (cxOf (L2.CX P w) P w K mg base N x (defScope st) f cdv A outer s H E).A →
      PassesOwn (model P w) (cxOf (L2.CX P w) P w K mg base N x (defScope st) f cdv A outer s H E).A (cxOf (L2.CX P w) P w K mg base N x (defScope st) f cdv A outer s H E).env (cxOf (L2.CX P w) P w K mg base N x (defScope st) f cdv A outer s H E).xe →
      g.M = fps args → args.length = ps.length → S args Φ Ψ →
      WS (cxOf (L2.CX P w) P w K mg base N x (defScope st) f cdv A outer s H E) g (defBody st) (args ++ List.replicate (N.length - ps.length) .un) (endOf args Φ Ψ)) : Has P w K mg base (k + 1) x ps S := ⟨f, fd, hm, F.kp, hb, fn_ok F sc hln body⟩
end
section
variable {X : Cx} {g : G} {env env' : List Sl} {P : Po} {pos p : Pos} {body : List Stmt} {F F' H H' : Hp} {σ σ' : SS} {D : Ends} {W : WX}
theorem St.at {K : Frag} (st : St K g F H σ env) : St K { g with F0 := F } F H σ env :=
  { st.toSk with gt := ⟨st.gt.g7, st.gt.g8⟩, g1 := st.g1, g2 := st.g2, g3 := Ex.refl F, g4 := fun a h => .inl h, g5 := st.g5, g6 := st.g6 }
end
def cLaw : CT := fun args Φ Ψ => ∃ ns : List Int, args = [.d (.list (ns.map .int))] ∧ ns.length ≤ 63 ∧ Φ (.rd (.bool true)) args
def noTb (H : Hp) : Hp := fun b => match H b with
  | some (.tbl _) => none
  | o => o
theorem noTb_of {H : Hp} {b : Addr} {u : HO} (h : H b = some u) (n : ntb u) : noTb H b = some u := by
  unfold noTb
  split
  · rename_i ps e; rw [h] at e; exact absurd (Option.some.inj e) (n ps)
  · exact h
theorem noTb_to {H : Hp} {b : Addr} {u : HO} (h : noTb H b = some u) : H b = some u ∧ ntb u := by
  unfold noTb at h
  split at h
  · cases h
  · rename_i e
    exact ⟨h, fun ps z => e ps (by rw [h, z])⟩
theorem noTb_sql {K : Frag} {H : Hp} {a : Addr} {xs : List V} (h : SqL K H a xs) : SqL K (noTb H) a xs := by
  rcases h with (h | ⟨o, h⟩) | h
  · exact .inl (.inl (noTb_of h fun _ z => by cases z))
  · exact .inl (.inr ⟨o, noTb_of h fun _ z => by cases z⟩)
  · exact .inr h
theorem law_sp {K : Frag} {H : Hp} {a : Addr} {ns : List Int} (hl : ns.length ≤ 63) (hT : ∀ p ∈ tabsK K, H p.1 = some (.tbl #[])) (hS : SqL K H a (ns.map V.int)) : spOf K 1 cLaw [.ref a] H (fun v _ => v = .bl true) (fun _ _ _ => False) := by
  refine ⟨rfl, noTb H, [.d (.list (ns.map .int))], fun r args' => r = .rd (.bool true), fun _ _ => False, ⟨ns, rfl, hl, rfl⟩, ⟨rfl, fun i s h => ?_, fun i j s t b h1 h2 h3 h4 => ?_, fun b ⟨i, s, h1, h2⟩ => ?_, fun b u z => (noTb_to z).1, fun b vs h => noTb_of h (fun _ z => by cases z), ⟨fun b ps z => (noTb_to z).2 ps rfl, fun p hp => ⟨#[], hT p hp, trivial, fun pos cv hc => ?_⟩⟩⟩, fun r v args' F' H' hp _ _ _ pr => ?_, fun c _ _ _ hp _ _ _ => hp.elim⟩
  · match i, h with
    | 0, h =>
      have e := Option.some.inj h
      subst e
      exact ⟨.ref a, rfl, .lst (noTb_sql hS) (dpa_ints ns)⟩
    | i + 1, h => simp at h
  · match i, h1 with
    | 0, h1 =>
      have e := Option.some.inj h1
      subst e
      cases h3
    | i + 1, h => simp at h
  · match i, h1 with
    | 0, h1 =>
      have e := Option.some.inj h1
      subst e
      cases h2
    | i + 1, h => simp at h
  · have z : codeAmong pos [] = some cv := hc
    simp [codeAmong] at z
  · subst hp
    exact dp_bl pr
end TL
namespace TL
open PySem PySem.Spec PyProof.Rows L2
section
variable {X : Cx} {g : G} {env env' : List Sl} {Ψ : Exc → Prop} {P : Po} {pos p : Pos} {a b c e : Expr} {es : List Expr} {rest : List Stmt} {K : Frag} {F F' H H' : Hp} {σ σ' : SS}
/-- a statement, what holds behind it, the rest -/
theorem ws_mid {st : Stmt} (M : List Sl → Prop) (h1 : W1 X g st env (P.thn M)) (h2 : ∀ e, M e → WS X g rest e P) : WS X g (st :: rest) env P := fun W tk hx σ F H s0 D hD => by
  refine semS_of (pss_cons (psP st) (pssS rest)) ?_
  refine h1 W tk hx σ F H s0 _ ⟨fun env' σ' F' H' hw s' e' => ?_, hD.rt, hD.bk, hD.ct⟩
  exact h2 env' hw W tk hx σ' F' H' s' D (hD.mono e')
theorem ws_close (i : Nat) {al : Addr} {ds : List PyData} (he : env[i]? = some (.ol al ds)) (hb : BagD ds) (h : WS X g rest (env.set i (.bg al)) P) : WS X g rest env P := fun W tk hx σ F H st D hD =>
  h W tk hx σ F H (st.weak he (fun a m => m) fun ⟨h1, vs, h2, h3⟩ => ⟨h1, ds, vs, hb, h2, h3⟩) D hD
theorem ws_open (i : Nat) {al : Addr} (he : env[i]? = some (.bg al)) (h : ∀ (cells : List Int) (j s t : Int), (∀ c ∈ cells, (0 : Int) ≤ c) → 0 ≤ j → 0 ≤ s → 0 ≤ t → t < 2147483629 → WS X g rest (env.set i (.ol al [.list (cells.map .int), .int j, .int s, .int t])) P) : WS X g rest env P := fun W tk hx σ F H st D hD => by
  obtain ⟨h1, ds, vs, ⟨cells, j, s, t, rfl, q1, q2, q3, q4, q5⟩, h2, h3⟩ := st.sl i _ he
  exact h cells j s t q1 q2 q3 q4 q5 W tk hx σ F H (st.weak he (fun a m => m) fun _ => ⟨h1, vs, h2, h3⟩) D hD
end
theorem szOk {n m : Nat} (h : Nat.ble n m = true) : n ≤ m := Nat.le_of_ble_eq_true h
theorem nb {m : Int} (h : m.natAbs < 2 ^ 120) : m.natAbs < 2 ^ 8000 := Nat.lt_of_lt_of_le h (Nat.pow_le_pow_right (by decide) (by decide))
abbrev rg (m : Nat) (f : Nat → PyData) : List PyData := (List.range m).map f
theorem rg_len (m : Nat) (f : Nat → PyData) : (rg m f).length = m := by simp
theorem rg_succ (m : Nat) (f : Nat → PyData) : rg m f ++ [f m] = rg (m + 1) f := by simp [rg, List.range_succ]
theorem at_nat {α : Type} {xs : List α} {i : Int} {x : α} (h0 : 0 ≤ i) (h : xs[i.toNat]? = some x) : atI xs i = some x := by
  have hl := (List.getElem?_eq_some_iff.mp h).1
  unfold atI ixN
  rw [if_pos h0, if_pos (by omega)]
  exact h
theorem at_rg {m : Nat} {f : Nat → PyData} {i : Int} (h0 : 0 ≤ i) (h1 : i < m) : atI (rg m f) i = some (f i.toNat) := at_nat h0 (by
  have hl : i.toNat < m := by omega
  simp [rg, hl])
theorem at_last {α : Type} {xs : List α} {x : α} : atI (xs ++ [x]) (-1) = some x := by
  unfold atI ixN
  rw [if_neg (by omega), List.length_append, if_pos (by simp; omega)]
  have e : (-1 + ((xs.length + [x].length : Nat) : Int)).toNat = xs.length := by simp; omega
  show (xs ++ [x])[(-1 + ((xs.length + [x].length : Nat) : Int)).toNat]? = some x
  rw [e]; simp
theorem at_ints {ns : List Int} {i : Int} (h0 : 0 ≤ i) (h1 : i < ns.length) : ∃ n, n ∈ ns ∧ ns[i.toNat]? = some n ∧ atI (ns.map PyData.int) i = some (.int n) := by
  have hl : i.toNat < ns.length := by omega
  refine ⟨ns[i.toNat], List.getElem_mem hl, by simp [hl], at_nat h0 (by simp [hl])⟩
theorem wp_none {X : Cx} {g : G} {env : List Sl} {Φ : Option Int → Prop} {Ψ : Exc → Prop} (h : Φ none) : WP X g none env Φ Ψ := h
theorem wp_e {X : Cx} {g : G} {env : List Sl} {e : Expr} {Φ : Option Int → Prop} {Ψ : Exc → Prop} (h : WE X g e env (fun d _ => ∃ i, d = .int i ∧ Φ (some i)) Ψ) : WP X g (some e) env Φ Ψ := h
theorem cut_le {α : Type} (xs : List α) (k : Int) (h0 : 0 ≤ k) (h : (xs.length : Int) ≤ k) : cut xs none (some k) = xs := by
  unfold cut HT.sIx
  have e : ¬ k < 0 := by omega
  simp only [e, if_false]
  rw [List.drop_zero, Nat.min_eq_right (by omega), Nat.sub_zero, List.take_length]
theorem ints_get {ns : List Int} {i : Nat} {x : PyData} (h : (ns.map PyData.int)[i]? = some x) : ∃ n, x = .int n ∧ ns[i]? = some n := by
  obtain ⟨n, h1, h2⟩ := map_get h
  exact ⟨n, h2.symm, h1⟩
theorem tk_succ {α : Type} {ns : List α} {i : Nat} {n : α} (f : α → PyData) (h : ns[i]? = some n) : (ns.take i).map f ++ [f n] = (ns.take (i + 1)).map f := by
  rw [List.take_succ, h]
  simp
def ppD (p : Int × Int) : PyData := .tuple [.int p.1, .int p.2]
theorem pairs_alike (ps : List (Int × Int)) : PySem.W.AllAlike (ps.map ppD) := fun d hd d' hd' => by
  obtain ⟨p, _, rfl⟩ := List.mem_map.mp hd
  obtain ⟨q, _, rfl⟩ := List.mem_map.mp hd'
  rfl
theorem pairs_sortable (ps : List (Int × Int)) : PySem.W.Sortable (ps.map ppD) := .inl fun d hd => by
  obtain ⟨p, _, rfl⟩ := List.mem_map.mp hd
  exact ⟨_, _, rfl⟩
theorem pairs_depth (ps : List (Int × Int)) : ∀ d ∈ ps.map ppD, SeqAt.shaped d = true := fun d hd => by
  obtain ⟨p, _, rfl⟩ := List.mem_map.mp hd
  rfl
section
variable {Φ : PyData → Bool → Prop} {m : Nat} {f : Nat → PyData} {k : Int} {z1 z2 : Bool}
theorem ix_lst (h0 : 0 ≤ k) {xs : List PyData} {x : PyData} (h : xs[k.toNat]? = some x) (hp : Φ x true) : IxP Φ (.list xs) z1 (.int k) z2 := .lst hp (at_nat h0 h)
theorem ix_tup (h0 : 0 ≤ k) {xs : List PyData} {x : PyData} (h : xs[k.toNat]? = some x) (hp : Φ x true) : IxP Φ (.tuple xs) z1 (.int k) z2 := .tup hp (at_nat h0 h)
theorem ix_ints (h0 : 0 ≤ k) {ns : List Int} (h1 : k < ns.length) (hp : ∀ n ∈ ns, Φ (.int n) true) : IxP Φ (.list (ns.map .int)) z1 (.int k) z2 := by
  obtain ⟨n, q1, _, q2⟩ := at_ints h0 h1
  exact .lst (hp n q1) q2
end
theorem exk_of {K : Frag} {mg : Str → Option Value} {x : Str} (g : mg x = some (.ref (He.ga K x))) (h : PySem.W.excIn K (He.ga K x) He.veBase "ValueError.__new__" = true ∧ PySem.W.keepIn K (.ref (He.ga K x)) = true ∧ PySem.W.subIn K (.ref (He.ga K x)) (.type "BaseException") = some true ∧ PySem.W.typeIn K (.ref (He.ga K x)) = some (.type "type")) : ExK K mg x := ⟨g, h.1, h.2.1, h.2.2.1, h.2.2.2⟩
theorem Has.mono {P : Program} {w : World} {K : Frag} {mg : Str → Option Value} {base : Heap} {j k : Nat} {x : Str} {ps : List Str} {S : CT} (h : Has P w K mg base j x ps S) (le : j ≤ k) : Has P w K mg base k x ps S := by
  obtain ⟨f, fd, h1, h2, h3, h4⟩ := h.ex
  exact ⟨f, fd, h1, h2, h3, h4.mono le⟩
end TL
namespace TL
open PySem PySem.Spec PyProof.Rows L2
section
variable {X : Cx} {g : G} {env env' : List Sl} {Ψ : Exc → Prop} {P : Po} {pos p p2 p3 : Pos} {a b c e : Expr} {es : List Expr} {rest body : List Stmt} {K : Frag} {F F' H H' : Hp} {σ σ' : SS}
def tyN : PyData → String
  | .none => "NoneType"
  | .bool _ => "bool"
  | .int _ => "int"
  | .str _ => "str"
  | .list _ => "list"
  | .tuple _ => "tuple"
  | .dict _ => "dict"
def isTyB (T : String) (d : PyData) : Bool := match d with
  | .dict ((.bool true, _) :: _) => false
  | d => (kitB (tyN d) T).getD false
def kitOk (T : String) : Bool := (kitTys.all fun t => (kitB t T).isSome) && kitTys.contains T
theorem kitB_some (T : String) (d : PyData) (h : kitOk T = true) : kitB (tyN d) T = some ((kitB (tyN d) T).getD false) := by
  have m : tyN d ∈ kitTys := by cases d <;> simp [tyN, kitTys]
  have q := List.all_eq_true.mp (Bool.and_eq_true_iff.mp h).1 _ m
  cases e : kitB (tyN d) T with
  | none => rw [e] at q; cases q
  | some r => rfl
theorem tyx_of {z : Bool} {v : V} {d : PyData} (st : Sk K F H σ env) (h : Rd K F env z v d) : ∃ t, TyX K H v t ∧ ∀ T, kitOk T = true → PySem.W.kitOne K t (.type T) = some (isTyB T d) := by
  have h := rd_now st h
  cases h with
  | non => exact ⟨_, .base .non, fun T hT => kit_ty (kitB_some T .none hT)⟩
  | bl b => exact ⟨_, .base (.bl b), fun T hT => kit_ty (kitB_some T (.bool b) hT)⟩
  | int i => exact ⟨_, .base (.int i), fun T hT => kit_ty (kitB_some T (.int i) hT)⟩
  | str s => exact ⟨_, .base (.str s), fun T hT => kit_ty (kitB_some T (.str s) hT)⟩
  | @lst a xs ds s _ =>
    rcases s with s | ⟨o, _, _, s, q, _⟩
    · rcases s with s | ⟨o, s⟩
      · exact ⟨_, .base (.lst s), fun T hT => kit_ty (kitB_some T (.list ds) hT)⟩
      · exact ⟨_, .base (.frz s), fun T hT => kit_ty (kitB_some T (.list ds) hT)⟩
    · exact ⟨_, .kList s q, fun T hT => kit_ty (kitB_some T (.list ds) hT)⟩
  | @tup a xs ds s _ => exact ⟨_, .base (.tup s), fun T hT => kit_ty (kitB_some T (.tuple ds) hT)⟩
  | @ktup a s =>
    rcases s H with s | ⟨o, _, _, s, q, _⟩
    · rcases s with s | ⟨o, s⟩
      · exact ⟨_, .base (.tup s), fun T hT => kit_ty (kitB_some T startD hT)⟩
      · exact ⟨_, .fTuple s, fun T hT => kit_ty (kitB_some T startD hT)⟩
    · exact ⟨_, .kTuple s q, fun T hT => kit_ty (kitB_some T startD hT)⟩
  | @dct a vs kvs s _ => exact ⟨_, .base (.dT s), fun T hT => kit_ty (kitB_some T (.dict ((.none, .none) :: kvs)) hT)⟩
  | @dck a vs kvs s hk =>
    refine ⟨_, .base (.dK s), fun T hT => ?_⟩
    have e : isTyB T (.dict kvs) = (kitB "dict" T).getD false := by
      cases hk with
      | nil => rfl
      | @cons k _ _ _ _ _ _ => cases k <;> rfl
    rw [e]
    exact kit_ty (kitB_some T (.dict kvs) hT)
  | ins hk s _ => exact ⟨_, .base (.ins s hk.cls hk.c1 hk.c2 hk.c3 hk.c4), fun T hT => hk.kit T (by simpa using (Bool.and_eq_true_iff.mp hT).2)⟩
theorem pa_ty {T : String} {y : Str} (hm : X.mg y = none) (hv : bootBuiltins y = some (.type T)) (hg : Gl X y) (hn : y ≠ "__name__" := by decide) (hd : (y == ("__debug__" : Str)) = false := by decide) : PE X (.Name y p) (tC (.ty T)) := pe_bltn hg hm hv rfl hn hd
theorem we_isi (T : String) {y : Str} {Φ : PyData → Bool → Prop} (hm : X.mg "isinstance" = none) (hy : X.mg y = none) (h : WE X g a env (fun d _ => Φ (.bool (isTyB T d)) true) Ψ) (hv : bootBuiltins y = some (.type T) := by decide +kernel) (hg2 : Gl X y := by rfl)
    (hk : kitOk T = true := by decide +kernel) (hn : y ≠ "__name__" := by decide) (hd : (y == ("__debug__" : Str)) = false := by decide) (hg : Gl X "isinstance" := by rfl)
    (he : starEach [a, .Name y p2] X.env = (false, eval a X.env) :: starEach [.Name y p2] X.env := by rfl) (he2 : starEach [.Name y p2] X.env = (false, eval (.Name y p2) X.env) :: starEach [] X.env := by rfl) (hpl : (backTo pos (starEach [.Name y p2] X.env)).any (·.1) = false := by rfl) :
    WE X g (.Call (.Name "isinstance" p) [a, .Name y p2] [] pos) env Φ Ψ := fun W tk σ F H st hx Q hQ => by
  refine semE_of (pe_callB call_isi hg hm boot_isinstance (pa_cons (peS a) (pa_cons (pa_ty hy hv hg2 hn hd) pa_nil he2) he) (by decide) (by decide) he hpl) ?_
  refine h W tk σ F H st hx _ fun d1 z1 v1 F1 H1 h1 st1 e1 r1 => ?_
  obtain ⟨t, y1, y2⟩ := tyx_of st1.toSk r1
  exact ⟨v1, .ty T, t, .type T, isTyB T d1, rfl, .ty T, y1, y2 T hk, hQ _ true _ F1 H1 h1 st1 e1 (.bl _)⟩
/-- isinstance(x, (list, tuple)) -/
theorem we_isiLT {Φ : PyData → Bool → Prop} {p4 : Pos} {x1 : Nat} (hm : X.mg "isinstance" = none) (hl : X.mg "list" = none) (ht : X.mg "tuple" = none) (h : WE X g a env (fun d _ => Φ (.bool (isTyB "list" d || isTyB "tuple" d)) true) Ψ)
    (hg : Gl X "isinstance" := by rfl) (hgl : Gl X "list" := by rfl) (hgt : Gl X "tuple" := by rfl)
    (he : starEach [a, .Tuple [.Name "list" p2, .Name "tuple" p3] x1 p4] X.env = (false, eval a X.env) :: starEach [.Tuple [.Name "list" p2, .Name "tuple" p3] x1 p4] X.env := by rfl)
    (he2 : starEach [.Tuple [.Name "list" p2, .Name "tuple" p3] x1 p4] X.env = (false, eval (.Tuple [.Name "list" p2, .Name "tuple" p3] x1 p4) X.env) :: starEach [] X.env := by rfl)
    (hpl : (backTo pos (starEach [.Tuple [.Name "list" p2, .Name "tuple" p3] x1 p4] X.env)).any (·.1) = false := by rfl)
    (he3 : starEach [.Name "list" p2, .Name "tuple" p3] X.env = (false, eval (.Name "list" p2) X.env) :: starEach [.Name "tuple" p3] X.env := by rfl) (he4 : starEach [.Name "tuple" p3] X.env = (false, eval (.Name "tuple" p3) X.env) :: starEach [] X.env := by rfl) :
    WE X g (.Call (.Name "isinstance" p) [a, .Tuple [.Name "list" p2, .Name "tuple" p3] x1 p4] [] pos) env Φ Ψ := fun W tk σ F H st hx Q hQ => by
  refine semE_of (pe_callB call_isiT hg hm boot_isinstance (pa_cons (peS a) (pa_cons (pe_tup (pa_cons (pa_ty (T := "list") hl (by decide +kernel) hgl) (pa_cons (pa_ty (T := "tuple") ht (by decide +kernel) hgt) pa_nil he4) he3)) pa_nil he2) he) (by decide) (by decide) he hpl) ?_
  refine h W tk σ F H st hx _ fun d1 z1 v1 F1 H1 h1 st1 e1 r1 => ?_
  refine ⟨by decide, fun tp hn => ?_⟩
  have st2 := st1.allocF (o := .tup [.ty "list", .ty "tuple"]) hn
  have hF : F1 tp = none := st1.ex.none hn
  obtain ⟨t, y1, y2⟩ := tyx_of st2.toSk (rd_mono (Ex.new hF) r1)
  refine ⟨v1, tp, [.ty "list", .ty "tuple"], t, [.type "list", .type "tuple"], isTyB "list" d1 || isTyB "tuple" d1, rfl, upd_same, .cons (.ty _) (.cons (.ty _) .nil), y1, ?_, hQ _ true _ _ _ h1 st2 (e1.trans (Ex.new hF)) (.bl _)⟩
  refine kitAny_cons (y2 "list" (by decide +kernel)) (fun q => ?_) fun q => by rw [q]; rfl
  rw [q, Bool.false_or]
  refine kitAny_cons (y2 "tuple" (by decide +kernel)) (fun q => ?_) fun q => q
  rw [q]
  rfl
theorem for_turn2 {t : TG} {A : PyData → Option (List (Nat × PyData))} {F1 F : Hp} {Pv : Nat → List Sl → Prop} {i : Nat} {x : PyData} {v : V} {D : Ends} {W : WX} (tk : Takes X W) (hx2 : XOk X g P W) (hD : DOk X g F1 P D) (htd : TGd X.K t A) (hv : Dq X.K F v x) (s1 : St X.K g F H σ env) (e1 : Ex F1 F) (hp : Pv i env) (h : FT X g body A P Pv i x) :
    t v σ H fun σ2 H2 => semS X body { D with nx := FJ X.K g F1 Pv (i + 1), ct := FJ X.K g F1 Pv (i + 1), bk := D.nx } σ2 H2 := by
  obtain ⟨l, hA, hl, hw⟩ := h env hp
  refine htd x l σ F H v _ hA s1.ex hv fun r sr => ?_
  have s2 := s1.sets sr fun q hq => ltB (List.all_eq_true.mp hl q hq)
  exact hw W tk hx2 _ F H s2 _ ⟨fun e2 σ' F' H' q s' ex => ⟨F', e2, s', e1.trans ex, q⟩, hD.rt, fun e2 σ' F' H' q s' ex => hD.nx e2 σ' F' H' q s' (e1.trans ex), fun e2 σ' F' H' q s' ex => ⟨F', e2, s', e1.trans ex, q⟩⟩
end
end TL
namespace TL
open PySem PySem.Spec PyProof.Rows L2
section
variable {X : Cx} {g : G} {env env' : List Sl} {Ψ : Exc → Prop} {P : Po} {pos p lp : Pos} {a b c e : Expr} {es : List Expr} {rest body : List Stmt} {K : Frag} {F F' H H' : Hp} {σ σ' : SS}
theorem snoc_get {α : Type} {l : List α} {x y : α} {i : Nat} (h : (l ++ [x])[i]? = some y) : l[i]? = some y ∨ (i = l.length ∧ y = x) := by
  by_cases hi : i < l.length
  · rw [List.getElem?_append_left hi] at h; exact .inl h
  · by_cases e : i = l.length
    · subst e
      rw [List.getElem?_append_right (Nat.le_refl _), Nat.sub_self] at h
      exact .inr ⟨rfl, (Option.some.inj h).symm⟩
    · rw [List.getElem?_append_right (by omega)] at h
      have := (List.getElem?_eq_some_iff.mp h).1
      simp at this
      omega
theorem own_snoc {q a : Addr} {ds : List PyData} (h : Own (env ++ [.ol q ds]) a) : Own env a ∨ a = q := by
  obtain ⟨i, s, h1, h2⟩ := h
  rcases snoc_get h1 with h3 | ⟨_, rfl⟩
  · exact .inl ⟨i, s, h3, h2⟩
  · exact .inr (by simpa [Sl.fp] using h2)
theorem Sk.snoc {q : Addr} {xs : List V} {ds : List PyData} (st : Sk K F H σ env) (h1 : H q = some (.lst xs)) (h2 : DqAll K F xs ds) (h3 : F q = none) (h4 : ¬ Own env q) : Sk K F H (σ ++ [some (.ref q)]) (env ++ [.ol q ds]) where
  len := by rw [List.length_append, List.length_append, st.len]; rfl
  sl := fun i s h => by
    rcases snoc_get h with h | ⟨rfl, rfl⟩
    · have hi : i < σ.length := by rw [st.len]; exact (List.getElem?_eq_some_iff.mp h).1
      rw [List.getElem?_append_left hi]
      exact st.sl i s h
    · rw [← st.len, List.getElem?_append_right (Nat.le_refl _), Nat.sub_self]
      exact ⟨rfl, xs, h1, h2⟩
  nd := fun i j s t a hi hj m1 m2 => by
    rcases snoc_get hi with hi | ⟨rfl, rfl⟩
    · rcases snoc_get hj with hj | ⟨rfl, rfl⟩
      · exact st.nd i j s t a hi hj m1 m2
      · have e : a = q := by simpa [Sl.fp] using m2
        exact absurd ⟨i, s, hi, e ▸ m1⟩ h4
    · rcases snoc_get hj with hj | ⟨rfl, rfl⟩
      · have e : a = q := by simpa [Sl.fp] using m1
        exact absurd ⟨j, t, hj, e ▸ m2⟩ h4
      · rfl
  fr := fun a h => by
    rcases own_snoc h with h | rfl
    · exact st.fr a h
    · exact h3
  ex := st.ex
  tf := st.tf
  tk := st.tk
theorem St.snoc {q : Addr} {xs : List V} {ds : List PyData} (st : St K g F H σ env) (h1 : H q = some (.lst xs)) (h2 : DqAll K F xs ds) (h3 : F q = none) (h4 : ¬ Own env q) (h5 : g.H0 q = none) : St K g F H (σ ++ [some (.ref q)]) (env ++ [.ol q ds]) :=
  { st.toSk.snoc h1 h2 h3 h4 with
    gt := st.gt, g1 := st.g1, g3 := st.g3, g4 := st.g4, g5 := st.g5, g6 := st.g6
    g2 := fun a h => by
      rcases own_snoc h with h | rfl
      · exact st.g2 a h
      · exact .inl h5 }
end
theorem ne_b (b : Bool) : (!decide (b = b)) = false := by simp
end TL
namespace TL
open PySem PySem.Spec PyProof.Rows L2
theorem key_eq {K : Frag} {F : Hp} {v : V} {k : Key} (h : Dq K F v (kD k)) : v = kV k := by
  cases k with
  | inl i => exact dp_int h
  | inr s => exact dp_str h
theorem keys_eq {K : Frag} {F : Hp} : ∀ {k : List Key} {vs : List V}, DqAll K F vs (k.map kD) → vs = k.map kV
  | [], _, h => by
    have h' : DqAll K F _ [] := h
    cases h'; rfl
  | x :: r, _, h => by
    have h' : DqAll K F _ (kD x :: r.map kD) := h
    cases h' with
    | cons h1 h2 => rw [key_eq h1, keys_eq h2]; rfl
section
variable {κ : Type} [DecidableEq κ]
def putP (kvs : List (κ × PyData)) (k : κ) (d : PyData) : List (κ × PyData) := if (kvs.any fun kv => decide (kv.1 = k)) = true then kvs.map (fun kv => if kv.1 = k then (kv.1, d) else kv) else kvs ++ [(k, d)]
def valP (kvs : List (κ × PyData)) (k : κ) : Option PyData := (kvs.find? fun kv => decide (kv.1 = k)).map (·.2)
variable {K : Frag} {F : Hp}
theorem kvp_any {k : κ} : ∀ {xs : List (κ × V)} {kvs : List (κ × PyData)}, KVp K F xs kvs → (xs.any fun kv => decide (kv.1 = k)) = kvs.any fun kv => decide (kv.1 = k)
  | _, _, .nil => rfl
  | _, _, .cons h t => by
    rw [List.any_cons, List.any_cons, kvp_any t, h.1]
theorem kvp_map {k : κ} {v : V} {d : PyData} (hd : Dq K F v d) : ∀ {xs : List (κ × V)} {kvs : List (κ × PyData)}, KVp K F xs kvs → KVp K F (xs.map fun kv => if kv.1 = k then (kv.1, v) else kv) (kvs.map fun kv => if kv.1 = k then (kv.1, d) else kv)
  | _, _, .nil => .nil
  | (k1, v1) :: _, (k2, d2) :: _, .cons h t => by
    obtain ⟨h1, h2⟩ := h
    have h1 : k1 = k2 := h1
    subst h1
    refine .cons ?_ (kvp_map hd t)
    show (if k1 = k then (k1, v) else (k1, v1)).1 = (if k1 = k then (k1, d) else (k1, d2)).1 ∧ Dq K F (if k1 = k then (k1, v) else (k1, v1)).2 (if k1 = k then (k1, d) else (k1, d2)).2
    by_cases e : k1 = k
    · rw [if_pos e, if_pos e]; exact ⟨rfl, hd⟩
    · rw [if_neg e, if_neg e]; exact ⟨rfl, h2⟩
theorem kvp_app {v : V} {k : κ} {d : PyData} (hd : Dq K F v d) : ∀ {xs : List (κ × V)} {kvs : List (κ × PyData)}, KVp K F xs kvs → KVp K F (xs ++ [(k, v)]) (kvs ++ [(k, d)])
  | _, _, .nil => .cons ⟨rfl, hd⟩ .nil
  | _, _, .cons h t => .cons h (kvp_app hd t)
theorem kvp_put {xs : List (κ × V)} {kvs : List (κ × PyData)} {k : κ} {v : V} {d : PyData} (h : KVp K F xs kvs) (hd : Dq K F v d) : KVp K F (putK xs k v) (putP kvs k d) := by
  unfold putK putP
  rw [kvp_any h]
  by_cases e : (kvs.any fun kv => decide (kv.1 = k)) = true
  · rw [if_pos e, if_pos e]; exact kvp_map hd h
  · rw [if_neg e, if_neg e]; exact kvp_app hd h
theorem kvp_len : ∀ {xs : List (κ × V)} {kvs : List (κ × PyData)}, KVp K F xs kvs → xs.length = kvs.length
  | _, _, .nil => rfl
  | _, _, .cons _ t => congrArg Nat.succ (kvp_len t)
end
section
variable {X : Cx} {g : G} {env env' : List Sl} {Ψ : Exc → Prop} {P : Po} {pos p lp : Pos} {a b c e : Expr} {es : List Expr} {rest body : List Stmt} {K : Frag} {F F' H H' : Hp} {σ σ' : SS}
theorem St.setT {i : Nat} {q : Addr} {xs : List (List Key × V)} {kvs : List (List Key × PyData)} (st : St K g F H σ env) (hi : i < env.length) (hH : H q = some (.dT xs)) (hd : KVp K F xs kvs) (hF : F q = none) (hn : ¬ Own env q) (h0 : g.H0 q = none) :
    St K g F H (σ.set i (some (.ref q))) (env.set i (.dt q kvs)) := by
  have one : ∀ b ∈ (Sl.dt q kvs).fp, b = q := fun b hb => by simpa [Sl.fp] using hb
  exact st.set (s := .dt q kvs) hi ⟨rfl, xs, hH, hd⟩ (fun b hb => by rw [one b hb]; exact hF) (fun b hb j t _ e ht => hn ⟨j, t, e, by rw [← one b hb]; exact ht⟩) (fun b hb => by rw [one b hb]; exact .inl h0)
/-- x = {} -/
theorem w1_newT (i : Nat) {x : Str} {pos' dp : Pos} (hN : X.N.Nodup) (h : ∀ q, q ∉ g.M → P.nx (env.set i (.dt q []))) (hi : X.N[i]? = some x := by rfl) (hx : Loc X.env.scope x := by first | exact Or.inl rfl | exact Or.inr rfl) (hl : Nat.blt i env.length = true := by rfl)
    (hs : swapsWith (.Dict [] [] dp) (some (.Name x pos')) pos.line X.env = pure false := by rfl) (hf : X.fn x = true ∨ X.env.scope.names.lookup x = some .local := by first | exact .inl rfl | exact .inr rfl) : W1 X g (.Assign [.Name x pos'] (.Dict [] [] dp) pos) env P := fun W tk hx2 σ F H s0 D hD => by
  refine semP_of (ps_set hN hi hx pe_dnewT hs hf) fun q hn => ?_
  have s1 := s0.alloc (o := .dT []) hn
  exact hD.nx _ _ F _ (h q fun m => s1.g6 q m (s0.h0 hn)) (s1.setT (ltB hl) upd_same .nil (s0.ex.none hn) (s0.toSk.notown hn) (s0.h0 hn)) (Ex.refl F)
end
end TL
namespace TL
open PySem PySem.Spec PyProof.Rows L2
open Sem (wp)
def DGetS (K : Frag) (H : Hp) (a : Addr) (y : V) (r : Option V) : Prop :=
  DGet H a y r ∨ ∃ kvs k b, L2.Rd H a (.dT kvs) ∧ y = .ref b ∧ SqT K H b (k.map kV) ∧ r = valV kvs k
theorem DGetS.k {K : Frag} {H : Hp} {a : Addr} {kvs : List (Key × V)} {k : Key} (e : H a = some (.dK kvs)) : DGetS K H a (kV k) (valV kvs k) := .inl (DGet.k e)
theorem DGetS.t {K : Frag} {H : Hp} {a b : Addr} {kvs : List (List Key × V)} {k : List Key} (e : H a = some (.dT kvs)) (eb : SqT K H b (k.map kV)) : DGetS K H a (.ref b) (valV kvs k) := .inr ⟨kvs, k, b, .inl e, rfl, eb, rfl⟩
section
variable {X : Cx} {pins : List (Addr × Obj)} {σ : L2.St} {H : Hp} {s : Shared} {a : Addr} {y v d : V} {u r : Value} {o : Option V} {A : Around} {E : Value → Shared → Prop}
theorem keyS_of {b : Addr} {k : List Key} (I : Inv X pins σ H s) (h : SqT X.K H b (k.map kV)) : (tupleKind (mixKind X.prog X.w)).is s.heap k b := by
  obtain ⟨its, r, ⟨o, h1, h2, n, h3⟩, _⟩ := I.tuple h
  exact ⟨o, its.toArray, n, h1, h2, h3, by simpa using items_are r⟩
theorem dS_getItem {Q : Value → Shared → Prop} (hu : A.units + 1 < cLine) (I : Inv X pins σ H s) (g : DGetS X.K H a y (some v)) (ry : RelV y u) (h : ∀ w' s', Inv X pins σ H s' → RelV v w' → Q w' s') :
    wpAny (model X.prog X.w) A (getItem (.ref a) u) Q E s := by
  rcases g with g | ⟨kvs, k, b, e, ey, eb, l⟩
  · exact d_getItem hu I g ry h
  · subst ey
    cases (show u = Value.ref b from ry)
    obtain ⟨z, hd, xs, rel, dd⟩ := dt_rd I.hok e
    obtain ⟨w', hw, rw'⟩ := RelO.some_of (v := v) (o := (atKey xs k).map (·.2)) (by rw [l]; exact rel.val k)
    obtain ⟨p, hp, hp2⟩ := Option.map_eq_some_iff.mp hw
    refine wpAny_getItem_heap (tupleKind_room_in1 hu) (keyS_of I eb) dd hp ?_
    rw [hp2]
    exact h w' _ (I.tok _) rw'
theorem dS_typeIs (I : Inv X pins σ H s) (g : DGetS X.K H a y o) : s.TypeIs (.ref a) "dict" := by
  rcases g with g | ⟨kvs, k, b, e, _, _, _⟩
  · exact dict_typeIs I g
  · obtain ⟨_, _, xs, _, dd⟩ := dt_rd I.hok e
    exact dd.typeIs
end
def tDGetS (K : Frag) (td ty : TE) : TE := fun σ H Q => td σ H fun x H1 => ty σ H1 fun y H2 => ∃ a v, x = .ref a ∧ DGetS K H2 a y (some v) ∧ Q v H2
section
variable {X : Cx} {o i e f : Expr} {pos apos cpos : Pos} {td ty tx : TE}
theorem pe_dgetS (hu : X.A.units + 1 < cLine) (ho : PE X o td) (hi : PE X i ty) (hs : NoSl i) : PE X (.Subscript o i pos) (tDGetS X.K td ty) := by
  refine ⟨fun pins s σ H Q I h => ?_⟩
  refine subD_of PySem.F.slot_dict_getitem.lookup hs (thn (ho.run pins s σ H _ I h) fun u s1 ⟨x, H1, I1, rx, q1⟩ => thn (hi.run pins s1 σ H1 _ I1 q1) fun iv s2 ⟨y, H2, I2, ry, a, v, ex, g, q2⟩ => ?_)
  subst ex
  obtain rfl : u = Value.ref a := rx
  exact ⟨dS_typeIs I2 g, dS_getItem hu I2 g ry fun w' s3 I3 rw' => ⟨v, H2, I3, rw', q2⟩⟩
end
end TL
namespace TL
open PySem PySem.Spec PyProof.Rows L2
structure SemI (X : Cx) (tg iter : Expr) (σ : SS) (H : Hp) (R : It → Hp → Prop) : Prop where
  run : ∀ (pins : List (Addr × Obj)) (s : Shared), Inv X pins σ H s →
    wpAny (model X.prog X.w) X.A (eval iter X.env) (fun v s1 => wpAny (model X.prog X.w) X.A (pyIter v) (PIE X pins σ tg R) X.xe s1) X.xe s
def semI (X : Cx) (tg iter : Expr) : TI := fun σ H R => SemI X tg iter σ H R
def ItOk (K : Frag) (J : It) (xs : List PyData) (F : Hp) : Prop := ∃ (G : Hp → Prop) (Y : Nat → Hp → V → Hp → Prop), Walk J xs.length G Y ∧ (∀ H, Ex F H → G H) ∧
  ∀ i d, xs[i]? = some d → ∀ H v H', Y i H v H' → ∀ g F1 σ env, St K g F1 H σ env → Ex F F1 → ∃ F2, St K g F2 H' σ env ∧ Ex F1 F2 ∧ Dq K F2 v d ∧ Ex H H' ∧ ∀ a, F2 a ≠ none → F1 a ≠ none ∨ H a = none
def WI (X : Cx) (g : G) (tg iter : Expr) (env : List Sl) (Φ : List PyData → Prop) (Ψ : Exc → Prop) : Prop :=
  ∀ (W : WX), Takes X W → ∀ (σ : SS) (F H : Hp), St X.K g F H σ env → HX X g env Ψ W σ →
    ∀ R : It → Hp → Prop, (∀ xs J F' H', Φ xs → xs.length ≤ sizeLine → St X.K g F' H' σ env → Ex F F' → ItOk X.K J xs F' → R J H') → semI X tg iter σ H R
section
variable {X : Cx} {g : G} {env env' : List Sl} {Ψ : Exc → Prop} {P : Po} {pos p lp : Pos} {a b c e tg iter : Expr} {es : List Expr} {rest body : List Stmt} {K : Frag} {F F' H H' : Hp} {σ σ' : SS}
theorem piS : PI X tg iter (semI X tg iter) := ⟨fun pins s σ H R I h => h.run pins s I⟩
theorem semI_of {wi : TI} (h : PI X tg iter wi) {R : It → Hp → Prop} (q : wi σ H R) : semI X tg iter σ H R := ⟨fun pins s I => h.run pins s σ H R I q⟩
def iAny (K : Frag) (tl : TE) : TI := fun σ H R => tl σ H fun x H1 => (∃ a xs, x = .ref a ∧ SqL K H1 a xs ∧ (xs.length ≤ sizeLine → R (Itl K a) H1)) ∨ (∃ a xs, x = .ref a ∧ SqT K H1 a xs ∧ (xs.length ≤ sizeLine → R (Itt K a) H1)) ∨ ∃ z, x = .str z ∧ R (Its z) H1
theorem pi_any {l : Expr} {tl : TE} (hl : PE X l tl) : PI X tg l (iAny X.K tl) := by
  refine ⟨fun pins s σ H R I h => ?_⟩
  refine thn (hl.run pins s σ H _ I h) fun v s1 ⟨x, H1, I1, r1, q1⟩ => ?_
  rcases q1 with ⟨a, xs, e, hq, q⟩ | ⟨a, xs, e, hq, q⟩ | ⟨z, e, q⟩
  · subst e
    cases r1
    obtain ⟨its, rv, p, hz⟩ := I1.list hq
    refine wpAny_pyIter_list p.isList ?_
    refine ⟨s1.heap.objs.size, [s1.heap.objs.size], _, _, H1, rfl, I1.kept (t' := s1.toks) fun b o e => Heap.get?_push_of_some _ e, turn_list a _, ⟨_, Heap.get?_push_size _ rfl, rfl, rfl⟩, fun b hb => ?_, q hz⟩
    have e : b = s1.heap.objs.size := by simpa using hb
    subst e
    exact I1.fpOk (Nat.le_refl _) (I1.hok.fresh (Nat.le_refl _))
  · subst e
    cases r1
    obtain ⟨its, rv, p, hz⟩ := I1.tuple hq
    refine wpAny_pyIter_tuple (show s1.heap.IsTuple a its.toArray from p) ?_
    refine ⟨s1.heap.objs.size, [s1.heap.objs.size], _, _, H1, rfl, I1.kept (t' := s1.toks) fun b o e => Heap.get?_push_of_some _ e, turn_tuple a _, ⟨_, Heap.get?_push_size _ rfl, rfl, rfl⟩, fun b hb => ?_, q hz⟩
    have e : b = s1.heap.objs.size := by simpa using hb
    subst e
    exact I1.fpOk (Nat.le_refl _) (I1.hok.fresh (Nat.le_refl _))
  · subst e
    obtain ⟨t, rfl⟩ := r1
    cases ha : z.cps.all (· < 128)
    · exact wpAny_pyIter_wide ha (pi_one (tk := s1.toks) I1 _ (turn_str _ z t "str_iterator" (.inr rfl)) ⟨_, Heap.get?_push_size _ rfl, rfl, rfl⟩ q)
    · exact wpAny_pyIter_ascii ha (pi_one (tk := s1.toks) I1 _ (turn_str _ z t "str_ascii_iterator" (.inl rfl)) ⟨_, Heap.get?_push_size _ rfl, rfl, rfl⟩ q)
def sgn (c : Nat) : PyData := .str ⟨#[c]⟩
/-- the items of data -/
def itM : PyData → (List PyData → Prop) → Prop
  | .list xs, K => K xs
  | .tuple xs, K => K xs
  | .str s, K => s.cps.size ≤ sizeLine ∧ K (s.cps.toList.map sgn)
  | _, _ => False
theorem itok_at {xs : List PyData} {vs : List V} {J : It} {G : Hp → Prop} (w : Walk J vs.length G (YAt vs)) (hG : ∀ H, Ex F H → G H) (h : DqAll K F vs xs) : ItOk K J xs F := by
  refine ⟨G, YAt vs, by rw [← dpa_len h]; exact w, hG, fun i d hd H v H' ⟨y1, y2⟩ g F1 σ env st e1 => ?_⟩
  subst y1
  obtain ⟨v', h1, h2⟩ := dpa_get h hd
  rw [y2] at h1
  cases h1
  exact ⟨F1, st, Ex.refl F1, dp_mono e1 _ _ h2, Ex.refl _, fun a h => .inl h⟩
theorem itok_str {z : Str} : ItOk K (Its z) (z.cps.toList.map sgn) F := by
  refine ⟨_, _, by rw [List.length_map, Array.length_toList]; exact walk_str, fun _ _ => trivial, fun i d hd H v H' hy g F1 σ env st e1 => ?_⟩
  obtain ⟨y1, c, y2, y3⟩ := hy
  subst y1 y3
  obtain ⟨c', h1, rfl⟩ := map_get hd
  rw [Array.getElem?_toList, y2] at h1
  cases h1
  exact ⟨F1, st, Ex.refl F1, .str _, Ex.refl _, fun a h => .inl h⟩
theorem wi_d {Φ : List PyData → Prop} (h : WE X g iter env (fun d z => z = true ∧ itM d Φ) Ψ) : WI X g tg iter env Φ Ψ := fun W tk σ F H st hx R hR => by
  refine semI_of (pi_any (peS iter)) ?_
  refine h W tk σ F H st hx _ fun d z v F1 H1 ⟨hz, hi⟩ s1 e1 rd => ?_
  subst hz
  cases d with
  | list xs =>
    obtain ⟨a, vs, rfl, hsq, hda⟩ := dp_lst rd
    have hi : Φ xs := hi
    exact .inl ⟨a, vs, rfl, ex_l s1.ex hsq, fun hl => hR xs _ F1 H1 hi (by rw [← dpa_len hda]; exact hl) s1 e1 (itok_at walk_list (fun H eH => ex_l eH hsq) hda)⟩
  | tuple xs =>
    obtain ⟨a, vs, rfl, hsq, hda⟩ := dp_tup rd
    have hi : Φ xs := hi
    exact .inr (.inl ⟨a, vs, rfl, ex_t s1.ex hsq, fun hl => hR xs _ F1 H1 hi (by rw [← dpa_len hda]; exact hl) s1 e1 (itok_at walk_tup (fun H eH => ex_t eH hsq) hda)⟩)
  | str s =>
    obtain ⟨hl, hi⟩ : s.cps.size ≤ sizeLine ∧ Φ (s.cps.toList.map sgn) := hi
    have e := dp_str rd
    subst e
    exact .inr (.inr ⟨s, rfl, hR _ _ F1 H1 hi (by rw [List.length_map, Array.length_toList]; exact hl) s1 e1 itok_str⟩)
  | none => exact hi.elim
  | bool b => exact hi.elim
  | int i => exact hi.elim
  | dict k => exact hi.elim
def rangeL (lo hi : Int) : List PyData := (List.range (hi - lo).toNat).map fun i => .int (lo + (i : Nat))
theorem itok_rng {lo hi : Int} : ItOk K (Itr lo (hi - lo).toNat) (rangeL lo hi) F := by
  refine ⟨_, _, by unfold rangeL; rw [List.length_map, List.length_range]; exact walk_range, fun _ _ => trivial, fun i d hd H v H' hy g F1 σ env st e1 => ?_⟩
  obtain ⟨y1, y2⟩ := hy
  subst y1 y2
  obtain ⟨j, h1, rfl⟩ := map_get hd
  have hj := (List.getElem?_eq_some_iff.mp h1)
  have hj : i = j := by
    obtain ⟨h3, h4⟩ := hj
    simpa using h4
  subst hj
  exact ⟨F1, st, Ex.refl F1, .int _, Ex.refl _, fun a h => .inl h⟩
def rngM : PyData → PyData → (List PyData → Prop) → Prop
  | .int lo, .int hi, K => (-1000000 ≤ lo ∧ lo ≤ 1000000 ∧ -1000000 ≤ hi ∧ hi ≤ 1000000) ∧ K (rangeL lo hi)
  | _, _, _ => False
theorem range_len {lo hi : Int} (h : -1000000 ≤ lo ∧ lo ≤ 1000000 ∧ -1000000 ≤ hi ∧ hi ≤ 1000000) : (rangeL lo hi).length ≤ sizeLine := by
  unfold rangeL
  rw [List.length_map, List.length_range, sizeLine_eq]
  omega
theorem wi_r2 {Φ : List PyData → Prop} {p1 p2 : Pos} (hm : X.mg "range" = none) (h : WE X g a env (fun d1 _ => WE X g b env (fun d2 _ => rngM d1 d2 Φ) Ψ) Ψ) (hg : Gl X "range" := by rfl)
    (he : starEach [a, b] X.env = [(false, eval a X.env), (false, eval b X.env)] := by rfl) (he2 : starEach [b] X.env = [(false, eval b X.env)] := by rfl) : WI X g tg (.Call (.Name "range" p1) [a, b] [] p2) env Φ Ψ := fun W tk σ F H st hx R hR => by
  refine semI_of (pi_range2 hg hm (pa_cons (peS a) (pa_cons (peS b) pa_nil (by rw [he2]; rfl)) (by rw [he, he2])) he he2) ?_
  refine h W tk σ F H st hx _ fun d1 z1 v1 F1 H1 h1 s1 e1 r1 => ?_
  refine h1 W tk σ F1 H1 s1 hx _ fun d2 z2 v2 F2 H2 h2 s2 e2 r2 => ?_
  cases d1 with
  | int i =>
    cases d2 with
    | int j =>
      obtain ⟨hb, hi⟩ : (-1000000 ≤ i ∧ i ≤ 1000000 ∧ -1000000 ≤ j ∧ j ≤ 1000000) ∧ Φ (rangeL i j) := h2
      rw [rd_int r1, rd_int r2]
      exact ⟨i, j, rfl, by omega, hR _ _ F2 H2 hi (range_len hb) s2 (e1.trans e2) itok_rng⟩
    | _ => exact h2.elim
  | _ => cases d2 <;> exact h2.elim
theorem wi_r1 {Φ : List PyData → Prop} {p1 p2 : Pos} (hm : X.mg "range" = none) (h : WE X g a env (fun d1 _ => rngM (.int 0) d1 Φ) Ψ) (hg : Gl X "range" := by rfl)
    (he : starEach [a] X.env = [(false, eval a X.env)] := by rfl) : WI X g tg (.Call (.Name "range" p1) [a] [] p2) env Φ Ψ := fun W tk σ F H st hx R hR => by
  refine semI_of (pi_range1 hg hm (pa_cons (peS a) pa_nil (by rw [he]; rfl)) he) ?_
  refine h W tk σ F H st hx _ fun d2 z2 v2 F2 H2 h2 s2 e2 r2 => ?_
  cases d2 with
  | int j =>
    obtain ⟨hb, hi⟩ : (-1000000 ≤ (0 : Int) ∧ (0 : Int) ≤ 1000000 ∧ -1000000 ≤ j ∧ j ≤ 1000000) ∧ Φ (rangeL 0 j) := h2
    rw [rd_int r2]
    have := itok_rng (K := X.K) (F := F2) (lo := 0) (hi := j)
    rw [Int.sub_zero] at this
    exact ⟨j, rfl, by omega, by omega, hR _ _ F2 H2 hi (range_len hb) s2 e2 this⟩
  | _ => exact h2.elim
def enumL (xs : List PyData) : List PyData := xs.mapIdx fun i x => .tuple [.int (i : Nat), x]
def enuM : PyData → (List PyData → Prop) → Prop
  | .list xs, K => K (enumL xs)
  | .tuple xs, K => K (enumL xs)
  | _, _ => False
theorem w1_for {t : TG} {A : PyData → Option (List (Nat × PyData))} (hp : PassesOwn (model X.prog X.w) X.A X.env X.xe) (hc : X.calm = true) (hpg : PG X tg t) (htd : TGd X.K t A)
    (hi : WI X g tg iter env (fun xs => ∃ Pv : Nat → List Sl → Prop, Pv 0 env ∧ (∀ i x, xs[i]? = some x → FT X g body A P Pv i x) ∧ ∀ e, Pv xs.length e → P.nx e) (fun c => P.ex c env))
    (hs : ∀ x, foldedSetIterable iter X.env x = pure x := by intro _; rfl) : W1 X g (.For tg iter body [] pos) env P := fun W tk hx2 σ F H s0 D hD => by
  refine semP_of (ps_for hp hc piS hpg (pssS body) hs) ?_
  refine hi W tk σ F H s0 (hx2.hx env σ) _ fun xs J F1 H1 ⟨Pv, p0, pt, pe⟩ hlen s1 e1 ⟨GG, Y, hw, hG, hy⟩ => ?_
  refine for_it hw (FJ X.K g F1 Pv) ⟨F1, env, s1, Ex.refl F1, p0⟩ (fun i σ' H' _ ⟨F2, e2, s2, ex2, _⟩ => hG _ (ex2.trans s2.ex)) (fun i x σ' H2 H3 hi2 hJ hY => ?_) (fun σ' H' ⟨F2, e2, s2, ex2, hp2⟩ => ?_)
  · obtain ⟨F2, e2, s2, ex2, hp2⟩ := hJ
    obtain ⟨d, hd⟩ : ∃ d, xs[i]? = some d := ⟨xs[i], by simp [hi2]⟩
    obtain ⟨F3, s3, ex3, hv, _, _⟩ := hy i d hd _ _ _ hY _ _ _ _ s2 ex2
    exact for_turn2 tk hx2 (hD.mono e1) htd hv s3 (ex2.trans ex3) hp2 (pt i d hd)
  · exact hD.nx e2 σ' F2 H' (pe e2 hp2) s2 (e1.trans ex2)
theorem lc_turn2 {scope : Scope} {ifs : List Expr} {elt : Expr} {t : TG} {A : PyData → Option (List (Nat × PyData))} {F1 : Hp} {vs : List Nat} {Pv : Nat → List PyData → Prop} {D : Addr} {i : Nat} {x : PyData} {v : V} {l : List (Nat × PyData)}
    (htd : TGd X.K t A) (hA : A x = some l) (hl : ∀ q ∈ l, q.1 ∈ vs ∧ q.1 < env.length) (hsz : i < sizeLine) {F : Hp} {acc : List PyData} {avs : List V} (st : St X.K g F H (wipe σ vs) (wipeE env vs)) (eF : Ex F1 F) (hv : Dq X.K F v x) (hD : H D = some (.lst avs)) (hd : DqAll X.K F avs acc) (fD : F D = none) (oD : ¬ Own (wipeE env vs) D) (gD : g.H0 D = none) (hp : Pv i acc) (hlen : acc.length ≤ i)
    (hb : ∀ (g' : G) s H0 C cl fp, WTs (BX X scope s H0 C cl fp) g' ifs (putsE (wipeE env vs) l) (fun b => (b = true → ∀ s H0 C cl fp, WE (BX X scope s H0 C cl fp) g' elt (putsE (wipeE env vs) l) (fun y z => z = true ∧ Pv (i + 1) (acc ++ [y])) (fun _ => False)) ∧ (b = false → Pv (i + 1) acc))) :
    t v (wipe σ vs) H fun σ2 H2 => wipe σ2 vs = wipe σ vs ∧ semTB X scope ifs σ2 H2 fun b H3 =>
      if b = true then semEB X scope elt σ2 H3 fun y H4 => ∃ acc, H4 D = some (.lst acc) ∧ acc.length < sizeLine ∧ LJ X.K g F1 (wipe σ vs) (wipeE env vs) Pv D (i + 1) (upd H4 D (.lst (acc ++ [y]))) else LJ X.K g F1 (wipe σ vs) (wipeE env vs) Pv D (i + 1) H3 := by
  refine htd x l (wipe σ vs) F H v _ hA st.ex hv fun r sr => ?_
  have hidx : ∀ q ∈ r, q.1 ∈ vs := setsP_idx sr fun q hq => (hl q hq).1
  refine ⟨by rw [wipe_putsV hidx]; exact wipe_wipe σ vs, ?_⟩
  -- the state within the turn, over a ground of its own
  have st1 : St X.K ⟨F, H, fps (wipeE env vs)⟩ F H (putsV (wipe σ vs) r) (putsE (wipeE env vs) l) := St.sets st.toSk.base sr fun q hq => by rw [wipeE_len]; exact (hl q hq).2
  have back : ∀ {F' H'}, St X.K ⟨F, H, fps (wipeE env vs)⟩ F' H' (putsV (wipe σ vs) r) (putsE (wipeE env vs) l) → Ex F F' → St X.K ⟨F, H, fps (wipeE env vs)⟩ F' H' (wipe σ vs) (wipeE env vs) := fun {F' H'} s' e' =>
    { len := by rw [wipe_length, wipeE_len]; have := s'.len; rw [putsE_len, wipeE_len] at this; rw [← this, putsV_len, wipe_length]
      sl := fun k s e => by
        by_cases hm : k ∈ vs
        · rw [wipeE_get, if_pos hm] at e
          obtain ⟨_, _, e⟩ := Option.map_eq_some_iff.mp e
          subst e
          trivial
        · have e2 : (putsE (wipeE env vs) l)[k]? = some s := by rw [putsE_get (i := k) fun q hq (z : q.1 = k) => hm (by rw [← z]; exact (hl q hq).1)]; exact e
          have q := s'.sl k s e2
          rw [putsV_get (i := k) fun q hq (z : q.1 = k) => hm (by rw [← z]; exact hidx q hq)] at q
          exact q
      nd := st.nd
      fr := fun a h => by
        obtain ⟨k, s, h1, h2⟩ := h
        by_cases hm : k ∈ vs
        · rw [wipeE_get, if_pos hm] at h1
          obtain ⟨_, _, e⟩ := Option.map_eq_some_iff.mp h1
          subst e
          cases h2
        · exact s'.fr a ⟨k, s, by rw [putsE_get (i := k) fun q hq (z : q.1 = k) => hm (by rw [← z]; exact (hl q hq).1)]; exact h1, h2⟩
      ex := s'.ex
      tf := s'.tf
      tk := s'.tk
      gt := s'.gt
      g1 := s'.g1
      g2 := fun a h => .inr (own_fps.mp h)
      g3 := s'.g3
      g4 := s'.g4
      g5 := s'.g5
      g6 := s'.g6 }
  have keepD : ∀ {F' H'}, St X.K ⟨F, H, fps (wipeE env vs)⟩ F' H' (putsV (wipe σ vs) r) (putsE (wipeE env vs) l) → H' D = some (.lst avs) ∧ F' D = none := fun {F' H'} s' => by
    refine ⟨s'.g1 D _ hD (fun z => oD (own_fps.mpr z)) (fun _ z => by cases z), ?_⟩
    cases q : F' D with
    | none => rfl
    | some u =>
      rcases s'.g4 D (by rw [q]; intro z; cases z) with z | z
      · exact absurd fD z
      · have z' : H D = none := z
        rw [hD] at z'; cases z'
  have tests : ∀ (Q : Bool → Hp → Prop), (∀ b F' H', ((b = true → ∀ s H0 C cl fp, WE (BX X scope s H0 C cl fp) ⟨F, H, fps (wipeE env vs)⟩ elt (putsE (wipeE env vs) l) (fun y z => z = true ∧ Pv (i + 1) (acc ++ [y])) (fun _ => False)) ∧ (b = false → Pv (i + 1) acc)) →
      St X.K ⟨F, H, fps (wipeE env vs)⟩ F' H' (putsV (wipe σ vs) r) (putsE (wipeE env vs) l) → Ex F F' → Q b H') → semTB X scope ifs (putsV (wipe σ vs) r) H Q := fun Q hQ => by
    cases ifs with
    | nil =>
      exact hQ true F H ⟨fun _ s H0 C cl fp => (hb _ (X.s_0) H0 C cl fp).1 rfl s H0 C cl fp, fun z => by cases z⟩ st1 (Ex.refl F)
    | cons c cs =>
      intro s H0 C cl fp
      refine hb _ s H0 C cl fp _ takesB _ F H st1 hxF Q fun b F' H' hbb s' e' => hQ b F' H' hbb s' e'
  refine tests _ fun b F' H' ⟨h1, h2⟩ s' e' => ?_
  cases b with
  | true =>
    rw [if_pos rfl]
    intro s H0 C cl fp
    refine h1 rfl s H0 C cl fp _ takesB _ F' H' s' hxF _ fun y z w F2 H2 ⟨hz, hp2⟩ s2 e2 rd => ?_
    subst hz
    obtain ⟨hD2, fD2⟩ := keepD s2
    refine ⟨avs, hD2, by rw [dpa_len hd]; omega, F2, acc ++ [y], avs ++ [w], ?_, eF.trans (e'.trans e2), upd_same, ?_, fD2, oD, gD, hp2, by rw [List.length_append, List.length_singleton]; omega⟩
    · have s3 := st.rebase (back s2 (e'.trans e2)) fun a h => h
      exact s3.untracked fD2 oD gD
    · exact dpa_app (dpa_mono (e'.trans e2) _ _ hd) (dpa_one rd)
  | false =>
    rw [if_neg Bool.false_ne_true]
    obtain ⟨hD2, fD2⟩ := keepD s'
    exact ⟨F', acc, avs, st.rebase (back s' e') fun a h => h, eF.trans e', hD2, dpa_mono e' _ _ hd, fD2, oD, gD, h2 rfl, by omega⟩
def LT2 (X : Cx) (env : List Sl) (scope : Scope) (ifs : List Expr) (elt : Expr) (vs : List Nat) (A : PyData → Option (List (Nat × PyData))) (Pv : Nat → List PyData → Prop) (i : Nat) (x : PyData) : Prop :=
  ∀ acc, Pv i acc → ∃ l, A x = some l ∧ (l.all fun q => vs.elem q.1 && Nat.blt q.1 env.length) = true ∧ ∀ (g' : G) s H0 C cl fp, WTs (BX X scope s H0 C cl fp) g' ifs (putsE (wipeE env vs) l) (fun b =>
    (b = true → ∀ s H0 C cl fp, WE (BX X scope s H0 C cl fp) g' elt (putsE (wipeE env vs) l) (fun y z => z = true ∧ Pv (i + 1) (acc ++ [y])) (fun _ => False)) ∧ (b = false → Pv (i + 1) acc))
section
variable {elt : Expr} {ifs : List Expr} {scope : Scope} {own : List (Str × Nat)} {t : TG} {A : PyData → Option (List (Nat × PyData))} {Φ : List PyData → Prop}
theorem nt_lc (htd : TGd X.K t A) (hwo : wipeOk env (own.map (·.2)) = true)
    (hi : WI X g tg iter env (fun xs => ∃ Pv : Nat → List PyData → Prop, Pv 0 [] ∧ (∀ i x, xs[i]? = some x → LT2 X env scope ifs elt (own.map (·.2)) A Pv i x) ∧ ∀ acc, Pv xs.length acc → Φ acc) Ψ) : WNt X g (tLc (semI X tg iter) t (semTB X scope ifs) (semEB X scope elt) (own.map (·.2))) env Φ Ψ := fun W tk σ F H st hx Q hQ => by
  refine hi W tk σ F H st hx _ fun xs J F1 H1 ⟨Pv, p0, pt, pe⟩ hlen s1 e1 ⟨GG, Y, hw, hG, hy⟩ => fun D hD => ?_
  have st2 : St X.K g F1 (upd H1 D (.lst [])) (wipe σ (own.map (·.2))) (wipeE env (own.map (·.2))) := (s1.alloc hD).wiped _
  refine lc_it hw (LJ X.K g F1 (wipe σ (own.map (·.2))) (wipeE env (own.map (·.2))) Pv D) ⟨F1, [], [], st2, Ex.refl F1, upd_same, .nil, s1.ex.none hD, fun z => s1.there (own_wipe z) hD, s1.h0 hD, p0, Nat.le_refl 0⟩ (fun i H2 _ ⟨F2, _, _, s3, e3, _⟩ => hG _ (e3.trans s3.ex)) (fun i x H2 H3 hi2 hJ hY => ?_) (fun H2 ⟨F2, acc, avs, s3, e3, hD3, hd3, fD, oD, gD, hp, _⟩ => ?_)
  · obtain ⟨F2, acc, avs, s3, e3, hD3, hd3, fD, oD, gD, hp, hl2⟩ := hJ
    obtain ⟨d, hd⟩ : ∃ d, xs[i]? = some d := ⟨xs[i], by simp [hi2]⟩
    obtain ⟨F3, s4, ex4, hv, exH, hF⟩ := hy i d hd _ _ _ hY _ _ _ _ s3 e3
    obtain ⟨l, hA, hl, hb⟩ := pt i d hd acc hp
    have fD3 : F3 D = none := by
      cases q : F3 D with
      | none => rfl
      | some u =>
        rcases hF D (by rw [q]; intro z; cases z) with z | z
        · exact absurd fD z
        · rw [hD3] at z; cases z
    exact lc_turn2 htd hA (lt_idx hl) (by omega) s4 (e3.trans ex4) hv (exH _ _ hD3) (dpa_mono ex4 _ _ hd3) fD3 oD gD hp hl2 hb
  · exact hQ acc (.ref D) F2 H2 (pe acc hp) (s1.unwiped hwo s3 e3) (e1.trans e3) ⟨D, avs, rfl, hD3, hd3, fD, fun z => s1.there z hD, gD⟩
theorem wn_lc (hc : X.calm = true) (hN : X.N.Nodup) (ok : BlkOk X.N X.env.scope scope own) (hpg : ∀ s H C cl fp, PG (BX X scope s H C cl fp) tg t) (htd : TGd X.K t A) (h1 : ifs.length ≤ 1) (hwo : wipeOk env (own.map (·.2)) = true)
    (hi : WI X g tg iter env (fun xs => ∃ Pv : Nat → List PyData → Prop, Pv 0 [] ∧ (∀ i x, xs[i]? = some x → LT2 X env scope ifs elt (own.map (·.2)) A Pv i x) ∧ ∀ acc, Pv xs.length acc → Φ acc) Ψ)
    (hs : ∀ x, foldedSetIterable iter X.env x = pure x := by intro _; rfl) : WN X g (.ListComp elt [⟨tg, iter, ifs, 0⟩] scope pos) env Φ Ψ := fun W tk σ F H st hx Q hQ =>
  semE_of (pe_lc hc hN piS ok hpg (ptsB h1) peB hs) (nt_lc htd hwo hi W tk σ F H st hx Q hQ)
end
end
end TL
namespace TL
open PySem PySem.Spec PyProof.Rows L2
abbrev KD := PyData → Prop
abbrev KL := List PyData → Prop
abbrev KB := Bool → Prop
abbrev KX := Exc → Prop
def addM : PyData → PyData → KD → Prop
  | .int i, .int j, K => K (.int (i + j))
  | .str i, .str j, K => i.length + j.length ≤ sizeLine ∧ K (.str (i ++ j))
  | .list xs, .list ys, K => xs.length + ys.length ≤ sizeLine ∧ K (.list (xs ++ ys))
  | .tuple xs, .tuple ys, K => xs.length + ys.length ≤ sizeLine ∧ K (.tuple (xs ++ ys))
  | _, _, _ => False
def addLM : PyData → PyData → KL → Prop
  | .list xs, .list ys, K => xs.length + ys.length ≤ sizeLine ∧ K (xs ++ ys)
  | _, _, _ => False
def subM : PyData → PyData → KD → Prop
  | .int i, .int j, K => K (.int (i - j))
  | _, _, _ => False
def mulM : PyData → PyData → KD → Prop
  | .int i, .int j, K => (CMul i j ∨ CMulW i j) ∧ K (.int (i * j))
  | _, _, _ => False
def divM : PyData → PyData → KD → Prop
  | .int i, .int j, K => CDivW i j ∧ K (.int (i / j))
  | _, _, _ => False
def modM : PyData → PyData → KD → Prop
  | .int i, .int j, K => 0 < j ∧ K (.int (i % j))
  | _, _, _ => False
def negM : PyData → KD → Prop
  | .int i, K => K (.int (-i))
  | _, _ => False
def boolM : PyData → KB → Prop
  | .bool b, K => K b
  | _, _ => False
def eqM : PyData → PyData → KB → Prop
  | .int i, .int j, K => K (decide (i = j))
  | .str i, .str j, K => K (decide (i = j))
  | .bool i, .bool j, K => K (decide (i = j))
  | x, y, K => SeqAt.shaped x = true ∧ SeqAt.shaped y = true ∧ K (PyData.eqv x y)
def neM : PyData → PyData → KB → Prop
  | .int i, .int j, K => K (!decide (i = j))
  | .str i, .str j, K => K (!decide (i = j))
  | .bool i, .bool j, K => K (!decide (i = j))
  | x, y, K => SeqAt.shaped x = true ∧ SeqAt.shaped y = true ∧ K (!PyData.eqv x y)
def intsOf : List PyData → Option (List Int)
  | [] => some []
  | .int i :: r => match intsOf r with
    | some l => some (i :: l)
    | none => none
  | _ :: _ => none
def ltM : PyData → PyData → KB → Prop
  | .int i, .int j, K => K (decide (i < j))
  | .tuple xs, .tuple ys, K => match intsOf xs, intsOf ys with
    | some ns, some ms => K (HT.lexLt ns ms)
    | _, _ => False
  | _, _, _ => False
def leTup (ns ms : List Int) : Bool := Ob.lexAt (fun j => decide (ns.getD j 0 = ms.getD j 0)) (fun j => decide (ns.getD j 0 ≤ ms.getD j 0)) (decide (ns.length ≤ ms.length)) 0 (min ns.length ms.length)
def leM : PyData → PyData → KB → Prop
  | .int i, .int j, K => K (decide (i ≤ j))
  | .tuple xs, .tuple ys, K => match intsOf xs, intsOf ys with
    | some ns, some ms => K (leTup ns ms)
    | _, _ => False
  | _, _, _ => False
def gtM : PyData → PyData → KB → Prop
  | .int i, .int j, K => K (decide (j < i))
  | _, _, _ => False
def geM : PyData → PyData → KB → Prop
  | .int i, .int j, K => K (decide (j ≤ i))
  | _, _, _ => False
def flAll : List PyData → Option (List V)
  | [] => some []
  | d :: r => match fl d, flAll r with
    | some v, some l => some (v :: l)
    | _, _ => none
def inLstM (x : PyData) (ds : List PyData) (K : KB) : Prop := match fl x, flAll ds with
  | some v, some vs => K (inV v vs)
  | _, _ => SeqAt.shaped x = true ∧ SeqAt.shaped (.list ds) = true ∧ K (ds.any fun z => PyData.eqv z x)
def inTplM (x : PyData) (ds : List PyData) (K : KB) : Prop := match fl x, flAll ds with
  | some v, some vs => K (inV v vs)
  | _, _ => SeqAt.shaped x = true ∧ SeqAt.shaped (.tuple ds) = true ∧ K (ds.any fun z => PyData.eqv z x)
def inM (x : PyData) : PyData → KB → Prop
  | .list ds, K => inLstM x ds K
  | .tuple ds, K => inTplM x ds K
  | .str t, K => match x with
    | .str s => K (!(Builtin.Str.occurrences t s 0 t.length 1).isEmpty)
    | _ => False
  | _, _ => False
def notInM (x c : PyData) (K : KB) : Prop := inM x c fun b => K (!b)
def ixM : PyData → PyData → KD → Prop
  | .list xs, .int i, K => match atI xs i with
    | some y => K y
    | none => False
  | .tuple xs, .int i, K => match atI xs i with
    | some y => K y
    | none => False
  | .str s, .int i, K => s.length ≤ sizeLine ∧ match atI s.cps.toList i with
    | some c => K (sgn c)
    | none => False
  | _, _, _ => False
def intO : PyData → (Int → Prop) → Prop
  | .int i, K => K i
  | _, _ => False
def slM : PyData → Option Int → Option Int → KD → Prop
  | .list xs, lo, hi, K => K (.list (cut xs lo hi))
  | .tuple xs, lo, hi, K => K (.tuple (cut xs lo hi))
  | .str z, lo, hi, K => z.length ≤ sizeLine ∧ K (.str (cutS z lo hi))
  | _, _, _, _ => False
def slLM : PyData → Option Int → Option Int → KL → Prop
  | .list xs, lo, hi, K => K (cut xs lo hi)
  | _, _, _, _ => False
def revM : PyData → KL → Prop
  | .list xs, K => K xs.reverse
  | _, _ => False
def lenM : PyData → KD → Prop
  | .list xs, K => K (.int xs.length)
  | .tuple xs, K => K (.int xs.length)
  | .str s, K => s.length ≤ sizeLine ∧ K (.int s.length)
  | _, _ => False
def absM : PyData → KD → Prop
  | .int i, K => K (.int (if i < 0 then -i else i))
  | _, _ => False
def sumM : PyData → KD → Prop
  | .list xs, K => match intsOf xs with
    | some ns => K (.int ns.sum)
    | none => False
  | _, _ => False
def boolsOf : List PyData → Option (List Bool)
  | [] => some []
  | .bool i :: r => match boolsOf r with
    | some l => some (i :: l)
    | none => none
  | _ :: _ => none
def allM : PyData → KD → Prop
  | .list xs, K => match boolsOf xs with
    | some ns => K (.bool (ns.all id))
    | none => False
  | _, _ => False
def anyM : PyData → KD → Prop
  | .list xs, K => match boolsOf xs with
    | some ns => K (.bool (ns.any id))
    | none => False
  | _, _ => False
def intM : PyData → KD → Prop
  | .int i, K => K (.int i)
  | .bool b, K => K (.int (if b then 1 else 0))
  | _, _ => False
def tupM : PyData → KD → Prop
  | .list xs, K => K (.tuple xs)
  | .tuple xs, K => K (.tuple xs)
  | _, _ => False
def listM : PyData → KL → Prop
  | .list xs, K => K xs
  | .tuple xs, K => K xs
  | _, _ => False
def sortM : PyData → KL → Prop
  | .list ds, K => (PySem.W.AllAlike ds ∧ PySem.W.Sortable ds ∧ ∀ d ∈ ds, SeqAt.shaped d = true) ∧ K (srt ds)
  | _, _ => False
def min2M : PyData → PyData → KD → Prop
  | .int i, .int j, K => K (.int (if j < i then j else i))
  | _, _, _ => False
def max2M : PyData → PyData → KD → Prop
  | .int i, .int j, K => K (.int (if j > i then j else i))
  | _, _, _ => False
def andM (ma mb : KB → Prop) (K : KB) : Prop := ma fun b => (b = true → mb K) ∧ (b = false → K false)
def orM (ma mb : KB → Prop) (K : KB) : Prop := ma fun b => (b = true → K true) ∧ (b = false → mb K)
def un2 : PyData → (PyData → PyData → Prop) → Prop
  | .tuple [a, b], K => K a b
  | _, _ => False
def un3 : PyData → (PyData → PyData → PyData → Prop) → Prop
  | .tuple [a, b, c], K => K a b c
  | _, _ => False
def un4 : PyData → (PyData → PyData → PyData → PyData → Prop) → Prop
  | .tuple [a, b, c, d], K => K a b c d
  | _, _ => False
theorem un2_sh {d : PyData} {K} (h : un2 d K) : ∃ a b, d = .tuple [a, b] ∧ K a b := by
  unfold un2 at h
  split at h
  · exact ⟨_, _, rfl, h⟩
  · exact h.elim
def forM {σ : Type} (bd : PyData → σ → (σ → Prop) → (σ → Prop) → Prop) (K : σ → Prop) : List PyData → σ → Prop
  | [], s => K s
  | x :: xs, s => bd x s (fun s' => forM bd K xs s') K
def whileM {σ : Type} (st : σ → (σ → Prop) → (σ → Prop) → Prop) (K : σ → Prop) : Nat → σ → Prop
  | 0, _ => False
  | n + 1, s => st s (fun s' => whileM st K n s') K
def lcM {β : Type} (bd : PyData → (β → Prop) → Prop → Prop) (K : List β → Prop) : List PyData → List β → Prop
  | [], acc => K acc
  | x :: xs, acc => bd x (fun y => lcM bd K xs (acc ++ [y])) (lcM bd K xs acc)
/-- ways that come together -/
def joinM {σ : Type} (bd : (σ → Prop) → Prop) (K : σ → Prop) : Prop := bd K
section
variable {X : Cx} {g : G} {env env' : List Sl} {Ψ : Exc → Prop} {P : Po} {pos p lp : Pos} {a b c e tg iter : Expr} {es : List Expr} {rest body : List Stmt} {K : Frag} {F F' H H' : Hp} {σ σ' : SS} {x y : PyData} {z1 z2 : Bool}
theorem ws_env {env' : List Sl} (h : env = env') (k : WS X g rest env' P) : WS X g rest env P := h ▸ k
section
variable {Q : KD} {Φ : PyData → Bool → Prop}
theorem add_sh (h : addM x y Q) (k : ∀ r, Q r → Φ r true) : AddP Φ x z1 y z2 := by
  unfold addM at h
  split at h
  · exact .int (k _ h)
  · exact .str (k _ h.2) h.1
  · exact .lst (k _ h.2) h.1
  · exact .tup (k _ h.2) h.1
  · exact h.elim
theorem sub_sh (h : subM x y Q) (k : ∀ r, Q r → Φ r true) : IntP (fun _ _ => True) (fun i j => i - j) Φ x z1 y z2 := by
  unfold subM at h
  split at h
  · exact ⟨k _ h, trivial⟩
  · exact h.elim
inductive MulP (Φ : PyData → Bool → Prop) : PyData → Bool → PyData → Bool → Prop
  | mk {i j : Int} {z1 z2 : Bool} : Φ (.int (i * j)) true → CMul i j ∨ CMulW i j → MulP Φ (.int i) z1 (.int j) z2
theorem we_mulA (h : WE X g a env (fun d1 z1 => WE X g b env (fun d2 z2 => MulP Φ d1 z1 d2 z2) Ψ) Ψ) : WE X g (.BinOp a .Mult b pos) env Φ Ψ :=
  we_op (pe_op (op_mul.or op_mulW) (peS a) (peS b)) (fun _ _ _ _ ⟨h, hc⟩ => by
    rcases hc with hc | hc
    · exact dop_l (dop_I hc h fun F => .int _)
    · exact dop_r (dop_I hc h fun F => .int _)) h
theorem mul_sh (h : mulM x y Q) (k : ∀ r, Q r → Φ r true) : MulP Φ x z1 y z2 := by
  unfold mulM at h
  split at h
  · exact ⟨k _ h.2, h.1⟩
  · exact h.elim
theorem div_sh (h : divM x y Q) (k : ∀ r, Q r → Φ r true) : IntP CDivW (fun i j => i / j) Φ x z1 y z2 := by
  unfold divM at h
  split at h
  · exact ⟨k _ h.2, h.1⟩
  · exact h.elim
theorem mod_sh (h : modM x y Q) (k : ∀ r, Q r → Φ r true) : IntP (fun _ j => 0 < j) (fun i j => i % j) Φ x z1 y z2 := by
  unfold modM at h
  split at h
  · exact ⟨k _ h.2, h.1⟩
  · exact h.elim
theorem ix_sh (h : ixM x y Q) (k : ∀ r, Q r → Φ r true) : IxP Φ x z1 y z2 := by
  unfold ixM at h
  split at h
  · split at h
    · rename_i e; exact .lst (k _ h) e
    · exact h.elim
  · split at h
    · rename_i e; exact .tup (k _ h) e
    · exact h.elim
  · obtain ⟨h1, h⟩ := h
    split at h
    · rename_i e; exact .str (k _ h) h1 e
    · exact h.elim
  · exact h.elim
theorem len_sh (h : lenM x Q) (k : ∀ r, Q r → Φ r true) : LenP Φ x z1 := by
  unfold lenM at h
  split at h
  · exact .lst (k _ h)
  · exact .tup (k _ h)
  · exact .str (k _ h.2) h.1
  · exact h.elim
theorem intsOf_eq : ∀ {xs : List PyData} {ns : List Int}, intsOf xs = some ns → xs = ns.map .int
  | [], _, h => by cases h; rfl
  | d :: r, ns, h => by
    cases d with
    | int i =>
      unfold intsOf at h
      split at h
      · rename_i l e; cases h; rw [intsOf_eq e]; rfl
      · cases h
    | _ => cases h
theorem ints_of (ns : List Int) : intsOf (ns.map .int) = some ns := by
  induction ns with
  | nil => rfl
  | cons n ns ih => show (match intsOf (ns.map .int) with | some l => some (n :: l) | none => none) = _; rw [ih]
theorem bools_of (ns : List Bool) : boolsOf (ns.map .bool) = some ns := by
  induction ns with
  | nil => rfl
  | cons n ns ih => show (match boolsOf (ns.map .bool) with | some l => some (n :: l) | none => none) = _; rw [ih]
theorem sum_sh (h : sumM x Q) (k : ∀ r, Q r → Φ r true) : ∃ ns : List Int, x = .list (ns.map .int) ∧ Φ (.int ns.sum) true := by
  unfold sumM at h
  split at h
  · split at h
    · rename_i e; exact ⟨_, by rw [intsOf_eq e], k _ h⟩
    · exact h.elim
  · exact h.elim
theorem tup_sh (h : tupM x Q) (k : ∀ r, Q r → Φ r true) (hz : z1 = true ∨ isTyB "tuple" x = false := by exact Or.inl rfl) : TupP Φ x z1 := by
  unfold tupM at h
  split at h
  · exact .lst (k _ h)
  · rcases hz with hz | hz
    · subst hz; exact .tup (k _ h)
    · rename_i xs
      have e : isTyB "tuple" (.tuple xs) = true := by show (L2.kitB "tuple" "tuple").getD false = true; decide +kernel
      rw [e] at hz; cases hz
  · exact h.elim
theorem min2_sh (h : min2M x y Q) (k : ∀ r, Q r → Φ r true) : ∃ i j, x = .int i ∧ y = .int j ∧ Φ (.int (if j < i then j else i)) true := by
  unfold min2M at h
  split at h
  · exact ⟨_, _, rfl, rfl, k _ h⟩
  · exact h.elim
theorem max2_sh (h : max2M x y Q) (k : ∀ r, Q r → Φ r true) : ∃ i j, x = .int i ∧ y = .int j ∧ Φ (.int (if j > i then j else i)) true := by
  unfold max2M at h
  split at h
  · exact ⟨_, _, rfl, rfl, k _ h⟩
  · exact h.elim
end
theorem bool_sh {Q : KB} {Φ : Bool → Prop} (h : boolM x Q) (k : ∀ r, Q r → Φ r) : ∃ b, x = .bool b ∧ Φ b := by
  unfold boolM at h
  split at h
  · exact ⟨_, rfl, k _ h⟩
  · exact h.elim
section
variable {Q : KL} {Φ : List PyData → Prop}
theorem sort_sh (h : sortM x Q) (k : ∀ r, Q r → Φ r) : ∃ ds, x = .list ds ∧ PySem.W.AllAlike ds ∧ PySem.W.Sortable ds ∧ (∀ d ∈ ds, SeqAt.shaped d = true) ∧ Φ (srt ds) := by
  unfold sortM at h
  split at h
  · exact ⟨_, rfl, h.1.1, h.1.2.1, h.1.2.2, k _ h.2⟩
  · exact h.elim
end
theorem into_sh {Q : Int → Prop} {Φ : Int → Prop} (h : intO x Q) (k : ∀ r, Q r → Φ r) : ∃ i, x = .int i ∧ Φ i := by
  unfold intO at h
  split at h
  · exact ⟨_, rfl, k _ h⟩
  · exact h.elim
section
variable {Q : KB} {Φ : KB}
theorem eq_sh (h : eqM x y Q) (k : ∀ b, Q b → Φ b) : ∃ b, CP K g env (rEqA K) x z1 y z2 b ∧ Φ b := by
  unfold eqM at h
  split at h
  · exact ⟨_, cp_eqI, k _ h⟩
  · exact ⟨_, cp_eqS, k _ h⟩
  · exact ⟨_, cp_eqB, k _ h⟩
  · exact ⟨_, cp_eqD h.1 h.2.1, k _ h.2.2⟩
abbrev rLeA (K : Frag) : R2 := fun x y H Q => (rI0 fun i j => .bl (decide (i ≤ j))) x y H Q ∨ rLeT K x y H Q
theorem op_leA {k : Nat} (hr : Room k X.A) : OpR X (compareOp .LtE) (rLeA X.K) := op_le.or (op_leT hr.units0)
theorem cp_leA {i j : Int} : CP K g env (rLeA K) (.int i) z1 (.int j) z2 (decide (i ≤ j)) := cp_l cp_le
theorem cp_leTA (ns ms : List Int) : CP K g env (rLeA K) (.tuple (ns.map .int)) z1 (.tuple (ms.map .int)) z2 (leTup ns ms) := cp_r fun σ F H v1 v2 st r1 r2 Q q => by
  obtain ⟨a1, vs1, rfl, s1, p1⟩ := rd_tup st.toSk r1
  obtain ⟨a2, vs2, rfl, s2, p2⟩ := rd_tup st.toSk r2
  rw [dpa_ints_eq p1] at s1
  rw [dpa_ints_eq p2] at s2
  exact ⟨a1, a2, ns, ms, rfl, rfl, s1, s2, q⟩
theorem le_sh (h : leM x y Q) (k : ∀ b, Q b → Φ b) : ∃ b, CP K g env (rLeA K) x z1 y z2 b ∧ Φ b := by
  unfold leM at h
  split at h
  · exact ⟨_, cp_leA, k _ h⟩
  · split at h
    · rename_i e1 e2
      rw [intsOf_eq e1, intsOf_eq e2]
      exact ⟨_, cp_leTA _ _, k _ h⟩
    · exact h.elim
  · exact h.elim
theorem gt_sh (h : gtM x y Q) (k : ∀ b, Q b → Φ b) : ∃ b, CP K g env (rI0 fun i j => .bl (decide (j < i))) x z1 y z2 b ∧ Φ b := by
  unfold gtM at h
  split at h
  · exact ⟨_, cp_gt, k _ h⟩
  · exact h.elim
end
section
variable {ma mb mt : KB → Prop} {Q : KB} {Φ : KB}
theorem WW.mono {Φ' : Bool → Prop} (h : WW X g e env Φ Ψ) (k : ∀ d, Φ d → Φ' d) : WW X g e env Φ' Ψ :=
  fun W tk σ F H st hx Q hQ => h W tk σ F H st hx Q fun b F' H' p => hQ b F' H' (k b p)
theorem we_andS {re : List Expr} {Φ : PyData → Bool → Prop} (h : andM ma mb Q) (ha : ∀ Q, ma Q → WE X g a env (fun d _ => ∃ k, d = .bool k ∧ Q k) Ψ) (hb : ∀ Q, mb Q → WE X g (.BoolOp .And (b :: re) pos) env (fun d _ => ∃ k, d = .bool k ∧ Q k) Ψ) (k : ∀ r, Q r → Φ (.bool r) true) : WE X g (.BoolOp .And (a :: b :: re) pos) env Φ Ψ :=
  we_and ((ha _ h).mono fun d z ⟨r, hd, h1, h2⟩ => ⟨r, hd, fun e => by
    intro W tk σ F H st hx Q' hQ'
    refine hb _ (h1 e) W tk σ F H st hx Q' fun d z v F' H' ⟨r2, hd2, h3⟩ s1 e1 r1 => ?_
    subst hd2
    have := rd_bl r1
    subst this
    exact hQ' _ true _ F' H' (k _ h3) s1 e1 (.bl _), fun e => k _ (h2 e)⟩)
end
section
variable {t : TG} {A : PyData → Option (List (Nat × PyData))} {τ υ : Type}
theorem forS {bd : PyData → τ → (τ → Prop) → (τ → Prop) → Prop} {Q : τ → Prop} {xs : List PyData} {s0 : τ} (h : forM bd Q xs s0) (mk : τ → υ → List Sl) (u0 : υ) (h0 : env = mk s0 u0) (hend : ∀ s u, Q s → P.nx (mk s u))
    (hturn : (∀ s u, Q s → P.nx (mk s u)) → ∀ x s u (N : τ → Prop), bd x s N Q → ∃ l, A x = some l ∧ (l.all fun q => Nat.blt q.1 (mk s u).length) = true ∧ WS X g body (putsE (mk s u) l) (P.turn fun e => ∃ s' u', N s' ∧ e = mk s' u')) :
    ∃ Pv : Nat → List Sl → Prop, Pv 0 env ∧ (∀ i x, xs[i]? = some x → FT X g body A P Pv i x) ∧ ∀ e, Pv xs.length e → P.nx e := by
  refine ⟨fun i e => ∃ s u, forM bd Q (xs.drop i) s ∧ e = mk s u, ⟨s0, u0, h, h0⟩, fun i x hx e ⟨s, u, hf, he⟩ => ?_, fun e ⟨s, u, hf, he⟩ => ?_⟩
  · subst he
    have hi := (List.getElem?_eq_some_iff.mp hx).1
    have ed : xs.drop i = x :: xs.drop (i + 1) := by
      rw [List.drop_eq_getElem_cons hi]
      congr 1
      exact (List.getElem?_eq_some_iff.mp hx).2
    rw [ed] at hf
    obtain ⟨l, h1, h2, h3⟩ := hturn hend x s u _ hf
    exact ⟨l, h1, h2, h3⟩
  · subst he
    rw [List.drop_length] at hf
    exact hend s u hf
theorem whileS {st : τ → (τ → Prop) → (τ → Prop) → Prop} {Q : τ → Prop} {s0 : τ} (h : ∃ n, whileM st Q n s0) (hp : PassesOwn (model X.prog X.w) X.A X.env X.xe) (mk : τ → υ → List Sl) (u0 : υ) (h0 : env = mk s0 u0) (hend : ∀ s u, Q s → P.nx (mk s u))
    (hturn : (∀ s u, Q s → P.nx (mk s u)) → ∀ s u (N : τ → Prop), st s N Q → WT X g c (mk s u) (fun k => (k = true → WS X g body (mk s u) (P.turn fun e => ∃ s' u', N s' ∧ e = mk s' u')) ∧ (k = false → P.nx (mk s u))) (fun c => P.ex c (mk s u))) : W1 X g (.While c body [] pos) env P := by
  obtain ⟨n, h⟩ := h
  refine w1_while hp (fun m e => ∃ s u, whileM st Q m s ∧ e = mk s u) n ⟨s0, u0, h, h0⟩ fun m e ⟨s, u, hw, he⟩ => ?_
  subst he
  cases m with
  | zero => exact hw.elim
  | succ m =>
    refine (hturn hend s u _ hw).mono fun k ⟨h1, h2⟩ => ⟨fun e => ?_, h2⟩
    exact (h1 e).mono (fun e ⟨s', u', h3, h4⟩ => ⟨m, Nat.lt_succ_self _, s', u', h3, h4⟩) (fun _ _ h => h) (fun _ h => h) (fun e ⟨s', u', h3, h4⟩ => ⟨m, Nat.lt_succ_self _, s', u', h3, h4⟩) (fun _ _ h => h)
theorem lcS {bd : PyData → KD → Prop → Prop} {Q : KL} {xs : List PyData} {scope : Scope} {ifs : List Expr} {elt : Expr} {vs : List Nat} {Φ : List PyData → Prop} (h : lcM bd Q xs []) 
    (ht : ∀ x (kp : KD) (sk : Prop), bd x kp sk → ∃ l, A x = some l ∧ (l.all fun q => vs.elem q.1 && Nat.blt q.1 env.length) = true ∧ ∀ (g' : G) s H0 C cl fp, WTs (BX X scope s H0 C cl fp) g' ifs (putsE (wipeE env vs) l) (fun b =>
      (b = true → ∀ s H0 C cl fp, WE (BX X scope s H0 C cl fp) g' elt (putsE (wipeE env vs) l) (fun y z => z = true ∧ kp y) (fun _ => False)) ∧ (b = false → sk))) (k : ∀ acc, Q acc → Φ acc) :
    ∃ Pv : Nat → List PyData → Prop, Pv 0 [] ∧ (∀ i x, xs[i]? = some x → LT2 X env scope ifs elt vs A Pv i x) ∧ ∀ acc, Pv xs.length acc → Φ acc := by
  refine ⟨fun i acc => lcM bd Q (xs.drop i) acc, h, fun i x hx acc hq => ?_, fun acc hq => k acc (by
    have hq : lcM bd Q (xs.drop xs.length) acc := hq
    rw [List.drop_length] at hq; exact hq)⟩
  have hi := (List.getElem?_eq_some_iff.mp hx).1
  have ed : xs.drop i = x :: xs.drop (i + 1) := by
    rw [List.drop_eq_getElem_cons hi]
    congr 1
    exact (List.getElem?_eq_some_iff.mp hx).2
  have hq : lcM bd Q (xs.drop i) acc := hq
  rw [ed] at hq
  exact ht x _ _ hq
end
/-- behind ways that come together -/
theorem ws_joinS {τ υ : Type} {st : Stmt} {bd : (τ → Prop) → Prop} {Q : τ → Prop} (h : joinM bd Q) (mk : τ → υ → List Sl) (h1 : ∀ Q, bd Q → W1 X g st env (P.thn fun e => ∃ s u, Q s ∧ e = mk s u)) (h2 : ∀ s u, Q s → WS X g rest (mk s u) P) : WS X g (st :: rest) env P :=
  ws_mid (fun e => ∃ s u, Q s ∧ e = mk s u) (h1 Q h) fun e ⟨s, u, hq, he⟩ => he ▸ h2 s u hq
end
end TL
namespace TL
open PySem PySem.Spec PyProof.Rows L2
def keyA : PyData → Option Key
  | .int i => some (.inl i)
  | .str s => some (.inr s)
  | _ => none
def keyAs : List PyData → Option (List Key)
  | [] => some []
  | d :: r => match keyA d, keyAs r with
    | some k, some l => some (k :: l)
    | _, _ => none
def keyT : PyData → Option (List Key)
  | .tuple xs => keyAs xs
  | _ => none
/-- keys that may be stored: a tuple of the module is none -/
def keyS : PyData → Option (List Key)
  | .tuple [.int a, .int b, .int c] => if a = 0 ∧ b = 1 ∧ c = 0 then none else some [.inl a, .inl b, .inl c]
  | d => keyT d
def getTM (kvs : List (List Key × PyData)) (key : PyData) (K : KD) : Prop := match keyT key with
  | some k => match valP kvs k with
    | some d => K d
    | none => False
  | none => False
def putTM (kvs : List (List Key × PyData)) (key v : PyData) (K : List (List Key × PyData) → Prop) : Prop := match keyS key with
  | some k => kvs.length < sizeLine ∧ K (putP kvs k v)
  | none => False
theorem keyA_eq {d : PyData} {k : Key} (h : keyA d = some k) : d = kD k := by
  unfold keyA at h
  split at h
  · cases h; rfl
  · cases h; rfl
  · cases h
theorem keyAs_eq : ∀ {ds : List PyData} {k : List Key}, keyAs ds = some k → ds = k.map kD
  | [], _, h => by cases h; rfl
  | d :: r, _, h => by
    unfold keyAs at h
    split at h
    · rename_i e1 e2
      cases h
      rw [keyA_eq e1, keyAs_eq e2]; rfl
    · cases h
theorem keyT_eq {d : PyData} {k : List Key} (h : keyT d = some k) : d = .tuple (k.map kD) := by
  unfold keyT at h
  split at h
  · rw [keyAs_eq h]
  · cases h
theorem keyS_eq {d : PyData} {k : List Key} (h : keyS d = some k) : keyT d = some k ∧ d ≠ startD := by
  unfold keyS at h
  split at h
  · split at h
    · cases h
    · rename_i hn
      cases h
      refine ⟨rfl, fun e => hn ?_⟩
      injection e with e
      injection e with e1 e
      injection e with e2 e
      injection e with e3 e
      injection e1 with e1
      injection e2 with e2
      injection e3 with e3
      exact ⟨e1, e2, e3⟩
  · rename_i hn
    exact ⟨h, fun e => hn 0 1 0 e⟩
section
variable {X : Cx} {g : G} {env env' : List Sl} {Ψ : Exc → Prop} {P : Po} {pos p lp : Pos} {a b c e tg iter : Expr} {es : List Expr} {rest body : List Stmt} {K : Frag} {F F' H H' : Hp} {σ σ' : SS} {x y : PyData} {z1 z2 : Bool}
theorem into_ob {Q : Int → Prop} (h : intO x Q) : ∃ i, x = .int i ∧ Q i := into_sh h fun _ h => h
theorem rng_sh {lo hi : PyData} {Q Φ : KL} (h : rngM lo hi Q) (k : ∀ r, Q r → Φ r) : rngM lo hi Φ := by
  unfold rngM at *
  split at h
  · exact ⟨h.1, k _ h.2⟩
  · exact h.elim
theorem it_sh {Q Φ : KL} (h : itM x Q) (k : ∀ r, Q r → Φ r) : itM x Φ := by
  unfold itM at *
  split at h
  · exact k _ h
  · exact k _ h
  · exact ⟨h.1, k _ h.2⟩
  · exact h.elim
theorem ch_sh2 {ma mb : KB → Prop} {Q Φ : KB} {r r' : R2} (h : andM ma mb Q) (h1 : ∀ Q, ma Q → ∃ k, CP X.K g env r x z1 y z2 k ∧ Q k) (h2 : ∀ Q, mb Q → WE X g c env (fun d3 z3 => ∃ k', CP X.K g env r' y z2 d3 z3 k' ∧ Q k') Ψ) (k : ∀ b, Q b → Φ b) :
    ∃ k, CP X.K g env r x z1 y z2 k ∧ (k = true → WE X g c env (fun d3 z3 => ∃ k', CP X.K g env r' y z2 d3 z3 k' ∧ Φ k') Ψ) ∧ (k = false → Φ false) := by
  obtain ⟨b, hb, q1, q2⟩ := h1 _ h
  exact ⟨b, hb, fun e => (h2 _ (q1 e)).mono fun d z ⟨k', c1, c2⟩ => ⟨k', c1, k _ c2⟩, fun e => k _ (q2 e)⟩
theorem kvp_val {κ : Type} [DecidableEq κ] {k : κ} : ∀ {xs : List (κ × V)} {kvs : List (κ × PyData)}, KVp K F xs kvs → (∀ d, valP kvs k = some d → ∃ v, valV xs k = some v ∧ Dq K F v d) ∧ (valV xs k).isSome = (valP kvs k).isSome
  | _, _, .nil => ⟨fun d h => (by cases h), rfl⟩
  | p :: xs, q :: kvs, .cons r t => by
    obtain ⟨i1, i2⟩ := kvp_val (k := k) t
    unfold valV valP
    rw [List.find?_cons, List.find?_cons, r.1]
    by_cases h : q.1 = k
    · rw [decide_eq_true h]
      refine ⟨fun d hd => ?_, rfl⟩
      have e : q.2 = d := Option.some.inj hd
      exact ⟨p.2, rfl, e ▸ r.2⟩
    · rw [decide_eq_false h]
      exact ⟨i1, i2⟩
section
variable {kT : List (List Key × PyData)} {kA : List (Key × PyData)} {key v : PyData}
theorem putT_sh {Q Φ : List (List Key × PyData) → Prop} (h : putTM kT key v Q) (k : ∀ r, Q r → Φ r) : ∃ q, keyS key = some q ∧ kT.length < sizeLine ∧ Φ (putP kT q v) := by
  unfold putTM at h
  split at h
  · rename_i e1; exact ⟨_, e1, h.1, k _ h.2⟩
  · exact h.elim
end
section
variable {k0 : Nat} {xn : Str} {q tpos : Pos} {al : Addr}
theorem keyT_dp {v : V} {k : List Key} {d : PyData} (h : Dq K F v d) (e : keyT d = some k) : ∃ t, v = .ref t ∧ SqT K F t (k.map kV) := by
  rw [keyT_eq e] at h
  obtain ⟨t, xs, rfl, h1, h2⟩ := dp_tup h
  rw [keys_eq h2] at h1
  exact ⟨t, rfl, h1⟩
theorem keyS_dp {v : V} {k : List Key} {d : PyData} (h : Dq K F v d) (e : keyS d = some k) : ∃ t, v = .ref t ∧ F t = some (.tup (k.map kV)) := by
  obtain ⟨e1, e2⟩ := keyS_eq e
  have e3 := keyT_eq e1
  subst e3
  obtain ⟨t, xs, rfl, h1, h2⟩ := dp_tup' (fun z => e2 (congrArg PyData.tuple z)) h
  rw [keys_eq h2] at h1
  exact ⟨t, rfl, h1⟩
theorem we_getT (i : Nat) {kvs : List (List Key × PyData)} {Φ : PyData → Bool → Prop} (hr : Room k0 X.A) (he : env[i]? = some (.dt al kvs) := by rfl) (h : WE X g a env (fun kd z => z = true ∧ ∃ k, keyT kd = some k ∧ ∃ d, valP kvs k = some d ∧ Φ d true) Ψ) (hN : X.N[i]? = some xn := by rfl)
    (hv : Vis X.env.scope xn := by first | exact Or.inl rfl | exact Or.inr (Or.inl rfl) | exact Or.inr (Or.inr rfl)) (hd : (xn == ("__debug__" : Str)) = false := by decide)
    (hcd : (xn == ("__classdict__" : Str)) = false := by decide) (hs : NoSl a := by exact fun _ _ => rfl) : WE X g (.Subscript (.Name xn q) a pos) env Φ Ψ := fun W tk σ F H st hx Q hQ => by
  refine semE_of (pe_dgetS (by have := hr.units; omega) (pe_var hN hv hd hcd) (peS a) hs) ?_
  obtain ⟨h1, vs, h2, h3⟩ := st.sl i _ he
  refine ⟨_, getD_some h1, ?_⟩
  refine h W tk σ F H st hx _ fun kd z v F1 H1 ⟨hz, k, hk, d, hd, hp⟩ s1 e1 r1 => ?_
  subst hz
  obtain ⟨t, rfl, ht⟩ := keyT_dp r1 hk
  obtain ⟨_, vs', h2', h3'⟩ := s1.sl i _ he
  obtain ⟨w, hw, dw⟩ := (kvp_val h3').1 d hd
  exact ⟨al, w, rfl, hw ▸ DGetS.t h2' (ex_t s1.ex ht), hQ d true w F1 H1 hp s1 e1 dw⟩
theorem w1_storeTA (i : Nat) {kvs : List (List Key × PyData)} (hr : Room k0 X.A) (he : env[i]? = some (.dt al kvs) := by rfl)
    (h : WE X g e env (fun d z => z = true ∧ WE X g a env (fun kd z => z = true ∧ ∃ k, keyS kd = some k ∧ kvs.length < sizeLine ∧ P.nx (env.set i (.dt al (putP kvs k d)))) (fun c => P.ex c env)) (fun c => P.ex c env)) (hN : X.N[i]? = some xn := by rfl)
    (hv : Vis X.env.scope xn := by first | exact Or.inl rfl | exact Or.inr (Or.inl rfl) | exact Or.inr (Or.inr rfl)) (hd : (xn == ("__debug__" : Str)) = false := by decide)
    (hcd : (xn == ("__classdict__" : Str)) = false := by decide)
    (hs : swapsWith e (some (.Subscript (.Name xn q) a tpos)) pos.line X.env = pure false := by rfl) : W1 X g (.Assign [.Subscript (.Name xn q) a tpos] e pos) env P := fun W tk hx2 σ F H s0 D hD => by
  refine semP_of (ps_dput (by have := hr.units; omega) (pe_var hN hv hd hcd) (peS a) (peS e) hs) ?_
  refine h W tk σ F H s0 (hx2.hx env σ) _ fun d z v F1 H1 ⟨hz, hw⟩ s1 e1 r1 => ?_
  subst hz
  obtain ⟨h1, vs, h2, h3⟩ := s1.sl i _ he
  refine ⟨_, getD_some h1, ?_⟩
  refine hw W tk σ F1 H1 s1 (hx2.hx env σ) _ fun kd z w F2 H2 ⟨hz, k, hk, hlen, hp⟩ s2 e2 r2 => ?_
  subst hz
  obtain ⟨t, rfl, ht⟩ := keyS_dp r2 hk
  obtain ⟨h1', vs', h2', h3'⟩ := s2.sl i _ he
  refine ⟨al, _, rfl, DPut.t h2' (s2.ex _ _ ht) (by rw [kvp_len h3']; exact hlen), ?_⟩
  exact hD.nx _ _ _ _ hp (s2.write he rfl rfl ⟨h1', _, upd_same, kvp_put h3' (dp_mono e2 _ _ r1)⟩) (e1.trans e2)
end
theorem ws_freeze (i : Nat) {al : Addr} {ds : List PyData} (ha : al ∉ g.M) (h : WS X g rest (env.set i (.d (.list ds))) P) (he : env[i]? = some (.ol al ds) := by rfl) : WS X g rest env P := fun W tk hx2 σ F H st D hD => by
  obtain ⟨h1, vs, h2, h3⟩ := st.sl i _ he
  have own : Own env al := ⟨i, _, he, by simp [Sl.fp]⟩
  have hi := (List.getElem?_eq_some_iff.mp he).1
  have s1 := st.weak (s' := .un) he (fun _ h => by cases h) fun _ => trivial
  have no : ¬ Own (env.set i .un) al := fun z => by
    obtain ⟨j, t, ej, ht⟩ := z
    rcases set_get ej with ⟨_, rfl⟩ | ⟨ne, ej⟩
    · cases ht
    · exact ne (st.nd i j _ t al he ej (by simp [Sl.fp]) ht)
  have h0 : g.H0 al = none := by
    rcases st.g2 al own with z | z
    · exact z
    · exact absurd z ha
  have e2 := Ex.new (o := .lst vs) (st.fr al own)
  have s2 := s1.freeze h2 (st.fr al own) no h0
  have hσ : σ.set i (some (.ref al)) = σ := by
    have hl : i < σ.length := by rw [st.len]; exact hi
    have e := getD_some h1
    obtain ⟨_, e'⟩ := List.getElem?_eq_some_iff.mp e
    rw [← e']
    exact List.set_getElem_self hl
  have s3 := s2.setD (i := i) (v := .ref al) (x := .list ds) (by rw [List.length_set]; exact hi) (.lst (SqL.of upd_same) (dpa_mono e2 _ _ h3))
  rw [hσ, List.set_set] at s3
  exact h W tk hx2 σ _ H s3 D (hD.mono e2)
end
theorem Has.imp {P : Program} {w : World} {K : Frag} {mg : Str → Option Value} {base : Heap} {j : Nat} {x : Str} {ps : List Str} {S S' : CT} (h : Has P w K mg base j x ps S) (i : ∀ args Φ Ψ, S' args Φ Ψ → S args Φ Ψ) : Has P w K mg base j x ps S' := by
  obtain ⟨f, fd, h1, h2, h3, h4⟩ := h.ex
  have up : ∀ vs H Q E, spOf K ps.length S' vs H Q E → spOf K ps.length S vs H Q E := fun vs H Q E ⟨q1, F, args, Φ, Ψ, q2, q3⟩ => ⟨q1, F, args, Φ, Ψ, i _ _ _ q2, q3⟩
  exact ⟨f, fd, h1, h2, h3, ⟨fun vs H Q E q => h4.len vs H Q E (up _ _ _ _ q), fun A outer s H args us vs Q E r e b v q => h4.run A outer s H args us vs Q E r e b v (up _ _ _ _ q)⟩⟩
theorem forM_inv {α τ : Type} {bd : PyData → τ → (τ → Prop) → (τ → Prop) → Prop} {K : τ → Prop} (L : List α) (d : α → PyData) (I : Nat → τ → Prop) (h : ∀ i a, L[i]? = some a → ∀ s, I i s → ∀ N : τ → Prop, (∀ s', I (i + 1) s' → N s') → bd (d a) s N K) (hK : ∀ s, I L.length s → K s) (s0 : τ) (h0 : I 0 s0) : forM bd K (L.map d) s0 := by
  have go : ∀ (M : List α) (i : Nat), (∀ j a, M[j]? = some a → L[i + j]? = some a) → i + M.length = L.length → ∀ s, I i s → forM bd K (M.map d) s := by
    intro M
    induction M with
    | nil => intro i _ hl s hs; exact hK s (by rw [← hl]; exact hs)
    | cons a M ih =>
      intro i hM hl s hs
      refine h i a (hM 0 a rfl) s hs _ fun s' hs' => ih (i + 1) (fun j b hj => ?_) (by simp only [List.length_cons] at hl; omega) s' hs'
      have := hM (j + 1) b hj
      rwa [show i + (j + 1) = i + 1 + j by omega] at this
  exact go L 0 (fun j a hj => by rwa [Nat.zero_add]) (by simp) s0 h0
end TL
namespace TL
open PySem PySem.Spec PyProof.Rows L2
section
variable {X : Cx} {g : G} {env env' : List Sl} {Ψ : Exc → Prop} {P : Po} {pos p lp : Pos} {a b c e tg iter : Expr} {es : List Expr} {rest body : List Stmt} {K : Frag} {F F' H H' : Hp} {σ σ' : SS} {x y : PyData} {z1 z2 : Bool} {Φ : PyData → Bool → Prop}
theorem sum_m {Q Q' : KD} (h : sumM x Q) (k : ∀ r, Q r → Q' r) : sumM x Q' := by
  unfold sumM at *
  split at h
  · split at h
    · exact k _ h
    · exact h.elim
  · exact h.elim
theorem min2_m {Q Q' : KD} (h : min2M x y Q) (k : ∀ r, Q r → Q' r) : min2M x y Q' := by
  unfold min2M at *
  split at h
  · exact k _ h
  · exact h.elim
theorem max2_m {Q Q' : KD} (h : max2M x y Q) (k : ∀ r, Q r → Q' r) : max2M x y Q' := by
  unfold max2M at *
  split at h
  · exact k _ h
  · exact h.elim
theorem sort_m {Q Q' : KL} (h : sortM x Q) (k : ∀ r, Q r → Q' r) : sortM x Q' := by
  unfold sortM at *
  split at h
  · exact ⟨h.1, k _ h.2⟩
  · exact h.elim
section
variable {kT : List (List Key × PyData)} {kA : List (Key × PyData)} {key v : PyData}
theorem putT_m {Q Q' : List (List Key × PyData) → Prop} (h : putTM kT key v Q) (k : ∀ r, Q r → Q' r) : putTM kT key v Q' := by
  unfold putTM at *
  split at h
  · exact ⟨h.1, k _ h.2⟩
  · exact h.elim
end
theorem we_sumA (hm : X.mg "sum" = none) (hc : X.calm = true) (h : WE X g a env (fun d _ => sumM d fun r => Φ r true) Ψ) (hg : Gl X "sum" := by rfl) (he : starEach [a] X.env = (false, eval a X.env) :: starEach [] X.env := by rfl) (hpl : (backTo pos (starEach ([] : List Expr) X.env)).any (·.1) = false := by rfl) : WE X g (.Call (.Name "sum" p) [a] [] pos) env Φ Ψ :=
  we_sum hm hc (h.mono fun d z h => sum_sh (Φ := Φ) h fun _ h => h) hg he
theorem we_min2A (hm : X.mg "min" = none) (hc : X.calm = true) (h : WE X g a env (fun d1 _ => WE X g b env (fun d2 _ => min2M d1 d2 fun r => Φ r true) Ψ) Ψ) (hg : Gl X "min" := by rfl) (he : starEach [a, b] X.env = (false, eval a X.env) :: starEach [b] X.env := by rfl) (he2 : starEach [b] X.env = (false, eval b X.env) :: starEach [] X.env := by rfl) (hpl : (backTo pos (starEach [b] X.env)).any (·.1) = false := by rfl) : WE X g (.Call (.Name "min" p) [a, b] [] pos) env Φ Ψ :=
  we_min2 hm hc (h.mono fun d z h => h.mono fun d z h => min2_sh (Φ := Φ) h fun _ h => h) hg he he2 hpl
theorem we_max2A (hm : X.mg "max" = none) (hc : X.calm = true) (h : WE X g a env (fun d1 _ => WE X g b env (fun d2 _ => max2M d1 d2 fun r => Φ r true) Ψ) Ψ) (hg : Gl X "max" := by rfl) (he : starEach [a, b] X.env = (false, eval a X.env) :: starEach [b] X.env := by rfl) (he2 : starEach [b] X.env = (false, eval b X.env) :: starEach [] X.env := by rfl) (hpl : (backTo pos (starEach [b] X.env)).any (·.1) = false := by rfl) : WE X g (.Call (.Name "max" p) [a, b] [] pos) env Φ Ψ :=
  we_max2 hm hc (h.mono fun d z h => h.mono fun d z h => max2_sh (Φ := Φ) h fun _ h => h) hg he he2 hpl
theorem wn_sortedA {k : Nat} {Φ : List PyData → Prop} (hm : X.mg "sorted" = none) (hr : Room k X.A) (h : WE X g a env (fun d _ => sortM d Φ) Ψ) (hg : Gl X "sorted" := by rfl) (he : starEach [a] X.env = (false, eval a X.env) :: starEach [] X.env := by rfl) : WN X g (.Call (.Name "sorted" p) [a] [] pos) env Φ Ψ :=
  wn_sorted hm hr (h.mono fun d z h => sort_sh (Φ := Φ) h fun _ h => h) hg he
section
variable {k0 : Nat} {xn : Str} {q tpos : Pos} {al : Addr}
theorem w1_storeTB (i : Nat) {kvs : List (List Key × PyData)} (hr : Room k0 X.A)
    (h : WE X g e env (fun d z => z = true ∧ WE X g a env (fun kd z => z = true ∧ putTM kvs kd d fun r => P.nx (env.set i (.dt al r))) (fun c => P.ex c env)) (fun c => P.ex c env)) (he : env[i]? = some (.dt al kvs) := by rfl) (hN : X.N[i]? = some xn := by rfl)
    (hv : Vis X.env.scope xn := by first | exact Or.inl rfl | exact Or.inr (Or.inl rfl) | exact Or.inr (Or.inr rfl)) (hd : (xn == ("__debug__" : Str)) = false := by decide)
    (hcd : (xn == ("__classdict__" : Str)) = false := by decide)
    (hs : swapsWith e (some (.Subscript (.Name xn q) a tpos)) pos.line X.env = pure false := by rfl) : W1 X g (.Assign [.Subscript (.Name xn q) a tpos] e pos) env P :=
  w1_storeTA i hr he (h.mono fun d z ⟨hz, h⟩ => ⟨hz, h.mono fun d z ⟨hz, h⟩ => ⟨hz, putT_sh (Φ := fun r => P.nx (env.set i (.dt al r))) h fun _ h => h⟩⟩) hN hv hd hcd hs
end
end
end TL
namespace TL
open PySem PySem.Spec PyProof.Rows L2
section
variable {i j : Int} {s t : Str} {b c : Bool} {xs ys : List PyData} {x y z u : PyData} {K : KD} {KL' : KL} {KB' : KB} {E : KX}
theorem q_add_ii : addM (.int i) (.int j) K = K (.int (i + j)) := rfl
theorem q_add_ss : addM (.str s) (.str t) K = (s.length + t.length ≤ sizeLine ∧ K (.str (s ++ t))) := rfl
theorem q_add_ll : addM (.list xs) (.list ys) K = (xs.length + ys.length ≤ sizeLine ∧ K (.list (xs ++ ys))) := rfl
theorem q_add_tt : addM (.tuple xs) (.tuple ys) K = (xs.length + ys.length ≤ sizeLine ∧ K (.tuple (xs ++ ys))) := rfl
theorem q_addL : addLM (.list xs) (.list ys) KL' = (xs.length + ys.length ≤ sizeLine ∧ KL' (xs ++ ys)) := rfl
theorem q_sub : subM (.int i) (.int j) K = K (.int (i - j)) := rfl
theorem q_mul : mulM (.int i) (.int j) K = ((CMul i j ∨ CMulW i j) ∧ K (.int (i * j))) := rfl
theorem q_div : divM (.int i) (.int j) K = (CDivW i j ∧ K (.int (i / j))) := rfl
theorem q_mod : modM (.int i) (.int j) K = (0 < j ∧ K (.int (i % j))) := rfl
theorem q_neg : negM (.int i) K = K (.int (-i)) := rfl
theorem q_bool : boolM (.bool b) KB' = KB' b := rfl
theorem q_eq_ii : eqM (.int i) (.int j) KB' = KB' (decide (i = j)) := rfl
theorem q_eq_ss : eqM (.str s) (.str t) KB' = KB' (decide (s = t)) := rfl
theorem q_eq_bb : eqM (.bool b) (.bool c) KB' = KB' (decide (b = c)) := rfl
theorem q_ne_ii : neM (.int i) (.int j) KB' = KB' (!decide (i = j)) := rfl
theorem q_ne_ss : neM (.str s) (.str t) KB' = KB' (!decide (s = t)) := rfl
theorem q_ne_bb : neM (.bool b) (.bool c) KB' = KB' (!decide (b = c)) := rfl
theorem q_lt : ltM (.int i) (.int j) KB' = KB' (decide (i < j)) := rfl
theorem q_le : leM (.int i) (.int j) KB' = KB' (decide (i ≤ j)) := rfl
theorem q_gt : gtM (.int i) (.int j) KB' = KB' (decide (j < i)) := rfl
theorem q_ge : geM (.int i) (.int j) KB' = KB' (decide (j ≤ i)) := rfl
theorem q_un2 {K : PyData → PyData → Prop} : un2 (.tuple [x, y]) K = K x y := rfl
theorem q_un3 {K : PyData → PyData → PyData → Prop} : un3 (.tuple [x, y, z]) K = K x y z := rfl
theorem q_un4 {K : PyData → PyData → PyData → PyData → Prop} : un4 (.tuple [x, y, z, u]) K = K x y z u := rfl
theorem q_intO {K : Int → Prop} : intO (.int i) K = K i := rfl
theorem q_len_l : lenM (.list xs) K = K (.int xs.length) := rfl
theorem q_len_t : lenM (.tuple xs) K = K (.int xs.length) := rfl
theorem q_len_s : lenM (.str s) K = (s.length ≤ sizeLine ∧ K (.int s.length)) := rfl
theorem q_abs : absM (.int i) K = K (.int (if i < 0 then -i else i)) := rfl
theorem q_int_i : intM (.int i) K = K (.int i) := rfl
theorem q_int_b : intM (.bool b) K = K (.int (if b then 1 else 0)) := rfl
theorem q_tup_l : tupM (.list xs) K = K (.tuple xs) := rfl
theorem q_tup_t : tupM (.tuple xs) K = K (.tuple xs) := rfl
theorem q_list_l : listM (.list xs) KL' = KL' xs := rfl
theorem q_list_t : listM (.tuple xs) KL' = KL' xs := rfl
theorem q_min : min2M (.int i) (.int j) K = K (.int (if j < i then j else i)) := rfl
theorem q_max : max2M (.int i) (.int j) K = K (.int (if j > i then j else i)) := rfl
theorem q_it_l : itM (.list xs) KL' = KL' xs := rfl
theorem q_it_t : itM (.tuple xs) KL' = KL' xs := rfl
theorem q_rng : rngM (.int i) (.int j) KL' = ((-1000000 ≤ i ∧ i ≤ 1000000 ∧ -1000000 ≤ j ∧ j ≤ 1000000) ∧ KL' (rangeL i j)) := rfl
theorem q_enu_l : enuM (.list xs) KL' = KL' (enumL xs) := rfl
theorem q_enu_t : enuM (.tuple xs) KL' = KL' (enumL xs) := rfl
theorem q_rev : revM (.list xs) KL' = KL' xs.reverse := rfl
theorem q_sl_l {lo hi : Option Int} : slM (.list xs) lo hi K = K (.list (cut xs lo hi)) := rfl
theorem q_sl_t {lo hi : Option Int} : slM (.tuple xs) lo hi K = K (.tuple (cut xs lo hi)) := rfl
theorem q_sl_s {lo hi : Option Int} : slM (.str s) lo hi K = (s.length ≤ sizeLine ∧ K (.str (cutS s lo hi))) := rfl
theorem q_slL {lo hi : Option Int} : slLM (.list xs) lo hi KL' = KL' (cut xs lo hi) := rfl
theorem q_all (ns : List Bool) : allM (.list (ns.map .bool)) K = K (.bool (ns.all id)) := by
  show (match boolsOf (ns.map .bool) with | some ns => K (.bool (ns.all id)) | none => False) = _
  rw [bools_of]
theorem q_any (ns : List Bool) : anyM (.list (ns.map .bool)) K = K (.bool (ns.any id)) := by
  show (match boolsOf (ns.map .bool) with | some ns => K (.bool (ns.any id)) | none => False) = _
  rw [bools_of]
theorem q_sum (ns : List Int) : sumM (.list (ns.map .int)) K = K (.int ns.sum) := by
  show (match intsOf (ns.map .int) with | some ns => K (.int ns.sum) | none => False) = _
  rw [ints_of]
theorem q_sort_pp (L : List (Int × Int)) : sortM (.list (L.map ppD)) KL' = KL' (srt (L.map ppD)) := by
  unfold sortM
  exact propext ⟨fun h => h.2, fun h => ⟨⟨pairs_alike _, pairs_sortable _, pairs_depth _⟩, h⟩⟩
theorem q_and {b1 b2 : Bool} : andM (fun Q => Q b1) (fun Q => Q b2) KB' = KB' (b1 && b2) := by
  unfold andM; cases b1 <;> simp
theorem q_or {b1 b2 : Bool} : orM (fun Q => Q b1) (fun Q => Q b2) KB' = KB' (b1 || b2) := by
  unfold orM; cases b1 <;> simp
theorem q_ite {b : Bool} {A B : Prop} : ((b = true → A) ∧ (b = false → B)) = cond b A B := by cases b <;> simp
theorem q_join {σ : Type} {bd : (σ → Prop) → Prop} {K : σ → Prop} : joinM bd K = bd K := rfl
theorem q_lc_cons {β : Type} {bd : PyData → (β → Prop) → Prop → Prop} {K : List β → Prop} {acc : List β} : lcM bd K (x :: xs) acc = bd x (fun y => lcM bd K xs (acc ++ [y])) (lcM bd K xs acc) := rfl
theorem q_for_cons {σ : Type} {bd : PyData → σ → (σ → Prop) → (σ → Prop) → Prop} {K : σ → Prop} {s : σ} : forM bd K (x :: xs) s = bd x s (fun s' => forM bd K xs s') K := rfl
/-- a comprehension told at once -/
theorem q_lc_map {α β : Type} {bd : PyData → (β → Prop) → Prop → Prop} {K : List β → Prop} (L : List α) (d : α → PyData) (f : α → β) (h : ∀ a ∈ L, ∀ k s, bd (d a) k s = k (f a)) (acc : List β) : lcM bd K (L.map d) acc = K (acc ++ L.map f) := by
  induction L generalizing acc with
  | nil => rw [List.map_nil, List.map_nil, List.append_nil]; rfl
  | cons a L ih =>
    rw [List.map_cons, q_lc_cons, h a (by simp), ih fun b hb => h b (List.mem_cons_of_mem _ hb)]
    simp
theorem q_lc_fil {α β : Type} {bd : PyData → (β → Prop) → Prop → Prop} {K : List β → Prop} (L : List α) (d : α → PyData) (p : α → Bool) (f : α → β) (h : ∀ a ∈ L, ∀ (k : β → Prop) (s : Prop), bd (d a) k s = cond (p a) (k (f a)) s) (acc : List β) : lcM bd K (L.map d) acc = K (acc ++ (L.filter p).map f) := by
  induction L generalizing acc with
  | nil => rw [List.map_nil, List.filter_nil, List.map_nil, List.append_nil]; rfl
  | cons a L ih =>
    rw [List.map_cons, q_lc_cons, h a (by simp), ih fun b hb => h b (List.mem_cons_of_mem _ hb), ih fun b hb => h b (List.mem_cons_of_mem _ hb)]
    cases e : p a <;> simp [e]
/-- a loop whose states are known, one after the other -/
theorem q_for_seq {α τ : Type} {bd : PyData → τ → (τ → Prop) → (τ → Prop) → Prop} {K : τ → Prop} (L : List α) (d : α → PyData) (S : Nat → τ) (h : ∀ i a, L[i]? = some a → ∀ N : τ → Prop, bd (d a) (S i) N K = N (S (i + 1))) : forM bd K (L.map d) (S 0) = K (S L.length) := by
  have go : ∀ (M : List α) (i : Nat), (∀ j a, M[j]? = some a → L[i + j]? = some a) → i + M.length = L.length → forM bd K (M.map d) (S i) = K (S L.length) := by
    intro M
    induction M with
    | nil => intro i _ hl; rw [← hl]; rfl
    | cons a M ih =>
      intro i hM hl
      rw [List.map_cons, q_for_cons, h i a (hM 0 a rfl)]
      refine ih (i + 1) (fun j b hj => ?_) (by simp only [List.length_cons] at hl; omega)
      have := hM (j + 1) b hj
      rwa [show i + (j + 1) = i + 1 + j by omega] at this
  exact go L 0 (fun j a hj => by rwa [Nat.zero_add]) (by simp)
theorem range0 (n : Int) : rangeL 0 n = (List.range n.toNat).map fun (i : Nat) => PyData.int i := by unfold rangeL; simp
end
end TL
namespace TL
open PySem PySem.Spec PyProof.Rows L2 He
abbrev XF := PySem.W.Frag → Bool
def obsX (ex : List XF) (fa : List Fa) (fn : List DefD) (K : PySem.W.Frag) : AlD := ((obsD fa fn K).1 && ex.all fun e => e K, (obsD fa fn K).2)
def SaysX (ex : List XF) (fa : List Fa) (fn : List DefD) (K : PySem.W.Frag) : Prop := obsX ex fa fn K = valD fn
section
variable {ex : List XF} {fa : List Fa} {fn : List DefD} {K : PySem.W.Frag} {mg : Str → Option Value} {h : Heap}
theorem SaysX.d (c : SaysX ex fa fn K) : SaysD fa fn K := by
  have c1 : ((obsD fa fn K).1 && ex.all fun e => e K) = true := congrArg (fun z : AlD => z.1) c
  have c2 : (obsD fa fn K).2 = fn.map DefD.val := congrArg (fun z : AlD => z.2) c
  exact Prod.ext (ba c1).1 c2
theorem SaysX.xf (c : SaysX ex fa fn K) (i : Nat) {e : XF} (h : ex[i]? = some e := by rfl) : e K = true := by
  have c1 : ((obsD fa fn K).1 && ex.all fun e => e K) = true := congrArg (fun z : AlD => z.1) c
  exact List.all_eq_true.mp (ba c1).2 e (List.mem_of_getElem? h)
end
end TL
namespace TL
open PySem PySem.Spec PyProof.Rows L2
abbrev ooS (a : Addr) (as : List Addr) (ds : List (List PyData)) : Sl := .oo a (as.zip ds)
section
variable {X : Cx} {g : G} {env env' : List Sl} {Ψ : Exc → Prop} {P : Po} {pos p lp : Pos} {a b c e tg iter : Expr} {es : List Expr} {rest body : List Stmt} {K : Frag} {F F' H H' : Hp} {σ σ' : SS} {x y : PyData} {z1 z2 : Bool} {Φ : PyData → Bool → Prop}
/-- for, with a side word about state and objects -/
theorem forSC {A : PyData → Option (List (Nat × PyData))} {τ υ : Type} {bd : PyData → τ → (τ → Prop) → (τ → Prop) → Prop} {Q : τ → Prop} {xs : List PyData} {s0 : τ} (h : forM bd Q xs s0) (mk : τ → υ → List Sl) (C : τ → υ → Prop) (u0 : υ) (h0 : env = mk s0 u0) (c0 : C s0 u0) (hend : ∀ s u, C s u → Q s → P.nx (mk s u))
    (hturn : (∀ s u, C s u → Q s → P.nx (mk s u)) → ∀ x s u (N : τ → Prop), C s u → bd x s N Q → ∃ l, A x = some l ∧ (l.all fun q => Nat.blt q.1 (mk s u).length) = true ∧ WS X g body (putsE (mk s u) l) (P.turn fun e => ∃ s' u', N s' ∧ C s' u' ∧ e = mk s' u')) :
    ∃ Pv : Nat → List Sl → Prop, Pv 0 env ∧ (∀ i x, xs[i]? = some x → FT X g body A P Pv i x) ∧ ∀ e, Pv xs.length e → P.nx e := by
  refine ⟨fun i e => ∃ s u, forM bd Q (xs.drop i) s ∧ C s u ∧ e = mk s u, ⟨s0, u0, h, c0, h0⟩, fun i x hx e ⟨s, u, hf, hc, he⟩ => ?_, fun e ⟨s, u, hf, hc, he⟩ => ?_⟩
  · subst he
    have hi := (List.getElem?_eq_some_iff.mp hx).1
    have ed : xs.drop i = x :: xs.drop (i + 1) := by
      rw [List.drop_eq_getElem_cons hi]
      congr 1
      exact (List.getElem?_eq_some_iff.mp hx).2
    rw [ed] at hf
    obtain ⟨l, h1, h2, h3⟩ := hturn hend x s u _ hc hf
    exact ⟨l, h1, h2, h3⟩
  · subst he
    rw [List.drop_length] at hf
    exact hend s u hc hf
end
theorem getT_s {kT : List (List Key × PyData)} {key : PyData} {Q : KD} {Φ : PyData → Prop} (h : getTM kT key Q) (k : ∀ r, Q r → Φ r) : ∃ q, keyT key = some q ∧ ∃ d, valP kT q = some d ∧ Φ d := by
  unfold getTM at h
  split at h
  · rename_i e1
    split at h
    · rename_i e2; exact ⟨_, e1, _, e2, k _ h⟩
    · exact h.elim
  · exact h.elim
end TL
namespace TL
open PySem PySem.Spec PyProof.Rows L2
section
variable {X : Cx} {g : G} {env env' : List Sl} {Ψ : Exc → Prop} {P : Po} {pos p lp : Pos} {a b c e f o tg iter : Expr} {es : List Expr} {rest body : List Stmt} {K : Frag} {F F' H H' : Hp} {σ σ' : SS} {x y : PyData} {z1 z2 : Bool} {k0 : Nat} {al : Addr} {xn : Str} {apos : Pos}
theorem rng_map (lo hi : Int) : rangeL lo hi = (List.range (hi - lo).toNat).map fun (i : Nat) => PyData.int (lo + (i : Nat)) := rfl
end
end TL
namespace TL
open PySem PySem.Spec PyProof.Rows L2
section
variable {X : Cx} {g : G} {env env' : List Sl} {Ψ : Exc → Prop} {P : Po} {pos p lp : Pos} {a b c e f o tg iter : Expr} {es : List Expr} {rest body : List Stmt} {K : Frag} {F F' H H' : Hp} {σ σ' : SS} {x y : PyData} {z1 z2 : Bool} {k0 : Nat} {al : Addr} {xn : Str} {apos : Pos}
/-- each row once -/
def dd : List (List Int) → List (List Int)
  | [] => []
  | a :: l => if a ∈ l then dd l else a :: dd l
end
end TL
namespace TL
open PySem PySem.Spec PyProof.Rows L2 LamX
theorem lamO_ntb {f c : Addr} {l : Lam} : ntb (LamO f l c) := fun _ z => by unfold LamO at z; cases z
theorem codeO_ntb {c : Addr} {q : Str} : ntb (CodeO c q) := fun _ z => by unfold CodeO at z; cases z
/-- the heap behind the making: as it was, or the table is longer by a new code object -/
inductive LmRes (H : Hp) (P : Addr) (ps : Array Value) (q : Str) (c : Addr) : Hp → Prop
  | hit (pos : Pos) : codeAmong pos ps.toList = some (.ref c) → LmRes H P ps q c H
  | new (more : Array Value) : H c = none → c ≠ P → TriplesOk (ps ++ more).toList → (∀ (pos : Pos) (cv : Value), codeAmong pos (ps ++ more).toList = some cv → codeAmong pos ps.toList = some cv ∨ cv = .ref c) →
      LmRes H P ps q c (upd (upd H P (.tbl (ps ++ more))) c (CodeO c q))
theorem upd_comm {H : Hp} {a b : Addr} {x y : HO} (h : a ≠ b) : upd (upd H a x) b y = upd (upd H b y) a x := by
  funext c
  by_cases h1 : c = b
  · subst h1; rw [upd_same, upd_ne (Ne.symm h), upd_same]
  · by_cases h2 : c = a
    · subst h2; rw [upd_ne h1, upd_same, upd_same]
    · rw [upd_ne h1, upd_ne h2, upd_ne h2, upd_ne h1]
section
variable {K : Frag} {g : G} {env : List Sl} {F H H1 : Hp} {σ : SS} {P : Addr} {ps ps' : Array Value} {q : Str}
theorem St.tabw (st : St K g F H σ env) (hP : H P = some (.tbl ps)) (ht : TriplesOk ps'.toList) (hc : ∀ q, (P, q) ∈ tabsK K → ∀ (pos : Pos) (cv : Value), codeAmong pos ps'.toList = some cv → ∃ c, cv = .ref c ∧ F c = some (CodeO c q)) : St K g F (upd H P (.tbl ps')) σ env where
  len := st.len
  sl := fun i s e => slok_mono (Ex.refl F) (fun a ha u z => by
    have ne : a ≠ P := fun y => slok_ntb (st.sl i s e) ha ps (y ▸ hP)
    rw [upd_ne ne]; exact z) (st.sl i s e)
  nd := st.nd
  fr := st.fr
  ex := fun a u z => by
    by_cases y : a = P
    · subst y
      have z2 := st.ex a u z
      rw [hP] at z2; cases z2
      exact absurd z (st.tk.fn a ps)
    · rw [upd_ne y]; exact st.ex a u z
  tf := fun a vs z => by
    by_cases y : a = P
    · subst y; rw [upd_same] at z; cases z
    · rw [upd_ne y] at z; exact st.tf a vs z
  tk := ⟨st.tk.fn, fun p hp => by
    by_cases y : p.1 = P
    · obtain ⟨p1, p2⟩ := p
      have y : p1 = P := y
      subst y
      exact ⟨ps', upd_same, ht, hc p2 hp⟩
    · exact (st.tk.tb p hp).mono (Ex.refl F) fun u z => by rw [upd_ne y]; exact z⟩
  gt := st.gt.grow fun a z => by
    by_cases y : a = P
    · subst y; rw [upd_same] at z; cases z
    · rw [upd_ne y] at z; exact z
  g1 := fun a o z m n => by
    have z2 := st.g1 a o z m n
    have ne : a ≠ P := fun y => by
      subst y; rw [hP] at z2; exact n ps (Option.some.inj z2).symm
    rw [upd_ne ne]; exact z2
  g2 := st.g2
  g3 := st.g3
  g4 := st.g4
  g5 := fun a m z => by
    by_cases y : a = P
    · subst y; rw [upd_same] at z; cases z
    · rw [upd_ne y] at z; exact st.g5 a m z
  g6 := st.g6
theorem St.lam {l : Lam} {f c : Addr} (st : St K g F H σ env) (r : LmRes H P ps l.q c H1) (hP : H P = some (.tbl ps)) (hk : ∀ (pos : Pos) (cv : Value), codeAmong pos ps.toList = some cv → ∃ c, cv = .ref c ∧ F c = some (CodeO c l.q)) (hu : ∀ p ∈ tabsK K, p.1 = P → p.2 = l.q) (hn : H1 f = none) :
    ∃ F1, St K g F1 (upd H1 f (LamO f l c)) σ env ∧ Ex F F1 ∧ IsLam F1 (.ref f) l := by
  cases r with
  | hit pos hc =>
    obtain ⟨c0, e0, e1⟩ := hk pos _ hc
    cases e0
    have e := Ex.new (o := LamO f l c) (st.ex.none hn)
    exact ⟨upd F f (LamO f l c), st.allocF hn lamO_ntb, e, f, c, rfl, upd_same, e _ _ e1⟩
  | new more hc hcP ht hco =>
    rw [upd_comm (Ne.symm hcP)] at hn ⊢
    have hF := st.ex.none hc
    have e1 := Ex.new (o := CodeO c l.q) hF
    have s1 := st.allocF (o := CodeO c l.q) hc codeO_ntb
    have s2 : St K g (upd F c (CodeO c l.q)) (upd (upd H c (CodeO c l.q)) P (.tbl (ps ++ more))) σ env := s1.tabw (P := P) (ps := ps) (by rw [upd_ne (Ne.symm hcP)]; exact hP) ht fun q hq pos cv hcv => by
      have eq := hu (P, q) hq rfl
      have eq : q = l.q := eq
      subst eq
      rcases hco pos cv hcv with z | z
      · obtain ⟨c0, z1, z2⟩ := hk pos cv z
        exact ⟨c0, z1, e1 _ _ z2⟩
      · exact ⟨c, z, upd_same⟩
    have e2 := Ex.new (o := LamO f l c) (s2.ex.none hn)
    exact ⟨_, s2.allocF hn lamO_ntb, e1.trans e2, f, c, rfl, upd_same, e2 _ _ upd_same⟩
end
end TL
namespace TL
open PySem PySem.Spec PyProof.Rows L2 He LamX
abbrev LamD : Type := Defn × Str
def markObj (P : Addr) (q : Str) : Obj := { cls := .none, data := .fields #[.str "lam!" 0, .ref P, .str q 0] }
def markK (tf : List LamD) (K : Frag) : Frag := K ++ tf.map fun p => ((cT K p.1).1, markObj (cT K p.1).2 p.2)
def lamB (g : Addr → Option Obj) (tf : List LamD) (K : Frag) : Bool :=
  (tf.all fun p => PySem.W.codeHdIn K (cT K p.1).1 (cT K p.1).2 && (match g (cT K p.1).2 with
    | some o => emptyTab o
    | none => false)) && (decide (tabsK (markK tf K) = tf.map fun p => ((cT K p.1).2, p.2)) && decide ((tf.map fun p => (cT K p.1).2).Nodup))
abbrev AlL : Type := AlD × Bool
def obsL (ex : List XF) (fa : List Fa) (fn : List DefD) (tf : List LamD) (g : Addr → Option Obj) (K : Frag) : AlL := (obsX ex fa fn (markK tf K), lamB g tf K)
def obsLG (n : Nat) (ex : List XF) (fa : List Fa) (fn : List DefD) (tf : List LamD) (g : Addr → Option Obj) : AlL := obsL ex fa fn tf g (frT g (asD g n))
structure SaysL (ex : List XF) (fa : List Fa) (fn : List DefD) (tf : List LamD) (h : Heap) (K0 : Frag) : Prop where
  x : SaysX ex fa fn (markK tf K0)
  hd : ∀ p ∈ tf, PySem.W.codeHdIn K0 (cT K0 p.1).1 (cT K0 p.1).2 = true
  out : ∀ p ∈ tf, K0.lookup (cT K0 p.1).2 = none
  empty : ∀ p ∈ tf, h.get? (cT K0 p.1).2 = some { cls := .none, data := .fields #[] }
  tabs : tabsK (markK tf K0) = tf.map fun p => ((cT K0 p.1).2, p.2)
  nd : (tf.map fun p => (cT K0 p.1).2).Nodup
theorem saysL_of {n : Nat} {ex : List XF} {fa : List Fa} {fn : List DefD} {tf : List LamD} {h : Heap} (e : obsLG n ex fa fn tf h.get? = (valD fn, true)) : SaysL ex fa fn tf h (frT h.get? (asD h.get? n)) := by
  have e1 : obsX ex fa fn (markK tf (frT h.get? (asD h.get? n))) = valD fn := congrArg (fun z : AlL => z.1) e
  have e2 : lamB h.get? tf (frT h.get? (asD h.get? n)) = true := congrArg (fun z : AlL => z.2) e
  obtain ⟨h1, h2⟩ := ba e2
  obtain ⟨h3, h4⟩ := ba h2
  have key : ∀ p ∈ tf, PySem.W.codeHdIn (frT h.get? (asD h.get? n)) (cT (frT h.get? (asD h.get? n)) p.1).1 (cT (frT h.get? (asD h.get? n)) p.1).2 = true ∧ ∃ o, h.get? (cT (frT h.get? (asD h.get? n)) p.1).2 = some o ∧ emptyTab o = true := fun p hp => by
    obtain ⟨k1, k2⟩ := ba (List.all_eq_true.mp h1 p hp)
    refine ⟨k1, ?_⟩
    cases q : h.get? (cT (frT h.get? (asD h.get? n)) p.1).2 with
    | none => rw [q] at k2; cases k2
    | some o => rw [q] at k2; exact ⟨o, rfl, k2⟩
  exact ⟨e1, fun p hp => (key p hp).1, fun p hp => by
    obtain ⟨_, o, q, z⟩ := key p hp
    exact frT_none q z, fun p hp => by
    obtain ⟨_, o, q, z⟩ := key p hp
    rw [q, emptyTab_eq z], of_decide_eq_true h3, of_decide_eq_true h4⟩
def hookL (n : Nat) (ex : List XF) (fa : List Fa) (fn : List DefD) (tf : List LamD) : PySem.W.Hook where
  α := AlL
  obs := fun s => obsLG n ex fa fn tf s.heap.get?
  val := fun _ => (valD fn, true)
  says := fun _ h => ∃ K0 : Frag, K0.In h ∧ SaysL ex fa fn tf h K0
  of := fun _ _ e => ⟨_, frT_in, saysL_of e⟩
  keeps := fun _ _ _ ⟨K0, hK, c⟩ k => ⟨K0, PySem.W.Frag.In.keeps hK k, ⟨c.x, c.hd, c.out, fun p hp => k _ _ (c.empty p hp), c.tabs, c.nd⟩⟩
theorem obsLG_eq {n : Nat} {ex : List XF} {fa : List Fa} {fn : List DefD} {tf : List LamD} {g : Addr → Option Obj} {s : Shared} (h : ∀ a, g a = s.heap.get? a) : obsLG n ex fa fn tf g = (hookL n ex fa fn tf).obs s := by
  have e : g = s.heap.get? := funext h
  rw [e] <;> rfl
theorem lookup_app {a : Addr} : ∀ {K M : Frag}, (K ++ M).lookup a = match K.lookup a with | some o => some o | none => M.lookup a
  | [], _ => rfl
  | (b, o) :: r, M => by
    show (match a == b with | true => some o | false => (r ++ M).lookup a) = match (match a == b with | true => some o | false => r.lookup a) with | some o => some o | none => M.lookup a
    cases a == b with
    | true => rfl
    | false => exact lookup_app (K := r) (M := M)
theorem codeHd_some {K : Frag} {c P : Addr} (h : PySem.W.codeHdIn K c P = true) : ∃ o, K.lookup c = some o := by
  unfold PySem.W.codeHdIn at h
  cases q : K.lookup c with
  | none => rw [q] at h; cases h
  | some o => exact ⟨o, rfl⟩
section
variable {ex : List XF} {fa : List Fa} {fn : List DefD} {tf : List LamD} {h : Heap} {K0 : Frag}
theorem SaysL.marks (c : SaysL ex fa fn tf h K0) {a : Addr} {o : Obj} (e : (tf.map fun p => ((cT K0 p.1).1, markObj (cT K0 p.1).2 p.2)).lookup a = some o) : ∃ o, K0.lookup a = some o := by
  obtain ⟨p, hp, ep⟩ := List.mem_map.mp (He.lookup_mem e)
  have e1 : (cT K0 p.1).1 = a := congrArg Prod.fst ep
  rw [← e1]
  exact codeHd_some (c.hd p hp)
theorem SaysL.look (c : SaysL ex fa fn tf h K0) (a : Addr) : (markK tf K0).lookup a = K0.lookup a := by
  unfold markK
  rw [lookup_app]
  cases q : K0.lookup a with
  | some o => rfl
  | none =>
    cases z : (tf.map fun p => ((cT K0 p.1).1, markObj (cT K0 p.1).2 p.2)).lookup a with
    | none => rfl
    | some o =>
      obtain ⟨o', e⟩ := c.marks z
      rw [q] at e; cases e
theorem SaysL.kin (c : SaysL ex fa fn tf h K0) (k : K0.In h) : (markK tf K0).In h := fun a o e => k a o (by rw [← c.look a]; exact e)
end
section
variable {ex : List XF} {fa : List Fa} {fn : List DefD} {tf : List LamD} {h base : Heap} {K0 : Frag} {mg : Str → Option Value}
/-- the code objects and tables of the defs that make lambdas -/
def csOf (tf : List LamD) (K0 : Frag) : List (Addr × Addr) := tf.map fun p => cT K0 p.1
end
/-- the end, with tables -/
theorem walk_xT {l : PySem.W.OpenLaw} {m j : Nat} {q : Program} {lo : List Str} {XP : (Str → Option Value) → Heap → Prop} {YP : World → Heap → Prop} {d : DefRec} {x : Str} (h1 : l.most = some m) (h2 : m ≤ sizeLine) (h3 : d.params.defaults = []) (h4 : Room j callerA)
    (h : ∀ (u : World) (mg : Str → Option Value) (a : Addr) (hp : Heap), YP u hp → hp.Ns mainGlobals mg → mg d.name = some (.ref a) → ∃ K : Frag, K.In hp ∧ LawAtS l u K (L2.CX l.prog u) j m x mg a hp) :
    PySem.W.WalkO q lo XP YP l.row.toRowW d [] (fun f vs => PySem.call f vs) :=
  walk_ofTsE h1 h2 h3 h4 h fun w H s e s' z => by
    obtain ⟨_, _, _, _, _, _, _, _, _, _, _, _, z⟩ := z
    exact z
theorem lawAt {l : PySem.W.OpenLaw} {u : World} {j : Nat} {x : Str} {mg : Str → Option Value} {a : Addr} {hp : Heap} {ex : List XF} {fa : List Fa} {fn : List DefD} {tf : List LamD} {K0 : Frag} (c : SaysL ex fa fn tf hp K0) (k : K0.In hp)
    (h : ∃ fd : FuncData, (∀ (s : Shared) (y : Value), BindsTo s fd ⟨[y], []⟩ [(x, y)]) ∧ ∀ base : Heap, (markK tf K0).In base → base.Ns mainGlobals mg → (∀ p ∈ csOf tf K0, TabB base mg p.1 p.2) → FnOk l.prog u (markK tf K0) mg base (L2.CX l.prog u) j a fd [x] (spOf (markK tf K0) 1 cLaw)) :
    LawAtS l u (markK tf K0) (L2.CX l.prog u) j 63 x mg a hp := by
  obtain ⟨fd, hb, hF⟩ := h
  have mem : ∀ p ∈ csOf tf K0, ∃ r ∈ tf, cT K0 r.1 = p := fun p hp => by
    obtain ⟨r, hr, e⟩ := List.mem_map.mp hp
    exact ⟨r, hr, e⟩
  refine ⟨fd, csOf tf K0, _, fun p hp => ?_, fun p hp => ?_, fun p hp => ?_, hb, fun H b ns hl _ hT hS => law_sp hl (fun p hp => ?_) hS, hF⟩
  · obtain ⟨r, hr, rfl⟩ := mem p hp; exact c.empty r hr
  · obtain ⟨r, hr, rfl⟩ := mem p hp; rw [c.look]; exact c.out r hr
  · obtain ⟨r, hr, rfl⟩ := mem p hp; exact PySem.W.codeHd_of_K k (c.hd r hr)
  · rw [c.tabs] at hp
    obtain ⟨r, hr, rfl⟩ := List.mem_map.mp hp
    exact hT _ (List.mem_map.mpr ⟨r, hr, rfl⟩)
end TL
namespace TL
open PySem PySem.Spec PyProof.Rows L2 LamX
section
variable {X : Cx} {g : G} {env : List Sl} {Ψ : Exc → Prop} {Φ : PyData → Bool → Prop} {P : Po} {pos lp apos : Pos} {k : Nat} {ps : Arguments} {bd : Expr} {sc : Scope} {c T : Addr} {es : List Expr} {a : Expr}
inductive LmAll (N : Lam → Prop) : List Lam → List Prop → Prop
  | nil : LmAll N [] []
  | cons {l : Lam} {R : Prop} {ls : List Lam} {Rs : List Prop} (h : R → N l) (t : LmAll N ls Rs) : LmAll N (l :: ls) (R :: Rs)
theorem LmAll.len {N : Lam → Prop} : ∀ {ls : List Lam} {Rs : List Prop}, LmAll N ls Rs → ls.length = Rs.length
  | _, _, .nil => rfl
  | _, _, .cons _ t => congrArg Nat.succ t.len
theorem LmAll.get {N : Lam → Prop} : ∀ {ls : List Lam} {Rs : List Prop} {n : Nat} {l : Lam}, LmAll N ls Rs → ls[n]? = some l → Rs[n]?.getD False → N l
  | _, _, 0, _, .cons h _, e, r => by
    have e := Option.some.inj e
    subst e
    exact h r
  | _, _, n + 1, _, .cons _ t, e, r => t.get (n := n) e r
  | _, _, _, _, .nil, e, _ => by simp at e
end
end TL
namespace TL
open PySem PySem.Spec PyProof.Rows L2
open Classical in
noncomputable def cutS (F : Hp) (S : Addr → Prop) : Hp := fun b => if S b then none else F b
end TL
namespace TL
open PySem PySem.Spec PyProof.Rows L2
def NewS (K : Frag) (g : G) (F H : Hp) (env : List Sl) (v : V) (s : Sl) : Prop := SlOk K F H (some v) s ∧ ∀ p ∈ s.fp, F p = none ∧ ¬ Own env p ∧ g.H0 p = none
def WO (X : Cx) (g : G) (e : Expr) (env : List Sl) (Φ : Sl → Prop) (Ψ : Exc → Prop) : Prop :=
  ∀ (W : WX), Takes X W → ∀ (σ : SS) (F H : Hp), St X.K g F H σ env → HX X g env Ψ W σ →
    ∀ Q : VK, (∀ s v F' H', Φ s → St X.K g F' H' σ env → Ex F F' → NewS X.K g F' H' env v s → Q v H') → semE X e σ H Q
section
variable {X : Cx} {g : G} {env env' : List Sl} {Ψ : Exc → Prop} {P : Po} {pos p lp : Pos} {a b c e e1 e2 : Expr} {es : List Expr} {rest body : List Stmt} {K : Frag} {F F' F1 F2 H H' H1 H2 : Hp} {σ σ' : SS} {s : Sl} {v : V} {x : PyData}
theorem WO.mono {Φ Φ' : Sl → Prop} (h : WO X g e env Φ Ψ) (k : ∀ s, Φ s → Φ' s) : WO X g e env Φ' Ψ :=
  fun W tk σ F H st hx Q hQ => h W tk σ F H st hx Q fun s v F' H' p => hQ s v F' H' (k s p)
theorem St.setS {i : Nat} (st : St K g F H σ env) (hi : i < env.length) (n : NewS K g F H env v s) : St K g F H (σ.set i (some v)) (env.set i s) :=
  st.set hi n.1 (fun b hb => (n.2 b hb).1) (fun b hb j t _ e ht => (n.2 b hb).2.1 ⟨j, t, e, ht⟩) (fun b hb => .inl (n.2 b hb).2.2)
/-- x = e, a new owned thing -/
theorem w1_setO (i : Nat) {x : Str} {pos' : Pos} (hN : X.N.Nodup) (h : WO X g e env (fun s => (∀ b ∈ s.fp, b ∉ g.M) → P.nx (env.set i s)) (fun c => P.ex c env)) (hi : X.N[i]? = some x := by rfl) (hx : Loc X.env.scope x := by first | exact Or.inl rfl | exact Or.inr rfl) (hl : Nat.blt i env.length = true := by rfl)
    (hs : swapsWith e (some (.Name x pos')) pos.line X.env = pure false := by rfl) (hf : X.fn x = true ∨ X.env.scope.names.lookup x = some .local := by first | exact .inl rfl | exact .inr rfl) : W1 X g (.Assign [.Name x pos'] e pos) env P := fun W tk hx2 σ F H s0 D hD => by
  refine semP_of (ps_set hN hi hx (peS e) hs hf) ?_
  refine h W tk σ F H s0 (hx2.hx env σ) _ fun s v F' H' hp s' e' n => ?_
  exact hD.nx _ _ F' H' (hp fun b hb m => s'.g6 b m (n.2 b hb).2.2) (s'.setS (ltB hl) n) e'
end
end TL
namespace TL
open PySem PySem.Spec PyProof.Rows L2
def otT (a : Addr) (as : List Addr) (ds : List (List PyData)) : OwT where
  id := a
  fp := (as.zip ds).map (·.1)
  ok := fun K F H v => v = .ref a ∧ F a = some (.tup ((as.zip ds).map fun r => .ref r.1)) ∧ ((as.zip ds).map (·.1)).Nodup ∧ ∀ r ∈ as.zip ds, ∃ vs, H r.1 = some (.lst vs) ∧ DqAll K F vs r.2
  isr := fun h => h.1
  mono := fun {K F F' H H' v} e k h => by
    obtain ⟨h1, h2, h3, h4⟩ := h
    refine ⟨h1, e _ _ h2, h3, fun r hr => ?_⟩
    obtain ⟨vs, q1, q2⟩ := h4 r hr
    exact ⟨vs, k r.1 (List.mem_map_of_mem hr) _ q1, dpa_mono e _ _ q2⟩
  there := fun {K F H v} h b hb => by
    obtain ⟨r, hr, rfl⟩ := List.mem_map.mp hb
    obtain ⟨vs, q1, _⟩ := h.2.2.2 r hr
    exact ⟨_, q1, rfl⟩
  rows := as.zip ds
  held := fun {K F H v} h r hr => h.2.2.2 r hr
def IsNest (x : PyData) (s : Sl) : Prop := (∃ ds al as, x = .list (ds.map .list) ∧ s = ooS al as ds ∧ as.length = ds.length) ∨ ∃ ds a as, x = .tuple (ds.map .list) ∧ s = .ow (otT a as ds) ∧ as.length = ds.length
section
variable {X : Cx} {g : G} {env env' : List Sl} {Ψ : Exc → Prop} {P : Po} {pos p lp : Pos} {a b c e e1 e2 : Expr} {es : List Expr} {rest body : List Stmt} {K : Frag} {F F' F1 F2 H H' H1 H2 : Hp} {σ σ' : SS} {s : Sl} {v : V} {x kd : PyData}
theorem IsNest.ne (h : IsNest x s) : s ≠ .un := by
  rcases h with ⟨_, _, _, _, rfl, _⟩ | ⟨_, _, _, _, rfl, _⟩ <;> (intro z; cases z)
end
end TL
namespace TL
open PySem PySem.Spec PyProof.Rows L2
section
variable {X : Cx} {g : G} {env env' : List Sl} {Ψ : Exc → Prop} {P : Po} {pos p lp : Pos} {a b c e e1 e2 elt tg iter : Expr} {es : List Expr} {rest body : List Stmt} {K : Frag} {F F' F1 F2 H H' H1 H2 : Hp} {σ σ' : SS} {s : Sl} {v : V} {x kd : PyData}
/-- what stood and no slot owns stays as it is, out of the frozen part -/
theorem St.keeps {D : Addr} {u : HO} (s2 : St K ⟨F, H, fps env⟩ F' H' σ' env') (hD : H D = some u) (hu : ntb u) (fD : F D = none) (oD : ¬ Own env D) : H' D = some u ∧ F' D = none := by
  refine ⟨s2.g1 D _ hD (fun z => oD (own_fps.mpr z)) hu, ?_⟩
  cases q : F' D with
  | none => rfl
  | some w =>
    rcases s2.g4 D (by rw [q]; intro z; cases z) with z | z
    · exact absurd fD z
    · have z' : H D = none := z
      rw [hD] at z'; cases z'
end
end TL
namespace TL
open PySem PySem.Spec PyProof.Rows L2
section
variable {X : Cx} {g : G} {env : List Sl} {Ψ : Exc → Prop} {pos p : Pos} {a : Expr} {K : Frag} {F H : Hp} {σ : SS} {x : PyData} {Φ : PyData → Bool → Prop}
theorem minD_mem : ∀ (xs : List PyData) (x : PyData), PySem.W.minD x xs ∈ x :: xs
  | [], x => List.mem_cons_self ..
  | y :: ys, x => by
    show PySem.W.minD (if PySem.W.dataLt y x = true then y else x) ys ∈ _
    have := minD_mem ys (if PySem.W.dataLt y x = true then y else x)
    rcases List.mem_cons.mp this with h | h
    · rw [h]; split
      · exact List.mem_cons_of_mem _ (List.mem_cons_self ..)
      · exact List.mem_cons_self ..
    · exact List.mem_cons_of_mem _ (List.mem_cons_of_mem _ h)
end
end TL
namespace TL
open PySem PySem.Spec PyProof.Rows L2
structure HasD (P : Program) (w : World) (K : Frag) (mg : Str → Option Value) (base : Heap) (k : Nat) (x : Str) (ps : List Str) (dvs : List V) (S : CT) : Prop where
  ex : ∃ f fd ds, mg x = some (.ref f) ∧ PySem.W.keepIn K (.ref f) = true ∧ Vals dvs ds ∧ Binds K fd ps ds ∧ FnOk P w K mg base (L2.CX P w) k f fd ps (spOf K ps.length S)
structure HasN (P : Program) (w : World) (K : Frag) (mg : Str → Option Value) (base : Heap) (k : Nat) (x : Str) (ps : List Str) (n : Nat) (ks : List Str) (S : CT) : Prop where
  ex : ∃ f fd, mg x = some (.ref f) ∧ PySem.W.keepIn K (.ref f) = true ∧ L2.KBn K fd ps n ks (fun us ws => us ++ ws) (fun us ws => us ++ ws) ∧ FnOk P w K mg base (L2.CX P w) k f fd ps (spOf K ps.length S)
theorem HasD.mono {P : Program} {w : World} {K : Frag} {mg : Str → Option Value} {base : Heap} {k k' : Nat} {x : Str} {ps : List Str} {dvs : List V} {S : CT} (h : HasD P w K mg base k x ps dvs S) (le : k ≤ k') : HasD P w K mg base k' x ps dvs S := by
  obtain ⟨f, fd, ds, h1, h2, h3, h4, h5⟩ := h.ex
  exact ⟨f, fd, ds, h1, h2, h3, h4, h5.mono le⟩
theorem HasN.mono {P : Program} {w : World} {K : Frag} {mg : Str → Option Value} {base : Heap} {k k' n : Nat} {x : Str} {ps ks : List Str} {S : CT} (h : HasN P w K mg base k x ps n ks S) (le : k ≤ k') : HasN P w K mg base k' x ps n ks S := by
  obtain ⟨f, fd, h1, h2, h3, h5⟩ := h.ex
  exact ⟨f, fd, h1, h2, h3, h5.mono le⟩
end TL
namespace TL
open PySem PySem.Spec PyProof.Rows L2
inductive OF where
  | d (x : PyData)
  | l (ds : List PyData)
inductive OA where
  | d (x : PyData)
  | l (q : Addr) (ds : List PyData)
def OA.fp : OA → List Addr
  | .d _ => []
  | .l q _ => [q]
def OA.of : OA → OF
  | .d x => .d x
  | .l _ ds => .l ds
def ofp (fs : List (Str × OA)) : List Addr := fs.flatMap fun p => p.2.fp
def FOk (K : Frag) (F H : Hp) : List (Str × V) → List (Str × OA) → Prop
  | [], [] => True
  | (f, v) :: vs, (g, o) :: fs => f = g ∧ (match o with
    | .d x => Dq K F v x
    | .l q ds => v = .ref q ∧ ∃ us, H q = some (.lst us) ∧ DqAll K F us ds) ∧ FOk K F H vs fs
  | _, _ => False
theorem fok_mono {K : Frag} {F F' H H' : Hp} (e : Ex F F') : ∀ {vs : List (Str × V)} {fs : List (Str × OA)}, (∀ b ∈ ofp fs, ∀ u, H b = some u → H' b = some u) → FOk K F H vs fs → FOk K F' H' vs fs
  | [], [], _, _ => trivial
  | (f, v) :: vs, (g, .d x) :: fs, k, ⟨h1, h2, h3⟩ => ⟨h1, dp_mono e _ _ h2, fok_mono e (fun b hb => k b (by unfold ofp at *; rw [List.flatMap_cons]; exact List.mem_append_right _ hb)) h3⟩
  | (f, v) :: vs, (g, .l q ds) :: fs, k, ⟨h1, ⟨h2, us, h4, h5⟩, h3⟩ =>
    ⟨h1, ⟨h2, us, k q (by unfold ofp; rw [List.flatMap_cons]; exact List.mem_append_left _ (List.mem_singleton.mpr rfl)) _ h4, dpa_mono e _ _ h5⟩, fok_mono e (fun b hb => k b (by unfold ofp at *; rw [List.flatMap_cons]; exact List.mem_append_right _ hb)) h3⟩
  | [], _ :: _, _, h => h.elim
  | _ :: _, [], _, h => h.elim
theorem fok_there {K : Frag} {F H : Hp} : ∀ {vs : List (Str × V)} {fs : List (Str × OA)}, FOk K F H vs fs → ∀ b ∈ ofp fs, ∃ us, H b = some (.lst us)
  | [], [], _, b, hb => by cases hb
  | (f, v) :: vs, (g, .d x) :: fs, ⟨h1, h2, h3⟩, b, hb => by
    unfold ofp at hb; rw [List.flatMap_cons] at hb
    exact fok_there h3 b hb
  | (f, v) :: vs, (g, .l q ds) :: fs, ⟨h1, ⟨h2, us, h4, h5⟩, h3⟩, b, hb => by
    unfold ofp at hb; rw [List.flatMap_cons] at hb
    rcases List.mem_append.mp hb with z | z
    · rw [List.mem_singleton.mp z]; exact ⟨us, h4⟩
    · exact fok_there h3 b z
  | [], _ :: _, h, _, _ => h.elim
  | _ :: _, [], h, _, _ => h.elim
def oarows (fs : List (Str × OA)) : List (Addr × List PyData) := fs.flatMap fun p => match p.2 with
  | .d _ => []
  | .l q ds => [(q, ds)]
theorem fok_held {K : Frag} {F H : Hp} : ∀ {vs : List (Str × V)} {fs : List (Str × OA)}, FOk K F H vs fs → ∀ r ∈ oarows fs, ∃ us, H r.1 = some (.lst us) ∧ DqAll K F us r.2
  | [], [], _, b, hb => by cases hb
  | (f, v) :: vs, (g, .d x) :: fs, ⟨h1, h2, h3⟩, b, hb => by
    unfold oarows at hb; rw [List.flatMap_cons] at hb
    exact fok_held h3 b hb
  | (f, v) :: vs, (g, .l q ds) :: fs, ⟨h1, ⟨h2, us, h4, h5⟩, h3⟩, b, hb => by
    unfold oarows at hb; rw [List.flatMap_cons] at hb
    rcases List.mem_append.mp hb with z | z
    · rw [List.mem_singleton.mp z]; exact ⟨us, h4, h5⟩
    · exact fok_held h3 b z
  | [], _ :: _, h, _, _ => h.elim
  | _ :: _, [], h, _, _ => h.elim
def obT (n : Str) (a dx : Addr) (fs : List (Str × OA)) : OwT where
  id := a
  fp := a :: dx :: ofp fs
  ok := fun K F H v => v = .ref a ∧ InsK K n ∧ (ofp fs).Nodup ∧ H dx = some (.own a) ∧ ∃ vs, H a = some (.ins (He.ga K n) dx vs) ∧ FOk K F H vs fs
  isr := fun h => h.1
  mono := fun e k ⟨h1, h2, h3, h4, vs, h5, h6⟩ => ⟨h1, h2, h3, k dx (by simp) _ h4, vs, k a (by simp) _ h5, fok_mono e (fun b hb => k b (by simp [hb])) h6⟩
  there := fun ⟨h1, h2, h3, h4, vs, h5, h6⟩ b hb => by
    rcases List.mem_cons.mp hb with rfl | hb
    · exact ⟨_, h5, rfl⟩
    · rcases List.mem_cons.mp hb with rfl | hb
      · exact ⟨_, h4, rfl⟩
      · obtain ⟨us, h⟩ := fok_there h6 b hb
        exact ⟨_, h, rfl⟩
  rows := oarows fs
  held := fun ⟨h1, h2, h3, h4, vs, h5, h6⟩ r hr => fok_held h6 r hr
/-- an object of the class n with these fields -/
def IsOb (n : Str) (fs : List (Str × OF)) (s : Sl) : Prop := ∃ a dx fa, s = .ow (obT n a dx fa) ∧ fs = fa.map fun p => (p.1, p.2.of)
theorem IsOb.ne {n : Str} {fs : List (Str × OF)} {s : Sl} (h : IsOb n fs s) : s ≠ .un := by
  obtain ⟨a, dx, fa, rfl, _⟩ := h
  intro z; cases z
end TL
namespace TL
open PySem PySem.Spec PyProof.Rows L2
structure HasM (P : Program) (w : World) (K : Frag) (mg : Str → Option Value) (base : Heap) (k : Nat) (n m : Str) (ps : List Str) (S : CT) : Prop where
  ex : ∃ f fd, Meth K (He.ga K n) m f ∧ Binds K fd ps [] ∧ FnOk P w K mg base (L2.CX P w) k f fd ps (spOf K ps.length S)
theorem HasM.mono {P : Program} {w : World} {K : Frag} {mg : Str → Option Value} {base : Heap} {k k' : Nat} {n m : Str} {ps : List Str} {S : CT} (h : HasM P w K mg base k n m ps S) (le : k ≤ k') : HasM P w K mg base k' n m ps S := by
  obtain ⟨f, fd, h1, h2, h3⟩ := h.ex
  exact ⟨f, fd, h1, h2, h3.mono le⟩
end TL
namespace TL
open PySem PySem.Spec PyProof.Rows L2
structure HasI (P : Program) (w : World) (K : Frag) (mg : Str → Option Value) (base : Heap) (k : Nat) (n : Str) (ps : List Str) (S : CT) : Prop where
  ex : ∃ f fd, mg n = some (.ref (He.ga K n)) ∧ InsK K n ∧ Mk K (He.ga K n) f ∧ Binds K fd ps [] ∧ FnOk P w K mg base (L2.CX P w) k f fd ps (spOf K ps.length S)
theorem HasI.mono {P : Program} {w : World} {K : Frag} {mg : Str → Option Value} {base : Heap} {k k' : Nat} {n : Str} {ps : List Str} {S : CT} (h : HasI P w K mg base k n ps S) (le : k ≤ k') : HasI P w K mg base k' n ps S := by
  obtain ⟨f, fd, h1, h2, h3, h4, h5⟩ := h.ex
  exact ⟨f, fd, h1, h2, h3, h4, h5.mono le⟩
section
variable {X : Cx} {g : G} {env env' : List Sl} {Ψ : Exc → Prop} {P : Po} {pos p apos q lp : Pos} {a b c e ex o : Expr} {es : List Expr} {rest body orelse : List Stmt} {K : Frag} {F F' F1 F2 H H' H1 H2 : Hp} {σ σ' : SS} {s s' : Sl} {v : V} {x kd : PyData} {n m xn : Str} {fs : List (Str × OF)}
structure HasIK (P : Program) (w : World) (K : Frag) (mg : Str → Option Value) (base : Heap) (k : Nat) (n nm : Str) (ps : List Str) (S : CT) : Prop where
  ex : ∃ f fd, mg n = some (.ref (He.ga K n)) ∧ InsK K n ∧ Mk K (He.ga K n) f ∧ L2.KBn K fd ps 1 [nm] (fun us ws => us ++ ws) (fun us ws => us ++ ws) ∧ FnOk P w K mg base (L2.CX P w) k f fd ps (spOf K ps.length S)
theorem HasIK.mono {P : Program} {w : World} {K : Frag} {mg : Str → Option Value} {base : Heap} {k k' : Nat} {n nm : Str} {ps : List Str} {S : CT} (h : HasIK P w K mg base k n nm ps S) (le : k ≤ k') : HasIK P w K mg base k' n nm ps S := by
  obtain ⟨f, fd, h1, h2, h3, h4, h5⟩ := h.ex
  exact ⟨f, fd, h1, h2, h3, h4, h5.mono le⟩
structure HasID (P : Program) (w : World) (K : Frag) (mg : Str → Option Value) (base : Heap) (k : Nat) (n : Str) (ps : List Str) (dvs : List V) (S : CT) : Prop where
  ex : ∃ f fd ds, mg n = some (.ref (He.ga K n)) ∧ InsK K n ∧ Mk K (He.ga K n) f ∧ Vals dvs ds ∧ Binds K fd ps ds ∧ FnOk P w K mg base (L2.CX P w) k f fd ps (spOf K ps.length S)
theorem HasID.mono {P : Program} {w : World} {K : Frag} {mg : Str → Option Value} {base : Heap} {k k' : Nat} {n : Str} {ps : List Str} {dvs : List V} {S : CT} (h : HasID P w K mg base k n ps dvs S) (le : k ≤ k') : HasID P w K mg base k' n ps dvs S := by
  obtain ⟨f, fd, ds, h1, h2, h3, h4, h5, h6⟩ := h.ex
  exact ⟨f, fd, ds, h1, h2, h3, h4, h5, h6.mono le⟩
end
end TL
namespace TL
open PySem PySem.Spec PyProof.Rows L2
section
variable {X : Cx} {g : G} {env env' : List Sl} {Ψ : Exc → Prop} {P : Po} {pos p apos q : Pos} {a b c e ex o : Expr} {es : List Expr} {rest body : List Stmt} {K : Frag} {F F' F1 F2 H H' H1 H2 : Hp} {σ σ' : SS} {s s' : Sl} {v : V} {x kd : PyData} {n m xn : Str} {fs : List (Str × OF)}
theorem HasI.ins {P : Program} {w : World} {K : Frag} {mg : Str → Option Value} {base : Heap} {k : Nat} {n : Str} {ps : List Str} {S : CT} (h : HasI P w K mg base k n ps S) : InsK K n := by
  obtain ⟨f, fd, h1, h2, h3⟩ := h.ex
  exact h2
end
end TL
namespace TL
open PySem PySem.Spec PyProof.Rows L2
open Sem (wp)
def nk1 : PyData → Option NestedKey
  | .int i => some (.num i)
  | .str s => some (.text s)
  | _ => none
def nkL (f : PyData → Option NestedKey) : List PyData → Option (List NestedKey)
  | [] => some []
  | d :: r => match f d, nkL f r with
    | some k, some l => some (k :: l)
    | _, _ => none
/-- not a tuple that the module may hold -/
def noStart : List PyData → Bool
  | .int _ :: .int _ :: .int _ :: _ => false
  | _ => true
def nkT (f : PyData → Option NestedKey) (ds : List PyData) : Option NestedKey := match noStart ds with
  | true => (nkL f ds).map .tup
  | false => none
def nk2 : PyData → Option NestedKey
  | .tuple ds => nkT nk1 ds
  | d => nk1 d
def keyN : PyData → Option NestedKey
  | .tuple ds => nkT nk2 ds
  | _ => none
mutual
inductive NKv (H : Hp) : NestedKey → V → Prop
  | num (i : Int) : NKv H (.num i) (.int i)
  | text (x : Str) : NKv H (.text x) (.str x)
  | tup {a : Addr} {vs : List V} {ks : List NestedKey} : H a = some (.tup vs) → NKvs H ks vs → NKv H (.tup ks) (.ref a)
inductive NKvs (H : Hp) : List NestedKey → List V → Prop
  | nil : NKvs H [] []
  | cons {k : NestedKey} {v : V} {ks : List NestedKey} {vs : List V} : NKv H k v → NKvs H ks vs → NKvs H (k :: ks) (v :: vs)
end
section
variable {P : Program} {w : World} {H H' F : Hp} {h : Heap} {K : Frag}
mutual
theorem NKv.mono (e : ∀ a vs, H a = some (.tup vs) → H' a = some (.tup vs)) : ∀ {k : NestedKey} {v : V}, NKv H k v → NKv H' k v
  | _, _, .num i => .num i
  | _, _, .text x => .text x
  | _, _, .tup h1 h2 => .tup (e _ _ h1) (NKvs.mono e h2)
theorem NKvs.mono (e : ∀ a vs, H a = some (.tup vs) → H' a = some (.tup vs)) : ∀ {k : List NestedKey} {v : List V}, NKvs H k v → NKvs H' k v
  | _, _, .nil => .nil
  | _, _, .cons h1 h2 => .cons (NKv.mono e h1) (NKvs.mono e h2)
end
mutual
theorem NKv.is (ok : HOk P w H h) : ∀ {k : NestedKey} {v : V} {u : Value}, NKv H k v → RelV v u → NestedIs h k u
  | _, _, _, .num i, r => by obtain ⟨t, rfl⟩ := (show ∃ t, _ = Value.int i t from r); exact .int i t
  | _, _, _, .text x, r => by obtain ⟨t, rfl⟩ := (show ∃ t, _ = Value.str x t from r); exact .text x t
  | _, _, _, @NKv.tup _ a vs ks h1 h2, r => by
    cases (show _ = Value.ref a from r)
    obtain ⟨_, its, r, o, g1, g2, n, g3⟩ := (show ObjOk P w H h a (.tup vs) from ok a _ h1)
    exact .tup g1 g2 g3 (by simpa using NKvs.is ok h2 r)
theorem NKvs.is (ok : HOk P w H h) : ∀ {k : List NestedKey} {v : List V} {u : List Value}, NKvs H k v → Vals v u → NestedAll h k u
  | _, _, _, .nil, r => by cases r; exact .nil
  | _, _, _, .cons h1 h2, r => by
    cases r with
    | cons r1 r2 => exact .cons (NKv.is ok h1 r1) (NKvs.is ok h2 r2)
end
theorem nk1_dq {v : V} {d : PyData} {k : NestedKey} (h : Dq K F v d) (e : nk1 d = some k) : NKv F k v ∧ k.depth = 0 := by
  unfold nk1 at e
  split at e
  · cases e; cases h; exact ⟨.num _, rfl⟩
  · cases e; cases h; exact ⟨.text _, rfl⟩
  · cases e
theorem nkL_dq {f : PyData → Option NestedKey} {m : Nat} (hf : ∀ v d k, Dq K F v d → f d = some k → NKv F k v ∧ k.depth ≤ m) : ∀ {vs : List V} {ds : List PyData} {ks : List NestedKey}, DqAll K F vs ds → nkL f ds = some ks → NKvs F ks vs ∧ NestedKey.depthAll ks ≤ m
  | _, [], _, h, e => by cases h; cases e; exact ⟨.nil, Nat.zero_le _⟩
  | _, d :: r, _, h, e => by
    cases h with
    | cons h1 h2 =>
      unfold nkL at e
      split at e
      · rename_i e1 e2
        cases e
        obtain ⟨a1, a2⟩ := hf _ _ _ h1 e1
        obtain ⟨b1, b2⟩ := nkL_dq hf h2 e2
        refine ⟨.cons a1 b1, ?_⟩
        show max _ _ ≤ m
        omega
      · cases e
theorem nkT_dq {f : PyData → Option NestedKey} {m : Nat} (hf : ∀ v d k, Dq K F v d → f d = some k → NKv F k v ∧ k.depth ≤ m) {v : V} {ds : List PyData} {k : NestedKey} (h : Dq K F v (.tuple ds)) (e : nkT f ds = some k) : NKv F k v ∧ k.depth ≤ m + 1 ∧ ∃ b, v = .ref b := by
  unfold nkT at e
  split at e
  · rename_i hn
    obtain ⟨ks, e1, rfl⟩ := Option.map_eq_some_iff.mp e
    obtain ⟨a, xs, rfl, h1, h2⟩ := dp_tup' (fun z => by rw [z] at hn; cases hn) h
    obtain ⟨q1, q2⟩ := nkL_dq hf h2 e1
    refine ⟨.tup h1 q1, ?_, a, rfl⟩
    show NestedKey.depthAll ks + 1 ≤ m + 1
    omega
  · cases e
theorem nk2_dq {v : V} {d : PyData} {k : NestedKey} (h : Dq K F v d) (e : nk2 d = some k) : NKv F k v ∧ k.depth ≤ 1 := by
  unfold nk2 at e
  split at e
  · obtain ⟨a, b, _⟩ := nkT_dq (m := 0) (fun v d k h e => ⟨(nk1_dq h e).1, Nat.le_of_eq (nk1_dq h e).2⟩) h e
    exact ⟨a, b⟩
  · obtain ⟨a, b⟩ := nk1_dq h e
    exact ⟨a, by omega⟩
theorem keyN_dq {v : V} {d : PyData} {k : NestedKey} (h : Dq K F v d) (e : keyN d = some k) : NKv F k v ∧ k.depth ≤ 8 ∧ ∃ b, v = .ref b := by
  unfold keyN at e
  split at e
  · obtain ⟨a, b, c⟩ := nkT_dq (m := 1) (fun v d k h e => nk2_dq h e) h e
    exact ⟨a, by omega, c⟩
  · cases e
abbrev NXs (F : Hp) : List (NestedKey × V) → List (NestedKey × Addr × Value) → Prop := Paired fun p q => p.1 = q.1 ∧ (NKv F q.1 (.ref q.2.1) ∧ q.1.depth ≤ 8) ∧ RelV p.2 q.2.2
def rawO (a : Addr) (o : Obj) : HO := .ext fun h => h.get? a = some o
structure DNx (P : Program) (w : World) (F : Hp) (a : Addr) (o : Obj) (kvs : List (NestedKey × V)) : Prop where
  ns : (a == sysModules) = false
  ln : kvs.length ≤ sizeLine
  ex : ∃ es ep xs, o.ExactDict ∧ o.data = .dict es ep ∧ es.toList = xs.map (entryOfKey (nestedKind P w)) ∧ (xs.map (·.1)).Nodup ∧ NXs F kvs xs
theorem NXs.mono (e : ∀ a vs, F a = some (.tup vs) → H' a = some (.tup vs)) {kvs : List (NestedKey × V)} {xs : List (NestedKey × Addr × Value)} (h : NXs F kvs xs) : NXs H' kvs xs := Paired.mapP h fun _ _ z => ⟨z.1, ⟨z.2.1.1.mono e, z.2.1.2⟩, z.2.2⟩
theorem DNx.mono {a : Addr} {o : Obj} {kvs : List (NestedKey × V)} (e : ∀ a vs, F a = some (.tup vs) → H' a = some (.tup vs)) (h : DNx P w F a o kvs) : DNx P w H' a o kvs := by
  obtain ⟨h1, h2, es, ep, xs, g1, g2, g3, g4, g5⟩ := h
  exact ⟨h1, h2, es, ep, xs, g1, g2, g3, g4, g5.mono e⟩
theorem rawO_ok {a : Addr} {o : Obj} (h1 : h.get? a = some o) : ObjOk P w H h a (rawO a o) := ⟨h1, ⟨o, h1⟩, fun _ _ p q => q _ p⟩
theorem rawO_get {a : Addr} {o : Obj} (ok : HOk P w H h) (e : H a = some (rawO a o)) : h.get? a = some o := (ok a _ e).1
theorem NXs.keys (ok : HOk P w H h) : ∀ {kvs : List (NestedKey × V)} {xs : List (NestedKey × Addr × Value)}, NXs H kvs xs → ∀ x ∈ xs, (nestedKind P w).is h x.1 x.2.1
  | _, _, .nil, x, hx => nomatch hx
  | _, _, .cons r t, x, hx => by
    rcases List.mem_cons.mp hx with e | hx
    · subst e; exact ⟨NKv.is ok r.2.1.1 rfl, r.2.1.2⟩
    · exact NXs.keys ok t x hx
theorem DNx.of {a : Addr} {o : Obj} {kvs : List (NestedKey × V)} (ok : HOk P w H h) (e : H a = some (rawO a o)) (d : DNx P w H a o kvs) : ∃ xs, NXs H kvs xs ∧ h.DictOfH (nestedKind P w) a xs := by
  obtain ⟨_, _, es, ep, xs, g1, g2, g3, g4, g5⟩ := d
  exact ⟨xs, g5, o, es, ep, rawO_get ok e, g1, g2, g3, NXs.keys ok g5, g4⟩
theorem NXs.val {kvs : List (NestedKey × V)} {xs : List (NestedKey × Addr × Value)} (r : NXs H kvs xs) (k : NestedKey) : RelO (valV kvs k) ((atKey xs k).map (·.2)) := by
  induction r with
  | nil => exact True.intro
  | @cons p q ps qs h t ih =>
    obtain ⟨h1, _, h2⟩ := h
    by_cases e : p.1 = k
    · have e' : q.1 = k := h1.symm.trans e
      have b : atKey (q :: qs) k = some q.2 := by simp [atKey, List.find?_cons, e']
      rw [valV_pos e, b]; exact h2
    · have e' : ¬ q.1 = k := fun z => e (h1.trans z)
      have b : atKey (q :: qs) k = atKey qs k := by simp [atKey, List.find?_cons, e']
      rw [valV_neg e, b]; exact ih
theorem NXs.repl {kvs : List (NestedKey × V)} {xs : List (NestedKey × Addr × Value)} (r : NXs H kvs xs) (k : NestedKey) {y : V} {u : Value} (ry : RelV y u) :
    NXs H (kvs.map fun kv => if kv.1 = k then (kv.1, y) else kv) (xs.map (putAt k u)) := by
  induction r with
  | nil => exact .nil
  | @cons p q ps qs h t ih =>
    rw [List.map_cons, List.map_cons]
    refine .cons ?_ ih
    obtain ⟨h1, h2, h3⟩ := h
    unfold putAt
    by_cases e : p.1 = k
    · rw [if_pos e, if_pos (h1.symm.trans e)]; exact ⟨h1, h2, ry⟩
    · rw [if_neg e, if_neg (fun z => e (h1.trans z))]; exact ⟨h1, h2, h3⟩
theorem NXs.put {kvs : List (NestedKey × V)} {xs : List (NestedKey × Addr × Value)} (r : NXs H kvs xs) (k : NestedKey) {b : Addr} {y : V} {u : Value} (hb : NKv H k (.ref b)) (hd : k.depth ≤ 8) (ry : RelV y u) :
    NXs H (putK kvs k y) (storedH xs k b u) := by
  have e : (kvs.any fun kv => decide (kv.1 = k)) = (atKey xs k).isSome := by
    rw [valV_any, (r.val k).isSome_eq, Option.isSome_map]
  unfold putK storedH
  rw [e]
  by_cases q : (atKey xs k).isSome = true
  · rw [if_pos q, if_pos q]; exact r.repl k ry
  · rw [if_neg q, if_neg q]; exact Paired.snoc r ⟨rfl, ⟨hb, hd⟩, ry⟩
end
section
variable {X : Cx} {pins : List (Addr × Obj)} {σ : L2.St} {H : Hp} {s : Shared} {a b : Addr} {v d : V} {u r : Value} {A : Around} {E : Value → Shared → Prop} {o : Obj} {kvs : List (NestedKey × V)} {k : NestedKey}
/-- the dict at a, as the heap told has it -/
def DNh (X : Cx) (H : Hp) (a : Addr) (kvs : List (NestedKey × V)) : Prop := ∃ o, H a = some (rawO a o) ∧ DNx X.prog X.w H a o kvs
theorem nroom (hu : A.units + 9 < cLine) : (nestedKind X.prog X.w).room A.in1 := by
  show A.in1.units + 8 < cLine
  have : A.in1.units = A.units + 1 := rfl
  omega
theorem dN_key (I : Inv X pins σ H s) (h : NKv H k (.ref b)) (hd : k.depth ≤ 8) : (nestedKind X.prog X.w).is s.heap k b := ⟨h.is I.hok rfl, hd⟩
theorem dN_setItem {Q : Unit → Shared → Prop} (hu : A.units + 9 < cLine) (I : Inv X pins σ H s) (g : DNh X H a kvs) (hk : NKv H k (.ref b)) (hd : k.depth ≤ 8) (hl : kvs.length < sizeLine) (rv : RelV v r)
    (h : ∀ s' o', Inv X pins σ (upd H a (rawO a o')) s' → DNx X.prog X.w H a o' (putK kvs k v) → Q () s') : wpAny (model X.prog X.w) A (setItem (.ref a) (.ref b) r) Q E s := by
  obtain ⟨o, e, g⟩ := g
  have ns := g.ns
  obtain ⟨xs, rel, dd⟩ := g.of I.hok e
  have hz : xs.length ≤ sizeLine := by rw [← Paired.length rel]; exact Nat.le_of_lt hl
  refine wpAny_setItem_heap (hsz := hz) (nroom hu) (dN_key I hk hd) dd fun h' dd' hs => ?_
  obtain ⟨q, es, ep, hq, h2, h3, h4, _, h5⟩ := dd'
  refine h _ q (d_write I (by rw [e]; exact True.intro) hs ⟨q, hq⟩ (rawO_ok hq)) ⟨ns, by have := length_putK kvs k v; omega, es, ep, _, h2, h3, h4, h5, rel.put k hk hd rv⟩
end
def sNPut (X : Cx) (td ty tv : TE) : TS := fun D σ H => tv σ H fun v H1 => td σ H1 fun x H2 => ty σ H2 fun y H3 => ∃ a b kvs k, x = .ref a ∧ y = .ref b ∧ DNh X H3 a kvs ∧ NKv H3 k y ∧ k.depth ≤ 8 ∧ kvs.length < sizeLine ∧ ∀ o', DNx X.prog X.w H3 a o' (putK kvs k v) → D.nx σ (upd H3 a (rawO a o'))
def tNNew (X : Cx) : TE := fun _ H Q => ∀ p o, H p = none → DNx X.prog X.w H p o [] → Q (.ref p) (upd H p (rawO p o))
section
variable {X : Cx} {o i e f value : Expr} {pos pos' apos cpos : Pos} {td ty tx tv : TE}
theorem ps_nput (hu : X.A.units + 9 < cLine) (ho : PE X o td) (hi : PE X i ty) (hv : PE X value tv) (hs : swapsWith value (some (.Subscript o i pos')) pos.line X.env = pure false) :
    PS X (.Assign [.Subscript o i pos'] value pos) (sNPut X td ty tv) := by
  refine ⟨fun pins s σ H D I h => ?_⟩
  refine wpAny_Assign_Subscript (thn (hv.run pins s σ H _ I h) fun r s1 ⟨v, H1, I1, rv, q1⟩ => thn (ho.run pins s1 σ H1 _ I1 q1) fun u s2 ⟨x, H2, I2, rx, q2⟩ => thn (hi.run pins s2 σ H2 _ I2 q2) fun iv s3 ⟨y, H3, I3, ry, a, b, kvs, k, ex, ey, g, hk, hd, hl, q3⟩ => ?_) hs
  subst ex ey
  obtain rfl : u = Value.ref a := rx
  obtain rfl : iv = Value.ref b := ry
  exact dN_setItem hu I3 g hk hd hl rv fun s4 o' I4 dx => ⟨σ, _, I4, q3 o' dx⟩
theorem dn_empty {P : Program} {w : World} {H : Hp} (h : Heap) (hb : sysModules < h.objs.size) : DNx P w H h.objs.size { cls := .type "dict", data := .dict #[] } [] :=
  ⟨beq_eq_false_iff_ne.mpr (Ne.symm (Nat.ne_of_lt hb)), Nat.zero_le _, #[], 0, [], ⟨rfl, rfl, rfl⟩, rfl, rfl, List.nodup_nil, .nil⟩
theorem pe_nnew : PE X (.Dict [] [] pos) (tNNew X) := ⟨fun pins s σ H Q I h =>
  wpAny_Dict_empty ⟨.ref s.heap.objs.size, _, I.laid (a := s.heap.objs.size) (o := rawO s.heap.objs.size { cls := .type "dict", data := .dict #[] }) (t' := s.toks) (fun _ _ q => Heap.get?_push_of_some _ q) (Nat.le_refl _) (rawO_ok (Heap.get?_push_size _ rfl)), rfl, h _ _ (I.hok.fresh (Nat.le_refl _)) (dn_empty s.heap I.big)⟩⟩
/-- len(d) -/
def rLenN (X : Cx) : List V → Hp → VK → Prop := fun xs H Q => ∃ (p : Addr) (kvs : List (NestedKey × V)), xs = [.ref p] ∧ DNh X H p kvs ∧ Q (.int ((kvs.length : Nat) : Int)) H
theorem call_len_dN : CallR X (.builtin "len") (rLenN X) := by
  intro pins s σ H xs us Q I r h
  obtain ⟨p, kvs, rfl, ⟨o, e, g⟩, q⟩ := h
  obtain ⟨u, rfl, rx⟩ := vals1 r
  obtain rfl : u = .ref p := rx
  have z := g.ln
  have ns := g.ns
  obtain ⟨ys, rel, dd⟩ := g.of I.hok e
  have hl : kvs.length = ys.length := Paired.length rel
  refine call_len_dictH ns dd (by rw [← hl]; rw [sizeLine_eq] at z; omega) ?_
  rw [← hl]
  exact ⟨.int ((kvs.length : Nat) : Int), H, I.tok _, ⟨_, rfl⟩, q⟩
end
end TL
namespace TL
open PySem PySem.Spec PyProof.Rows L2
def dnT (P : Program) (w : World) (a : Addr) (kvs : List (NestedKey × PyData)) : OwT where
  id := a
  fp := [a]
  ok := fun K F H v => v = .ref a ∧ ∃ o kvs', H a = some (rawO a o) ∧ DNx P w F a o kvs' ∧ KVp K F kvs' kvs
  isr := fun h => h.1
  mono := fun e k ⟨h1, o, kvs', h2, h3, h4⟩ => ⟨h1, o, kvs', k _ (by simp) _ h2, h3.mono fun a vs z => e a _ z, kvp_mono e h4⟩
  there := fun ⟨h1, o, kvs', h2, h3, h4⟩ b hb => by
    have e : b = a := by simpa using hb
    subst e
    exact ⟨_, h2, rfl⟩
  rows := []
  held := fun _ r hr => by cases hr
def IsDN (P : Program) (w : World) (kvs : List (NestedKey × PyData)) (s : Sl) : Prop := ∃ a, s = .ow (dnT P w a kvs)
def putNM (kvs : List (NestedKey × PyData)) (key v : PyData) (K : List (NestedKey × PyData) → Prop) : Prop := match keyN key with
  | some k => kvs.length < sizeLine ∧ K (putP kvs k v)
  | none => False
section
variable {X : Cx} {g : G} {env env' : List Sl} {Ψ : Exc → Prop} {P : Po} {pos p lp tpos apos : Pos} {a b c e f : Expr} {es : List Expr} {K : Frag} {F F' H H' : Hp} {σ σ' : SS} {x y : PyData} {k0 : Nat} {s : Sl} {kvs : List (NestedKey × PyData)} {key v dflt : PyData}
theorem putN_m {Q Q' : List (NestedKey × PyData) → Prop} (h : putNM kvs key v Q) (k : ∀ r, Q r → Q' r) : putNM kvs key v Q' := by
  unfold putNM at *
  split at h
  · exact ⟨h.1, k _ h.2⟩
  · exact h
theorem IsDN.ne {P : Program} {w : World} (h : IsDN P w kvs s) : s ≠ .un := by
  obtain ⟨a, rfl⟩ := h
  intro z; cases z
/-- what a slot that is such a dict says -/
theorem dn_at {i : Nat} (st : St X.K g F H σ env) (hn : IsDN X.prog X.w kvs s) (he : env[i]? = some s) : ∃ a kvs', s = .ow (dnT X.prog X.w a kvs) ∧ σ[i]? = some (some (.ref a)) ∧ DNh X H a kvs' ∧ KVp X.K F kvs' kvs ∧ Own env a := by
  obtain ⟨a, rfl⟩ := hn
  obtain ⟨v, h1, rfl, o, kvs', h2, h3, h4⟩ := st.sl i _ he
  exact ⟨a, kvs', rfl, getD_some h1, ⟨o, h2, h3.mono fun b vs z => st.ex b _ z⟩, h4, i, _, he, by show a ∈ [a]; simp⟩
theorem nk_up (st : St K g F H σ env) {k : NestedKey} {v : V} (h : NKv F k v) : NKv H k v := h.mono fun b vs z => st.ex b _ z
theorem we_lenN (i : Nat) {xn : Str} {q : Pos} {Φ : PyData → Bool → Prop} (hn : IsDN X.prog X.w kvs s) (hm : X.mg "len" = none) (h : Φ (.int (kvs.length : Nat)) true) (he : env[i]? = some s := by rfl) (hN : X.N[i]? = some xn := by rfl)
    (hv : Vis X.env.scope xn := by first | exact Or.inl rfl | exact Or.inr (Or.inl rfl) | exact Or.inr (Or.inr rfl)) (hd : (xn == ("__debug__" : Str)) = false := by decide)
    (hcd : (xn == ("__classdict__" : Str)) = false := by decide) (hg : Gl X "len" := by rfl)
    (he1 : starEach [Expr.Name xn q] X.env = (false, eval (Expr.Name xn q) X.env) :: starEach [] X.env := by rfl)
    (hp1 : (backTo pos (starEach ([] : List Expr) X.env)).any (·.1) = false := by rfl) : WE X g (.Call (.Name "len" p) [.Name xn q] [] pos) env Φ Ψ := fun W tk σ F H st hx Q hQ => by
  refine semE_of (pe_callB call_len_dN hg hm PySem.boot_len (pa_cons (pe_var hN hv hd hcd) pa_nil he1) (by decide) (by decide) he1 hp1) ?_
  obtain ⟨al, kvs', _, hσ, dh, kv, _⟩ := dn_at st hn he
  refine ⟨_, hσ, al, kvs', rfl, dh, ?_⟩
  rw [kvp_len kv]
  exact hQ _ true _ F H h st (Ex.refl F) (.int _)
theorem w1_storeN (i : Nat) {xn : Str} {q : Pos} (hn : IsDN X.prog X.w kvs s) (nM : ∀ b ∈ s.fp, b ∉ g.M) (hr : Room k0 X.A)
    (h : WE X g e env (fun d z => z = true ∧ WE X g a env (fun kd z => z = true ∧ putNM kvs kd d fun r => ∀ s', IsDN X.prog X.w r s' → (∀ b ∈ s'.fp, b ∉ g.M) → P.nx (env.set i s')) (fun c => P.ex c env)) (fun c => P.ex c env)) (he : env[i]? = some s := by rfl) (hN : X.N[i]? = some xn := by rfl)
    (hv : Vis X.env.scope xn := by first | exact Or.inl rfl | exact Or.inr (Or.inl rfl) | exact Or.inr (Or.inr rfl)) (hd : (xn == ("__debug__" : Str)) = false := by decide)
    (hcd : (xn == ("__classdict__" : Str)) = false := by decide)
    (hs : swapsWith e (some (.Subscript (.Name xn q) a tpos)) pos.line X.env = pure false := by rfl) : W1 X g (.Assign [.Subscript (.Name xn q) a tpos] e pos) env P := fun W tk hx2 σ F H s0 D hD => by
  refine semP_of (ps_nput (by have := units65 hr; omega) (pe_var hN hv hd hcd) (peS a) (peS e) hs) ?_
  refine h W tk σ F H s0 (hx2.hx env σ) _ fun d z v F1 H1 ⟨hz, hw⟩ s1 e1 r1 => ?_
  subst hz
  obtain ⟨al, _, es, hσ, _⟩ := dn_at s1 hn he
  refine ⟨_, hσ, ?_⟩
  refine hw W tk σ F1 H1 s1 (hx2.hx env σ) _ fun kd z w F2 H2 ⟨hz, hp⟩ s2 e2 r2 => ?_
  subst hz
  unfold putNM at hp
  split at hp
  · rename_i k hk
    obtain ⟨n1, n2, b, rfl⟩ := keyN_dq r2 hk
    obtain ⟨al', kvs', es', hσ', dh, kv, _⟩ := dn_at s2 hn he
    rw [hσ] at hσ'
    cases hσ'
    have hfp : s.fp = [al] := by rw [es]; rfl
    have hdf : ∀ o', DNx X.prog X.w H2 al o' (putK kvs' k v) → ∃ kk, DNx X.prog X.w F2 al o' kk ∧ KVp X.K F2 kk (putP kvs k d) := fun o' dx => ?_
    · refine ⟨al, b, kvs', k, rfl, rfl, dh, nk_up s2 n1, n2, by rw [kvp_len kv]; exact hp.1, fun o' dx => ?_⟩
      obtain ⟨kk, q1, q2⟩ := hdf o' dx
      have eσ : σ[i]?.getD none = some (.ref al) := by rw [hσ]; rfl
      refine hD.nx _ _ F2 _ (hp.2 (.ow (dnT X.prog X.w al (putP kvs k d))) ⟨al, rfl⟩ fun c hc => nM c (by rw [hfp]; exact hc)) (s2.write (s' := .ow (dnT X.prog X.w al (putP kvs k d))) he hfp rfl ⟨.ref al, eσ, rfl, o', kk, upd_same, q1, q2⟩) (e1.trans e2)
    · refine ⟨_, ?_, kvp_put kv (dp_mono e2 _ _ r1)⟩
      obtain ⟨o0, g1, g2⟩ := dh
      obtain ⟨h1, h2, es1, ep1, xs1, z1, z2, z3, z4, z5⟩ := dx
      refine ⟨h1, h2, es1, ep1, xs1, z1, z2, z3, z4, ?_⟩
      exact Paired.mapP z5 fun p q z => ⟨z.1, ⟨z.2.1.1.mono fun a vs y => s2.tf a vs y, z.2.1.2⟩, z.2.2⟩
  · exact hp.elim
theorem dn_back {P : Program} {w : World} {al : Addr} {o' : Obj} {kk : List (NestedKey × V)} (tf : ∀ (a : Addr) (vs : List V), H a = some (.tup vs) → F a = some (.tup vs)) (h : DNx P w H al o' kk) : DNx P w F al o' kk := h.mono tf
/-- x = {} -/
theorem wo_newN {Φ : Sl → Prop} (h : ∀ s, IsDN X.prog X.w [] s → Φ s) : WO X g (.Dict [] [] pos) env Φ Ψ := fun W tk σ F H st hx Q hQ => by
  refine semE_of pe_nnew fun p o hn dx => ?_
  have s1 := st.alloc (o := rawO p o) hn (fun vs z => by unfold rawO at z; cases z)
  exact hQ _ (.ref p) F _ (h _ ⟨p, rfl⟩) s1 (Ex.refl F) ⟨⟨.ref p, rfl, rfl, o, [], upd_same, dn_back st.tf dx, .nil⟩, fun b hb => by
    have e : b = p := by simpa [Sl.fp, dnT] using hb
    subst e
    exact ⟨st.ex.none hn, st.toSk.notown hn, st.h0 hn⟩⟩
end
end TL
namespace Tx
open PySem PySem.Spec PyProof.Rows L2
set_option maxRecDepth 100000
def topS (i : Nat) : Stmt := PySem.Challenge.pw_pinchfold_k09_unlike_plans_counted.main.body.getD i (.Pass ⟨0, 0, 0, 0⟩)
abbrev s_need_faces : Stmt := topS 6
abbrev s_ways_row : Stmt := topS 7
abbrev s_unlike : Stmt := topS 8
abbrev s__law_alike : Stmt := topS 10
abbrev s__law_bag : Stmt := topS 11
abbrev s__law_every_plan : Stmt := topS 12
abbrev s__law_first : Stmt := topS 13
abbrev s__law_pair : Stmt := topS 14
abbrev s__law_pull : Stmt := topS 15
abbrev s__law_turned : Stmt := topS 16
abbrev s__law_ways : Stmt := topS 17
abbrev s__law_whole : Stmt := topS 18
abbrev s_law : Stmt := topS 19
theorem sc_need_faces : FnScope ["faces"] ["faces"] (defScope s_need_faces) := ⟨rfl, rfl, rfl, by decide +kernel, rfl, by decide +kernel, by decide +kernel⟩
theorem sc_ways_row : FnScope ["most", "row", "many", "first"] ["most"] (defScope s_ways_row) := ⟨rfl, rfl, rfl, by decide +kernel, rfl, by decide +kernel, by decide +kernel⟩
theorem sc_unlike : FnScope ["faces", "row", "found"] ["faces"] (defScope s_unlike) := ⟨rfl, rfl, rfl, by decide +kernel, rfl, by decide +kernel, by decide +kernel⟩
theorem sc__law_alike : FnScope ["_law_found", "_law_due", "_law_at"] ["_law_found", "_law_due"] (defScope s__law_alike) := ⟨rfl, rfl, rfl, by decide +kernel, rfl, by decide +kernel, by decide +kernel⟩
theorem sc__law_bag : FnScope ["_law_script", "_law_cells", "_law_one", "_law_salt"] ["_law_script"] (defScope s__law_bag) := ⟨rfl, rfl, rfl, by decide +kernel, rfl, by decide +kernel, by decide +kernel⟩
theorem sc__law_every_plan : FnScope ["_law_faces", "_law_arcs", "_law_wide", "_law_start", "_law_rows", "_law_middle", "_law_first_here", "_law_second", "_law_found", "_law_row", "_law_cuts", "_law_low", "_law_high"] ["_law_faces"] (defScope s__law_every_plan) := ⟨rfl, rfl, rfl, by decide +kernel, rfl, by decide +kernel, by decide +kernel⟩
theorem sc__law_first : FnScope ["_law_plan", "_law_many"] ["_law_plan"] (defScope s__law_first) := ⟨rfl, rfl, rfl, by decide +kernel, rfl, by decide +kernel, by decide +kernel⟩
theorem sc__law_pair : FnScope ["_law_one", "_law_other"] ["_law_one", "_law_other"] (defScope s__law_pair) := ⟨rfl, rfl, rfl, by decide +kernel, rfl, by decide +kernel, by decide +kernel⟩
theorem sc__law_pull : FnScope ["_law_bag_here", "_law_many", "_law_seed", "_law_blend", "_law_drawn"] ["_law_bag_here", "_law_many"] (defScope s__law_pull) := ⟨rfl, rfl, rfl, by decide +kernel, rfl, by decide +kernel, by decide +kernel⟩
theorem sc__law_turned : FnScope ["_law_plan", "_law_many", "_law_faces", "_law_cuts", "_law_rows", "_law_low", "_law_high"] ["_law_plan", "_law_many"] (defScope s__law_turned) := ⟨rfl, rfl, rfl, by decide +kernel, rfl, by decide +kernel, by decide +kernel⟩
theorem sc__law_ways : FnScope ["_law_most", "_law_row", "_law_many"] ["_law_most"] (defScope s__law_ways) := ⟨rfl, rfl, rfl, by decide +kernel, rfl, by decide +kernel, by decide +kernel⟩
theorem sc__law_whole : FnScope ["_law_found"] ["_law_found"] (defScope s__law_whole) := ⟨rfl, rfl, rfl, by decide +kernel, rfl, by decide +kernel, by decide +kernel⟩
theorem sc_law : FnScope ["_law_script", "_law_bag_here", "_law_few", "_law_forms", "_law_plan", "_law_row", "_law_turn", "_law_faces", "_law_whole_here"] ["_law_script"] (defScope s_law) := ⟨rfl, rfl, rfl, by decide +kernel, rfl, by decide +kernel, by decide +kernel⟩
end Tx
namespace Tx
namespace Hd
open PySem PySem.Spec PyProof.Rows L2 TL
def d_need_faces : He.DefD := ⟨("need_faces", none), "need_faces", "need_faces", defArgs s_need_faces, defBody s_need_faces, defScope s_need_faces, [], []⟩
def d_ways_row : He.DefD := ⟨("ways_row", none), "ways_row", "ways_row", defArgs s_ways_row, defBody s_ways_row, defScope s_ways_row, [], []⟩
def d_unlike : He.DefD := ⟨("unlike", none), "unlike", "unlike", defArgs s_unlike, defBody s_unlike, defScope s_unlike, [], []⟩
def d__law_alike : He.DefD := ⟨("_law_alike", none), "_law_alike", "_law_alike", defArgs s__law_alike, defBody s__law_alike, defScope s__law_alike, [], []⟩
def d__law_bag : He.DefD := ⟨("_law_bag", none), "_law_bag", "_law_bag", defArgs s__law_bag, defBody s__law_bag, defScope s__law_bag, [], []⟩
def d__law_every_plan : He.DefD := ⟨("_law_every_plan", none), "_law_every_plan", "_law_every_plan", defArgs s__law_every_plan, defBody s__law_every_plan, defScope s__law_every_plan, [], []⟩
def d__law_first : He.DefD := ⟨("_law_first", none), "_law_first", "_law_first", defArgs s__law_first, defBody s__law_first, defScope s__law_first, [], []⟩
def d__law_pair : He.DefD := ⟨("_law_pair", none), "_law_pair", "_law_pair", defArgs s__law_pair, defBody s__law_pair, defScope s__law_pair, [], []⟩
def d__law_pull : He.DefD := ⟨("_law_pull", none), "_law_pull", "_law_pull", defArgs s__law_pull, defBody s__law_pull, defScope s__law_pull, [], []⟩
def d__law_turned : He.DefD := ⟨("_law_turned", none), "_law_turned", "_law_turned", defArgs s__law_turned, defBody s__law_turned, defScope s__law_turned, [], []⟩
def d__law_ways : He.DefD := ⟨("_law_ways", none), "_law_ways", "_law_ways", defArgs s__law_ways, defBody s__law_ways, defScope s__law_ways, [], []⟩
def d__law_whole : He.DefD := ⟨("_law_whole", none), "_law_whole", "_law_whole", defArgs s__law_whole, defBody s__law_whole, defScope s__law_whole, [], []⟩
def d_law : He.DefD := ⟨("law", none), "law", "law", defArgs s_law, defBody s_law, defScope s_law, [], []⟩
def fn : List He.DefD := [d_need_faces, d_ways_row, d_unlike, d__law_alike, d__law_bag, d__law_every_plan, d__law_first, d__law_pair, d__law_pull, d__law_turned, d__law_ways, d__law_whole, d_law]
def fa : List He.Fa := [.glo "need_faces",
  .glo "ways_row",
  .glo "unlike",
  .glo "_law_alike",
  .glo "_law_bag",
  .glo "_law_every_plan",
  .glo "_law_first",
  .glo "_law_pair",
  .glo "_law_pull",
  .glo "_law_turned",
  .glo "_law_ways",
  .glo "_law_whole",
  .glo "law",
  .glo "PinchError",
  .glo "BadFaces",
  .free "abs",
  .free "all",
  .free "bool",
  .free "int",
  .free "isinstance",
  .free "len",
  .free "list",
  .free "max",
  .free "min",
  .free "range",
  .free "sorted",
  .free "str",
  .free "sum",
  .free "tuple",
  .int "LEAST" 3,
  .int "MOST" 40,
  .exc "PinchError",
  .exc "BadFaces"]
def xf : List XF := []
abbrev R : PySem.W.OpenRow := PySem.W.OpenLaw.row PySem.Challenge.rw_pinchfold_k09_unlike_plans_counted
def tf : List LamD := []
abbrev hk : PySem.W.Hook := hookL 4 xf fa fn tf
def ob (s : PySem.W.SharedT) : AlL := obsLG 4 xf fa fn tf (HandSHeadRun.getT s)
theorem ob_eq (s : PySem.W.SharedT) : ob s = hk.obs s.abs := obsLG_eq (HandSHeadRun.getT_eq s)
def loose : List PySem.Str := (["PinchError", "BadFaces", "LEAST", "MOST", "need_faces", "ways_row", "unlike", "_law_alike", "_law_bag", "_law_every_plan", "_law_first", "_law_pair", "_law_pull", "_law_turned", "_law_ways", "_law_whole"] : List PySem.Str)
theorem run (w : World) : HandSHeadRun.RunEq R (PySem.W.view R.prog [19]) hk ob 6000 loose w := by
  intro os
  kernel_rfl
end Hd
end Tx
namespace Tx
open PySem PySem.Spec PyProof.Rows L2 TL
def catl : List Int := [0, 1, 1, 2, 5, 14, 42, 132, 429, 1430, 4862, 16796, 58786, 208012, 742900, 2674440, 9694845, 35357670, 129644790, 477638700, 1767263190, 6564120420, 24466267020, 91482563640, 343059613650, 1289904147324, 4861946401452, 18367353072152, 69533550916004, 263747951750360, 1002242216651368, 3814986502092304, 14544636039226909, 55534064877048198, 212336130412243110, 812944042149730764, 3116285494907301262, 11959798385860453492, 45950804324621742364, 176733862787006701400, 680425371729975800390, 2622127042276492108820]
def cc (i : Nat) : Int := catl.getD i 0
abbrev ccD (i : Nat) : PyData := .int (cc i)
theorem cc_rec : ∀ m < 41, 2 ≤ m → ((List.range (m - 1)).map fun (j : Nat) => cc (1 + (j : Int)).toNat * cc ((m : Int) - (1 + (j : Int))).toNat).sum = cc m := by decide +kernel
theorem cc_lt : ∀ m < 42, (cc m).natAbs < 2 ^ 80 := by decide +kernel
theorem cc_wide (i j : Int) (h : i.toNat < 42) (h2 : j.toNat < 42) : CMulW (cc i.toNat) (cc j.toNat) := wide_mul (cc_lt _ h) (cc_lt _ h2) (by decide) (by decide) (by decide)
theorem cc_cat : ∀ m < 40, 1 ≤ m → cc m * 2 * (2 * (m : Int) - 1) / ((m : Int) + 1) = cc (m + 1) := by decide +kernel
def lePP (p q : Int × Int) : Bool := decide (p.1 < q.1 ∨ (p.1 = q.1 ∧ p.2 ≤ q.2))
def ltPP (p q : Int × Int) : Bool := decide (p.1 < q.1 ∨ (p.1 = q.1 ∧ p.2 < q.2))
def sortPP (ps : List (Int × Int)) : List (Int × Int) := ps.mergeSort lePP
theorem srt_pp (ps : List (Int × Int)) : srt (ps.map ppD) = (sortPP ps).map ppD := by
  unfold srt sortPP
  have e := PySem.W.dataLe_ii (β := Int × Int) (fun p => p.1) (fun p => p.2)
  refine (List.map_mergeSort (r := lePP) (s := PySem.W.dataLe false id) fun a _ b _ => ?_).symm
  have e2 := congrFun (congrFun e a) b
  exact e2.symm
def planD (n : Int) (cs : List PyData) : PyData := .tuple [.int n, .tuple cs]
abbrev plD (n : Int) (cs : List (Int × Int)) : PyData := planD n (cs.map ppD)
def nrm (n : Int) (p : Int × Int) : Int × Int := (if p.2 % n < p.1 then p.2 % n else p.1, if p.2 % n > p.1 then p.2 % n else p.1)
def inF (p : Int × Int) (c : Int) : Bool := !decide (c = p.1) && !decide (c = p.2)
def inG (p : Int × Int) (c : Int) : Bool := decide (p.1 < c) && decide (c < p.2)
def two : List Bool → Bool
  | [a, b] => !decide (a = b)
  | _ => false
def crossB (p q : Int × Int) : Bool := two (([q.1, q.2].filter (inF p)).map (inG p))
theorem eqv_ii (a b c d : Int) : PyData.eqv (.tuple [.int a, .int b]) (.tuple [.int c, .int d]) = decide (a = c ∧ b = d) := by
  simp only [PyData.eqv, PyData.eqvAll, Bool.and_true]
  by_cases h1 : a = c
  · by_cases h2 : b = d
    · simp [h1, h2]
    · simp [h1, h2]
  · simp [h1]
theorem ltPP_lex (p q : Int × Int) : HT.lexLt [p.1, p.2] [q.1, q.2] = ltPP p q := by
  unfold ltPP
  rw [HT.lexLt_cons, HT.lexLt_cons, HT.lexLt_nil_nil]
  by_cases h : p.1 = q.1
  · rw [if_pos h]
    by_cases h2 : p.2 = q.2
    · rw [if_pos h2]; symm; apply decide_eq_false; omega
    · rw [if_neg h2]; apply decide_eq_decide.mpr; omega
  · rw [if_neg h]; apply decide_eq_decide.mpr; omega
structure IsPlan (n : Int) (cs : List (Int × Int)) : Prop where
  lo : 3 ≤ n
  hi : n ≤ 40
  len : (cs.length : Int) = n - 3
  cut : ∀ c ∈ cs, 0 ≤ c.1 ∧ c.1 + 1 < c.2 ∧ c.2 < n ∧ ¬ (c.1 = 0 ∧ c.2 = n - 1)
  srt : cs.Pairwise fun p q => ltPP p q = true
  noc : ∀ c ∈ cs, ∀ d ∈ cs, crossB c d = false
theorem inF_t {p : Int × Int} {c : Int} (h1 : c ≠ p.1) (h2 : c ≠ p.2) : inF p c = true := by unfold inF; simp [h1, h2]
theorem inF_1 {p : Int × Int} {c : Int} (h1 : c = p.1) : inF p c = false := by unfold inF; simp [h1]
theorem inF_2 {p : Int × Int} {c : Int} (h1 : c = p.2) : inF p c = false := by unfold inF; simp [h1]
theorem cross_eq (p q : Int × Int) : crossB p q = decide (q.1 ≠ p.1 ∧ q.1 ≠ p.2 ∧ q.2 ≠ p.1 ∧ q.2 ≠ p.2 ∧ ¬ ((p.1 < q.1 ∧ q.1 < p.2) ↔ (p.1 < q.2 ∧ q.2 < p.2))) := by
  unfold crossB
  have k1 : ∀ x y : Bool, inF p q.1 = x → inF p q.2 = y → two (([q.1, q.2].filter (inF p)).map (inG p)) = (x && y && !decide (inG p q.1 = inG p q.2)) := fun x y h1 h2 => by
    cases x <;> cases y <;> simp [List.filter, h1, h2, two]
  have g : ∀ c, inG p c = decide (p.1 < c ∧ c < p.2) := fun c => by unfold inG; simp
  have key : (!decide (inG p q.1 = inG p q.2)) = decide (¬ ((p.1 < q.1 ∧ q.1 < p.2) ↔ (p.1 < q.2 ∧ q.2 < p.2))) := by
    rw [g, g]
    by_cases a : p.1 < q.1 ∧ q.1 < p.2 <;> by_cases b : p.1 < q.2 ∧ q.2 < p.2 <;> simp [a, b]
  by_cases h1 : q.1 = p.1
  · rw [k1 _ _ (inF_1 h1) rfl]; simp [h1]
  · by_cases h2 : q.1 = p.2
    · rw [k1 _ _ (inF_2 h2) rfl]; simp [h2]
    · by_cases h3 : q.2 = p.1
      · rw [k1 _ _ rfl (inF_1 h3)]; simp [h3]
      · by_cases h4 : q.2 = p.2
        · rw [k1 _ _ rfl (inF_2 h4)]; simp [h4]
        · rw [k1 _ _ (inF_t h1 h2) (inF_t h3 h4), key]
          apply decide_eq_decide.mpr
          constructor
          · exact fun h => ⟨h1, h2, h3, h4, h⟩
          · exact fun h => h.2.2.2.2
theorem lePP_total (p q : Int × Int) : (lePP p q || lePP q p) = true := by
  unfold lePP
  by_cases h : p.1 < q.1 ∨ (p.1 = q.1 ∧ p.2 ≤ q.2)
  · rw [decide_eq_true h]; rfl
  · rw [decide_eq_true (show q.1 < p.1 ∨ (q.1 = p.1 ∧ q.2 ≤ p.2) by omega), Bool.or_true]
theorem lePP_trans (p q r : Int × Int) (h1 : lePP p q = true) (h2 : lePP q r = true) : lePP p r = true := by
  unfold lePP at *
  have h1 := of_decide_eq_true h1
  have h2 := of_decide_eq_true h2
  apply decide_eq_true
  omega
theorem sortPP_perm (ps : List (Int × Int)) : (sortPP ps).Perm ps := List.mergeSort_perm ps lePP
theorem sortPP_lt {ps : List (Int × Int)} (nd : ps.Nodup) : (sortPP ps).Pairwise fun p q => ltPP p q = true := by
  have h1 : (sortPP ps).Pairwise fun p q => lePP p q = true := List.pairwise_mergeSort lePP_trans lePP_total ps
  have h2 : (sortPP ps).Nodup := (sortPP_perm ps).nodup_iff.mpr nd
  refine (h1.and h2).imp fun {p q} h => ?_
  have h3 := of_decide_eq_true h.1
  have h4 : p ≠ q := h.2
  apply decide_eq_true
  have : ¬ (p.1 = q.1 ∧ p.2 = q.2) := fun z => h4 (Prod.ext z.1 z.2)
  omega
inductive Arcs : Int → Int → List (Int × Int) → Prop
  | leaf {s e : Int} : e - s ≤ 1 → Arcs s e []
  | node {s m e : Int} {a b : List (Int × Int)} : s < m → m < e → Arcs s m a → Arcs m e b → Arcs s e ((s, m) :: (m, e) :: (a ++ b))
theorem Arcs.len {s e : Int} {l : List (Int × Int)} (h : Arcs s e l) (hs : s < e) : (l.length : Int) ≤ 2 * (e - s) - 2 := by
  induction h with
  | leaf h => simp; omega
  | node h1 h2 _ _ ia ib =>
    have := ia h1
    have := ib h2
    simp only [List.length_cons, List.length_append]
    omega
def wide (p : Int × Int) : Bool := decide (p.2 - p.1 > 1)
def lam (p q : Int × Int) : Prop := p.2 ≤ q.1 ∨ q.2 ≤ p.1 ∨ (p.1 ≤ q.1 ∧ q.2 ≤ p.2) ∨ (q.1 ≤ p.1 ∧ p.2 ≤ q.2)
theorem Arcs.within {s e : Int} {l : List (Int × Int)} (h : Arcs s e l) (hs : s < e) : ∀ p ∈ l, s ≤ p.1 ∧ p.1 < p.2 ∧ p.2 ≤ e ∧ ¬ (p.1 = s ∧ p.2 = e) := by
  induction h with
  | leaf h => intro p hp; cases hp
  | node h1 h2 _ _ ia ib =>
    intro p hp
    rcases List.mem_cons.mp hp with rfl | hp
    · exact ⟨Int.le_refl _, h1, by omega, by omega⟩
    · rcases List.mem_cons.mp hp with rfl | hp
      · exact ⟨by omega, h2, Int.le_refl _, by omega⟩
      · rcases List.mem_append.mp hp with hp | hp
        · have := ia h1 p hp; omega
        · have := ib h2 p hp; omega
theorem Arcs.lams {s e : Int} {l : List (Int × Int)} (h : Arcs s e l) (hs : s < e) : ∀ p ∈ l, ∀ q ∈ l, lam p q := by
  induction h with
  | leaf h => intro p hp; cases hp
  | @node s m e a b h1 h2 ha hb ia ib =>
    have wa := ha.within h1
    have wb := hb.within h2
    have cases4 : ∀ p ∈ (s, m) :: (m, e) :: (a ++ b), p = (s, m) ∨ p = (m, e) ∨ p ∈ a ∨ p ∈ b := fun p hp => by
      rcases List.mem_cons.mp hp with h | hp
      · exact .inl h
      · rcases List.mem_cons.mp hp with h | hp
        · exact .inr (.inl h)
        · rcases List.mem_append.mp hp with h | h
          · exact .inr (.inr (.inl h))
          · exact .inr (.inr (.inr h))
    intro p hp q hq
    rcases cases4 p hp with rfl | rfl | hp | hp <;> rcases cases4 q hq with rfl | rfl | hq | hq
    all_goals first
      | exact ia h1 p hp q hq
      | exact ib h2 p hp q hq
      | (unfold lam; (try have x1 := wa p hp); (try have x2 := wb p hp); (try have x3 := wa q hq); (try have x4 := wb q hq); (try simp only at *); omega)
theorem Arcs.nodup {s e : Int} {l : List (Int × Int)} (h : Arcs s e l) (hs : s < e) : l.Nodup := by
  induction h with
  | leaf h => exact List.nodup_nil
  | @node s m e a b h1 h2 ha hb ia ib =>
    have wa := ha.within h1
    have wb := hb.within h2
    refine List.nodup_cons.mpr ⟨fun hm => ?_, List.nodup_cons.mpr ⟨fun hm => ?_, List.nodup_append.mpr ⟨ia h1, ib h2, fun x hx y hy z => ?_⟩⟩⟩
    · rcases List.mem_cons.mp hm with h | hm
      · have := congrArg Prod.fst h; simp only at this; omega
      · rcases List.mem_append.mp hm with h | h
        · exact (wa _ h).2.2.2 ⟨rfl, rfl⟩
        · exact absurd (show m ≤ s from (wb _ h).1) (by omega)
    · rcases List.mem_append.mp hm with h | h
      · exact absurd (show e ≤ m from (wa _ h).2.2.1) (by omega)
      · exact (wb _ h).2.2.2 ⟨rfl, rfl⟩
    · subst z
      have := wa _ hx
      have := wb _ hy
      omega
theorem Arcs.wides {s e : Int} {l : List (Int × Int)} (h : Arcs s e l) (hs : s < e) : ((l.filter wide).length : Int) = if e - s ≤ 1 then 0 else e - s - 2 := by
  induction h with
  | leaf h => rw [if_pos h]; rfl
  | @node s m e a b h1 h2 ha hb ia ib =>
    have x := ia h1
    have y := ib h2
    rw [if_neg (by omega)]
    have w1 : wide (s, m) = decide (m - s > 1) := rfl
    have w2 : wide (m, e) = decide (e - m > 1) := rfl
    by_cases c1 : m - s ≤ 1 <;> by_cases c2 : e - m ≤ 1
    all_goals
      (first | rw [if_pos c1] at x | rw [if_neg c1] at x)
      (first | rw [if_pos c2] at y | rw [if_neg c2] at y)
      have d1 : decide (m - s > 1) = !decide (m - s ≤ 1) := by by_cases h : m - s ≤ 1 <;> simp [h] <;> omega
      have d2 : decide (e - m > 1) = !decide (e - m ≤ 1) := by by_cases h : e - m ≤ 1 <;> simp [h] <;> omega
      simp only [List.filter_cons, List.filter_append, w1, w2, d1, d2, c1, c2, decide_true, decide_false, Bool.not_true, Bool.not_false, if_true, if_false, List.length_cons, List.length_append, Bool.false_eq_true]
      omega
/-- what a drawn row of arcs gives is a good plan -/
theorem arcs_plan {n : Int} {l : List (Int × Int)} (h3 : 3 ≤ n) (h40 : n ≤ 40) (h : Arcs 1 n l) : IsPlan n (sortPP ((l.filter wide).map (nrm n))) := by
  have hn : (1 : Int) < n := by omega
  have hw := h.within hn
  have hlm := h.lams hn
  have hlen := h.wides hn
  rw [if_neg (by omega)] at hlen
  have val : ∀ p ∈ l.filter wide, (p.2 < n ∧ nrm n p = p) ∨ (p.2 = n ∧ nrm n p = (0, p.1)) := fun p hp => by
    have hp1 := (List.mem_filter.mp hp).1
    have w := hw p hp1
    by_cases e : p.2 = n
    · right
      refine ⟨e, ?_⟩
      unfold nrm
      rw [e, Int.emod_self, if_pos (by omega), if_neg (by omega)]
    · left
      refine ⟨by omega, ?_⟩
      unfold nrm
      rw [Int.emod_eq_of_lt (by omega) (by omega), if_neg (by omega), if_pos (by omega)]
  have facts : ∀ p ∈ l.filter wide, 1 ≤ p.1 ∧ p.1 + 1 < p.2 ∧ p.2 ≤ n ∧ ¬ (p.1 = 1 ∧ p.2 = n) := fun p hp => by
    obtain ⟨hp1, hp2⟩ := List.mem_filter.mp hp
    have w := hw p hp1
    have w2 : p.2 - p.1 > 1 := of_decide_eq_true hp2
    omega
  have nd : ((l.filter wide).map (nrm n)).Nodup := by
    have nd0 : (l.filter wide).Nodup := (h.nodup hn).filter _
    refine List.pairwise_map.mpr (nd0.imp_of_mem fun {p q} hp hq hne z => hne ?_)
    have f1 := facts p hp
    have f2 := facts q hq
    rcases val p hp with ⟨a1, a2⟩ | ⟨a1, a2⟩ <;> rcases val q hq with ⟨b1, b2⟩ | ⟨b1, b2⟩
    · rw [a2, b2] at z; exact z
    · rw [a2, b2] at z
      have := congrArg Prod.fst z; simp only at this; omega
    · rw [a2, b2] at z
      have := congrArg Prod.fst z; simp only at this; omega
    · rw [a2, b2] at z
      have := congrArg Prod.snd z; simp only at this
      exact Prod.ext this (by omega)
  have mem : ∀ c ∈ sortPP ((l.filter wide).map (nrm n)), ∃ p ∈ l.filter wide, nrm n p = c := fun c hc => List.mem_map.mp ((sortPP_perm _).mem_iff.mp hc)
  refine ⟨h3, h40, ?_, fun c hc => ?_, sortPP_lt nd, fun c hc d hd => ?_⟩
  · rw [(sortPP_perm _).length_eq, List.length_map]; omega
  · obtain ⟨p, hp, rfl⟩ := mem c hc
    have f1 := facts p hp
    rcases val p hp with ⟨a1, a2⟩ | ⟨a1, a2⟩
    · rw [a2]; omega
    · rw [a2]; simp only; omega
  · obtain ⟨p, hp, rfl⟩ := mem c hc
    obtain ⟨q, hq, rfl⟩ := mem d hd
    have f1 := facts p hp
    have f2 := facts q hq
    have L := hlm p (List.mem_filter.mp hp).1 q (List.mem_filter.mp hq).1
    unfold lam at L
    rw [cross_eq]
    apply decide_eq_false
    rcases val p hp with ⟨a1, a2⟩ | ⟨a1, a2⟩ <;> rcases val q hq with ⟨b1, b2⟩ | ⟨b1, b2⟩ <;> rw [a2, b2] <;> (try simp only) <;> omega
def absI (c : Int) : Int := if c < 0 then -c else c
theorem absI_nn (c : Int) : 0 ≤ absI c := by unfold absI; split <;> omega
def o__law_bag : CT := fun args Φ Ψ => ∃ ns : List Int, args = [.d (.list (ns.map .int))] ∧ ns.length ≤ 63 ∧ ∀ ds, BagD ds → Φ (.nl ds) args
def o__law_pull : CT := fun args Φ Ψ => ∃ (b : Addr) (many : Int), args = [.bg b, .d (.int many)] ∧ 0 < many ∧ many.natAbs < 2 ^ 8000 ∧ ∀ r : Int, 0 ≤ r → r < many → Φ (.rd (.int r)) args
/-- the plan of the lines within the arc 1 .. n -/
def planOf (n : Int) (l : List (Int × Int)) : List (Int × Int) := sortPP ((l.filter wide).map (nrm n))
theorem pp_unique : ∀ {l m : List (Int × Int)}, l.Perm m → l.Pairwise (fun p q => ltPP p q = true) → m.Pairwise (fun p q => ltPP p q = true) → l = m
  | [], m, h, _, _ => (List.nil_perm.mp h).symm
  | a :: l, [], h, _, _ => absurd h.length_eq (by simp)
  | a :: l, b :: m, h, h1, h2 => by
    have no : ∀ {p q : Int × Int}, ltPP p q = true → ltPP q p = true → False := fun {p q} x y => by
      have x := of_decide_eq_true x
      have y := of_decide_eq_true y
      omega
    have e : a = b := by
      have ha : a ∈ b :: m := h.mem_iff.mp (List.mem_cons_self ..)
      have hb : b ∈ a :: l := h.mem_iff.mpr (List.mem_cons_self ..)
      rcases List.mem_cons.mp ha with e | ha
      · exact e
      · rcases List.mem_cons.mp hb with e | hb
        · exact e.symm
        · exact (no ((List.pairwise_cons.mp h1).1 b hb) ((List.pairwise_cons.mp h2).1 a ha)).elim
    subst e
    rw [pp_unique (List.perm_cons a |>.mp h) (List.pairwise_cons.mp h1).2 (List.pairwise_cons.mp h2).2]
theorem sortPP_eq {l m : List (Int × Int)} (h : l.Perm m) (nd : l.Nodup) : sortPP l = sortPP m :=
  pp_unique ((sortPP_perm l).trans (h.trans (sortPP_perm m).symm)) (sortPP_lt nd) (sortPP_lt (h.nodup_iff.mp nd))
theorem shp_pp (L : List (Int × Int)) : SeqAt.shaped (.list (L.map ppD)) = true := by
  have h1 : ∀ M : List (Int × Int), PyData.canLayAll0 (M.map ppD) = true ∧ PyData.depthAll (M.map ppD) ≤ 1 := fun M => by
    induction M with
    | nil => exact ⟨rfl, Nat.zero_le _⟩
    | cons a M ih =>
      refine ⟨?_, ?_⟩
      · show (PyData.canLay0 (ppD a) && PyData.canLayAll0 (M.map ppD)) = true
        rw [ih.1]; rfl
      · show max (PyData.depth (ppD a)) (PyData.depthAll (M.map ppD)) ≤ 1
        exact Nat.max_le.mpr ⟨Nat.le_of_ble_eq_true rfl, ih.2⟩
  unfold SeqAt.shaped
  have e1 : PyData.canLay0 (.list (L.map ppD)) = true := (h1 L).1
  have e2 : PyData.depth (.list (L.map ppD)) ≤ 64 := by
    show PyData.depthAll (L.map ppD) + 1 ≤ 64
    have := (h1 L).2
    omega
  rw [e1, decide_eq_true e2]
  rfl
theorem any_pp (L : List (Int × Int)) (p : Int × Int) : ((L.map ppD).any fun z => PyData.eqv z (ppD p)) = decide (p ∈ L) := by
  have e : ∀ q : Int × Int, PyData.eqv (ppD q) (ppD p) = decide (q = p) := fun q => by
    have h := eqv_ii q.1 q.2 p.1 p.2
    refine h.trans (decide_eq_decide.mpr ⟨fun z => Prod.ext z.1 z.2, fun z => by subst z; exact ⟨rfl, rfl⟩⟩)
  induction L with
  | nil => rfl
  | cons a L ih =>
    show (PyData.eqv (ppD a) (ppD p) || (L.map ppD).any fun z => PyData.eqv z (ppD p)) = _
    rw [e, ih]
    by_cases h1 : a = p
    · simp [h1]
    · by_cases h2 : p ∈ L
      · simp [h2]
      · have h3 : ¬ p = a := fun z => h1 z.symm
        simp [h1, h2, h3]
def o__law_whole : CT := fun args Φ Ψ => ∃ d, args = [.d d] ∧ Φ (.rd (.bool (isTyB "int" d && !isTyB "bool" d))) args
theorem ti_bool_bool (v : Bool) : isTyB "bool" (.bool v) = true := by show (L2.kitB "bool" "bool").getD false = true; decide +kernel
theorem ti_int_bool (v : Int) : isTyB "bool" (.int v) = false := by show (L2.kitB "int" "bool").getD false = false; decide +kernel
theorem ti_int_int (v : Int) : isTyB "int" (.int v) = true := by show (L2.kitB "int" "int").getD false = true; decide +kernel
theorem ti_str_bool (v : Str) : isTyB "bool" (.str v) = false := by show (L2.kitB "str" "bool").getD false = false; decide +kernel
theorem ti_str_int (v : Str) : isTyB "int" (.str v) = false := by show (L2.kitB "str" "int").getD false = false; decide +kernel
theorem ti_str_str (v : Str) : isTyB "str" (.str v) = true := by show (L2.kitB "str" "str").getD false = true; decide +kernel
theorem ti_list_bool (v : List PyData) : isTyB "bool" (.list v) = false := by show (L2.kitB "list" "bool").getD false = false; decide +kernel
theorem ti_list_int (v : List PyData) : isTyB "int" (.list v) = false := by show (L2.kitB "list" "int").getD false = false; decide +kernel
theorem ti_list_str (v : List PyData) : isTyB "str" (.list v) = false := by show (L2.kitB "list" "str").getD false = false; decide +kernel
theorem ti_list_list (v : List PyData) : isTyB "list" (.list v) = true := by show (L2.kitB "list" "list").getD false = true; decide +kernel
theorem ti_list_tuple (v : List PyData) : isTyB "tuple" (.list v) = false := by show (L2.kitB "list" "tuple").getD false = false; decide +kernel
theorem ti_tuple_bool (v : List PyData) : isTyB "bool" (.tuple v) = false := by show (L2.kitB "tuple" "bool").getD false = false; decide +kernel
theorem ti_tuple_int (v : List PyData) : isTyB "int" (.tuple v) = false := by show (L2.kitB "tuple" "int").getD false = false; decide +kernel
theorem ti_tuple_str (v : List PyData) : isTyB "str" (.tuple v) = false := by show (L2.kitB "tuple" "str").getD false = false; decide +kernel
theorem ti_tuple_list (v : List PyData) : isTyB "list" (.tuple v) = false := by show (L2.kitB "tuple" "list").getD false = false; decide +kernel
theorem ti_tuple_tuple (v : List PyData) : isTyB "tuple" (.tuple v) = true := by show (L2.kitB "tuple" "tuple").getD false = true; decide +kernel
def okD : Nat → PyData → Bool
  | _, .none => true
  | _, .bool _ => true
  | _, .int _ => true
  | _, .str _ => true
  | N + 1, .list xs => decide (xs.length ≤ 10000000) && xs.all (okD N)
  | N + 1, .tuple xs => decide (xs.length ≤ 10000000) && xs.all (okD N)
  | _, _ => false
def o__law_alike (N : Nat) : CT := fun args Φ Ψ => ∃ x, args = [.d x, .d x] ∧ okD N x = true ∧ Φ (.rd (.bool true)) args
end Tx
namespace Tx
open PySem PySem.Spec PyProof.Rows L2 TL
def f__law_pull : PyData → KD → KX → Prop
  | .int m, K, _ => (0 < m ∧ m.natAbs < 2 ^ 8000) ∧ ∀ r : Int, 0 ≤ r → r < m → K (.int r)
  | _, _, _ => False
def c__law_pull : CT := fun args Φ Ψ => ∃ (b : Addr) (m : PyData) (K : KD) (E : KX), args = [.bg b, .d m] ∧ f__law_pull m K E ∧ (∀ r, K r → Φ (.rd r) args) ∧ ∀ c, E c → Ψ c args
def f__law_alike (x y : PyData) (K : KD) (_ : KX) : Prop := x = y ∧ okD 8 x = true ∧ K (.bool true)
def c__law_alike : CT := fun args Φ Ψ => ∃ (x y : PyData) (K : KD) (E : KX), args = [.d x, .d y] ∧ f__law_alike x y K E ∧ (∀ r, K r → Φ (.rd r) args) ∧ ∀ c, E c → Ψ c args
section
variable {n : Int} {cs : List (Int × Int)} {p q : Int × Int} {K : KD} {K2 : PyData → PyData → Prop} {Kb : KB} {m : Int} {E : KX} {x y : PyData}
theorem p_un_pl : un2 (plD n cs) K2 = K2 (.int n) (.tuple (cs.map ppD)) := rfl
theorem p_ix_pl0 : ixM (plD n cs) (.int 0) K = K (.int n) := rfl
theorem p_ix_pl1 : ixM (plD n cs) (.int 1) K = K (.tuple (cs.map ppD)) := rfl
theorem p_un_pp : un2 (ppD p) K2 = K2 (.int p.1) (.int p.2) := rfl
theorem p_ix_pp0 : ixM (ppD p) (.int 0) K = K (.int p.1) := rfl
theorem p_ix_pp1 : ixM (ppD p) (.int 1) K = K (.int p.2) := rfl
theorem p_mk {i j : Int} : PyData.tuple [.int i, .int j] = ppD (i, j) := rfl
theorem shp_p (p : Int × Int) : SeqAt.shaped (ppD p) = true := rfl
theorem p_eq : eqM (ppD p) (ppD q) Kb = Kb (decide (p = q)) := by
  show (SeqAt.shaped (ppD p) = true ∧ SeqAt.shaped (ppD q) = true ∧ Kb (PyData.eqv (ppD p) (ppD q))) = _
  rw [show PyData.eqv (ppD p) (ppD q) = decide (p = q) by unfold ppD; rw [eqv_ii]; congr 1; exact propext ⟨fun h => Prod.ext h.1 h.2, fun h => by rw [h]; exact ⟨rfl, rfl⟩⟩]
  simp [shp_p]
theorem p_ne : neM (ppD p) (ppD q) Kb = Kb (!decide (p = q)) := by
  show (SeqAt.shaped (ppD p) = true ∧ SeqAt.shaped (ppD q) = true ∧ Kb (!PyData.eqv (ppD p) (ppD q))) = _
  rw [show PyData.eqv (ppD p) (ppD q) = decide (p = q) by unfold ppD; rw [eqv_ii]; congr 1; exact propext ⟨fun h => Prod.ext h.1 h.2, fun h => by rw [h]; exact ⟨rfl, rfl⟩⟩]
  simp [shp_p]
theorem p_in {L : List (Int × Int)} : inM (ppD p) (.list (L.map ppD)) Kb = Kb (decide (p ∈ L)) := by
  show inLstM (ppD p) (L.map ppD) Kb = _
  unfold inLstM
  rw [show fl (ppD p) = none from rfl]
  rw [any_pp]
  simp [shp_p, shp_pp]
theorem p_notIn {L : List (Int × Int)} : notInM (ppD p) (.list (L.map ppD)) Kb = Kb (!decide (p ∈ L)) := by unfold notInM; rw [p_in]
theorem p_lt : ltM (ppD p) (ppD q) Kb = Kb (ltPP p q) := by
  show Kb (HT.lexLt [p.1, p.2] [q.1, q.2]) = _
  rw [ltPP_lex]
theorem e__law_pull (h : 0 < m) (h2 : m < 1000000) : f__law_pull (.int m) K E = ∀ r : Int, 0 ≤ r → r < m → K (.int r) := by
  show ((0 < m ∧ m.natAbs < 2 ^ 8000) ∧ _) = _
  have e : m.natAbs < 2 ^ 8000 := nb (Nat.lt_of_lt_of_le (show m.natAbs < 2 ^ 20 by omega) (Nat.pow_le_pow_right (by decide) (by decide)))
  simp [h, e]
theorem e__law_alike (h : okD 8 x = true) : f__law_alike x x K E = K (.bool true) := by unfold f__law_alike; simp [h]
end
end Tx
namespace Tx
open PySem PySem.Spec PyProof.Rows L2 TL
@[irreducible] def f__law_pair (l_one : PyData) (l_other : PyData) (K : KD) (E : KX) : Prop :=
  min2M l_one l_other fun r1 =>
  max2M l_one l_other fun r2 =>
  K (.tuple [r1, r2])
def c__law_pair : CT := fun args Φ Ψ => ∃ (l_one : PyData) (l_other : PyData) (K : KD) (E : KX), args = [.d l_one, .d l_other] ∧ f__law_pair l_one l_other K E ∧ (∀ r, K r → Φ (.rd r) args) ∧ ∀ c, E c → Ψ c args
@[irreducible] def f__law_whole (l_found : PyData) (K : KD) (E : KX) : Prop :=
  andM (fun Q => Q (isTyB "int" l_found)) (fun Q => Q (!(isTyB "bool" l_found))) fun b1 =>
  K (.bool b1)
def c__law_whole : CT := fun args Φ Ψ => ∃ (l_found : PyData) (K : KD) (E : KX), args = [.d l_found] ∧ f__law_whole l_found K E ∧ (∀ r, K r → Φ (.rd r) args) ∧ ∀ c, E c → Ψ c args
section
variable {K : KD} {Kl : KL} {E : KX} {n i j : Int} {cs : List (Int × Int)} {p q : Int × Int}
def nrmP (i j : Int) : Int × Int := (if j < i then j else i, if j > i then j else i)
theorem e__law_pair : f__law_pair (.int i) (.int j) K E = K (ppD (nrmP i j)) := by
  unfold f__law_pair; simp only [q_add_ii, q_add_ss, q_add_ll, q_add_tt, q_addL, q_sub, q_mul, q_div, q_mod, q_neg, q_bool, q_eq_ii, q_eq_ss, q_eq_bb, q_ne_ii, q_ne_ss, q_ne_bb, q_lt, q_le, q_gt, q_ge, q_un2, q_un3, q_un4, q_intO, q_len_l, q_len_t, q_len_s, q_abs, q_int_i, q_int_b, q_tup_l, q_tup_t, q_list_l, q_list_t, q_min, q_max, q_it_l, q_it_t, q_rng, q_enu_l, q_enu_t, q_rev, q_sl_l, q_sl_t, q_sl_s, q_slL, q_all, q_any, q_sum, q_sort_pp, q_and, q_or, q_ite, q_join, cond_true, cond_false, true_and, and_true, decide_eq_true_eq, decide_true, decide_false, p_un_pl, p_ix_pl0, p_ix_pl1, p_un_pp, p_ix_pp0, p_ix_pp1, p_mk, p_eq, p_ne, p_in, p_notIn, p_lt]; rfl
end
end Tx
namespace Tx
open PySem PySem.Spec PyProof.Rows L2 TL
@[irreducible] def f_need_faces (faces : PyData) (K : KD) (E : KX) : Prop :=
  andM (fun Q => leM (.int 3) faces Q) (fun Q => leM faces (.int 40) Q) fun b1 =>
  ((!b1) = true → (E (.own "BadFaces"))) ∧ ((!b1) = false → (K .none))
def c_need_faces : CT := fun args Φ Ψ => ∃ (faces : PyData) (K : KD) (E : KX), args = [.d faces] ∧ f_need_faces faces K E ∧ (∀ r, K r → Φ (.rd r) args) ∧ ∀ c, E c → Ψ c args
@[irreducible] def f_ways_row (most : PyData) (K : KL) (E : KX) : Prop :=
  ∃ n : Nat, whileM (fun row7 N5 B6 => lenM (.list row7) fun r10 =>
  leM r10 most fun b11 =>
  (b11 = true → (lenM (.list row7) fun r13 =>
  rngM (.int 1) r13 fun xs14 =>
  lcM (fun first_15 kp sk => ixM (.list row7) first_15 fun r17 =>
  subM r13 first_15 fun r18 =>
  ixM (.list row7) r18 fun r19 =>
  mulM r17 r19 fun r20 =>
  kp r20) (fun l16 =>
  sumM (.list l16) fun r21 =>
  row7.length < sizeLine ∧ (N5 (row7 ++ ([r21] : List PyData)))) xs14 [])) ∧ (b11 = false → B6 row7)) (fun row2 =>
  K row2) n [(.int 0), (.int 1)]
def c_ways_row : CT := fun args Φ Ψ => ∃ (most : PyData) (K : KL) (E : KX), args = [.d most] ∧ f_ways_row most K E ∧ (∀ r, K r → Φ (.nl r) args) ∧ ∀ c, E c → Ψ c args
@[irreducible] def f__law_ways (l_most : PyData) (K : KL) (E : KX) : Prop :=
  addM l_most (.int 1) fun r3 =>
  rngM (.int 1) r3 fun xs2 =>
  forM (fun l_many7 l_row10 N8 B9 => ixM (.list l_row10) (.int (-1)) fun r13 =>
  mulM r13 (.int 2) fun r14 =>
  mulM (.int 2) l_many7 fun r15 =>
  subM r15 (.int 1) fun r16 =>
  mulM r14 r16 fun r17 =>
  addM l_many7 (.int 1) fun r18 =>
  divM r17 r18 fun r19 =>
  l_row10.length < sizeLine ∧ (N8 (l_row10 ++ ([r19] : List PyData)))) (fun l_row4 =>
  K l_row4) xs2 [(.int 1)]
def c__law_ways : CT := fun args Φ Ψ => ∃ (l_most : PyData) (K : KL) (E : KX), args = [.d l_most] ∧ f__law_ways l_most K E ∧ (∀ r, K r → Φ (.nl r) args) ∧ ∀ c, E c → Ψ c args
@[irreducible] def f__law_every_plan (l_faces : PyData) (K : KL) (E : KX) : Prop :=
  rngM (.int 1) l_faces fun xs2 =>
  forM (fun l_wide38 l_arcs41 N39 B40 => addM l_faces (.int 1) fun r50 =>
  subM r50 l_wide38 fun r51 =>
  rngM (.int 1) r51 fun xs49 =>
  forM (fun l_start59 l_arcs62 N60 B61 => joinM (fun (Q : (List (List Key × PyData)) → Prop) => eqM l_wide38 (.int 1) fun b69 =>
  (b69 = true → (addM l_start59 (.int 1) fun r73 =>
  putTM l_arcs62 (.tuple [l_start59, r73]) (.list [(.list [])]) fun kv74 =>
  Q kv74)) ∧ (b69 = false → (addM l_start59 (.int 1) fun r77 =>
  addM l_start59 l_wide38 fun r78 =>
  rngM r77 r78 fun xs76 =>
  forM (fun l_middle86 l_rows89 N87 B88 => getTM l_arcs62 (.tuple [l_start59, l_middle86]) fun r95 =>
  itM r95 fun xs94 =>
  forM (fun l_first100 l_rows103 N101 B102 => addM l_start59 l_wide38 fun r108 =>
  getTM l_arcs62 (.tuple [l_middle86, r108]) fun r109 =>
  itM r109 fun xs107 =>
  forM (fun l_second113 l_rows116 N114 B115 => addM l_first100 l_second113 fun r119 =>
  addM l_start59 l_wide38 fun r120 =>
  addM r119 (.list [(.tuple [l_start59, l_middle86]), (.tuple [l_middle86, r120])]) fun r121 =>
  l_rows116.length < sizeLine ∧ (N114 (l_rows116 ++ ([r121] : List PyData)))) (fun l_rows110 =>
  N101 l_rows110) xs107 l_rows103) (fun l_rows96 =>
  N87 l_rows96) xs94 l_rows89) (fun l_rows79 =>
  addM l_start59 l_wide38 fun r84 =>
  putTM l_arcs62 (.tuple [l_start59, r84]) (.list l_rows79) fun kv85 =>
  Q kv85) xs76 []))) (fun l_arcs123 =>
  N60 l_arcs123)) (fun l_arcs52 =>
  N39 l_arcs52) xs49 l_arcs41) (fun l_arcs3 =>
  getTM l_arcs3 (.tuple [(.int 1), l_faces]) fun r13 =>
  itM r13 fun xs12 =>
  forM (fun l_row18 l_found21 N19 B20 => itM l_row18 fun xs25 =>
  lcM (fun p26 kp sk => un2 p26 fun l_low28 l_high29 =>
  subM l_high29 l_low28 fun r31 =>
  gtM r31 (.int 1) fun b32 =>
  (b32 = true → (modM l_high29 l_faces fun r33 =>
  f__law_pair l_low28 r33 (fun r34 =>
  kp r34) (fun _ => False))) ∧ (b32 = false → sk)) (fun l27 =>
  sortM (.list l27) fun l35 =>
  tupM (.list l35) fun r36 =>
  l_found21.length < sizeLine ∧ (N19 (l_found21 ++ ([(.tuple [l_faces, r36])] : List PyData)))) xs25 []) (fun l_found14 =>
  K l_found14) xs12 []) xs2 []
def c__law_every_plan : CT := fun args Φ Ψ => ∃ (l_faces : PyData) (K : KL) (E : KX), args = [.d l_faces] ∧ f__law_every_plan l_faces K E ∧ (∀ r, K r → Φ (.nl r) args) ∧ ∀ c, E c → Ψ c args
section
variable {K : KD} {Kl : KL} {E : KX} {n i j : Int} {cs : List (Int × Int)} {p q : Int × Int}
theorem q_ix_rg {m : Nat} {f : Nat → PyData} {a : Int} (h0 : 0 ≤ a) (h : a < m) : ixM (.list (rg m f)) (.int a) K = K (f a.toNat) := by
  show (match atI (rg m f) a with | some y => K y | none => False) = _
  rw [at_rg h0 h]
theorem e_need_faces : f_need_faces (.int n) K E = cond (decide (3 ≤ n) && decide (n ≤ 40)) (K .none) (E (.own "BadFaces")) := by
  unfold f_need_faces
  simp only [q_add_ii, q_add_ss, q_add_ll, q_add_tt, q_addL, q_sub, q_mul, q_div, q_mod, q_neg, q_bool, q_eq_ii, q_eq_ss, q_eq_bb, q_ne_ii, q_ne_ss, q_ne_bb, q_lt, q_le, q_gt, q_ge, q_un2, q_un3, q_un4, q_intO, q_len_l, q_len_t, q_len_s, q_abs, q_int_i, q_int_b, q_tup_l, q_tup_t, q_list_l, q_list_t, q_min, q_max, q_it_l, q_it_t, q_rng, q_enu_l, q_enu_t, q_rev, q_sl_l, q_sl_t, q_sl_s, q_slL, q_all, q_any, q_sum, q_sort_pp, q_and, q_or, q_ite, q_join, cond_true, cond_false, true_and, and_true, decide_eq_true_eq, decide_true, decide_false, p_un_pl, p_ix_pl0, p_ix_pl1, p_un_pp, p_ix_pp0, p_ix_pp1, p_mk, p_eq, p_ne, p_in, p_notIn, p_lt]
  cases (decide (3 ≤ n) && decide (n ≤ 40)) <;> rfl
theorem while_seq {τ : Type} {st : τ → (τ → Prop) → (τ → Prop) → Prop} {K : τ → Prop} (k : Nat) (S : Nat → τ) (h : ∀ i < k, ∀ N : τ → Prop, N (S (i + 1)) → st (S i) N K) (hend : ∀ N : τ → Prop, st (S k) N K) : ∃ n, whileM st K n (S 0) := by
  refine ⟨k + 1, ?_⟩
  have go : ∀ d i, i + d = k → whileM st K (d + 1) (S i) := by
    intro d
    induction d with
    | zero => intro i e; rw [show i = k by omega]; exact hend _
    | succ d ih => intro i e; exact h i (by omega) _ (ih (i + 1) (by omega))
  exact go k 0 (by omega)
theorem for_app {α : Type} {bd : PyData → List PyData → (List PyData → Prop) → (List PyData → Prop) → Prop} {K : List PyData → Prop} (B : Nat) (L : List α) (d : α → PyData) (G : α → List PyData) (h : ∀ a ∈ L, ∀ s, s.length + (G a).length ≤ B → ∀ N : List PyData → Prop, N (s ++ G a) → bd (d a) s N K) (s0 : List PyData) (hB : s0.length + (L.flatMap G).length ≤ B) (hK : K (s0 ++ L.flatMap G)) : forM bd K (L.map d) s0 := by
  induction L generalizing s0 with
  | nil => rw [List.flatMap_nil, List.append_nil] at hK; exact hK
  | cons a L ih =>
    rw [List.flatMap_cons, List.length_append] at hB
    rw [List.flatMap_cons, ← List.append_assoc] at hK
    show bd (d a) s0 _ _
    refine h a (List.mem_cons_self ..) s0 (by omega) _ ?_
    exact ih (fun b hb => h b (List.mem_cons_of_mem _ hb)) _ (by rw [List.length_append]; omega) hK
theorem for_app1 {α : Type} {bd : PyData → List PyData → (List PyData → Prop) → (List PyData → Prop) → Prop} {K : List PyData → Prop} (B : Nat) (L : List α) (d : α → PyData) (f : α → PyData) (h : ∀ a ∈ L, ∀ s, s.length + 1 ≤ B → ∀ N : List PyData → Prop, N (s ++ [f a]) → bd (d a) s N K) (s0 : List PyData) (hB : s0.length + L.length ≤ B) (hK : K (s0 ++ L.map f)) : forM bd K (L.map d) s0 := by
  have e : L.flatMap (fun a => [f a]) = L.map f := by
    clear h hB hK
    induction L with
    | nil => rfl
    | cons a L ih => rw [List.flatMap_cons, List.map_cons, ih]; rfl
  exact for_app B L d (fun a => [f a]) h s0 (by rw [e, List.length_map]; exact hB) (by rw [e]; exact hK)
theorem i_ways_row {n : Nat} (h1 : 1 ≤ n) (h2 : n ≤ 39) (hK : Kl (rg (n + 1) ccD)) : f_ways_row (.int n) Kl E := by
  have hsl := sizeLine_eq
  unfold f_ways_row
  refine while_seq (n - 1) (fun i => rg (2 + i) ccD) (fun i hi N hN => ?_) (fun N => ?_)
  · obtain ⟨q, rfl⟩ : ∃ q, i + 2 = q := ⟨_, rfl⟩
    rw [show 2 + (i + 1) = 2 + i + 1 by omega] at hN
    simp only [q_add_ii, q_add_ss, q_add_ll, q_add_tt, q_addL, q_sub, q_mul, q_div, q_mod, q_neg, q_bool, q_eq_ii, q_eq_ss, q_eq_bb, q_ne_ii, q_ne_ss, q_ne_bb, q_lt, q_le, q_gt, q_ge, q_un2, q_un3, q_un4, q_intO, q_len_l, q_len_t, q_len_s, q_abs, q_int_i, q_int_b, q_tup_l, q_tup_t, q_list_l, q_list_t, q_min, q_max, q_it_l, q_it_t, q_rng, q_enu_l, q_enu_t, q_rev, q_sl_l, q_sl_t, q_sl_s, q_slL, q_all, q_any, q_sum, q_sort_pp, q_and, q_or, q_ite, q_join, cond_true, cond_false, true_and, and_true, decide_eq_true_eq, decide_true, decide_false, p_un_pl, p_ix_pl0, p_ix_pl1, p_un_pp, p_ix_pp0, p_ix_pp1, p_mk, p_eq, p_ne, p_in, p_notIn, p_lt, rg_len]
    rw [decide_eq_true (by omega : ((2 + i : Nat) : Int) ≤ n), cond_true]
    refine ⟨by omega, ?_⟩
    obtain ⟨q, e⟩ : ∃ q, q = 2 + i := ⟨_, rfl⟩
    rw [← e] at hN ⊢
    rw [rng_map, show ((q : Int) - 1).toNat = q - 1 by omega]
    rw [q_lc_map _ _ (fun (j : Nat) => PyData.int (cc (1 + (j : Int)).toNat * cc ((q : Int) - (1 + (j : Int))).toNat)) fun j hj k s => by
      have hj := List.mem_range.mp hj
      rw [q_ix_rg (by omega) (by omega)]
      simp only [q_add_ii, q_add_ss, q_add_ll, q_add_tt, q_addL, q_sub, q_mul, q_div, q_mod, q_neg, q_bool, q_eq_ii, q_eq_ss, q_eq_bb, q_ne_ii, q_ne_ss, q_ne_bb, q_lt, q_le, q_gt, q_ge, q_un2, q_un3, q_un4, q_intO, q_len_l, q_len_t, q_len_s, q_abs, q_int_i, q_int_b, q_tup_l, q_tup_t, q_list_l, q_list_t, q_min, q_max, q_it_l, q_it_t, q_rng, q_enu_l, q_enu_t, q_rev, q_sl_l, q_sl_t, q_sl_s, q_slL, q_all, q_any, q_sum, q_sort_pp, q_and, q_or, q_ite, q_join, cond_true, cond_false, true_and, and_true, decide_eq_true_eq, decide_true, decide_false, p_un_pl, p_ix_pl0, p_ix_pl1, p_un_pp, p_ix_pp0, p_ix_pp1, p_mk, p_eq, p_ne, p_in, p_notIn, p_lt]
      rw [q_ix_rg (by omega) (by omega)]
      simp only [q_add_ii, q_add_ss, q_add_ll, q_add_tt, q_addL, q_sub, q_mul, q_div, q_mod, q_neg, q_bool, q_eq_ii, q_eq_ss, q_eq_bb, q_ne_ii, q_ne_ss, q_ne_bb, q_lt, q_le, q_gt, q_ge, q_un2, q_un3, q_un4, q_intO, q_len_l, q_len_t, q_len_s, q_abs, q_int_i, q_int_b, q_tup_l, q_tup_t, q_list_l, q_list_t, q_min, q_max, q_it_l, q_it_t, q_rng, q_enu_l, q_enu_t, q_rev, q_sl_l, q_sl_t, q_sl_s, q_slL, q_all, q_any, q_sum, q_sort_pp, q_and, q_or, q_ite, q_join, cond_true, cond_false, true_and, and_true, decide_eq_true_eq, decide_true, decide_false, p_un_pl, p_ix_pl0, p_ix_pl1, p_un_pp, p_ix_pp0, p_ix_pp1, p_mk, p_eq, p_ne, p_in, p_notIn, p_lt]
      exact propext (and_iff_right (.inr (cc_wide _ _ (by omega) (by omega))))]
    rw [List.nil_append]
    have e : ((List.range (q - 1)).map fun (j : Nat) => PyData.int (cc (1 + (j : Int)).toNat * cc ((q : Int) - (1 + (j : Int))).toNat)) = ((List.range (q - 1)).map fun (j : Nat) => cc (1 + (j : Int)).toNat * cc ((q : Int) - (1 + (j : Int))).toNat).map .int := by rw [List.map_map]; rfl
    rw [e, q_sum, cc_rec q (by omega) (by omega)]
    refine ⟨by omega, ?_⟩
    rw [show rg q ccD ++ [PyData.int (cc q)] = rg (q + 1) ccD from rg_succ q ccD]
    exact hN
  · simp only [q_add_ii, q_add_ss, q_add_ll, q_add_tt, q_addL, q_sub, q_mul, q_div, q_mod, q_neg, q_bool, q_eq_ii, q_eq_ss, q_eq_bb, q_ne_ii, q_ne_ss, q_ne_bb, q_lt, q_le, q_gt, q_ge, q_un2, q_un3, q_un4, q_intO, q_len_l, q_len_t, q_len_s, q_abs, q_int_i, q_int_b, q_tup_l, q_tup_t, q_list_l, q_list_t, q_min, q_max, q_it_l, q_it_t, q_rng, q_enu_l, q_enu_t, q_rev, q_sl_l, q_sl_t, q_sl_s, q_slL, q_all, q_any, q_sum, q_sort_pp, q_and, q_or, q_ite, q_join, cond_true, cond_false, true_and, and_true, decide_eq_true_eq, decide_true, decide_false, p_un_pl, p_ix_pl0, p_ix_pl1, p_un_pp, p_ix_pp0, p_ix_pp1, p_mk, p_eq, p_ne, p_in, p_notIn, p_lt, rg_len]
    rw [decide_eq_false (by omega : ¬ ((2 + (n - 1) : Nat) : Int) ≤ n), cond_false, show 2 + (n - 1) = n + 1 by omega]
    exact hK
theorem at_last {m : Nat} {f : Nat → PyData} : atI (rg (m + 1) f) (-1) = some (f m) := by
  have e : (rg (m + 1) f)[m]? = some (f m) := by simp
  unfold atI ixN
  rw [rg_len, if_neg (by decide), if_pos (by omega), Option.bind_some, show (-1 + ((m + 1 : Nat) : Int)).toNat = m by omega]
  exact e
theorem e__law_ways {m : Nat} (h2 : m ≤ 39) : f__law_ways (.int m) Kl E = Kl (rg (m + 1) fun i => ccD (i + 1)) := by
  have hsl := sizeLine_eq
  unfold f__law_ways
  simp only [q_add_ii, q_add_ss, q_add_ll, q_add_tt, q_addL, q_sub, q_mul, q_div, q_mod, q_neg, q_bool, q_eq_ii, q_eq_ss, q_eq_bb, q_ne_ii, q_ne_ss, q_ne_bb, q_lt, q_le, q_gt, q_ge, q_un2, q_un3, q_un4, q_intO, q_len_l, q_len_t, q_len_s, q_abs, q_int_i, q_int_b, q_tup_l, q_tup_t, q_list_l, q_list_t, q_min, q_max, q_it_l, q_it_t, q_rng, q_enu_l, q_enu_t, q_rev, q_sl_l, q_sl_t, q_sl_s, q_slL, q_all, q_any, q_sum, q_sort_pp, q_and, q_or, q_ite, q_join, cond_true, cond_false, true_and, and_true, decide_eq_true_eq, decide_true, decide_false, p_un_pl, p_ix_pl0, p_ix_pl1, p_un_pp, p_ix_pp0, p_ix_pp1, p_mk, p_eq, p_ne, p_in, p_notIn, p_lt]
  refine Eq.trans (propext (and_iff_right (by omega))) ?_
  rw [rng_map, show ((m : Int) + 1 - 1).toNat = m by omega]
  rw [show [PyData.int 1] = rg (0 + 1) (fun i => ccD (i + 1)) from rfl]
  rw [q_for_seq (List.range m) (fun (i : Nat) => PyData.int (1 + (i : Nat))) (fun i => rg (i + 1) fun i => ccD (i + 1)) fun i a ha N => ?_]
  · rw [List.length_range]
  · have hi := (List.getElem?_eq_some_iff.mp ha).1
    rw [List.length_range] at hi
    rw [List.getElem?_range hi] at ha
    cases ha
    show (match atI (rg (i + 1) fun i => ccD (i + 1)) (-1) with | some y => _ | none => False) = _
    rw [at_last]
    simp only [q_add_ii, q_add_ss, q_add_ll, q_add_tt, q_addL, q_sub, q_mul, q_div, q_mod, q_neg, q_bool, q_eq_ii, q_eq_ss, q_eq_bb, q_ne_ii, q_ne_ss, q_ne_bb, q_lt, q_le, q_gt, q_ge, q_un2, q_un3, q_un4, q_intO, q_len_l, q_len_t, q_len_s, q_abs, q_int_i, q_int_b, q_tup_l, q_tup_t, q_list_l, q_list_t, q_min, q_max, q_it_l, q_it_t, q_rng, q_enu_l, q_enu_t, q_rev, q_sl_l, q_sl_t, q_sl_s, q_slL, q_all, q_any, q_sum, q_sort_pp, q_and, q_or, q_ite, q_join, cond_true, cond_false, true_and, and_true, decide_eq_true_eq, decide_true, decide_false, p_un_pl, p_ix_pl0, p_ix_pl1, p_un_pp, p_ix_pp0, p_ix_pp1, p_mk, p_eq, p_ne, p_in, p_notIn, p_lt, rg_len]
    have c1 := cc_lt (i + 1) (by omega)
    have c2 : (cc (i + 1) * 2).natAbs < 2 ^ 81 := by
      rw [Int.natAbs_mul, show (2 : Int).natAbs = 2 from rfl, show (2 : Nat) ^ 81 = 2 ^ 80 * 2 by decide]
      omega
    have e1 : cc (i + 1) * 2 * (2 * (1 + (i : Int)) - 1) / (1 + (i : Int) + 1) = cc (i + 1 + 1) := by
      rw [← cc_cat (i + 1) (by omega) (by omega)]
      rw [show (1 + (i : Int)) = ((i + 1 : Nat) : Int) by omega]
    rw [e1, show (rg (i + 1) fun i => ccD (i + 1)) ++ [PyData.int (cc (i + 1 + 1))] = rg (i + 1 + 1) fun i => ccD (i + 1) from rg_succ (i + 1) fun i => ccD (i + 1)]
    refine propext ⟨fun h => h.2.2.2.2.2, fun h => ⟨.inr (wide_mul c1 (by decide : (2 : Int).natAbs < 2 ^ 2) (by decide) (by decide) (by decide)), .inr (wide_mul (by decide : (2 : Int).natAbs < 2 ^ 2) (by omega : (1 + (i : Int)).natAbs < 2 ^ 20) (by decide) (by decide) (by decide)), .inr (wide_mul c2 (by omega : (2 * (1 + (i : Int)) - 1).natAbs < 2 ^ 20) (by decide) (by decide) (by decide)), wide_div (by omega) (by omega : (1 + (i : Int) + 1).natAbs < 2 ^ 20) (by decide) (by decide), by omega, h⟩⟩
def wrF : Nat → Nat → Int → List (List (Int × Int))
  | 0, _, _ => [[]]
  | f + 1, w, s => if w ≤ 1 then [[]] else (List.range (w - 1)).flatMap fun j => (wrF f (1 + j) s).flatMap fun a => (wrF f (w - 1 - j) (s + 1 + (j : Int))).map fun b => a ++ b ++ [(s, s + 1 + (j : Int)), (s + 1 + (j : Int), s + (w : Int))]
theorem wrF_eq : ∀ f g w s, w ≤ f → w ≤ g → wrF f w s = wrF g w s := by
  intro f
  induction f with
  | zero =>
    intro g w s h1 h2
    cases g with
    | zero => rfl
    | succ g => unfold wrF; rw [if_pos (by omega)]
  | succ f ih =>
    intro g w s h1 h2
    cases g with
    | zero => unfold wrF; rw [if_pos (by omega)]
    | succ g =>
      unfold wrF
      by_cases h : w ≤ 1
      · rw [if_pos h, if_pos h]
      · rw [if_neg h, if_neg h]
        refine congrArg List.flatten (List.map_congr_left fun j hj => ?_)
        have hj := List.mem_range.mp hj
        rw [ih g (1 + j) s (by omega) (by omega), ih g (w - 1 - j) _ (by omega) (by omega)]
def wr (w : Nat) (s : Int) : List (List (Int × Int)) := wrF w w s
theorem wr_step {w : Nat} (h : 2 ≤ w) (s : Int) : wr w s = (List.range (w - 1)).flatMap fun j => (wr (1 + j) s).flatMap fun a => (wr (w - 1 - j) (s + 1 + (j : Int))).map fun b => a ++ b ++ [(s, s + 1 + (j : Int)), (s + 1 + (j : Int), s + (w : Int))] := by
  unfold wr
  obtain ⟨f, rfl⟩ : ∃ f, w = f + 1 := ⟨w - 1, by omega⟩
  conv => lhs; unfold wrF
  rw [if_neg (by omega)]
  refine congrArg List.flatten (List.map_congr_left fun j hj => ?_)
  have hj := List.mem_range.mp hj
  rw [wrF_eq f (1 + j) (1 + j) s (by omega) (by omega), wrF_eq f (f + 1 - 1 - j) (f + 1 - 1 - j) _ (by omega) (by omega)]
theorem sum_cast {α : Type} (L : List α) (f : α → Nat) : ((L.map f).sum : Int) = (L.map fun a => (f a : Int)).sum := by
  induction L with
  | nil => rfl
  | cons a L ih => simp [ih]
theorem wr_len : ∀ (w : Nat), 1 ≤ w → w < 41 → ∀ s, ((wr w s).length : Int) = cc w := by
  intro w
  induction w using Nat.strongRecOn with
  | _ w ih =>
    intro h1 h2 s
    by_cases h : w = 1
    · subst h; rfl
    · rw [wr_step (by omega), List.length_flatMap, sum_cast, ← cc_rec w h2 (by omega)]
      refine congrArg List.sum (List.map_congr_left fun j hj => ?_)
      have hj := List.mem_range.mp hj
      rw [List.length_flatMap]
      have e : ∀ (A : List (List (Int × Int))) (c : Nat), ((A.map fun _ => c).sum : Nat) = A.length * c := fun A c => by
        induction A with
        | nil => simp
        | cons a A ih => simp [ih, Nat.add_mul, Nat.add_comm]
      simp only [List.length_map]
      rw [e, Int.natCast_mul, ih (1 + j) (by omega) (by omega) (by omega), ih (w - 1 - j) (by omega) (by omega) (by omega)]
      rw [show (1 + (j : Int)).toNat = 1 + j by omega, show ((w : Int) - (1 + (j : Int))).toNat = w - 1 - j by omega]
theorem wr_row : ∀ (w : Nat) (s : Int), ∀ r ∈ wr w s, r.length ≤ 2 * (w - 1) := by
  intro w
  induction w using Nat.strongRecOn with
  | _ w ih =>
    intro s r hr
    by_cases h : w ≤ 1
    · have : wr w s = [[]] := by
        obtain rfl | rfl : w = 0 ∨ w = 1 := by omega
        all_goals rfl
      rw [this] at hr
      rw [List.mem_singleton.mp hr]; simp
    · rw [wr_step (by omega)] at hr
      obtain ⟨j, hj, hr⟩ := List.mem_flatMap.mp hr
      obtain ⟨a, ha, hr⟩ := List.mem_flatMap.mp hr
      obtain ⟨b, hb, rfl⟩ := List.mem_map.mp hr
      have hj := List.mem_range.mp hj
      have q1 := ih _ (by omega) _ a ha
      have q2 := ih _ (by omega) _ b hb
      simp only [List.length_append, List.length_cons, List.length_nil]
      omega
theorem valP_put {κ : Type} [DecidableEq κ] {kvs : List (κ × PyData)} {k k' : κ} {d : PyData} : valP (putP kvs k d) k' = if k' = k then some d else valP kvs k' := by
  unfold putP valP
  by_cases h : (kvs.any fun kv => decide (kv.1 = k)) = true
  · rw [if_pos h]
    induction kvs with
    | nil => simp at h
    | cons kv r ih =>
      rw [List.map_cons]
      by_cases e : kv.1 = k
      · rw [if_pos e]
        by_cases e2 : k' = k
        · subst e2; simp [List.find?_cons, e]
        · rw [if_neg e2]
          have ne : ¬ kv.1 = k' := fun z => e2 (z ▸ e)
          simp only [List.find?_cons, ne, decide_false]
          clear ih h
          induction r with
          | nil => rfl
          | cons kv2 r ih2 =>
            rw [List.map_cons]
            by_cases e3 : kv2.1 = k
            · rw [if_pos e3]
              have ne : ¬ kv2.1 = k' := fun z => e2 (z ▸ e3)
              simp only [List.find?_cons, ne, decide_false]
              exact ih2
            · rw [if_neg e3]
              by_cases e4 : kv2.1 = k'
              · simp [List.find?_cons, e4]
              · simp only [List.find?_cons, e4, decide_false]
                exact ih2
      · rw [if_neg e]
        have h' : (r.any fun kv => decide (kv.1 = k)) = true := by simpa [e] using h
        by_cases e4 : kv.1 = k'
        · have : ¬ k' = k := fun z => e (e4.trans z)
          simp [List.find?_cons, e4, this]
        · simp only [List.find?_cons, e4, decide_false]
          exact ih h'
  · rw [if_neg h, List.find?_append]
    by_cases e2 : k' = k
    · subst e2
      have : (kvs.find? fun kv => decide (kv.1 = k')) = none := List.find?_eq_none.mpr fun x hx z => h (List.any_eq_true.mpr ⟨x, hx, z⟩)
      rw [this]; simp
    · have : ¬ k = k' := fun z => e2 z.symm
      rw [if_neg e2]
      cases kvs.find? fun kv => decide (kv.1 = k') <;> simp [this]
theorem putP_len {κ : Type} [DecidableEq κ] {kvs : List (κ × PyData)} {k : κ} {d : PyData} : (putP kvs k d).length ≤ kvs.length + 1 := by
  unfold putP
  split <;> simp
abbrev AT := List (List Key × PyData)
abbrev rowD (l : List (Int × Int)) : PyData := .list (l.map ppD)
abbrev kT (i j : Int) : List Key := [.inl i, .inl j]
theorem q_getT {kvs : AT} : getTM kvs (ppD p) K = (match valP kvs (kT p.1 p.2) with | some d => K d | none => False) := rfl
theorem q_putT {kvs : AT} {v : PyData} {Q : AT → Prop} : putTM kvs (ppD p) v Q = (kvs.length < sizeLine ∧ Q (putP kvs (kT p.1 p.2) v)) := rfl
/-- widths below w are told, and the first t starts of width w -/
structure Told (n : Int) (w t : Nat) (A : AT) : Prop where
  len : A.length ≤ 100 * w + t
  low : ∀ v : Nat, 1 ≤ v → v < w → ∀ s : Int, 1 ≤ s → s + v ≤ n → valP A (kT s (s + v)) = some (.list ((wr v s).map rowD))
  cur : ∀ s : Int, 1 ≤ s → s ≤ t → s + w ≤ n → valP A (kT s (s + w)) = some (.list ((wr w s).map rowD))
theorem Told.put {w t : Nat} {A : AT} (h : Told n w t A) {v : PyData} (hv : v = .list ((wr w (1 + (t : Int))).map rowD)) : Told n w (t + 1) (putP A (kT (1 + (t : Int)) (1 + (t : Int) + w)) v) := by
  refine ⟨?_, fun v' v1 v2 s s1 s2 => ?_, fun s s1 s2 s3 => ?_⟩
  · have := putP_len (kvs := A) (k := kT (1 + (t : Int)) (1 + (t : Int) + w)) (d := v)
    have := h.len
    omega
  · rw [valP_put, if_neg (fun e => by injection e with e1 e2; injection e1 with e1; injection e2 with e2; injection e2 with e2; omega)]
    exact h.low v' v1 v2 s s1 s2
  · rw [valP_put]
    by_cases e : s = 1 + (t : Int)
    · subst e
      rw [if_pos rfl, hv]
    · rw [if_neg (fun z => by injection z with e1 e2; injection e1 with e1; exact e e1)]
      exact h.cur s s1 (by omega) s3
theorem cc_small : ∀ w < 9, cc w ≤ 5000 := by decide +kernel
theorem e__law_every_plan (h1 : 3 ≤ n) (h2 : n ≤ 9) (hK : Kl ((wr (n - 1).toNat 1).map fun l => plD n (planOf n l))) : f__law_every_plan (.int n) Kl E := by
  have hsl := sizeLine_eq
  unfold f__law_every_plan
  simp only [q_add_ii, q_add_ss, q_add_ll, q_add_tt, q_addL, q_sub, q_mul, q_div, q_mod, q_neg, q_bool, q_eq_ii, q_eq_ss, q_eq_bb, q_ne_ii, q_ne_ss, q_ne_bb, q_lt, q_le, q_gt, q_ge, q_un2, q_un3, q_un4, q_intO, q_len_l, q_len_t, q_len_s, q_abs, q_int_i, q_int_b, q_tup_l, q_tup_t, q_list_l, q_list_t, q_min, q_max, q_it_l, q_it_t, q_rng, q_enu_l, q_enu_t, q_rev, q_sl_l, q_sl_t, q_sl_s, q_slL, q_all, q_any, q_sum, q_sort_pp, q_and, q_or, q_ite, q_join, cond_true, cond_false, true_and, and_true, decide_eq_true_eq, decide_true, decide_false, p_un_pl, p_ix_pl0, p_ix_pl1, p_un_pp, p_ix_pp0, p_ix_pp1, p_mk, p_eq, p_ne, p_in, p_notIn, p_lt]
  refine ⟨by omega, ?_⟩
  rw [rng_map]
  refine forM_inv (List.range (n - 1).toNat) (fun (i : Nat) => PyData.int (1 + (i : Nat))) (fun i A => Told n (i + 1) 0 A) (fun i a ha A hA N hN => ?_) (fun A hA => ?_) _ ⟨by simp, fun v v1 v2 => by omega, fun s s1 s2 => by omega⟩
  · have hi := (List.getElem?_eq_some_iff.mp ha).1
    rw [List.length_range] at hi
    rw [List.getElem?_range hi] at ha
    cases ha
    simp only [q_add_ii, q_add_ss, q_add_ll, q_add_tt, q_addL, q_sub, q_mul, q_div, q_mod, q_neg, q_bool, q_eq_ii, q_eq_ss, q_eq_bb, q_ne_ii, q_ne_ss, q_ne_bb, q_lt, q_le, q_gt, q_ge, q_un2, q_un3, q_un4, q_intO, q_len_l, q_len_t, q_len_s, q_abs, q_int_i, q_int_b, q_tup_l, q_tup_t, q_list_l, q_list_t, q_min, q_max, q_it_l, q_it_t, q_rng, q_enu_l, q_enu_t, q_rev, q_sl_l, q_sl_t, q_sl_s, q_slL, q_all, q_any, q_sum, q_sort_pp, q_and, q_or, q_ite, q_join, cond_true, cond_false, true_and, and_true, decide_eq_true_eq, decide_true, decide_false, p_un_pl, p_ix_pl0, p_ix_pl1, p_un_pp, p_ix_pp0, p_ix_pp1, p_mk, p_eq, p_ne, p_in, p_notIn, p_lt]
    refine ⟨by omega, ?_⟩
    rw [rng_map]
    refine forM_inv (List.range (n + 1 - (1 + (i : Int)) - 1).toNat) (fun (t : Nat) => PyData.int (1 + (t : Nat))) (fun t A => Told n (i + 1) t A) (fun t a ha A hA N hN => ?_) (fun A hA => ?_) _ hA
    · have ht := (List.getElem?_eq_some_iff.mp ha).1
      rw [List.length_range] at ht
      rw [List.getElem?_range ht] at ha
      cases ha
      have hlen := hA.len
      by_cases e : i = 0
      · subst e
        simp only [q_add_ii, q_add_ss, q_add_ll, q_add_tt, q_addL, q_sub, q_mul, q_div, q_mod, q_neg, q_bool, q_eq_ii, q_eq_ss, q_eq_bb, q_ne_ii, q_ne_ss, q_ne_bb, q_lt, q_le, q_gt, q_ge, q_un2, q_un3, q_un4, q_intO, q_len_l, q_len_t, q_len_s, q_abs, q_int_i, q_int_b, q_tup_l, q_tup_t, q_list_l, q_list_t, q_min, q_max, q_it_l, q_it_t, q_rng, q_enu_l, q_enu_t, q_rev, q_sl_l, q_sl_t, q_sl_s, q_slL, q_all, q_any, q_sum, q_sort_pp, q_and, q_or, q_ite, q_join, cond_true, cond_false, true_and, and_true, decide_eq_true_eq, decide_true, decide_false, p_un_pl, p_ix_pl0, p_ix_pl1, p_un_pp, p_ix_pp0, p_ix_pp1, p_mk, p_eq, p_ne, p_in, p_notIn, p_lt, q_putT]
        rw [decide_eq_true (by omega : (1 + ((0 : Nat) : Int) = 1)), cond_true]
        refine ⟨by omega, hN _ ?_⟩
        exact hA.put rfl
      · simp only [q_add_ii, q_add_ss, q_add_ll, q_add_tt, q_addL, q_sub, q_mul, q_div, q_mod, q_neg, q_bool, q_eq_ii, q_eq_ss, q_eq_bb, q_ne_ii, q_ne_ss, q_ne_bb, q_lt, q_le, q_gt, q_ge, q_un2, q_un3, q_un4, q_intO, q_len_l, q_len_t, q_len_s, q_abs, q_int_i, q_int_b, q_tup_l, q_tup_t, q_list_l, q_list_t, q_min, q_max, q_it_l, q_it_t, q_rng, q_enu_l, q_enu_t, q_rev, q_sl_l, q_sl_t, q_sl_s, q_slL, q_all, q_any, q_sum, q_sort_pp, q_and, q_or, q_ite, q_join, cond_true, cond_false, true_and, and_true, decide_eq_true_eq, decide_true, decide_false, p_un_pl, p_ix_pl0, p_ix_pl1, p_un_pp, p_ix_pp0, p_ix_pp1, p_mk, p_eq, p_ne, p_in, p_notIn, p_lt]
        rw [decide_eq_false (by omega : ¬ (1 + (i : Int) = 1)), cond_false]
        refine ⟨by omega, ?_⟩
        rw [rng_map, show (1 + (t : Int) + (1 + (i : Int)) - (1 + (t : Int) + 1)).toNat = i by omega]
        have hlw := wr_len (i + 1) (by omega) (by omega) (1 + (t : Int))
        have hsm := cc_small (i + 1) (by omega)
        have ws := wr_step (w := i + 1) (by omega) (1 + (t : Int))
        have ws2 : (wr (i + 1) (1 + (t : Int))).map rowD = (List.range i).flatMap fun j => ((wr (1 + j) (1 + (t : Int))).flatMap fun a => (wr (i + 1 - 1 - j) (1 + (t : Int) + 1 + (j : Int))).map fun b => rowD (a ++ b ++ [(1 + (t : Int), 1 + (t : Int) + 1 + (j : Int)), (1 + (t : Int) + 1 + (j : Int), 1 + (t : Int) + ((i + 1 : Nat) : Int))])) := by
          rw [ws]; simp only [List.map_flatMap, List.map_map]; rfl
        have hB : ((wr (i + 1) (1 + (t : Int))).map rowD).length ≤ 5000 := by rw [List.length_map]; omega
        refine for_app ((wr (i + 1) (1 + (t : Int))).map rowD).length (List.range i) _ (fun j => ((wr (1 + j) (1 + (t : Int))).flatMap fun a => (wr (i + 1 - 1 - j) (1 + (t : Int) + 1 + (j : Int))).map fun b => rowD (a ++ b ++ [(1 + (t : Int), 1 + (t : Int) + 1 + (j : Int)), (1 + (t : Int) + 1 + (j : Int), 1 + (t : Int) + ((i + 1 : Nat) : Int))]))) (fun j hj S hS N2 hN2 => ?_) [] (by rw [← ws2]; simp) ?_
        · have hj := List.mem_range.mp hj
          have g1 := hA.low (1 + j) (by omega) (by omega) (1 + (t : Int)) (by omega) (by omega)
          have g2 := hA.low (i - j) (by omega) (by omega) (1 + (t : Int) + 1 + j) (by omega) (by omega)
          rw [show (1 + (t : Int) + ((1 + j : Nat) : Int)) = 1 + (t : Int) + 1 + (j : Int) by omega] at g1
          rw [show (1 + (t : Int) + 1 + (j : Int) + ((i - j : Nat) : Int)) = 1 + (t : Int) + (1 + (i : Int)) by omega] at g2
          simp only [q_add_ii, q_add_ss, q_add_ll, q_add_tt, q_addL, q_sub, q_mul, q_div, q_mod, q_neg, q_bool, q_eq_ii, q_eq_ss, q_eq_bb, q_ne_ii, q_ne_ss, q_ne_bb, q_lt, q_le, q_gt, q_ge, q_un2, q_un3, q_un4, q_intO, q_len_l, q_len_t, q_len_s, q_abs, q_int_i, q_int_b, q_tup_l, q_tup_t, q_list_l, q_list_t, q_min, q_max, q_it_l, q_it_t, q_rng, q_enu_l, q_enu_t, q_rev, q_sl_l, q_sl_t, q_sl_s, q_slL, q_all, q_any, q_sum, q_sort_pp, q_and, q_or, q_ite, q_join, cond_true, cond_false, true_and, and_true, decide_eq_true_eq, decide_true, decide_false, p_un_pl, p_ix_pl0, p_ix_pl1, p_un_pp, p_ix_pp0, p_ix_pp1, p_mk, p_eq, p_ne, p_in, p_notIn, p_lt, q_getT, g1]
          refine for_app (S.length + _) (wr (1 + j) (1 + (t : Int))) rowD _ (fun a ha S2 hS2 N3 hN3 => ?_) S (Nat.le_refl _) hN2
          simp only [q_add_ii, q_add_ss, q_add_ll, q_add_tt, q_addL, q_sub, q_mul, q_div, q_mod, q_neg, q_bool, q_eq_ii, q_eq_ss, q_eq_bb, q_ne_ii, q_ne_ss, q_ne_bb, q_lt, q_le, q_gt, q_ge, q_un2, q_un3, q_un4, q_intO, q_len_l, q_len_t, q_len_s, q_abs, q_int_i, q_int_b, q_tup_l, q_tup_t, q_list_l, q_list_t, q_min, q_max, q_it_l, q_it_t, q_rng, q_enu_l, q_enu_t, q_rev, q_sl_l, q_sl_t, q_sl_s, q_slL, q_all, q_any, q_sum, q_sort_pp, q_and, q_or, q_ite, q_join, cond_true, cond_false, true_and, and_true, decide_eq_true_eq, decide_true, decide_false, p_un_pl, p_ix_pl0, p_ix_pl1, p_un_pp, p_ix_pp0, p_ix_pp1, p_mk, p_eq, p_ne, p_in, p_notIn, p_lt, q_getT, g2]
          refine for_app1 (S2.length + _) (wr (i + 1 - 1 - j) (1 + (t : Int) + 1 + (j : Int))) rowD (fun b => rowD (a ++ b ++ [(1 + (t : Int), 1 + (t : Int) + 1 + (j : Int)), (1 + (t : Int) + 1 + (j : Int), 1 + (t : Int) + ((i + 1 : Nat) : Int))])) (fun b hb S3 hS3 N4 hN4 => ?_) S2 (Nat.le_refl _) ?_
          · have ra := wr_row _ _ a ha
            have rb := wr_row _ _ b hb
            simp only [q_add_ii, q_add_ss, q_add_ll, q_add_tt, q_addL, q_sub, q_mul, q_div, q_mod, q_neg, q_bool, q_eq_ii, q_eq_ss, q_eq_bb, q_ne_ii, q_ne_ss, q_ne_bb, q_lt, q_le, q_gt, q_ge, q_un2, q_un3, q_un4, q_intO, q_len_l, q_len_t, q_len_s, q_abs, q_int_i, q_int_b, q_tup_l, q_tup_t, q_list_l, q_list_t, q_min, q_max, q_it_l, q_it_t, q_rng, q_enu_l, q_enu_t, q_rev, q_sl_l, q_sl_t, q_sl_s, q_slL, q_all, q_any, q_sum, q_sort_pp, q_and, q_or, q_ite, q_join, cond_true, cond_false, true_and, and_true, decide_eq_true_eq, decide_true, decide_false, p_un_pl, p_ix_pl0, p_ix_pl1, p_un_pp, p_ix_pp0, p_ix_pp1, p_mk, p_eq, p_ne, p_in, p_notIn, p_lt, List.length_map, List.length_append, List.length_cons, List.length_nil]
            rw [List.length_map] at hS2
            refine ⟨by omega, by omega, by omega, ?_⟩
            have e4 : a.map ppD ++ b.map ppD ++ [ppD (1 + (t : Int), 1 + (t : Int) + 1 + (j : Int)), ppD (1 + (t : Int) + 1 + (j : Int), 1 + (t : Int) + (1 + (i : Int)))] = (a ++ b ++ [(1 + (t : Int), 1 + (t : Int) + 1 + (j : Int)), (1 + (t : Int) + 1 + (j : Int), 1 + (t : Int) + ((i + 1 : Nat) : Int))]).map ppD := by
              rw [List.map_append, List.map_append, show (1 + (i : Int)) = ((i + 1 : Nat) : Int) by omega]; rfl
            rw [e4]
            exact hN4
          · exact hN3
        · simp only [q_add_ii, q_add_ss, q_add_ll, q_add_tt, q_addL, q_sub, q_mul, q_div, q_mod, q_neg, q_bool, q_eq_ii, q_eq_ss, q_eq_bb, q_ne_ii, q_ne_ss, q_ne_bb, q_lt, q_le, q_gt, q_ge, q_un2, q_un3, q_un4, q_intO, q_len_l, q_len_t, q_len_s, q_abs, q_int_i, q_int_b, q_tup_l, q_tup_t, q_list_l, q_list_t, q_min, q_max, q_it_l, q_it_t, q_rng, q_enu_l, q_enu_t, q_rev, q_sl_l, q_sl_t, q_sl_s, q_slL, q_all, q_any, q_sum, q_sort_pp, q_and, q_or, q_ite, q_join, cond_true, cond_false, true_and, and_true, decide_eq_true_eq, decide_true, decide_false, p_un_pl, p_ix_pl0, p_ix_pl1, p_un_pp, p_ix_pp0, p_ix_pp1, p_mk, p_eq, p_ne, p_in, p_notIn, p_lt, q_putT]
          refine ⟨by omega, hN _ ?_⟩
          rw [show (1 + (i : Int)) = ((i + 1 : Nat) : Int) by omega]
          exact hA.put (by rw [← ws2]; rfl)
    · refine hN _ ⟨by have := hA.len; rw [List.length_range] at this; omega, fun v v1 v2 s s1 s2 => ?_, fun s s1 s2 => by omega⟩
      by_cases e : v = i + 1
      · subst e
        refine hA.cur s s1 ?_ s2
        rw [List.length_range]; omega
      · exact hA.low v v1 (by omega) s s1 s2
  · rw [List.length_range] at hA
    have g := hA.low (n - 1).toNat (by omega) (by omega) 1 (by omega) (by omega)
    rw [show (1 : Int) + ((n - 1).toNat : Int) = n by omega] at g
    simp only [q_add_ii, q_add_ss, q_add_ll, q_add_tt, q_addL, q_sub, q_mul, q_div, q_mod, q_neg, q_bool, q_eq_ii, q_eq_ss, q_eq_bb, q_ne_ii, q_ne_ss, q_ne_bb, q_lt, q_le, q_gt, q_ge, q_un2, q_un3, q_un4, q_intO, q_len_l, q_len_t, q_len_s, q_abs, q_int_i, q_int_b, q_tup_l, q_tup_t, q_list_l, q_list_t, q_min, q_max, q_it_l, q_it_t, q_rng, q_enu_l, q_enu_t, q_rev, q_sl_l, q_sl_t, q_sl_s, q_slL, q_all, q_any, q_sum, q_sort_pp, q_and, q_or, q_ite, q_join, cond_true, cond_false, true_and, and_true, decide_eq_true_eq, decide_true, decide_false, p_un_pl, p_ix_pl0, p_ix_pl1, p_un_pp, p_ix_pp0, p_ix_pp1, p_mk, p_eq, p_ne, p_in, p_notIn, p_lt, q_getT, g]
    have hlw := wr_len (n - 1).toNat (by omega) (by omega) 1
    have hsm := cc_small (n - 1).toNat (by omega)
    refine for_app1 5000 (wr (n - 1).toNat 1) rowD (fun l => plD n (planOf n l)) (fun l hl S hS N hN => ?_) [] (by simp only [List.length_nil]; omega) hK
    simp only [q_add_ii, q_add_ss, q_add_ll, q_add_tt, q_addL, q_sub, q_mul, q_div, q_mod, q_neg, q_bool, q_eq_ii, q_eq_ss, q_eq_bb, q_ne_ii, q_ne_ss, q_ne_bb, q_lt, q_le, q_gt, q_ge, q_un2, q_un3, q_un4, q_intO, q_len_l, q_len_t, q_len_s, q_abs, q_int_i, q_int_b, q_tup_l, q_tup_t, q_list_l, q_list_t, q_min, q_max, q_it_l, q_it_t, q_rng, q_enu_l, q_enu_t, q_rev, q_sl_l, q_sl_t, q_sl_s, q_slL, q_all, q_any, q_sum, q_sort_pp, q_and, q_or, q_ite, q_join, cond_true, cond_false, true_and, and_true, decide_eq_true_eq, decide_true, decide_false, p_un_pl, p_ix_pl0, p_ix_pl1, p_un_pp, p_ix_pp0, p_ix_pp1, p_mk, p_eq, p_ne, p_in, p_notIn, p_lt]
    rw [q_lc_fil _ _ wide (fun p => ppD (nrm n p)) fun p hp k s => ?_]
    · rw [List.nil_append, show ((l.filter wide).map fun p => ppD (nrm n p)) = ((l.filter wide).map (nrm n)).map ppD by rw [List.map_map]; rfl, q_sort_pp, srt_pp]
      exact ⟨by omega, hN⟩
    · simp only [q_add_ii, q_add_ss, q_add_ll, q_add_tt, q_addL, q_sub, q_mul, q_div, q_mod, q_neg, q_bool, q_eq_ii, q_eq_ss, q_eq_bb, q_ne_ii, q_ne_ss, q_ne_bb, q_lt, q_le, q_gt, q_ge, q_un2, q_un3, q_un4, q_intO, q_len_l, q_len_t, q_len_s, q_abs, q_int_i, q_int_b, q_tup_l, q_tup_t, q_list_l, q_list_t, q_min, q_max, q_it_l, q_it_t, q_rng, q_enu_l, q_enu_t, q_rev, q_sl_l, q_sl_t, q_sl_s, q_slL, q_all, q_any, q_sum, q_sort_pp, q_and, q_or, q_ite, q_join, cond_true, cond_false, true_and, and_true, decide_eq_true_eq, decide_true, decide_false, p_un_pl, p_ix_pl0, p_ix_pl1, p_un_pp, p_ix_pp0, p_ix_pp1, p_mk, p_eq, p_ne, p_in, p_notIn, p_lt, e__law_pair]
      rw [show decide (1 < p.2 - p.1) = wide p from rfl]
      refine congrArg (fun z => cond (wide p) z s) ?_
      exact propext (and_iff_right (by omega))
end
end Tx
namespace Tx
open PySem PySem.Spec PyProof.Rows L2 TL
@[irreducible] def f__law_turned (l_plan_here : PyData) (l_many : PyData) (K : KD) (E : KX) : Prop :=
  un2 l_plan_here fun l_faces1 l_cuts2 =>
  itM l_cuts2 fun xs5 =>
  forM (fun p12 l_rows15 N13 B14 => un2 p12 fun l_low19 l_high20 =>
  addM l_low19 l_many fun r22 =>
  modM r22 l_faces1 fun r23 =>
  addM l_high20 l_many fun r24 =>
  modM r24 l_faces1 fun r25 =>
  f__law_pair r23 r25 (fun r26 =>
  l_rows15.length < sizeLine ∧ (N13 (l_rows15 ++ ([r26] : List PyData)))) E) (fun l_rows6 =>
  sortM (.list l_rows6) fun l10 =>
  tupM (.list l10) fun r11 =>
  K (.tuple [l_faces1, r11])) xs5 []
def c__law_turned : CT := fun args Φ Ψ => ∃ (l_plan_here : PyData) (l_many : PyData) (K : KD) (E : KX), args = [.d l_plan_here, .d l_many] ∧ f__law_turned l_plan_here l_many K E ∧ (∀ r, K r → Φ (.rd r) args) ∧ ∀ c, E c → Ψ c args
def tuP (n k : Int) (p : Int × Int) : Int × Int := nrmP ((p.1 + k) % n) ((p.2 + k) % n)
def tuL (n k : Int) (cs : List (Int × Int)) : List (Int × Int) := sortPP (cs.map (tuP n k))
/-- a map of the corners that keeps what a cut is, and what crosses -/
structure Cor (n : Int) (g : Int → Int) : Prop where
  rg : ∀ x, 0 ≤ x → x < n → 0 ≤ g x ∧ g x < n
  inj : ∀ x y, 0 ≤ x → x < n → 0 ≤ y → y < n → g x = g y → x = y
  cut : ∀ x y, 0 ≤ x → x < n → 0 ≤ y → y < n → (g x - g y = 1 ∨ g y - g x = 1 ∨ g x - g y = n - 1 ∨ g y - g x = n - 1) → (x - y = 1 ∨ y - x = 1 ∨ x - y = n - 1 ∨ y - x = n - 1)
  noc : ∀ a b c d, 0 ≤ a → a < b → b < n → 0 ≤ c → c < d → d < n → crossB (a, b) (c, d) = false → crossB (nrmP (g a) (g b)) (nrmP (g c) (g d)) = false
theorem nrmP_lt {a b : Int} (h : a ≠ b) : (nrmP a b).1 < (nrmP a b).2 ∧ ((nrmP a b = (a, b) ∧ a < b) ∨ (nrmP a b = (b, a) ∧ b < a)) := by
  unfold nrmP
  by_cases c : b < a
  · rw [if_pos c, if_neg (by omega)]; exact ⟨c, .inr ⟨rfl, c⟩⟩
  · rw [if_neg c, if_pos (by omega)]; exact ⟨by show a < b; omega, .inl ⟨rfl, by omega⟩⟩
theorem Cor.plan {n : Int} {g : Int → Int} {cs : List (Int × Int)} (h : Cor n g) (hp : IsPlan n cs) : IsPlan n (sortPP (cs.map fun p => nrmP (g p.1) (g p.2))) ∧ (cs.map fun p => nrmP (g p.1) (g p.2)).Nodup := by
  have bd : ∀ c ∈ cs, 0 ≤ c.1 ∧ c.1 < n ∧ 0 ≤ c.2 ∧ c.2 < n ∧ c.1 < c.2 := fun c hc => by have := hp.cut c hc; omega
  have ne : ∀ c ∈ cs, g c.1 ≠ g c.2 := fun c hc e => by
    obtain ⟨b1, b2, b3, b4, b5⟩ := bd c hc
    have := h.inj _ _ b1 b2 b3 b4 e; omega
  have pm := sortPP_perm (cs.map fun p => nrmP (g p.1) (g p.2))
  have nd0 : cs.Nodup := hp.srt.imp fun {p q} hlt e => by
    subst e; unfold ltPP at hlt; simp at hlt
  have inj : ∀ p ∈ cs, ∀ q ∈ cs, nrmP (g p.1) (g p.2) = nrmP (g q.1) (g q.2) → p = q := fun p hp1 q hq e => by
    obtain ⟨b1, b2, b3, b4, b5⟩ := bd p hp1
    obtain ⟨c1, c2, c3, c4, c5⟩ := bd q hq
    have e1 := (nrmP_lt (ne p hp1)).2
    have e2 := (nrmP_lt (ne q hq)).2
    rcases e1 with ⟨e1, l1⟩ | ⟨e1, l1⟩ <;> rcases e2 with ⟨e2, l2⟩ | ⟨e2, l2⟩ <;> rw [e1, e2] at e <;> injection e with x1 x2
    · exact Prod.ext (h.inj _ _ b1 b2 c1 c2 x1) (h.inj _ _ b3 b4 c3 c4 x2)
    · have := h.inj _ _ b1 b2 c3 c4 x1; have := h.inj _ _ b3 b4 c1 c2 x2; omega
    · have := h.inj _ _ b3 b4 c1 c2 x1; have := h.inj _ _ b1 b2 c3 c4 x2; omega
    · exact Prod.ext (h.inj _ _ b1 b2 c1 c2 x2) (h.inj _ _ b3 b4 c3 c4 x1)
  have nd : (cs.map fun p => nrmP (g p.1) (g p.2)).Nodup := by
    refine List.pairwise_map.mpr ?_
    have : cs.Pairwise fun p q => p ∈ cs ∧ q ∈ cs ∧ p ≠ q := by
      have := List.Pairwise.and_mem.mp nd0
      exact this.imp fun {p q} hh => ⟨hh.1, hh.2.1, hh.2.2⟩
    exact this.imp fun {p q} ⟨m1, m2, hne⟩ e => hne (inj p m1 q m2 e)
  refine ⟨⟨hp.lo, hp.hi, by rw [pm.length_eq, List.length_map]; exact hp.len, fun c hc => ?_, sortPP_lt nd, fun c hc d hd => ?_⟩, nd⟩
  · obtain ⟨p, hp1, rfl⟩ := List.mem_map.mp (pm.mem_iff.mp hc)
    obtain ⟨b1, b2, b3, b4, b5⟩ := bd p hp1
    have r1 := h.rg _ b1 b2
    have r2 := h.rg _ b3 b4
    have cu := hp.cut p hp1
    have hc := h.cut p.1 p.2 b1 b2 b3 b4
    rcases (nrmP_lt (ne p hp1)).2 with ⟨e1, l1⟩ | ⟨e1, l1⟩ <;> rw [e1] <;> dsimp only <;> refine ⟨by omega, ?_, by omega, fun z => ?_⟩
    · by_cases q : g p.2 - g p.1 = 1
      · have := hc (.inr (.inl q)); omega
      · omega
    · have := hc (.inr (.inr (.inr (by omega)))); omega
    · by_cases q : g p.1 - g p.2 = 1
      · have := hc (.inl q); omega
      · omega
    · have := hc (.inr (.inr (.inl (by omega)))); omega
  · obtain ⟨p, hp1, rfl⟩ := List.mem_map.mp (pm.mem_iff.mp hc)
    obtain ⟨q, hq1, rfl⟩ := List.mem_map.mp (pm.mem_iff.mp hd)
    obtain ⟨b1, b2, b3, b4, b5⟩ := bd p hp1
    obtain ⟨c1, c2, c3, c4, c5⟩ := bd q hq1
    exact h.noc p.1 p.2 q.1 q.2 b1 b5 b4 c1 c5 c4 (hp.noc p hp1 q hq1)
theorem rot_eq {n x k : Int} (h0 : 0 < n) (x0 : 0 ≤ x) (x1 : x < n) : (x + k) % n = if x + k % n < n then x + k % n else x + k % n - n := by
  have k0 := Int.emod_nonneg k (show n ≠ 0 by omega)
  have k1 := Int.emod_lt_of_pos k h0
  rw [← Int.add_emod_emod]
  split
  · exact Int.emod_eq_of_lt (by omega) (by omega)
  · rw [← Int.sub_emod_right]; exact Int.emod_eq_of_lt (by omega) (by omega)
theorem cor_rot {n : Int} (h3 : 3 ≤ n) (k : Int) : Cor n fun x => (x + k) % n := by
  have k0 := Int.emod_nonneg k (show n ≠ 0 by omega)
  have k1 := Int.emod_lt_of_pos k (show 0 < n by omega)
  have e := fun x (x0 : 0 ≤ x) (x1 : x < n) => rot_eq (k := k) (show 0 < n by omega) x0 x1
  refine ⟨fun x x0 x1 => ⟨Int.emod_nonneg _ (by omega), Int.emod_lt_of_pos _ (by omega)⟩, fun x y x0 x1 y0 y1 h => ?_, fun x y x0 x1 y0 y1 h => ?_, fun a b c d a0 ab b1 c0 cd d1 h => ?_⟩
  · try dsimp only at h
    rw [e x x0 x1, e y y0 y1] at h
    split at h <;> split at h <;> omega
  · try dsimp only at h
    rw [e x x0 x1, e y y0 y1] at h
    split at h <;> split at h <;> omega
  · try dsimp only
    rw [e a a0 (by omega), e b (by omega) b1, e c c0 (by omega), e d (by omega) d1]
    rw [cross_eq, decide_eq_false_iff_not] at h ⊢
    generalize k % n = k at *
    unfold nrmP
    intro z
    apply h
    dsimp only at z ⊢
    refine ⟨?_, ?_, ?_, ?_, ?_⟩ <;> (try intro q) <;> (repeat' split at z) <;> omega
theorem tuL_plan {n k : Int} {cs : List (Int × Int)} (hp : IsPlan n cs) : IsPlan n (tuL n k cs) := ((cor_rot hp.lo k).plan hp).1
section
variable {n : Int} {cs : List (Int × Int)} {K : KD} {E : KX}
theorem i__law_turned {k : Int} (hn : 0 < n) (hc : cs.length ≤ 1000) (hK : K (plD n (tuL n k cs))) : f__law_turned (plD n cs) (.int k) K E := by
  have hsl := sizeLine_eq
  unfold f__law_turned
  rw [p_un_pl, q_it_t]
  refine for_app1 2000 cs ppD (fun p => ppD (tuP n k p)) (fun p hp s hs N hN => ?_) [] (by rw [List.length_nil]; omega) ?_
  · rw [p_un_pp, q_add_ii, q_mod, q_add_ii, q_mod, e__law_pair]
    exact ⟨hn, hn, by omega, hN⟩
  · rw [List.nil_append, show (cs.map fun p => ppD (tuP n k p)) = (cs.map (tuP n k)).map ppD by rw [List.map_map]; rfl, q_sort_pp, srt_pp, q_tup_l]
    exact hK
/-- what is sorted anew is itself -/
theorem sort_same (hp : IsPlan n cs) : sortPP cs = cs := by
  have nd : cs.Nodup := hp.srt.imp fun {p q} hlt e => by subst e; unfold ltPP at hlt; simp at hlt
  exact pp_unique (sortPP_perm cs) (sortPP_lt nd) hp.srt
theorem nrmP_comm (x y : Int) : nrmP x y = nrmP y x := by
  unfold nrmP
  by_cases c : x < y
  · rw [if_neg (show ¬ y < x by omega), if_pos (show y > x by omega), if_pos c, if_neg (show ¬ x > y by omega)]
  · by_cases d : y < x
    · rw [if_pos d, if_neg (show ¬ y > x by omega), if_neg c, if_pos (show x > y by omega)]
    · have : x = y := by omega
      subst this; rfl
theorem nrm_nrm (g : Int → Int) (a b : Int) : nrmP (g (nrmP a b).1) (g (nrmP a b).2) = nrmP (g a) (g b) := by
  by_cases c : b < a
  · have e : nrmP a b = (b, a) := by unfold nrmP; rw [if_pos c, if_neg (show ¬ b > a by omega)]
    rw [e, nrmP_comm]
  · by_cases d : a < b
    · have e : nrmP a b = (a, b) := by unfold nrmP; rw [if_neg c, if_pos (show b > a by omega)]
      rw [e]
    · have : a = b := by omega
      subst this
      have e : nrmP a a = (a, a) := by unfold nrmP; rw [if_neg c]
      rw [e]
/-- two maps of corners, one behind the other -/
theorem two_maps {g1 g2 g3 : Int → Int} (hp : IsPlan n cs) (h1 : Cor n g1) (h2 : Cor n g2) (h3 : ∀ x, 0 ≤ x → x < n → g2 (g1 x) = g3 x) :
    sortPP ((sortPP (cs.map fun p => nrmP (g1 p.1) (g1 p.2))).map fun p => nrmP (g2 p.1) (g2 p.2)) = sortPP (cs.map fun p => nrmP (g3 p.1) (g3 p.2)) := by
  obtain ⟨p1, nd1⟩ := h1.plan hp
  obtain ⟨p2, nd2⟩ := h2.plan p1
  refine sortPP_eq ?_ nd2
  refine ((sortPP_perm _).map _).trans ?_
  rw [List.map_map]
  refine List.Perm.of_eq (List.map_congr_left fun p hp1 => ?_)
  have c := hp.cut p hp1
  show nrmP (g2 (nrmP (g1 p.1) (g1 p.2)).1) (g2 (nrmP (g1 p.1) (g1 p.2)).2) = _
  rw [nrm_nrm, h3 _ (by omega) (by omega), h3 _ (by omega) (by omega)]
theorem id_map (hp : IsPlan n cs) : sortPP (cs.map fun p => nrmP p.1 p.2) = cs := by
  rw [show (cs.map fun p => nrmP p.1 p.2) = cs from ?_]
  · exact sort_same hp
  · refine (List.map_congr_left fun p hp1 => ?_).trans (List.map_id cs)
    have c := hp.cut p hp1
    unfold nrmP
    rw [if_neg (by omega), if_pos (by omega)]; rfl
theorem turn_n (hp : IsPlan n cs) : tuL n n cs = cs := by
  have h3 := hp.lo
  unfold tuL
  rw [show (cs.map (tuP n n)) = cs.map fun p => nrmP p.1 p.2 from List.map_congr_left fun p hp1 => ?_]
  · exact id_map hp
  · have c := hp.cut p hp1
    unfold tuP
    rw [Int.add_emod_right, Int.add_emod_right, Int.emod_eq_of_lt (by omega) (by omega), Int.emod_eq_of_lt (by omega) (by omega)]
end
end Tx
namespace Tx
open PySem PySem.Spec PyProof.Rows L2 TL
inductive Tr where
  | lf
  | nd (a b : Tr)
namespace Tr
def sz : Tr → Int
  | .lf => 1
  | .nd a b => a.sz + b.sz
def arcs : Tr → Int → List (Int × Int)
  | .lf, _ => []
  | .nd a b, s => (s, s + a.sz) :: (s + a.sz, s + a.sz + b.sz) :: (a.arcs s ++ b.arcs (s + a.sz))
end Tr
open Tr
theorem sz_pos : ∀ t : Tr, 1 ≤ t.sz
  | .lf => by show (1 : Int) ≤ 1; omega
  | .nd a b => by have := sz_pos a; have := sz_pos b; show 1 ≤ a.sz + b.sz; omega
theorem tr_arcs : ∀ (t : Tr) (s : Int), Arcs s (s + t.sz) (t.arcs s)
  | .lf, s => .leaf (by show s + 1 - s ≤ 1; omega)
  | .nd a b, s => by
    have ha := sz_pos a
    have hb := sz_pos b
    have h := Arcs.node (s := s) (m := s + a.sz) (e := s + a.sz + b.sz) (by omega) (by omega) (tr_arcs a s) (tr_arcs b (s + a.sz))
    show Arcs s (s + (a.sz + b.sz)) _
    rw [← Int.add_assoc]
    exact h
abbrev plT (n : Int) (T : Tr) : List (Int × Int) := planOf n (T.arcs 1)
section
variable {K : KD} {Kl : KL} {E : KX} {Kb : KB} {n : Int} {T : Tr}
variable (h3 : 3 ≤ n) (h40 : n ≤ 40) (hT : T.sz = n - 1)
include h3 h40 hT
theorem plT_arcs : Arcs 1 n (T.arcs 1) := by
  have := tr_arcs T 1
  rwa [show 1 + T.sz = n by omega] at this
theorem plT_ok : IsPlan n (plT n T) := arcs_plan h3 h40 (plT_arcs h3 h40 hT)
end
end Tx
namespace Tx
open PySem PySem.Spec PyProof.Rows L2 TL
open Tr
/-- parts of a depth below k -/
def Tr.dp : Tr → Int → Nat → List (Int × Int × Int)
  | _, _, 0 => []
  | .lf, _, _ => []
  | .nd a b, s, k + 1 => (s, s + a.sz, s + a.sz + b.sz) :: (b.dp (s + a.sz) k ++ a.dp s k)
end Tx
namespace Tx
open PySem PySem.Spec PyProof.Rows L2 TL
/-- the stretch from a on, ahead of b -/
def sb (R : List Bool) (a b : Nat) : List Bool := (R.drop a).take (b - a)
end Tx
namespace Tx
open PySem PySem.Spec PyProof.Rows L2 TL
open Tr
namespace Tr
/-- the hands of the leaves in order -/
def row : Tr → Bool → Bool → List Bool
  | .lf, _, h => [h]
  | .nd a b, x, h => if x then b.row (!x) (!h) ++ a.row (!x) (!h) else a.row (!x) (!h) ++ b.row (!x) (!h)
end Tr
end Tx
namespace Tx
open PySem PySem.Spec PyProof.Rows L2 TL
open Tr
namespace Tr
/-- the arcs within, the parts' own last -/
def arcsP : Tr → Int → List (Int × Int)
  | .lf, _ => []
  | .nd a b, s => a.arcsP s ++ b.arcsP (s + a.sz) ++ [(s, s + a.sz), (s + a.sz, s + a.sz + b.sz)]
end Tr
theorem arcsP_perm : ∀ (t : Tr) (s : Int), (t.arcsP s).Perm (t.arcs s)
  | .lf, _ => List.Perm.refl _
  | .nd a b, s => by
    show (a.arcsP s ++ b.arcsP (s + a.sz) ++ [(s, s + a.sz), (s + a.sz, s + a.sz + b.sz)]).Perm ([(s, s + a.sz), (s + a.sz, s + a.sz + b.sz)] ++ (a.arcs s ++ b.arcs (s + a.sz)))
    exact List.perm_append_comm.trans (((arcsP_perm a s).append (arcsP_perm b (s + a.sz))).append_left _)
def allF : Nat → Nat → List Tr
  | 0, _ => [.lf]
  | f + 1, w => if w ≤ 1 then [.lf] else (List.range (w - 1)).flatMap fun j => (allF f (1 + j)).flatMap fun a => (allF f (w - 1 - j)).map fun b => .nd a b
theorem allF_eq : ∀ f g w, w ≤ f → w ≤ g → allF f w = allF g w := by
  intro f
  induction f with
  | zero =>
    intro g w h1 h2
    cases g with
    | zero => rfl
    | succ g => unfold allF; rw [if_pos (by omega)]
  | succ f ih =>
    intro g w h1 h2
    cases g with
    | zero => unfold allF; rw [if_pos (by omega)]
    | succ g =>
      unfold allF
      by_cases h : w ≤ 1
      · rw [if_pos h, if_pos h]
      · rw [if_neg h, if_neg h]
        refine congrArg List.flatten (List.map_congr_left fun j hj => ?_)
        have hj := List.mem_range.mp hj
        rw [ih g (1 + j) (by omega) (by omega), ih g (w - 1 - j) (by omega) (by omega)]
def allT (w : Nat) : List Tr := allF w w
theorem allT_one : allT 1 = [.lf] := rfl
theorem allT_step {w : Nat} (h : 2 ≤ w) : allT w = (List.range (w - 1)).flatMap fun j => (allT (1 + j)).flatMap fun a => (allT (w - 1 - j)).map fun b => .nd a b := by
  unfold allT
  obtain ⟨f, rfl⟩ : ∃ f, w = f + 1 := ⟨w - 1, by omega⟩
  conv => lhs; unfold allF
  rw [if_neg (by omega)]
  refine congrArg List.flatten (List.map_congr_left fun j hj => ?_)
  have hj := List.mem_range.mp hj
  rw [allF_eq f (1 + j) (1 + j) (by omega) (by omega), allF_eq f (f + 1 - 1 - j) (f + 1 - 1 - j) (by omega) (by omega)]
theorem mem_allT : ∀ (w : Nat), 1 ≤ w → ∀ t : Tr, t ∈ allT w ↔ t.sz = w := by
  intro w
  induction w using Nat.strongRecOn with
  | _ w ih =>
    intro h1 t
    by_cases h : w = 1
    · subst h
      rw [allT_one, List.mem_singleton]
      constructor
      · rintro rfl; rfl
      · intro h
        cases t with
        | lf => rfl
        | nd a b => have := sz_pos a; have := sz_pos b; have : (Tr.nd a b).sz = a.sz + b.sz := rfl; omega
    · rw [allT_step (by omega), List.mem_flatMap]
      constructor
      · rintro ⟨j, hj, ht⟩
        have hj := List.mem_range.mp hj
        obtain ⟨a, ha, ht⟩ := List.mem_flatMap.mp ht
        obtain ⟨b, hb, rfl⟩ := List.mem_map.mp ht
        have ha := (ih (1 + j) (by omega) (by omega) a).mp ha
        have hb := (ih (w - 1 - j) (by omega) (by omega) b).mp hb
        show a.sz + b.sz = _
        omega
      · intro ht
        cases t with
        | lf => have : (Tr.lf).sz = 1 := rfl; omega
        | nd a b =>
          have ha := sz_pos a
          have hb := sz_pos b
          have : (Tr.nd a b).sz = a.sz + b.sz := rfl
          refine ⟨(a.sz - 1).toNat, List.mem_range.mpr (by omega), List.mem_flatMap.mpr ⟨a, (ih _ (by omega) (by omega) a).mpr (by omega), List.mem_map.mpr ⟨b, (ih _ (by omega) (by omega) b).mpr (by omega), rfl⟩⟩⟩
theorem wr_allT : ∀ (w : Nat), 1 ≤ w → ∀ s : Int, wr w s = (allT w).map fun t => t.arcsP s := by
  intro w
  induction w using Nat.strongRecOn with
  | _ w ih =>
    intro h1 s
    by_cases h : w = 1
    · subst h; rfl
    · rw [wr_step (by omega), allT_step (by omega), List.map_flatMap]
      refine congrArg List.flatten (List.map_congr_left fun j hj => ?_)
      have hj := List.mem_range.mp hj
      rw [ih (1 + j) (by omega) (by omega), List.flatMap_map, List.map_flatMap]
      refine congrArg List.flatten (List.map_congr_left fun a ha => ?_)
      have ha := (mem_allT (1 + j) (by omega) a).mp ha
      rw [ih (w - 1 - j) (by omega) (by omega), List.map_map, List.map_map]
      refine List.map_congr_left fun b hb => ?_
      have hb := (mem_allT (w - 1 - j) (by omega) b).mp hb
      show a.arcsP s ++ b.arcsP (s + 1 + (j : Int)) ++ [(s, s + 1 + (j : Int)), (s + 1 + (j : Int), s + (w : Int))] = a.arcsP s ++ b.arcsP (s + a.sz) ++ [(s, s + a.sz), (s + a.sz, s + a.sz + b.sz)]
      rw [show s + a.sz = s + 1 + (j : Int) by omega, show s + 1 + (j : Int) + b.sz = s + (w : Int) by omega]
theorem planP {n : Int} (t : Tr) (h3 : 3 ≤ n) (h40 : n ≤ 40) (hT : t.sz = n - 1) : planOf n (t.arcsP 1) = plT n t := by
  have nd : (((t.arcs 1).filter wide).map (nrm n)).Nodup := by
    have hp := plT_ok h3 h40 hT
    refine (sortPP_perm _).nodup_iff.mp (hp.srt.imp fun {p q} h e => ?_)
    subst e
    unfold ltPP at h
    have := of_decide_eq_true h
    omega
  unfold planOf plT planOf
  exact (sortPP_eq (((arcsP_perm t 1).filter wide).map (nrm n)).symm nd).symm
end Tx
namespace Tx
open PySem PySem.Spec PyProof.Rows L2 TL
open Tr
theorem le_toks {a b : PyData} (h1 : PySem.W.dataLe false id a b = true) (h2 : PySem.W.dataLe false id b a = true) : PySem.W.keyToks a = PySem.W.keyToks b := by
  have e1 : (listOrd itemOrd).blt (PySem.W.keyToks b) (PySem.W.keyToks a) = false := by
    have : (!(listOrd itemOrd).blt (PySem.W.keyToks b) (PySem.W.keyToks a)) = true := h1
    simpa using this
  have e2 : (listOrd itemOrd).blt (PySem.W.keyToks a) (PySem.W.keyToks b) = false := by
    have : (!(listOrd itemOrd).blt (PySem.W.keyToks a) (PySem.W.keyToks b)) = true := h2
    simpa using this
  exact (listOrd itemOrd).total _ _ e2 e1
theorem le_tot : PySem.W.TotalLe (PySem.W.dataLe false (id : PyData → PyData)) := PySem.W.sortLe_total _ _ _
theorem srt_sorted (L : List PyData) : (srt L).Pairwise fun a b => PySem.W.dataLe false id a b = true := by
  unfold srt
  exact List.pairwise_mergeSort (fun a b c h1 h2 => le_tot.trans a b c h1 h2) (fun a b => by have := le_tot.total a b; simpa using this) L
theorem srt_perm' (L : List PyData) : (srt L).Perm L := List.mergeSort_perm _ _
theorem toks_pps : ∀ {cs ds : List (Int × Int)} {u v : List (Int ⊕ List Nat)}, PySem.W.keyToksAll (cs.map ppD) ++ u = PySem.W.keyToksAll (ds.map ppD) ++ v → cs = ds
  | [], [], _, _, _ => rfl
  | [], d :: ds, u, v, h => by
    have h : (.inl 0 :: u : List (Int ⊕ List Nat)) = .inl 1 :: _ := h
    injection h with h1 _
    injection h1 with h1
    cases h1
  | c :: cs, [], u, v, h => by
    have h : (.inl 1 :: _ : List (Int ⊕ List Nat)) = .inl 0 :: v := h
    injection h with h1 _
    injection h1 with h1
    cases h1
  | c :: cs, d :: ds, u, v, h => by
    have h : (.inl 1 :: .inl 1 :: .inl c.1 :: .inl 1 :: .inl c.2 :: .inl 0 :: (PySem.W.keyToksAll (cs.map ppD) ++ u) : List (Int ⊕ List Nat)) = .inl 1 :: .inl 1 :: .inl d.1 :: .inl 1 :: .inl d.2 :: .inl 0 :: (PySem.W.keyToksAll (ds.map ppD) ++ v) := h
    injection h with _ h
    injection h with _ h
    injection h with h1 h
    injection h with _ h
    injection h with h2 h
    injection h with _ h
    rw [toks_pps h, Prod.ext (Sum.inl.inj h1) (Sum.inl.inj h2)]
theorem toks_pl {n m : Int} {cs ds : List (Int × Int)} (h : PySem.W.keyToks (plD n cs) = PySem.W.keyToks (plD m ds)) : plD n cs = plD m ds := by
  have h : (.inl 1 :: .inl n :: .inl 1 :: (PySem.W.keyToksAll (cs.map ppD) ++ [.inl 0]) : List (Int ⊕ List Nat)) = .inl 1 :: .inl m :: .inl 1 :: (PySem.W.keyToksAll (ds.map ppD) ++ [.inl 0]) := h
  injection h with _ h
  injection h with h1 h
  injection h with _ h
  rw [toks_pps h, Sum.inl.inj h1]
theorem pps_inj : ∀ {cs ds : List (Int × Int)}, cs.map ppD = ds.map ppD → cs = ds
  | [], [], _ => rfl
  | [], _ :: _, h => (by cases h)
  | _ :: _, [], h => (by cases h)
  | c :: cs, d :: ds, h => by
    rw [List.map_cons, List.map_cons] at h
    injection h with h3 h4
    have h3 := PyData.tuple.inj h3
    injection h3 with q1 q2
    injection q2 with q2 _
    have z1 : c.1 = d.1 := by injection q1
    have z2 : c.2 = d.2 := by injection q2
    have z : c = d := Prod.ext z1 z2
    rw [pps_inj h4, z]
theorem plD_inj {n m : Int} {cs ds : List (Int × Int)} (h : plD n cs = plD m ds) : n = m ∧ cs = ds := by
  have := PyData.tuple.inj h
  injection this with h1 h2
  injection h2 with h2 _
  exact ⟨by injection h1, pps_inj (PyData.tuple.inj h2)⟩
end Tx
namespace Tx
open PySem PySem.Spec PyProof.Rows L2 TL
open Tr
theorem alike_pps : ∀ {cs ds : List (Int × Int)}, cs.length = ds.length → PySem.W.alikeAll (cs.map ppD) (ds.map ppD) = true
  | [], [], _ => rfl
  | [], _ :: _, h => by simp at h
  | _ :: _, [], h => by simp at h
  | c :: cs, d :: ds, h => by
    show (PySem.W.alike (ppD c) (ppD d) && PySem.W.alikeAll (cs.map ppD) (ds.map ppD)) = true
    rw [alike_pps (by simpa using h)]; rfl
theorem shp_pl {n : Int} {cs : List (Int × Int)} : SeqAt.shaped (plD n cs) = true ∧ (plD n cs).canLay0 = true ∧ (plD n cs).depth ≤ 50 := by
  have h1 : ∀ cs : List (Int × Int), PyData.canLayAll0 (cs.map ppD) = true ∧ PyData.depthAll (cs.map ppD) ≤ 3 := fun cs => by
    induction cs with
    | nil => exact ⟨rfl, Nat.zero_le _⟩
    | cons c cs ih =>
      refine ⟨?_, ?_⟩
      · show (PyData.canLay0 (ppD c) && PyData.canLayAll0 (cs.map ppD)) = true
        rw [ih.1]; rfl
      · show max (PyData.depth (ppD c)) (PyData.depthAll (cs.map ppD)) ≤ 3
        exact Nat.max_le.mpr ⟨Nat.le_of_ble_eq_true rfl, ih.2⟩
  have e1 : PyData.canLay0 (plD n cs) = true := by
    show (PyData.canLay0 (.int n) && (PyData.canLayAll0 (cs.map ppD) && true)) = true
    rw [(h1 cs).1]; rfl
  have e2 : PyData.depth (plD n cs) ≤ 5 := by
    show max (PyData.depth (.int n)) (max (PyData.depthAll (cs.map ppD) + 1) 0) + 1 ≤ 5
    have := (h1 cs).2
    have z : PyData.depth (.int n) ≤ 1 := Nat.le_of_ble_eq_true rfl
    omega
  refine ⟨?_, e1, by omega⟩
  unfold SeqAt.shaped
  rw [e1, decide_eq_true (by omega : PyData.depth (plD n cs) ≤ 64)]
  rfl
end Tx
namespace Tx
open PySem PySem.Spec PyProof.Rows L2 TL
@[irreducible] def f__law_first (l_plan_here : PyData) (K : KD) (E : KX) : Prop :=
  ixM l_plan_here (.int 0) fun r2 =>
  rngM (.int 0) r2 fun xs1 =>
  lcM (fun l_many3 kp sk => f__law_turned l_plan_here l_many3 (fun r5 =>
  kp r5) (fun _ => False)) (fun l4 =>
  sortM (.list l4) fun l6 =>
  ixM (.list l6) (.int 0) fun r7 =>
  K r7) xs1 []
def c__law_first : CT := fun args Φ Ψ => ∃ (l_plan_here : PyData) (K : KD) (E : KX), args = [.d l_plan_here] ∧ f__law_first l_plan_here K E ∧ (∀ r, K r → Φ (.rd r) args) ∧ ∀ c, E c → Ψ c args
abbrev leD (a b : PyData) : Prop := PySem.W.dataLe false (id : PyData → PyData) a b = true
theorem leD_trans {a b c : PyData} (h1 : leD a b) (h2 : leD b c) : leD a c := le_tot.trans a b c h1 h2
theorem leD_total (a b : PyData) : leD a b ∨ leD b a := le_tot.total a b
theorem leD_refl (a : PyData) : leD a a := (leD_total a a).elim id id
theorem minD_le : ∀ (xs : List PyData) (x z : PyData), z ∈ x :: xs → leD (PySem.W.minD x xs) z
  | [], x, z, h => by
    have : z = x := by simpa using h
    subst this; exact leD_refl _
  | y :: ys, x, z, h => by
    show leD (PySem.W.minD (if PySem.W.dataLt y x = true then y else x) ys) z
    have hw : ∀ w, leD w x → leD w y → (w = x ∨ w = y) → leD (PySem.W.minD w ys) z := fun w h1 h2 _ => by
      rcases List.mem_cons.mp h with rfl | h
      · exact leD_trans (minD_le ys w w (List.mem_cons_self ..)) h1
      · rcases List.mem_cons.mp h with rfl | h
        · exact leD_trans (minD_le ys w w (List.mem_cons_self ..)) h2
        · exact minD_le ys w z (List.mem_cons_of_mem _ h)
    split
    · rename_i c
      refine hw y ?_ (leD_refl _) (.inr rfl)
      rcases leD_total y x with q | q
      · exact q
      · have : (!PySem.W.dataLt y x) = true := q
        rw [c] at this; cases this
    · rename_i c
      refine hw x (leD_refl _) ?_ (.inl rfl)
      show (!PySem.W.dataLt y x) = true
      simpa using c
def turL (n : Int) (cs : List (Int × Int)) : List PyData := (List.range n.toNat).map fun (i : Nat) => plD n (tuL n i cs)
def leastD (n : Int) (cs : List (Int × Int)) : PyData := match turL n cs with
  | x :: xs => PySem.W.minD x xs
  | [] => .none
section
variable {n m : Int} {cs ds : List (Int × Int)} {K : KD} {E : KX}
theorem tuL_mod (k : Int) : tuL n (k % n) cs = tuL n k cs := by
  unfold tuL
  congr 1
  refine List.map_congr_left fun p hp => ?_
  unfold tuP
  rw [Int.add_emod_emod, Int.add_emod_emod]
theorem tuL_add (hp : IsPlan n cs) (i j : Int) : tuL n j (tuL n i cs) = tuL n (i + j) cs := by
  have h3 := hp.lo
  refine two_maps (g3 := fun x => (x + (i + j)) % n) hp (cor_rot h3 i) (cor_rot h3 j) fun x x0 x1 => ?_
  rw [Int.emod_add_emod, Int.add_assoc]
theorem tuL_zero (hp : IsPlan n cs) : tuL n 0 cs = cs := by
  have := turn_n hp
  rw [← tuL_mod, Int.emod_self] at this
  exact this
theorem tur_mem (h0 : 0 < n) {k : Int} : plD n (tuL n k cs) ∈ turL n cs := by
  have k0 := Int.emod_nonneg k (show n ≠ 0 by omega)
  have k1 := Int.emod_lt_of_pos k h0
  refine List.mem_map.mpr ⟨(k % n).toNat, List.mem_range.mpr (by omega), ?_⟩
  show plD n (tuL n (((k % n).toNat : Nat) : Int) cs) = plD n (tuL n k cs)
  rw [Int.toNat_of_nonneg k0, tuL_mod]
theorem least_ok (h0 : 0 < n) : ∃ x xs, turL n cs = x :: xs ∧ leastD n cs = PySem.W.minD x xs := by
  obtain ⟨m, hm⟩ : ∃ m, n.toNat = m + 1 := ⟨n.toNat - 1, by omega⟩
  have : ∃ x xs, turL n cs = x :: xs := by unfold turL; rw [hm, List.range_succ_eq_map]; exact ⟨_, _, rfl⟩
  obtain ⟨x, xs, e⟩ := this
  exact ⟨x, xs, e, by unfold leastD; rw [e]⟩
theorem least_mem (h0 : 0 < n) : ∃ k : Int, leastD n cs = plD n (tuL n k cs) := by
  obtain ⟨x, xs, e, e2⟩ := least_ok (cs := cs) h0
  have := minD_mem xs x
  rw [← e2, ← e] at this
  obtain ⟨i, _, hi⟩ := List.mem_map.mp this
  exact ⟨i, hi.symm⟩
theorem least_le (h0 : 0 < n) (k : Int) : leD (leastD n cs) (plD n (tuL n k cs)) := by
  obtain ⟨x, xs, e, e2⟩ := least_ok (cs := cs) h0
  rw [e2]
  exact minD_le xs x _ (e ▸ tur_mem h0)
theorem le_anti {a b : List (Int × Int)} (h1 : leD (plD n a) (plD n b)) (h2 : leD (plD n b) (plD n a)) : plD n a = plD n b := toks_pl (le_toks h1 h2)
theorem least_turn (hp : IsPlan n cs) (k : Int) : leastD n (tuL n k cs) = leastD n cs := by
  have h0 : 0 < n := by have := hp.lo; omega
  obtain ⟨i, hi⟩ := least_mem (cs := tuL n k cs) h0
  obtain ⟨j, hj⟩ := least_mem (cs := cs) h0
  rw [hi, hj]
  refine le_anti ?_ ?_
  · have := least_le (cs := tuL n k cs) h0 (j - k)
    rw [tuL_add hp, show k + (j - k) = j by omega, hi] at this
    exact this
  · have := least_le (cs := cs) h0 (k + i)
    rw [← tuL_add hp, hj] at this
    exact this
theorem turn_least (hp : IsPlan n cs) (hd : IsPlan n ds) (h : leastD n cs = leastD n ds) : ∃ k : Int, tuL n k cs = ds := by
  have h0 : 0 < n := by have := hp.lo; omega
  obtain ⟨i, hi⟩ := least_mem (cs := cs) h0
  obtain ⟨j, hj⟩ := least_mem (cs := ds) h0
  rw [hi, hj] at h
  have h := (plD_inj h).2
  refine ⟨i - j, ?_⟩
  have e := congrArg (tuL n (0 - j)) h
  rw [tuL_add hp, tuL_add hd, show j + (0 - j) = 0 by omega, tuL_zero hd, show i + (0 - j) = i - j by omega] at e
  exact e
theorem tur_alike (hp : IsPlan n cs) : ∀ x ∈ turL n cs, ∀ y ∈ turL n cs, PySem.W.alike x y = true := fun x hx y hy => by
  obtain ⟨i, _, rfl⟩ := List.mem_map.mp hx
  obtain ⟨j, _, rfl⟩ := List.mem_map.mp hy
  have l1 := (tuL_plan (k := i) hp).len
  have l2 := (tuL_plan (k := j) hp).len
  show (true && (PySem.W.alikeAll ((tuL n i cs).map ppD) ((tuL n j cs).map ppD) && true)) = true
  rw [alike_pps (by omega)]; rfl
theorem i__law_first (hp : IsPlan n cs) (hK : K (leastD n cs)) : f__law_first (plD n cs) K E := by
  have h0 : 0 < n := by have := hp.lo; omega
  have h40 := hp.hi
  have hl : cs.length ≤ 1000 := by have := hp.len; omega
  unfold f__law_first
  rw [p_ix_pl0, q_rng]
  refine ⟨by omega, ?_⟩
  rw [range0]
  have lc : ∀ (L : List Nat) (acc : List PyData) (Q : KL), Q (acc ++ L.map fun (i : Nat) => plD n (tuL n i cs)) → lcM (fun l_many3 kp sk => f__law_turned (plD n cs) l_many3 (fun r5 => kp r5) (fun _ => False)) Q (L.map fun (i : Nat) => PyData.int i) acc := fun L => by
    induction L with
    | nil => intro acc Q h; rw [List.map_nil, List.append_nil] at h; exact h
    | cons a L ih =>
      intro acc Q h
      refine i__law_turned h0 hl ?_
      refine ih _ _ ?_
      rw [List.append_assoc]; exact h
  refine lc _ [] _ ?_
  rw [List.nil_append]
  show sortM (.list (turL n cs)) _
  refine ⟨⟨fun x hx y hy => tur_alike hp x hx y hy, ?_, fun d hd => ?_⟩, ?_⟩
  · refine .inl fun d hd => ?_
    obtain ⟨i, _, rfl⟩ := List.mem_map.mp hd
    exact ⟨_, _, rfl⟩
  · obtain ⟨i, _, rfl⟩ := List.mem_map.mp hd
    exact shp_pl.1
  · have pm := srt_perm' (turL n cs)
    have so := srt_sorted (turL n cs)
    obtain ⟨x, xs, e, e2⟩ := least_ok (cs := cs) h0
    cases hs : srt (turL n cs) with
    | nil => rw [hs, e] at pm; exact absurd pm.length_eq (by simp)
    | cons y ys =>
      rw [hs] at pm so
      have hy : y ∈ turL n cs := pm.mem_iff.mp (List.mem_cons_self ..)
      obtain ⟨i, _, hi⟩ := List.mem_map.mp hy
      obtain ⟨j, hj⟩ := least_mem (cs := cs) h0
      have ey : y = leastD n cs := by
        rw [hj, ← hi]
        refine le_anti ?_ ?_
        · have : plD n (tuL n j cs) ∈ y :: ys := pm.mem_iff.mpr (tur_mem h0)
          rw [hi]
          rcases List.mem_cons.mp this with z | z
          · rw [z]; exact leD_refl _
          · exact (List.pairwise_cons.mp so).1 _ z
        · have := least_le (cs := cs) h0 i
          rw [hj] at this
          exact this
      rw [← ey] at hK
      show ixM (.list (y :: ys)) (.int 0) _
      have : ∀ Q : KD, ixM (.list (y :: ys)) (.int 0) Q = Q y := fun Q => by
        show (match atI (y :: ys) 0 with | some y => Q y | none => False) = _
        rw [at_nat (Int.le_refl 0) (show (y :: ys)[(0 : Int).toNat]? = some y from rfl)]
      rw [this]
      exact hK
end
end Tx
namespace Tx
open PySem PySem.Spec PyProof.Rows L2 TL
@[irreducible] def f_unlike (faces : PyData) (K : KD) (E : KX) : Prop :=
  f_need_faces faces (fun r1 =>
  subM faces (.int 1) fun r2 =>
  f_ways_row r2 (fun r3 =>
  subM faces (.int 1) fun r4 =>
  ixM (.list r3) r4 fun r5 =>
  joinM (fun (Q : PyData → Prop) => modM faces (.int 2) fun r6 =>
  eqM r6 (.int 0) fun b7 =>
  (b7 = true → (intO r5 fun u11 =>
  divM faces (.int 2) fun r14 =>
  divM faces (.int 2) fun r15 =>
  ixM (.list r3) r15 fun r16 =>
  mulM r14 r16 fun r17 =>
  intO r17 fun m12 =>
  Q (.int (u11 + m12)))) ∧ (b7 = false → (Q r5))) (fun found18 =>
  joinM (fun (Q : PyData → Prop) => modM faces (.int 3) fun r19 =>
  eqM r19 (.int 0) fun b20 =>
  (b20 = true → (intO found18 fun u24 =>
  divM faces (.int 3) fun r27 =>
  mulM (.int 2) r27 fun r28 =>
  divM faces (.int 3) fun r29 =>
  ixM (.list r3) r29 fun r30 =>
  mulM r28 r30 fun r31 =>
  intO r31 fun m25 =>
  Q (.int (u24 + m25)))) ∧ (b20 = false → (Q found18))) (fun found32 =>
  divM found32 faces fun r33 =>
  K r33))) E) E
def c_unlike : CT := fun args Φ Ψ => ∃ (faces : PyData) (K : KD) (E : KX), args = [.d faces] ∧ f_unlike faces K E ∧ (∀ r, K r → Φ (.rd r) args) ∧ ∀ c, E c → Ψ c args
@[irreducible] def f_law_k09 (script : PyData) (K : KD) (E : KX) : Prop :=
  f__law_pull (.int 7) (fun r1 =>
  addM (.int 3) r1 fun r2 =>
  f__law_every_plan r2 (fun r7 =>
  itM (.list r7) fun xs6 =>
  forM (fun l_plan69 l_forms72 N70 B71 => f__law_first l_plan69 (fun r76 =>
  ixM r76 (.int 1) fun r77 =>
  putNM l_forms72 r77 (.bool true) fun kv78 =>
  N70 kv78) E) (fun l_forms8 =>
  f_unlike r2 (fun r12 =>
  f__law_alike r12 (.int ((l_forms8.length : Nat) : Int)) (fun r13 =>
  boolM r13 fun b14 =>
  ((!b14) = true → (K (.bool false))) ∧ ((!b14) = false → (f__law_ways (.int 38) (fun r18 =>
  rngM (.int 0) (.int 6) fun xs19 =>
  forM (fun l_turn23 (_ : Unit) N24 B25 => f__law_pull (.int 38) (fun r29 =>
  addM (.int 3) r29 fun r30 =>
  subM r30 (.int 2) fun r31 =>
  ixM (.list r18) r31 fun r32 =>
  joinM (fun (Q : PyData → Prop) => modM r30 (.int 2) fun r33 =>
  eqM r33 (.int 0) fun b34 =>
  (b34 = true → (intO r32 fun u38 =>
  divM r30 (.int 2) fun r41 =>
  divM r30 (.int 2) fun r42 =>
  subM r42 (.int 1) fun r43 =>
  ixM (.list r18) r43 fun r44 =>
  mulM r41 r44 fun r45 =>
  intO r45 fun m39 =>
  Q (.int (u38 + m39)))) ∧ (b34 = false → (Q r32))) (fun l_whole_here46 =>
  joinM (fun (Q : PyData → Prop) => modM r30 (.int 3) fun r47 =>
  eqM r47 (.int 0) fun b48 =>
  (b48 = true → (intO l_whole_here46 fun u52 =>
  mulM (.int 2) r30 fun r55 =>
  divM r55 (.int 3) fun r56 =>
  divM r30 (.int 3) fun r57 =>
  subM r57 (.int 1) fun r58 =>
  ixM (.list r18) r58 fun r59 =>
  mulM r56 r59 fun r60 =>
  intO r60 fun m53 =>
  Q (.int (u52 + m53)))) ∧ (b48 = false → (Q l_whole_here46))) (fun l_whole_here61 =>
  f_unlike r30 (fun r62 =>
  mulM r62 r30 fun r63 =>
  f__law_alike r63 l_whole_here61 (fun r64 =>
  boolM r64 fun b65 =>
  ((!b65) = true → (K (.bool false))) ∧ ((!b65) = false → (N24 ()))) E) E))) E) (fun (_ : Unit) =>
  K (.bool true)) xs19 ()) E))) E) E) xs6 []) E) E
def un2n (n : Int) : Int := cc (n - 1).toNat + (if n % 2 = 0 then n / 2 * cc (n / 2).toNat else 0)
def un3n (n : Int) : Int := un2n n + (if n % 3 = 0 then 2 * (n / 3) * cc (n / 3).toNat else 0)
def whL (n : Int) : Int := un2n n + (if n % 3 = 0 then 2 * n / 3 * cc (n / 3).toNat else 0)
def unl (n : Int) : Int := un3n n / n
theorem unl_mul : ∀ m < 41, 3 ≤ m → unl (m : Nat) * (m : Nat) = whL (m : Nat) ∧ (unl (m : Nat)).natAbs < 2 ^ 80 := by decide +kernel
section
variable {n : Int} {cs ds : List (Int × Int)} {K : KD} {E : KX}
theorem cw_half {a : Int} {i : Nat} (h0 : 0 ≤ a) (h : a < 64) (hi : i < 42) : CMul a (cc i) ∨ CMulW a (cc i) := .inr (wide_mul (a := 6) (b := 80) (by show a.natAbs < 64; omega) (cc_lt i hi) (by decide) (by decide) (by decide))
theorem e_unlike (h1 : 3 ≤ n) (h2 : n ≤ 40) (hK : K (.int (unl n))) : f_unlike (.int n) K E := by
  have w2 : CDivW n 2 := wide_div (b := 2) (by decide) (by decide) (by decide) (by decide)
  have w3 : CDivW n 3 := wide_div (b := 2) (by decide) (by decide) (by decide) (by decide)
  unfold f_unlike
  rw [e_need_faces, decide_eq_true h1, decide_eq_true h2]
  rw [Bool.and_true, cond_true, q_sub]
  obtain ⟨m, hm⟩ : ∃ m : Nat, n - 1 = (m : Int) := ⟨(n - 1).toNat, by omega⟩
  rw [hm]
  refine i_ways_row (by omega) (by omega) ?_
  rw [q_sub, hm, q_ix_rg (by omega) (by omega)]
  show joinM _ _
  have st3 : ∀ u : Int, u = un2n n → joinM (fun (Q : PyData → Prop) => modM (.int n) (.int 3) fun r19 =>
      eqM r19 (.int 0) fun b20 =>
      (b20 = true → (intO (.int u) fun u24 =>
      divM (.int n) (.int 3) fun r27 =>
      mulM (.int 2) r27 fun r28 =>
      divM (.int n) (.int 3) fun r29 =>
      ixM (.list (rg (m + 1) ccD)) r29 fun r30 =>
      mulM r28 r30 fun r31 =>
      intO r31 fun m25 =>
      Q (.int (u24 + m25)))) ∧ (b20 = false → (Q (.int u)))) (fun found32 =>
      divM found32 (.int n) fun r33 =>
      K r33) := fun u hu => by
    have fin : ∀ v : Int, v = un3n n → divM (.int v) (.int n) fun r33 => K r33 := fun v hv => by
      rw [q_div]
      refine ⟨wide_div (b := 6) (by omega) (by show n.natAbs < 64; omega) (by decide) (by decide), ?_⟩
      rw [hv]; exact hK
    unfold TL.joinM
    dsimp only
    rw [q_mod]
    refine ⟨by decide, ?_⟩
    rw [q_eq_ii]
    refine ⟨fun e => ?_, fun e => ?_⟩
    · have e := of_decide_eq_true e
      rw [q_intO, q_div]
      refine ⟨w3, ?_⟩
      rw [q_mul]
      refine ⟨.inl (.inl (by omega)), ?_⟩
      rw [q_div]
      refine ⟨w3, ?_⟩
      rw [q_ix_rg (by omega) (by omega), q_mul]
      refine ⟨cw_half (by omega) (by omega) (by omega), ?_⟩
      rw [q_intO]
      refine fin _ ?_
      unfold un3n
      rw [if_pos e, hu]
    · have e := of_decide_eq_false e
      refine fin _ ?_
      unfold un3n
      rw [if_neg e, hu, Int.add_zero]
  unfold TL.joinM
  dsimp only
  rw [q_mod]
  refine ⟨by decide, ?_⟩
  rw [q_eq_ii]
  have e0 : (cc (m : Int).toNat) = cc (n - 1).toNat := by rw [hm]
  refine ⟨fun e => ?_, fun e => ?_⟩
  · have e := of_decide_eq_true e
    rw [q_intO, q_div]
    refine ⟨w2, ?_⟩
    rw [q_div]
    refine ⟨w2, ?_⟩
    rw [q_ix_rg (by omega) (by omega), q_mul]
    refine ⟨cw_half (by omega) (by omega) (by omega), ?_⟩
    rw [q_intO]
    refine st3 _ ?_
    unfold un2n
    rw [if_pos e, e0]
  · have e := of_decide_eq_false e
    refine st3 _ ?_
    unfold un2n
    rw [if_neg e, Int.add_zero, e0]
def ixB (p : Int × Int) : Nat := 16 * p.1.toNat + p.2.toNat
def codeL (cs : List (Int × Int)) : Nat := cs.foldr (fun p a => Nat.lor (2 ^ ixB p) a) 0
theorem code_bit (i : Nat) : ∀ cs : List (Int × Int), (codeL cs).testBit i = cs.any fun p => decide (ixB p = i)
  | [] => by simp [codeL]
  | p :: cs => by
    show (2 ^ ixB p ||| codeL cs).testBit i = _
    rw [Nat.testBit_or, code_bit i cs, List.any_cons, Nat.testBit_two_pow]
theorem code_perm {l m : List (Int × Int)} (h : l.Perm m) : codeL l = codeL m := Nat.eq_of_testBit_eq fun i => by
  rw [code_bit, code_bit, Bool.eq_iff_iff, List.any_eq_true, List.any_eq_true]
  constructor
  · rintro ⟨p, hp, e⟩; exact ⟨p, h.mem_iff.mp hp, e⟩
  · rintro ⟨p, hp, e⟩; exact ⟨p, h.mem_iff.mpr hp, e⟩
theorem code_inj {a b : List (Int × Int)} (ha : IsPlan n a) (hb : IsPlan n b) (hn : n ≤ 9) (e : codeL a = codeL b) : a = b := by
  have sub : ∀ {a b : List (Int × Int)}, IsPlan n a → IsPlan n b → codeL a = codeL b → ∀ p ∈ a, p ∈ b := fun {a b} ha hb e p hp => by
    have h1 : (codeL a).testBit (ixB p) = true := by rw [code_bit, List.any_eq_true]; exact ⟨p, hp, decide_eq_true rfl⟩
    rw [e, code_bit, List.any_eq_true] at h1
    obtain ⟨q, hq, eq⟩ := h1
    have eq := of_decide_eq_true eq
    have c1 := ha.cut p hp
    have c2 := hb.cut q hq
    unfold ixB at eq
    have e1 : q.1 = p.1 := by omega
    have e2 : q.2 = p.2 := by omega
    rw [show p = q from Prod.ext e1.symm e2.symm]; exact hq
  have nd : ∀ {a : List (Int × Int)}, IsPlan n a → a.Nodup := fun ha => ha.srt.imp fun {p q} h e => by
    subst e
    unfold ltPP at h
    simp at h
  exact pp_unique ((List.perm_ext_iff_of_nodup (nd ha) (nd hb)).mpr fun p => ⟨sub ha hb e p, sub hb ha e.symm p⟩) ha.srt hb.srt
def minL : List Nat → Nat
  | [] => 0
  | [a] => a
  | a :: r => Nat.min a (minL r)
theorem minL_cons (a b : Nat) (r : List Nat) : minL (a :: b :: r) = Nat.min a (minL (b :: r)) := rfl
theorem minL_mem : ∀ (l : List Nat), l ≠ [] → minL l ∈ l
  | [], h => absurd rfl h
  | [a], _ => List.mem_cons_self ..
  | a :: b :: r, _ => by
    rw [minL_cons]
    have := minL_mem (b :: r) (by simp)
    rcases Nat.le_total a (minL (b :: r)) with h | h
    · rw [show Nat.min a (minL (b :: r)) = a from Nat.min_eq_left h]; exact List.mem_cons_self ..
    · rw [show Nat.min a (minL (b :: r)) = minL (b :: r) from Nat.min_eq_right h]; exact List.mem_cons_of_mem _ this
theorem minL_le : ∀ (l : List Nat), ∀ x ∈ l, minL l ≤ x
  | [], _, h => by cases h
  | [a], x, h => by rw [List.mem_singleton.mp h]; exact Nat.le_refl _
  | a :: b :: r, x, h => by
    rw [minL_cons]
    rcases List.mem_cons.mp h with rfl | h
    · exact Nat.min_le_left ..
    · exact Nat.le_trans (Nat.min_le_right ..) (minL_le (b :: r) x h)
def cminL (n : Int) (cs : List (Int × Int)) : Nat := minL ((List.range n.toNat).map fun (k : Nat) => codeL (cs.map (tuP n k)))
theorem cmin_mem (hp : IsPlan n cs) : ∃ k : Int, cminL n cs = codeL (tuL n k cs) := by
  have h0 := hp.lo
  have := minL_mem ((List.range n.toNat).map fun (k : Nat) => codeL (cs.map (tuP n k))) (fun e => by
    have := congrArg List.length e
    rw [List.length_map, List.length_range] at this
    simp at this; omega)
  obtain ⟨k, _, hk⟩ := List.mem_map.mp this
  exact ⟨k, hk.symm.trans (code_perm (sortPP_perm _).symm)⟩
theorem cmin_le (hp : IsPlan n cs) (k : Int) : cminL n cs ≤ codeL (tuL n k cs) := by
  have h0 : 0 < n := by have := hp.lo; omega
  have k0 := Int.emod_nonneg k (show n ≠ 0 by omega)
  have k1 := Int.emod_lt_of_pos k h0
  refine minL_le _ _ (List.mem_map.mpr ⟨(k % n).toNat, List.mem_range.mpr (by omega), ?_⟩)
  show codeL (cs.map (tuP n (((k % n).toNat : Nat) : Int))) = _
  rw [Int.toNat_of_nonneg k0, ← tuL_mod]
  exact code_perm (sortPP_perm _).symm
theorem cmin_turn (hp : IsPlan n cs) (k : Int) : cminL n (tuL n k cs) = cminL n cs := by
  have hq := tuL_plan (k := k) hp
  obtain ⟨i, hi⟩ := cmin_mem hq
  obtain ⟨j, hj⟩ := cmin_mem hp
  refine Nat.le_antisymm ?_ ?_
  · rw [hj]
    have := cmin_le hq (j - k)
    rw [tuL_add hp, show k + (j - k) = j by omega] at this
    exact this
  · rw [hi, tuL_add hp]
    exact cmin_le hp _
theorem cmin_iff (hp : IsPlan n cs) (hd : IsPlan n ds) (hn : n ≤ 9) : cminL n cs = cminL n ds ↔ leastD n cs = leastD n ds := by
  constructor
  · intro h
    obtain ⟨i, hi⟩ := cmin_mem hp
    obtain ⟨j, hj⟩ := cmin_mem hd
    rw [hi, hj] at h
    have e := code_inj (tuL_plan hp) (tuL_plan hd) hn h
    rw [← least_turn hp i, ← least_turn hd j, e]
  · intro h
    obtain ⟨k, hk⟩ := turn_least hp hd h
    rw [← hk, cmin_turn hp]
def insN (a : Nat) (l : List Nat) : List Nat := if l.any (Nat.beq a) then l else l ++ [a]
def disN (l : List Nat) : List Nat := l.foldl (fun acc a => insN a acc) []
def cntN (n : Int) : Nat := (disN ((wr (n - 1).toNat 1).map fun l => cminL n ((l.filter wide).map (nrm n)))).length
theorem ctn3 : cntN 3 = 1 := by decide +kernel
theorem ctn4 : cntN 4 = 1 := by decide +kernel
theorem ctn5 : cntN 5 = 1 := by decide +kernel
theorem ctn6 : cntN 6 = 4 := by decide +kernel
theorem ctn7 : cntN 7 = 6 := by decide +kernel
theorem ctn8 : cntN 8 = 19 := by decide +kernel
theorem ctn9 : cntN 9 = 49 := by decide +kernel
theorem cnt_unl (h1 : 3 ≤ n) (h2 : n ≤ 9) : ((cntN n : Nat) : Int) = unl n := by
  have : n = 3 ∨ n = 4 ∨ n = 5 ∨ n = 6 ∨ n = 7 ∨ n = 8 ∨ n = 9 := by omega
  rcases this with rfl | rfl | rfl | rfl | rfl | rfl | rfl
  · rw [ctn3]; decide +kernel
  · rw [ctn4]; decide +kernel
  · rw [ctn5]; decide +kernel
  · rw [ctn6]; decide +kernel
  · rw [ctn7]; decide +kernel
  · rw [ctn8]; decide +kernel
  · rw [ctn9]; decide +kernel
/-- a dict of keys grows as the row of numbers does -/
theorem dis_dict {α : Type} (kf : α → NestedKey) (cf : α → Nat) : ∀ (L : List α) (R : List α) (D : List (NestedKey × PyData)) (A : List Nat), (∀ x ∈ L ++ R, ∀ y ∈ L ++ R, kf x = kf y ↔ cf x = cf y) → D.map (·.1) = R.map kf → A = R.map cf →
    (L.foldl (fun D x => putP D (kf x) (.bool true)) D).length = ((L.map cf).foldl (fun acc a => insN a acc) A).length
  | [], R, D, A, h, h1, h2 => by
    show D.length = A.length
    rw [h2, List.length_map, ← List.length_map (f := kf), ← h1, List.length_map]
  | x :: L, R, D, A, h, h1, h2 => by
    show (L.foldl _ (putP D (kf x) (.bool true))).length = ((L.map cf).foldl _ (insN (cf x) A)).length
    have hx : x ∈ (x :: L) ++ R := List.mem_cons_self ..
    have e : (D.any fun kv => decide (kv.1 = kf x)) = A.any (Nat.beq (cf x)) := by
      rw [Bool.eq_iff_iff, List.any_eq_true, List.any_eq_true]
      constructor
      · rintro ⟨kv, hkv, e⟩
        have e := of_decide_eq_true e
        have m : kv.1 ∈ R.map kf := h1 ▸ List.mem_map.mpr ⟨kv, hkv, rfl⟩
        obtain ⟨r, hr, er⟩ := List.mem_map.mp m
        have := (h r (List.mem_append_right _ hr) x hx).mp (er.trans e)
        exact ⟨cf r, by rw [h2]; exact List.mem_map.mpr ⟨r, hr, rfl⟩, by rw [this]; exact Nat.beq_refl _⟩
      · rintro ⟨a, ha, e⟩
        have e := Nat.eq_of_beq_eq_true e
        rw [h2] at ha
        obtain ⟨r, hr, er⟩ := List.mem_map.mp ha
        have := (h r (List.mem_append_right _ hr) x hx).mpr (er.trans e.symm)
        have m : kf r ∈ D.map (·.1) := h1 ▸ List.mem_map.mpr ⟨r, hr, rfl⟩
        obtain ⟨kv, hkv, ekv⟩ := List.mem_map.mp m
        exact ⟨kv, hkv, decide_eq_true (ekv.trans this)⟩
    unfold putP insN
    rw [e]
    by_cases c : A.any (Nat.beq (cf x)) = true
    · rw [if_pos c, if_pos c]
      refine dis_dict kf cf L R _ A (fun a ha b hb => h a (List.mem_cons_of_mem _ ha) b (List.mem_cons_of_mem _ hb)) ?_ h2
      rw [List.map_map, ← h1]
      refine List.map_congr_left fun kv _ => ?_
      show (if kv.1 = kf x then (kv.1, _) else kv).1 = kv.1
      split <;> rfl
    · rw [if_neg c, if_neg c]
      refine dis_dict kf cf L (R ++ [x]) _ _ (fun a ha b hb => ?_) (by rw [List.map_append, List.map_append, h1]; rfl) (by rw [h2, List.map_append]; rfl)
      have mv : ∀ a, a ∈ L ++ (R ++ [x]) → a ∈ (x :: L) ++ R := fun a ha => by
        rcases List.mem_append.mp ha with ha | ha
        · exact List.mem_append_left _ (List.mem_cons_of_mem _ ha)
        · rcases List.mem_append.mp ha with ha | ha
          · exact List.mem_append_right _ ha
          · rw [List.mem_singleton.mp ha]; exact hx
      exact h a (mv a ha) b (mv b hb)
def nkP (p : Int × Int) : NestedKey := .tup [.num p.1, .num p.2]
theorem nkL_pp : ∀ cs : List (Int × Int), nkL nk2 (cs.map ppD) = some (cs.map nkP)
  | [] => rfl
  | p :: cs => by
    show (match nk2 (ppD p), nkL nk2 (cs.map ppD) with | some k, some l => some (k :: l) | _, _ => none) = _
    rw [nkL_pp cs]; rfl
theorem noStart_pp (cs : List (Int × Int)) : noStart (cs.map ppD) = true := by cases cs <;> rfl
theorem keyN_pp (cs : List (Int × Int)) : keyN (.tuple (cs.map ppD)) = some (.tup (cs.map nkP)) := by
  show nkT nk2 (cs.map ppD) = _
  unfold nkT
  rw [noStart_pp, nkL_pp]; rfl
theorem nkP_inj : ∀ {a b : List (Int × Int)}, a.map nkP = b.map nkP → a = b
  | [], [], _ => rfl
  | [], _ :: _, e => by simp at e
  | _ :: _, [], e => by simp at e
  | p :: a, q :: b, e => by
    rw [List.map_cons, List.map_cons] at e
    injection e with e1 e2
    unfold nkP at e1
    injection e1 with e1
    injection e1 with e3 e4
    injection e4 with e4 _
    injection e3 with e3
    injection e4 with e4
    rw [nkP_inj e2, show p = q from Prod.ext e3 e4]
/-- the cuts of the first form -/
noncomputable def leastC (n : Int) (cs : List (Int × Int)) : List (Int × Int) := if h : 0 < n then tuL n (least_mem (cs := cs) h).choose cs else []
theorem leastC_ok (h0 : 0 < n) : leastD n cs = plD n (leastC n cs) := by
  unfold leastC
  rw [dif_pos h0]
  exact (least_mem h0).choose_spec
theorem q_putN {kvs : List (NestedKey × PyData)} {v : PyData} {Q : List (NestedKey × PyData) → Prop} : putNM kvs (.tuple (cs.map ppD)) v Q = (kvs.length < sizeLine ∧ Q (putP kvs (.tup (cs.map nkP)) v)) := by
  unfold putNM
  rw [keyN_pp]
end
theorem e_law_k09 (ns : List Int) (h : ns.length ≤ 63) : f_law_k09 (.list (ns.map .int)) (fun r => r = .bool true) (fun _ => False) := by
  have hsl := sizeLine_eq
  unfold f_law_k09
  rw [e__law_pull (by decide) (by decide)]
  intro r r0 r1
  rw [q_add_ii]
  generalize hn : 3 + r = n
  have h3 : 3 ≤ n := by omega
  have h9 : n ≤ 9 := by omega
  refine e__law_every_plan (by omega) (by omega) ?_
  have h1 : 1 ≤ (n - 1).toNat := by omega
  have hw := wr_allT (n - 1).toNat h1 1
  have hall : ∀ l ∈ wr (n - 1).toNat 1, IsPlan n (planOf n l) := fun l hl => by
    rw [hw] at hl
    obtain ⟨t, ht, rfl⟩ := List.mem_map.mp hl
    have hs := (mem_allT _ h1 t).mp ht
    rw [planP t h3 (by omega) (by omega)]
    exact plT_ok h3 (by omega) (by omega)
  have hlen : (wr (n - 1).toNat 1).length ≤ 5000 := by
    have := wr_len (n - 1).toNat (by omega) (by omega) 1
    have := cc_small (n - 1).toNat (by omega)
    omega
  generalize hL : wr (n - 1).toNat 1 = L at hall hlen
  rw [q_it_l]
  refine forM_inv L (fun l => plD n (planOf n l)) (fun i D => D = (L.take i).foldl (fun D l => putP D (.tup ((leastC n (planOf n l)).map nkP)) (.bool true)) [] ∧ D.length ≤ i) (fun i l hl D ⟨hD, hs⟩ N hN => ?_) (fun D ⟨hD, hs⟩ => ?_) _ ⟨rfl, Nat.le_refl _⟩
  · have hi := (List.getElem?_eq_some_iff.mp hl).1
    have hp := hall l (List.mem_of_getElem? hl)
    refine i__law_first hp ?_
    rw [leastC_ok (by omega), p_ix_pl1, q_putN]
    refine ⟨by omega, hN _ ⟨?_, ?_⟩⟩
    · rw [List.take_succ, hl, List.foldl_append, ← hD]; rfl
    · have := putP_len (kvs := D) (k := .tup ((leastC n (planOf n l)).map nkP)) (d := .bool true)
      omega
  · rw [List.take_length] at hD
    refine e_unlike h3 (by omega) ?_
    have hd := dis_dict (fun l => NestedKey.tup ((leastC n (planOf n l)).map nkP)) (fun l => cminL n ((l.filter wide).map (nrm n))) L [] [] [] (fun x hx y hy => ?_) rfl rfl
    · rw [show L.foldl (fun D x => putP D ((fun l => NestedKey.tup ((leastC n (planOf n l)).map nkP)) x) (.bool true)) [] = D from hD.symm] at hd
      have e : (D.length : Int) = unl n := by
        rw [hd, ← cnt_unl h3 h9]
        unfold cntN disN
        rw [hL]
      rw [e, e__law_alike (by rfl), q_bool]
      refine ⟨fun z => (by cases z), fun _ => ?_⟩
      rw [show (PyData.int 38) = .int ((38 : Nat) : Int) from rfl, e__law_ways (by decide), q_rng]
      refine ⟨by decide, ?_⟩
      rw [range0]
      refine forM_inv (List.range (6 : Int).toNat) (fun (i : Nat) => PyData.int i) (fun _ _ => True) (fun i a ha u hu N hN => ?_) (fun u hu => rfl) _ trivial
      rw [e__law_pull (by decide) (by decide)]
      intro s s0 s1
      rw [q_add_ii, q_sub]
      generalize hm : 3 + s = m
      have m3 : 3 ≤ m := by omega
      have m40 : m ≤ 40 := by omega
      have w2 : CDivW m 2 := wide_div (b := 2) (by decide) (by decide) (by decide) (by decide)
      have w3 : ∀ x : Int, CDivW x 3 := fun x => wide_div (b := 2) (by decide) (by decide) (by decide) (by decide)
      rw [q_ix_rg (by omega) (by omega)]
      have fin : ∀ v : Int, v = whL m → f_unlike (.int m) (fun r62 => mulM r62 (.int m) fun r63 => f__law_alike r63 (.int v) (fun r64 => boolM r64 fun b65 => ((!b65) = true → ((fun r => r = PyData.bool true) (.bool false))) ∧ ((!b65) = false → (N ()))) (fun _ => False)) (fun _ => False) := fun v hv => by
        refine e_unlike m3 m40 ?_
        obtain ⟨k, rfl⟩ : ∃ k : Nat, m = k := ⟨m.toNat, by omega⟩
        obtain ⟨u1, u2⟩ := unl_mul k (by omega) (by omega)
        rw [q_mul]
        refine ⟨.inr (wide_mul (a := 80) (b := 6) u2 (by show ((k : Nat) : Int).natAbs < 64; omega) (by decide) (by decide) (by decide)), ?_⟩
        rw [u1, hv, e__law_alike (by rfl), q_bool]
        exact ⟨fun z => (by cases z), fun _ => hN _ trivial⟩
      have st3 : ∀ u : Int, u = un2n m → joinM (fun (Q : PyData → Prop) => modM (.int m) (.int 3) fun r47 =>
          eqM r47 (.int 0) fun b48 =>
          (b48 = true → (intO (.int u) fun u52 =>
          mulM (.int 2) (.int m) fun r55 =>
          divM r55 (.int 3) fun r56 =>
          divM (.int m) (.int 3) fun r57 =>
          subM r57 (.int 1) fun r58 =>
          ixM (.list (rg (38 + 1) fun i => ccD (i + 1))) r58 fun r59 =>
          mulM r56 r59 fun r60 =>
          intO r60 fun m53 =>
          Q (.int (u52 + m53)))) ∧ (b48 = false → (Q (.int u)))) (fun l_whole_here61 =>
          f_unlike (.int m) (fun r62 => mulM r62 (.int m) fun r63 => f__law_alike r63 l_whole_here61 (fun r64 => boolM r64 fun b65 => ((!b65) = true → ((fun r => r = PyData.bool true) (.bool false))) ∧ ((!b65) = false → (N ()))) (fun _ => False)) (fun _ => False)) := fun u hu => by
        unfold TL.joinM
        dsimp only
        rw [q_mod]
        refine ⟨by decide, ?_⟩
        rw [q_eq_ii]
        refine ⟨fun e => ?_, fun e => ?_⟩
        · have e := of_decide_eq_true e
          rw [q_intO, q_mul]
          refine ⟨.inl (.inl (by omega)), ?_⟩
          rw [q_div]
          refine ⟨w3 _, ?_⟩
          rw [q_div]
          refine ⟨w3 _, ?_⟩
          rw [q_sub, q_ix_rg (by omega) (by omega), q_mul]
          refine ⟨cw_half (by omega) (by omega) (by omega), ?_⟩
          rw [q_intO]
          refine fin _ ?_
          unfold whL
          rw [if_pos e, hu, show (m / 3 - 1).toNat + 1 = (m / 3).toNat by omega]
        · have e := of_decide_eq_false e
          refine fin _ ?_
          unfold whL
          rw [if_neg e, hu, Int.add_zero]
      unfold TL.joinM
      dsimp only
      rw [q_mod]
      refine ⟨by decide, ?_⟩
      rw [q_eq_ii]
      have e0 : (m - 2).toNat + 1 = (m - 1).toNat := by omega
      refine ⟨fun e => ?_, fun e => ?_⟩
      · have e := of_decide_eq_true e
        show intO (.int (cc ((m - 2).toNat + 1))) _
        rw [q_intO, q_div]
        refine ⟨w2, ?_⟩
        rw [q_div]
        refine ⟨w2, ?_⟩
        rw [q_sub, q_ix_rg (by omega) (by omega), q_mul]
        refine ⟨cw_half (by omega) (by omega) (by omega), ?_⟩
        rw [q_intO]
        refine st3 _ ?_
        unfold un2n
        rw [if_pos e, e0, show (m / 2 - 1).toNat + 1 = (m / 2).toNat by omega]
      · have e := of_decide_eq_false e
        refine st3 _ ?_
        unfold un2n
        rw [if_neg e, Int.add_zero, e0]
    · have hx : x ∈ L := by simpa using hx
      have hy : y ∈ L := by simpa using hy
      have px := hall x hx
      have py := hall y hy
      have cc1 : ∀ z, z ∈ L → cminL n ((z.filter wide).map (nrm n)) = cminL n (planOf n z) := fun z hz => by
        unfold cminL
        congr 1
        refine List.map_congr_left fun k _ => ?_
        exact code_perm ((sortPP_perm _).symm.map _)
      show _ ↔ cminL n ((x.filter wide).map (nrm n)) = cminL n ((y.filter wide).map (nrm n))
      rw [cc1 x hx, cc1 y hy, cmin_iff px py h9, leastC_ok (by omega), leastC_ok (by omega)]
      constructor
      · intro e
        injection e with e
        rw [nkP_inj e]
      · intro e
        have := (plD_inj e).2
        show NestedKey.tup _ = NestedKey.tup _
        rw [this]
end Tx
namespace Tx
open PySem PySem.Spec PyProof.Rows L2 TL
section
variable {P : Program} {w : World} {K : PySem.W.Frag} {mg : Str → Option Value} {base : Heap} {f : Addr} {fd : FuncData} {k : Nat}
abbrev FnP (K : PySem.W.Frag) (x : Str) (st : Stmt) (f : Addr) (fd : FuncData) : Prop := FunD K x x (defArgs st) (defBody st) (defScope st) [] [] f fd
theorem ok_o__law_bag (F : FnP K "_law_bag" s__law_bag f fd) (hm : mg "_law_bag" = some (.ref f)) (hb : Binds K fd ["_law_script"] []) (m_len : mg "len" = none) (m_abs : mg "abs" = none) (m_int : mg "int" = none) :
    Has P w K mg base (k + 1) "_law_bag" ["_law_script"] o__law_bag := by
  refine fn_has F hm sc__law_bag hb rfl ?_
  rintro cdv A outer s H E g args Φ Ψ hr hp hM hl ⟨ns, rfl, hn, hΦ⟩
  have hcut : cut (ns.map PyData.int) none (some 63) = ns.map .int := cut_le _ _ (by decide) (by simp; omega)
  refine ws_cons (w1_setLc 1 (own := [("_law_one", 2)]) rfl sc__law_bag.nd (pi_list (peI _)) (blkOk_by (by rfl)) (fun _ _ _ _ _ => (pg_name (i := 2) sc__law_bag.nd rfl (by first | exact Or.inl rfl | exact Or.inr rfl))) (by decide) (nt_lcL (tgd_name 2) rfl ?_))
  refine we_of_wn ?_
  refine wn_sliceL ?_
  refine we_n 0 ?_
  refine ⟨_, rfl, ?_⟩
  refine wp_none ?_
  refine wp_e ?_
  refine we_int ?_
  refine ⟨_, rfl, ?_⟩
  refine ⟨rfl, _, fun i acc => acc = (ns.take i).map fun c => .int (absI c), rfl, rfl, fun i x hx => ⟨_, rfl, rfl, ?_⟩, fun acc ha => ?_⟩
  · intro acc ha g1 s1 H1 C1 cl1 fp1
    rw [hcut] at hx
    obtain ⟨n, rfl, hn2⟩ := ints_get hx
    refine ⟨fun _ s1 H1 C1 cl1 fp1 => ?_, fun z => by cases z⟩
    refine we_abs m_abs ?_
    refine we_n 2 ?_
    refine ⟨_, rfl, ?_⟩
    refine ⟨rfl, ?_⟩
    subst ha
    exact tk_succ (fun c => .int (absI c)) hn2
  · subst ha
    rw [hcut, List.length_map, List.take_length]
    have em : (ns.map fun c => PyData.int (absI c)) = (ns.map absI).map .int := by simp
    rw [em]
    refine ws_cons (w1_set 3 sc__law_bag.nd ?_)
    refine we_add ?_
    refine we_int ?_
    refine we_len m_len ?_
    refine we_n 1 ?_
    refine .lst ?_
    refine .int ?_
    refine ⟨rfl, ?_⟩
    refine ws_cons (w1_forL hp rfl (pg_name (i := 2) sc__law_bag.nd rfl (by first | exact Or.inl rfl | exact Or.inr rfl)) (tgd_name 2) ?_)
    refine we_of_wn ?_
    refine wn_sliceL ?_
    refine we_n 0 ?_
    refine ⟨_, rfl, ?_⟩
    refine wp_none ?_
    refine wp_e ?_
    refine we_int ?_
    refine ⟨_, rfl, ?_⟩
    refine ⟨rfl, _, fun i e => ∃ (x : Sl) (t : Int), 0 ≤ t ∧ t < 2147483629 ∧ e = [.d (.list (ns.map .int)), .d (.list ((ns.map absI).map .int)), x, .d (.int t)], rfl, ⟨.un, _, ?_, ?_, rfl⟩, ?_, ?_⟩
    · omega
    · simp; omega
    · rintro i x hx _ ⟨x2, t, t0, t1, rfl⟩
      rw [hcut] at hx
      obtain ⟨n, rfl, hn2⟩ := ints_get hx
      refine ⟨_, rfl, rfl, ?_⟩
      refine ws_cons (w1_set 3 sc__law_bag.nd ?_)
      refine we_mod ?_
      refine we_add ?_
      refine we_add ?_
      refine we_mul ?_
      refine we_n 3 ?_
      refine we_int ?_
      refine ⟨?_, by unfold L2.CMul; omega⟩
      refine we_abs m_abs ?_
      refine we_n 2 ?_
      refine ⟨_, rfl, ?_⟩
      refine .int ?_
      refine we_mul ?_
      refine we_int ?_
      refine we_intof m_int ?_
      refine we_cp (op_ltA hr) ?_
      refine we_n 2 ?_
      refine we_int ?_
      refine ⟨_, cp_lt, ?_⟩
      refine .bool ?_
      refine ⟨?_, by unfold L2.CMul; omega⟩
      refine .int ?_
      refine we_int ?_
      refine ⟨?_, by decide⟩
      refine ⟨rfl, ?_⟩
      refine ws_nil ?_
      exact ⟨_, _, Int.emod_nonneg _ (by decide), Int.emod_lt_of_pos _ (by decide), rfl⟩
    · rintro _ ⟨x2, t, t0, t1, rfl⟩
      refine ws_cons (w1_retN ?_)
      refine wn_list ?_
      refine wa_d ?_
      refine we_n 1 ?_
      refine ⟨rfl, ?_⟩
      refine wa_d ?_
      refine we_int ?_
      refine ⟨rfl, ?_⟩
      refine wa_d ?_
      refine we_int ?_
      refine ⟨rfl, ?_⟩
      refine wa_d ?_
      refine we_n 3 ?_
      refine ⟨rfl, ?_⟩
      refine wa_nil ?_
      refine ⟨_, rfl, szOk rfl, ?_⟩
      refine ⟨_, hΦ _ ⟨ns.map absI, 0, 0, t, rfl, fun c hc => ?_, by decide, by decide, t0, t1⟩, trivial, rfl, rfl⟩
      obtain ⟨z, _, rfl⟩ := List.mem_map.mp hc
      exact absI_nn z
theorem ok__law_pair (F : FnP K "_law_pair" s__law_pair f fd) (hm : mg "_law_pair" = some (.ref f)) (hb : Binds K fd ["_law_one", "_law_other"] []) (m_min : mg "min" = none) (m_max : mg "max" = none) :
    Has P w K mg base (k + 1) "_law_pair" ["_law_one", "_law_other"] c__law_pair := by
  refine fn_has F hm sc__law_pair hb rfl ?_
  rintro cdv A outer s H E g args Φ Ψ hr hp hM hl ⟨l_one, l_other, Kf, Ef, rfl, h, hK, hE⟩
  unfold f__law_pair at h
  refine ws_env (env' := [.d l_one, .d l_other]) rfl ?_
  refine ws_cons (w1_ret ?_)
  refine we_tuple ?_
  refine wa_d ?_
  refine we_min2A m_min rfl ?_
  refine we_n 0 ?_
  refine we_n 1 ?_
  refine min2_m h fun r1 h => ?_
  refine ⟨rfl, ?_⟩
  refine wa_d ?_
  refine we_max2A m_max rfl ?_
  refine we_n 0 ?_
  refine we_n 1 ?_
  refine max2_m h fun r2 h => ?_
  refine ⟨rfl, ?_⟩
  refine wa_nil ?_
  refine ⟨_, rfl, szOk rfl, ?_⟩
  exact ⟨rfl, _, hK _ h, trivial, rfl, rfl, rfl⟩
theorem ok__law_every_plan (F : FnP K "_law_every_plan" s__law_every_plan f fd) (hm : mg "_law_every_plan" = some (.ref f)) (hb : Binds K fd ["_law_faces"] []) (m_range : mg "range" = none) (h__law_pair : Has P w K mg base k "_law_pair" ["_law_one", "_law_other"] c__law_pair) (m_tuple : mg "tuple" = none) (m_sorted : mg "sorted" = none) :
    Has P w K mg base (k + 1) "_law_every_plan" ["_law_faces"] c__law_every_plan := by
  refine fn_has F hm sc__law_every_plan hb rfl ?_
  rintro cdv A outer s H E g args Φ Ψ hr hp hM hl ⟨l_faces, Kf, Ef, rfl, h, hK, hE⟩
  unfold f__law_every_plan at h
  refine ws_env (env' := [.d l_faces, .un, .un, .un, .un, .un, .un, .un, .un, .un, .un, .un, .un]) rfl ?_
  refine ws_cons (w1_newT 1 sc__law_every_plan.nd fun a1 n_a1 => ?_)
  refine ws_env (env' := [.d l_faces, .dt a1 [], .un, .un, .un, .un, .un, .un, .un, .un, .un, .un, .un]) rfl ?_
  refine ws_cons (w1_for hp rfl (pg_name (i := 2) sc__law_every_plan.nd rfl (by first | exact Or.inl rfl | exact Or.inr rfl)) (tgd_name 2) ?_)
  refine wi_r2 m_range ?_
  refine we_int ?_
  refine we_n 0 ?_
  refine rng_sh h fun xs2 h => ?_
  refine forS h (fun (s : (List (List Key × PyData))) (u : Sl × {a : Addr // a ∉ g.M} × Sl × Sl × Sl × Sl × Sl) => [.d l_faces, .dt u.2.1.1 s, u.2.2.2.2.2.2, u.1, u.2.2.1, u.2.2.2.1, u.2.2.2.2.1, u.2.2.2.2.2.1, .un, .un, .un, .un, .un]) ((.un), ⟨a1, n_a1⟩, (.un), (.un), (.un), (.un), (.un)) rfl ?_ ?_
  · rintro l_arcs3 ⟨w4, ⟨a5, n_a5⟩, w6, w7, w8, w9, w10⟩ h
    refine ws_env (env' := [.d l_faces, .dt a5 l_arcs3, w10, w4, w6, w7, w8, w9, .un, .un, .un, .un, .un]) rfl ?_
    refine ws_cons (w1_setN 8 sc__law_every_plan.nd ?_)
    refine wn_list ?_
    refine wa_nil ?_
    refine ⟨_, rfl, szOk rfl, ?_⟩
    intro a11 n_a11
    refine ws_env (env' := [.d l_faces, .dt a5 l_arcs3, w10, w4, w6, w7, w8, w9, .ol a11 [], .un, .un, .un, .un]) rfl ?_
    refine ws_cons (w1_for hp rfl (pg_name (i := 9) sc__law_every_plan.nd rfl (by first | exact Or.inl rfl | exact Or.inr rfl)) (tgd_name 9) ?_)
    refine wi_d ?_
    refine we_getT 1 hr rfl ?_
    refine we_tuple ?_
    refine wa_d ?_
    refine we_int ?_
    refine ⟨rfl, ?_⟩
    refine wa_d ?_
    refine we_n 0 ?_
    refine ⟨rfl, ?_⟩
    refine wa_nil ?_
    refine ⟨_, rfl, szOk rfl, ?_⟩
    refine ⟨rfl, getT_s h fun r13 h => ?_⟩
    refine ⟨rfl, it_sh h fun xs12 h => ?_⟩
    refine forS h (fun (s : (List PyData)) (u : Sl × {a : Addr // a ∉ g.M} × Sl) => [.d l_faces, .dt a5 l_arcs3, w10, w4, w6, w7, w8, w9, .ol u.2.1.1 s, u.2.2, u.1, .un, .un]) ((.un), ⟨a11, n_a11⟩, (.un)) rfl ?_ ?_
    · rintro l_found14 ⟨w15, ⟨a16, n_a16⟩, w17⟩ h
      refine ws_env (env' := [.d l_faces, .dt a5 l_arcs3, w10, w4, w6, w7, w8, w9, .ol a16 l_found14, w17, w15, .un, .un]) rfl ?_
      exact ws_cons (w1_retO 8 rfl n_a16 ⟨_, hK _ h, trivial, rfl, rfl⟩)
    · rintro hend l_row18 l_found21 ⟨w22, ⟨a23, n_a23⟩, w24⟩ N19 h
      refine ⟨[(9, l_row18)], rfl, rfl, ?_⟩
      refine ws_env (env' := [.d l_faces, .dt a5 l_arcs3, w10, w4, w6, w7, w8, w9, .ol a23 l_found21, .d l_row18, w22, .un, .un]) rfl ?_
      refine ws_cons (w1_setLc 10 (own := [("_law_low", 11), ("_law_high", 12)]) rfl sc__law_every_plan.nd piS (blkOk_by (by rfl)) (fun _ _ _ _ _ => (pg_tup rfl (pgs_cons (pg_name (i := 11) sc__law_every_plan.nd rfl (by first | exact Or.inl rfl | exact Or.inr rfl)) (pgs_cons (pg_name (i := 12) sc__law_every_plan.nd rfl (by first | exact Or.inl rfl | exact Or.inr rfl)) pgs_nil)))) (by decide) (nt_lc (tgd_tup (tgds_cons (tgd_name 11) (tgds_cons (tgd_name 12) tgds_nil)) rfl) rfl ?_))
      refine wi_d ?_
      refine we_n 9 ?_
      refine ⟨rfl, it_sh h fun xs25 h => ?_⟩
      refine lcS h (fun p26 kp sk h => ?_) fun l27 h => ?_
      · obtain ⟨l_low28, l_high29, he30, h⟩ := un2_sh h
        refine ⟨[(11, l_low28), (12, l_high29)], (by rw [he30]; rfl), rfl, fun g' s1 H1 C1 cl1 fp1 => ?_⟩
        show WT _ _ _ _ _ _
        refine wt_cp op_gt ?_
        refine we_sub ?_
        refine we_n 12 ?_
        refine we_n 11 ?_
        refine sub_sh h fun r31 h => ?_
        refine we_int ?_
        refine gt_sh h fun b32 h => ?_
        refine ⟨fun e s1 H1 C1 cl1 fp1 => ?_, h.2⟩
        replace h := h.1 e
        refine we_call h__law_pair hr ?_
        refine wa_d ?_
        refine we_n 11 ?_
        refine ⟨rfl, ?_⟩
        refine wa_d ?_
        refine we_mod ?_
        refine we_n 12 ?_
        refine we_n 0 ?_
        refine mod_sh h fun r33 h => ?_
        refine ⟨rfl, ?_⟩
        refine wa_nil ?_
        refine ⟨rfl, _, _, _, _, rfl, h, fun r34 h => ⟨rfl, _, rfl, ?_⟩, fun c hc => ⟨rfl, hc.elim⟩⟩
        exact ⟨rfl, h⟩
      refine ws_env (env' := [.d l_faces, .dt a5 l_arcs3, w10, w4, w6, w7, w8, w9, .ol a23 l_found21, .d l_row18, .d (.list l27), .un, .un]) rfl ?_
      refine ws_cons (w1_append 8 rfl ?_)
      refine we_tuple ?_
      refine wa_d ?_
      refine we_n 0 ?_
      refine ⟨rfl, ?_⟩
      refine wa_d ?_
      refine we_tupof m_tuple ?_
      refine we_of_wn ?_
      refine wn_sortedA m_sorted hr ?_
      refine we_n 10 ?_
      refine sort_m h fun l35 h => ?_
      refine tup_sh h fun r36 h => ?_
      refine ⟨rfl, ?_⟩
      refine wa_nil ?_
      refine ⟨_, rfl, szOk rfl, ?_⟩
      obtain ⟨hl37, h⟩ := h
      refine ⟨rfl, hl37, ?_⟩
      refine ws_env (env' := [.d l_faces, .dt a5 l_arcs3, w10, w4, w6, w7, w8, w9, .ol a23 (l_found21 ++ ([(.tuple [l_faces, r36])] : List PyData)), .d l_row18, .d (.list l27), .un, .un]) rfl ?_
      exact ws_nil ⟨(l_found21 ++ ([(.tuple [l_faces, r36])] : List PyData)), ((.d (.list l27)), ⟨a23, n_a23⟩, (.d l_row18)), h, rfl⟩
  · rintro hend l_wide38 l_arcs41 ⟨w42, ⟨a43, n_a43⟩, w44, w45, w46, w47, w48⟩ N39 h
    refine ⟨[(2, l_wide38)], rfl, rfl, ?_⟩
    refine ws_env (env' := [.d l_faces, .dt a43 l_arcs41, .d l_wide38, w42, w44, w45, w46, w47, .un, .un, .un, .un, .un]) rfl ?_
    refine ws_cons (w1_for hp rfl (pg_name (i := 3) sc__law_every_plan.nd rfl (by first | exact Or.inl rfl | exact Or.inr rfl)) (tgd_name 3) ?_)
    refine wi_r2 m_range ?_
    refine we_int ?_
    refine we_sub ?_
    refine we_add ?_
    refine we_n 0 ?_
    refine we_int ?_
    refine add_sh h fun r50 h => ?_
    refine we_n 2 ?_
    refine sub_sh h fun r51 h => ?_
    refine rng_sh h fun xs49 h => ?_
    refine forS h (fun (s : (List (List Key × PyData))) (u : {a : Addr // a ∉ g.M} × Sl × Sl × Sl × Sl × Sl) => [.d l_faces, .dt u.1.1 s, .d l_wide38, u.2.2.2.2.2, u.2.1, u.2.2.1, u.2.2.2.1, u.2.2.2.2.1, .un, .un, .un, .un, .un]) (⟨a43, n_a43⟩, (w44), (w45), (w46), (w47), (w42)) rfl ?_ ?_
    · rintro l_arcs52 ⟨⟨a53, n_a53⟩, w54, w55, w56, w57, w58⟩ h
      refine ws_env (env' := [.d l_faces, .dt a53 l_arcs52, .d l_wide38, w58, w54, w55, w56, w57, .un, .un, .un, .un, .un]) rfl ?_
      exact ws_nil ⟨l_arcs52, ((w58), ⟨a53, n_a53⟩, (w54), (w55), (w56), (w57), (.d l_wide38)), h, rfl⟩
    · rintro hend l_start59 l_arcs62 ⟨⟨a63, n_a63⟩, w64, w65, w66, w67, w68⟩ N60 h
      refine ⟨[(3, l_start59)], rfl, rfl, ?_⟩
      refine ws_env (env' := [.d l_faces, .dt a63 l_arcs62, .d l_wide38, .d l_start59, w64, w65, w66, w67, .un, .un, .un, .un, .un]) rfl ?_
      refine ws_joinS h (fun (s : (List (List Key × PyData))) (u : {a : Addr // a ∉ g.M} × Sl × Sl × Sl × Sl) => [.d l_faces, .dt u.1.1 s, .d l_wide38, .d l_start59, u.2.1, u.2.2.1, u.2.2.2.1, u.2.2.2.2, .un, .un, .un, .un, .un]) (fun Q h => ?_) ?_
      · refine w1_if ?_
        refine wt_cp (op_eqA hr) ?_
        refine we_n 2 ?_
        refine we_int ?_
        refine eq_sh h fun b69 h => ?_
        obtain ⟨h70, h71⟩ := h
        refine ⟨fun e72 => ?_, fun e72 => ?_⟩
        · replace h := h70 e72
          refine ws_cons (w1_storeTB 1 hr ?_)
          refine we_list ?_
          refine wa_d ?_
          refine we_list ?_
          refine wa_nil ?_
          refine ⟨_, rfl, szOk rfl, ?_⟩
          refine ⟨rfl, ?_⟩
          refine wa_nil ?_
          refine ⟨_, rfl, szOk rfl, ?_⟩
          refine ⟨rfl, ?_⟩
          refine we_tuple ?_
          refine wa_d ?_
          refine we_n 3 ?_
          refine ⟨rfl, ?_⟩
          refine wa_d ?_
          refine we_add ?_
          refine we_n 3 ?_
          refine we_int ?_
          refine add_sh h fun r73 h => ?_
          refine ⟨rfl, ?_⟩
          refine wa_nil ?_
          refine ⟨_, rfl, szOk rfl, ?_⟩
          refine ⟨rfl, putT_m h fun kv74 h => ?_⟩
          refine ws_env (env' := [.d l_faces, .dt a63 kv74, .d l_wide38, .d l_start59, w64, w65, w66, w67, .un, .un, .un, .un, .un]) rfl ?_
          exact ws_nil ⟨kv74, (⟨a63, n_a63⟩, (w64), (w65), (w66), (w67)), h, rfl⟩
        · replace h := h71 e72
          refine ws_cons (w1_setN 4 sc__law_every_plan.nd ?_)
          refine wn_list ?_
          refine wa_nil ?_
          refine ⟨_, rfl, szOk rfl, ?_⟩
          intro a75 n_a75
          refine ws_env (env' := [.d l_faces, .dt a63 l_arcs62, .d l_wide38, .d l_start59, .ol a75 [], w65, w66, w67, .un, .un, .un, .un, .un]) rfl ?_
          refine ws_cons (w1_for hp rfl (pg_name (i := 5) sc__law_every_plan.nd rfl (by first | exact Or.inl rfl | exact Or.inr rfl)) (tgd_name 5) ?_)
          refine wi_r2 m_range ?_
          refine we_add ?_
          refine we_n 3 ?_
          refine we_int ?_
          refine add_sh h fun r77 h => ?_
          refine we_add ?_
          refine we_n 3 ?_
          refine we_n 2 ?_
          refine add_sh h fun r78 h => ?_
          refine rng_sh h fun xs76 h => ?_
          refine forS h (fun (s : (List PyData)) (u : Sl × Sl × {a : Addr // a ∉ g.M} × Sl) => [.d l_faces, .dt a63 l_arcs62, .d l_wide38, .d l_start59, .ol u.2.2.1.1 s, u.2.2.2, u.1, u.2.1, .un, .un, .un, .un, .un]) ((w66), (w67), ⟨a75, n_a75⟩, (w65)) rfl ?_ ?_
          · rintro l_rows79 ⟨w80, w81, ⟨a82, n_a82⟩, w83⟩ h
            refine ws_env (env' := [.d l_faces, .dt a63 l_arcs62, .d l_wide38, .d l_start59, .ol a82 l_rows79, w83, w80, w81, .un, .un, .un, .un, .un]) rfl ?_
            refine ws_freeze 4 n_a82 ?_
            refine ws_env (env' := [.d l_faces, .dt a63 l_arcs62, .d l_wide38, .d l_start59, .d (.list l_rows79), w83, w80, w81, .un, .un, .un, .un, .un]) rfl ?_
            refine ws_cons (w1_storeTB 1 hr ?_)
            refine we_n 4 ?_
            refine ⟨rfl, ?_⟩
            refine we_tuple ?_
            refine wa_d ?_
            refine we_n 3 ?_
            refine ⟨rfl, ?_⟩
            refine wa_d ?_
            refine we_add ?_
            refine we_n 3 ?_
            refine we_n 2 ?_
            refine add_sh h fun r84 h => ?_
            refine ⟨rfl, ?_⟩
            refine wa_nil ?_
            refine ⟨_, rfl, szOk rfl, ?_⟩
            refine ⟨rfl, putT_m h fun kv85 h => ?_⟩
            refine ws_env (env' := [.d l_faces, .dt a63 kv85, .d l_wide38, .d l_start59, .d (.list l_rows79), w83, w80, w81, .un, .un, .un, .un, .un]) rfl ?_
            exact ws_nil ⟨kv85, (⟨a63, n_a63⟩, (.d (.list l_rows79)), (w83), (w80), (w81)), h, rfl⟩
          · rintro hend l_middle86 l_rows89 ⟨w90, w91, ⟨a92, n_a92⟩, w93⟩ N87 h
            refine ⟨[(5, l_middle86)], rfl, rfl, ?_⟩
            refine ws_env (env' := [.d l_faces, .dt a63 l_arcs62, .d l_wide38, .d l_start59, .ol a92 l_rows89, .d l_middle86, w90, w91, .un, .un, .un, .un, .un]) rfl ?_
            refine ws_cons (w1_for hp rfl (pg_name (i := 6) sc__law_every_plan.nd rfl (by first | exact Or.inl rfl | exact Or.inr rfl)) (tgd_name 6) ?_)
            refine wi_d ?_
            refine we_getT 1 hr rfl ?_
            refine we_tuple ?_
            refine wa_d ?_
            refine we_n 3 ?_
            refine ⟨rfl, ?_⟩
            refine wa_d ?_
            refine we_n 5 ?_
            refine ⟨rfl, ?_⟩
            refine wa_nil ?_
            refine ⟨_, rfl, szOk rfl, ?_⟩
            refine ⟨rfl, getT_s h fun r95 h => ?_⟩
            refine ⟨rfl, it_sh h fun xs94 h => ?_⟩
            refine forS h (fun (s : (List PyData)) (u : Sl × {a : Addr // a ∉ g.M} × Sl) => [.d l_faces, .dt a63 l_arcs62, .d l_wide38, .d l_start59, .ol u.2.1.1 s, .d l_middle86, u.2.2, u.1, .un, .un, .un, .un, .un]) ((w91), ⟨a92, n_a92⟩, (w90)) rfl ?_ ?_
            · rintro l_rows96 ⟨w97, ⟨a98, n_a98⟩, w99⟩ h
              refine ws_env (env' := [.d l_faces, .dt a63 l_arcs62, .d l_wide38, .d l_start59, .ol a98 l_rows96, .d l_middle86, w99, w97, .un, .un, .un, .un, .un]) rfl ?_
              exact ws_nil ⟨l_rows96, ((w99), (w97), ⟨a98, n_a98⟩, (.d l_middle86)), h, rfl⟩
            · rintro hend l_first_here100 l_rows103 ⟨w104, ⟨a105, n_a105⟩, w106⟩ N101 h
              refine ⟨[(6, l_first_here100)], rfl, rfl, ?_⟩
              refine ws_env (env' := [.d l_faces, .dt a63 l_arcs62, .d l_wide38, .d l_start59, .ol a105 l_rows103, .d l_middle86, .d l_first_here100, w104, .un, .un, .un, .un, .un]) rfl ?_
              refine ws_cons (w1_for hp rfl (pg_name (i := 7) sc__law_every_plan.nd rfl (by first | exact Or.inl rfl | exact Or.inr rfl)) (tgd_name 7) ?_)
              refine wi_d ?_
              refine we_getT 1 hr rfl ?_
              refine we_tuple ?_
              refine wa_d ?_
              refine we_n 5 ?_
              refine ⟨rfl, ?_⟩
              refine wa_d ?_
              refine we_add ?_
              refine we_n 3 ?_
              refine we_n 2 ?_
              refine add_sh h fun r108 h => ?_
              refine ⟨rfl, ?_⟩
              refine wa_nil ?_
              refine ⟨_, rfl, szOk rfl, ?_⟩
              refine ⟨rfl, getT_s h fun r109 h => ?_⟩
              refine ⟨rfl, it_sh h fun xs107 h => ?_⟩
              refine forS h (fun (s : (List PyData)) (u : {a : Addr // a ∉ g.M} × Sl) => [.d l_faces, .dt a63 l_arcs62, .d l_wide38, .d l_start59, .ol u.1.1 s, .d l_middle86, .d l_first_here100, u.2, .un, .un, .un, .un, .un]) (⟨a105, n_a105⟩, (w104)) rfl ?_ ?_
              · rintro l_rows110 ⟨⟨a111, n_a111⟩, w112⟩ h
                refine ws_env (env' := [.d l_faces, .dt a63 l_arcs62, .d l_wide38, .d l_start59, .ol a111 l_rows110, .d l_middle86, .d l_first_here100, w112, .un, .un, .un, .un, .un]) rfl ?_
                exact ws_nil ⟨l_rows110, ((w112), ⟨a111, n_a111⟩, (.d l_first_here100)), h, rfl⟩
              · rintro hend l_second113 l_rows116 ⟨⟨a117, n_a117⟩, w118⟩ N114 h
                refine ⟨[(7, l_second113)], rfl, rfl, ?_⟩
                refine ws_env (env' := [.d l_faces, .dt a63 l_arcs62, .d l_wide38, .d l_start59, .ol a117 l_rows116, .d l_middle86, .d l_first_here100, .d l_second113, .un, .un, .un, .un, .un]) rfl ?_
                refine ws_cons (w1_append 4 rfl ?_)
                refine we_add ?_
                refine we_add ?_
                refine we_n 6 ?_
                refine we_n 7 ?_
                refine add_sh h fun r119 h => ?_
                refine we_list ?_
                refine wa_d ?_
                refine we_tuple ?_
                refine wa_d ?_
                refine we_n 3 ?_
                refine ⟨rfl, ?_⟩
                refine wa_d ?_
                refine we_n 5 ?_
                refine ⟨rfl, ?_⟩
                refine wa_nil ?_
                refine ⟨_, rfl, szOk rfl, ?_⟩
                refine ⟨rfl, ?_⟩
                refine wa_d ?_
                refine we_tuple ?_
                refine wa_d ?_
                refine we_n 5 ?_
                refine ⟨rfl, ?_⟩
                refine wa_d ?_
                refine we_add ?_
                refine we_n 3 ?_
                refine we_n 2 ?_
                refine add_sh h fun r120 h => ?_
                refine ⟨rfl, ?_⟩
                refine wa_nil ?_
                refine ⟨_, rfl, szOk rfl, ?_⟩
                refine ⟨rfl, ?_⟩
                refine wa_nil ?_
                refine ⟨_, rfl, szOk rfl, ?_⟩
                refine add_sh h fun r121 h => ?_
                obtain ⟨hl122, h⟩ := h
                refine ⟨rfl, hl122, ?_⟩
                refine ws_env (env' := [.d l_faces, .dt a63 l_arcs62, .d l_wide38, .d l_start59, .ol a117 (l_rows116 ++ ([r121] : List PyData)), .d l_middle86, .d l_first_here100, .d l_second113, .un, .un, .un, .un, .un]) rfl ?_
                exact ws_nil ⟨(l_rows116 ++ ([r121] : List PyData)), (⟨a117, n_a117⟩, (.d l_second113)), h, rfl⟩
      · rintro l_arcs123 ⟨⟨a124, n_a124⟩, w125, w126, w127, w128⟩ h
        refine ws_env (env' := [.d l_faces, .dt a124 l_arcs123, .d l_wide38, .d l_start59, w125, w126, w127, w128, .un, .un, .un, .un, .un]) rfl ?_
        exact ws_nil ⟨l_arcs123, (⟨a124, n_a124⟩, (w125), (w126), (w127), (w128), (.d l_start59)), h, rfl⟩
theorem ok__law_ways (F : FnP K "_law_ways" s__law_ways f fd) (hm : mg "_law_ways" = some (.ref f)) (hb : Binds K fd ["_law_most"] []) (m_range : mg "range" = none) :
    Has P w K mg base (k + 1) "_law_ways" ["_law_most"] c__law_ways := by
  refine fn_has F hm sc__law_ways hb rfl ?_
  rintro cdv A outer s H E g args Φ Ψ hr hp hM hl ⟨l_most, Kf, Ef, rfl, h, hK, hE⟩
  unfold f__law_ways at h
  refine ws_env (env' := [.d l_most, .un, .un]) rfl ?_
  refine ws_cons (w1_setN 1 sc__law_ways.nd ?_)
  refine wn_list ?_
  refine wa_d ?_
  refine we_int ?_
  refine ⟨rfl, ?_⟩
  refine wa_nil ?_
  refine ⟨_, rfl, szOk rfl, ?_⟩
  intro a1 n_a1
  refine ws_env (env' := [.d l_most, .ol a1 [(.int 1)], .un]) rfl ?_
  refine ws_cons (w1_for hp rfl (pg_name (i := 2) sc__law_ways.nd rfl (by first | exact Or.inl rfl | exact Or.inr rfl)) (tgd_name 2) ?_)
  refine wi_r2 m_range ?_
  refine we_int ?_
  refine we_add ?_
  refine we_n 0 ?_
  refine we_int ?_
  refine add_sh h fun r3 h => ?_
  refine rng_sh h fun xs2 h => ?_
  refine forS h (fun (s : (List PyData)) (u : {a : Addr // a ∉ g.M} × Sl) => [.d l_most, .ol u.1.1 s, u.2]) (⟨a1, n_a1⟩, (.un)) rfl ?_ ?_
  · rintro l_row4 ⟨⟨a5, n_a5⟩, w6⟩ h
    refine ws_env (env' := [.d l_most, .ol a5 l_row4, w6]) rfl ?_
    exact ws_cons (w1_retO 1 rfl n_a5 ⟨_, hK _ h, trivial, rfl, rfl⟩)
  · rintro hend l_many7 l_row10 ⟨⟨a11, n_a11⟩, w12⟩ N8 h
    refine ⟨[(2, l_many7)], rfl, rfl, ?_⟩
    refine ws_env (env' := [.d l_most, .ol a11 l_row10, .d l_many7]) rfl ?_
    refine ws_cons (w1_append 1 rfl ?_)
    refine we_div ?_
    refine we_mulA ?_
    refine we_mulA ?_
    refine we_ix ?_
    refine we_nl 1 ?_
    refine we_neg ?_
    refine we_int ?_
    refine ⟨_, rfl, ?_⟩
    refine ix_sh h fun r13 h => ?_
    refine we_int ?_
    refine mul_sh h fun r14 h => ?_
    refine we_sub ?_
    refine we_mulA ?_
    refine we_int ?_
    refine we_n 2 ?_
    refine mul_sh h fun r15 h => ?_
    refine we_int ?_
    refine sub_sh h fun r16 h => ?_
    refine mul_sh h fun r17 h => ?_
    refine we_add ?_
    refine we_n 2 ?_
    refine we_int ?_
    refine add_sh h fun r18 h => ?_
    refine div_sh h fun r19 h => ?_
    obtain ⟨hl20, h⟩ := h
    refine ⟨rfl, hl20, ?_⟩
    refine ws_env (env' := [.d l_most, .ol a11 (l_row10 ++ ([r19] : List PyData)), .d l_many7]) rfl ?_
    exact ws_nil ⟨(l_row10 ++ ([r19] : List PyData)), (⟨a11, n_a11⟩, (.d l_many7)), h, rfl⟩
theorem ok_o__law_pull (F : FnP K "_law_pull" s__law_pull f fd) (hm : mg "_law_pull" = some (.ref f)) (hb : Binds K fd ["_law_bag_here", "_law_many"] []) (m_len : mg "len" = none) :
    Has P w K mg base (k + 1) "_law_pull" ["_law_bag_here", "_law_many"] o__law_pull := by
  refine fn_has F hm sc__law_pull hb rfl ?_
  rintro cdv A outer s H E g args Φ Ψ hr hp hM hl ⟨b, many, rfl, m0, m1, hΦ⟩
  have hd : ∀ i, CDivW i many := fun i => wide_div m0 m1 (by decide) (by decide)
  refine ws_open 0 rfl fun cells i z t hc i0 z0 t0 t1 => ?_
  have bag : ∀ z' : Int, 0 ≤ z' → BagD [.list (cells.map .int), .int (i + 1), .int z', .int t] := fun z' h => ⟨cells, i + 1, z', t, rfl, hc, by omega, h, t0, t1⟩
  refine ws_cons (w1_if ?_)
  refine wt_cp (op_ltA hr) ?_
  refine we_ix ?_
  refine we_nl 0 ?_
  refine we_int ?_
  refine ix_lst (by decide) rfl ?_
  refine we_int ?_
  refine ⟨_, cp_lt, ?_⟩
  refine ⟨fun b1 => ?_, fun b1 => ?_⟩
  · -- then
    refine ws_cons (w1_augix 0 rfl ?_)
    refine we_int ?_
    refine ⟨1, 1, _, rfl, rfl, rfl, ?_⟩
    refine we_int ?_
    refine ⟨_, rfl, ?_⟩
    refine ws_cons (w1_set 2 sc__law_pull.nd ?_)
    refine we_ix ?_
    refine we_nl 0 ?_
    refine we_int ?_
    refine ix_lst (by decide) rfl ?_
    refine ⟨rfl, ?_⟩
    refine ws_mid (fun e => ∃ y : Int, 0 ≤ y ∧ e = [.ol b [.list (cells.map .int), .int (i + 1), .int z, .int t], .d (.int many), .d (.int y), .un, .un]) (w1_if ?_) ?_
    · refine wt_cp op_le ?_
      refine we_ix ?_
      refine we_nl 0 ?_
      refine we_int ?_
      refine ix_lst (by decide) rfl ?_
      refine we_len m_len ?_
      refine we_ix ?_
      refine we_nl 0 ?_
      refine we_int ?_
      refine ix_lst (by decide) rfl ?_
      refine .lst ?_
      refine ⟨_, cp_le, ?_⟩
      refine ⟨fun b2 => ?_, fun b2 => ?_⟩
      · -- then
        have b2 := of_decide_eq_true b2
        rw [List.length_map] at b2
        refine ws_cons (w1_set 2 sc__law_pull.nd ?_)
        refine we_ix ?_
        refine we_ix ?_
        refine we_nl 0 ?_
        refine we_int ?_
        refine ix_lst (by decide) rfl ?_
        refine we_sub ?_
        refine we_ix ?_
        refine we_nl 0 ?_
        refine we_int ?_
        refine ix_lst (by decide) rfl ?_
        refine we_int ?_
        refine ⟨?_, trivial⟩
        refine ix_ints (by omega) (by omega) fun n hn => ?_
        have n0 := hc n hn
        refine ⟨rfl, ?_⟩
        refine ws_cons (w1_if ?_)
        refine wt_cp op_ge ?_
        refine we_n 2 ?_
        refine we_pow ?_
        refine we_int ?_
        refine we_int ?_
        refine ⟨?_, by unfold L2.CPow; decide⟩
        refine ⟨_, cp_ge, ?_⟩
        refine ⟨fun b3 => ?_, fun b3 => ?_⟩
        · -- then
          refine ws_cons (w1_setix 0 rfl ?_)
          refine we_div ?_
          refine we_n 2 ?_
          refine we_n 1 ?_
          refine ⟨?_, hd _⟩
          refine ⟨rfl, ?_⟩
          refine we_int ?_
          refine ⟨2, 2, rfl, rfl, ?_⟩
          refine ws_cons (w1_ret ?_)
          refine we_mod ?_
          refine we_n 2 ?_
          refine we_n 1 ?_
          refine ⟨?_, m0⟩
          refine ⟨rfl, ?_⟩
          exact ⟨_, hΦ _ (Int.emod_nonneg _ (by omega)) (Int.emod_lt_of_pos _ m0), trivial, ⟨rfl, bag _ (Int.ediv_nonneg n0 (by omega)), rfl⟩, rfl, rfl⟩
        · -- else
          refine ws_nil (ws_nil ?_)
          exact ⟨n, n0, rfl⟩
      · -- else
        refine ws_nil ?_
        exact ⟨i + 1, by omega, rfl⟩
    rintro _ ⟨y, y0, rfl⟩
    refine ws_cons (w1_set 3 sc__law_pull.nd ?_)
    refine we_mod ?_
    refine we_add ?_
    refine we_add ?_
    refine we_n 2 ?_
    refine we_mul ?_
    refine we_ix ?_
    refine we_nl 0 ?_
    refine we_int ?_
    refine ix_lst (by decide) rfl ?_
    refine we_int ?_
    refine ⟨?_, by unfold L2.CMul; omega⟩
    refine .int ?_
    refine we_mul ?_
    refine we_ix ?_
    refine we_nl 0 ?_
    refine we_int ?_
    refine ix_lst (by decide) rfl ?_
    refine we_int ?_
    refine ⟨?_, by unfold L2.CMul; omega⟩
    refine .int ?_
    refine we_int ?_
    refine ⟨?_, by decide⟩
    refine ⟨rfl, ?_⟩
    generalize (y + t * 31 + (i + 1) * 69061) = y1
    refine ws_cons (w1_set 3 sc__law_pull.nd ?_)
    refine we_mod ?_
    refine we_add ?_
    refine we_mul ?_
    refine we_n 3 ?_
    refine we_n 3 ?_
    have y2 := Int.emod_nonneg y1 (b := 2147483629) (by decide)
    have y3 := Int.emod_lt_of_pos y1 (b := 2147483629) (by decide)
    refine ⟨?_, by unfold L2.CMul; omega⟩
    refine we_int ?_
    refine .int ?_
    refine we_int ?_
    refine ⟨?_, by decide⟩
    refine ⟨rfl, ?_⟩
    generalize (y1 % 2147483629 * (y1 % 2147483629) + 40961) = y4
    refine ws_cons (w1_ret ?_)
    refine we_mod ?_
    refine we_div ?_
    refine we_mod ?_
    refine we_add ?_
    refine we_mul ?_
    refine we_n 3 ?_
    refine we_n 3 ?_
    have y5 := Int.emod_nonneg y4 (b := 2147483587) (by decide)
    have y6 := Int.emod_lt_of_pos y4 (b := 2147483587) (by decide)
    refine ⟨?_, by unfold L2.CMul; omega⟩
    refine we_ix ?_
    refine we_nl 0 ?_
    refine we_int ?_
    refine ix_lst (by decide) rfl ?_
    refine .int ?_
    refine we_int ?_
    refine ⟨?_, by decide⟩
    refine we_int ?_
    refine ⟨?_, cdiv_small _ (by decide) (by decide)⟩
    refine we_n 1 ?_
    refine ⟨?_, m0⟩
    refine ⟨rfl, ?_⟩
    exact ⟨_, hΦ _ (Int.emod_nonneg _ (by omega)) (Int.emod_lt_of_pos _ m0), trivial, ⟨rfl, bag z z0, rfl⟩, rfl, rfl⟩
  · -- else
    refine ws_nil ?_
    refine ws_cons (w1_set 4 sc__law_pull.nd ?_)
    refine we_mod ?_
    refine we_ix ?_
    refine we_nl 0 ?_
    refine we_int ?_
    refine ix_lst (by decide) rfl ?_
    refine we_n 1 ?_
    refine ⟨?_, m0⟩
    refine ⟨rfl, ?_⟩
    refine ws_cons (w1_setix 0 rfl ?_)
    refine we_div ?_
    refine we_ix ?_
    refine we_nl 0 ?_
    refine we_int ?_
    refine ix_lst (by decide) rfl ?_
    refine we_n 1 ?_
    refine ⟨?_, hd _⟩
    refine ⟨rfl, ?_⟩
    refine we_int ?_
    refine ⟨2, 2, rfl, rfl, ?_⟩
    refine ws_cons (w1_ret ?_)
    refine we_n 4 ?_
    refine ⟨rfl, ?_⟩
    exact ⟨_, hΦ _ (Int.emod_nonneg _ (by omega)) (Int.emod_lt_of_pos _ m0), trivial, ⟨rfl, ⟨cells, i, z / many, t, rfl, hc, i0, Int.ediv_nonneg z0 (by omega), t0, t1⟩, rfl⟩, rfl, rfl⟩
theorem ok__law_pull (h : Has P w K mg base k "_law_pull" ["_law_bag_here", "_law_many"] o__law_pull) : Has P w K mg base k "_law_pull" ["_law_bag_here", "_law_many"] c__law_pull := h.imp fun args Φ Ψ ⟨b, m, Kf, Ef, e, hf, h1, h2⟩ => by
  subst e
  cases m with
  | int m => exact ⟨b, m, rfl, hf.1.1, hf.1.2, fun r r0 r1 => h1 _ (hf.2 r r0 r1)⟩
  | _ => exact (show False from hf).elim
theorem ok__law_whole (F : FnP K "_law_whole" s__law_whole f fd) (hm : mg "_law_whole" = some (.ref f)) (hb : Binds K fd ["_law_found"] []) (m_isinstance : mg "isinstance" = none) (m_int : mg "int" = none) (m_bool : mg "bool" = none) :
    Has P w K mg base (k + 1) "_law_whole" ["_law_found"] c__law_whole := by
  refine fn_has F hm sc__law_whole hb rfl ?_
  rintro cdv A outer s H E g args Φ Ψ hr hp hM hl ⟨l_found, Kf, Ef, rfl, h, hK, hE⟩
  unfold f__law_whole at h
  refine ws_env (env' := [.d l_found]) rfl ?_
  refine ws_cons (w1_ret ?_)
  refine we_andS h (fun Q h => ?_) (fun Q h => ?_) fun b1 h => ?_
  · refine we_isi "int" m_isinstance m_int ?_
    refine we_n 0 ?_
    refine ⟨_, rfl, ?_⟩
    exact h
  · refine we_one ?_
    refine we_not ?_
    refine we_isi "bool" m_isinstance m_bool ?_
    refine we_n 0 ?_
    refine ⟨_, rfl, ?_⟩
    refine ⟨_, rfl, ?_⟩
    exact h
  exact ⟨rfl, _, hK _ h, trivial, rfl, rfl⟩
theorem ok_o__law_whole (F : FnP K "_law_whole" s__law_whole f fd) (hm : mg "_law_whole" = some (.ref f)) (hb : Binds K fd ["_law_found"] []) (m_isinstance : mg "isinstance" = none) (m_int : mg "int" = none) (m_bool : mg "bool" = none) :
    Has P w K mg base (k + 1) "_law_whole" ["_law_found"] o__law_whole := by
  refine fn_has F hm sc__law_whole hb rfl ?_
  rintro cdv A outer s H E g args Φ Ψ hr hp hM hl ⟨d, rfl, hΦ⟩
  refine ws_cons (w1_ret ?_)
  refine we_and ?_
  refine we_isi "int" m_isinstance m_int ?_
  refine we_n 0 ?_
  refine ⟨_, rfl, fun b1 => ?_, fun b1 => by rw [b1] at hΦ; exact ⟨rfl, _, hΦ, trivial, rfl, rfl⟩⟩
  rw [b1, Bool.true_and] at hΦ
  refine we_one ?_
  refine we_not ?_
  refine we_isi "bool" m_isinstance m_bool ?_
  refine we_n 0 ?_
  refine ⟨_, rfl, ?_⟩
  exact ⟨rfl, _, hΦ, trivial, rfl, rfl⟩
theorem ok_o__law_alike (F : FnP K "_law_alike" s__law_alike f fd) (hm : mg "_law_alike" = some (.ref f)) (hb : Binds K fd ["_law_found", "_law_due"] []) (m_isinstance : mg "isinstance" = none) (m_bool : mg "bool" = none) (m_int : mg "int" = none) (m_str : mg "str" = none) (m_all : mg "all" = none) (ho__law_whole : Has P w K mg base 1 "_law_whole" ["_law_found"] o__law_whole) (m_list : mg "list" = none) (m_tuple : mg "tuple" = none) (m_len : mg "len" = none) (m_range : mg "range" = none) (k0 : Nat) :
    ∀ N : Nat, Has P w K mg base (k0 + N + 2) "_law_alike" ["_law_found", "_law_due"] (o__law_alike N) := by
  intro N
  induction N with
  | zero => ?_
  | succ N ih => ?_
  all_goals
    refine fn_has F hm sc__law_alike hb rfl ?_
    rintro cdv A outer s H E g args Φ Ψ hr hp hM hl ⟨x, rfl, hok, hΦ⟩
    have ret : ∀ b : Bool, b = true → ∀ x2 : Sl, (endOf [.d x, .d x] Φ Ψ).rt (.rd (.bool b)) [.d x, .d x, x2] := fun b h x2 => by rw [h]; exact ⟨_, hΦ, trivial, rfl, rfl, rfl⟩
    cases x with
    | dict kvs => cases hok
    | none =>
      refine ws_cons (w1_if ?_)
      refine wt_cp op_isN ?_
      refine we_n 1 ?_
      refine we_none ?_
      refine ⟨_, cp_isN, fun _ => ?_, fun b => (by cases b)⟩
      refine ws_cons (w1_ret ?_)
      refine we_cp op_isN ?_
      refine we_n 0 ?_
      refine we_none ?_
      exact ⟨_, cp_isN, rfl, ret _ rfl _⟩
    | bool v =>
      refine ws_cons (w1_if ?_)
      refine wt_cp op_isN ?_
      refine we_n 1 ?_
      refine we_none ?_
      refine ⟨_, cp_isN, fun b => (by cases b), fun _ => ws_nil ?_⟩
      refine ws_cons (w1_if ?_)
      refine wt_e ?_
      refine we_isi "bool" m_isinstance m_bool ?_
      refine we_n 1 ?_
      refine ⟨_, rfl, ?_⟩
      rw [ti_bool_bool]
      refine ⟨fun _ => ?_, fun b => (by cases b)⟩
      refine ws_cons (w1_ret ?_)
      refine we_and ?_
      refine we_isi "bool" m_isinstance m_bool ?_
      refine we_n 0 ?_
      rw [ti_bool_bool]
      refine ⟨_, rfl, fun _ => ?_, fun b => (by cases b)⟩
      refine we_one ?_
      refine we_cp (op_eqA hr) ?_
      refine we_n 0 ?_
      refine we_n 1 ?_
      exact ⟨_, cp_eqB, rfl, ret _ (decide_eq_true rfl) _⟩
    | int v =>
      refine ws_cons (w1_if ?_)
      refine wt_cp op_isN ?_
      refine we_n 1 ?_
      refine we_none ?_
      refine ⟨_, cp_isN, fun b => (by cases b), fun _ => ws_nil ?_⟩
      refine ws_cons (w1_if ?_)
      refine wt_e ?_
      refine we_isi "bool" m_isinstance m_bool ?_
      refine we_n 1 ?_
      refine ⟨_, rfl, ?_⟩
      rw [ti_int_bool]
      refine ⟨fun b => (by cases b), fun _ => ws_nil ?_⟩
      refine ws_cons (w1_if ?_)
      refine wt_e ?_
      refine we_isi "int" m_isinstance m_int ?_
      refine we_n 1 ?_
      refine ⟨_, rfl, ?_⟩
      rw [ti_int_int]
      refine ⟨fun _ => ?_, fun b => (by cases b)⟩
      refine ws_cons (w1_ret ?_)
      refine we_and ?_
      refine we_call ho__law_whole hr ?_
      refine wa_d ?_
      refine we_n 0 ?_
      refine ⟨rfl, ?_⟩
      refine wa_nil ?_
      refine ⟨rfl, _, rfl, rfl, _, rfl, ?_⟩
      rw [ti_int_int, ti_int_bool]
      refine ⟨_, rfl, fun _ => ?_, fun b => (by cases b)⟩
      refine we_one ?_
      refine we_cp (op_eqA hr) ?_
      refine we_n 0 ?_
      refine we_n 1 ?_
      exact ⟨_, cp_eqI, rfl, ret _ (decide_eq_true rfl) _⟩
    | str v =>
      refine ws_cons (w1_if ?_)
      refine wt_cp op_isN ?_
      refine we_n 1 ?_
      refine we_none ?_
      refine ⟨_, cp_isN, fun b => (by cases b), fun _ => ws_nil ?_⟩
      refine ws_cons (w1_if ?_)
      refine wt_e ?_
      refine we_isi "bool" m_isinstance m_bool ?_
      refine we_n 1 ?_
      refine ⟨_, rfl, ?_⟩
      rw [ti_str_bool]
      refine ⟨fun b => (by cases b), fun _ => ws_nil ?_⟩
      refine ws_cons (w1_if ?_)
      refine wt_e ?_
      refine we_isi "int" m_isinstance m_int ?_
      refine we_n 1 ?_
      refine ⟨_, rfl, ?_⟩
      rw [ti_str_int]
      refine ⟨fun b => (by cases b), fun _ => ws_nil ?_⟩
      refine ws_cons (w1_if ?_)
      refine wt_e ?_
      refine we_isi "str" m_isinstance m_str ?_
      refine we_n 1 ?_
      refine ⟨_, rfl, ?_⟩
      rw [ti_str_str]
      refine ⟨fun _ => ?_, fun b => (by cases b)⟩
      refine ws_cons (w1_ret ?_)
      refine we_and ?_
      refine we_isi "str" m_isinstance m_str ?_
      refine we_n 0 ?_
      rw [ti_str_str]
      refine ⟨_, rfl, fun _ => ?_, fun b => (by cases b)⟩
      refine we_one ?_
      refine we_cp (op_eqA hr) ?_
      refine we_n 0 ?_
      refine we_n 1 ?_
      exact ⟨_, cp_eqS, rfl, ret _ (decide_eq_true rfl) _⟩
    | list v =>
      first
        | (cases hok; done)
        | skip
          refine ws_cons (w1_if ?_)
          refine wt_cp op_isN ?_
          refine we_n 1 ?_
          refine we_none ?_
          refine ⟨_, cp_isN, fun b => (by cases b), fun _ => ws_nil ?_⟩
          refine ws_cons (w1_if ?_)
          refine wt_e ?_
          refine we_isi "bool" m_isinstance m_bool ?_
          refine we_n 1 ?_
          refine ⟨_, rfl, ?_⟩
          rw [ti_list_bool]
          refine ⟨fun b => (by cases b), fun _ => ws_nil ?_⟩
          refine ws_cons (w1_if ?_)
          refine wt_e ?_
          refine we_isi "int" m_isinstance m_int ?_
          refine we_n 1 ?_
          refine ⟨_, rfl, ?_⟩
          rw [ti_list_int]
          refine ⟨fun b => (by cases b), fun _ => ws_nil ?_⟩
          refine ws_cons (w1_if ?_)
          refine wt_e ?_
          refine we_isi "str" m_isinstance m_str ?_
          refine we_n 1 ?_
          refine ⟨_, rfl, ?_⟩
          rw [ti_list_str]
          refine ⟨fun b => (by cases b), fun _ => ws_nil ?_⟩
          refine ws_cons (w1_if ?_)
          refine wt_ww ?_
          refine ww_or ?_
          refine wt_cp (op_neA hr) ?_
          refine we_isi "list" m_isinstance m_list ?_
          refine we_n 1 ?_
          refine we_isi "list" m_isinstance m_list ?_
          refine we_n 0 ?_
          refine ⟨_, cp_neB, ?_⟩
          rw [ne_b]
          refine ⟨fun b => (by cases b), fun _ => ?_⟩
          refine ww_or1 ?_
          refine wt_cp (op_neA hr) ?_
          refine we_isi "tuple" m_isinstance m_tuple ?_
          refine we_n 1 ?_
          refine we_isi "tuple" m_isinstance m_tuple ?_
          refine we_n 0 ?_
          refine ⟨_, cp_neB, ?_⟩
          rw [ne_b]
          refine ⟨fun b => (by cases b), fun _ => ws_nil ?_⟩
          refine ws_cons (w1_if ?_)
          refine wt_ww ?_
          refine ww_or ?_
          refine wt_not ?_
          refine wt_e ?_
          refine we_isiLT m_isinstance m_list m_tuple ?_
          refine we_n 0 ?_
          refine ⟨_, rfl, ?_⟩
          rw [ti_list_list, ti_list_tuple]
          refine ⟨fun b => (by cases b), fun _ => ?_⟩
          refine ww_or1 ?_
          refine wt_cp (op_neA hr) ?_
          refine we_len m_len ?_
          refine we_n 0 ?_
          refine .lst ?_
          refine we_len m_len ?_
          refine we_n 1 ?_
          refine .lst ?_
          refine ⟨_, cp_neI, ?_⟩
          rw [decide_eq_true rfl]
          refine ⟨fun b => (by cases b), fun _ => ws_nil ?_⟩
          have hok1 := Bool.and_eq_true_iff.mp hok
          have hsz := of_decide_eq_true hok1.1
          refine ws_cons (w1_ret ?_)
          refine we_all m_all rfl ?_
          refine we_of_wn ?_
          refine wn_lcR1 m_range (own := [("_law_at", 2)]) rfl sc__law_alike.nd (blkOk_by (by rfl)) (fun _ _ _ _ _ => (pg_name (i := 2) sc__law_alike.nd rfl (by first | exact Or.inl rfl | exact Or.inr rfl))) (tgd_name 2) (by decide) rfl ?_
          refine we_len m_len ?_
          refine we_n 1 ?_
          refine .lst ?_
          refine ⟨_, fun i acc => acc = (List.replicate i true).map .bool, rfl, by omega, rfl, fun i hi => ⟨_, rfl, rfl, ?_⟩, fun acc ha => ?_⟩
          · intro acc ha g1 s1 H1 C1 cl1 fp1
            refine ⟨fun _ s1 H1 C1 cl1 fp1 => ?_, fun z => by cases z⟩
            have hi2 : i < v.length := by omega
            refine we_call ih hr ?_
            refine wa_d ?_
            refine we_ix ?_
            refine we_n 0 ?_
            refine we_n 2 ?_
            refine ix_lst (x := v[i]) (by omega) (by simp [hi2]) ?_
            refine ⟨rfl, ?_⟩
            refine wa_d ?_
            refine we_ix ?_
            refine we_n 1 ?_
            refine we_n 2 ?_
            refine ix_lst (x := v[i]) (by omega) (by simp [hi2]) ?_
            refine ⟨rfl, ?_⟩
            refine wa_nil ?_
            refine ⟨rfl, v[i], rfl, List.all_eq_true.mp hok1.2 _ (List.getElem_mem hi2), rfl, _, rfl, ?_⟩
            refine ⟨rfl, ?_⟩
            subst ha
            show _ = _
            rw [List.replicate_succ', List.map_append]
            rfl
          · subst ha
            refine ⟨List.replicate v.length true, by simp, ?_⟩
            exact ⟨rfl, ret _ (by simp) _⟩
    | tuple v =>
      first
        | (cases hok; done)
        | skip
          refine ws_cons (w1_if ?_)
          refine wt_cp op_isN ?_
          refine we_n 1 ?_
          refine we_none ?_
          refine ⟨_, cp_isN, fun b => (by cases b), fun _ => ws_nil ?_⟩
          refine ws_cons (w1_if ?_)
          refine wt_e ?_
          refine we_isi "bool" m_isinstance m_bool ?_
          refine we_n 1 ?_
          refine ⟨_, rfl, ?_⟩
          rw [ti_tuple_bool]
          refine ⟨fun b => (by cases b), fun _ => ws_nil ?_⟩
          refine ws_cons (w1_if ?_)
          refine wt_e ?_
          refine we_isi "int" m_isinstance m_int ?_
          refine we_n 1 ?_
          refine ⟨_, rfl, ?_⟩
          rw [ti_tuple_int]
          refine ⟨fun b => (by cases b), fun _ => ws_nil ?_⟩
          refine ws_cons (w1_if ?_)
          refine wt_e ?_
          refine we_isi "str" m_isinstance m_str ?_
          refine we_n 1 ?_
          refine ⟨_, rfl, ?_⟩
          rw [ti_tuple_str]
          refine ⟨fun b => (by cases b), fun _ => ws_nil ?_⟩
          refine ws_cons (w1_if ?_)
          refine wt_ww ?_
          refine ww_or ?_
          refine wt_cp (op_neA hr) ?_
          refine we_isi "list" m_isinstance m_list ?_
          refine we_n 1 ?_
          refine we_isi "list" m_isinstance m_list ?_
          refine we_n 0 ?_
          refine ⟨_, cp_neB, ?_⟩
          rw [ne_b]
          refine ⟨fun b => (by cases b), fun _ => ?_⟩
          refine ww_or1 ?_
          refine wt_cp (op_neA hr) ?_
          refine we_isi "tuple" m_isinstance m_tuple ?_
          refine we_n 1 ?_
          refine we_isi "tuple" m_isinstance m_tuple ?_
          refine we_n 0 ?_
          refine ⟨_, cp_neB, ?_⟩
          rw [ne_b]
          refine ⟨fun b => (by cases b), fun _ => ws_nil ?_⟩
          refine ws_cons (w1_if ?_)
          refine wt_ww ?_
          refine ww_or ?_
          refine wt_not ?_
          refine wt_e ?_
          refine we_isiLT m_isinstance m_list m_tuple ?_
          refine we_n 0 ?_
          refine ⟨_, rfl, ?_⟩
          rw [ti_tuple_list, ti_tuple_tuple]
          refine ⟨fun b => (by cases b), fun _ => ?_⟩
          refine ww_or1 ?_
          refine wt_cp (op_neA hr) ?_
          refine we_len m_len ?_
          refine we_n 0 ?_
          refine .tup ?_
          refine we_len m_len ?_
          refine we_n 1 ?_
          refine .tup ?_
          refine ⟨_, cp_neI, ?_⟩
          rw [decide_eq_true rfl]
          refine ⟨fun b => (by cases b), fun _ => ws_nil ?_⟩
          have hok1 := Bool.and_eq_true_iff.mp hok
          have hsz := of_decide_eq_true hok1.1
          refine ws_cons (w1_ret ?_)
          refine we_all m_all rfl ?_
          refine we_of_wn ?_
          refine wn_lcR1 m_range (own := [("_law_at", 2)]) rfl sc__law_alike.nd (blkOk_by (by rfl)) (fun _ _ _ _ _ => (pg_name (i := 2) sc__law_alike.nd rfl (by first | exact Or.inl rfl | exact Or.inr rfl))) (tgd_name 2) (by decide) rfl ?_
          refine we_len m_len ?_
          refine we_n 1 ?_
          refine .tup ?_
          refine ⟨_, fun i acc => acc = (List.replicate i true).map .bool, rfl, by omega, rfl, fun i hi => ⟨_, rfl, rfl, ?_⟩, fun acc ha => ?_⟩
          · intro acc ha g1 s1 H1 C1 cl1 fp1
            refine ⟨fun _ s1 H1 C1 cl1 fp1 => ?_, fun z => by cases z⟩
            have hi2 : i < v.length := by omega
            refine we_call ih hr ?_
            refine wa_d ?_
            refine we_ix ?_
            refine we_n 0 ?_
            refine we_n 2 ?_
            refine ix_tup (x := v[i]) (by omega) (by simp [hi2]) ?_
            refine ⟨rfl, ?_⟩
            refine wa_d ?_
            refine we_ix ?_
            refine we_n 1 ?_
            refine we_n 2 ?_
            refine ix_tup (x := v[i]) (by omega) (by simp [hi2]) ?_
            refine ⟨rfl, ?_⟩
            refine wa_nil ?_
            refine ⟨rfl, v[i], rfl, List.all_eq_true.mp hok1.2 _ (List.getElem_mem hi2), rfl, _, rfl, ?_⟩
            refine ⟨rfl, ?_⟩
            subst ha
            show _ = _
            rw [List.replicate_succ', List.map_append]
            rfl
          · subst ha
            refine ⟨List.replicate v.length true, by simp, ?_⟩
            exact ⟨rfl, ret _ (by simp) _⟩
theorem ok__law_alike (h : Has P w K mg base k "_law_alike" ["_law_found", "_law_due"] (o__law_alike 8)) : Has P w K mg base k "_law_alike" ["_law_found", "_law_due"] c__law_alike := h.imp fun args Φ Ψ ⟨x, y, Kf, Ef, e, hf, h1, h2⟩ => by
  subst e
  obtain ⟨rfl, hx, hk⟩ := hf
  exact ⟨x, rfl, hx, h1 _ hk⟩
theorem ok_need_faces (F : FnP K "need_faces" s_need_faces f fd) (hm : mg "need_faces" = some (.ref f)) (hb : Binds K fd ["faces"] []) (g_LEAST : ∃ t, mg "LEAST" = some (.int 3 t)) (g_MOST : ∃ t, mg "MOST" = some (.int 40 t)) (x_BadFaces : ExK K mg "BadFaces") :
    Has P w K mg base (k + 1) "need_faces" ["faces"] c_need_faces := by
  refine fn_has F hm sc_need_faces hb rfl ?_
  rintro cdv A outer s H E g args Φ Ψ hr hp hM hl ⟨faces, Kf, Ef, rfl, h, hK, hE⟩
  unfold f_need_faces at h
  refine ws_env (env' := [.d faces]) rfl ?_
  refine ws_cons (w1_if ?_)
  refine wt_not ?_
  refine wt_ch (op_leA hr) (op_leA hr) ?_
  refine we_gint g_LEAST ?_
  refine we_n 0 ?_
  refine ch_sh2 h (fun Q h => le_sh h fun _ h => h) (fun Q h => ?_) fun b1 h => ?_
  · refine we_gint g_MOST ?_
    exact le_sh h fun _ h => h
  obtain ⟨h3, h4⟩ := h
  refine ⟨fun e5 => ?_, fun e5 => ?_⟩
  · replace h := h3 e5
    exact ws_cons (w1_raise rfl x_BadFaces ⟨_, hE _ h, rfl, rfl⟩)
  · replace h := h4 e5
    refine ws_nil ?_
    exact ws_nil ⟨_, hK _ h, rfl, rfl⟩
theorem ok_ways_row (F : FnP K "ways_row" s_ways_row f fd) (hm : mg "ways_row" = some (.ref f)) (hb : Binds K fd ["most"] []) (m_len : mg "len" = none) (m_sum : mg "sum" = none) (m_range : mg "range" = none) :
    Has P w K mg base (k + 1) "ways_row" ["most"] c_ways_row := by
  refine fn_has F hm sc_ways_row hb rfl ?_
  rintro cdv A outer s H E g args Φ Ψ hr hp hM hl ⟨most, Kf, Ef, rfl, h, hK, hE⟩
  unfold f_ways_row at h
  refine ws_env (env' := [.d most, .un, .un, .un]) rfl ?_
  refine ws_cons (w1_setN 1 sc_ways_row.nd ?_)
  refine wn_list ?_
  refine wa_d ?_
  refine we_int ?_
  refine ⟨rfl, ?_⟩
  refine wa_d ?_
  refine we_int ?_
  refine ⟨rfl, ?_⟩
  refine wa_nil ?_
  refine ⟨_, rfl, szOk rfl, ?_⟩
  intro a1 n_a1
  refine ws_env (env' := [.d most, .ol a1 [(.int 0), (.int 1)], .un, .un]) rfl ?_
  refine ws_cons (whileS h hp (fun (s : (List PyData)) (u : Sl × {a : Addr // a ∉ g.M}) => [.d most, .ol u.2.1 s, u.1, .un]) ((.un), ⟨a1, n_a1⟩) rfl ?_ ?_)
  · rintro row2 ⟨w3, ⟨a4, n_a4⟩⟩ h
    refine ws_env (env' := [.d most, .ol a4 row2, w3, .un]) rfl ?_
    exact ws_cons (w1_retO 1 rfl n_a4 ⟨_, hK _ h, trivial, rfl, rfl⟩)
  · rintro hend row7 ⟨w8, ⟨a9, n_a9⟩⟩ N5 h
    refine wt_cp (op_leA hr) ?_
    refine we_len m_len ?_
    refine we_nl 1 ?_
    refine len_sh h fun r10 h => ?_
    refine we_n 0 ?_
    refine le_sh h fun b11 h => ?_
    refine ⟨fun e12 => ?_, fun e12 => hend row7 ((w8), ⟨a9, n_a9⟩) (h.2 e12)⟩
    replace h := h.1 e12
    refine ws_env (env' := [.d most, .ol a9 row7, w8, .un]) rfl ?_
    refine ws_cons (w1_set 2 sc_ways_row.nd ?_)
    refine we_len m_len ?_
    refine we_nl 1 ?_
    refine len_sh h fun r13 h => ?_
    refine ⟨rfl, ?_⟩
    refine ws_env (env' := [.d most, .ol a9 row7, .d r13, .un]) rfl ?_
    refine ws_cons (w1_append 1 rfl ?_)
    refine we_sumA m_sum rfl ?_
    refine we_of_wn ?_
    refine wn_lc (own := [("first", 3)]) rfl sc_ways_row.nd (blkOk_by (by rfl)) (fun _ _ _ _ _ => (pg_name (i := 3) sc_ways_row.nd rfl (by first | exact Or.inl rfl | exact Or.inr rfl))) (tgd_name 3) (by decide) rfl ?_
    refine wi_r2 m_range ?_
    refine we_int ?_
    refine we_n 2 ?_
    refine rng_sh h fun xs14 h => ?_
    refine lcS h (fun first_15 kp sk h => ?_) fun l16 h => ?_
    · refine ⟨[(3, first_15)], rfl, rfl, fun g' s1 H1 C1 cl1 fp1 => ?_⟩
      refine ⟨fun _ s1 H1 C1 cl1 fp1 => ?_, fun z => by cases z⟩
      refine we_mulA ?_
      refine we_ix ?_
      refine we_nl 1 ?_
      refine we_n 3 ?_
      refine ix_sh h fun r17 h => ?_
      refine we_ix ?_
      refine we_nl 1 ?_
      refine we_sub ?_
      refine we_n 2 ?_
      refine we_n 3 ?_
      refine sub_sh h fun r18 h => ?_
      refine ix_sh h fun r19 h => ?_
      refine mul_sh h fun r20 h => ?_
      exact ⟨rfl, h⟩
    refine sum_m h fun r21 h => ?_
    obtain ⟨hl22, h⟩ := h
    refine ⟨rfl, hl22, ?_⟩
    refine ws_env (env' := [.d most, .ol a9 (row7 ++ ([r21] : List PyData)), .d r13, .un]) rfl ?_
    exact ws_nil ⟨(row7 ++ ([r21] : List PyData)), ((.d r13), ⟨a9, n_a9⟩), h, rfl⟩
theorem ok_unlike (F : FnP K "unlike" s_unlike f fd) (hm : mg "unlike" = some (.ref f)) (hb : Binds K fd ["faces"] []) (h_need_faces : Has P w K mg base k "need_faces" ["faces"] c_need_faces) (h_ways_row : Has P w K mg base k "ways_row" ["most"] c_ways_row) :
    Has P w K mg base (k + 1) "unlike" ["faces"] c_unlike := by
  refine fn_has F hm sc_unlike hb rfl ?_
  rintro cdv A outer s H E g args Φ Ψ hr hp hM hl ⟨faces, Kf, Ef, rfl, h, hK, hE⟩
  unfold f_unlike at h
  refine ws_env (env' := [.d faces, .un, .un]) rfl ?_
  refine ws_cons (w1_expr ?_)
  refine we_call h_need_faces hr ?_
  refine wa_d ?_
  refine we_n 0 ?_
  refine ⟨rfl, ?_⟩
  refine wa_nil ?_
  refine ⟨rfl, _, _, _, rfl, h, fun r1 h => ⟨rfl, _, rfl, ?_⟩, fun c hc => ⟨rfl, ⟨_, hE _ hc, rfl, rfl⟩⟩⟩
  refine ws_cons (w1_set 1 sc_unlike.nd ?_)
  refine we_call h_ways_row hr ?_
  refine wa_d ?_
  refine we_sub ?_
  refine we_n 0 ?_
  refine we_int ?_
  refine sub_sh h fun r2 h => ?_
  refine ⟨rfl, ?_⟩
  refine wa_nil ?_
  refine ⟨rfl, _, _, _, rfl, h, fun r3 h => ⟨rfl, _, rfl, ?_⟩, fun c hc => ⟨rfl, ⟨_, hE _ hc, rfl, rfl⟩⟩⟩
  refine ⟨rfl, ?_⟩
  refine ws_env (env' := [.d faces, .d (.list r3), .un]) rfl ?_
  refine ws_cons (w1_set 2 sc_unlike.nd ?_)
  refine we_ix ?_
  refine we_n 1 ?_
  refine we_sub ?_
  refine we_n 0 ?_
  refine we_int ?_
  refine sub_sh h fun r4 h => ?_
  refine ix_sh h fun r5 h => ?_
  refine ⟨rfl, ?_⟩
  refine ws_env (env' := [.d faces, .d (.list r3), .d r5]) rfl ?_
  refine ws_joinS h (fun (s : PyData) (u : Unit) => [.d faces, .d (.list r3), .d s]) (fun Q h => ?_) ?_
  · refine w1_if ?_
    refine wt_cp (op_eqA hr) ?_
    refine we_mod ?_
    refine we_n 0 ?_
    refine we_int ?_
    refine mod_sh h fun r6 h => ?_
    refine we_int ?_
    refine eq_sh h fun b7 h => ?_
    obtain ⟨h8, h9⟩ := h
    refine ⟨fun e10 => ?_, fun e10 => ?_⟩
    · replace h := h8 e10
      obtain ⟨u11, he13, h⟩ := into_ob h
      refine ws_env (env' := [.d faces, .d (.list r3), .d r5]) rfl ?_
      rw [he13]
      refine ws_cons (w1_add 2 sc_unlike.nd rfl ?_)
      refine we_mulA ?_
      refine we_div ?_
      refine we_n 0 ?_
      refine we_int ?_
      refine div_sh h fun r14 h => ?_
      refine we_ix ?_
      refine we_n 1 ?_
      refine we_div ?_
      refine we_n 0 ?_
      refine we_int ?_
      refine div_sh h fun r15 h => ?_
      refine ix_sh h fun r16 h => ?_
      refine mul_sh h fun r17 h => ?_
      refine into_sh h fun m12 h => ?_
      refine ws_env (env' := [.d faces, .d (.list r3), .d (.int (u11 + m12))]) rfl ?_
      exact ws_nil ⟨(.int (u11 + m12)), (), h, rfl⟩
    · replace h := h9 e10
      exact ws_nil ⟨r5, (), h, rfl⟩
  · rintro found18 _ h
    refine ws_env (env' := [.d faces, .d (.list r3), .d found18]) rfl ?_
    refine ws_joinS h (fun (s : PyData) (u : Unit) => [.d faces, .d (.list r3), .d s]) (fun Q h => ?_) ?_
    · refine w1_if ?_
      refine wt_cp (op_eqA hr) ?_
      refine we_mod ?_
      refine we_n 0 ?_
      refine we_int ?_
      refine mod_sh h fun r19 h => ?_
      refine we_int ?_
      refine eq_sh h fun b20 h => ?_
      obtain ⟨h21, h22⟩ := h
      refine ⟨fun e23 => ?_, fun e23 => ?_⟩
      · replace h := h21 e23
        obtain ⟨u24, he26, h⟩ := into_ob h
        refine ws_env (env' := [.d faces, .d (.list r3), .d found18]) rfl ?_
        rw [he26]
        refine ws_cons (w1_add 2 sc_unlike.nd rfl ?_)
        refine we_mulA ?_
        refine we_mulA ?_
        refine we_int ?_
        refine we_div ?_
        refine we_n 0 ?_
        refine we_int ?_
        refine div_sh h fun r27 h => ?_
        refine mul_sh h fun r28 h => ?_
        refine we_ix ?_
        refine we_n 1 ?_
        refine we_div ?_
        refine we_n 0 ?_
        refine we_int ?_
        refine div_sh h fun r29 h => ?_
        refine ix_sh h fun r30 h => ?_
        refine mul_sh h fun r31 h => ?_
        refine into_sh h fun m25 h => ?_
        refine ws_env (env' := [.d faces, .d (.list r3), .d (.int (u24 + m25))]) rfl ?_
        exact ws_nil ⟨(.int (u24 + m25)), (), h, rfl⟩
      · replace h := h22 e23
        exact ws_nil ⟨found18, (), h, rfl⟩
    · rintro found32 _ h
      refine ws_env (env' := [.d faces, .d (.list r3), .d found32]) rfl ?_
      refine ws_cons (w1_ret ?_)
      refine we_div ?_
      refine we_n 2 ?_
      refine we_n 0 ?_
      refine div_sh h fun r33 h => ?_
      exact ⟨rfl, _, hK _ h, trivial, rfl, rfl⟩
theorem ok__law_turned (F : FnP K "_law_turned" s__law_turned f fd) (hm : mg "_law_turned" = some (.ref f)) (hb : Binds K fd ["_law_plan", "_law_many"] []) (m_tuple : mg "tuple" = none) (m_sorted : mg "sorted" = none) (h__law_pair : Has P w K mg base k "_law_pair" ["_law_one", "_law_other"] c__law_pair) :
    Has P w K mg base (k + 1) "_law_turned" ["_law_plan", "_law_many"] c__law_turned := by
  refine fn_has F hm sc__law_turned hb rfl ?_
  rintro cdv A outer s H E g args Φ Ψ hr hp hM hl ⟨l_plan, l_many, Kf, Ef, rfl, h, hK, hE⟩
  unfold f__law_turned at h
  refine ws_env (env' := [.d l_plan, .d l_many, .un, .un, .un, .un, .un]) rfl ?_
  refine ws_cons (w1_unpack (pg_tup rfl (pgs_cons (pg_name (i := 2) sc__law_turned.nd rfl (by first | exact Or.inl rfl | exact Or.inr rfl)) (pgs_cons (pg_name (i := 3) sc__law_turned.nd rfl (by first | exact Or.inl rfl | exact Or.inr rfl)) pgs_nil))) (tgd_tup (tgds_cons (tgd_name 2) (tgds_cons (tgd_name 3) tgds_nil)) rfl) ?_)
  refine we_n 0 ?_
  obtain ⟨l_faces1, l_cuts2, he3, h⟩ := un2_sh h
  refine ⟨rfl, [(2, l_faces1), (3, l_cuts2)], (by rw [he3]; rfl), rfl, ?_⟩
  refine ws_env (env' := [.d l_plan, .d l_many, .d l_faces1, .d l_cuts2, .un, .un, .un]) rfl ?_
  refine ws_cons (w1_setN 4 sc__law_turned.nd ?_)
  refine wn_list ?_
  refine wa_nil ?_
  refine ⟨_, rfl, szOk rfl, ?_⟩
  intro a4 n_a4
  refine ws_env (env' := [.d l_plan, .d l_many, .d l_faces1, .d l_cuts2, .ol a4 [], .un, .un]) rfl ?_
  refine ws_cons (w1_for hp rfl (pg_tup rfl (pgs_cons (pg_name (i := 5) sc__law_turned.nd rfl (by first | exact Or.inl rfl | exact Or.inr rfl)) (pgs_cons (pg_name (i := 6) sc__law_turned.nd rfl (by first | exact Or.inl rfl | exact Or.inr rfl)) pgs_nil))) (tgd_tup (tgds_cons (tgd_name 5) (tgds_cons (tgd_name 6) tgds_nil)) rfl) ?_)
  refine wi_d ?_
  refine we_n 3 ?_
  refine ⟨rfl, it_sh h fun xs5 h => ?_⟩
  refine forS h (fun (s : (List PyData)) (u : {a : Addr // a ∉ g.M} × Sl × Sl) => [.d l_plan, .d l_many, .d l_faces1, .d l_cuts2, .ol u.1.1 s, u.2.1, u.2.2]) (⟨a4, n_a4⟩, (.un), (.un)) rfl ?_ ?_
  · rintro l_rows6 ⟨⟨a7, n_a7⟩, w8, w9⟩ h
    refine ws_env (env' := [.d l_plan, .d l_many, .d l_faces1, .d l_cuts2, .ol a7 l_rows6, w8, w9]) rfl ?_
    refine ws_cons (w1_ret ?_)
    refine we_tuple ?_
    refine wa_d ?_
    refine we_n 2 ?_
    refine ⟨rfl, ?_⟩
    refine wa_d ?_
    refine we_tupof m_tuple ?_
    refine we_of_wn ?_
    refine wn_sortedA m_sorted hr ?_
    refine we_nl 4 ?_
    refine sort_m h fun l10 h => ?_
    refine tup_sh h fun r11 h => ?_
    refine ⟨rfl, ?_⟩
    refine wa_nil ?_
    refine ⟨_, rfl, szOk rfl, ?_⟩
    exact ⟨rfl, _, hK _ h, trivial, rfl, rfl, rfl⟩
  · rintro hend p12 l_rows15 ⟨⟨a16, n_a16⟩, w17, w18⟩ N13 h
    obtain ⟨l_low19, l_high20, he21, h⟩ := un2_sh h
    refine ⟨[(5, l_low19), (6, l_high20)], (by rw [he21]; rfl), rfl, ?_⟩
    refine ws_env (env' := [.d l_plan, .d l_many, .d l_faces1, .d l_cuts2, .ol a16 l_rows15, .d l_low19, .d l_high20]) rfl ?_
    refine ws_cons (w1_append 4 rfl ?_)
    refine we_call h__law_pair hr ?_
    refine wa_d ?_
    refine we_mod ?_
    refine we_add ?_
    refine we_n 5 ?_
    refine we_n 1 ?_
    refine add_sh h fun r22 h => ?_
    refine we_n 2 ?_
    refine mod_sh h fun r23 h => ?_
    refine ⟨rfl, ?_⟩
    refine wa_d ?_
    refine we_mod ?_
    refine we_add ?_
    refine we_n 6 ?_
    refine we_n 1 ?_
    refine add_sh h fun r24 h => ?_
    refine we_n 2 ?_
    refine mod_sh h fun r25 h => ?_
    refine ⟨rfl, ?_⟩
    refine wa_nil ?_
    refine ⟨rfl, _, _, _, _, rfl, h, fun r26 h => ⟨rfl, _, rfl, ?_⟩, fun c hc => ⟨rfl, ⟨_, hE _ hc, rfl, rfl, rfl⟩⟩⟩
    obtain ⟨hl27, h⟩ := h
    refine ⟨rfl, hl27, ?_⟩
    refine ws_env (env' := [.d l_plan, .d l_many, .d l_faces1, .d l_cuts2, .ol a16 (l_rows15 ++ ([r26] : List PyData)), .d l_low19, .d l_high20]) rfl ?_
    exact ws_nil ⟨(l_rows15 ++ ([r26] : List PyData)), (⟨a16, n_a16⟩, (.d l_low19), (.d l_high20)), h, rfl⟩
theorem ok__law_first (F : FnP K "_law_first" s__law_first f fd) (hm : mg "_law_first" = some (.ref f)) (hb : Binds K fd ["_law_plan"] []) (m_sorted : mg "sorted" = none) (m_range : mg "range" = none) (h__law_turned : Has P w K mg base k "_law_turned" ["_law_plan", "_law_many"] c__law_turned) :
    Has P w K mg base (k + 1) "_law_first" ["_law_plan"] c__law_first := by
  refine fn_has F hm sc__law_first hb rfl ?_
  rintro cdv A outer s H E g args Φ Ψ hr hp hM hl ⟨l_plan, Kf, Ef, rfl, h, hK, hE⟩
  unfold f__law_first at h
  refine ws_env (env' := [.d l_plan, .un]) rfl ?_
  refine ws_cons (w1_ret ?_)
  refine we_ix ?_
  refine we_of_wn ?_
  refine wn_sortedA m_sorted hr ?_
  refine we_of_wn ?_
  refine wn_lc (own := [("_law_many", 1)]) rfl sc__law_first.nd (blkOk_by (by rfl)) (fun _ _ _ _ _ => (pg_name (i := 1) sc__law_first.nd rfl (by first | exact Or.inl rfl | exact Or.inr rfl))) (tgd_name 1) (by decide) rfl ?_
  refine wi_r1 m_range ?_
  refine we_ix ?_
  refine we_n 0 ?_
  refine we_int ?_
  refine ix_sh h fun r2 h => ?_
  refine rng_sh h fun xs1 h => ?_
  refine lcS h (fun l_many3 kp sk h => ?_) fun l4 h => ?_
  · refine ⟨[(1, l_many3)], rfl, rfl, fun g' s1 H1 C1 cl1 fp1 => ?_⟩
    refine ⟨fun _ s1 H1 C1 cl1 fp1 => ?_, fun z => by cases z⟩
    refine we_call h__law_turned hr ?_
    refine wa_d ?_
    refine we_n 0 ?_
    refine ⟨rfl, ?_⟩
    refine wa_d ?_
    refine we_n 1 ?_
    refine ⟨rfl, ?_⟩
    refine wa_nil ?_
    refine ⟨rfl, _, _, _, _, rfl, h, fun r5 h => ⟨rfl, _, rfl, ?_⟩, fun c hc => ⟨rfl, hc.elim⟩⟩
    exact ⟨rfl, h⟩
  refine sort_m h fun l6 h => ?_
  refine we_int ?_
  refine ix_sh h fun r7 h => ?_
  exact ⟨rfl, _, hK _ h, trivial, rfl, rfl⟩
theorem ok_law (F : FnP K "law" s_law f fd) (ho__law_bag : Has P w K mg base k "_law_bag" ["_law_script"] o__law_bag) (h__law_pull : Has P w K mg base k "_law_pull" ["_law_bag_here", "_law_many"] c__law_pull) (h__law_every_plan : Has P w K mg base k "_law_every_plan" ["_law_faces"] c__law_every_plan) (h__law_alike : Has P w K mg base k "_law_alike" ["_law_found", "_law_due"] c__law_alike) (h_unlike : Has P w K mg base k "unlike" ["faces"] c_unlike) (m_len : mg "len" = none) (h__law_ways : Has P w K mg base k "_law_ways" ["_law_most"] c__law_ways) (m_range : mg "range" = none) (h__law_first : Has P w K mg base k "_law_first" ["_law_plan"] c__law_first) :
    FnOk P w K mg base (L2.CX P w) (k + 1) f fd ["_law_script"] (spOf K 1 cLaw) := by
  refine fn_ok (ps := ["_law_script"]) F sc_law rfl ?_
  rintro cdv A outer s H E g args Φ Ψ hr hp hM hl ⟨ns, rfl, hns, hΦ⟩
  have h := e_law_k09 ns hns
  unfold f_law_k09 at h
  have hK : ∀ r, r = PyData.bool true → Φ (.rd r) [.d (.list (ns.map .int))] := fun r e => e ▸ hΦ
  have hE : ∀ c, False → Ψ c [.d (.list (ns.map .int))] := fun c h => h.elim
  refine ws_env (env' := [.d (.list (ns.map .int)), .un, .un, .un, .un, .un, .un, .un, .un]) rfl ?_
  refine ws_cons (w1_setN 1 sc_law.nd ?_)
  refine wn_call ho__law_bag hr ?_
  refine wa_d ?_
  refine we_n 0 ?_
  refine ⟨rfl, ?_⟩
  refine wa_nil ?_
  refine ⟨rfl, ns, rfl, hns, fun ds hds => ⟨rfl, ds, rfl, ?_⟩⟩
  intro a_bag n_bag
  refine ws_close 1 rfl hds ?_
  refine ws_env (env' := [.d (.list (ns.map .int)), .bg a_bag, .un, .un, .un, .un, .un, .un, .un]) rfl ?_
  refine ws_cons (w1_set 2 sc_law.nd ?_)
  refine we_add ?_
  refine we_int ?_
  refine we_call h__law_pull hr ?_
  refine wa_s 1 ?_
  refine wa_d ?_
  refine we_int ?_
  refine ⟨rfl, ?_⟩
  refine wa_nil ?_
  refine ⟨rfl, _, _, _, _, rfl, h, fun r1 h => ⟨rfl, _, rfl, ?_⟩, fun c hc => ⟨rfl, ⟨_, hE _ hc, rfl, rfl⟩⟩⟩
  refine add_sh h fun r2 h => ?_
  refine ⟨rfl, ?_⟩
  refine ws_env (env' := [.d (.list (ns.map .int)), .bg a_bag, .d r2, .un, .un, .un, .un, .un, .un]) rfl ?_
  refine ws_cons (w1_setO 3 sc_law.nd (wo_newN ?_))
  intro s3 hn4 nM5
  refine ws_env (env' := [.d (.list (ns.map .int)), .bg a_bag, .d r2, s3, .un, .un, .un, .un, .un]) rfl ?_
  refine ws_cons (w1_for hp rfl (pg_name (i := 4) sc_law.nd rfl (by first | exact Or.inl rfl | exact Or.inr rfl)) (tgd_name 4) ?_)
  refine wi_d ?_
  refine we_call h__law_every_plan hr ?_
  refine wa_d ?_
  refine we_n 2 ?_
  refine ⟨rfl, ?_⟩
  refine wa_nil ?_
  refine ⟨rfl, _, _, _, rfl, h, fun r7 h => ⟨rfl, _, rfl, ?_⟩, fun c hc => ⟨rfl, ⟨_, hE _ hc, rfl, rfl⟩⟩⟩
  refine ⟨rfl, it_sh h fun xs6 h => ?_⟩
  refine forSC h (fun (s : (List (PySem.NestedKey × PyData))) (u : {s : Sl // ∀ b ∈ s.fp, b ∉ g.M} × Sl) => [.d (.list (ns.map .int)), .bg a_bag, .d r2, u.1.1, u.2, .un, .un, .un, .un]) (fun (s : (List (PySem.NestedKey × PyData))) (u : {s : Sl // ∀ b ∈ s.fp, b ∉ g.M} × Sl) => IsDN P w s u.1.1) (⟨s3, nM5⟩, (.un)) rfl hn4 ?_ ?_
  · rintro l_forms8 ⟨⟨s9, nM10⟩, w11⟩ hc h
    refine ws_env (env' := [.d (.list (ns.map .int)), .bg a_bag, .d r2, s9, w11, .un, .un, .un, .un]) rfl ?_
    refine ws_cons (w1_if ?_)
    refine wt_not ?_
    refine wt_e ?_
    refine we_call h__law_alike hr ?_
    refine wa_d ?_
    refine we_call h_unlike hr ?_
    refine wa_d ?_
    refine we_n 2 ?_
    refine ⟨rfl, ?_⟩
    refine wa_nil ?_
    refine ⟨rfl, _, _, _, rfl, h, fun r12 h => ⟨rfl, _, rfl, ?_⟩, fun c hc => ⟨rfl, ⟨_, hE _ hc, rfl, rfl⟩⟩⟩
    refine ⟨rfl, ?_⟩
    refine wa_d ?_
    refine we_lenN 3 hc m_len ?_
    refine ⟨rfl, ?_⟩
    refine wa_nil ?_
    refine ⟨rfl, _, _, _, _, rfl, h, fun r13 h => ⟨rfl, _, rfl, ?_⟩, fun c hc => ⟨rfl, ⟨_, hE _ hc, rfl, rfl⟩⟩⟩
    refine bool_sh h fun b14 h => ?_
    obtain ⟨h15, h16⟩ := h
    refine ⟨fun e17 => ?_, fun e17 => ?_⟩
    · replace h := h15 e17
      refine ws_cons (w1_ret ?_)
      refine we_bool ?_
      exact ⟨rfl, _, hK _ h, trivial, rfl, rfl⟩
    · replace h := h16 e17
      refine ws_nil ?_
      refine ws_cons (w1_set 5 sc_law.nd ?_)
      refine we_call h__law_ways hr ?_
      refine wa_d ?_
      refine we_int ?_
      refine ⟨rfl, ?_⟩
      refine wa_nil ?_
      refine ⟨rfl, _, _, _, rfl, h, fun r18 h => ⟨rfl, _, rfl, ?_⟩, fun c hc => ⟨rfl, ⟨_, hE _ hc, rfl, rfl⟩⟩⟩
      refine ⟨rfl, ?_⟩
      refine ws_env (env' := [.d (.list (ns.map .int)), .bg a_bag, .d r2, s9, w11, .d (.list r18), .un, .un, .un]) rfl ?_
      refine ws_cons (w1_for hp rfl (pg_name (i := 6) sc_law.nd rfl (by first | exact Or.inl rfl | exact Or.inr rfl)) (tgd_name 6) ?_)
      refine wi_r1 m_range ?_
      refine we_int ?_
      refine rng_sh h fun xs19 h => ?_
      refine forS h (fun (s : Unit) (u : Sl × Sl × Sl) => [.d (.list (ns.map .int)), .bg a_bag, .d r2, s9, w11, .d (.list r18), u.2.2, u.1, u.2.1]) ((.un), (.un), (.un)) rfl ?_ ?_
      · rintro _ ⟨w20, w21, w22⟩ h
        refine ws_env (env' := [.d (.list (ns.map .int)), .bg a_bag, .d r2, s9, w11, .d (.list r18), w22, w20, w21]) rfl ?_
        refine ws_cons (w1_ret ?_)
        refine we_bool ?_
        exact ⟨rfl, _, hK _ h, trivial, rfl, rfl⟩
      · rintro hend l_turn23 _ ⟨w26, w27, w28⟩ N24 h
        refine ⟨[(6, l_turn23)], rfl, rfl, ?_⟩
        refine ws_env (env' := [.d (.list (ns.map .int)), .bg a_bag, .d r2, s9, w11, .d (.list r18), .d l_turn23, w26, w27]) rfl ?_
        refine ws_cons (w1_set 7 sc_law.nd ?_)
        refine we_add ?_
        refine we_int ?_
        refine we_call h__law_pull hr ?_
        refine wa_s 1 ?_
        refine wa_d ?_
        refine we_int ?_
        refine ⟨rfl, ?_⟩
        refine wa_nil ?_
        refine ⟨rfl, _, _, _, _, rfl, h, fun r29 h => ⟨rfl, _, rfl, ?_⟩, fun c hc => ⟨rfl, ⟨_, hE _ hc, rfl, rfl⟩⟩⟩
        refine add_sh h fun r30 h => ?_
        refine ⟨rfl, ?_⟩
        refine ws_env (env' := [.d (.list (ns.map .int)), .bg a_bag, .d r2, s9, w11, .d (.list r18), .d l_turn23, .d r30, w27]) rfl ?_
        refine ws_cons (w1_set 8 sc_law.nd ?_)
        refine we_ix ?_
        refine we_n 5 ?_
        refine we_sub ?_
        refine we_n 7 ?_
        refine we_int ?_
        refine sub_sh h fun r31 h => ?_
        refine ix_sh h fun r32 h => ?_
        refine ⟨rfl, ?_⟩
        refine ws_env (env' := [.d (.list (ns.map .int)), .bg a_bag, .d r2, s9, w11, .d (.list r18), .d l_turn23, .d r30, .d r32]) rfl ?_
        refine ws_joinS h (fun (s : PyData) (u : Unit) => [.d (.list (ns.map .int)), .bg a_bag, .d r2, s9, w11, .d (.list r18), .d l_turn23, .d r30, .d s]) (fun Q h => ?_) ?_
        · refine w1_if ?_
          refine wt_cp (op_eqA hr) ?_
          refine we_mod ?_
          refine we_n 7 ?_
          refine we_int ?_
          refine mod_sh h fun r33 h => ?_
          refine we_int ?_
          refine eq_sh h fun b34 h => ?_
          obtain ⟨h35, h36⟩ := h
          refine ⟨fun e37 => ?_, fun e37 => ?_⟩
          · replace h := h35 e37
            obtain ⟨u38, he40, h⟩ := into_ob h
            refine ws_env (env' := [.d (.list (ns.map .int)), .bg a_bag, .d r2, s9, w11, .d (.list r18), .d l_turn23, .d r30, .d r32]) rfl ?_
            rw [he40]
            refine ws_cons (w1_add 8 sc_law.nd rfl ?_)
            refine we_mulA ?_
            refine we_div ?_
            refine we_n 7 ?_
            refine we_int ?_
            refine div_sh h fun r41 h => ?_
            refine we_ix ?_
            refine we_n 5 ?_
            refine we_sub ?_
            refine we_div ?_
            refine we_n 7 ?_
            refine we_int ?_
            refine div_sh h fun r42 h => ?_
            refine we_int ?_
            refine sub_sh h fun r43 h => ?_
            refine ix_sh h fun r44 h => ?_
            refine mul_sh h fun r45 h => ?_
            refine into_sh h fun m39 h => ?_
            refine ws_env (env' := [.d (.list (ns.map .int)), .bg a_bag, .d r2, s9, w11, .d (.list r18), .d l_turn23, .d r30, .d (.int (u38 + m39))]) rfl ?_
            exact ws_nil ⟨(.int (u38 + m39)), (), h, rfl⟩
          · replace h := h36 e37
            exact ws_nil ⟨r32, (), h, rfl⟩
        · rintro l_whole_here46 _ h
          refine ws_env (env' := [.d (.list (ns.map .int)), .bg a_bag, .d r2, s9, w11, .d (.list r18), .d l_turn23, .d r30, .d l_whole_here46]) rfl ?_
          refine ws_joinS h (fun (s : PyData) (u : Unit) => [.d (.list (ns.map .int)), .bg a_bag, .d r2, s9, w11, .d (.list r18), .d l_turn23, .d r30, .d s]) (fun Q h => ?_) ?_
          · refine w1_if ?_
            refine wt_cp (op_eqA hr) ?_
            refine we_mod ?_
            refine we_n 7 ?_
            refine we_int ?_
            refine mod_sh h fun r47 h => ?_
            refine we_int ?_
            refine eq_sh h fun b48 h => ?_
            obtain ⟨h49, h50⟩ := h
            refine ⟨fun e51 => ?_, fun e51 => ?_⟩
            · replace h := h49 e51
              obtain ⟨u52, he54, h⟩ := into_ob h
              refine ws_env (env' := [.d (.list (ns.map .int)), .bg a_bag, .d r2, s9, w11, .d (.list r18), .d l_turn23, .d r30, .d l_whole_here46]) rfl ?_
              rw [he54]
              refine ws_cons (w1_add 8 sc_law.nd rfl ?_)
              refine we_mulA ?_
              refine we_div ?_
              refine we_mulA ?_
              refine we_int ?_
              refine we_n 7 ?_
              refine mul_sh h fun r55 h => ?_
              refine we_int ?_
              refine div_sh h fun r56 h => ?_
              refine we_ix ?_
              refine we_n 5 ?_
              refine we_sub ?_
              refine we_div ?_
              refine we_n 7 ?_
              refine we_int ?_
              refine div_sh h fun r57 h => ?_
              refine we_int ?_
              refine sub_sh h fun r58 h => ?_
              refine ix_sh h fun r59 h => ?_
              refine mul_sh h fun r60 h => ?_
              refine into_sh h fun m53 h => ?_
              refine ws_env (env' := [.d (.list (ns.map .int)), .bg a_bag, .d r2, s9, w11, .d (.list r18), .d l_turn23, .d r30, .d (.int (u52 + m53))]) rfl ?_
              exact ws_nil ⟨(.int (u52 + m53)), (), h, rfl⟩
            · replace h := h50 e51
              exact ws_nil ⟨l_whole_here46, (), h, rfl⟩
          · rintro l_whole_here61 _ h
            refine ws_env (env' := [.d (.list (ns.map .int)), .bg a_bag, .d r2, s9, w11, .d (.list r18), .d l_turn23, .d r30, .d l_whole_here61]) rfl ?_
            refine ws_cons (w1_if ?_)
            refine wt_not ?_
            refine wt_e ?_
            refine we_call h__law_alike hr ?_
            refine wa_d ?_
            refine we_mulA ?_
            refine we_call h_unlike hr ?_
            refine wa_d ?_
            refine we_n 7 ?_
            refine ⟨rfl, ?_⟩
            refine wa_nil ?_
            refine ⟨rfl, _, _, _, rfl, h, fun r62 h => ⟨rfl, _, rfl, ?_⟩, fun c hc => ⟨rfl, ⟨_, hE _ hc, rfl, rfl⟩⟩⟩
            refine we_n 7 ?_
            refine mul_sh h fun r63 h => ?_
            refine ⟨rfl, ?_⟩
            refine wa_d ?_
            refine we_n 8 ?_
            refine ⟨rfl, ?_⟩
            refine wa_nil ?_
            refine ⟨rfl, _, _, _, _, rfl, h, fun r64 h => ⟨rfl, _, rfl, ?_⟩, fun c hc => ⟨rfl, ⟨_, hE _ hc, rfl, rfl⟩⟩⟩
            refine bool_sh h fun b65 h => ?_
            obtain ⟨h66, h67⟩ := h
            refine ⟨fun e68 => ?_, fun e68 => ?_⟩
            · replace h := h66 e68
              refine ws_cons (w1_ret ?_)
              refine we_bool ?_
              exact ⟨rfl, _, hK _ h, trivial, rfl, rfl⟩
            · replace h := h67 e68
              refine ws_nil ?_
              exact ws_nil ⟨(), ((.d r30), (.d l_whole_here61), (.d l_turn23)), h, rfl⟩
  · rintro hend l_plan69 l_forms72 ⟨⟨s73, nM74⟩, w75⟩ N70 hc h
    refine ⟨[(4, l_plan69)], rfl, rfl, ?_⟩
    refine ws_env (env' := [.d (.list (ns.map .int)), .bg a_bag, .d r2, s73, .d l_plan69, .un, .un, .un, .un]) rfl ?_
    refine ws_cons (w1_storeN 3 hc nM74 hr ?_)
    refine we_bool ?_
    refine ⟨rfl, ?_⟩
    refine we_ix ?_
    refine we_call h__law_first hr ?_
    refine wa_d ?_
    refine we_n 4 ?_
    refine ⟨rfl, ?_⟩
    refine wa_nil ?_
    refine ⟨rfl, _, _, _, rfl, h, fun r76 h => ⟨rfl, _, rfl, ?_⟩, fun c hc => ⟨rfl, ⟨_, hE _ hc, rfl, rfl⟩⟩⟩
    refine we_int ?_
    refine ix_sh h fun r77 h => ?_
    refine ⟨rfl, putN_m h fun kv78 h => ?_⟩
    intro s79 hn80 nM81
    refine ws_env (env' := [.d (.list (ns.map .int)), .bg a_bag, .d r2, s79, .d l_plan69, .un, .un, .un, .un]) rfl ?_
    exact ws_nil ⟨kv78, (⟨s79, nM81⟩, (.d l_plan69)), h, hn80, rfl⟩
end
end Tx
namespace Tx
open Hd PySem PySem.Spec PyProof.Rows L2 TL
set_option maxRecDepth 100000
theorem facts {P : Program} {w : World} {K0 K : PySem.W.Frag} (hK : K = markK tf K0) {h : Heap} {mg : Str → Option Value} {f : Addr} (X0 : K0.In h) (G : h.Ns mainGlobals mg) (hfa : mg ("law" : Str) = some (.ref f)) (sl : SaysL xf fa fn tf h K0) :
    ∃ fd : FuncData, (∀ (s : Shared) (v : Value), BindsTo s fd ⟨[v], []⟩ [("_law_script", v)]) ∧ ∀ base : Heap, K.In base → base.Ns mainGlobals mg → (∀ p ∈ csOf tf K0, LamX.TabB base mg p.1 p.2) → FnOk P w K mg base (L2.CX P w) 11 f fd ["_law_script"] (spOf K 1 cLaw) := by
  have X : K.In h := by rw [hK]; exact sl.kin X0
  have c : SaysX xf fa fn K := by rw [hK]; exact sl.x
  obtain ⟨fd_need_faces, F_need_faces⟩ := c.d.def_ 0 (d := d_need_faces) rfl
  obtain ⟨fd_ways_row, F_ways_row⟩ := c.d.def_ 1 (d := d_ways_row) rfl
  obtain ⟨fd_unlike, F_unlike⟩ := c.d.def_ 2 (d := d_unlike) rfl
  obtain ⟨fd__law_alike, F__law_alike⟩ := c.d.def_ 3 (d := d__law_alike) rfl
  obtain ⟨fd__law_bag, F__law_bag⟩ := c.d.def_ 4 (d := d__law_bag) rfl
  obtain ⟨fd__law_every_plan, F__law_every_plan⟩ := c.d.def_ 5 (d := d__law_every_plan) rfl
  obtain ⟨fd__law_first, F__law_first⟩ := c.d.def_ 6 (d := d__law_first) rfl
  obtain ⟨fd__law_pair, F__law_pair⟩ := c.d.def_ 7 (d := d__law_pair) rfl
  obtain ⟨fd__law_pull, F__law_pull⟩ := c.d.def_ 8 (d := d__law_pull) rfl
  obtain ⟨fd__law_turned, F__law_turned⟩ := c.d.def_ 9 (d := d__law_turned) rfl
  obtain ⟨fd__law_ways, F__law_ways⟩ := c.d.def_ 10 (d := d__law_ways) rfl
  obtain ⟨fd__law_whole, F__law_whole⟩ := c.d.def_ 11 (d := d__law_whole) rfl
  obtain ⟨fd_law, F_law⟩ := c.d.def_ 12 (d := d_law) rfl
  have e := hfa.symm.trans (He.glo_ok X G (c.d.fact 12 (f := .glo "law") rfl))
  cases e
  have bl := FunD.bindsA (ps := ["_law_script"]) F_law fun _ _ _ _ _ _ us hl => match us, hl with | [_], _ => rfl
  refine ⟨fd_law, fun s v => bl s [v] rfl, fun base _ _ hB => ?_⟩
  have h_o__law_bag := ok_o__law_bag (P := P) (w := w) (K := K) (mg := mg) (base := base) (k := 0) F__law_bag (He.glo_ok X G (c.d.fact 4 (f := .glo "_law_bag") rfl)) (F__law_bag.bindsN fun _ _ _ _ _ _ us hl => match us, hl with | [_], _ => rfl) (He.free_ok X G (c.d.fact 20 (f := .free "len") rfl)) (He.free_ok X G (c.d.fact 15 (f := .free "abs") rfl)) (He.free_ok X G (c.d.fact 18 (f := .free "int") rfl))
  have h__law_pair := ok__law_pair (P := P) (w := w) (K := K) (mg := mg) (base := base) (k := 0) F__law_pair (He.glo_ok X G (c.d.fact 7 (f := .glo "_law_pair") rfl)) (F__law_pair.bindsN fun _ _ _ _ _ _ us hl => match us, hl with | [_, _], _ => rfl) (He.free_ok X G (c.d.fact 23 (f := .free "min") rfl)) (He.free_ok X G (c.d.fact 22 (f := .free "max") rfl))
  have h__law_every_plan := ok__law_every_plan (P := P) (w := w) (K := K) (mg := mg) (base := base) (k := 1) F__law_every_plan (He.glo_ok X G (c.d.fact 5 (f := .glo "_law_every_plan") rfl)) (F__law_every_plan.bindsN fun _ _ _ _ _ _ us hl => match us, hl with | [_], _ => rfl) (He.free_ok X G (c.d.fact 24 (f := .free "range") rfl)) (h__law_pair.mono (by decide)) (He.free_ok X G (c.d.fact 28 (f := .free "tuple") rfl)) (He.free_ok X G (c.d.fact 25 (f := .free "sorted") rfl))
  have h__law_ways := ok__law_ways (P := P) (w := w) (K := K) (mg := mg) (base := base) (k := 0) F__law_ways (He.glo_ok X G (c.d.fact 10 (f := .glo "_law_ways") rfl)) (F__law_ways.bindsN fun _ _ _ _ _ _ us hl => match us, hl with | [_], _ => rfl) (He.free_ok X G (c.d.fact 24 (f := .free "range") rfl))
  have h_o__law_pull := ok_o__law_pull (P := P) (w := w) (K := K) (mg := mg) (base := base) (k := 0) F__law_pull (He.glo_ok X G (c.d.fact 8 (f := .glo "_law_pull") rfl)) (F__law_pull.bindsN fun _ _ _ _ _ _ us hl => match us, hl with | [_, _], _ => rfl) (He.free_ok X G (c.d.fact 20 (f := .free "len") rfl))
  have h__law_pull := ok__law_pull (P := P) (w := w) (K := K) (mg := mg) (base := base) (k := 1) (h_o__law_pull.mono (by decide))
  have h__law_whole := ok__law_whole (P := P) (w := w) (K := K) (mg := mg) (base := base) (k := 0) F__law_whole (He.glo_ok X G (c.d.fact 11 (f := .glo "_law_whole") rfl)) (F__law_whole.bindsN fun _ _ _ _ _ _ us hl => match us, hl with | [_], _ => rfl) (He.free_ok X G (c.d.fact 19 (f := .free "isinstance") rfl)) (He.free_ok X G (c.d.fact 18 (f := .free "int") rfl)) (He.free_ok X G (c.d.fact 17 (f := .free "bool") rfl))
  have h_o__law_whole := ok_o__law_whole (P := P) (w := w) (K := K) (mg := mg) (base := base) (k := 0) F__law_whole (He.glo_ok X G (c.d.fact 11 (f := .glo "_law_whole") rfl)) (F__law_whole.bindsN fun _ _ _ _ _ _ us hl => match us, hl with | [_], _ => rfl) (He.free_ok X G (c.d.fact 19 (f := .free "isinstance") rfl)) (He.free_ok X G (c.d.fact 18 (f := .free "int") rfl)) (He.free_ok X G (c.d.fact 17 (f := .free "bool") rfl))
  have h_o__law_alike := ok_o__law_alike (P := P) (w := w) (K := K) (mg := mg) (base := base) F__law_alike (He.glo_ok X G (c.d.fact 3 (f := .glo "_law_alike") rfl)) (F__law_alike.bindsN fun _ _ _ _ _ _ us hl => match us, hl with | [_, _], _ => rfl) (He.free_ok X G (c.d.fact 19 (f := .free "isinstance") rfl)) (He.free_ok X G (c.d.fact 17 (f := .free "bool") rfl)) (He.free_ok X G (c.d.fact 18 (f := .free "int") rfl)) (He.free_ok X G (c.d.fact 26 (f := .free "str") rfl)) (He.free_ok X G (c.d.fact 16 (f := .free "all") rfl)) (h_o__law_whole.mono (by decide)) (He.free_ok X G (c.d.fact 21 (f := .free "list") rfl)) (He.free_ok X G (c.d.fact 28 (f := .free "tuple") rfl)) (He.free_ok X G (c.d.fact 20 (f := .free "len") rfl)) (He.free_ok X G (c.d.fact 24 (f := .free "range") rfl)) 0 8
  have h__law_alike := ok__law_alike (P := P) (w := w) (K := K) (mg := mg) (base := base) (k := 10) (h_o__law_alike.mono (by decide))
  have h_need_faces := ok_need_faces (P := P) (w := w) (K := K) (mg := mg) (base := base) (k := 0) F_need_faces (He.glo_ok X G (c.d.fact 0 (f := .glo "need_faces") rfl)) (F_need_faces.bindsN fun _ _ _ _ _ _ us hl => match us, hl with | [_], _ => rfl) (He.int_ok X G (c.d.fact 29 (f := .int "LEAST" 3) rfl)) (He.int_ok X G (c.d.fact 30 (f := .int "MOST" 40) rfl)) (exk_of (He.glo_ok X G (c.d.fact 14 (f := .glo "BadFaces") rfl)) (He.exc_ok (c.d.fact 32 (f := .exc "BadFaces") rfl)))
  have h_ways_row := ok_ways_row (P := P) (w := w) (K := K) (mg := mg) (base := base) (k := 0) F_ways_row (He.glo_ok X G (c.d.fact 1 (f := .glo "ways_row") rfl)) (F_ways_row.bindsN fun _ _ _ _ _ _ us hl => match us, hl with | [_], _ => rfl) (He.free_ok X G (c.d.fact 20 (f := .free "len") rfl)) (He.free_ok X G (c.d.fact 27 (f := .free "sum") rfl)) (He.free_ok X G (c.d.fact 24 (f := .free "range") rfl))
  have h_unlike := ok_unlike (P := P) (w := w) (K := K) (mg := mg) (base := base) (k := 1) F_unlike (He.glo_ok X G (c.d.fact 2 (f := .glo "unlike") rfl)) (F_unlike.bindsN fun _ _ _ _ _ _ us hl => match us, hl with | [_], _ => rfl) (h_need_faces.mono (by decide)) (h_ways_row.mono (by decide))
  have h__law_turned := ok__law_turned (P := P) (w := w) (K := K) (mg := mg) (base := base) (k := 1) F__law_turned (He.glo_ok X G (c.d.fact 9 (f := .glo "_law_turned") rfl)) (F__law_turned.bindsN fun _ _ _ _ _ _ us hl => match us, hl with | [_, _], _ => rfl) (He.free_ok X G (c.d.fact 28 (f := .free "tuple") rfl)) (He.free_ok X G (c.d.fact 25 (f := .free "sorted") rfl)) (h__law_pair.mono (by decide))
  have h__law_first := ok__law_first (P := P) (w := w) (K := K) (mg := mg) (base := base) (k := 2) F__law_first (He.glo_ok X G (c.d.fact 6 (f := .glo "_law_first") rfl)) (F__law_first.bindsN fun _ _ _ _ _ _ us hl => match us, hl with | [_], _ => rfl) (He.free_ok X G (c.d.fact 25 (f := .free "sorted") rfl)) (He.free_ok X G (c.d.fact 24 (f := .free "range") rfl)) (h__law_turned.mono (by decide))
  exact ok_law (P := P) (w := w) (K := K) (mg := mg) (base := base) (k := 10) F_law (h_o__law_bag.mono (by decide)) (h__law_pull.mono (by decide)) (h__law_every_plan.mono (by decide)) (h__law_alike.mono (by decide)) (h_unlike.mono (by decide)) (He.free_ok X G (c.d.fact 20 (f := .free "len") rfl)) (h__law_ways.mono (by decide)) (He.free_ok X G (c.d.fact 24 (f := .free "range") rfl)) (h__law_first.mono (by decide))
end Tx
open PySem PySem.W PySem.Calls PyProof.Rows
theorem PySem.Challenge.cw_pinchfold_k09_unlike_plans_counted_holds : PySem.Challenge.rw_pinchfold_k09_unlike_plans_counted.Holds := by
  w_on; o_law
  refine HandSHeadRun.head_any (r := OpenLaw.row PySem.Challenge.rw_pinchfold_k09_unlike_plans_counted) (q := view (OpenLaw.row PySem.Challenge.rw_pinchfold_k09_unlike_plans_counted).prog [19]) (H := Tx.Hd.hk) (ob := Tx.Hd.ob) (M := 6000) (loose := Tx.Hd.loose) (d := HandSHeadRun.topDef (OpenLaw.row PySem.Challenge.rw_pinchfold_k09_unlike_plans_counted).prog 19) (kwd := []) Tx.Hd.ob_eq
    (by kernel_rfl) (fun s => by kernel_rfl) Tx.Hd.run (by kernel_rfl) (by kernel_rfl) (by kernel_rfl) (by rfl) (by first | assumption | decide +kernel) (by decide +kernel) ⟨rfl, rfl, rfl, rfl, rfl, by decide +kernel⟩ ?hw ?hc
  case hw => w_witness2
  case hc =>
    refine TL.walk_xT (l := PySem.Challenge.rw_pinchfold_k09_unlike_plans_counted) (m := 63) (j := 11) (x := "_law_script") rfl (by decide) (by kernel_rfl) ⟨rfl, by decide, by decide⟩ ?_
    intro w mg fa h Y G hmg0
    obtain ⟨K0, KX, c⟩ := Y
    have hmg : mg ("law" : PySem.Str) = some (.ref fa) := by
      have e : (HandSHeadRun.topDef (OpenLaw.row PySem.Challenge.rw_pinchfold_k09_unlike_plans_counted).prog 19).name = ("law" : PySem.Str) := by kernel_rfl
      rw [← e]
      exact hmg0
    exact ⟨_, c.kin KX, TL.lawAt c KX (Tx.facts (P := (PySem.Challenge.rw_pinchfold_k09_unlike_plans_counted).prog) (w := w) rfl KX G hmg c)⟩
