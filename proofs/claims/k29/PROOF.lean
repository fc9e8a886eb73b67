import PyProof.Rows.All
import Wide.All
import OpenK.AllK
import Wide.FinOn
import HandS.Base
import HandS.Call
import HandS.List
import HandS.Exc
import HandS.ExcOwn
import HandS.Defaults
import HandS.HeadHook1
import HandS.HeadHook2
import HandS.Lambda
import HandS.Deep
import HandS.Wide
import HandS.TupAny
import HandS.SortInts
import KE.SortData
import HandS.Comp
import HandS.TryMany
import HandS.TryOnly
import HandS.HeadEnd
import HandS.Words
import HandS.WordsExc
import HandS.EndBits
import HandS.Iter
import HandS.Walk
import KE.GoesEnum
import KE.GoesMore
import HandS.IsInst
import HandS.Text
import HandS.Dict
import HandS.Conv
import HandS.Style
import HandS.TupLe
import PyProof.StrOps2
import HandS.FStr
import HandS.RaiseMore
import HandS.TupSets
import HandS.HeadHook4
import HandS.HeadWalk
import KE.KDictDisplayH
import HandS.TupLen
import KE.DataMinMax
import HandS.MakeKwOnly
import HandS.More
import HandS.DictTup
import KE.KDictCopyH
import KE.KeyNested
import KE.KDictKeyed
import KE.KStateDown
import Lean
import HandS.Head0
import HandS.Head1
import HandS.Head2
import PySem.Challenge.RW_pinchfold_k29_whole_no_shorter_tour
set_option Elab.async false
set_option linter.all false
set_option maxRecDepth 100000
set_option maxHeartbeats 4000000
namespace TL
open PySem PySem.Spec PyProof.Rows L2
abbrev Frag := PySem.W.Frag
abbrev SS := L2.St
def Ex (H H' : Hp) : Prop := ∀ a o, H a = some o → H' a = some o
theorem Ex.refl (H : Hp) : Ex H H := fun _ _ h => h
theorem Ex.trans {H H1 H2 : Hp} (a : Ex H H1) (b : Ex H1 H2) : Ex H H2 := fun x o h => b x o (a x o h)
theorem Ex.new {H : Hp} {p : Addr} {o : HO} (h : H p = none) : Ex H (upd H p o) := fun a u e => by
  rw [upd_ne (ne_of_none e h)]; exact e
theorem Ex.mut {H H' : Hp} {p : Addr} {o : HO} (e : Ex H H') (h : H p = none) : Ex H (upd H' p o) := fun a u ha => by
  rw [upd_ne (ne_of_none ha h)]; exact e a u ha
theorem Ex.none {H H' : Hp} (e : Ex H H') {a : Addr} (h : H' a = none) : H a = none := by
  cases q : H a with
  | none => rfl
  | some o => rw [e a o q] at h; cases h
theorem ex_rd {H H' : Hp} {a : Addr} {u : HO} (e : Ex H H') (h : Rd H a u) : Rd H' a u := by
  rcases h with h | ⟨o, h⟩
  · exact .inl (e a _ h)
  · exact .inr ⟨o, e a _ h⟩
theorem ex_l {K : Frag} {H H' : Hp} {a : Addr} {xs : List V} (e : Ex H H') (h : SqL K H a xs) : SqL K H' a xs := by
  rcases h with h | h
  · exact .inl (ex_rd e h)
  · exact .inr h
theorem ex_t {K : Frag} {H H' : Hp} {a : Addr} {xs : List V} (e : Ex H H') (h : SqT K H a xs) : SqT K H' a xs := by
  rcases h with h | h
  · exact .inl (ex_rd e h)
  · exact .inr h
def kD : Key → PyData
  | .inl i => .int i
  | .inr s => .str s
def kitTys : List String := ["NoneType", "bool", "int", "str", "list", "tuple", "dict"]
/-- a class of the program's own that is none of the kit's types -/
structure InsK (K : Frag) (n : Str) : Prop where
  cls : Cls K (He.ga K n)
  c1 : PySem.W.findIn K (.ref (He.ga K n)) (Str.ofString "__class__") = some (some (.builtin "object.__class__"))
  c2 : PySem.W.specialIn K (.builtin "object.__class__") (Str.ofString "__get__") = some (some (.builtin "getset_descriptor.__get__"))
  c3 : PySem.W.takesIn K (.builtin "object.__class__") = some true
  c4 : PySem.W.mroIn K (He.ga K n) (.type "object") = some true
  kit : ∀ T ∈ kitTys, PySem.W.kitOne K (.ref (He.ga K n)) (.type T) = some false
/-- the one tuple of the module that becomes data -/
abbrev startD : PyData := .tuple [.int 0, .int 1, .int 0]
abbrev startV : List V := [.int 0, .int 1, .int 0]
mutual
inductive Dq (K : Frag) (H : Hp) : V → PyData → Prop
  | non : Dq K H .non .none
  | bl (b : Bool) : Dq K H (.bl b) (.bool b)
  | int (i : Int) : Dq K H (.int i) (.int i)
  | str (x : Str) : Dq K H (.str x) (.str x)
  | lst {a : Addr} {xs : List V} {ds : List PyData} : SqL K H a xs → DqAll K H xs ds → Dq K H (.ref a) (.list ds)
  | tup {a : Addr} {xs : List V} {ds : List PyData} : H a = some (.tup xs) → DqAll K H xs ds → Dq K H (.ref a) (.tuple ds)
  | ktup {a : Addr} : (∀ H, SqT K H a startV) → Dq K H (.ref a) startD
  | dct {a : Addr} {vs : List (List Key × V)} {kvs : List (PyData × PyData)} : H a = some (.dT vs) → DqT K H vs kvs → Dq K H (.ref a) (.dict ((.none, .none) :: kvs))
  | dck {a : Addr} {vs : List (Key × V)} {kvs : List (PyData × PyData)} : H a = some (.dK vs) → DqK K H vs kvs → Dq K H (.ref a) (.dict kvs)
  | ins {a dx : Addr} {n : Str} {vs : List (Str × V)} {kvs : List (PyData × PyData)} : InsK K n → H a = some (.ins (He.ga K n) dx vs) → DqF K H vs kvs → Dq K H (.ref a) (.dict ((.bool true, .str n) :: kvs))
inductive DqAll (K : Frag) (H : Hp) : List V → List PyData → Prop
  | nil : DqAll K H [] []
  | cons {v : V} {vs : List V} {d : PyData} {ds : List PyData} : Dq K H v d → DqAll K H vs ds → DqAll K H (v :: vs) (d :: ds)
inductive DqT (K : Frag) (H : Hp) : List (List Key × V) → List (PyData × PyData) → Prop
  | nil : DqT K H [] []
  | cons {k : List Key} {v : V} {vs : List (List Key × V)} {d : PyData} {ds : List (PyData × PyData)} : Dq K H v d → DqT K H vs ds → DqT K H ((k, v) :: vs) ((.tuple (k.map kD), d) :: ds)
inductive DqK (K : Frag) (H : Hp) : List (Key × V) → List (PyData × PyData) → Prop
  | nil : DqK K H [] []
  | cons {k : Key} {v : V} {vs : List (Key × V)} {d : PyData} {ds : List (PyData × PyData)} : Dq K H v d → DqK K H vs ds → DqK K H ((k, v) :: vs) ((kD k, d) :: ds)
inductive DqF (K : Frag) (H : Hp) : List (Str × V) → List (PyData × PyData) → Prop
  | nil : DqF K H [] []
  | cons {k : Str} {v : V} {vs : List (Str × V)} {d : PyData} {ds : List (PyData × PyData)} : Dq K H v d → DqF K H vs ds → DqF K H ((k, v) :: vs) ((.str k, d) :: ds)
end
section
variable {K : Frag} {H H' : Hp}
mutual
theorem dp_mono (e : Ex H H') : ∀ (d : PyData) (v : V), Dq K H v d → Dq K H' v d
  | _, _, .non => .non
  | _, _, .bl b => .bl b
  | _, _, .int i => .int i
  | _, _, .str x => .str x
  | _, _, .lst hs ha => .lst (ex_l e hs) (dpa_mono e _ _ ha)
  | _, _, .tup hs ha => .tup (e _ _ hs) (dpa_mono e _ _ ha)
  | _, _, .ktup hs => .ktup hs
  | _, _, .dct hs ha => .dct (e _ _ hs) (dqt_mono e _ _ ha)
  | _, _, .dck hs ha => .dck (e _ _ hs) (dqk_mono e _ _ ha)
  | _, _, .ins hk hs ha => .ins hk (e _ _ hs) (dqf_mono e _ _ ha)
theorem dpa_mono (e : Ex H H') : ∀ (ds : List PyData) (vs : List V), DqAll K H vs ds → DqAll K H' vs ds
  | _, _, .nil => .nil
  | _, _, .cons h1 h2 => .cons (dp_mono e _ _ h1) (dpa_mono e _ _ h2)
theorem dqt_mono (e : Ex H H') : ∀ (ds : List (PyData × PyData)) (vs : List (List Key × V)), DqT K H vs ds → DqT K H' vs ds
  | _, _, .nil => .nil
  | _, _, .cons h1 h2 => .cons (dp_mono e _ _ h1) (dqt_mono e _ _ h2)
theorem dqk_mono (e : Ex H H') : ∀ (ds : List (PyData × PyData)) (vs : List (Key × V)), DqK K H vs ds → DqK K H' vs ds
  | _, _, .nil => .nil
  | _, _, .cons h1 h2 => .cons (dp_mono e _ _ h1) (dqk_mono e _ _ h2)
theorem dqf_mono (e : Ex H H') : ∀ (ds : List (PyData × PyData)) (vs : List (Str × V)), DqF K H vs ds → DqF K H' vs ds
  | _, _, .nil => .nil
  | _, _, .cons h1 h2 => .cons (dp_mono e _ _ h1) (dqf_mono e _ _ h2)
end
mutual
theorem dq_dp : ∀ (d : PyData) (v : V), d.canLay0 = true → Dq K H v d → Dp K H v d
  | .none, _, _, h => by cases h; exact .non
  | .bool b, _, _, h => by cases h; exact .bl b
  | .int i, _, _, h => by cases h; exact .int i
  | .str x, _, _, h => by cases h; exact .str x
  | .list ds, _, c, h => by
    cases h with
    | lst hs ha => exact .lst hs (dqa_dpa ds _ (by simpa [PyData.canLay0] using c) ha)
  | .tuple ds, _, c, h => by
    cases h with
    | tup hs ha => exact .tup (SqT.of hs) (dqa_dpa ds _ (by simpa [PyData.canLay0] using c) ha)
    | ktup hs => exact .tup (hs H) (.cons (.int 0) (.cons (.int 1) (.cons (.int 0) .nil)))
  | .dict _, _, c, _ => nomatch c
theorem dqa_dpa : ∀ (ds : List PyData) (vs : List V), PyData.canLayAll0 ds = true → DqAll K H vs ds → DpAll K H vs ds
  | [], _, _, h => by cases h; exact .nil
  | d :: ds, _, c, h => by
    have c' : d.canLay0 = true ∧ PyData.canLayAll0 ds = true := by simpa [PyData.canLayAll0] using c
    cases h with
    | cons h1 h2 => exact .cons (dq_dp d _ c'.1 h1) (dqa_dpa ds _ c'.2 h2)
end
theorem shp_lay {d : PyData} (h : SeqAt.shaped d = true) : d.canLay0 = true := (Bool.and_eq_true_iff.mp h).1
theorem dp_int {v : V} {i : Int} (h : Dq K H v (.int i)) : v = .int i := by cases h; rfl
theorem dp_str {v : V} {i : Str} (h : Dq K H v (.str i)) : v = .str i := by cases h; rfl
theorem dp_bl {v : V} {i : Bool} (h : Dq K H v (.bool i)) : v = .bl i := by cases h; rfl
theorem dp_non {v : V} (h : Dq K H v .none) : v = .non := by cases h; rfl
theorem dp_lst {v : V} {ds : List PyData} (h : Dq K H v (.list ds)) : ∃ a xs, v = .ref a ∧ SqL K H a xs ∧ DqAll K H xs ds := by
  cases h with
  | lst hs ha => exact ⟨_, _, rfl, hs, ha⟩
theorem dp_tup {v : V} {ds : List PyData} (h : Dq K H v (.tuple ds)) : ∃ a xs, v = .ref a ∧ SqT K H a xs ∧ DqAll K H xs ds := by
  cases h with
  | tup hs ha => exact ⟨_, _, rfl, SqT.of hs, ha⟩
  | ktup hs => exact ⟨_, _, rfl, hs H, .cons (.int 0) (.cons (.int 1) (.cons (.int 0) .nil))⟩
theorem dp_tup' {v : V} {ds : List PyData} (hn : ds ≠ [.int 0, .int 1, .int 0]) (h : Dq K H v (.tuple ds)) : ∃ a xs, v = .ref a ∧ H a = some (.tup xs) ∧ DqAll K H xs ds := by
  cases h with
  | tup hs ha => exact ⟨_, _, rfl, hs, ha⟩
  | ktup hs => exact absurd rfl hn
theorem dpa_len : ∀ {vs : List V} {ds : List PyData}, DqAll K H vs ds → vs.length = ds.length
  | _, [], h => by cases h; rfl
  | _, _ :: _, h => by
    cases h with
    | cons h1 h2 => exact congrArg Nat.succ (dpa_len h2)
theorem dpa_get : ∀ {ds : List PyData} {vs : List V} {i : Nat} {d : PyData}, DqAll K H vs ds → ds[i]? = some d → ∃ v, vs[i]? = some v ∧ Dq K H v d
  | [], _, _, _, _, e => by simp at e
  | x :: ds, _, 0, d, h, e => by
    cases h with
    | cons h1 h2 =>
      have e' : x = d := Option.some.inj e
      subst e'
      exact ⟨_, rfl, h1⟩
  | x :: ds, _, i + 1, d, h, e => by
    cases h with
    | cons h1 h2 => exact dpa_get (i := i) h2 e
theorem dpa_of : ∀ {ds : List PyData} {vs : List V} {i : Nat} {v : V}, DqAll K H vs ds → vs[i]? = some v → ∃ d, ds[i]? = some d ∧ Dq K H v d
  | [], _, _, _, h, e => by cases h; simp at e
  | x :: ds, _, 0, v, h, e => by
    cases h with
    | cons h1 h2 =>
      have e' := Option.some.inj e
      subst e'
      exact ⟨_, rfl, h1⟩
  | x :: ds, _, i + 1, d, h, e => by
    cases h with
    | cons h1 h2 => exact dpa_of (i := i) h2 e
theorem dpa_app : ∀ {ds es : List PyData} {vs ws : List V}, DqAll K H vs ds → DqAll K H ws es → DqAll K H (vs ++ ws) (ds ++ es)
  | [], _, _, _, h, g => by cases h; exact g
  | _ :: _, _, _, _, h, g => by
    cases h with
    | cons h1 h2 => exact .cons h1 (dpa_app h2 g)
theorem dpa_one {v : V} {d : PyData} (h : Dq K H v d) : DqAll K H [v] [d] := .cons h .nil
theorem dpa_set : ∀ {ds : List PyData} {vs : List V} (i : Nat) {v : V} {d : PyData}, DqAll K H vs ds → Dq K H v d → DqAll K H (vs.set i v) (ds.set i d)
  | [], _, _, _, _, h, _ => by cases h; exact .nil
  | _ :: _, _, 0, _, _, h, g => by
    cases h with
    | cons h1 h2 => exact .cons g h2
  | _ :: _, _, i + 1, _, _, h, g => by
    cases h with
    | cons h1 h2 => exact .cons h1 (dpa_set i h2 g)
theorem dpa_take : ∀ (n : Nat) {ds : List PyData} {vs : List V}, DqAll K H vs ds → DqAll K H (vs.take n) (ds.take n)
  | 0, _, _, _ => .nil
  | _ + 1, [], _, h => by cases h; exact .nil
  | n + 1, _ :: _, _, h => by
    cases h with
    | cons h1 h2 => exact .cons h1 (dpa_take n h2)
theorem dpa_drop : ∀ (n : Nat) {ds : List PyData} {vs : List V}, DqAll K H vs ds → DqAll K H (vs.drop n) (ds.drop n)
  | 0, _, _, h => h
  | _ + 1, [], _, h => by cases h; exact .nil
  | n + 1, _ :: _, _, h => by
    cases h with
    | cons h1 h2 => exact dpa_drop n h2
theorem dpa_ints : ∀ (ns : List Int), DqAll K H (ns.map V.int) (ns.map PyData.int)
  | [] => .nil
  | n :: ns => .cons (.int n) (dpa_ints ns)
theorem dpa_ints_eq : ∀ {ns : List Int} {vs : List V}, DqAll K H vs (ns.map PyData.int) → vs = ns.map V.int
  | [], _, h => by
    have h' : DqAll K H _ [] := h
    cases h'; rfl
  | n :: ns, _, h => by
    have h' : DqAll K H _ (.int n :: ns.map PyData.int) := h
    cases h' with
    | cons h1 h2 => rw [dp_int h1, dpa_ints_eq h2]; rfl
end
structure Lam where
  q : Str
  ps : Arguments
  bd : Expr
  sc : Scope
  cl : List (Str × Addr)
abbrev Lam.ob (l : Lam) (c : Addr) (pm ct : Value) : Obj := PySem.W.kla_obj "<lambda>" l.q l.ps l.bd l.sc l.cl pm c ct
def LamO (f : Addr) (l : Lam) (c : Addr) : HO := .ext fun h => ∃ pm ct, h.get? f = some (l.ob c pm ct)
def IsLam (F : Hp) (v : V) (l : Lam) : Prop := ∃ f c, v = .ref f ∧ F f = some (LamO f l c) ∧ F c = some (LamX.CodeO c l.q)
def LamsAre (F : Hp) : List V → List Lam → Prop
  | [], [] => True
  | v :: vs, l :: ls => IsLam F v l ∧ LamsAre F vs ls
  | _, _ => False
theorem IsLam.mono {F F' : Hp} {v : V} {l : Lam} (h : IsLam F v l) (e : Ex F F') : IsLam F' v l := by
  obtain ⟨f, c, h1, h2, h3⟩ := h
  exact ⟨f, c, h1, e _ _ h2, e _ _ h3⟩
theorem LamsAre.mono {F F' : Hp} (e : Ex F F') : ∀ {vs : List V} {ls : List Lam}, LamsAre F vs ls → LamsAre F' vs ls
  | [], [], _ => trivial
  | _ :: _, _ :: _, ⟨h1, h2⟩ => ⟨h1.mono e, h2.mono e⟩
/-- a bag of draws -/
def BagD (ds : List PyData) : Prop := ∃ (cells : List Int) (i s t : Int), ds = [.list (cells.map .int), .int i, .int s, .int t] ∧ (∀ c ∈ cells, 0 ≤ c) ∧ 0 ≤ i ∧ 0 ≤ s ∧ 0 ≤ t ∧ t < 2147483629
def notbl : HO → Bool
  | .tbl _ => false
  | _ => true
structure OwT where
  id : Addr
  fp : List Addr
  ok : Frag → Hp → Hp → V → Prop
  isr : ∀ {K : Frag} {F H : Hp} {v : V}, ok K F H v → v = .ref id
  mono : ∀ {K : Frag} {F F' H H' : Hp} {v : V}, Ex F F' → (∀ a ∈ fp, ∀ u, H a = some u → H' a = some u) → ok K F H v → ok K F' H' v
  there : ∀ {K : Frag} {F H : Hp} {v : V}, ok K F H v → ∀ a ∈ fp, ∃ u, H a = some u ∧ notbl u = true
  /-- the lists in it -/
  rows : List (Addr × List PyData)
  held : ∀ {K : Frag} {F H : Hp} {v : V}, ok K F H v → ∀ r ∈ rows, ∃ vs, H r.1 = some (.lst vs) ∧ DqAll K F vs r.2
inductive Sl where
  | un
  | d (x : PyData)
  | ol (a : Addr) (ds : List PyData)
  | bg (b : Addr)
  | v (x : V)
  | dt (a : Addr) (kvs : List (List Key × PyData))
  | dk (a : Addr) (kvs : List (Key × PyData))
  | oo (a : Addr) (rows : List (Addr × List PyData))
  | fv (l : Lam)
  | fl (ls : List Lam)
  | ow (t : OwT)
def Sl.fp : Sl → List Addr
  | .ol a _ => [a]
  | .bg a => [a]
  | .dt a _ => [a]
  | .dk a _ => [a]
  | .oo a rows => a :: rows.map (·.1)
  | .ow t => t.fp
  | _ => []
def KVp {κ : Type} (K : Frag) (F : Hp) : List (κ × V) → List (κ × PyData) → Prop := Paired fun p q => p.1 = q.1 ∧ Dq K F p.2 q.2
def SlOk (K : Frag) (F H : Hp) (o : Option V) : Sl → Prop
  | .un => True
  | .d x => ∃ v, o = some v ∧ Dq K F v x
  | .ol a ds => o = some (.ref a) ∧ ∃ vs, H a = some (.lst vs) ∧ DqAll K F vs ds
  | .bg a => o = some (.ref a) ∧ ∃ ds vs, BagD ds ∧ H a = some (.lst vs) ∧ DqAll K F vs ds
  | .v x => o = some x
  | .dt a kvs => o = some (.ref a) ∧ ∃ kvs', H a = some (.dT kvs') ∧ KVp K F kvs' kvs
  | .dk a kvs => o = some (.ref a) ∧ ∃ kvs', H a = some (.dK kvs') ∧ KVp K F kvs' kvs
  | .fv l => ∃ v, o = some v ∧ IsLam F v l
  | .fl ls => ∃ a vs, o = some (.ref a) ∧ F a = some (.lst vs) ∧ LamsAre F vs ls
  | .ow t => ∃ v, o = some v ∧ t.ok K F H v
  | .oo a rows => o = some (.ref a) ∧ H a = some (.lst (rows.map fun r => .ref r.1)) ∧ (a :: rows.map (·.1)).Nodup ∧ ∀ r ∈ rows, ∃ vs, H r.1 = some (.lst vs) ∧ DqAll K F vs r.2
def Own (env : List Sl) (a : Addr) : Prop := ∃ (i : Nat) (s : Sl), env[i]? = some s ∧ a ∈ s.fp
theorem paired_imp {α β : Type} {R S : α → β → Prop} : ∀ {xs : List α} {ys : List β}, Paired R xs ys → (∀ a b, R a b → S a b) → Paired S xs ys
  | _, _, .nil, _ => .nil
  | _, _, .cons r t, f => .cons (f _ _ r) (paired_imp t f)
theorem kvp_mono {κ : Type} {K : Frag} {F F' : Hp} (e : Ex F F') {a : List (κ × V)} {b : List (κ × PyData)} (h : KVp K F a b) : KVp K F' a b :=
  paired_imp h fun _ _ z => ⟨z.1, dp_mono e _ _ z.2⟩
theorem slok_mono {K : Frag} {F F' H H' : Hp} {o : Option V} {s : Sl} (e : Ex F F') (k : ∀ a ∈ s.fp, ∀ u, H a = some u → H' a = some u) (h : SlOk K F H o s) : SlOk K F' H' o s := by
  cases s with
  | un => trivial
  | d x => obtain ⟨v, h1, h2⟩ := h; exact ⟨v, h1, dp_mono e _ _ h2⟩
  | ol a ds => obtain ⟨h1, vs, h2, h3⟩ := h; exact ⟨h1, vs, k a (by simp [Sl.fp]) _ h2, dpa_mono e _ _ h3⟩
  | bg a => obtain ⟨h1, ds, vs, h4, h2, h3⟩ := h; exact ⟨h1, ds, vs, h4, k a (by simp [Sl.fp]) _ h2, dpa_mono e _ _ h3⟩
  | v x => exact h
  | dt a kvs => obtain ⟨h1, vs, h2, h3⟩ := h; exact ⟨h1, vs, k a (by simp [Sl.fp]) _ h2, kvp_mono e h3⟩
  | dk a kvs => obtain ⟨h1, vs, h2, h3⟩ := h; exact ⟨h1, vs, k a (by simp [Sl.fp]) _ h2, kvp_mono e h3⟩
  | fv l => obtain ⟨v, h1, h2⟩ := h; exact ⟨v, h1, h2.mono e⟩
  | fl ls => obtain ⟨a, vs, h1, h2, h3⟩ := h; exact ⟨a, vs, h1, e _ _ h2, h3.mono e⟩
  | ow t => obtain ⟨v, h1, h2⟩ := h; exact ⟨v, h1, t.mono e k h2⟩
  | oo a rows =>
    obtain ⟨h1, h2, h3, h4⟩ := h
    refine ⟨h1, k a (by simp [Sl.fp]) _ h2, h3, fun r hr => ?_⟩
    obtain ⟨vs, q1, q2⟩ := h4 r hr
    exact ⟨vs, k r.1 (List.mem_cons_of_mem _ (List.mem_map_of_mem hr)) _ q1, dpa_mono e _ _ q2⟩
theorem slok_there {K : Frag} {F H : Hp} {o : Option V} {s : Sl} (h : SlOk K F H o s) {a : Addr} (ha : a ∈ s.fp) : H a ≠ none := by
  cases s with
  | un => cases ha
  | ow t => obtain ⟨v, _, h2⟩ := h; obtain ⟨u, h3, _⟩ := t.there h2 a ha; rw [h3]; intro z; cases z
  | fv l => cases ha
  | fl l => cases ha
  | d x => cases ha
  | v x => cases ha
  | ol b ds => obtain ⟨_, vs, h2, _⟩ := h; have e : a = b := by simpa [Sl.fp] using ha
               subst e; rw [h2]; intro z; cases z
  | bg b => obtain ⟨_, ds, vs, _, h2, _⟩ := h; have e : a = b := by simpa [Sl.fp] using ha
            subst e; rw [h2]; intro z; cases z
  | dt b ds => obtain ⟨_, vs, h2, _⟩ := h; have e : a = b := by simpa [Sl.fp] using ha
               subst e; rw [h2]; intro z; cases z
  | dk b ds => obtain ⟨_, vs, h2, _⟩ := h; have e : a = b := by simpa [Sl.fp] using ha
               subst e; rw [h2]; intro z; cases z
  | oo b rows =>
    obtain ⟨_, h2, _, h4⟩ := h
    have ha : a = b ∨ a ∈ rows.map (·.1) := List.mem_cons.mp ha
    rcases ha with rfl | ha
    · rw [h2]; intro z; cases z
    · obtain ⟨r, hr, rfl⟩ := List.mem_map.mp ha
      obtain ⟨vs, q1, _⟩ := h4 r hr
      rw [q1]; intro z; cases z
/-- what stood at a def's entry: the frozen part, the heap, the objects that may be changed -/
structure G where
  F0 : Hp
  H0 : Hp
  M : List Addr
def markOf (q : Addr × Obj) : Option (Addr × Str) := match q.2.data with
  | .fields vs => match vs.toList with
    | [.str m _, .ref P, .str n _] => if m = ("lam!" : Str) then some (P, n) else none
    | _ => none
  | _ => none
def tabsK (K : Frag) : List (Addr × Str) := K.filterMap markOf
def ntb (o : HO) : Prop := ∀ ps, o ≠ .tbl ps
def TabF (F H : Hp) (P : Addr) (q : Str) : Prop := ∃ ps : Array Value, H P = some (.tbl ps) ∧ TriplesOk ps.toList ∧ ∀ (pos : Pos) (cv : Value), codeAmong pos ps.toList = some cv → ∃ c, cv = .ref c ∧ F c = some (LamX.CodeO c q)
structure TkOk (K : Frag) (F H : Hp) : Prop where
  fn : ∀ a ps, F a ≠ some (.tbl ps)
  tb : ∀ p ∈ tabsK K, TabF F H p.1 p.2
structure Sk (K : Frag) (F H : Hp) (σ : SS) (env : List Sl) : Prop where
  len : σ.length = env.length
  sl : ∀ (i : Nat) (s : Sl), env[i]? = some s → SlOk K F H (σ[i]?.getD none) s
  nd : ∀ (i j : Nat) (s t : Sl) (a : Addr), env[i]? = some s → env[j]? = some t → a ∈ s.fp → a ∈ t.fp → i = j
  fr : ∀ a, Own env a → F a = none
  ex : Ex F H
  tf : ∀ (a : Addr) (vs : List V), H a = some (.tup vs) → F a = some (.tup vs)
  tk : TkOk K F H
structure GtOk (K : Frag) (g : G) (H : Hp) : Prop where
  g7 : ∀ a ps, g.H0 a = some (.tbl ps) → H a ≠ none
  g8 : ∀ p ∈ tabsK K, g.H0 p.1 ≠ none
structure St (K : Frag) (g : G) (F H : Hp) (σ : SS) (env : List Sl) : Prop extends Sk K F H σ env where
  g1 : ∀ a o, g.H0 a = some o → a ∉ g.M → ntb o → H a = some o
  g2 : ∀ a, Own env a → g.H0 a = none ∨ a ∈ g.M
  g3 : Ex g.F0 F
  g4 : ∀ a, F a ≠ none → g.F0 a ≠ none ∨ g.H0 a = none
  g5 : ∀ a ∈ g.M, H a ≠ none
  g6 : ∀ a ∈ g.M, g.H0 a ≠ none
  gt : GtOk K g H
section
variable {K : Frag} {g : G} {F F' H H' : Hp} {σ : SS} {env : List Sl} {p : Addr} {o : HO}
theorem TabF.mono {P : Addr} {q : Str} (t : TabF F H P q) (e : Ex F F') (h : ∀ u, H P = some u → H' P = some u) : TabF F' H' P q := by
  obtain ⟨ps, h1, h2, h3⟩ := t
  exact ⟨ps, h _ h1, h2, fun pos cv hc => by obtain ⟨c, e1, e2⟩ := h3 pos cv hc; exact ⟨c, e1, e _ _ e2⟩⟩
theorem TkOk.grow (t : TkOk K F H) (e : Ex H H') : TkOk K F H' := ⟨t.fn, fun p hp => (t.tb p hp).mono (Ex.refl F) fun u q => e _ u q⟩
theorem TkOk.put {p' : Addr} (t : TkOk K F H) (h : ∀ p ∈ tabsK K, p.1 ≠ p') : TkOk K F (upd H p' o) := ⟨t.fn, fun p hp => (t.tb p hp).mono (Ex.refl F) fun u q => by rw [upd_ne (h p hp)]; exact q⟩
theorem TkOk.ne (t : TkOk K F H) {a : Addr} (h : ∀ ps, H a ≠ some (.tbl ps)) : ∀ p ∈ tabsK K, p.1 ≠ a := fun p hp z => by
  obtain ⟨ps, h1, _⟩ := t.tb p hp
  exact h ps (z ▸ h1)
theorem slok_ntb {o : Option V} {s : Sl} (h : SlOk K F H o s) {a : Addr} (ha : a ∈ s.fp) : ∀ ps, H a ≠ some (.tbl ps) := by
  cases s with
  | un => cases ha
  | ow t => obtain ⟨v, _, h2⟩ := h; obtain ⟨u, h3, h4⟩ := t.there h2 a ha; rw [h3]; intro ps z; cases z; cases h4
  | fv l => cases ha
  | fl l => cases ha
  | d x => cases ha
  | v x => cases ha
  | ol b ds => obtain ⟨_, vs, h2, _⟩ := h; have e : a = b := by simpa [Sl.fp] using ha
               subst e; rw [h2]; intro _ z; cases z
  | bg b => obtain ⟨_, ds, vs, _, h2, _⟩ := h; have e : a = b := by simpa [Sl.fp] using ha
            subst e; rw [h2]; intro _ z; cases z
  | dt b ds => obtain ⟨_, vs, h2, _⟩ := h; have e : a = b := by simpa [Sl.fp] using ha
               subst e; rw [h2]; intro _ z; cases z
  | dk b ds => obtain ⟨_, vs, h2, _⟩ := h; have e : a = b := by simpa [Sl.fp] using ha
               subst e; rw [h2]; intro _ z; cases z
  | oo b rows =>
    obtain ⟨_, h2, _, h4⟩ := h
    have ha : a = b ∨ a ∈ rows.map (·.1) := List.mem_cons.mp ha
    rcases ha with rfl | ha
    · rw [h2]; intro _ z; cases z
    · obtain ⟨r, hr, rfl⟩ := List.mem_map.mp ha
      obtain ⟨vs, q1, _⟩ := h4 r hr
      rw [q1]; intro _ z; cases z
theorem Sk.ntb (st : Sk K F H σ env) {a : Addr} (h : Own env a) : ∀ ps, H a ≠ some (.tbl ps) := by
  obtain ⟨i, s, h1, h2⟩ := h
  exact slok_ntb (st.sl i s h1) h2
theorem GtOk.grow (t : GtOk K g H) (e : ∀ a, H' a = none → H a = none) : GtOk K g H' := ⟨fun a ps h z => t.g7 a ps h (e a z), t.g8⟩
theorem Sk.there (st : Sk K F H σ env) {a : Addr} (h : Own env a) : H a ≠ none := by
  obtain ⟨i, s, h1, h2⟩ := h
  exact slok_there (st.sl i s h1) h2
theorem Sk.notown (st : Sk K F H σ env) (h : H p = none) : ¬ Own env p := fun z => st.there z h
/-- the heap grows -/
theorem Sk.grow (st : Sk K F H σ env) (e : Ex H H') (t : ∀ (a : Addr) (vs : List V), H' a = some (.tup vs) → H a = some (.tup vs)) : Sk K F H' σ env :=
  ⟨st.len, fun i s h => slok_mono (Ex.refl F) (fun a _ u q => e a u q) (st.sl i s h), st.nd, st.fr, st.ex.trans e, fun a vs h => st.tf a vs (t a vs h), st.tk.grow e⟩
theorem St.grow (st : St K g F H σ env) (e : Ex H H') (t : ∀ (a : Addr) (vs : List V), H' a = some (.tup vs) → H a = some (.tup vs)) : St K g F H' σ env :=
  { st.toSk.grow e t with g1 := fun a o h m n => e a o (st.g1 a o h m n), gt := st.gt.grow fun a z => e.none z, g2 := st.g2, g3 := st.g3, g4 := st.g4, g5 := fun a m z => st.g5 a m (e.none z), g6 := st.g6 }
theorem St.alloc (st : St K g F H σ env) (h : H p = none) (ht : ∀ vs, o ≠ .tup vs := by intro _ z; cases z) : St K g F (upd H p o) σ env := st.grow (Ex.new h) fun a vs q => by
  by_cases e : a = p
  · subst e; rw [upd_same] at q; exact absurd (Option.some.inj q) (ht vs)
  · rw [upd_ne e] at q; exact q
/-- frozen part and heap grow by what is fresh -/
theorem St.h0 (st : St K g F H σ env) (h : H p = none) : g.H0 p = none := by
  cases q : g.H0 p with
  | none => rfl
  | some u =>
    by_cases m : p ∈ g.M
    · exact absurd h (st.g5 p m)
    · have hn : TL.ntb u := fun ps z => st.gt.g7 p ps (by rw [q, z]) h
      rw [st.g1 p u q m hn] at h; cases h
theorem Sk.freeze (st : Sk K F H σ env) (h : H p = some o) (hF : F p = none) (hn : ¬ Own env p) (hb : TL.ntb o := by intro _ z; cases z) : Sk K (upd F p o) H σ env where
  len := st.len
  sl := fun i s e => slok_mono (Ex.new hF) (fun a _ u q => q) (st.sl i s e)
  nd := st.nd
  fr := fun a ha => by
    have hne : a ≠ p := fun z => hn (z ▸ ha)
    rw [upd_ne hne]; exact st.fr a ha
  ex := fun a u q => by
    by_cases hp : a = p
    · subst hp; rw [upd_same] at q; cases q; exact h
    · rw [upd_ne hp] at q; exact st.ex a u q
  tf := fun a vs q => by
    by_cases hp : a = p
    · subst hp; rw [h] at q; cases q; exact upd_same
    · rw [upd_ne hp]; exact st.tf a vs q
  tk := ⟨fun a ps q => by
    by_cases hp : a = p
    · subst hp; rw [upd_same] at q; exact hb ps (Option.some.inj q)
    · rw [upd_ne hp] at q; exact st.tk.fn a ps q, fun r hr => (st.tk.tb r hr).mono (Ex.new hF) fun _ q => q⟩
theorem St.freeze (st : St K g F H σ env) (h : H p = some o) (hF : F p = none) (hn : ¬ Own env p) (h0 : g.H0 p = none) (hb : TL.ntb o := by intro _ z; cases z) : St K g (upd F p o) H σ env :=
  { st.toSk.freeze h hF hn hb with
    gt := st.gt,
    g1 := st.g1, g2 := st.g2, g3 := st.g3.trans (Ex.new hF), g5 := st.g5, g6 := st.g6,
    g4 := fun a ha => by
      by_cases hp : a = p
      · subst hp; exact .inr h0
      · rw [upd_ne hp] at ha; exact st.g4 a ha }
theorem St.allocF (st : St K g F H σ env) (h : H p = none) (hb : TL.ntb o := by intro _ z; cases z) : St K g (upd F p o) (upd H p o) σ env where
  len := st.len
  sl := fun i s e => slok_mono (Ex.new (st.ex.none h)) (fun a _ u q => Ex.new h a u q) (st.sl i s e)
  nd := st.nd
  fr := fun a ha => by
    have hne : a ≠ p := fun z => st.toSk.notown h (z ▸ ha)
    rw [upd_ne hne]; exact st.fr a ha
  ex := fun a u q => by
    by_cases e : a = p
    · subst e; rw [upd_same] at q; rw [upd_same]; exact q
    · rw [upd_ne e] at q; rw [upd_ne e]; exact st.ex a u q
  tf := fun a vs q => by
    by_cases e : a = p
    · subst e; rw [upd_same] at q; rw [upd_same]; exact q
    · rw [upd_ne e] at q; rw [upd_ne e]; exact st.tf a vs q
  tk := ⟨fun a ps q => by
    by_cases hp : a = p
    · subst hp; rw [upd_same] at q; exact hb ps (Option.some.inj q)
    · rw [upd_ne hp] at q; exact st.tk.fn a ps q, fun r hr => (st.tk.tb r hr).mono (Ex.new (st.ex.none h)) fun u q => Ex.new h _ u q⟩
  gt := st.gt.grow fun a z => by
    by_cases e : a = p
    · subst e; exact h
    · rw [upd_ne e] at z; exact z
  g1 := fun a u q m n => by
    have hne : a ≠ p := fun z => by subst z; have := st.g1 a u q m n; rw [h] at this; cases this
    rw [upd_ne hne]; exact st.g1 a u q m n
  g2 := st.g2
  g3 := st.g3.trans (Ex.new (st.ex.none h))
  g4 := fun a ha => by
    by_cases e : a = p
    · subst e; exact .inr (st.h0 h)
    · rw [upd_ne e] at ha; exact st.g4 a ha
  g5 := fun a m z => by
    by_cases e : a = p
    · subst e; rw [upd_same] at z; cases z
    · rw [upd_ne e] at z; exact st.g5 a m z
  g6 := st.g6
theorem getD_set {σ : SS} {i j : Nat} {v : V} (hl : i < σ.length) : ((σ.set i (some v))[j]?.getD none) = if i = j then some v else (σ[j]?.getD none) := by
  rw [List.getElem?_set]
  by_cases h : i = j
  · subst h; rw [if_pos rfl, if_pos rfl, if_pos hl]; rfl
  · rw [if_neg h, if_neg h]
theorem set_get {env : List Sl} {i j : Nat} {s t : Sl} (h : (env.set i s)[j]? = some t) : (i = j ∧ t = s) ∨ (i ≠ j ∧ env[j]? = some t) := by
  rw [List.getElem?_set] at h
  by_cases e : i = j
  · subst e
    rw [if_pos rfl] at h
    split at h
    · exact .inl ⟨rfl, (Option.some.inj h).symm⟩
    · cases h
  · rw [if_neg e] at h; exact .inr ⟨e, h⟩
theorem own_set {i : Nat} {s : Sl} {a : Addr} (h : Own (env.set i s) a) : a ∈ s.fp ∨ Own env a := by
  obtain ⟨j, t, h1, h2⟩ := h
  rcases set_get h1 with ⟨_, rfl⟩ | ⟨_, h1⟩
  · exact .inl h2
  · exact .inr ⟨j, t, h1, h2⟩
/-- a slot is stored: s is a new description, its footprint new or the slot's own -/
theorem Sk.set {i : Nat} {v : V} {s : Sl} (st : Sk K F H σ env) (hi : i < env.length) (h : SlOk K F H (some v) s) (hfr : ∀ a ∈ s.fp, F a = none)
    (hn : ∀ a ∈ s.fp, ∀ (j : Nat) (t : Sl), j ≠ i → env[j]? = some t → a ∉ t.fp) : Sk K F H (σ.set i (some v)) (env.set i s) where
  len := by rw [List.length_set, List.length_set]; exact st.len
  sl := fun j t e => by
    rw [getD_set (by rw [st.len]; exact hi)]
    rcases set_get e with ⟨rfl, rfl⟩ | ⟨ne, e⟩
    · rw [if_pos rfl]; exact h
    · rw [if_neg ne]; exact st.sl j t e
  nd := fun j k t u a ej ek ht hu => by
    rcases set_get ej with ⟨rfl, rfl⟩ | ⟨ne, ej2⟩
    · rcases set_get ek with ⟨rfl, rfl⟩ | ⟨ne2, ek⟩
      · rfl
      · exact absurd hu (hn a ht k u (Ne.symm ne2) ek)
    · rcases set_get ek with ⟨rfl, rfl⟩ | ⟨ne2, ek⟩
      · exact absurd ht (hn a hu j t (Ne.symm ne) ej2)
      · exact st.nd j k t u a ej2 ek ht hu
  fr := fun a ha => by
    rcases own_set ha with h1 | h1
    · exact hfr a h1
    · exact st.fr a h1
  ex := st.ex
  tf := st.tf
  tk := st.tk
theorem St.set {i : Nat} {v : V} {s : Sl} (st : St K g F H σ env) (hi : i < env.length) (h : SlOk K F H (some v) s) (hfr : ∀ a ∈ s.fp, F a = none)
    (hn : ∀ a ∈ s.fp, ∀ (j : Nat) (t : Sl), j ≠ i → env[j]? = some t → a ∉ t.fp) (hg : ∀ a ∈ s.fp, g.H0 a = none ∨ a ∈ g.M) : St K g F H (σ.set i (some v)) (env.set i s) :=
  { st.toSk.set hi h hfr hn with
    g1 := st.g1, gt := st.gt, g3 := st.g3, g4 := st.g4, g5 := st.g5, g6 := st.g6,
    g2 := fun a ha => by
      rcases own_set ha with h1 | h1
      · exact hg a h1
      · exact st.g2 a h1 }
theorem St.setD {i : Nat} {v : V} {x : PyData} (st : St K g F H σ env) (hi : i < env.length) (h : Dq K F v x) : St K g F H (σ.set i (some v)) (env.set i (.d x)) :=
  st.set hi ⟨v, rfl, h⟩ (fun _ h => by cases h) (fun _ h => by cases h) (fun _ h => by cases h)
theorem St.setL {i : Nat} {a : Addr} {vs : List V} {ds : List PyData} (st : St K g F H σ env) (hi : i < env.length) (hH : H a = some (.lst vs)) (hd : DqAll K F vs ds) (hF : F a = none) (hn : ¬ Own env a) (h0 : g.H0 a = none) :
    St K g F H (σ.set i (some (.ref a))) (env.set i (.ol a ds)) := by
  have one : ∀ b ∈ (Sl.ol a ds).fp, b = a := fun b hb => by simpa [Sl.fp] using hb
  exact st.set (s := .ol a ds) hi ⟨rfl, vs, hH, hd⟩ (fun b hb => by rw [one b hb]; exact hF) (fun b hb j t _ e ht => hn ⟨j, t, e, by rw [← one b hb]; exact ht⟩) (fun b hb => by rw [one b hb]; exact .inl h0)
/-- an object of a slot is changed in place -/
theorem St.write {i : Nat} {a : Addr} {s s' : Sl} {o' : HO} (st : St K g F H σ env) (hs : env[i]? = some s) (ha : s.fp = [a]) (ha' : s'.fp = [a]) (h : SlOk K F (upd H a o') (σ[i]?.getD none) s') (ht : ∀ vs, o' ≠ .tup vs := by intro _ z; cases z) : St K g F (upd H a o') σ (env.set i s') := by
  have own : Own env a := ⟨i, s, hs, by rw [ha]; simp⟩
  have hF : F a = none := st.fr a own
  have hi : i < env.length := (List.getElem?_eq_some_iff.mp hs).1
  have sub : ∀ b, Own (env.set i s') b → Own env b := fun b hb => by
    rcases own_set hb with h1 | h1
    · rw [ha'] at h1
      have e : b = a := by simpa using h1
      rw [e]; exact own
    · exact h1
  have oth : ∀ (j : Nat) (t : Sl), i ≠ j → env[j]? = some t → a ∉ t.fp := fun j t ne e ht => ne (st.nd i j s t a hs e (by rw [ha]; simp) ht)
  refine { len := by rw [List.length_set]; exact st.len, sl := fun j t e => ?_, nd := fun j k t u b ej ek ht hu => ?_, fr := fun b hb => st.fr b (sub b hb), ex := st.ex.mut hF, tf := fun b vs q => by
             by_cases e : b = a
             · subst e; rw [upd_same] at q; exact absurd (Option.some.inj q) (ht vs)
             · rw [upd_ne e] at q; exact st.tf b vs q, tk := st.tk.put (st.tk.ne (st.toSk.ntb own)), gt := st.gt.grow fun b z => by
             by_cases e : b = a
             · subst e; rw [upd_same] at z; cases z
             · rw [upd_ne e] at z; exact z, g1 := fun b u q m n => ?_, g2 := fun b hb => st.g2 b (sub b hb), g3 := st.g3, g4 := st.g4, g5 := fun b m z => ?_, g6 := st.g6 }
  · rcases set_get e with ⟨rfl, rfl⟩ | ⟨ne, e⟩
    · exact h
    · refine slok_mono (Ex.refl F) (fun b hb u q => ?_) (st.sl j t e)
      have hne : b ≠ a := fun z => oth j t ne e (z ▸ hb)
      rw [upd_ne hne]; exact q
  · rcases set_get ej with ⟨rfl, rfl⟩ | ⟨ne, ej2⟩
    · rcases set_get ek with ⟨rfl, rfl⟩ | ⟨ne2, ek⟩
      · rfl
      · rw [ha'] at ht
        have e : b = a := by simpa using ht
        exact absurd (e ▸ hu) (oth k u ne2 ek)
    · rcases set_get ek with ⟨rfl, rfl⟩ | ⟨ne2, ek⟩
      · rw [ha'] at hu
        have e : b = a := by simpa using hu
        exact absurd (e ▸ ht) (oth j t ne ej2)
      · exact st.nd j k t u b ej2 ek ht hu
  · have hne : b ≠ a := fun z => by
      subst z
      rcases st.g2 b own with h1 | h1
      · rw [h1] at q; cases q
      · exact m h1
    rw [upd_ne hne]; exact st.g1 b u q m n
  · by_cases hb : b = a
    · subst hb; rw [upd_same] at z; cases z
    · rw [upd_ne hb] at z; exact st.g5 b m z
/-- a slot's description is weakened -/
theorem St.weak {i : Nat} {s s' : Sl} (st : St K g F H σ env) (hs : env[i]? = some s) (hfp : ∀ a ∈ s'.fp, a ∈ s.fp) (h : SlOk K F H (σ[i]?.getD none) s → SlOk K F H (σ[i]?.getD none) s') : St K g F H σ (env.set i s') := by
  have sub : ∀ b, Own (env.set i s') b → Own env b := fun b hb => by
    rcases own_set hb with h1 | h1
    · exact ⟨i, s, hs, hfp b h1⟩
    · exact h1
  refine { len := by rw [List.length_set]; exact st.len, sl := fun j t e => ?_, nd := fun j k t u b ej ek ht hu => ?_, fr := fun b hb => st.fr b (sub b hb), ex := st.ex, tf := st.tf, tk := st.tk, gt := st.gt,
           g1 := st.g1, g2 := fun b hb => st.g2 b (sub b hb), g3 := st.g3, g4 := st.g4, g5 := st.g5, g6 := st.g6 }
  · rcases set_get e with ⟨rfl, rfl⟩ | ⟨ne, e⟩
    · exact h (st.sl i s hs)
    · exact st.sl j t e
  · rcases set_get ej with ⟨rfl, rfl⟩ | ⟨ne, ej2⟩
    · rcases set_get ek with ⟨rfl, rfl⟩ | ⟨ne2, ek⟩
      · rfl
      · exact st.nd i k s u b hs ek (hfp b ht) hu
    · rcases set_get ek with ⟨rfl, rfl⟩ | ⟨ne2, ek⟩
      · exact st.nd j i t s b ej2 hs ht (hfp b hu)
      · exact st.nd j k t u b ej2 ek ht hu
end
end TL
namespace TL
open PySem PySem.Spec PyProof.Rows L2
inductive Exc where
  | own (n : Str)
def ExcW (K : Frag) (W : WX) (σ : SS) (H : Hp) : Exc → Prop
  | .own n => W (.ref (He.ga K n)) none σ H
structure SemE (X : Cx) (e : Expr) (σ : SS) (H : Hp) (Q : VK) : Prop where
  run : ∀ (pins : List (Addr × Obj)) (s : Shared), Inv X pins σ H s → wpAny (model X.prog X.w) X.A (eval e X.env) (EP X pins σ Q) X.xe s
def semE (X : Cx) (e : Expr) : TE := fun σ H Q => SemE X e σ H Q
structure SemT (X : Cx) (e : Expr) (σ : SS) (H : Hp) (Q : Bool → Hp → Prop) : Prop where
  run : ∀ (pins : List (Addr × Obj)) (s : Shared), Inv X pins σ H s → wpAny (model X.prog X.w) X.A (isTrue e X.env (eval e X.env)) (TP X pins σ Q) X.xe s
def semT (X : Cx) (e : Expr) : TT := fun σ H Q => SemT X e σ H Q
structure SemS (X : Cx) (st : List Stmt) (D : Ends) (σ : SS) (H : Hp) : Prop where
  run : ∀ (pins : List (Addr × Obj)) (s : Shared), Inv X pins σ H s → wpAny (model X.prog X.w) X.A (execs st X.env) (SP X pins D) X.xe s
def semS (X : Cx) (st : List Stmt) : TS := fun D σ H => SemS X st D σ H
section
variable {X : Cx}
theorem peS (e : Expr) : PE X e (semE X e) := ⟨fun pins s _ _ _ I h => h.run pins s I⟩
theorem ptS (e : Expr) : PT X e (semT X e) := ⟨fun pins s _ _ _ I h => h.run pins s I⟩
theorem pssS (st : List Stmt) : PSs X st (semS X st) := ⟨fun pins s _ _ _ I h => h.run pins s I⟩
theorem semE_of {e : Expr} {t : TE} (h : PE X e t) {σ : SS} {H : Hp} {Q : VK} (q : t σ H Q) : semE X e σ H Q := ⟨fun pins s I => h.run pins s σ H Q I q⟩
theorem semT_of {e : Expr} {t : TT} (h : PT X e t) {σ : SS} {H : Hp} {Q : Bool → Hp → Prop} (q : t σ H Q) : semT X e σ H Q := ⟨fun pins s I => h.run pins s σ H Q I q⟩
theorem semS_of {st : List Stmt} {t : TS} (h : PSs X st t) {D : Ends} {σ : SS} {H : Hp} (q : t D σ H) : semS X st D σ H := ⟨fun pins s I => h.run pins s σ H D I q⟩
end
def Hld (env : List Sl) (a : Addr) (ds : List PyData) : Prop := (∃ i : Nat, env[i]? = some (Sl.ol a ds)) ∨ (∃ (i : Nat) (b : Addr) (rows : List (Addr × List PyData)), env[i]? = some (Sl.oo b rows) ∧ (a, ds) ∈ rows) ∨ ∃ (i : Nat) (t : OwT), env[i]? = some (Sl.ow t) ∧ (a, ds) ∈ t.rows
/-- how a value is known: z: by the frozen part; else it is an object that a slot holds -/
def Rd (K : Frag) (F : Hp) (env : List Sl) (z : Bool) (v : V) (d : PyData) : Prop :=
  match z with
  | true => Dq K F v d
  | false => ∃ a ds, Hld env a ds ∧ v = .ref a ∧ d = .list ds
def HX (X : Cx) (g : G) (env : List Sl) (Ψ : Exc → Prop) (W : WX) (σ : SS) : Prop := ∀ c F' H', Ψ c → St X.K g F' H' σ env → ExcW X.K W σ H' c
def WE (X : Cx) (g : G) (e : Expr) (env : List Sl) (Φ : PyData → Bool → Prop) (Ψ : Exc → Prop) : Prop :=
  ∀ (W : WX), Takes X W → ∀ (σ : SS) (F H : Hp), St X.K g F H σ env → HX X g env Ψ W σ →
    ∀ Q : VK, (∀ d z v F' H', Φ d z → St X.K g F' H' σ env → Ex F F' → Rd X.K F' env z v d → Q v H') → semE X e σ H Q
/-- a test -/
def WT (X : Cx) (g : G) (e : Expr) (env : List Sl) (Φ : Bool → Prop) (Ψ : Exc → Prop) : Prop :=
  ∀ (W : WX), Takes X W → ∀ (σ : SS) (F H : Hp), St X.K g F H σ env → HX X g env Ψ W σ →
    ∀ Q : Bool → Hp → Prop, (∀ b F' H', Φ b → St X.K g F' H' σ env → Ex F F' → Q b H') → semT X e σ H Q
/-- a new list, no slot's -/
def NewL (K : Frag) (g : G) (F H : Hp) (env : List Sl) (v : V) (ds : List PyData) : Prop :=
  ∃ p vs, v = .ref p ∧ H p = some (.lst vs) ∧ DqAll K F vs ds ∧ F p = none ∧ ¬ Own env p ∧ g.H0 p = none
def WN (X : Cx) (g : G) (e : Expr) (env : List Sl) (Φ : List PyData → Prop) (Ψ : Exc → Prop) : Prop :=
  ∀ (W : WX), Takes X W → ∀ (σ : SS) (F H : Hp), St X.K g F H σ env → HX X g env Ψ W σ →
    ∀ Q : VK, (∀ ds v F' H', Φ ds → St X.K g F' H' σ env → Ex F F' → NewL X.K g F' H' env v ds → Q v H') → semE X e σ H Q
/-- arguments: data, or a slot handed on -/
inductive Ar where
  | d (x : PyData)
  | s (i : Nat)
def ArOk (K : Frag) (F : Hp) (σ : SS) (v : V) : Ar → Prop
  | .d x => Dq K F v x
  | .s i => σ[i]? = some (some v)
def ArAll (K : Frag) (F : Hp) (σ : SS) : List V → List Ar → Prop
  | [], [] => True
  | v :: vs, a :: as => ArOk K F σ v a ∧ ArAll K F σ vs as
  | _, _ => False
section
variable {X : Cx} {g : G} {env : List Sl} {Ψ : Exc → Prop} {pos : Pos} {a b c e : Expr} {K : Frag} {F F' H : Hp} {σ : SS}
theorem rd_mono {z : Bool} {v : V} {d : PyData} (e : Ex F F') (h : Rd K F env z v d) : Rd K F' env z v d := by
  cases z with
  | true => exact dp_mono e _ _ h
  | false => exact h
theorem hld_at {a : Addr} {ds : List PyData} (st : Sk K F H σ env) (h : Hld env a ds) : ∃ vs, H a = some (.lst vs) ∧ DqAll K F vs ds := by
  rcases h with ⟨i, hi⟩ | ⟨i, b, rows, hi, hm⟩ | ⟨i, t, hi, hm⟩
  · exact (st.sl i _ hi).2
  · exact (st.sl i _ hi).2.2.2 _ hm
  · obtain ⟨v, _, h⟩ := st.sl i _ hi
    exact t.held h _ hm
/-- as it stands now -/
theorem rd_now {z : Bool} {v : V} {d : PyData} (st : Sk K F H σ env) (h : Rd K F env z v d) : Dq K H v d := by
  cases z with
  | true => exact dp_mono st.ex _ _ h
  | false =>
    obtain ⟨a, ds, hi, rfl, rfl⟩ := h
    obtain ⟨vs, h2, h3⟩ := hld_at st hi
    exact .lst (SqL.of h2) (dpa_mono st.ex _ _ h3)
theorem rd_nowP {z : Bool} {v : V} {d : PyData} (st : Sk K F H σ env) (h : Rd K F env z v d) (c : SeqAt.shaped d = true) : Dp K H v d := dq_dp _ _ (shp_lay c) (rd_now st h)
/-- a list: where it stands, its items by the frozen part -/
theorem rd_lst {z : Bool} {v : V} {ds : List PyData} (st : Sk K F H σ env) (h : Rd K F env z v (.list ds)) : ∃ a vs, v = .ref a ∧ SqL K H a vs ∧ DqAll K F vs ds := by
  cases z with
  | true =>
    obtain ⟨a, xs, rfl, h2, h3⟩ := dp_lst h
    exact ⟨a, xs, rfl, ex_l st.ex h2, h3⟩
  | false =>
    obtain ⟨a, ds', hi, rfl, e⟩ := h
    injection e with e
    subst e
    obtain ⟨vs, h2, h3⟩ := hld_at st hi
    exact ⟨a, vs, rfl, SqL.of h2, h3⟩
theorem rd_tup {z : Bool} {v : V} {ds : List PyData} (st : Sk K F H σ env) (h : Rd K F env z v (.tuple ds)) : ∃ a vs, v = .ref a ∧ SqT K H a vs ∧ DqAll K F vs ds := by
  cases z with
  | true =>
    obtain ⟨a, xs, rfl, h2, h3⟩ := dp_tup h
    exact ⟨a, xs, rfl, ex_t st.ex h2, h3⟩
  | false => obtain ⟨_, _, _, _, e⟩ := h; cases e
theorem rd_int {z : Bool} {v : V} {i : Int} (h : Rd K F env z v (.int i)) : v = .int i := by
  cases z with
  | true => exact dp_int h
  | false => obtain ⟨_, _, _, _, e⟩ := h; cases e
theorem rd_str {z : Bool} {v : V} {i : Str} (h : Rd K F env z v (.str i)) : v = .str i := by
  cases z with
  | true => exact dp_str h
  | false => obtain ⟨_, _, _, _, e⟩ := h; cases e
theorem rd_bl {z : Bool} {v : V} {i : Bool} (h : Rd K F env z v (.bool i)) : v = .bl i := by
  cases z with
  | true => exact dp_bl h
  | false => obtain ⟨_, _, _, _, e⟩ := h; cases e
theorem rd_non {z : Bool} {v : V} (h : Rd K F env z v .none) : v = .non := by
  cases z with
  | true => exact dp_non h
  | false => obtain ⟨_, _, _, _, e⟩ := h; cases e
theorem WE.mono {Φ Φ' : PyData → Bool → Prop} (h : WE X g e env Φ Ψ) (k : ∀ d z, Φ d z → Φ' d z) : WE X g e env Φ' Ψ :=
  fun W tk σ F H st hx Q hQ => h W tk σ F H st hx Q fun d z v F' H' p => hQ d z v F' H' (k d z p)
/-- a two-place operation on data -/
def DOp (K : Frag) (g : G) (env : List Sl) (r : R2) (d1 : PyData) (z1 : Bool) (d2 : PyData) (z2 : Bool) (Φ : PyData → Bool → Prop) : Prop :=
  ∀ (σ : SS) (F H : Hp) (v1 v2 : V), St K g F H σ env → Rd K F env z1 v1 d1 → Rd K F env z2 v2 d2 →
    ∀ Q : VK, (∀ d z v F' H', Φ d z → St K g F' H' σ env → Ex F F' → Rd K F' env z v d → Q v H') → r v1 v2 H Q
theorem we_op {Φ : PyData → Bool → Prop} {R : PyData → Bool → PyData → Bool → Prop} {r : R2} (hop : PE X e (tOp r (semE X a) (semE X b)))
    (hr : ∀ d1 z1 d2 z2, R d1 z1 d2 z2 → DOp X.K g env r d1 z1 d2 z2 Φ)
    (h : WE X g a env (fun d1 z1 => WE X g b env (fun d2 z2 => R d1 z1 d2 z2) Ψ) Ψ) : WE X g e env Φ Ψ := by
  intro W tk σ F H st hx Q hQ
  refine semE_of hop ?_
  refine h W tk σ F H st hx _ fun d1 z1 v1 F1 H1 h1 st1 e1 r1 => ?_
  refine h1 W tk σ F1 H1 st1 hx _ fun d2 z2 v2 F2 H2 h2 st2 e2 r2 => ?_
  exact hr _ _ _ _ h2 σ F2 H2 v1 v2 st2 (rd_mono e2 r1) r2 Q fun d z v F' H' hp s3 e3 r3 => hQ d z v F' H' hp s3 ((e1.trans e2).trans e3) r3
theorem wt_op {Φ : Bool → Prop} {R : PyData → Bool → PyData → Bool → Prop} {r : R2} (hop : PT X e (tTest (tOp r (semE X a) (semE X b))))
    (hr : ∀ d1 z1 d2 z2, R d1 z1 d2 z2 → DOp X.K g env r d1 z1 d2 z2 (fun d _ => ∃ k, d = .bool k ∧ Φ k))
    (h : WE X g a env (fun d1 z1 => WE X g b env (fun d2 z2 => R d1 z1 d2 z2) Ψ) Ψ) : WT X g e env Φ Ψ := by
  intro W tk σ F H st hx Q hQ
  refine semT_of hop ?_
  refine h W tk σ F H st hx _ fun d1 z1 v1 F1 H1 h1 st1 e1 r1 => ?_
  refine h1 W tk σ F1 H1 st1 hx _ fun d2 z2 v2 F2 H2 h2 st2 e2 r2 => ?_
  refine hr _ _ _ _ h2 σ F2 H2 v1 v2 st2 (rd_mono e2 r1) r2 _ fun d z v F' H' ⟨k, hd, hp⟩ s3 e3 r3 => ?_
  subst hd
  exact ⟨k, rd_bl r3, hQ k F' H' hp s3 ((e1.trans e2).trans e3)⟩
def DUn (K : Frag) (g : G) (env : List Sl) (r : V → Hp → VK → Prop) (d1 : PyData) (z1 : Bool) (Φ : PyData → Bool → Prop) : Prop :=
  ∀ (σ : SS) (F H : Hp) (v1 : V), St K g F H σ env → Rd K F env z1 v1 d1 →
    ∀ Q : VK, (∀ d z v F' H', Φ d z → St K g F' H' σ env → Ex F F' → Rd K F' env z v d → Q v H') → r v1 H Q
theorem dop_of {r : R2} {d1 d2 d : PyData} {z1 z2 z : Bool} {Φ : PyData → Bool → Prop} (hp : Φ d z)
    (h : ∀ (σ : SS) (F H : Hp) (v1 v2 : V) (Q : VK), St K g F H σ env → Rd K F env z1 v1 d1 → Rd K F env z2 v2 d2 → (∀ v, Rd K F env z v d → Q v H) → r v1 v2 H Q) : DOp K g env r d1 z1 d2 z2 Φ :=
  fun σ F H v1 v2 st r1 r2 Q hQ => h σ F H v1 v2 Q st r1 r2 fun v rv => hQ d z v F H hp st (Ex.refl F) rv
theorem dop_l {r r' : R2} {d1 d2 : PyData} {z1 z2 : Bool} {Φ : PyData → Bool → Prop} (h : DOp K g env r d1 z1 d2 z2 Φ) : DOp K g env (fun x y H Q => r x y H Q ∨ r' x y H Q) d1 z1 d2 z2 Φ :=
  fun σ F H v1 v2 st r1 r2 Q hQ => .inl (h σ F H v1 v2 st r1 r2 Q hQ)
theorem dop_r {r r' : R2} {d1 d2 : PyData} {z1 z2 : Bool} {Φ : PyData → Bool → Prop} (h : DOp K g env r' d1 z1 d2 z2 Φ) : DOp K g env (fun x y H Q => r x y H Q ∨ r' x y H Q) d1 z1 d2 z2 Φ :=
  fun σ F H v1 v2 st r1 r2 Q hQ => .inr (h σ F H v1 v2 st r1 r2 Q hQ)
/-- a new object, frozen at once -/
theorem put_lst {p : Addr} {vs : List V} {ds : List PyData} {Φ : PyData → Bool → Prop} {Q : VK} (st : St K g F H σ env) (hn : H p = none) (hd : DqAll K F vs ds) (hp : Φ (.list ds) true)
    (hQ : ∀ d z v F' H', Φ d z → St K g F' H' σ env → Ex F F' → Rd K F' env z v d → Q v H') : Q (.ref p) (upd H p (.lst vs)) := by
  have hF : F p = none := st.ex.none hn
  exact hQ (.list ds) true (.ref p) (upd F p (.lst vs)) _ hp (st.allocF hn) (Ex.new hF) (.lst (SqL.of upd_same) (dpa_mono (Ex.new hF) _ _ hd))
theorem put_tup {p : Addr} {vs : List V} {ds : List PyData} {Φ : PyData → Bool → Prop} {Q : VK} (st : St K g F H σ env) (hn : H p = none) (hd : DqAll K F vs ds) (hp : Φ (.tuple ds) true)
    (hQ : ∀ d z v F' H', Φ d z → St K g F' H' σ env → Ex F F' → Rd K F' env z v d → Q v H') : Q (.ref p) (upd H p (.tup vs)) := by
  have hF : F p = none := st.ex.none hn
  exact hQ (.tuple ds) true (.ref p) (upd F p (.tup vs)) _ hp (st.allocF hn) (Ex.new hF) (.tup upd_same (dpa_mono (Ex.new hF) _ _ hd))
theorem put_new {p : Addr} {vs : List V} {ds : List PyData} {Φ : List PyData → Prop} {Q : VK} (st : St K g F H σ env) (hn : H p = none) (hd : DqAll K F vs ds) (hp : Φ ds)
    (hQ : ∀ ds v F' H', Φ ds → St K g F' H' σ env → Ex F F' → NewL K g F' H' env v ds → Q v H') : Q (.ref p) (upd H p (.lst vs)) :=
  hQ ds (.ref p) F _ hp (st.alloc hn) (Ex.refl F) ⟨p, vs, rfl, upd_same, hd, st.ex.none hn, st.toSk.notown hn, st.h0 hn⟩
theorem we_of_wn {Φ : PyData → Bool → Prop} (h : WN X g e env (fun ds => Φ (.list ds) true) Ψ) : WE X g e env Φ Ψ := fun W tk σ F H st hx Q hQ =>
  h W tk σ F H st hx Q fun ds v F' H' hp st' e' ⟨p, vs, hv, h1, h2, h3, h4, h5⟩ => by
    subst hv
    have e2 := Ex.new (o := .lst vs) h3
    exact hQ (.list ds) true (.ref p) (upd F' p (.lst vs)) H' hp (st'.freeze h1 h3 h4 h5) (e'.trans e2) (.lst (SqL.of upd_same) (dpa_mono e2 _ _ h2))
section
variable {Φ : PyData → Bool → Prop}
theorem we_int {i : Int} {j : Nat} (h : Φ (.int i) true) : WE X g (.Constant (.int i) j pos) env Φ Ψ :=
  fun W tk σ F H st hx Q hQ => semE_of pe_int (hQ _ true _ F H h st (Ex.refl F) (.int i))
theorem we_str {i : Str} {j : Nat} (h : Φ (.str i) true) : WE X g (.Constant (.str i) j pos) env Φ Ψ :=
  fun W tk σ F H st hx Q hQ => semE_of pe_str (hQ _ true _ F H h st (Ex.refl F) (.str i))
theorem we_bool {i : Bool} {j : Nat} (h : Φ (.bool i) true) : WE X g (.Constant (.bool i) j pos) env Φ Ψ :=
  fun W tk σ F H st hx Q hQ => semE_of pe_bl (hQ _ true _ F H h st (Ex.refl F) (.bl i))
theorem we_none {j : Nat} (h : Φ .none true) : WE X g (.Constant .none j pos) env Φ Ψ :=
  fun W tk σ F H st hx Q hQ => semE_of pe_non (hQ _ true _ F H h st (Ex.refl F) .non)
theorem getD_some {σ : SS} {i : Nat} {v : V} (h : σ[i]?.getD none = some v) : σ[i]? = some (some v) := by
  cases e : σ[i]? with
  | none => rw [e] at h; cases h
  | some o => rw [e] at h; exact congrArg some h
/-- a name that holds data -/
theorem we_n (i : Nat) {d : PyData} {x : Str} (h : Φ d true) (he : env[i]? = some (.d d) := by rfl) (hN : X.N[i]? = some x := by rfl)
    (hv : Vis X.env.scope x := by first | exact Or.inl rfl | exact Or.inr (Or.inl rfl) | exact Or.inr (Or.inr rfl)) (hd : (x == ("__debug__" : Str)) = false := by decide)
    (hcd : (x == ("__classdict__" : Str)) = false := by decide) : WE X g (.Name x pos) env Φ Ψ := fun W tk σ F H st hx Q hQ => by
  obtain ⟨v, h1, h2⟩ := st.sl i _ he
  exact semE_of (pe_var hN hv hd hcd) ⟨v, getD_some h1, hQ d true v F H h st (Ex.refl F) h2⟩
/-- a name that holds a list of one's own -/
theorem we_nl (i : Nat) {al : Addr} {ds : List PyData} {x : Str} (h : Φ (.list ds) false) (he : env[i]? = some (.ol al ds) := by rfl) (hN : X.N[i]? = some x := by rfl)
    (hv : Vis X.env.scope x := by first | exact Or.inl rfl | exact Or.inr (Or.inl rfl) | exact Or.inr (Or.inr rfl)) (hd : (x == ("__debug__" : Str)) = false := by decide)
    (hcd : (x == ("__classdict__" : Str)) = false := by decide) : WE X g (.Name x pos) env Φ Ψ := fun W tk σ F H st hx Q hQ => by
  obtain ⟨h1, h2⟩ := st.sl i _ he
  exact semE_of (pe_var hN hv hd hcd) ⟨_, getD_some h1, hQ _ false _ F H h st (Ex.refl F) ⟨al, ds, .inl ⟨i, he⟩, rfl, rfl⟩⟩
/-- a module's int, a module's text -/
theorem we_gint {n : Int} {x : Str} (hm : ∃ t, X.mg x = some (.int n t)) (h : Φ (.int n) true) (hg : Gl X x := by rfl) (hd : (x == ("__debug__" : Str)) = false := by decide) : WE X g (.Name x pos) env Φ Ψ :=
  fun W tk σ F H st hx Q hQ => by
    obtain ⟨t, ht⟩ := hm
    exact semE_of (pe_glob hg ht (v := .int n) ⟨t, rfl⟩ hd) (hQ _ true _ F H h st (Ex.refl F) (.int n))
end
end
end TL
namespace TL
open PySem PySem.Spec PyProof.Rows L2
section
variable {X : Cx} {g : G} {env : List Sl} {Ψ : Exc → Prop} {pos : Pos} {a b c e : Expr} {K : Frag} {F F' H : Hp} {σ : SS}
def rCatL (K : Frag) : R2 := fun x y H Q => ∃ l b xs zs, x = .ref l ∧ y = .ref b ∧ SqL K H l xs ∧ SqL K H b zs ∧ xs.length + zs.length ≤ sizeLine ∧ ∀ p, H p = none → Q (.ref p) (upd H p (.lst (xs ++ zs)))
theorem op_catL : OpR X (binaryOp .Add) (rCatL X.K) := by
  intro pins s σ H x y v u Q I rx ry h
  obtain ⟨l, b, xs, zs, rfl, rfl, hH, hB, hz, q⟩ := h
  cases rx
  cases ry
  obtain ⟨vs, r, ⟨⟨cls, dd, data, sl⟩, n, ho, hc, hdn, hd⟩, hl⟩ := I.list hH
  obtain ⟨ws, r2, ⟨⟨cls2, dd2, data2, sl2⟩, n2, ho2, hc2, hdn2, hd2⟩, hl2⟩ := I.list hB
  simp only at hc hd hc2 hd2
  subst hc hd hc2 hd2
  have e1 := r.length
  have e2 := r2.length
  have e : vs.toArray ++ ws.toArray = (vs ++ ws).toArray := by simp
  refine concat_meets ⟨_, ho, rfl⟩ ⟨_, ho2, rfl⟩ noFill_list_add seq_list_add PySem.F.slot_list_add PySem.F.entry_list_add (PySem.F.args_list_add_2 _ _) (list_addW l b vs.toArray ws.toArray n n2 dd dd2 sl sl2 (by simp only [List.size_toArray]; omega)) ⟨ho, ho2, ?_⟩
  rw [e]
  exact ⟨.ref _, _, I.lnew (t' := s.toks) (r.append r2) (by rw [List.length_append]; omega), rfl, q _ I.fresh⟩
theorem dop_I0 {f : Int → Int → V} {i j : Int} {z1 z2 : Bool} {Φ : PyData → Bool → Prop} {d : PyData} (h : Φ d true) (hf : ∀ F, Dq K F (f i j) d) : DOp K g env (rI0 f) (.int i) z1 (.int j) z2 Φ :=
  dop_of h fun σ F H v1 v2 Q st r1 r2 q => ⟨i, j, rd_int r1, rd_int r2, q _ (hf F)⟩
theorem dop_I {C : Int → Int → Prop} {f : Int → Int → V} {i j : Int} {z1 z2 : Bool} {Φ : PyData → Bool → Prop} {d : PyData} (hc : C i j) (h : Φ d true) (hf : ∀ F, Dq K F (f i j) d) : DOp K g env (rI C f) (.int i) z1 (.int j) z2 Φ :=
  dop_of h fun σ F H v1 v2 Q st r1 r2 q => ⟨i, j, rd_int r1, rd_int r2, hc, q _ (hf F)⟩
inductive AddP (Φ : PyData → Bool → Prop) : PyData → Bool → PyData → Bool → Prop
  | int {i j : Int} {z1 z2 : Bool} : Φ (.int (i + j)) true → AddP Φ (.int i) z1 (.int j) z2
  | str {i j : Str} {z1 z2 : Bool} : Φ (.str (i ++ j)) true → i.length + j.length ≤ sizeLine → AddP Φ (.str i) z1 (.str j) z2
  | lst {xs ys : List PyData} {z1 z2 : Bool} : Φ (.list (xs ++ ys)) true → xs.length + ys.length ≤ sizeLine → AddP Φ (.list xs) z1 (.list ys) z2
  | tup {xs ys : List PyData} {z1 z2 : Bool} : Φ (.tuple (xs ++ ys)) true → xs.length + ys.length ≤ sizeLine → AddP Φ (.tuple xs) z1 (.tuple ys) z2
abbrev rAddS : R2 := fun x y H Q => ∃ i j, x = .str i ∧ y = .str j ∧ i.length + j.length ≤ sizeLine ∧ Q (.str (i ++ j)) H
abbrev rAddA (K : Frag) : R2 := fun x y H Q => (rI0 fun i j => .int (i + j)) x y H Q ∨ (fun x y H Q => rAddS x y H Q ∨ (fun x y H Q => rCatL K x y H Q ∨ rCatA K x y H Q) x y H Q) x y H Q
theorem op_addA : OpR X (binaryOp .Add) (rAddA X.K) := op_add.or (op_add_str.or (op_catL.or op_catA))
theorem dop_add {Φ : PyData → Bool → Prop} {d1 d2 : PyData} {z1 z2 : Bool} (h : AddP Φ d1 z1 d2 z2) : DOp K g env (rAddA K) d1 z1 d2 z2 Φ := by
  cases h with
  | int h => exact dop_l (dop_I0 h fun F => .int _)
  | str h hl => exact dop_r (dop_l (dop_of h fun σ F H v1 v2 Q st r1 r2 q => ⟨_, _, rd_str r1, rd_str r2, hl, q _ (.str _)⟩))
  | lst h hl =>
    refine dop_r (dop_r (dop_l fun σ F H v1 v2 st r1 r2 Q hQ => ?_))
    obtain ⟨a1, vs1, rfl, s1, p1⟩ := rd_lst st.toSk r1
    obtain ⟨a2, vs2, rfl, s2, p2⟩ := rd_lst st.toSk r2
    exact ⟨a1, a2, vs1, vs2, rfl, rfl, s1, s2, by rw [dpa_len p1, dpa_len p2]; exact hl, fun p hp => put_lst st hp (dpa_app p1 p2) h hQ⟩
  | tup h hl =>
    refine dop_r (dop_r (dop_r fun σ F H v1 v2 st r1 r2 Q hQ => ?_))
    obtain ⟨a1, vs1, rfl, s1, p1⟩ := rd_tup st.toSk r1
    obtain ⟨a2, vs2, rfl, s2, p2⟩ := rd_tup st.toSk r2
    refine ⟨a1, a2, vs1, vs2, rfl, rfl, s1, s2, by rw [dpa_len p1, dpa_len p2]; exact hl, fun e => ?_, fun _ e => ?_, fun _ _ p hp => put_tup st hp (dpa_app p1 p2) h hQ⟩
    · subst e
      cases p1
      rw [List.nil_append] at h
      refine hQ _ z2 _ F H ?_ st (Ex.refl F) r2
      cases z2 with
      | true => exact h
      | false => obtain ⟨_, _, _, _, e⟩ := r2; cases e
    subst e
    cases p2
    rw [List.append_nil] at h
    refine hQ _ z1 _ F H ?_ st (Ex.refl F) r1
    cases z1 with
    | true => exact h
    | false => obtain ⟨_, _, _, _, e⟩ := r1; cases e
section
variable {Φ : PyData → Bool → Prop}
theorem we_add (h : WE X g a env (fun d1 z1 => WE X g b env (fun d2 z2 => AddP Φ d1 z1 d2 z2) Ψ) Ψ) : WE X g (.BinOp a .Add b pos) env Φ Ψ :=
  we_op (pe_op op_addA (peS a) (peS b)) (fun _ _ _ _ => dop_add) h
inductive IntP (C : Int → Int → Prop) (f : Int → Int → Int) (Φ : PyData → Bool → Prop) : PyData → Bool → PyData → Bool → Prop
  | mk {i j : Int} {z1 z2 : Bool} : Φ (.int (f i j)) true → C i j → IntP C f Φ (.int i) z1 (.int j) z2
theorem we_sub (h : WE X g a env (fun d1 z1 => WE X g b env (fun d2 z2 => IntP (fun _ _ => True) (fun i j => i - j) Φ d1 z1 d2 z2) Ψ) Ψ) : WE X g (.BinOp a .Sub b pos) env Φ Ψ :=
  we_op (pe_op op_sub (peS a) (peS b)) (fun _ _ _ _ ⟨h, _⟩ => dop_I0 h fun F => .int _) h
theorem we_mul (h : WE X g a env (fun d1 z1 => WE X g b env (fun d2 z2 => IntP CMul (fun i j => i * j) Φ d1 z1 d2 z2) Ψ) Ψ) : WE X g (.BinOp a .Mult b pos) env Φ Ψ :=
  we_op (pe_op op_mul (peS a) (peS b)) (fun _ _ _ _ ⟨h, hc⟩ => dop_I hc h fun F => .int _) h
theorem we_div (h : WE X g a env (fun d1 z1 => WE X g b env (fun d2 z2 => IntP CDivW (fun i j => i / j) Φ d1 z1 d2 z2) Ψ) Ψ) : WE X g (.BinOp a .FloorDiv b pos) env Φ Ψ :=
  we_op (pe_op op_fdivW (peS a) (peS b)) (fun _ _ _ _ ⟨h, hc⟩ => dop_I hc h fun F => .int _) h
theorem we_mod (h : WE X g a env (fun d1 z1 => WE X g b env (fun d2 z2 => IntP (fun _ j => 0 < j) (fun i j => i % j) Φ d1 z1 d2 z2) Ψ) Ψ) : WE X g (.BinOp a .Mod b pos) env Φ Ψ :=
  we_op (pe_op op_mod (peS a) (peS b)) (fun _ _ _ _ ⟨h, hc⟩ => dop_I hc h fun F => .int _) h
theorem we_pow (h : WE X g a env (fun d1 z1 => WE X g b env (fun d2 z2 => IntP CPow (fun i j => i ^ j.toNat) Φ d1 z1 d2 z2) Ψ) Ψ) : WE X g (.BinOp a .Pow b pos) env Φ Ψ :=
  we_op (pe_op op_pow (peS a) (peS b)) (fun _ _ _ _ ⟨h, hc⟩ => dop_I hc h fun F => .int _) h
theorem cdiv_small {j : Int} (i : Int) (h : 0 < j) (h2 : j < 4611686018427387904) : CDivW i j := wide_div h (b := 62) (by omega) (by decide) (by decide)
end
def CP (K : Frag) (g : G) (env : List Sl) (r : R2) (d1 : PyData) (z1 : Bool) (d2 : PyData) (z2 : Bool) (k : Bool) : Prop :=
  ∀ (σ : SS) (F H : Hp) (v1 v2 : V), St K g F H σ env → Rd K F env z1 v1 d1 → Rd K F env z2 v2 d2 → ∀ Q : VK, Q (.bl k) H → r v1 v2 H Q
theorem cp_l {r r' : R2} {d1 d2 : PyData} {z1 z2 k : Bool} (h : CP K g env r d1 z1 d2 z2 k) : CP K g env (fun x y H Q => r x y H Q ∨ r' x y H Q) d1 z1 d2 z2 k := fun σ F H v1 v2 st r1 r2 Q q => .inl (h σ F H v1 v2 st r1 r2 Q q)
theorem cp_r {r r' : R2} {d1 d2 : PyData} {z1 z2 k : Bool} (h : CP K g env r' d1 z1 d2 z2 k) : CP K g env (fun x y H Q => r x y H Q ∨ r' x y H Q) d1 z1 d2 z2 k := fun σ F H v1 v2 st r1 r2 Q q => .inr (h σ F H v1 v2 st r1 r2 Q q)
theorem we_cp {Φ : PyData → Bool → Prop} {op : CmpOp} {r : R2} (ho : OpR X (compareOp op) r) (h : WE X g a env (fun d1 z1 => WE X g b env (fun d2 z2 => ∃ k, CP X.K g env r d1 z1 d2 z2 k ∧ Φ (.bool k) true) Ψ) Ψ)
    (hm : behindInMarks op b = false := by first | exact nomark _ | rfl) : WE X g (.Compare a [op] [b] pos) env Φ Ψ :=
  we_op (pe_cmpR ho (peS a) (peS b) hm) (fun _ _ _ _ ⟨k, hc, hp⟩ σ F H v1 v2 st r1 r2 Q hQ => hc σ F H v1 v2 st r1 r2 Q (hQ _ true _ F H hp st (Ex.refl F) (.bl k))) h
theorem wt_cp {Φ : Bool → Prop} {op : CmpOp} {r : R2} (ho : OpR X (compareOp op) r) (h : WE X g a env (fun d1 z1 => WE X g b env (fun d2 z2 => ∃ k, CP X.K g env r d1 z1 d2 z2 k ∧ Φ k) Ψ) Ψ)
    (hm : behindInMarks op b = false := by first | exact nomark _ | rfl) : WT X g (.Compare a [op] [b] pos) env Φ Ψ :=
  wt_op (pt_cmpR ho (peS a) (peS b) hm) (fun _ _ _ _ ⟨k, hc, hp⟩ σ F H v1 v2 st r1 r2 Q hQ => hc σ F H v1 v2 st r1 r2 Q (hQ (.bool k) true _ F H ⟨k, rfl, hp⟩ st (Ex.refl F) (.bl k))) h
/-- a op b op' c -/
theorem chain_run {r r' : R2} {C : Bool → Prop} (h : WE X g a env (fun d1 z1 => WE X g b env (fun d2 z2 => ∃ k, CP X.K g env r d1 z1 d2 z2 k ∧ (k = true → WE X g c env (fun d3 z3 => ∃ k', CP X.K g env r' d2 z2 d3 z3 k' ∧ C k') Ψ) ∧ (k = false → C false)) Ψ) Ψ)
    {W : WX} (tk : Takes X W) {F H : Hp} (st : St X.K g F H σ env) (hx : HX X g env Ψ W σ) {Q : VK} (hQ : ∀ k F' H', C k → St X.K g F' H' σ env → Ex F F' → Q (.bl k) H') : tChain r r' (semE X a) (semE X b) (semE X c) σ H Q := by
  refine h W tk σ F H st hx _ fun d1 z1 v1 F1 H1 h1 st1 e1 r1 => ?_
  refine h1 W tk σ F1 H1 st1 hx _ fun d2 z2 v2 F2 H2 h2 st2 e2 r2 => ?_
  obtain ⟨k, hc, ht, hf⟩ := h2
  refine hc σ F2 H2 v1 v2 st2 (rd_mono e2 r1) r2 _ ⟨k, rfl, ?_⟩
  cases k with
  | true =>
    rw [if_pos rfl]
    refine ht rfl W tk σ F2 H2 st2 hx _ fun d3 z3 v3 F3 H3 h3 st3 e3 r3 => ?_
    obtain ⟨k', hc', hp⟩ := h3
    exact hc' σ F3 H3 v2 v3 st3 (rd_mono e3 r2) r3 Q (hQ k' F3 H3 hp st3 ((e1.trans e2).trans e3))
  | false =>
    rw [if_neg Bool.false_ne_true]
    exact hQ false F2 H2 (hf rfl) st2 (e1.trans e2)
theorem we_ch {Φ : PyData → Bool → Prop} {op op' : CmpOp} {r r' : R2} (ho : OpR X (compareOp op) r) (ho' : OpR X (compareOp op') r')
    (h : WE X g a env (fun d1 z1 => WE X g b env (fun d2 z2 => ∃ k, CP X.K g env r d1 z1 d2 z2 k ∧ (k = true → WE X g c env (fun d3 z3 => ∃ k', CP X.K g env r' d2 z2 d3 z3 k' ∧ Φ (.bool k') true) Ψ) ∧ (k = false → Φ (.bool false) true)) Ψ) Ψ)
    (hm : lastMarks [op, op'] [b, c] = false := by with_unfolding_all rfl) : WE X g (.Compare a [op, op'] [b, c] pos) env Φ Ψ := fun W tk σ F H st hx Q hQ =>
  semE_of (pe_chain ho ho' (peS a) (peS b) (peS c) hm) (chain_run (C := fun k => Φ (.bool k) true) h tk st hx fun k F' H' hp s e => hQ _ true _ F' H' hp s e (.bl k))
theorem wt_ch {Φ : Bool → Prop} {op op' : CmpOp} {r r' : R2} (ho : OpR X (compareOp op) r) (ho' : OpR X (compareOp op') r')
    (h : WE X g a env (fun d1 z1 => WE X g b env (fun d2 z2 => ∃ k, CP X.K g env r d1 z1 d2 z2 k ∧ (k = true → WE X g c env (fun d3 z3 => ∃ k', CP X.K g env r' d2 z2 d3 z3 k' ∧ Φ k') Ψ) ∧ (k = false → Φ false)) Ψ) Ψ)
    (hm : lastMarks [op, op'] [b, c] = false := by with_unfolding_all rfl) : WT X g (.Compare a [op, op'] [b, c] pos) env Φ Ψ := fun W tk σ F H st hx Q hQ =>
  semT_of (pt_chain ho ho' (peS a) (peS b) (peS c) hm) (chain_run h tk st hx fun k F' H' hp s e => ⟨k, rfl, hQ k F' H' hp s e⟩)
/-- the operators' rules, by what they take -/
abbrev rLtA (K : Frag) : R2 := fun x y H Q => (rI0 fun i j => .bl (decide (i < j))) x y H Q ∨ rLtT K x y H Q
theorem op_ltA {k : Nat} (hr : Room k X.A) : OpR X (compareOp .Lt) (rLtA X.K) := op_lt.or (op_ltT hr.units0)
abbrev rEqA (K : Frag) : R2 := fun x y H Q => rEq x y H Q ∨ rEqD K x y H Q
theorem op_eqA {k : Nat} (hr : Room k X.A) : OpR X (compareOp .Eq) (rEqA X.K) := op_eq.or (op_eqD hr.units)
abbrev rNeA (K : Frag) : R2 := fun x y H Q => rNe x y H Q ∨ rNeD K x y H Q
theorem op_neA {k : Nat} (hr : Room k X.A) : OpR X (compareOp .NotEq) (rNeA X.K) := op_ne.or (op_neD hr.units)
theorem units65 {k : Nat} {A : Around} (hr : Room k A) : A.units + 65 < cLine := by have := hr.un; omega
abbrev rInS : R2 := fun x y H Q => ∃ i j, x = .str i ∧ y = .str j ∧ Q (.bl (!(Builtin.Str.occurrences j i 0 j.length 1).isEmpty)) H
abbrev rNotInS : R2 := fun x y H Q => ∃ i j, x = .str i ∧ y = .str j ∧ Q (.bl (!(!(Builtin.Str.occurrences j i 0 j.length 1).isEmpty))) H
def rInTD (K : Frag) : R2 := fun x y H Q => ∃ d ds, Dp K H x d ∧ Dp K H y (.tuple ds) ∧ SeqAt.shaped d = true ∧ SeqAt.shaped (.tuple ds) = true ∧ Q (.bl (ds.any fun z => PyData.eqv z d)) H
def rNotInTD (K : Frag) : R2 := fun x y H Q => ∃ d ds, Dp K H x d ∧ Dp K H y (.tuple ds) ∧ SeqAt.shaped d = true ∧ SeqAt.shaped (.tuple ds) = true ∧ Q (.bl (!ds.any fun z => PyData.eqv z d)) H
theorem op_inTD (hu : X.A.units + 65 < cLine) : OpR X (compareOp .In) (rInTD X.K) := by
  intro pins s σ H x y v u Q I rx ry h
  obtain ⟨d, ds, hd, he, sd, se, q⟩ := h
  obtain ⟨as, r1⟩ := Dp.reads I d x v hd rx
  obtain ⟨bs, r2⟩ := Dp.reads I (.tuple ds) y u he ry
  exact SeqAt.in_tuple_reads r2 r1 (SeqAt.canLay_of_shaped se) (SeqAt.canLay_of_shaped sd) (room_in_shaped sd hu) ⟨.bl _, H, I, rfl, q⟩
theorem op_notInTD (hu : X.A.units + 65 < cLine) : OpR X (compareOp .NotIn) (rNotInTD X.K) := by
  intro pins s σ H x y v u Q I rx ry h
  obtain ⟨d, ds, hd, he, sd, se, q⟩ := h
  obtain ⟨as, r1⟩ := Dp.reads I d x v hd rx
  obtain ⟨bs, r2⟩ := Dp.reads I (.tuple ds) y u he ry
  exact SeqAt.notIn_tuple_reads r2 r1 (SeqAt.canLay_of_shaped se) (SeqAt.canLay_of_shaped sd) (room_in_shaped sd hu) ⟨.bl _, H, I, rfl, q⟩
abbrev rInA (K : Frag) : R2 := fun x y H Q => rIn K false x y H Q ∨ (fun x y H Q => rInD K x y H Q ∨ (fun x y H Q => rInS x y H Q ∨ rInTD K x y H Q) x y H Q) x y H Q
abbrev rNotInA (K : Frag) : R2 := fun x y H Q => rIn K true x y H Q ∨ (fun x y H Q => rNotInD K x y H Q ∨ (fun x y H Q => rNotInS x y H Q ∨ rNotInTD K x y H Q) x y H Q) x y H Q
theorem op_inA {k : Nat} (hr : Room k X.A) : OpR X (compareOp .In) (rInA X.K) := op_in_seq.or ((op_inD (units65 hr)).or (op_in_str.or (op_inTD (units65 hr))))
theorem op_notInA {k : Nat} (hr : Room k X.A) : OpR X (compareOp .NotIn) (rNotInA X.K) := op_notIn_seq.or ((op_notInD (units65 hr)).or (op_notin_str.or (op_notInTD (units65 hr))))
abbrev rIsN : R2 := fun x y H Q => y = .non ∧ Q (.bl (decide (x = .non))) H
abbrev rNotN : R2 := fun x y H Q => y = .non ∧ Q (.bl (!decide (x = .non))) H
section
variable {z1 z2 : Bool} {i j : Int} {s t : Str} {d1 d2 : PyData}
theorem cp_I0 {f : Int → Int → Bool} : CP K g env (rI0 fun i j => .bl (f i j)) (.int i) z1 (.int j) z2 (f i j) := fun σ F H v1 v2 st r1 r2 Q q => ⟨i, j, rd_int r1, rd_int r2, q⟩
theorem cp_lt : CP K g env (rLtA K) (.int i) z1 (.int j) z2 (decide (i < j)) := cp_l cp_I0
theorem cp_ltT {ns ms : List Int} : CP K g env (rLtA K) (.tuple (ns.map .int)) z1 (.tuple (ms.map .int)) z2 (HT.lexLt ns ms) := cp_r fun σ F H v1 v2 st r1 r2 Q q => by
  obtain ⟨a1, vs1, rfl, s1, p1⟩ := rd_tup st.toSk r1
  obtain ⟨a2, vs2, rfl, s2, p2⟩ := rd_tup st.toSk r2
  rw [dpa_ints_eq p1] at s1
  rw [dpa_ints_eq p2] at s2
  exact ⟨a1, a2, ns, ms, rfl, rfl, s1, s2, q⟩
theorem cp_le : CP K g env (rI0 fun i j => .bl (decide (i ≤ j))) (.int i) z1 (.int j) z2 (decide (i ≤ j)) := cp_I0
theorem cp_gt : CP K g env (rI0 fun i j => .bl (decide (j < i))) (.int i) z1 (.int j) z2 (decide (j < i)) := cp_I0 (f := fun i j => decide (j < i))
theorem cp_ge : CP K g env (rI0 fun i j => .bl (decide (j ≤ i))) (.int i) z1 (.int j) z2 (decide (j ≤ i)) := cp_I0 (f := fun i j => decide (j ≤ i))
theorem vint_dec : decide (V.int i = V.int j) = decide (i = j) := by
  by_cases h : i = j
  · subst h; simp
  · rw [decide_eq_false h, decide_eq_false fun z => h (V.int.inj z)]
theorem vstr_dec : decide (V.str s = V.str t) = decide (s = t) := by
  by_cases h : s = t
  · subst h; simp
  · rw [decide_eq_false h, decide_eq_false fun z => h (V.str.inj z)]
theorem vbl_dec {k l : Bool} : decide (V.bl k = V.bl l) = decide (k = l) := by
  by_cases h : k = l
  · subst h; simp
  · rw [decide_eq_false h, decide_eq_false fun z => h (V.bl.inj z)]
theorem cp_eqI : CP K g env (rEqA K) (.int i) z1 (.int j) z2 (decide (i = j)) := cp_l fun σ F H v1 v2 st r1 r2 Q q => by
  rw [rd_int r1, rd_int r2]; exact ⟨rfl, by rw [vint_dec]; exact q⟩
theorem cp_eqS : CP K g env (rEqA K) (.str s) z1 (.str t) z2 (decide (s = t)) := cp_l fun σ F H v1 v2 st r1 r2 Q q => by
  rw [rd_str r1, rd_str r2]; exact ⟨rfl, by rw [vstr_dec]; exact q⟩
theorem cp_eqB {k l : Bool} : CP K g env (rEqA K) (.bool k) z1 (.bool l) z2 (decide (k = l)) := cp_l fun σ F H v1 v2 st r1 r2 Q q => by
  rw [rd_bl r1, rd_bl r2]; exact ⟨rfl, by rw [vbl_dec]; exact q⟩
theorem cp_eqD (h1 : SeqAt.shaped d1 = true) (h2 : SeqAt.shaped d2 = true) : CP K g env (rEqA K) d1 z1 d2 z2 (PyData.eqv d1 d2) := cp_r fun σ F H v1 v2 st r1 r2 Q q => ⟨d1, d2, rd_nowP st.toSk r1 h1, rd_nowP st.toSk r2 h2, h1, h2, q⟩
theorem cp_neI : CP K g env (rNeA K) (.int i) z1 (.int j) z2 (!decide (i = j)) := cp_l fun σ F H v1 v2 st r1 r2 Q q => by
  rw [rd_int r1, rd_int r2]; exact ⟨rfl, by rw [vint_dec]; exact q⟩
theorem cp_neS : CP K g env (rNeA K) (.str s) z1 (.str t) z2 (!decide (s = t)) := cp_l fun σ F H v1 v2 st r1 r2 Q q => by
  rw [rd_str r1, rd_str r2]; exact ⟨rfl, by rw [vstr_dec]; exact q⟩
theorem cp_neB {k l : Bool} : CP K g env (rNeA K) (.bool k) z1 (.bool l) z2 (!decide (k = l)) := cp_l fun σ F H v1 v2 st r1 r2 Q q => by
  rw [rd_bl r1, rd_bl r2]; exact ⟨rfl, by rw [vbl_dec]; exact q⟩
theorem cp_neD (h1 : SeqAt.shaped d1 = true) (h2 : SeqAt.shaped d2 = true) : CP K g env (rNeA K) d1 z1 d2 z2 (!PyData.eqv d1 d2) := cp_r fun σ F H v1 v2 st r1 r2 Q q => ⟨d1, d2, rd_nowP st.toSk r1 h1, rd_nowP st.toSk r2 h2, h1, h2, q⟩
/-- x is None -/
def isNone : PyData → Bool
  | .none => true
  | _ => false
theorem dp_isnone {v : V} {d : PyData} (h : Dq K H v d) : decide (v = .non) = isNone d := by
  cases h <;> first | rfl | exact decide_eq_false (fun z => by cases z)
theorem cp_isN : CP K g env rIsN d1 z1 .none z2 (isNone d1) := fun σ F H v1 v2 st r1 r2 Q q => ⟨rd_non r2, by rw [dp_isnone (rd_now st.toSk r1)]; exact q⟩
theorem cp_notN : CP K g env rNotN d1 z1 .none z2 (!isNone d1) := fun σ F H v1 v2 st r1 r2 Q q => ⟨rd_non r2, by rw [dp_isnone (rd_now st.toSk r1)]; exact q⟩
/-- flat things in a list or tuple -/
def fl : PyData → Option V
  | .int i => some (.int i)
  | .str s => some (.str s)
  | .none => some .non
  | _ => none
theorem fl_dp {v x : V} {d : PyData} (h : Dq K H v d) (e : fl d = some x) : v = x := by
  cases h <;> first | exact Option.some.inj e | cases e
theorem fl_flat {x : V} {d : PyData} (e : fl d = some x) : flatV x = true := by
  cases d <;> first | (have e' := Option.some.inj e; subst e'; rfl) | cases e
theorem eqV_int : eqV (.int i) (.int j) = decide (i = j) := by
  show (i == j) = _
  rw [Bool.beq_eq_decide_eq]
/-- an int in a list of ints -/
theorem inV_ints : ∀ (ns : List Int) (i : Int), inV (.int i) (ns.map V.int) = decide (i ∈ ns)
  | [], i => rfl
  | n :: ns, i => by
    have ih := inV_ints ns i
    show (eqV (.int n) (.int i) || inV (.int i) (ns.map V.int)) = _
    rw [ih, eqV_int]
    by_cases h : i = n
    · subst h; simp
    · simp [h, Ne.symm h]
/-- data in a list -/
theorem cp_inD {ds : List PyData} (h1 : SeqAt.shaped d1 = true) (h2 : SeqAt.shaped (.list ds) = true) : CP K g env (rInA K) d1 z1 (.list ds) z2 (ds.any fun z => PyData.eqv z d1) :=
  cp_r (cp_l fun σ F H v1 v2 st r1 r2 Q q => ⟨d1, ds, rd_nowP st.toSk r1 h1, rd_nowP st.toSk r2 h2, h1, h2, q⟩)
theorem cp_notInD {ds : List PyData} (h1 : SeqAt.shaped d1 = true) (h2 : SeqAt.shaped (.list ds) = true) : CP K g env (rNotInA K) d1 z1 (.list ds) z2 (!ds.any fun z => PyData.eqv z d1) :=
  cp_r (cp_l fun σ F H v1 v2 st r1 r2 Q q => ⟨d1, ds, rd_nowP st.toSk r1 h1, rd_nowP st.toSk r2 h2, h1, h2, q⟩)
theorem cp_inS : CP K g env (rInA K) (.str s) z1 (.str t) z2 (!(Builtin.Str.occurrences t s 0 t.length 1).isEmpty) := cp_r (cp_r (cp_l fun σ F H v1 v2 st r1 r2 Q q => ⟨s, t, rd_str r1, rd_str r2, q⟩))
theorem cp_notInS : CP K g env (rNotInA K) (.str s) z1 (.str t) z2 (!(!(Builtin.Str.occurrences t s 0 t.length 1).isEmpty)) := cp_r (cp_r (cp_l fun σ F H v1 v2 st r1 r2 Q q => ⟨s, t, rd_str r1, rd_str r2, q⟩))
theorem cp_inTD {ds : List PyData} (h1 : SeqAt.shaped d1 = true) (h2 : SeqAt.shaped (.tuple ds) = true) : CP K g env (rInA K) d1 z1 (.tuple ds) z2 (ds.any fun z => PyData.eqv z d1) :=
  cp_r (cp_r (cp_r fun σ F H v1 v2 st r1 r2 Q q => ⟨d1, ds, rd_nowP st.toSk r1 h1, rd_nowP st.toSk r2 h2, h1, h2, q⟩))
theorem cp_notInTD {ds : List PyData} (h1 : SeqAt.shaped d1 = true) (h2 : SeqAt.shaped (.tuple ds) = true) : CP K g env (rNotInA K) d1 z1 (.tuple ds) z2 (!ds.any fun z => PyData.eqv z d1) :=
  cp_r (cp_r (cp_r fun σ F H v1 v2 st r1 r2 Q q => ⟨d1, ds, rd_nowP st.toSk r1 h1, rd_nowP st.toSk r2 h2, h1, h2, q⟩))
end
section
variable {Φ : Bool → Prop}
theorem WT.mono {Φ' : Bool → Prop} (h : WT X g e env Φ Ψ) (k : ∀ d, Φ d → Φ' d) : WT X g e env Φ' Ψ :=
  fun W tk σ F H st hx Q hQ => h W tk σ F H st hx Q fun d F' H' p => hQ d F' H' (k d p)
theorem wt_e (h : WE X g e env (fun d _ => ∃ k, d = .bool k ∧ Φ k) Ψ) (he : ∀ whole, isTrue e X.env whole = (do let v ← whole; standAt e.pos; holding [v] (truthy v)) := by intro _; rfl) : WT X g e env Φ Ψ := fun W tk σ F H st hx Q hQ => by
  refine semT_of (pt_val (peS e) he) ?_
  refine h W tk σ F H st hx _ fun d z v F' H' ⟨k, hd, hp⟩ s' e' r' => ?_
  subst hd
  exact ⟨k, rd_bl r', hQ k F' H' hp s' e'⟩
theorem wt_not (h : WT X g a env (fun k => Φ (!k)) Ψ) : WT X g (.UnaryOp .Not a pos) env Φ Ψ := fun W tk σ F H st hx Q hQ =>
  semT_of (pt_not (ptS a)) (h W tk σ F H st hx _ fun k F' H' hp s' e' => hQ _ F' H' hp s' e')
theorem we_not {Φ : PyData → Bool → Prop} (h : WE X g a env (fun d _ => ∃ k, d = .bool k ∧ Φ (.bool !k) true) Ψ) : WE X g (.UnaryOp .Not a pos) env Φ Ψ := fun W tk σ F H st hx Q hQ =>
  semE_of (pe_not (peS a)) (h W tk σ F H st hx _ fun d z v F' H' ⟨k, hd, hp⟩ s' e' r' => by
    subst hd
    exact ⟨k, rd_bl r', hQ _ true _ F' H' hp s' e' (.bl _)⟩)
/-- semantic reading of an and/or whatever its whole is -/
structure SemW (X : Cx) (e : Expr) (σ : SS) (H : Hp) (Q : Bool → Hp → Prop) : Prop where
  run : ∀ (whole : Sem Value) (pins : List (Addr × Obj)) (s : Shared), Inv X pins σ H s → wpAny (model X.prog X.w) X.A (isTrue e X.env whole) (TP X pins σ Q) X.xe s
def semW (X : Cx) (e : Expr) : TT := fun σ H Q => SemW X e σ H Q
theorem pwW (e : Expr) : PW X e (semW X e) := ⟨fun whole pins s σ H Q I q => q.run whole pins s I⟩
theorem semW_of {e : Expr} {t : TT} (h : PW X e t) {σ : SS} {H : Hp} {Q : Bool → Hp → Prop} (q : t σ H Q) : semW X e σ H Q := ⟨fun whole pins s I => h.run whole pins s σ H Q I q⟩
/-- a test, whatever its whole is -/
def WW (X : Cx) (g : G) (e : Expr) (env : List Sl) (Φ : Bool → Prop) (Ψ : Exc → Prop) : Prop :=
  ∀ (W : WX), Takes X W → ∀ (σ : SS) (F H : Hp), St X.K g F H σ env → HX X g env Ψ W σ →
    ∀ Q : Bool → Hp → Prop, (∀ b F' H', Φ b → St X.K g F' H' σ env → Ex F F' → Q b H') → semW X e σ H Q
theorem wt_ww (h : WW X g e env Φ Ψ) : WT X g e env Φ Ψ := fun W tk σ F H st hx Q hQ => semT_of (pwW e).pt (h W tk σ F H st hx Q hQ)
theorem ww_and {rest : List Expr} (h : WT X g a env (fun k => (k = true → WW X g (.BoolOp .And (b :: rest) pos) env Φ Ψ) ∧ (k = false → Φ false)) Ψ) : WW X g (.BoolOp .And (a :: b :: rest) pos) env Φ Ψ := fun W tk σ F H st hx Q hQ => by
  refine semW_of (pw_and (ptS a) (pwW _)) ?_
  refine h W tk σ F H st hx _ fun k F' H' ⟨ht, hf⟩ s' e' => ?_
  cases k with
  | true => rw [if_pos rfl]; exact ht rfl W tk σ F' H' s' hx Q fun k F2 H2 hp s2 e2 => hQ k F2 H2 hp s2 (e'.trans e2)
  | false => rw [if_neg Bool.false_ne_true]; exact hQ false F' H' (hf rfl) s' e'
theorem ww_or {rest : List Expr} (h : WT X g a env (fun k => (k = true → Φ true) ∧ (k = false → WW X g (.BoolOp .Or (b :: rest) pos) env Φ Ψ)) Ψ) : WW X g (.BoolOp .Or (a :: b :: rest) pos) env Φ Ψ := fun W tk σ F H st hx Q hQ => by
  refine semW_of (pw_or (ptS a) (pwW _)) ?_
  refine h W tk σ F H st hx _ fun k F' H' ⟨ht, hf⟩ s' e' => ?_
  cases k with
  | true => rw [if_pos rfl]; exact hQ true F' H' (ht rfl) s' e'
  | false => rw [if_neg Bool.false_ne_true]; exact hf rfl W tk σ F' H' s' hx Q fun k F2 H2 hp s2 e2 => hQ k F2 H2 hp s2 (e'.trans e2)
theorem ww_and1 (h : WT X g a env Φ Ψ) : WW X g (.BoolOp .And [a] pos) env Φ Ψ := fun W tk σ F H st hx Q hQ => semW_of (pw_and1 (ptS a)) (h W tk σ F H st hx Q hQ)
theorem ww_or1 (h : WT X g a env Φ Ψ) : WW X g (.BoolOp .Or [a] pos) env Φ Ψ := fun W tk σ F H st hx Q hQ => semW_of (pw_or1 (ptS a)) (h W tk σ F H st hx Q hQ)
end
section
variable {Φ : PyData → Bool → Prop}
/-- as values (truths) -/
theorem we_one {op : BoolOp} (h : WE X g a env Φ Ψ) : WE X g (.BoolOp op [a] pos) env Φ Ψ := fun W tk σ F H st hx Q hQ => semE_of (pe_one (peS a)) (h W tk σ F H st hx Q hQ)
theorem we_and {rest : List Expr} (h : WE X g a env (fun d _ => ∃ k, d = .bool k ∧ (k = true → WE X g (.BoolOp .And (b :: rest) pos) env Φ Ψ) ∧ (k = false → Φ (.bool false) true)) Ψ) : WE X g (.BoolOp .And (a :: b :: rest) pos) env Φ Ψ := fun W tk σ F H st hx Q hQ => by
  refine semE_of (pe_and (peS a) (peS _)) ?_
  refine h W tk σ F H st hx _ fun d z v F' H' ⟨k, hd, ht, hf⟩ s' e' r' => ?_
  subst hd
  refine ⟨k, rd_bl r', ?_⟩
  cases k with
  | true => rw [if_pos rfl]; exact ht rfl W tk σ F' H' s' hx Q fun d z v F2 H2 hp s2 e2 => hQ d z v F2 H2 hp s2 (e'.trans e2)
  | false => rw [if_neg Bool.false_ne_true]; exact hQ _ true _ F' H' (hf rfl) s' e' (.bl false)
theorem we_if (h : WT X g c env (fun k => (k = true → WE X g a env Φ Ψ) ∧ (k = false → WE X g b env Φ Ψ)) Ψ) : WE X g (.IfExp c a b pos) env Φ Ψ := fun W tk σ F H st hx Q hQ => by
  refine semE_of (pe_ifExp (ptS c) (peS a) (peS b)) ?_
  refine h W tk σ F H st hx _ fun k F' H' ⟨ht, hf⟩ s' e' => ?_
  cases k with
  | true => rw [if_pos rfl]; exact ht rfl W tk σ F' H' s' hx Q fun d z v F2 H2 hp s2 e2 => hQ d z v F2 H2 hp s2 (e'.trans e2)
  | false => rw [if_neg Bool.false_ne_true]; exact hf rfl W tk σ F' H' s' hx Q fun d z v F2 H2 hp s2 e2 => hQ d z v F2 H2 hp s2 (e'.trans e2)
end
inductive IxP (Φ : PyData → Bool → Prop) : PyData → Bool → PyData → Bool → Prop
  | lst {xs : List PyData} {i : Int} {x : PyData} {z1 z2 : Bool} : Φ x true → atI xs i = some x → IxP Φ (.list xs) z1 (.int i) z2
  | tup {xs : List PyData} {i : Int} {x : PyData} {z1 z2 : Bool} : Φ x true → atI xs i = some x → IxP Φ (.tuple xs) z1 (.int i) z2
  | str {s : Str} {i : Int} {c : Nat} {z1 z2 : Bool} : Φ (.str ⟨#[c]⟩) true → s.length ≤ sizeLine → atI s.cps.toList i = some c → IxP Φ (.str s) z1 (.int i) z2
theorem dpa_at {ds : List PyData} {vs : List V} {i : Int} {d : PyData} (h : DqAll K H vs ds) (e : atI ds i = some d) : ∃ v, atI vs i = some v ∧ Dq K H v d := by
  unfold atI at e ⊢
  rw [dpa_len h]
  cases q : ixN ds.length i with
  | none => rw [q] at e; cases e
  | some j =>
    rw [q] at e
    obtain ⟨v, h1, h2⟩ := dpa_get h (show ds[j]? = some d from e)
    exact ⟨v, h1, h2⟩
theorem dop_ix {Φ : PyData → Bool → Prop} {d1 d2 : PyData} {z1 z2 : Bool} (h : IxP Φ d1 z1 d2 z2) : DOp K g env (rIx K) d1 z1 d2 z2 Φ := by
  cases h with
  | lst hp ha =>
    refine dop_l fun σ F H v1 v2 st r1 r2 Q hQ => ?_
    obtain ⟨a1, vs1, rfl, s1, p1⟩ := rd_lst st.toSk r1
    obtain ⟨v, e1, e2⟩ := dpa_at p1 ha
    exact ⟨a1, vs1, _, v, rfl, rd_int r2, s1, e1, hQ _ true _ F H hp st (Ex.refl F) e2⟩
  | tup hp ha =>
    refine dop_r (dop_l fun σ F H v1 v2 st r1 r2 Q hQ => ?_)
    obtain ⟨a1, vs1, rfl, s1, p1⟩ := rd_tup st.toSk r1
    obtain ⟨v, e1, e2⟩ := dpa_at p1 ha
    exact ⟨a1, vs1, _, v, rfl, rd_int r2, s1, e1, hQ _ true _ F H hp st (Ex.refl F) e2⟩
  | str hp hl ha => exact dop_r (dop_r fun σ F H v1 v2 st r1 r2 Q hQ => ⟨_, _, _, rd_str r1, rd_int r2, hl, ha, hQ _ true _ F H hp st (Ex.refl F) (.str _)⟩)
theorem we_ix {Φ : PyData → Bool → Prop} (h : WE X g a env (fun d1 z1 => WE X g b env (fun d2 z2 => IxP Φ d1 z1 d2 z2) Ψ) Ψ) (hs : PlainIx b := by exact fun _ _ => rfl) : WE X g (.Subscript a b pos) env Φ Ψ :=
  we_op (pe_ix ix_seq (peS a) (peS b) hs) (fun _ _ _ _ => dop_ix) h
end
end TL
namespace TL
open PySem PySem.Spec PyProof.Rows L2
inductive PR where
  | rd (d : PyData)
  | nl (ds : List PyData)
  | ar (i : Nat)
  | nt (kvs : List (List Key × PyData))
  | nk (kvs : List (Key × PyData))
  | sl (C : Sl → Prop)
abbrev CT := List Sl → (PR → List Sl → Prop) → (Exc → List Sl → Prop) → Prop
def Step (F H : Hp) (args : List Sl) (F' H' : Hp) : Prop :=
  Ex F F' ∧ (∀ a o, H a = some o → ¬ Own args a → ntb o → H' a = some o) ∧ (∀ a, F' a ≠ none → F a ≠ none ∨ H a = none) ∧ ∀ a, H a ≠ none → H' a ≠ none
def PrOk (K : Frag) (vs : List V) (H F' H' : Hp) (args' : List Sl) (v : V) : PR → Prop
  | .rd d => Dq K F' v d
  | .nl ds => ∃ p xs, v = .ref p ∧ H' p = some (.lst xs) ∧ DqAll K F' xs ds ∧ F' p = none ∧ H p = none ∧ ¬ Own args' p
  | .ar i => vs[i]? = some v
  | .nt kvs => ∃ p xs, v = .ref p ∧ H' p = some (.dT xs) ∧ KVp K F' xs kvs ∧ F' p = none ∧ H p = none ∧ ¬ Own args' p
  | .nk kvs => ∃ p xs, v = .ref p ∧ H' p = some (.dK xs) ∧ KVp K F' xs kvs ∧ F' p = none ∧ H p = none ∧ ¬ Own args' p
  | .sl C => ∃ s, C s ∧ SlOk K F' H' (some v) s ∧ ∀ p ∈ s.fp, F' p = none ∧ H p = none ∧ ¬ Own args' p
def ExcE (K : Frag) (E : XK) (H : Hp) : Exc → Prop
  | .own n => E (.ref (He.ga K n)) none H
def spOf (K : Frag) (n : Nat) (S : CT) : Sp := fun vs H Q E => vs.length = n ∧ ∃ F args Φ Ψ, S args Φ Ψ ∧ Sk K F H (vs.map some) args ∧
  (∀ r v args' F' H', Φ r args' → Sk K F' H' (vs.map some) args' → Step F H args F' H' → (∀ a, Own args' a → Own args a ∨ H a = none) → PrOk K vs H F' H' args' v r → Q v H') ∧
  (∀ c args' F' H', Ψ c args' → Sk K F' H' (vs.map some) args' → Step F H args F' H' → (∀ a, Own args' a → Own args a ∨ H a = none) → ExcE K E H' c)
structure Has (P : Program) (w : World) (K : Frag) (mg : Str → Option Value) (base : Heap) (k : Nat) (x : Str) (ps : List Str) (S : CT) : Prop where
  ex : ∃ f fd, mg x = some (.ref f) ∧ PySem.W.keepIn K (.ref f) = true ∧ Binds K fd ps [] ∧ FnOk P w K mg base (L2.CX P w) k f fd ps (spOf K ps.length S)
structure SemA (X : Cx) (es : List Expr) (σ : SS) (H : Hp) (Q : List V → Hp → Prop) : Prop where
  run : ∀ (pos : Pos) (pins : List (Addr × Obj)) (s : Shared), Inv X pins σ H s → wpAny (model X.prog X.w) X.A (spliced (backTo pos (starEach es X.env))) (AP X pins σ Q) X.xe s
def semA (X : Cx) (es : List Expr) : TA := fun σ H Q => SemA X es σ H Q
theorem paS {X : Cx} (es : List Expr) : PA X es (semA X es) := ⟨fun pos pins s σ H Q I h => h.run pos pins s I⟩
theorem semA_of {X : Cx} {es : List Expr} {t : TA} (h : PA X es t) {σ : SS} {H : Hp} {Q : List V → Hp → Prop} (q : t σ H Q) : semA X es σ H Q := ⟨fun pos pins s I => h.run pos pins s σ H Q I q⟩
def WAs (X : Cx) (g : G) (es : List Expr) (env : List Sl) (Φ : List Ar → Prop) (Ψ : Exc → Prop) : Prop :=
  ∀ (W : WX), Takes X W → ∀ (σ : SS) (F H : Hp), St X.K g F H σ env → HX X g env Ψ W σ →
    ∀ Q : List V → Hp → Prop, (∀ as vs F' H', Φ as → St X.K g F' H' σ env → Ex F F' → ArAll X.K F' σ vs as → Q vs H') → semA X es σ H Q
section
variable {X : Cx} {g : G} {env : List Sl} {Ψ : Exc → Prop} {pos p : Pos} {a b c e : Expr} {es : List Expr} {K : Frag} {F F' H H' : Hp} {σ : SS}
section
variable {Φ : List Ar → Prop}
theorem wa_nil (h : Φ []) : WAs X g [] env Φ Ψ := fun W tk σ F H st hx Q hQ => semA_of pa_nil (hQ [] [] F H h st (Ex.refl F) trivial)
/-- an argument that is data -/
theorem wa_d (he : WE X g e env (fun d z => z = true ∧ WAs X g es env (fun as => Φ (.d d :: as)) Ψ) Ψ) (hs : starEach (e :: es) X.env = (false, eval e X.env) :: starEach es X.env := by rfl) : WAs X g (e :: es) env Φ Ψ := fun W tk σ F H st hx Q hQ => by
  refine semA_of (pa_cons (peS e) (paS es) hs) ?_
  refine he W tk σ F H st hx _ fun d z v F1 H1 ⟨hz, hp⟩ s1 e1 r1 => ?_
  subst hz
  exact hp W tk σ F1 H1 s1 hx _ fun as vs F2 H2 hp2 s2 e2 r2 => hQ (.d d :: as) (v :: vs) F2 H2 hp2 s2 (e1.trans e2) ⟨dp_mono e2 _ _ r1, r2⟩
/-- an object that a slot holds -/
theorem wa_s (i : Nat) {x : Str} {s : Sl} (h : WAs X g es env (fun as => Φ (.s i :: as)) Ψ) (he : env[i]? = some s := by rfl) (hne : s.fp ≠ [] := by (intro h; cases h)) (hN : X.N[i]? = some x := by rfl)
    (hv : Vis X.env.scope x := by first | exact Or.inl rfl | exact Or.inr (Or.inl rfl) | exact Or.inr (Or.inr rfl)) (hd : (x == ("__debug__" : Str)) = false := by decide)
    (hcd : (x == ("__classdict__" : Str)) = false := by decide) (hs : starEach ((.Name x pos) :: es) X.env = (false, eval (.Name x pos) X.env) :: starEach es X.env := by rfl) : WAs X g (.Name x pos :: es) env Φ Ψ := fun W tk σ F H st hx Q hQ => by
  refine semA_of (pa_cons (pe_var hN hv hd hcd) (paS es) hs) ?_
  have q := st.sl i s he
  obtain ⟨v, hv⟩ : ∃ v, σ[i]?.getD none = some v := by
    cases s with
    | un => exact absurd rfl hne
    | d x => exact absurd rfl hne
    | v x => exact ⟨_, q⟩
    | ol a ds => exact ⟨_, q.1⟩
    | bg a => exact ⟨_, q.1⟩
    | dt a ds => exact ⟨_, q.1⟩
    | dk a ds => exact ⟨_, q.1⟩
    | fv l => exact absurd rfl hne
    | fl l => exact absurd rfl hne
    | oo a ds => exact ⟨_, q.1⟩
    | ow t => exact ⟨q.choose, q.choose_spec.1⟩
  exact ⟨v, getD_some hv, h W tk σ F H st hx _ fun as vs F2 H2 hp2 s2 e2 r2 => hQ (.s i :: as) (v :: vs) F2 H2 hp2 s2 e2 ⟨getD_some hv, r2⟩⟩
end
def datas : List Ar → Option (List PyData)
  | [] => some []
  | .d x :: r => (datas r).map (x :: ·)
  | .s _ :: _ => none
theorem dpa_datas : ∀ {as : List Ar} {ds : List PyData} {vs : List V}, datas as = some ds → ArAll K F σ vs as → DqAll K F vs ds
  | [], _, [], h, _ => by cases h; exact .nil
  | .d x :: r, _, _ :: _, h, ⟨h1, h2⟩ => by
    obtain ⟨ds, e1, e2⟩ := Option.map_eq_some_iff.mp (show (datas r).map (x :: ·) = some _ from h)
    subst e2
    exact .cons h1 (dpa_datas e1 h2)
  | .s _ :: _, _, _, h, _ => by cases h
theorem wn_list {Φ : List PyData → Prop} (h : WAs X g es env (fun as => ∃ ds, datas as = some ds ∧ ds.length ≤ sizeLine ∧ Φ ds) Ψ) : WN X g (.List es pos) env Φ Ψ := fun W tk σ F H st hx Q hQ => by
  refine semE_of (pe_lst (paS es)) ?_
  refine h W tk σ F H st hx _ fun as vs F1 H1 ⟨ds, e1, hl, hp⟩ s1 ex1 r1 => ?_
  have hd := dpa_datas e1 r1
  refine ⟨by rw [dpa_len hd]; exact hl, fun p hn => ?_⟩
  exact put_new s1 hn hd hp fun ds v F' H' hp s e r => hQ ds v F' H' hp s (ex1.trans e) r
theorem we_list {Φ : PyData → Bool → Prop} (h : WAs X g es env (fun as => ∃ ds, datas as = some ds ∧ ds.length ≤ sizeLine ∧ Φ (.list ds) true) Ψ) : WE X g (.List es pos) env Φ Ψ := we_of_wn (wn_list h)
theorem we_tuple {x1 : Nat} {Φ : PyData → Bool → Prop} (h : WAs X g es env (fun as => ∃ ds, datas as = some ds ∧ ds.length ≤ sizeLine ∧ Φ (.tuple ds) true) Ψ) : WE X g (.Tuple es x1 pos) env Φ Ψ := fun W tk σ F H st hx Q hQ => by
  refine semE_of (pe_tup (paS es)) ?_
  refine h W tk σ F H st hx _ fun as vs F1 H1 ⟨ds, e1, hl, hp⟩ s1 ex1 r1 => ?_
  have hd := dpa_datas e1 r1
  refine ⟨by rw [dpa_len hd]; exact hl, fun p hn => ?_⟩
  exact put_tup s1 hn hd hp fun d z v F' H' hp s e r => hQ d z v F' H' hp s (ex1.trans e) r
def slOf (env : List Sl) : Ar → Sl
  | .d x => .d x
  | .s i => env[i]?.getD .un
def arIx : List Ar → List Nat
  | [] => []
  | .s i :: r => i :: arIx r
  | .d _ :: r => arIx r
theorem arall_len : ∀ {vs : List V} {as : List Ar}, ArAll K F σ vs as → vs.length = as.length
  | [], [], _ => rfl
  | _ :: _, _ :: _, ⟨_, h⟩ => congrArg Nat.succ (arall_len h)
  | [], _ :: _, h => h.elim
  | _ :: _, [], h => h.elim
theorem arall_get : ∀ {vs : List V} {as : List Ar} {j : Nat} {a : Ar}, ArAll K F σ vs as → as[j]? = some a → ∃ v, vs[j]? = some v ∧ ArOk K F σ v a
  | [], [], j, a, _, h => by simp at h
  | v :: vs, x :: as, 0, a, ⟨h1, _⟩, h => by
    have e := Option.some.inj h
    subst e
    exact ⟨v, rfl, h1⟩
  | v :: vs, x :: as, j + 1, a, ⟨_, h2⟩, h => arall_get (j := j) h2 h
  | [], _ :: _, _, _, h, _ => h.elim
  | _ :: _, [], _, _, h, _ => h.elim
theorem arix_mem : ∀ {as : List Ar} {j i : Nat}, as[j]? = some (.s i) → i ∈ arIx as
  | .s k :: r, 0, i, h => by
    have e := Option.some.inj h
    injection e with e
    subst e
    exact List.mem_cons_self ..
  | .d x :: r, 0, i, h => by have e := Option.some.inj h; cases e
  | .s k :: r, j + 1, i, h => List.mem_cons_of_mem _ (arix_mem (as := r) (j := j) h)
  | .d x :: r, j + 1, i, h => arix_mem (as := r) (j := j) h
  | [], _, _, h => by simp at h
/-- the same slot is not handed on twice -/
theorem arix_inj : ∀ {as : List Ar} {j k i : Nat}, (arIx as).Nodup → as[j]? = some (.s i) → as[k]? = some (.s i) → j = k
  | [], _, _, _, _, h, _ => by simp at h
  | _ :: _, 0, 0, _, _, _, _ => rfl
  | .s l :: r, 0, k + 1, i, nd, h1, h2 => by
    have e := Option.some.inj h1
    injection e with e
    subst e
    exact absurd (arix_mem (as := r) (j := k) h2) (List.nodup_cons.mp nd).1
  | .s l :: r, j + 1, 0, i, nd, h1, h2 => by
    have e := Option.some.inj h2
    injection e with e
    subst e
    exact absurd (arix_mem (as := r) (j := j) h1) (List.nodup_cons.mp nd).1
  | .d l :: r, 0, k + 1, i, nd, h1, h2 => by have e := Option.some.inj h1; cases e
  | .d l :: r, j + 1, 0, i, nd, h1, h2 => by have e := Option.some.inj h2; cases e
  | .s l :: r, j + 1, k + 1, i, nd, h1, h2 => congrArg Nat.succ (arix_inj (as := r) (List.nodup_cons.mp nd).2 h1 h2)
  | .d l :: r, j + 1, k + 1, i, nd, h1, h2 => congrArg Nat.succ (arix_inj (as := r) nd h1 h2)
theorem map_get {α β : Type} {f : α → β} {l : List α} {j : Nat} {y : β} (h : (l.map f)[j]? = some y) : ∃ x, l[j]? = some x ∧ f x = y := by
  rw [List.getElem?_map] at h
  exact Option.map_eq_some_iff.mp h
theorem vmap_get {vs : List V} {j : Nat} {v : V} (h : vs[j]? = some v) : ((vs.map some)[j]?.getD none : Option V) = some v := by
  rw [List.getElem?_map, h]; rfl
/-- what the callee is handed -/
theorem Sk.callee {as : List Ar} {vs : List V} (st : Sk K F H σ env) (ha : ArAll K F σ vs as) (nd : (arIx as).Nodup) (hs : ∀ i ∈ arIx as, i < env.length) : Sk K F H (vs.map some) (as.map (slOf env)) where
  len := by rw [List.length_map, List.length_map]; exact arall_len ha
  sl := fun j s e => by
    obtain ⟨a, ea, es⟩ := map_get e
    obtain ⟨v, ev, hv⟩ := arall_get ha ea
    rw [vmap_get ev]
    cases a with
    | d x => rw [← es]; exact ⟨v, rfl, hv⟩
    | s i =>
      have hi := hs i (arix_mem ea)
      have q := st.sl i _ (List.getElem?_eq_getElem hi)
      have hv' : σ[i]? = some (some v) := hv
      rw [hv'] at q
      have e2 : s = env[i] := by rw [← es]; show env[i]?.getD .un = _; rw [List.getElem?_eq_getElem hi]; rfl
      rw [e2]; exact q
  nd := fun j k s t a ej ek h1 h2 => by
    obtain ⟨x, ex, rfl⟩ := map_get ej
    obtain ⟨y, ey, rfl⟩ := map_get ek
    cases x with
    | d z => cases h1
    | s i =>
      cases y with
      | d z => cases h2
      | s l =>
        have hi := hs i (arix_mem ex)
        have hl := hs l (arix_mem ey)
        have e1 : slOf env (.s i) = env[i] := by show env[i]?.getD .un = _; rw [List.getElem?_eq_getElem hi]; rfl
        have e2 : slOf env (.s l) = env[l] := by show env[l]?.getD .un = _; rw [List.getElem?_eq_getElem hl]; rfl
        rw [e1] at h1
        rw [e2] at h2
        have e := st.nd i l _ _ a (List.getElem?_eq_getElem hi) (List.getElem?_eq_getElem hl) h1 h2
        subst e
        exact arix_inj nd ex ey
  fr := fun a ⟨j, s, e, h1⟩ => by
    obtain ⟨x, ex, rfl⟩ := map_get e
    cases x with
    | d z => cases h1
    | s i =>
      have hi := hs i (arix_mem ex)
      have e1 : slOf env (.s i) = env[i] := by show env[i]?.getD .un = _; rw [List.getElem?_eq_getElem hi]; rfl
      exact st.fr a ⟨i, env[i], List.getElem?_eq_getElem hi, by rw [← e1]; exact h1⟩
  ex := st.ex
  tf := st.tf
  tk := st.tk
theorem own_args {as : List Ar} {a : Addr} (h : Own (as.map (slOf env)) a) : ∃ (j i : Nat) (s : Sl), as[j]? = some (.s i) ∧ env[i]? = some s ∧ a ∈ s.fp := by
  obtain ⟨j, s, e, h1⟩ := h
  obtain ⟨x, ex, rfl⟩ := map_get e
  cases x with
  | d z => cases h1
  | s i =>
    cases q : env[i]? with
    | none => have e1 : slOf env (.s i) = .un := by show env[i]?.getD .un = _; rw [q]; rfl
              rw [e1] at h1; cases h1
    | some s => have e1 : slOf env (.s i) = s := by show env[i]?.getD .un = _; rw [q]; rfl
                rw [e1] at h1; exact ⟨j, i, s, ex, q, h1⟩
/-- behind a call: the slots that were handed on are as the callee left them -/
theorem St.called {as : List Ar} {vs : List V} {args' env' : List Sl} (st : St K g F H σ env) (ha : ArAll K F σ vs as) (sk : Sk K F' H' (vs.map some) args') (hst : Step F H (as.map (slOf env)) F' H')
    (hl : env'.length = env.length) (hk : ∀ (i : Nat) (s : Sl), i ∉ arIx as → env'[i]? = some s → env[i]? = some s) (hp : ∀ (j i : Nat) (s : Sl), as[j]? = some (Ar.s i) → env'[i]? = some s → args'[j]? = some s)
    (hsub : ∀ (i : Nat) (s s' : Sl), env[i]? = some s → env'[i]? = some s' → ∀ a ∈ s'.fp, a ∈ s.fp ∨ H a = none) : St K g F' H' σ env' := by
  obtain ⟨e1, e2, e3, e4⟩ := hst
  have sub : ∀ a, Own env' a → Own env a ∨ H a = none := fun a ⟨i, s', h1, h2⟩ => by
    have hi : i < env.length := by rw [← hl]; exact (List.getElem?_eq_some_iff.mp h1).1
    rcases hsub i _ s' (List.getElem?_eq_getElem hi) h1 a h2 with q | q
    · exact .inl ⟨i, env[i], List.getElem?_eq_getElem hi, q⟩
    · exact .inr q
  have ownA : ∀ a, Own (as.map (slOf env)) a → Own env a := fun a h => by
    obtain ⟨j, i, s, _, h2, h3⟩ := own_args h
    exact ⟨i, s, h2, h3⟩
  have ixs : ∀ (i : Nat), i ∈ arIx as → ∃ j : Nat, as[j]? = some (Ar.s i) := fun i h => by
    clear hp hk ownA e2 ha
    induction as with
    | nil => cases h
    | cons x r ih =>
      cases x with
      | d z => obtain ⟨j, hj⟩ := ih h; exact ⟨j + 1, hj⟩
      | s l =>
        rcases List.mem_cons.mp (show i ∈ l :: arIx r from h) with e | h
        · subst e; exact ⟨0, rfl⟩
        · obtain ⟨j, hj⟩ := ih h; exact ⟨j + 1, hj⟩
  refine { len := by rw [hl]; exact st.len, sl := fun i s e => ?_, nd := fun i j s t a ei ej h1 h2 => ?_, fr := fun a h => ?_, ex := sk.ex, tf := sk.tf, tk := sk.tk, gt := st.gt.grow (fun a z => by
      cases q : H a with
      | none => rfl
      | some u => exact absurd z (e4 a (by rw [q]; intro y; cases y))), g1 := fun a o h m n => ?_, g2 := fun a h => (sub a h).elim (st.g2 a) fun z => .inl (st.h0 z), g3 := st.g3.trans e1, g4 := fun a h => ?_, g5 := fun a m z => ?_, g6 := st.g6 }
  · by_cases hi : i ∈ arIx as
    · obtain ⟨j, hj⟩ := ixs i hi
      have q := sk.sl j s (hp j i s hj e)
      obtain ⟨v, ev, hv⟩ := arall_get ha hj
      rw [vmap_get ev] at q
      have hv' : σ[i]? = some (some v) := hv
      rw [hv']; exact q
    · have e' := hk i s hi e
      refine slok_mono e1 (fun a h u q => e2 a u q (fun z => ?_) fun ps y => slok_ntb (st.sl i s e') h ps (by rw [q, y])) (st.sl i s e')
      obtain ⟨j, l, t, h3, h4, h5⟩ := own_args z
      have el := st.nd i l s t a e' h4 h h5
      subst el
      exact hi (arix_mem h3)
  · have hi : i < env.length := by rw [← hl]; exact (List.getElem?_eq_some_iff.mp ei).1
    have hj : j < env.length := by rw [← hl]; exact (List.getElem?_eq_some_iff.mp ej).1
    by_cases mi : i ∈ arIx as
    · by_cases mj : j ∈ arIx as
      · obtain ⟨p, hp1⟩ := ixs i mi
        obtain ⟨q, hq1⟩ := ixs j mj
        have e := sk.nd p q s t a (hp p i s hp1 ei) (hp q j t hq1 ej) h1 h2
        subst e
        rw [hp1] at hq1
        injection hq1 with z
        injection z
      · have ej' := hk j t mj ej
        rcases hsub i _ s (List.getElem?_eq_getElem hi) ei a h1 with z | z
        · exact st.nd i j _ t a (List.getElem?_eq_getElem hi) ej' z h2
        · exact absurd z (st.there ⟨j, t, ej', h2⟩)
    · have ei' := hk i s mi ei
      rcases hsub j _ t (List.getElem?_eq_getElem hj) ej a h2 with z | z
      · exact st.nd i j s _ a ei' (List.getElem?_eq_getElem hj) h1 z
      · exact absurd z (st.there ⟨i, s, ei', h1⟩)
  · obtain ⟨i, s, h1, h2⟩ := h
    by_cases mi : i ∈ arIx as
    · obtain ⟨p, hp1⟩ := ixs i mi
      exact sk.fr a ⟨p, s, hp p i s hp1 h1, h2⟩
    · have ho : Own env a := ⟨i, s, hk i s mi h1, h2⟩
      cases q : F' a with
      | none => rfl
      | some u =>
        rcases e3 a (by rw [q]; intro z; cases z) with z | z
        · exact absurd (st.fr a ho) z
        · exact absurd z (st.there ho)
  · refine e2 a o (st.g1 a o h m n) (fun z => ?_) n
    rcases st.g2 a (ownA a z) with q | q
    · rw [q] at h; cases h
    · exact m q
  · rcases e3 a h with z | z
    · exact st.g4 a z
    · exact .inr (st.h0 z)
  · exact e4 a (st.g5 a m) z
end
end TL
namespace TL
open PySem PySem.Spec PyProof.Rows L2
section
variable {X : Cx} {g : G} {env : List Sl} {Ψ : Exc → Prop} {pos p : Pos} {a b c e : Expr} {es : List Expr} {K : Frag} {F F' H H' : Hp} {σ : SS}
def PRd : PR → PyData → Prop
  | .rd d, d' => d' = d
  | .nl ds, d' => d' = .list ds
  | .ar _, _ => False
  | .nt _, _ => False
  | .nk _, _ => False
  | .sl _, _ => False
def natNd : List Nat → Bool
  | [] => true
  | x :: r => (r.all fun y => !Nat.beq x y) && natNd r
def callOk (as : List Ar) (m n : Nat) : Bool := Nat.beq as.length m && natNd (arIx as) && (arIx as).all fun i => Nat.blt i n
theorem natNd_ok : ∀ {l : List Nat}, natNd l = true → l.Nodup
  | [], _ => List.nodup_nil
  | x :: r, h => by
    have h' : (r.all fun y => !Nat.beq x y) = true ∧ natNd r = true := Bool.and_eq_true_iff.mp h
    refine List.nodup_cons.mpr ⟨fun hm => ?_, natNd_ok h'.2⟩
    have q := List.all_eq_true.mp h'.1 x hm
    rw [Nat.beq_refl] at q
    cases q
theorem callOk_ok {as : List Ar} {m n : Nat} (h : callOk as m n = true) : as.length = m ∧ (arIx as).Nodup ∧ ∀ i ∈ arIx as, i < n := by
  have h1 : (Nat.beq as.length m && natNd (arIx as)) = true ∧ ((arIx as).all fun i => Nat.blt i n) = true := Bool.and_eq_true_iff.mp h
  have h2 := Bool.and_eq_true_iff.mp h1.1
  refine ⟨Nat.eq_of_beq_eq_true h2.1, natNd_ok h2.2, fun i hi => ?_⟩
  have q := List.all_eq_true.mp h1.2 i hi
  exact Nat.le_of_ble_eq_true q
theorem st_same {as : List Ar} {vs : List V} {args' : List Sl} (st : St K g F H σ env) (ha : ArAll K F σ vs as) (sk : Sk K F' H' (vs.map some) args') (hst : Step F H (as.map (slOf env)) F' H') (e : args' = as.map (slOf env)) : St K g F' H' σ env := by
  subst e
  refine st.called ha sk hst rfl (fun _ _ _ h => h) (fun j i s h1 h2 => ?_) (fun i s s' h1 h2 a h3 => ?_)
  · rw [List.getElem?_map, h1]
    show some (env[i]?.getD .un) = some s
    rw [h2]; rfl
  · rw [h1] at h2; cases h2; exact .inl h3
/-- a def is called; what it was handed stays as it is described -/
theorem call_run {j k : Nat} {x : Str} {ps : List Str} {S : CT} {Φ : PR → Prop} (hf : Has X.prog X.w X.K X.mg X.base j x ps S) (hr : Room k X.A)
    (h : WAs X g (e :: es) env (fun as => callOk as ps.length env.length = true ∧ S (as.map (slOf env)) (fun r args' => args' = as.map (slOf env) ∧ Φ r) (fun c args' => args' = as.map (slOf env) ∧ Ψ c)) Ψ)
    (hj : j ≤ k) (hg : Gl X x) (hdb : (x == ("__debug__" : Str)) = false)
    (he : starEach (e :: es) X.env = (false, eval e X.env) :: starEach es X.env) (hpl : (backTo pos (starEach es X.env)).any (·.1) = false)
    {W : WX} (tk : Takes X W) (st : St X.K g F H σ env) (hx : HX X g env Ψ W σ) {Q : VK}
    (hQ : ∀ r vs v F1 H1 F' H' args', Φ r → St X.K g F' H' σ env → Ex F F' → St X.K g F1 H1 σ env → PrOk X.K vs H1 F' H' args' v r → Q v H') : semE X (.Call (.Name x p) (e :: es) [] pos) σ H Q := by
  obtain ⟨f, fd, hm, hk, hb, F0⟩ := hf.ex
  refine semE_of (pe_callS F0 (hr.mono hj) hg hm hk hb (fun σ => passAt tk σ) (paS (e :: es)) hdb he hpl) ?_
  refine h W tk σ F H st hx _ fun as vs F1 H1 ⟨hok, hS⟩ s1 e1 ra => ?_
  obtain ⟨h1, h2, h3⟩ := callOk_ok hok
  refine ⟨by rw [arall_len ra, h1], F1, as.map (slOf env), _, _, hS, s1.toSk.callee ra h2 h3, fun r v args' F' H' ⟨ea, hp⟩ sk hst _ pr => ?_, fun c args' F' H' ⟨ea, hp⟩ sk hst _ => ?_⟩
  · exact hQ r vs v F1 H1 F' H' args' hp (st_same s1 ra sk hst ea) (e1.trans hst.1) s1 pr
  · have := hx c F' H' hp (st_same s1 ra sk hst ea)
    cases c
    exact this
theorem we_call {j k : Nat} {x : Str} {ps : List Str} {S : CT} {Φ : PyData → Bool → Prop} (hf : Has X.prog X.w X.K X.mg X.base j x ps S) (hr : Room k X.A)
    (h : WAs X g (e :: es) env (fun as => callOk as ps.length env.length = true ∧ S (as.map (slOf env)) (fun r args' => args' = as.map (slOf env) ∧ ∃ d, PRd r d ∧ Φ d true) (fun c args' => args' = as.map (slOf env) ∧ Ψ c)) Ψ)
    (hj : j ≤ k := by omega) (hg : Gl X x := by rfl) (hdb : (x == ("__debug__" : Str)) = false := by decide)
    (he : starEach (e :: es) X.env = (false, eval e X.env) :: starEach es X.env := by rfl) (hpl : (backTo pos (starEach es X.env)).any (·.1) = false := by rfl) : WE X g (.Call (.Name x p) (e :: es) [] pos) env Φ Ψ := fun W tk σ F H st hx Q hQ => by
  refine call_run (Φ := fun r => ∃ d, PRd r d ∧ Φ d true) hf hr h hj hg hdb he hpl tk st hx fun r vs v F1 H1 F' H' args' ⟨d, hd, hp⟩ s' e' s1 pr => ?_
  cases r with
  | rd d0 => subst hd; exact hQ _ true v F' H' hp s' e' pr
  | nl ds =>
    subst hd
    obtain ⟨q, xs, rfl, h1, h2, h3, h4, h5⟩ := pr
    have e2 := Ex.new (o := .lst xs) h3
    exact hQ (.list ds) true (.ref q) (upd F' q (.lst xs)) H' hp (s'.freeze h1 h3 (fun z => s1.there z h4) (s1.h0 h4)) (e'.trans e2) (.lst (SqL.of upd_same) (dpa_mono e2 _ _ h2))
  | ar i => exact hd.elim
  | nt _ => exact hd.elim
  | nk _ => exact hd.elim
  | sl _ => exact hd.elim
theorem wn_call {j k : Nat} {x : Str} {ps : List Str} {S : CT} {Φ : List PyData → Prop} (hf : Has X.prog X.w X.K X.mg X.base j x ps S) (hr : Room k X.A)
    (h : WAs X g (e :: es) env (fun as => callOk as ps.length env.length = true ∧ S (as.map (slOf env)) (fun r args' => args' = as.map (slOf env) ∧ ∃ ds, r = .nl ds ∧ Φ ds) (fun c args' => args' = as.map (slOf env) ∧ Ψ c)) Ψ)
    (hj : j ≤ k := by omega) (hg : Gl X x := by rfl) (hdb : (x == ("__debug__" : Str)) = false := by decide)
    (he : starEach (e :: es) X.env = (false, eval e X.env) :: starEach es X.env := by rfl) (hpl : (backTo pos (starEach es X.env)).any (·.1) = false := by rfl) : WN X g (.Call (.Name x p) (e :: es) [] pos) env Φ Ψ := fun W tk σ F H st hx Q hQ => by
  refine call_run (Φ := fun r => ∃ ds, r = .nl ds ∧ Φ ds) hf hr h hj hg hdb he hpl tk st hx fun r vs v F1 H1 F' H' args' ⟨ds, hd, hp⟩ s' e' s1 pr => ?_
  subst hd
  obtain ⟨q, xs, rfl, h1, h2, h3, h4, h5⟩ := pr
  exact hQ ds (.ref q) F' H' hp s' e' ⟨q, xs, rfl, h1, h2, h3, fun z => s1.there z h4, s1.h0 h4⟩
theorem we_b1 {Φ : PyData → Bool → Prop} {R : PyData → Bool → Prop} {x : Str} {id : String} {r : List V → Hp → VK → Prop} (hc : CallR X (.builtin id) r) (hm : X.mg x = none) (hv : bootBuiltins x = some (.builtin id))
    (hr : ∀ d1 z1, R d1 z1 → DUn X.K g env (fun v => r [v]) d1 z1 Φ) (h : WE X g a env R Ψ) (hg : Gl X x := by rfl) (hn : x ≠ "__name__" := by decide) (hdb : (x == ("__debug__" : Str)) = false := by decide)
    (he : starEach [a] X.env = (false, eval a X.env) :: starEach [] X.env := by rfl) (hpl : (backTo pos (starEach ([] : List Expr) X.env)).any (·.1) = false := by rfl) : WE X g (.Call (.Name x p) [a] [] pos) env Φ Ψ := fun W tk σ F H st hx Q hQ => by
  refine semE_of (pe_callB hc hg hm hv (pa_cons (peS a) pa_nil he) hn hdb he hpl) ?_
  refine h W tk σ F H st hx _ fun d1 z1 v1 F1 H1 h1 st1 e1 r1 => ?_
  exact hr _ _ h1 σ F1 H1 v1 st1 r1 Q fun d z v F' H' hp s3 e3 r3 => hQ d z v F' H' hp s3 (e1.trans e3) r3
theorem we_t1 {Φ : PyData → Bool → Prop} {R : PyData → Bool → Prop} {x : Str} {id : String} {r : List V → Hp → VK → Prop} (hc : CallR X (.type id) r) (hm : X.mg x = none) (hv : bootBuiltins x = some (.type id))
    (hr : ∀ d1 z1, R d1 z1 → DUn X.K g env (fun v => r [v]) d1 z1 Φ) (h : WE X g a env R Ψ) (hg : Gl X x := by rfl) (hn : x ≠ "__name__" := by decide) (hdb : (x == ("__debug__" : Str)) = false := by decide)
    (he : starEach [a] X.env = (false, eval a X.env) :: starEach [] X.env := by rfl) (hpl : (backTo pos (starEach ([] : List Expr) X.env)).any (·.1) = false := by rfl) : WE X g (.Call (.Name x p) [a] [] pos) env Φ Ψ := fun W tk σ F H st hx Q hQ => by
  refine semE_of (pe_callTy hc hg hm hv (pa_cons (peS a) pa_nil he) hn hdb he hpl) ?_
  refine h W tk σ F H st hx _ fun d1 z1 v1 F1 H1 h1 st1 e1 r1 => ?_
  exact hr _ _ h1 σ F1 H1 v1 st1 r1 Q fun d z v F' H' hp s3 e3 r3 => hQ d z v F' H' hp s3 (e1.trans e3) r3
section
variable {Φ : PyData → Bool → Prop}
inductive LenP (Φ : PyData → Bool → Prop) : PyData → Bool → Prop
  | lst {xs : List PyData} {z : Bool} : Φ (.int xs.length) true → LenP Φ (.list xs) z
  | tup {xs : List PyData} {z : Bool} : Φ (.int xs.length) true → LenP Φ (.tuple xs) z
  | str {s : Str} {z : Bool} : Φ (.int s.length) true → s.length ≤ sizeLine → LenP Φ (.str s) z
theorem we_len (hm : X.mg "len" = none) (h : WE X g a env (LenP Φ) Ψ) (hg : Gl X "len" := by rfl) (he : starEach [a] X.env = (false, eval a X.env) :: starEach [] X.env := by rfl) : WE X g (.Call (.Name "len" p) [a] [] pos) env Φ Ψ :=
  we_b1 call_len hm PySem.boot_len (fun d1 z1 q σ F H v1 st r1 Q hQ => by
    cases q with
    | @lst xs z q =>
      obtain ⟨a1, vs1, rfl, s1, p1⟩ := rd_lst st.toSk r1
      exact ⟨_, xs.length, rfl, .inl ⟨_, s1, (dpa_len p1).symm⟩, hQ _ true _ F H q st (Ex.refl F) (.int _)⟩
    | @tup xs z q =>
      obtain ⟨a1, vs1, rfl, s1, p1⟩ := rd_tup st.toSk r1
      exact ⟨_, xs.length, rfl, .inr ⟨_, s1, (dpa_len p1).symm⟩, hQ _ true _ F H q st (Ex.refl F) (.int _)⟩
    | @str s z q hl => exact ⟨_, s.length, rfl, by rw [rd_str r1]; exact ⟨hl, rfl⟩, hQ _ true _ F H q st (Ex.refl F) (.int _)⟩) h hg (he := he)
theorem we_abs (hm : X.mg "abs" = none) (h : WE X g a env (fun d _ => ∃ i, d = .int i ∧ Φ (.int (if i < 0 then -i else i)) true) Ψ) (hg : Gl X "abs" := by rfl) (he : starEach [a] X.env = (false, eval a X.env) :: starEach [] X.env := by rfl) : WE X g (.Call (.Name "abs" p) [a] [] pos) env Φ Ψ :=
  we_b1 call_abs hm (by decide +kernel) (fun d1 z1 ⟨i, e, q⟩ σ F H v1 st r1 Q hQ => by
    subst e
    exact ⟨i, by rw [rd_int r1], hQ _ true _ F H q st (Ex.refl F) (.int _)⟩) h hg (he := he)
theorem we_sum (hm : X.mg "sum" = none) (hc : X.calm = true) (h : WE X g a env (fun d _ => ∃ ns : List Int, d = .list (ns.map .int) ∧ Φ (.int ns.sum) true) Ψ) (hg : Gl X "sum" := by rfl) (he : starEach [a] X.env = (false, eval a X.env) :: starEach [] X.env := by rfl) : WE X g (.Call (.Name "sum" p) [a] [] pos) env Φ Ψ :=
  we_b1 (cr_sum hc) hm (by decide +kernel) (fun d1 z1 ⟨ns, e, q⟩ σ F H v1 st r1 Q hQ => by
    subst e
    obtain ⟨a1, vs1, rfl, s1, p1⟩ := rd_lst st.toSk r1
    rw [dpa_ints_eq p1] at s1
    exact ⟨a1, ns, rfl, s1, hQ _ true _ F H q st (Ex.refl F) (.int _)⟩) h hg (he := he)
theorem dpa_bools_eq : ∀ {ns : List Bool} {vs : List V}, DqAll K H vs (ns.map PyData.bool) → vs = ns.map V.bl
  | [], _, h => by
    have h' : DqAll K H _ [] := h
    cases h'; rfl
  | n :: ns, _, h => by
    have h' : DqAll K H _ (.bool n :: ns.map PyData.bool) := h
    cases h' with
    | cons h1 h2 => rw [dp_bl h1, dpa_bools_eq h2]; rfl
theorem we_all (hm : X.mg "all" = none) (hc : X.calm = true) (h : WE X g a env (fun d _ => ∃ ns : List Bool, d = .list (ns.map .bool) ∧ Φ (.bool (ns.all id)) true) Ψ) (hg : Gl X "all" := by rfl) (he : starEach [a] X.env = (false, eval a X.env) :: starEach [] X.env := by rfl) : WE X g (.Call (.Name "all" p) [a] [] pos) env Φ Ψ :=
  we_b1 (cr_all hc) hm (by decide +kernel) (fun d1 z1 ⟨ns, e, q⟩ σ F H v1 st r1 Q hQ => by
    subst e
    obtain ⟨a1, vs1, rfl, s1, p1⟩ := rd_lst st.toSk r1
    rw [dpa_bools_eq p1] at s1
    exact ⟨a1, ns, rfl, s1, hQ _ true _ F H q st (Ex.refl F) (.bl _)⟩) h hg (he := he)
theorem we_any (hm : X.mg "any" = none) (hc : X.calm = true) (h : WE X g a env (fun d _ => ∃ ns : List Bool, d = .list (ns.map .bool) ∧ Φ (.bool (ns.any id)) true) Ψ) (hg : Gl X "any" := by rfl) (he : starEach [a] X.env = (false, eval a X.env) :: starEach [] X.env := by rfl) : WE X g (.Call (.Name "any" p) [a] [] pos) env Φ Ψ :=
  we_b1 (cr_any hc) hm (by decide +kernel) (fun d1 z1 ⟨ns, e, q⟩ σ F H v1 st r1 Q hQ => by
    subst e
    obtain ⟨a1, vs1, rfl, s1, p1⟩ := rd_lst st.toSk r1
    rw [dpa_bools_eq p1] at s1
    exact ⟨a1, ns, rfl, s1, hQ _ true _ F H q st (Ex.refl F) (.bl _)⟩) h hg (he := he)
inductive IntOfP (Φ : PyData → Bool → Prop) : PyData → Bool → Prop
  | int {i : Int} {z : Bool} : Φ (.int i) true → IntOfP Φ (.int i) z
  | bool {k : Bool} {z : Bool} : Φ (.int (if k then 1 else 0)) true → IntOfP Φ (.bool k) z
theorem we_intof (hm : X.mg "int" = none) (h : WE X g a env (IntOfP Φ) Ψ) (hg : Gl X "int" := by rfl) (he : starEach [a] X.env = (false, eval a X.env) :: starEach [] X.env := by rfl) : WE X g (.Call (.Name "int" p) [a] [] pos) env Φ Ψ :=
  we_t1 call_int1 hm (by decide +kernel) (fun d1 z1 q σ F H v1 st r1 Q hQ => by
    cases q with
    | @int i z q => exact .inl ⟨i, by rw [rd_int r1], hQ _ true _ F H q st (Ex.refl F) (.int _)⟩
    | @bool k z q => exact .inr ⟨k, by rw [rd_bl r1], hQ _ true _ F H q st (Ex.refl F) (.int _)⟩) h hg (he := he)
inductive TupP (Φ : PyData → Bool → Prop) : PyData → Bool → Prop
  | lst {xs : List PyData} {z : Bool} : Φ (.tuple xs) true → TupP Φ (.list xs) z
  | tup {xs : List PyData} : Φ (.tuple xs) true → TupP Φ (.tuple xs) true
theorem we_tupof (hm : X.mg "tuple" = none) (h : WE X g a env (TupP Φ) Ψ) (hg : Gl X "tuple" := by rfl) (he : starEach [a] X.env = (false, eval a X.env) :: starEach [] X.env := by rfl) : WE X g (.Call (.Name "tuple" p) [a] [] pos) env Φ Ψ :=
  we_t1 call_tuple_of hm (by decide +kernel) (fun d1 z1 q σ F H v1 st r1 Q hQ => by
    cases q with
    | @lst xs z q =>
      obtain ⟨a1, vs1, rfl, s1, p1⟩ := rd_lst st.toSk r1
      exact ⟨a1, vs1, rfl, .inl ⟨s1, fun l hl => put_tup st hl p1 q hQ⟩⟩
    | @tup xs q =>
      obtain ⟨a1, vs1, rfl, s1, p1⟩ := rd_tup st.toSk r1
      exact ⟨a1, vs1, rfl, .inr ⟨s1, hQ _ true _ F H q st (Ex.refl F) r1⟩⟩) h hg (he := he)
end
def DNew (K : Frag) (g : G) (env : List Sl) (r : V → Hp → VK → Prop) (d1 : PyData) (z1 : Bool) (Φ : List PyData → Prop) : Prop :=
  ∀ (σ : SS) (F H : Hp) (v1 : V), St K g F H σ env → Rd K F env z1 v1 d1 →
    ∀ Q : VK, (∀ ds v F' H', Φ ds → St K g F' H' σ env → Ex F F' → NewL K g F' H' env v ds → Q v H') → r v1 H Q
theorem wn_b1 {Φ : List PyData → Prop} {R : PyData → Bool → Prop} {x : Str} {id : String} {r : List V → Hp → VK → Prop} (hc : CallR X (.builtin id) r) (hm : X.mg x = none) (hv : bootBuiltins x = some (.builtin id))
    (hr : ∀ d1 z1, R d1 z1 → DNew X.K g env (fun v => r [v]) d1 z1 Φ) (h : WE X g a env R Ψ) (hg : Gl X x := by rfl) (hn : x ≠ "__name__" := by decide) (hdb : (x == ("__debug__" : Str)) = false := by decide)
    (he : starEach [a] X.env = (false, eval a X.env) :: starEach [] X.env := by rfl) (hpl : (backTo pos (starEach ([] : List Expr) X.env)).any (·.1) = false := by rfl) : WN X g (.Call (.Name x p) [a] [] pos) env Φ Ψ := fun W tk σ F H st hx Q hQ => by
  refine semE_of (pe_callB hc hg hm hv (pa_cons (peS a) pa_nil he) hn hdb he hpl) ?_
  refine h W tk σ F H st hx _ fun d1 z1 v1 F1 H1 h1 st1 e1 r1 => ?_
  exact hr _ _ h1 σ F1 H1 v1 st1 r1 Q fun ds v F' H' hp s3 e3 r3 => hQ ds v F' H' hp s3 (e1.trans e3) r3
theorem wn_t1 {Φ : List PyData → Prop} {R : PyData → Bool → Prop} {x : Str} {id : String} {r : List V → Hp → VK → Prop} (hc : CallR X (.type id) r) (hm : X.mg x = none) (hv : bootBuiltins x = some (.type id))
    (hr : ∀ d1 z1, R d1 z1 → DNew X.K g env (fun v => r [v]) d1 z1 Φ) (h : WE X g a env R Ψ) (hg : Gl X x := by rfl) (hn : x ≠ "__name__" := by decide) (hdb : (x == ("__debug__" : Str)) = false := by decide)
    (he : starEach [a] X.env = (false, eval a X.env) :: starEach [] X.env := by rfl) (hpl : (backTo pos (starEach ([] : List Expr) X.env)).any (·.1) = false := by rfl) : WN X g (.Call (.Name x p) [a] [] pos) env Φ Ψ := fun W tk σ F H st hx Q hQ => by
  refine semE_of (pe_callTy hc hg hm hv (pa_cons (peS a) pa_nil he) hn hdb he hpl) ?_
  refine h W tk σ F H st hx _ fun d1 z1 v1 F1 H1 h1 st1 e1 r1 => ?_
  exact hr _ _ h1 σ F1 H1 v1 st1 r1 Q fun ds v F' H' hp s3 e3 r3 => hQ ds v F' H' hp s3 (e1.trans e3) r3
inductive LstP (Φ : List PyData → Prop) : PyData → Bool → Prop
  | lst {xs : List PyData} {z : Bool} : Φ xs → LstP Φ (.list xs) z
  | tup {xs : List PyData} {z : Bool} : Φ xs → LstP Φ (.tuple xs) z
theorem wn_listof {Φ : List PyData → Prop} (hm : X.mg "list" = none) (h : WE X g a env (LstP Φ) Ψ) (hg : Gl X "list" := by rfl) (he : starEach [a] X.env = (false, eval a X.env) :: starEach [] X.env := by rfl) : WN X g (.Call (.Name "list" p) [a] [] pos) env Φ Ψ :=
  wn_t1 call_list_of hm (by decide +kernel) (fun d1 z1 q σ F H v1 st r1 Q hQ => by
    cases q with
    | @lst xs z q =>
      obtain ⟨a1, vs1, rfl, s1, p1⟩ := rd_lst st.toSk r1
      exact ⟨a1, vs1, rfl, .inl s1, fun l hl => put_new st hl p1 q hQ⟩
    | @tup xs z q =>
      obtain ⟨a1, vs1, rfl, s1, p1⟩ := rd_tup st.toSk r1
      exact ⟨a1, vs1, rfl, .inr s1, fun l hl => put_new st hl p1 q hQ⟩) h hg (he := he)
/-- sorted(xs), any data that can be put in order -/
def rSortD (K : Frag) : List V → Hp → VK → Prop := fun vs H Q => ∃ (a : Addr) (xs : List V) (ds : List PyData) (F : Hp), vs = [V.ref a] ∧ SqL K H a xs ∧ DqAll K F xs ds ∧ Ex F H ∧ PySem.W.AllAlike ds ∧ PySem.W.Sortable ds ∧ (∀ d ∈ ds, SeqAt.shaped d = true) ∧
  ∀ (ys : List V) (p : Addr), DqAll K F ys (ds.mergeSort (PySem.W.dataLe false id)) → H p = none → Q (.ref p) (upd H p (.lst ys))
theorem each_of {X : Cx} {pins : List (Addr × Obj)} {s : Shared} {F : Hp} (I : Inv X pins σ H s) (e : Ex F H) : ∀ {ds : List PyData} {xs : List V} {its : List Value}, (∀ d ∈ ds, SeqAt.shaped d = true) → Vals xs its → DqAll X.K F xs ds →
    PySem.W.EachIs (fun u d => ∃ x : V, RelV x u ∧ Dq X.K F x d) its ds ∧ PySem.W.EachIs (fun u d => ∃ as, Reads s.heap u (id d) as) its ds
  | [], _, _, _, r, h => by
    cases h
    cases r
    exact ⟨.nil, .nil⟩
  | d :: ds, _, _, c, r, h => by
    cases h with
    | cons h1 h2 =>
      cases r with
      | cons r1 r2 =>
        obtain ⟨q1, q2⟩ := each_of I e (fun b hb => c b (List.mem_cons_of_mem _ hb)) r2 h2
        exact ⟨.cons ⟨_, r1, h1⟩ q1, .cons (Dp.reads I d _ _ (dq_dp _ _ (shp_lay (c d (List.mem_cons_self ..))) (dp_mono e _ _ h1)) r1) q2⟩
theorem each_back {F : Hp} : ∀ {ds : List PyData} {out : List Value}, PySem.W.EachIs (fun u d => ∃ x : V, RelV x u ∧ Dq K F x d) out ds → ∃ ys, Vals ys out ∧ DqAll K F ys ds
  | _, _, .nil => ⟨[], .nil, .nil⟩
  | _, _, .cons ⟨x, h1, h2⟩ t => by
    obtain ⟨ys, q1, q2⟩ := each_back t
    exact ⟨x :: ys, .cons h1 q1, .cons h2 q2⟩
theorem cr_sortD {k : Nat} (hr : Room k X.A) : CallR X (.builtin "sorted") (rSortD X.K) := by
  intro pins s σ H vs us Q I r h
  obtain ⟨a, xs, ds, F, rfl, hs, hd, eF, hal, hk, hdp, q⟩ := h
  obtain ⟨its, rv, hl, hz⟩ := I.list hs
  rw [Vals.ref1 r]
  obtain ⟨q1, q2⟩ := each_of I eF hdp rv hd
  have hids : ds.map id = ds := List.map_id ds
  have hu := hr.un
  refine PySem.W.sorted_data (enc := id) hl.isList q1 q2 (by rw [hids]; exact hal) (by rw [hids]; exact hk) (by rw [← dpa_len hd]; exact hz) (fun b hb => by have : b.depth ≤ 64 := of_decide_eq_true (Bool.and_eq_true_iff.mp (hdp b hb)).2; show X.A.units + 2 + b.depth < cLine; omega) fun out h1 h2 => ?_
  obtain ⟨ys, k1, k2⟩ := each_back h2
  obtain ⟨ep, he'⟩ := PyProof.Rows.sortedAll_at s.heap its out.toArray
  have hlen : ys.length ≤ sizeLine := by rw [k1.length, h1, ← dpa_len hd]; exact hz
  exact ⟨.ref _, upd H (s.heap.objs.size + 1) (.lst ys), I.laid (t' := s.toks) (fun _ _ => PyProof.Rows.sortedAll_old) (Nat.le_succ _) ⟨hlen, out, ep, k1, he'⟩, rfl, q _ _ k2 (I.hok.fresh (Nat.le_succ _))⟩
/-- the list in order -/
def srt (ds : List PyData) : List PyData := ds.mergeSort (PySem.W.dataLe false id)
theorem wn_sorted {k : Nat} {Φ : List PyData → Prop} (hm : X.mg "sorted" = none) (hr : Room k X.A) (h : WE X g a env (fun d _ => ∃ ds, d = .list ds ∧ PySem.W.AllAlike ds ∧ PySem.W.Sortable ds ∧ (∀ d ∈ ds, SeqAt.shaped d = true) ∧ Φ (srt ds)) Ψ) (hg : Gl X "sorted" := by rfl) (he : starEach [a] X.env = (false, eval a X.env) :: starEach [] X.env := by rfl) : WN X g (.Call (.Name "sorted" p) [a] [] pos) env Φ Ψ :=
  wn_b1 (cr_sortD hr) hm (by decide +kernel) (fun d1 z1 ⟨ds, e, h1, h2, h3, q⟩ σ F H v1 st r1 Q hQ => by
    subst e
    obtain ⟨a1, vs1, rfl, s1, p1⟩ := rd_lst st.toSk r1
    exact ⟨a1, vs1, ds, F, rfl, s1, p1, st.ex, h1, h2, h3, fun ys p hy hn => put_new st hn hy q hQ⟩) h hg (he := he)
theorem we_b2 {Φ : PyData → Bool → Prop} {R : PyData → Bool → PyData → Bool → Prop} {x : Str} {id : String} {r : List V → Hp → VK → Prop} (hc : CallR X (.builtin id) r) (hm : X.mg x = none) (hv : bootBuiltins x = some (.builtin id))
    (hr : ∀ d1 z1 d2 z2, R d1 z1 d2 z2 → DOp X.K g env (fun v w => r [v, w]) d1 z1 d2 z2 Φ) (h : WE X g a env (fun d1 z1 => WE X g b env (fun d2 z2 => R d1 z1 d2 z2) Ψ) Ψ) (hg : Gl X x := by rfl) (hn : x ≠ "__name__" := by decide) (hdb : (x == ("__debug__" : Str)) = false := by decide)
    (he : starEach [a, b] X.env = (false, eval a X.env) :: starEach [b] X.env := by rfl) (he2 : starEach [b] X.env = (false, eval b X.env) :: starEach [] X.env := by rfl) (hpl : (backTo pos (starEach [b] X.env)).any (·.1) = false := by rfl) : WE X g (.Call (.Name x p) [a, b] [] pos) env Φ Ψ := fun W tk σ F H st hx Q hQ => by
  refine semE_of (pe_callB hc hg hm hv (pa_cons (peS a) (pa_cons (peS b) pa_nil he2) he) hn hdb he hpl) ?_
  refine h W tk σ F H st hx _ fun d1 z1 v1 F1 H1 h1 st1 e1 r1 => ?_
  refine h1 W tk σ F1 H1 st1 hx _ fun d2 z2 v2 F2 H2 h2 st2 e2 r2 => ?_
  exact hr _ _ _ _ h2 σ F2 H2 v1 v2 st2 (rd_mono e2 r1) r2 Q fun d z v F' H' hp s3 e3 r3 => hQ d z v F' H' hp s3 ((e1.trans e2).trans e3) r3
theorem we_min2 {Φ : PyData → Bool → Prop} (hm : X.mg "min" = none) (hc : X.calm = true) (h : WE X g a env (fun d1 z1 => WE X g b env (fun d2 z2 => ∃ i j, d1 = .int i ∧ d2 = .int j ∧ Φ (.int (if j < i then j else i)) true) Ψ) Ψ) (hg : Gl X "min" := by rfl) (he : starEach [a, b] X.env = (false, eval a X.env) :: starEach [b] X.env := by rfl) (he2 : starEach [b] X.env = (false, eval b X.env) :: starEach [] X.env := by rfl) (hpl : (backTo pos (starEach [b] X.env)).any (·.1) = false := by rfl) : WE X g (.Call (.Name "min" p) [a, b] [] pos) env Φ Ψ :=
  we_b2 (call_min2 hc) hm (by decide +kernel) (fun d1 z1 d2 z2 ⟨i, j, e1, e2, q⟩ => by
    subst e1 e2
    exact dop_of q fun σ F H v1 v2 Q st r1 r2 k => ⟨i, j, by rw [rd_int r1, rd_int r2], k _ (.int _)⟩) h hg (he := he) (he2 := he2) (hpl := hpl)
theorem we_max2 {Φ : PyData → Bool → Prop} (hm : X.mg "max" = none) (hc : X.calm = true) (h : WE X g a env (fun d1 z1 => WE X g b env (fun d2 z2 => ∃ i j, d1 = .int i ∧ d2 = .int j ∧ Φ (.int (if j > i then j else i)) true) Ψ) Ψ) (hg : Gl X "max" := by rfl) (he : starEach [a, b] X.env = (false, eval a X.env) :: starEach [b] X.env := by rfl) (he2 : starEach [b] X.env = (false, eval b X.env) :: starEach [] X.env := by rfl) (hpl : (backTo pos (starEach [b] X.env)).any (·.1) = false := by rfl) : WE X g (.Call (.Name "max" p) [a, b] [] pos) env Φ Ψ :=
  we_b2 (call_max2 hc) hm (by decide +kernel) (fun d1 z1 d2 z2 ⟨i, j, e1, e2, q⟩ => by
    subst e1 e2
    exact dop_of q fun σ F H v1 v2 Q st r1 r2 k => ⟨i, j, by rw [rd_int r1, rd_int r2], k _ (.int _)⟩) h hg (he := he) (he2 := he2) (hpl := hpl)
def WP (X : Cx) (g : G) (e : Option Expr) (env : List Sl) (Φ : Option Int → Prop) (Ψ : Exc → Prop) : Prop := match e with
  | none => Φ none
  | some e => WE X g e env (fun d _ => ∃ i, d = .int i ∧ Φ (some i)) Ψ
def semO (X : Cx) : Option Expr → TO
  | none => tNoPart
  | some e => tPart (semE X e)
theorem poS : ∀ e : Option Expr, PO X e (semO X e)
  | none => po_none
  | some e => po_some (peS e)
theorem wp_run {o : Option Expr} {Φ : Option Int → Prop} (h : WP X g o env Φ Ψ) {W : WX} (tk : Takes X W) (st : St X.K g F H σ env) (hx : HX X g env Ψ W σ) {Q : Option Int → Hp → Prop}
    (hQ : ∀ i F' H', Φ i → St X.K g F' H' σ env → Ex F F' → Q i H') : semO X o σ H Q := by
  cases o with
  | none => exact hQ none F H h st (Ex.refl F)
  | some e =>
    refine h W tk σ F H st hx _ fun d z v F' H' ⟨i, hd, hp⟩ s' e' r' => ?_
    subst hd
    exact ⟨i, rd_int r', hQ (some i) F' H' hp s' e'⟩
/-- the items of xs[lo:hi] -/
def cut {α : Type} (xs : List α) (lo hi : Option Int) : List α := (xs.drop (HT.sIx xs.length 0 lo)).take (HT.sIx xs.length xs.length hi - HT.sIx xs.length 0 lo)
theorem dpa_cut {ds : List PyData} {vs : List V} (h : DqAll K H vs ds) (lo hi : Option Int) : DqAll K H (cutV vs lo hi) (cut ds lo hi) := by
  unfold cutV cut
  rw [dpa_len h]
  exact dpa_take _ (dpa_drop _ h)
theorem wn_sliceL {lo hi : Option Expr} {p2 : Pos} {Φ : List PyData → Prop} (h : WE X g a env (fun d1 _ => ∃ xs, d1 = .list xs ∧ WP X g lo env (fun l => WP X g hi env (fun u => Φ (cut xs l u)) Ψ) Ψ) Ψ) : WN X g (.Subscript a (.Slice lo hi none p2) pos) env Φ Ψ := fun W tk σ F H st hx Q hQ => by
  refine semE_of (pe_slice sl_list (peS a) (poS lo) (poS hi)) ?_
  refine h W tk σ F H st hx _ fun d1 z1 v1 F1 H1 ⟨xs, hd, h1⟩ st1 e1 r1 => ?_
  subst hd
  refine wp_run h1 tk st1 hx fun l F2 H2 h2 st2 e2 => wp_run h2 tk st2 hx fun u F3 H3 h3 st3 e3 => ?_
  obtain ⟨a1, vs1, rfl, s1, p1⟩ := rd_lst st3.toSk (rd_mono (e2.trans e3) r1)
  exact ⟨a1, vs1, rfl, s1, fun p hp => put_new st3 hp (dpa_cut p1 l u) h3 fun ds v F' H' hp s e r => hQ ds v F' H' hp s (((e1.trans e2).trans e3).trans e) r⟩
end
end TL
namespace TL
open PySem PySem.Spec PyProof.Rows L2
def fps (env : List Sl) : List Addr := env.flatMap Sl.fp
theorem own_fps {env : List Sl} {a : Addr} : Own env a ↔ a ∈ fps env := by
  unfold fps
  rw [List.mem_flatMap]
  constructor
  · rintro ⟨i, s, h1, h2⟩
    exact ⟨s, List.mem_of_getElem? h1, h2⟩
  · rintro ⟨s, h1, h2⟩
    obtain ⟨i, hi⟩ := List.getElem?_of_mem h1
    exact ⟨i, s, hi, h2⟩
section
variable {X : Cx} {g : G} {env env' : List Sl} {Ψ : Exc → Prop} {pos p : Pos} {a b c e : Expr} {es : List Expr} {K : Frag} {F F' H H' : Hp} {σ σ' : SS}
theorem Sk.base (st : Sk K F H σ env) : St K ⟨F, H, fps env⟩ F H σ env :=
  { st with g1 := fun _ _ h _ _ => h, gt := ⟨fun a ps h => (by show H a ≠ none; rw [show H a = _ from h]; intro z; cases z), fun p hp z => (by obtain ⟨ps, h1, _⟩ := st.tk.tb p hp; have z : H p.1 = none := z; rw [h1] at z; cases z)⟩, g2 := fun a h => .inr (own_fps.mp h), g3 := Ex.refl F, g4 := fun a h => .inl h, g5 := fun a h => st.there (own_fps.mpr h), g6 := fun a h => st.there (own_fps.mpr h) }
theorem St.rebase (st : St K g F H σ env) (st' : St K ⟨F, H, fps env⟩ F' H' σ' env') (sub : ∀ a, Own env' a → Own env a) : St K g F' H' σ' env' :=
  { st'.toSk with
    g1 := fun a o h m n => st'.g1 a o (st.g1 a o h m n) (fun z => by
      rcases st.g2 a (own_fps.mpr z) with q | q
      · rw [q] at h; cases h
      · exact m q) n
    gt := st.gt.grow fun a z => by
      cases q : H a with
      | none => rfl
      | some u =>
        by_cases hm : a ∈ fps env
        · exact absurd z (st'.g5 a hm)
        · by_cases ht : ∃ ps, u = .tbl ps
          · obtain ⟨ps, rfl⟩ := ht; exact absurd z (st'.gt.g7 a ps q)
          · rw [st'.g1 a u q hm fun ps y => ht ⟨ps, y⟩] at z; cases z
    g2 := fun a h => st.g2 a (sub a h)
    g3 := st.g3.trans st'.g3
    g4 := fun a h => by
      rcases st'.g4 a h with q | q
      · exact st.g4 a q
      · exact .inr (st.h0 q)
    g5 := fun a m z => by
      by_cases h : a ∈ fps env
      · exact st'.g5 a h z
      · cases q : H a with
        | none => exact st.g5 a m q
        | some u =>
          by_cases ht : ∃ ps, u = .tbl ps
          · obtain ⟨ps, rfl⟩ := ht; exact st'.gt.g7 a ps q z
          · rw [st'.g1 a u q h fun ps y => ht ⟨ps, y⟩] at z; cases z
    g6 := st.g6 }
def putsE (env : List Sl) : List (Nat × PyData) → List Sl
  | [] => env
  | (i, d) :: r => putsE (env.set i (.d d)) r
def putsV (σ : SS) : List (Nat × V) → SS
  | [] => σ
  | (i, v) :: r => putsV (σ.set i (some v)) r
def SetsP (K : Frag) (F : Hp) : List (Nat × V) → List (Nat × PyData) → Prop
  | [], [] => True
  | (i, v) :: r, (j, d) :: l => i = j ∧ Dq K F v d ∧ SetsP K F r l
  | _, _ => False
theorem setsP_app : ∀ {r r' : List (Nat × V)} {l l' : List (Nat × PyData)}, SetsP K F r l → SetsP K F r' l' → SetsP K F (r ++ r') (l ++ l')
  | [], _, [], _, _, h => h
  | _ :: _, _, _ :: _, _, ⟨h1, h2, h3⟩, h => ⟨h1, h2, setsP_app h3 h⟩
  | [], _, _ :: _, _, h, _ => h.elim
  | _ :: _, _, [], _, h, _ => h.elim
theorem putsV_app (σ : SS) : ∀ (r r' : List (Nat × V)), putsV σ (r ++ r') = putsV (putsV σ r) r'
  | [], _ => rfl
  | (i, v) :: r, r' => putsV_app (σ.set i (some v)) r r'
theorem putsE_len : ∀ (l : List (Nat × PyData)) (env : List Sl), (putsE env l).length = env.length
  | [], _ => rfl
  | (i, d) :: r, env => by rw [putsE, putsE_len r, List.length_set]
theorem St.sets : ∀ {r : List (Nat × V)} {l : List (Nat × PyData)} {σ : SS} {env : List Sl}, St K g F H σ env → SetsP K F r l → (∀ q ∈ l, q.1 < env.length) → St K g F H (putsV σ r) (putsE env l)
  | [], [], _, _, st, _, _ => st
  | (i, v) :: r, (j, d) :: l, σ, env, st, ⟨h1, h2, h3⟩, hl => by
    have h1' : i = j := h1
    subst h1'
    have s2 : St K g F H (σ.set i (some v)) (env.set i (.d d)) := st.setD (hl (i, d) (List.mem_cons_self ..)) h2
    exact St.sets (r := r) (l := l) s2 h3 fun q hq => by rw [List.length_set]; exact hl q (List.mem_cons_of_mem _ hq)
  | [], _ :: _, _, _, _, h, _ => h.elim
  | _ :: _, [], _, _, _, h, _ => h.elim
theorem setsP_idx {vs : List Nat} : ∀ {r : List (Nat × V)} {l : List (Nat × PyData)}, SetsP K F r l → (∀ q ∈ l, q.1 ∈ vs) → ∀ q ∈ r, q.1 ∈ vs
  | [], _, _, _, q, hq => by cases hq
  | a :: r, b :: l, ⟨h1, _, h3⟩, hl, q, hq => by
    rcases List.mem_cons.mp hq with z | z
    · rw [z, show a.1 = b.1 from h1]; exact hl b (List.mem_cons_self ..)
    · exact setsP_idx h3 (fun q hq => hl q (List.mem_cons_of_mem _ hq)) q z
  | _ :: _, [], h, _, _, _ => h.elim
theorem putsV_len : ∀ (r : List (Nat × V)) (σ : SS), (putsV σ r).length = σ.length
  | [], _ => rfl
  | (i, v) :: r, σ => by rw [putsV, putsV_len r, List.length_set]
theorem putsV_get {i : Nat} : ∀ {r : List (Nat × V)} {σ : SS}, (∀ q ∈ r, q.1 ≠ i) → (putsV σ r)[i]? = σ[i]?
  | [], _, _ => rfl
  | (j, v) :: r, σ, h => by
    rw [putsV, putsV_get fun q hq => h q (List.mem_cons_of_mem _ hq), List.getElem?_set, if_neg (h (j, v) (List.mem_cons_self ..))]
theorem putsE_get {i : Nat} : ∀ {r : List (Nat × PyData)} {env : List Sl}, (∀ q ∈ r, q.1 ≠ i) → (putsE env r)[i]? = env[i]?
  | [], _, _ => rfl
  | (j, v) :: r, env, h => by
    rw [putsE, putsE_get fun q hq => h q (List.mem_cons_of_mem _ hq), List.getElem?_set, if_neg (h (j, v) (List.mem_cons_self ..))]
/-- a new object that no slot holds is changed -/
theorem St.untracked {D : Addr} {o' : HO} (st : St K g F H σ env) (hF : F D = none) (hn : ¬ Own env D) (h0 : g.H0 D = none) (ht : ∀ vs, o' ≠ .tup vs := by intro _ z; cases z) : St K g F (upd H D o') σ env where
  len := st.len
  sl := fun i s e => slok_mono (Ex.refl F) (fun a ha u q => by
    have hne : a ≠ D := fun z => hn ⟨i, s, e, z ▸ ha⟩
    rw [upd_ne hne]; exact q) (st.sl i s e)
  nd := st.nd
  fr := st.fr
  ex := st.ex.mut hF
  tf := fun a vs q => by
    by_cases e : a = D
    · subst e; rw [upd_same] at q; exact absurd (Option.some.inj q) (ht vs)
    · rw [upd_ne e] at q; exact st.tf a vs q
  tk := st.tk.put fun p hp z => st.gt.g8 p hp (by rw [z]; exact h0)
  gt := st.gt.grow fun a z => by
    by_cases e : a = D
    · subst e; rw [upd_same] at z; cases z
    · rw [upd_ne e] at z; exact z
  g1 := fun a o h m n => by
    have hne : a ≠ D := fun z => by rw [z, h0] at h; cases h
    rw [upd_ne hne]; exact st.g1 a o h m n
  g2 := st.g2
  g3 := st.g3
  g4 := st.g4
  g5 := fun a m z => by
    by_cases hb : a = D
    · subst hb; rw [upd_same] at z; cases z
    · rw [upd_ne hb] at z; exact st.g5 a m z
  g6 := st.g6
/-- what a target does with data -/
def TGd (K : Frag) (t : TG) (A : PyData → Option (List (Nat × PyData))) : Prop :=
  ∀ (x : PyData) (l : List (Nat × PyData)) (σ : SS) (F H : Hp) (v : V) (Q : SS → Hp → Prop), A x = some l → Ex F H → Dq K F v x → (∀ r, SetsP K F r l → Q (putsV σ r) H) → t v σ H Q
theorem tgd_name (j : Nat) : TGd K (gName j) (fun x => some [(j, x)]) := fun x l σ F H v Q e eF hd h => by
  have e' := Option.some.inj e
  subst e'
  exact h [(j, v)] ⟨rfl, hd, trivial⟩
def tgs : List (PyData → Option (List (Nat × PyData))) → List PyData → Option (List (Nat × PyData))
  | [], [] => some []
  | A :: As, x :: xs => match A x, tgs As xs with
    | some l, some r => some (l ++ r)
    | _, _ => none
  | _, _ => none
def TGds (K : Frag) (t : TGs) (As : List (PyData → Option (List (Nat × PyData)))) : Prop :=
  ∀ (xs : List PyData) (l : List (Nat × PyData)) (σ : SS) (F H : Hp) (vs : List V) (Q : SS → Hp → Prop), tgs As xs = some l → Ex F H → DqAll K F vs xs → (∀ r, SetsP K F r l → Q (putsV σ r) H) → t vs σ H Q
theorem tgds_nil : TGds K gNil [] := fun xs l σ F H vs Q e eF hd h => by
  cases xs with
  | nil =>
    cases hd
    have e' := Option.some.inj e
    subst e'
    exact ⟨rfl, h [] trivial⟩
  | cons x r => cases e
theorem tgds_cons {t : TG} {u : TGs} {A : PyData → Option (List (Nat × PyData))} {As : List (PyData → Option (List (Nat × PyData)))} (h1 : TGd K t A) (h2 : TGds K u As) : TGds K (gCons t u) (A :: As) := fun xs l σ F H vs Q e eF hd h => by
  cases xs with
  | nil => cases e
  | cons x r =>
    cases hd with
    | @cons v vs d ds hd1 hd2 =>
      have e0 : (match A x, tgs As r with | some l, some r => some (l ++ r) | _, _ => none) = some l := e
      cases q1 : A x with
      | none => rw [q1] at e0; cases e0
      | some l1 =>
        cases q2 : tgs As r with
        | none => rw [q1, q2] at e0; cases e0
        | some l2 =>
          rw [q1, q2] at e0
          have e' := Option.some.inj e0
          subst e'
          refine ⟨v, vs, rfl, h1 x l1 σ F H v _ q1 eF hd1 fun r1 s1 => h2 r l2 _ F H vs Q q2 eF hd2 fun r2 s2 => ?_⟩
          rw [← putsV_app]
          exact h (r1 ++ r2) (setsP_app s1 s2)
def tgTup (As : List (PyData → Option (List (Nat × PyData)))) : PyData → Option (List (Nat × PyData))
  | .tuple xs => tgs As xs
  | _ => none
theorem tgs_len : ∀ {As : List (PyData → Option (List (Nat × PyData)))} {xs : List PyData} {l : List (Nat × PyData)}, tgs As xs = some l → xs.length = As.length
  | [], [], _, _ => rfl
  | A :: As, x :: xs, l, e => by
    have e0 : (match A x, tgs As xs with | some l, some r => some (l ++ r) | _, _ => none) = some l := e
    cases q2 : tgs As xs with
    | none => rw [q2] at e0; cases q1 : A x <;> rw [q1] at e0 <;> cases e0
    | some l2 => exact congrArg Nat.succ (tgs_len q2)
  | [], _ :: _, _, e => by cases e
  | _ :: _, [], _, e => by cases e
theorem tgd_tup {u : TGs} {n : Nat} {As : List (PyData → Option (List (Nat × PyData)))} (h : TGds K u As) (hn : As.length = n) : TGd K (gTup K n u) (tgTup As) := fun x l σ F H v Q e eF hd hQ => by
  cases x with
  | tuple xs =>
    obtain ⟨a, vs, rfl, h1, h2⟩ := dp_tup hd
    exact ⟨a, vs, rfl, ex_t eF h1, by rw [dpa_len h2, tgs_len e, hn], h xs l σ F H vs Q e eF h2 hQ⟩
  | _ => cases e
def wipeE (env : List Sl) : List Nat → List Sl
  | [] => env
  | v :: vs => (wipeE env vs).set v .un
def wipeOk (env : List Sl) (vs : List Nat) : Bool := vs.all fun i => match env[i]? with
  | some s => s.fp.isEmpty
  | none => true
theorem wipeE_len (env : List Sl) : ∀ vs : List Nat, (wipeE env vs).length = env.length
  | [] => rfl
  | v :: vs => by rw [wipeE, List.length_set, wipeE_len env vs]
theorem wipe_get (σ : SS) (i : Nat) : ∀ vs : List Nat, (wipe σ vs)[i]? = if i ∈ vs then (σ[i]?.map fun _ => none) else σ[i]?
  | [] => by rw [if_neg (by simp)]; rfl
  | v :: vs => by
    show ((wipe σ vs).set v none)[i]? = _
    rw [List.getElem?_set]
    by_cases h : v = i
    · subst h
      rw [if_pos rfl, if_pos (List.mem_cons_self ..), wipe_length]
      by_cases hl : v < σ.length
      · rw [if_pos hl, List.getElem?_eq_getElem hl]; rfl
      · rw [if_neg hl, List.getElem?_eq_none (by omega)]; rfl
    · rw [if_neg h, wipe_get σ i vs]
      by_cases hm : i ∈ vs
      · rw [if_pos hm, if_pos (List.mem_cons_of_mem _ hm)]
      · rw [if_neg hm, if_neg fun z => by
          rcases List.mem_cons.mp z with z | z
          · exact h z.symm
          · exact hm z]
theorem wipeE_get (env : List Sl) (i : Nat) : ∀ vs : List Nat, (wipeE env vs)[i]? = if i ∈ vs then (env[i]?.map fun _ => .un) else env[i]?
  | [] => by rw [if_neg (by simp)]; rfl
  | v :: vs => by
    show ((wipeE env vs).set v .un)[i]? = _
    rw [List.getElem?_set]
    by_cases h : v = i
    · subst h
      rw [if_pos rfl, if_pos (List.mem_cons_self ..), wipeE_len]
      by_cases hl : v < env.length
      · rw [if_pos hl, List.getElem?_eq_getElem hl]; rfl
      · rw [if_neg hl, List.getElem?_eq_none (by omega)]; rfl
    · rw [if_neg h, wipeE_get env i vs]
      by_cases hm : i ∈ vs
      · rw [if_pos hm, if_pos (List.mem_cons_of_mem _ hm)]
      · rw [if_neg hm, if_neg fun z => by
          rcases List.mem_cons.mp z with z | z
          · exact h z.symm
          · exact hm z]
theorem wipe_set {σ : SS} {i : Nat} {x : Option V} {vs : List Nat} (hi : i ∈ vs) : wipe (σ.set i x) vs = wipe σ vs := by
  apply List.ext_getElem?
  intro j
  rw [wipe_get, wipe_get]
  by_cases h : j ∈ vs
  · rw [if_pos h, if_pos h, List.getElem?_set]
    by_cases e : i = j
    · subst e
      rw [if_pos rfl]
      by_cases hl : i < σ.length
      · rw [if_pos hl, List.getElem?_eq_getElem hl]; rfl
      · rw [if_neg hl, List.getElem?_eq_none (by omega)]
    · rw [if_neg e]
  · rw [if_neg h, if_neg h, List.getElem?_set, if_neg (fun z : i = j => h (by rw [← z]; exact hi))]
theorem wipe_wipe (σ : SS) (vs : List Nat) : wipe (wipe σ vs) vs = wipe σ vs := by
  apply List.ext_getElem?
  intro j
  rw [wipe_get, wipe_get]
  by_cases h : j ∈ vs
  · rw [if_pos h, if_pos h, Option.map_map]; rfl
  · rw [if_neg h, if_neg h]
theorem wipe_putsV {vs : List Nat} : ∀ {r : List (Nat × V)} {σ : SS}, (∀ q ∈ r, q.1 ∈ vs) → wipe (putsV σ r) vs = wipe σ vs
  | [], _, _ => rfl
  | (i, v) :: r, σ, h => by
    rw [putsV, wipe_putsV fun q hq => h q (List.mem_cons_of_mem _ hq)]
    exact wipe_set (h _ (List.mem_cons_self ..))
theorem own_wipe {vs : List Nat} {a : Addr} (h : Own (wipeE env vs) a) : Own env a := by
  obtain ⟨i, s, h1, h2⟩ := h
  rw [wipeE_get] at h1
  by_cases hm : i ∈ vs
  · rw [if_pos hm] at h1
    obtain ⟨t, _, e⟩ := Option.map_eq_some_iff.mp h1
    subst e
    cases h2
  · rw [if_neg hm] at h1
    exact ⟨i, s, h1, h2⟩
theorem own_wipe' {vs : List Nat} (ok : wipeOk env vs = true) {a : Addr} (h : Own env a) : Own (wipeE env vs) a := by
  obtain ⟨i, s, h1, h2⟩ := h
  refine ⟨i, s, ?_, h2⟩
  rw [wipeE_get]
  by_cases hm : i ∈ vs
  · have q := List.all_eq_true.mp ok i hm
    rw [h1] at q
    have q' : s.fp.isEmpty = true := q
    cases hs : s.fp with
    | nil => rw [hs] at h2; cases h2
    | cons x r => rw [hs] at q'; cases q'
  · rw [if_neg hm]; exact h1
/-- into a block -/
theorem St.wiped (st : St K g F H σ env) (vs : List Nat) : St K g F H (wipe σ vs) (wipeE env vs) where
  len := by rw [wipe_length, wipeE_len]; exact st.len
  sl := fun i s e => by
    rw [wipeE_get] at e
    by_cases hm : i ∈ vs
    · rw [if_pos hm] at e
      obtain ⟨t, _, e⟩ := Option.map_eq_some_iff.mp e
      subst e
      trivial
    · rw [if_neg hm] at e
      rw [wipe_get, if_neg hm]
      exact st.sl i s e
  nd := fun i j s t a ei ej h1 h2 => by
    rw [wipeE_get] at ei ej
    by_cases hi : i ∈ vs
    · rw [if_pos hi] at ei
      obtain ⟨_, _, e⟩ := Option.map_eq_some_iff.mp ei
      subst e
      cases h1
    · by_cases hj : j ∈ vs
      · rw [if_pos hj] at ej
        obtain ⟨_, _, e⟩ := Option.map_eq_some_iff.mp ej
        subst e
        cases h2
      · rw [if_neg hi] at ei
        rw [if_neg hj] at ej
        exact st.nd i j s t a ei ej h1 h2
  fr := fun a h => st.fr a (own_wipe h)
  ex := st.ex
  tf := st.tf
  tk := st.tk
  gt := st.gt
  g1 := st.g1
  g2 := fun a h => st.g2 a (own_wipe h)
  g3 := st.g3
  g4 := st.g4
  g5 := st.g5
  g6 := st.g6
/-- out of a block -/
theorem St.unwiped {vs : List Nat} (st : St K g F H σ env) (ok : wipeOk env vs = true) (st' : St K g F' H' (wipe σ vs) (wipeE env vs)) (e : Ex F F') : St K g F' H' σ env where
  len := st.len
  sl := fun i s e1 => by
    by_cases hm : i ∈ vs
    · have q := List.all_eq_true.mp ok i hm
      rw [e1] at q
      have q' : s.fp.isEmpty = true := q
      refine slok_mono e (fun a ha => ?_) (st.sl i s e1)
      cases hs : s.fp with
      | nil => rw [hs] at ha; cases ha
      | cons x r => rw [hs] at q'; cases q'
    · have q := st'.sl i s (by rw [wipeE_get, if_neg hm]; exact e1)
      rw [wipe_get, if_neg hm] at q
      exact q
  nd := st.nd
  fr := fun a h => st'.fr a (own_wipe' ok h)
  ex := st'.ex
  tf := st'.tf
  tk := st'.tk
  gt := st'.gt
  g1 := st'.g1
  g2 := fun a h => st.g2 a h
  g3 := st'.g3
  g4 := st'.g4
  g5 := st'.g5
  g6 := st'.g6
abbrev BX (X : Cx) (scope : Scope) (s : Shared) (H : Hp) (C : Addr) (cl : List (Str × Addr)) (fp : List Addr) : Cx := X.blk s H scope (compEnvC scope cl C X.env) fp
def semEB (X : Cx) (scope : Scope) (e : Expr) : TE := fun σ H Q => ∀ s H0 C cl fp, semE (BX X scope s H0 C cl fp) e σ H Q
def semTB (X : Cx) (scope : Scope) : List Expr → TT
  | [] => tYes
  | c :: _ => fun σ H Q => ∀ s H0 C cl fp, semT (BX X scope s H0 C cl fp) c σ H Q
/-- the tests of a clause: none or one -/
def WTs (X : Cx) (g : G) (ifs : List Expr) (env : List Sl) (Φ : Bool → Prop) : Prop := match ifs with
  | [] => Φ true
  | c :: _ => WT X g c env Φ (fun _ => False)
theorem takesB {scope : Scope} {s : Shared} {H0 : Hp} {C : Addr} {cl : List (Str × Addr)} {fp : List Addr} : Takes (BX X scope s H0 C cl fp) (fun _ _ _ _ => False) := fun _ _ x => by
  obtain ⟨_, _, _, _, _, _, _, _, _, _, _, _, _, _, _, _, z⟩ := x
  exact z.elim
theorem hxF {W : WX} : HX X g env (fun _ => False) W σ := fun _ _ _ h => h.elim
/-- the state within a comprehension -/
def LJ (K : Frag) (g : G) (F1 : Hp) (σ : SS) (env : List Sl) (Pv : Nat → List PyData → Prop) (D : Addr) (i : Nat) (H : Hp) : Prop :=
  ∃ F acc avs, St K g F H σ env ∧ Ex F1 F ∧ H D = some (.lst avs) ∧ DqAll K F avs acc ∧ F D = none ∧ ¬ Own env D ∧ g.H0 D = none ∧ Pv i acc ∧ acc.length ≤ i
theorem lc_turn {scope : Scope} {ifs : List Expr} {elt : Expr} {t : TG} {A : PyData → Option (List (Nat × PyData))} {F1 : Hp} {vs : List Nat} {Pv : Nat → List PyData → Prop} {D : Addr} {i : Nat} {x : PyData} {v : V} {l : List (Nat × PyData)}
    (htd : TGd X.K t A) (hA : A x = some l) (hl : ∀ q ∈ l, q.1 ∈ vs ∧ q.1 < env.length) (hsz : i < sizeLine) (hv : Dq X.K F1 v x) (hJ : LJ X.K g F1 (wipe σ vs) (wipeE env vs) Pv D i H)
    (hb : ∀ acc, Pv i acc → ∀ (g' : G) s H0 C cl fp, WTs (BX X scope s H0 C cl fp) g' ifs (putsE (wipeE env vs) l) (fun b => (b = true → ∀ s H0 C cl fp, WE (BX X scope s H0 C cl fp) g' elt (putsE (wipeE env vs) l) (fun y z => z = true ∧ Pv (i + 1) (acc ++ [y])) (fun _ => False)) ∧ (b = false → Pv (i + 1) acc))) :
    t v (wipe σ vs) H fun σ2 H2 => wipe σ2 vs = wipe σ vs ∧ semTB X scope ifs σ2 H2 fun b H3 =>
      if b = true then semEB X scope elt σ2 H3 fun y H4 => ∃ acc, H4 D = some (.lst acc) ∧ acc.length < sizeLine ∧ LJ X.K g F1 (wipe σ vs) (wipeE env vs) Pv D (i + 1) (upd H4 D (.lst (acc ++ [y]))) else LJ X.K g F1 (wipe σ vs) (wipeE env vs) Pv D (i + 1) H3 := by
  obtain ⟨F, acc, avs, st, eF, hD, hd, fD, oD, gD, hp, hlen⟩ := hJ
  refine htd x l (wipe σ vs) F H v _ hA st.ex (dp_mono eF _ _ hv) fun r sr => ?_
  have hidx : ∀ q ∈ r, q.1 ∈ vs := setsP_idx sr fun q hq => (hl q hq).1
  refine ⟨by rw [wipe_putsV hidx]; exact wipe_wipe σ vs, ?_⟩
  -- the state within the turn, over a ground of its own
  have st1 : St X.K ⟨F, H, fps (wipeE env vs)⟩ F H (putsV (wipe σ vs) r) (putsE (wipeE env vs) l) := St.sets st.toSk.base sr fun q hq => by rw [wipeE_len]; exact (hl q hq).2
  have back : ∀ {F' H'}, St X.K ⟨F, H, fps (wipeE env vs)⟩ F' H' (putsV (wipe σ vs) r) (putsE (wipeE env vs) l) → Ex F F' → St X.K ⟨F, H, fps (wipeE env vs)⟩ F' H' (wipe σ vs) (wipeE env vs) := fun {F' H'} s' e' =>
    { len := by rw [wipe_length, wipeE_len]; have := s'.len; rw [putsE_len, wipeE_len] at this; rw [← this, putsV_len, wipe_length]
      sl := fun k s e => by
        by_cases hm : k ∈ vs
        · rw [wipeE_get, if_pos hm] at e
          obtain ⟨_, _, e⟩ := Option.map_eq_some_iff.mp e
          subst e
          trivial
        · have e2 : (putsE (wipeE env vs) l)[k]? = some s := by rw [putsE_get (i := k) fun q hq (z : q.1 = k) => hm (by rw [← z]; exact (hl q hq).1)]; exact e
          have q := s'.sl k s e2
          rw [putsV_get (i := k) fun q hq (z : q.1 = k) => hm (by rw [← z]; exact hidx q hq)] at q
          exact q
      nd := st.nd
      fr := fun a h => by
        obtain ⟨k, s, h1, h2⟩ := h
        by_cases hm : k ∈ vs
        · rw [wipeE_get, if_pos hm] at h1
          obtain ⟨_, _, e⟩ := Option.map_eq_some_iff.mp h1
          subst e
          cases h2
        · exact s'.fr a ⟨k, s, by rw [putsE_get (i := k) fun q hq (z : q.1 = k) => hm (by rw [← z]; exact (hl q hq).1)]; exact h1, h2⟩
      ex := s'.ex
      tf := s'.tf
      tk := s'.tk
      gt := s'.gt
      g1 := s'.g1
      g2 := fun a h => .inr (own_fps.mp h)
      g3 := s'.g3
      g4 := s'.g4
      g5 := s'.g5
      g6 := s'.g6 }
  have keepD : ∀ {F' H'}, St X.K ⟨F, H, fps (wipeE env vs)⟩ F' H' (putsV (wipe σ vs) r) (putsE (wipeE env vs) l) → H' D = some (.lst avs) ∧ F' D = none := fun {F' H'} s' => by
    refine ⟨s'.g1 D _ hD (fun z => oD (own_fps.mpr z)) (fun _ z => by cases z), ?_⟩
    cases q : F' D with
    | none => rfl
    | some u =>
      rcases s'.g4 D (by rw [q]; intro z; cases z) with z | z
      · exact absurd fD z
      · have z' : H D = none := z
        rw [hD] at z'; cases z'
  have tests : ∀ (Q : Bool → Hp → Prop), (∀ b F' H', ((b = true → ∀ s H0 C cl fp, WE (BX X scope s H0 C cl fp) ⟨F, H, fps (wipeE env vs)⟩ elt (putsE (wipeE env vs) l) (fun y z => z = true ∧ Pv (i + 1) (acc ++ [y])) (fun _ => False)) ∧ (b = false → Pv (i + 1) acc)) →
      St X.K ⟨F, H, fps (wipeE env vs)⟩ F' H' (putsV (wipe σ vs) r) (putsE (wipeE env vs) l) → Ex F F' → Q b H') → semTB X scope ifs (putsV (wipe σ vs) r) H Q := fun Q hQ => by
    cases ifs with
    | nil =>
      exact hQ true F H ⟨fun _ s H0 C cl fp => (hb acc hp _ (X.s_0) H0 C cl fp).1 rfl s H0 C cl fp, fun z => by cases z⟩ st1 (Ex.refl F)
    | cons c cs =>
      intro s H0 C cl fp
      refine hb acc hp _ s H0 C cl fp _ takesB _ F H st1 hxF Q fun b F' H' hbb s' e' => hQ b F' H' hbb s' e'
  refine tests _ fun b F' H' ⟨h1, h2⟩ s' e' => ?_
  cases b with
  | true =>
    rw [if_pos rfl]
    intro s H0 C cl fp
    refine h1 rfl s H0 C cl fp _ takesB _ F' H' s' hxF _ fun y z w F2 H2 ⟨hz, hp2⟩ s2 e2 rd => ?_
    subst hz
    obtain ⟨hD2, fD2⟩ := keepD s2
    refine ⟨avs, hD2, by rw [dpa_len hd]; omega, F2, acc ++ [y], avs ++ [w], ?_, eF.trans (e'.trans e2), upd_same, ?_, fD2, oD, gD, hp2, by rw [List.length_append, List.length_singleton]; omega⟩
    · have s3 := st.rebase (back s2 (e'.trans e2)) fun a h => h
      exact s3.untracked fD2 oD gD
    · exact dpa_app (dpa_mono (e'.trans e2) _ _ hd) (dpa_one rd)
  | false =>
    rw [if_neg Bool.false_ne_true]
    obtain ⟨hD2, fD2⟩ := keepD s'
    exact ⟨F', acc, avs, st.rebase (back s' e') fun a h => h, eF.trans e', hD2, dpa_mono e' _ _ hd, fD2, oD, gD, h2 rfl, by omega⟩
/-- the state is one of the model's too -/
def tI (X : Cx) (t : TE) : TE := fun σ H Q => t σ H fun v H' => (∃ pins s, Inv X pins σ H' s) → Q v H'
theorem peI (e : Expr) : PE X e (tI X (semE X e)) := ⟨fun pins s σ H Q I h => thn (h.run pins s I) fun u s' ⟨v, H', I', r, q⟩ => ⟨v, H', I', r, q ⟨pins, s', I'⟩⟩⟩
theorem ptsB {scope : Scope} {ifs : List Expr} (h1 : ifs.length ≤ 1) (s : Shared) (H0 : Hp) (C : Addr) (cl : List (Str × Addr)) (fp : List Addr) : PTs (BX X scope s H0 C cl fp) ifs (semTB X scope ifs) := by
  match ifs, h1 with
  | [], _ => exact pts_nil
  | [c], _ => exact pts_one ⟨fun pins s2 σ H Q I h => (h s H0 C cl fp).run pins s2 I⟩
theorem peB {scope : Scope} {e : Expr} (s : Shared) (H0 : Hp) (C : Addr) (cl : List (Str × Addr)) (fp : List Addr) : PE (BX X scope s H0 C cl fp) e (semEB X scope e) := ⟨fun pins s2 σ H Q I h => (h s H0 C cl fp).run pins s2 I⟩
/-- one turn's wish -/
def LT (X : Cx) (env : List Sl) (scope : Scope) (ifs : List Expr) (elt : Expr) (vs : List Nat) (A : PyData → Option (List (Nat × PyData))) (Pv : Nat → List PyData → Prop) (i : Nat) (x : PyData) : Prop :=
  ∃ l, A x = some l ∧ (l.all fun q => vs.elem q.1 && Nat.blt q.1 env.length) = true ∧ ∀ acc, Pv i acc → ∀ (g' : G) s H0 C cl fp, WTs (BX X scope s H0 C cl fp) g' ifs (putsE (wipeE env vs) l) (fun b =>
    (b = true → ∀ s H0 C cl fp, WE (BX X scope s H0 C cl fp) g' elt (putsE (wipeE env vs) l) (fun y z => z = true ∧ Pv (i + 1) (acc ++ [y])) (fun _ => False)) ∧ (b = false → Pv (i + 1) acc))
theorem lt_idx {vs : List Nat} {l : List (Nat × PyData)} {n : Nat} (h : (l.all fun q => vs.elem q.1 && Nat.blt q.1 n) = true) : ∀ q ∈ l, q.1 ∈ vs ∧ q.1 < n := fun q hq => by
  have h1 := Bool.and_eq_true_iff.mp (List.all_eq_true.mp h q hq)
  exact ⟨List.elem_iff.mp h1.1, Nat.le_of_ble_eq_true h1.2⟩
def WNt (X : Cx) (g : G) (t : TE) (env : List Sl) (Φ : List PyData → Prop) (Ψ : Exc → Prop) : Prop :=
  ∀ (W : WX), Takes X W → ∀ (σ : SS) (F H : Hp), St X.K g F H σ env → HX X g env Ψ W σ →
    ∀ Q : VK, (∀ ds v F' H', Φ ds → St X.K g F' H' σ env → Ex F F' → NewL X.K g F' H' env v ds → Q v H') → t σ H Q
section
variable {tg iter elt : Expr} {ifs : List Expr} {scope : Scope} {own : List (Str × Nat)} {t : TG} {A : PyData → Option (List (Nat × PyData))} {Φ : List PyData → Prop}
/-- [elt for tg in a list] -/
theorem nt_lcL (htd : TGd X.K t A) (hwo : wipeOk env (own.map (·.2)) = true)
    (hi : WE X g iter env (fun d z => z = true ∧ ∃ (xs : List PyData) (Pv : Nat → List PyData → Prop), d = .list xs ∧ Pv 0 [] ∧ (∀ i x, xs[i]? = some x → LT X env scope ifs elt (own.map (·.2)) A Pv i x) ∧ ∀ acc, Pv xs.length acc → Φ acc) Ψ) : WNt X g (tLc (iList X.K (tI X (semE X iter))) t (semTB X scope ifs) (semEB X scope elt) (own.map (·.2))) env Φ Ψ := fun W tk σ F H st hx Q hQ => by
  refine hi W tk σ F H st hx _ fun d z v F1 H1 ⟨hz, xs, Pv, hd, p0, pt, pe⟩ s1 e1 rd inv => ?_
  subst hz hd
  obtain ⟨a, vs, rfl, hsq, hda⟩ := dp_lst rd
  obtain ⟨pins, sh, I⟩ := inv
  have hlen : vs.length ≤ sizeLine := by
    obtain ⟨_, _, _, hz⟩ := I.list (ex_l s1.ex hsq)
    exact hz
  refine ⟨a, rfl, ⟨vs, ex_l s1.ex hsq⟩, fun D hD => ?_⟩
  have st2 : St X.K g F1 (upd H1 D (.lst [])) (wipe σ (own.map (·.2))) (wipeE env (own.map (·.2))) := (s1.alloc hD).wiped _
  refine lc_list (xs := vs) (LJ X.K g F1 (wipe σ (own.map (·.2))) (wipeE env (own.map (·.2))) Pv D) ⟨F1, [], [], st2, Ex.refl F1, upd_same, .nil, s1.ex.none hD, fun z => s1.there (own_wipe z) hD, s1.h0 hD, p0, Nat.le_refl 0⟩ (fun i H2 _ ⟨F2, _, _, s3, e3, _⟩ => ex_l s3.ex (ex_l e3 hsq)) (fun i x H2 hx2 hJ => ?_) (fun H2 ⟨F2, acc, avs, s3, e3, hD3, hd3, fD, oD, gD, hp, _⟩ => ?_)
  · obtain ⟨d, hd1, hd2⟩ := dpa_of hda hx2
    obtain ⟨l, hA, hl, hb⟩ := pt i d hd1
    exact lc_turn htd hA (lt_idx hl) (by have := (List.getElem?_eq_some_iff.mp hx2).1; omega) hd2 hJ hb
  · rw [dpa_len hda] at hp
    exact hQ acc (.ref D) F2 H2 (pe acc hp) (s1.unwiped hwo s3 e3) (e1.trans e3) ⟨D, avs, rfl, hD3, hd3, fD, fun z => s1.there z hD, gD⟩
theorem wn_lcL (hc : X.calm = true) (hN : X.N.Nodup) (ok : BlkOk X.N X.env.scope scope own) (hpg : ∀ s H C cl fp, PG (BX X scope s H C cl fp) tg t) (htd : TGd X.K t A) (h1 : ifs.length ≤ 1) (hwo : wipeOk env (own.map (·.2)) = true)
    (hi : WE X g iter env (fun d z => z = true ∧ ∃ (xs : List PyData) (Pv : Nat → List PyData → Prop), d = .list xs ∧ Pv 0 [] ∧ (∀ i x, xs[i]? = some x → LT X env scope ifs elt (own.map (·.2)) A Pv i x) ∧ ∀ acc, Pv xs.length acc → Φ acc) Ψ)
    (hs : ∀ x, foldedSetIterable iter X.env x = pure x := by intro _; rfl) : WN X g (.ListComp elt [⟨tg, iter, ifs, 0⟩] scope pos) env Φ Ψ := fun W tk σ F H st hx Q hQ =>
  semE_of (pe_lc hc hN (pi_list (peI iter)) ok hpg (ptsB h1) peB hs) (nt_lcL htd hwo hi W tk σ F H st hx Q hQ)
/-- .. over range(n) -/
theorem nt_lcR1 (htd : TGd X.K t A) (hwo : wipeOk env (own.map (·.2)) = true)
    (hi : WE X g a env (fun d z => ∃ (n : Int) (Pv : Nat → List PyData → Prop), d = .int n ∧ (-1000000 ≤ n ∧ n ≤ 16777216) ∧ Pv 0 [] ∧ (∀ i : Nat, (i : Int) < n → LT X env scope ifs elt (own.map (·.2)) A Pv i (.int i)) ∧ ∀ acc, Pv n.toNat acc → Φ acc) Ψ) : WNt X g (tLc (iRng1 (tCons (semE X a) tNil)) t (semTB X scope ifs) (semEB X scope elt) (own.map (·.2))) env Φ Ψ := fun W tk σ F H st hx Q hQ => by
  have hsl := sizeLine_eq
  refine hi W tk σ F H st hx _ fun d z v F1 H1 ⟨n, Pv, hd, hn, p0, pt, pe⟩ s1 e1 rd => ?_
  subst hd
  rw [rd_int rd]
  refine ⟨n, rfl, by omega, by omega, fun D hD => ?_⟩
  have st2 : St X.K g F1 (upd H1 D (.lst [])) (wipe σ (own.map (·.2))) (wipeE env (own.map (·.2))) := (s1.alloc hD).wiped _
  refine lc_range (lo := 0) (n := n.toNat) (LJ X.K g F1 (wipe σ (own.map (·.2))) (wipeE env (own.map (·.2))) Pv D) ⟨F1, [], [], st2, Ex.refl F1, upd_same, .nil, s1.ex.none hD, fun z => s1.there (own_wipe z) hD, s1.h0 hD, p0, Nat.le_refl 0⟩ (fun i H2 hi2 hJ => ?_) (fun H2 ⟨F2, acc, avs, s3, e3, hD3, hd3, fD, oD, gD, hp, _⟩ => ?_)
  · obtain ⟨l, hA, hl, hb⟩ := pt i (by omega)
    rw [Int.zero_add]
    exact lc_turn htd hA (lt_idx hl) (by omega) (.int _) hJ hb
  · exact hQ acc (.ref D) F2 H2 (pe acc hp) (s1.unwiped hwo s3 e3) (e1.trans e3) ⟨D, avs, rfl, hD3, hd3, fD, fun z => s1.there z hD, gD⟩
theorem wn_lcR1 {p1 p2 : Pos} (hm : X.mg "range" = none) (hc : X.calm = true) (hN : X.N.Nodup) (ok : BlkOk X.N X.env.scope scope own) (hpg : ∀ s H C cl fp, PG (BX X scope s H C cl fp) tg t) (htd : TGd X.K t A) (h1 : ifs.length ≤ 1) (hwo : wipeOk env (own.map (·.2)) = true)
    (hi : WE X g a env (fun d z => ∃ (n : Int) (Pv : Nat → List PyData → Prop), d = .int n ∧ (-1000000 ≤ n ∧ n ≤ 16777216) ∧ Pv 0 [] ∧ (∀ i : Nat, (i : Int) < n → LT X env scope ifs elt (own.map (·.2)) A Pv i (.int i)) ∧ ∀ acc, Pv n.toNat acc → Φ acc) Ψ)
    (hs : ∀ x, foldedSetIterable (.Call (.Name "range" p1) [a] [] p2) X.env x = pure x := by intro _; rfl) (hg : Gl X "range" := by rfl) (he : starEach [a] X.env = [(false, eval a X.env)] := by rfl) :
    WN X g (.ListComp elt [⟨tg, .Call (.Name "range" p1) [a] [] p2, ifs, 0⟩] scope pos) env Φ Ψ := fun W tk σ F H st hx Q hQ =>
  semE_of (pe_lc hc hN (pi_range1 hg hm (pa_cons (peS a) pa_nil (by rw [he]; rfl)) he) ok hpg (ptsB h1) peB hs) (nt_lcR1 htd hwo hi W tk σ F H st hx Q hQ)
end
end
end TL
namespace TL
open PySem PySem.Spec PyProof.Rows L2
/-- a new dict, no slot's; its keys tuples, atoms -/
def NewT (K : Frag) (g : G) (F H : Hp) (env : List Sl) (v : V) (kvs : List (List Key × PyData)) : Prop :=
  ∃ p xs, v = .ref p ∧ H p = some (.dT xs) ∧ KVp K F xs kvs ∧ F p = none ∧ ¬ Own env p ∧ g.H0 p = none
def NewK (K : Frag) (g : G) (F H : Hp) (env : List Sl) (v : V) (kvs : List (Key × PyData)) : Prop :=
  ∃ p xs, v = .ref p ∧ H p = some (.dK xs) ∧ KVp K F xs kvs ∧ F p = none ∧ ¬ Own env p ∧ g.H0 p = none
/-- what is wanted behind a statement -/
structure Po where
  nx : List Sl → Prop
  rt : PR → List Sl → Prop
  bk : List Sl → Prop := fun _ => False
  ct : List Sl → Prop := fun _ => False
  ex : Exc → List Sl → Prop
/-- the same, another end -/
abbrev Po.thn (P : Po) (q : List Sl → Prop) : Po := ⟨q, P.rt, P.bk, P.ct, P.ex⟩
abbrev Po.turn (P : Po) (q : List Sl → Prop) : Po := ⟨q, P.rt, P.nx, q, P.ex⟩
def RtOk (K : Frag) (g : G) (v : V) (σ' : SS) (F' H' : Hp) (env' : List Sl) : PR → Prop
  | .rd d => Dq K F' v d
  | .nl ds => NewL K g F' H' env' v ds
  | .ar i => σ'[i]? = some (some v) ∧ ∃ s, env'[i]? = some s ∧ s.fp ≠ []
  | .nt kvs => NewT K g F' H' env' v kvs
  | .nk kvs => NewK K g F' H' env' v kvs
  | .sl C => ∃ s, C s ∧ SlOk K F' H' (some v) s ∧ ∀ p ∈ s.fp, F' p = none ∧ ¬ Own env' p ∧ g.H0 p = none
structure DOk (X : Cx) (g : G) (F : Hp) (P : Po) (D : Ends) : Prop where
  nx : ∀ env' σ' F' H', P.nx env' → St X.K g F' H' σ' env' → Ex F F' → D.nx σ' H'
  rt : ∀ r v env' σ' F' H', P.rt r env' → St X.K g F' H' σ' env' → RtOk X.K g v σ' F' H' env' r → D.rt v H'
  bk : ∀ env' σ' F' H', P.bk env' → St X.K g F' H' σ' env' → Ex F F' → D.bk σ' H'
  ct : ∀ env' σ' F' H', P.ct env' → St X.K g F' H' σ' env' → Ex F F' → D.ct σ' H'
def XOk (X : Cx) (g : G) (P : Po) (W : WX) : Prop := ∀ c env' σ' F' H', P.ex c env' → St X.K g F' H' σ' env' → ExcW X.K W σ' H' c
structure SemP (X : Cx) (st : Stmt) (D : Ends) (σ : SS) (H : Hp) : Prop where
  run : ∀ (pins : List (Addr × Obj)) (s : Shared), Inv X pins σ H s → wpAny (model X.prog X.w) X.A (exec st X.env) (SP X pins D) X.xe s
def semP (X : Cx) (st : Stmt) : TS := fun D σ H => SemP X st D σ H
def WS (X : Cx) (g : G) (sts : List Stmt) (env : List Sl) (P : Po) : Prop :=
  ∀ (W : WX), Takes X W → XOk X g P W → ∀ (σ : SS) (F H : Hp), St X.K g F H σ env → ∀ D : Ends, DOk X g F P D → semS X sts D σ H
def W1 (X : Cx) (g : G) (st : Stmt) (env : List Sl) (P : Po) : Prop :=
  ∀ (W : WX), Takes X W → XOk X g P W → ∀ (σ : SS) (F H : Hp), St X.K g F H σ env → ∀ D : Ends, DOk X g F P D → semP X st D σ H
section
variable {X : Cx} {g : G} {env env' : List Sl} {P : Po} {pos p : Pos} {a b c e : Expr} {es : List Expr} {st : Stmt} {rest body orelse : List Stmt} {K : Frag} {F F' H H' : Hp} {σ σ' : SS} {D : Ends} {W : WX}
theorem psP (st : Stmt) : PS X st (semP X st) := ⟨fun pins s _ _ _ I h => h.run pins s I⟩
theorem semP_of {t : TS} (h : PS X st t) (q : t D σ H) : semP X st D σ H := ⟨fun pins s I => h.run pins s σ H D I q⟩
theorem DOk.mono (h : DOk X g F P D) (e : Ex F F') : DOk X g F' P D :=
  ⟨fun a b c d h1 h2 h3 => h.nx a b c d h1 h2 (e.trans h3), h.rt, fun a b c d h1 h2 h3 => h.bk a b c d h1 h2 (e.trans h3), fun a b c d h1 h2 h3 => h.ct a b c d h1 h2 (e.trans h3)⟩
theorem XOk.hx (h : XOk X g P W) (env : List Sl) (σ : SS) : HX X g env (fun c => P.ex c env) W σ := fun c F' H' hc s => h c env σ F' H' hc s
theorem ws_nil (h : P.nx env) : WS X g [] env P := fun W tk hx σ F H st D hD => semS_of pss_nil (hD.nx env σ F H h st (Ex.refl F))
theorem ws_cons (h : W1 X g st env (P.thn fun env' => WS X g rest env' P)) : WS X g (st :: rest) env P := fun W tk hx σ F H s0 D hD => by
  refine semS_of (pss_cons (psP st) (pssS rest)) ?_
  refine h W tk hx σ F H s0 _ ⟨fun env' σ' F' H' hw s' e' => ?_, hD.rt, hD.bk, hD.ct⟩
  exact hw W tk hx σ' F' H' s' D (hD.mono e')
theorem WS.mono {P' : Po} (h : WS X g rest env P) (h1 : ∀ e, P.nx e → P'.nx e) (h2 : ∀ r e, P.rt r e → P'.rt r e) (h3 : ∀ e, P.bk e → P'.bk e) (h4 : ∀ e, P.ct e → P'.ct e) (h5 : ∀ c e, P.ex c e → P'.ex c e) : WS X g rest env P' :=
  fun W tk hx σ F H st D hD => h W tk (fun c e σ' F' H' hc => hx c e σ' F' H' (h5 c e hc)) σ F H st D
    ⟨fun e σ' F' H' q => hD.nx e σ' F' H' (h1 e q), fun r v e σ' F' H' q => hD.rt r v e σ' F' H' (h2 r e q), fun e σ' F' H' q => hD.bk e σ' F' H' (h3 e q), fun e σ' F' H' q => hD.ct e σ' F' H' (h4 e q)⟩
theorem ltB {n m : Nat} (h : Nat.blt n m = true) : n < m := Nat.le_of_ble_eq_true h
/-- x = e -/
theorem w1_set (i : Nat) {x : Str} {pos' : Pos} (hN : X.N.Nodup) (h : WE X g e env (fun d z => z = true ∧ P.nx (env.set i (.d d))) (fun c => P.ex c env)) (hi : X.N[i]? = some x := by rfl) (hx : Loc X.env.scope x := by first | exact Or.inl rfl | exact Or.inr rfl) (hl : Nat.blt i env.length = true := by rfl)
    (hs : swapsWith e (some (.Name x pos')) pos.line X.env = pure false := by rfl) (hf : X.fn x = true ∨ X.env.scope.names.lookup x = some .local := by first | exact .inl rfl | exact .inr rfl) : W1 X g (.Assign [.Name x pos'] e pos) env P := fun W tk hx2 σ F H s0 D hD => by
  refine semP_of (ps_set hN hi hx (peS e) hs hf) ?_
  refine h W tk σ F H s0 (hx2.hx env σ) _ fun d z v F' H' ⟨hz, hp⟩ s' e' r' => ?_
  subst hz
  exact hD.nx _ _ F' H' hp (s'.setD (ltB hl) r') e'
/-- x = e, a new list that x alone holds -/
theorem w1_setN (i : Nat) {x : Str} {pos' : Pos} (hN : X.N.Nodup) (h : WN X g e env (fun ds => ∀ a, a ∉ g.M → P.nx (env.set i (.ol a ds))) (fun c => P.ex c env)) (hi : X.N[i]? = some x := by rfl) (hx : Loc X.env.scope x := by first | exact Or.inl rfl | exact Or.inr rfl) (hl : Nat.blt i env.length = true := by rfl)
    (hs : swapsWith e (some (.Name x pos')) pos.line X.env = pure false := by rfl) (hf : X.fn x = true ∨ X.env.scope.names.lookup x = some .local := by first | exact .inl rfl | exact .inr rfl) : W1 X g (.Assign [.Name x pos'] e pos) env P := fun W tk hx2 σ F H s0 D hD => by
  refine semP_of (ps_set hN hi hx (peS e) hs hf) ?_
  refine h W tk σ F H s0 (hx2.hx env σ) _ fun ds v F' H' hp s' e' ⟨q, vs, hv, h1, h2, h3, h4, h5⟩ => ?_
  subst hv
  exact hD.nx _ _ F' H' (hp q fun m => s'.g6 q m h5) (s'.setL (ltB hl) h1 h2 h3 h4 h5) e'
/-- x = [..] on one line -/
theorem w1_setLc (i : Nat) {y : Str} {py : Pos} {elt tg iter : Expr} {ifs : List Expr} {scope : Scope} {own : List (Str × Nat)} {wi : TI} {t : TG} (hc : X.calm = true) (hN : X.N.Nodup) (hi : PI X tg iter wi) (ok : BlkOk X.N X.env.scope scope own) (hpg : ∀ s H C cl fp, PG (BX X scope s H C cl fp) tg t) (h1 : ifs.length ≤ 1)
    (h : WNt X g (tLc wi t (semTB X scope ifs) (semEB X scope elt) (own.map (·.2))) env (fun ds => P.nx (env.set i (.d (.list ds)))) (fun c => P.ex c env))
    (hy : X.N[i]? = some y := by rfl) (hyl : X.env.scope.names.lookup y = some .local := by rfl) (hl : Nat.blt i env.length = true := by rfl)
    (hsw : swapsWith (.ListComp elt [⟨tg, iter, ifs, 0⟩] scope pos) (some (.Name y py)) p.line X.env = pure true := by exact sw_true rfl rfl rfl (by decide +kernel)) (hs : ∀ x, foldedSetIterable iter X.env x = pure x := by intro _; rfl) :
    W1 X g (.Assign [.Name y py] (.ListComp elt [⟨tg, iter, ifs, 0⟩] scope pos) p) env P := fun W tk hx2 σ F H s0 D hD => by
  refine semP_of (ps_setLc hc hN hy hyl hsw hi ok hpg (ptsB h1) peB hs) ?_
  refine h W tk σ F H s0 (hx2.hx env σ) _ fun ds v F' H' hp s' e' ⟨q, vs, hv, h1, h2, h3, h4, h5⟩ => ?_
  subst hv
  have e2 := Ex.new (o := .lst vs) h3
  exact hD.nx _ _ _ H' hp ((s'.freeze h1 h3 h4 h5).setD (ltB hl) (.lst (SqL.of upd_same) (dpa_mono e2 _ _ h2))) (e'.trans e2)
/-- a, b, .. = e -/
theorem w1_unpack {tg : Expr} {t : TG} {A : PyData → Option (List (Nat × PyData))} (hpg : PG X tg t) (htd : TGd X.K t A)
    (h : WE X g e env (fun d z => z = true ∧ ∃ l, A d = some l ∧ (l.all fun q => Nat.blt q.1 env.length) = true ∧ P.nx (putsE env l)) (fun c => P.ex c env))
    (hs : swapsWithSole [tg] e pos.line X.env = pure false := by rfl) (hw : swappedStores [tg] e X.env = pure none := by rfl) (h1 : (assignEach [tg] X.env).map (·.2) = [assign tg X.env] := by rfl) : W1 X g (.Assign [tg] e pos) env P := fun W tk hx2 σ F H s0 D hD => by
  refine semP_of (ps_asg (peS e) hpg hs hw h1) ?_
  refine h W tk σ F H s0 (hx2.hx env σ) _ fun d z v F' H' ⟨hz, l, hA, hl, hp⟩ s' e' r' => ?_
  subst hz
  refine htd d l σ F' H' v _ hA s'.ex r' fun r sr => ?_
  exact hD.nx _ _ F' H' hp (s'.sets sr fun q hq => ltB (List.all_eq_true.mp hl q hq)) e'
/-- e -/
theorem w1_expr (h : WE X g e env (fun _ _ => P.nx env) (fun c => P.ex c env)) (hs : swapsWith e none pos.line X.env = pure false := by rfl) : W1 X g (.Expr e pos) env P := fun W tk hx2 σ F H s0 D hD =>
  semP_of (ps_expr (peS e) hs) (h W tk σ F H s0 (hx2.hx env σ) _ fun d z v F' H' hp s' e' r' => hD.nx _ _ F' H' hp s' e')
/-- return e -/
theorem w1_ret (h : WE X g e env (fun d z => z = true ∧ P.rt (.rd d) env) (fun c => P.ex c env)) : W1 X g (.Return (some e) pos) env P := fun W tk hx2 σ F H s0 D hD =>
  semP_of (ps_ret (peS e)) (h W tk σ F H s0 (hx2.hx env σ) _ fun d z v F' H' ⟨hz, hp⟩ s' e' r' => by
    subst hz
    exact hD.rt _ v env σ F' H' hp s' r')
theorem w1_retN (h : WN X g e env (fun ds => P.rt (.nl ds) env) (fun c => P.ex c env)) : W1 X g (.Return (some e) pos) env P := fun W tk hx2 σ F H s0 D hD =>
  semP_of (ps_ret (peS e)) (h W tk σ F H s0 (hx2.hx env σ) _ fun ds v F' H' hp s' e' r' => hD.rt _ v env σ F' H' hp s' r')
/-- return x, x a list made here -/
theorem w1_retO (i : Nat) {x : Str} {q : Pos} {al : Addr} {ds : List PyData} (he : env[i]? = some (.ol al ds)) (ha : al ∉ g.M) (h : P.rt (.nl ds) (env.set i .un)) (hN : X.N[i]? = some x := by rfl)
    (hv : Vis X.env.scope x := by first | exact Or.inl rfl | exact Or.inr (Or.inl rfl) | exact Or.inr (Or.inr rfl)) (hd : (x == ("__debug__" : Str)) = false := by decide)
    (hcd : (x == ("__classdict__" : Str)) = false := by decide) : W1 X g (.Return (some (.Name x q)) pos) env P := fun W tk hx2 σ F H s0 D hD => by
  refine semP_of (ps_ret (pe_var hN hv hd hcd)) ?_
  obtain ⟨h1, vs, h2, h3⟩ := s0.sl i _ he
  have own : Own env al := ⟨i, _, he, by simp [Sl.fp]⟩
  refine ⟨_, getD_some h1, hD.rt _ _ _ σ F H h (s0.weak he (fun _ h => by cases h) fun _ => trivial) ⟨al, vs, rfl, h2, h3, s0.fr al own, fun z => ?_, ?_⟩⟩
  · obtain ⟨j, t, ej, ht⟩ := z
    rcases set_get ej with ⟨_, rfl⟩ | ⟨ne, ej⟩
    · cases ht
    · exact ne (s0.nd i j _ t al he ej (by simp [Sl.fp]) ht)
  · rcases s0.g2 al own with z | z
    · exact z
    · exact absurd z ha
/-- return x, x an object that was handed in -/
theorem w1_retA (i : Nat) {x : Str} {q : Pos} {s : Sl} (he : env[i]? = some s) (hne : s.fp ≠ []) (h : P.rt (.ar i) env) (hN : X.N[i]? = some x := by rfl)
    (hv : Vis X.env.scope x := by first | exact Or.inl rfl | exact Or.inr (Or.inl rfl) | exact Or.inr (Or.inr rfl)) (hd : (x == ("__debug__" : Str)) = false := by decide)
    (hcd : (x == ("__classdict__" : Str)) = false := by decide) : W1 X g (.Return (some (.Name x q)) pos) env P := fun W tk hx2 σ F H s0 D hD => by
  refine semP_of (ps_ret (pe_var hN hv hd hcd)) ?_
  have h0 := s0.sl i s he
  obtain ⟨v, hv⟩ : ∃ v, σ[i]?.getD none = some v := by
    cases s with
    | un => exact absurd rfl hne
    | d x => exact absurd rfl hne
    | v x => exact ⟨_, h0⟩
    | ol a ds => exact ⟨_, h0.1⟩
    | bg a => exact ⟨_, h0.1⟩
    | dt a ds => exact ⟨_, h0.1⟩
    | dk a ds => exact ⟨_, h0.1⟩
    | fv l => exact absurd rfl hne
    | fl l => exact absurd rfl hne
    | oo a ds => exact ⟨_, h0.1⟩
    | ow t => exact ⟨h0.choose, h0.choose_spec.1⟩
  exact ⟨v, getD_some hv, hD.rt _ v env σ F H h s0 ⟨getD_some hv, s, he, hne⟩⟩
theorem w1_if (h : WT X g c env (fun k => (k = true → WS X g body env P) ∧ (k = false → WS X g orelse env P)) (fun c => P.ex c env)) : W1 X g (.If c body orelse pos) env P := fun W tk hx2 σ F H s0 D hD => by
  refine semP_of (ps_if (ptS c) (pssS body) (pssS orelse)) ?_
  refine h W tk σ F H s0 (hx2.hx env σ) _ fun k F' H' ⟨h1, h2⟩ s' e' => ?_
  cases k with
  | true => rw [if_pos rfl]; exact h1 rfl W tk hx2 σ F' H' s' D (hD.mono e')
  | false => rw [if_neg Bool.false_ne_true]; exact h2 rfl W tk hx2 σ F' H' s' D (hD.mono e')
/-- what a raise of an own class leans on -/
structure ExK (K : Frag) (mg : Str → Option Value) (x : Str) : Prop where
  gC : mg x = some (.ref (He.ga K x))
  ex : PySem.W.excIn K (He.ga K x) He.veBase "ValueError.__new__" = true
  kp : PySem.W.keepIn K (.ref (He.ga K x)) = true
  sb : PySem.W.subIn K (.ref (He.ga K x)) (.type "BaseException") = some true
  ty : PySem.W.typeIn K (.ref (He.ga K x)) = some (.type "type")
/-- raise X('..') -/
theorem w1_raise {x m : Str} {j : Nat} {p p2 q : Pos} (hc : X.calm = true) (k : ExK X.K X.mg x) (h : P.ex (.own x) env) (hg : Gl X x := by rfl) (hdb : (x == ("__debug__" : Str)) = false := by decide) : W1 X g (.Raise (some (.Call (.Name x p) [.Constant (.str m) j p2] [] q)) none pos) env P := fun W tk hx2 σ F H s0 D hD =>
  semP_of (ps_raise hc tk (pmk_own PySem.F.excBase_ValueError k.ex k.gC k.kp (raises_own k.sb k.ty) hg hdb)) (hx2 (.own x) env σ F H h s0)
/-- x.append(e) -/
theorem w1_append (i : Nat) {x : Str} {q apos cpos : Pos} {al : Addr} {ds : List PyData} (he : env[i]? = some (.ol al ds)) (h : WE X g e env (fun d z => z = true ∧ ds.length < sizeLine ∧ P.nx (env.set i (.ol al (ds ++ [d])))) (fun c => P.ex c env)) (hN : X.N[i]? = some x := by rfl)
    (hv : Vis X.env.scope x := by first | exact Or.inl rfl | exact Or.inr (Or.inl rfl) | exact Or.inr (Or.inr rfl)) (hd : (x == ("__debug__" : Str)) = false := by decide)
    (hcd : (x == ("__classdict__" : Str)) = false := by decide)
    (hbase : attributeBase (.Name x q) "append" X.env (eval (.Name x q) X.env) = eval (.Name x q) X.env := by rfl)
    (hfew : ((backTo cpos (starEach [e] X.env)).all (fun x => !x.1) && (backToKw cpos (keywordEach [] X.env)).all (fun x => x.1.isSome)
      && decide ([e].length + ([] : List Keyword).length + (if ([] : List Keyword).isEmpty then 0 else 1) < 30)) = true := by rfl)
    (hline : (apos.endLine == cpos.line) = true := by rfl) (hs1 : starEach [e] X.env = (false, eval e X.env) :: starEach [] X.env := by rfl) (hplain : (backTo cpos (starEach ([] : List Expr) X.env)).any (·.1) = false := by rfl)
    (hs : swapsWith (.Call (.Attribute (.Name x q) "append" apos) [e] [] cpos) none pos.line X.env = pure false := by rfl) :
    W1 X g (.Expr (.Call (.Attribute (.Name x q) "append" apos) [e] [] cpos) pos) env P := fun W tk hx2 σ F H s0 D hD => by
  refine semP_of (ps_expr (pe_bm PySem.F.plainAttrs_list PySem.F.slot_list_append PySem.F.type_list_append mt_append (pe_var hN hv hd hcd) (pa_cons (peS e) pa_nil hs1) hbase hfew hline hs1 hplain) hs) ?_
  obtain ⟨h1, vs, h2, h3⟩ := s0.sl i _ he
  refine ⟨_, getD_some h1, .inl ⟨rfl, vs, SqL.of h2⟩, ?_⟩
  refine h W tk σ F H s0 (hx2.hx env σ) _ fun d z v F' H' ⟨hz, hl, hp⟩ s' e' r' => ?_
  subst hz
  obtain ⟨h1', vs', h2', h3'⟩ := s'.sl i _ he
  refine ⟨al, vs', v, rfl, rfl, h2', by rw [dpa_len h3']; exact hl, ?_⟩
  exact hD.nx _ _ F' _ hp (s'.write he rfl rfl ⟨h1', vs' ++ [v], upd_same, dpa_app h3' (dpa_one r')⟩) e'
/-- x[k] = e -/
theorem w1_setix (i : Nat) {x : Str} {ix : Expr} {q tpos : Pos} {al : Addr} {ds : List PyData} (he : env[i]? = some (.ol al ds)) (h : WE X g e env (fun d z => z = true ∧ WE X g ix env (fun k _ => ∃ n j, k = .int n ∧ ixN ds.length n = some j ∧ P.nx (env.set i (.ol al (ds.set j d)))) (fun c => P.ex c env)) (fun c => P.ex c env)) (hN : X.N[i]? = some x := by rfl)
    (hv : Vis X.env.scope x := by first | exact Or.inl rfl | exact Or.inr (Or.inl rfl) | exact Or.inr (Or.inr rfl)) (hd : (x == ("__debug__" : Str)) = false := by decide)
    (hcd : (x == ("__classdict__" : Str)) = false := by decide)
    (ha : ∀ v, assign (.Subscript (.Name x q) ix tpos) X.env v = (do
      let ov ← holding [v] (eval (.Name x q) X.env)
      let iv ← holding [v, ov] (eval ix X.env)
      standAt tpos
      holding [v, ov, iv] (setItem ov iv v)
      release [v, ov, iv] []) := by intro _; rfl)
    (hs : swapsWithSole [.Subscript (.Name x q) ix tpos] e pos.line X.env = pure false := by rfl) (hw : swappedStores [.Subscript (.Name x q) ix tpos] e X.env = pure none := by rfl)
    (h1 : (assignEach [.Subscript (.Name x q) ix tpos] X.env).map (·.2) = [assign (.Subscript (.Name x q) ix tpos) X.env] := by rfl) : W1 X g (.Assign [.Subscript (.Name x q) ix tpos] e pos) env P := fun W tk hx2 σ F H s0 D hD => by
  refine semP_of (ps_asg (peS e) (pg_sub (pe_var hN hv hd hcd) (peS ix) set_list ha) hs hw h1) ?_
  refine h W tk σ F H s0 (hx2.hx env σ) _ fun d z v F1 H1 ⟨hz, hp⟩ s1 e1 r1 => ?_
  subst hz
  obtain ⟨h1, vs, h2, h3⟩ := s1.sl i _ he
  refine ⟨_, getD_some h1, ?_⟩
  refine hp W tk σ F1 H1 s1 (hx2.hx env σ) _ fun k z2 w F2 H2 ⟨n, j, hk, hj, hp2⟩ s2 e2 r2 => ?_
  subst hk
  obtain ⟨h1', vs', h2', h3'⟩ := s2.sl i _ he
  refine ⟨al, vs', n, j, rfl, rd_int r2, h2', by rw [dpa_len h3']; exact hj, ?_⟩
  exact hD.nx _ _ F2 _ hp2 (s2.write he rfl rfl ⟨h1', vs'.set j v, upd_same, dpa_set j h3' (dp_mono e2 _ _ r1)⟩) (e1.trans e2)
/-- x[k] read, for an augmented store -/
def rGetL : V → V → Hp → VK → Prop := fun o i H Q => ∃ p xs k v, o = .ref p ∧ i = .int k ∧ H p = some (.lst xs) ∧ atI xs k = some v ∧ Q v H
theorem get_list : PGet X rGetL := fun pins s σ H o i ov iv Q I ro ri ⟨p, xs, k, v, ho, hi, hH, ha, q⟩ => by
  subst ho hi
  cases ro
  obtain ⟨t, rfl⟩ := ri
  obtain ⟨its, r, pl, hz⟩ := I.list (SqL.of hH)
  obtain ⟨j, h1, h2, h3, h4, h5⟩ := atI_get ha
  obtain ⟨w, ew, rw'⟩ := r.get h2
  have hl := r.length
  have hn := line63
  have fin : EP X pins σ Q w s := ⟨v, H, I, rw', q⟩
  by_cases h0 : 0 ≤ k
  · have hj : k.toNat = j := by
      rw [seqIndex_of h0 h5] at h1
      exact Option.some.inj h1
    exact wpAny_getItem_list pl.isList h0 (by omega) (by rw [hj]; simpa using ew) fin
  · have hj : (k + (its.toArray.size : Int)).toNat = j := by
      rw [seqIndex_neg (by omega) h4] at h1
      rw [List.size_toArray, ← hl]
      exact Option.some.inj h1
    exact wpAny_getItem_list_neg pl.isList (by omega) (by rw [List.size_toArray]; omega) (by omega) (by rw [hj]; simpa using ew) fin
/-- x[k] += e, ints -/
theorem w1_augix (i : Nat) {x : Str} {ix : Expr} {q tpos : Pos} {al : Addr} {ds : List PyData} (he : env[i]? = some (.ol al ds))
    (h : WE X g ix env (fun k _ => ∃ n j u, k = .int n ∧ ixN ds.length n = some j ∧ ds[j]? = some (.int u) ∧ WE X g e env (fun d _ => ∃ m, d = .int m ∧ P.nx (env.set i (.ol al (ds.set j (.int (u + m)))))) (fun c => P.ex c env)) (fun c => P.ex c env)) (hN : X.N[i]? = some x := by rfl)
    (hv : Vis X.env.scope x := by first | exact Or.inl rfl | exact Or.inr (Or.inl rfl) | exact Or.inr (Or.inr rfl)) (hd : (x == ("__debug__" : Str)) = false := by decide)
    (hcd : (x == ("__classdict__" : Str)) = false := by decide)
    (ha : ∀ ov iv new, augStore ix ov iv new = (do holding [new, ov, iv] (setItem ov iv new); release [new, ov, iv] []; pure .next) := by intros; rfl) : W1 X g (.AugAssign (.Subscript (.Name x q) ix tpos) .Add e pos) env P := fun W tk hx2 σ F H s0 D hD => by
  refine semP_of (ps_augS (pe_var hN hv hd hcd) (peS ix) get_list (peS e) ip_add set_list ha) ?_
  obtain ⟨h1, vs, h2, h3⟩ := s0.sl i _ he
  refine ⟨_, getD_some h1, ?_⟩
  refine h W tk σ F H s0 (hx2.hx env σ) _ fun k z1 w F1 H1 ⟨n, j, u, hk, hj, hu, hp⟩ s1 e1 r1 => ?_
  subst hk
  obtain ⟨h1', vs', h2', h3'⟩ := s1.sl i _ he
  obtain ⟨v0, hv0, hdv⟩ := dpa_get h3' hu
  have hat : atI vs' n = some v0 := by
    unfold atI
    rw [dpa_len h3', hj]
    exact hv0
  refine ⟨al, vs', n, v0, rfl, rd_int r1, h2', hat, ?_⟩
  refine hp W tk σ F1 H1 s1 (hx2.hx env σ) _ fun d z2 w2 F2 H2 ⟨m, hm, hp2⟩ s2 e2 r2 => ?_
  subst hm
  obtain ⟨h1'', vs'', h2'', h3''⟩ := s2.sl i _ he
  refine ⟨u, m, dp_int hdv, rd_int r2, al, vs'', n, j, rfl, rd_int r1, h2'', by rw [dpa_len h3'']; exact hj, ?_⟩
  exact hD.nx _ _ F2 _ hp2 (s2.write he rfl rfl ⟨h1'', vs''.set j (.int (u + m)), upd_same, dpa_set j h3'' (.int _)⟩) (e1.trans e2)
/-- the state between turns -/
def FJ (K : Frag) (g : G) (F1 : Hp) (Pv : Nat → List Sl → Prop) (i : Nat) (σ : SS) (H : Hp) : Prop := ∃ F env', St K g F H σ env' ∧ Ex F1 F ∧ Pv i env'
section
variable {tg iter : Expr} {t : TG} {A : PyData → Option (List (Nat × PyData))}
/-- one turn -/
def FT (X : Cx) (g : G) (body : List Stmt) (A : PyData → Option (List (Nat × PyData))) (P : Po) (Pv : Nat → List Sl → Prop) (i : Nat) (x : PyData) : Prop :=
  ∀ env', Pv i env' → ∃ l, A x = some l ∧ (l.all fun q => Nat.blt q.1 env'.length) = true ∧ WS X g body (putsE env' l) (P.turn (Pv (i + 1)))
theorem for_turn {F1 : Hp} {Pv : Nat → List Sl → Prop} {i : Nat} {x : PyData} {v : V} (tk : Takes X W) (hx2 : XOk X g P W) (hD : DOk X g F1 P D) (htd : TGd X.K t A) (hv : Dq X.K F1 v x) (hJ : FJ X.K g F1 Pv i σ H) (h : FT X g body A P Pv i x) :
    t v σ H fun σ2 H2 => semS X body { D with nx := FJ X.K g F1 Pv (i + 1), ct := FJ X.K g F1 Pv (i + 1), bk := D.nx } σ2 H2 := by
  obtain ⟨F, env', s1, e1, hp⟩ := hJ
  obtain ⟨l, hA, hl, hw⟩ := h env' hp
  refine htd x l σ F H v _ hA s1.ex (dp_mono e1 _ _ hv) fun r sr => ?_
  have s2 := s1.sets sr fun q hq => ltB (List.all_eq_true.mp hl q hq)
  exact hw W tk hx2 _ F H s2 _ ⟨fun e2 σ' F' H' q s' ex => ⟨F', e2, s', e1.trans ex, q⟩, hD.rt, fun e2 σ' F' H' q s' ex => hD.nx e2 σ' F' H' q s' (e1.trans ex), fun e2 σ' F' H' q s' ex => ⟨F', e2, s', e1.trans ex, q⟩⟩
theorem w1_forL (hp : PassesOwn (model X.prog X.w) X.A X.env X.xe) (hc : X.calm = true) (hpg : PG X tg t) (htd : TGd X.K t A)
    (hi : WE X g iter env (fun d z => z = true ∧ ∃ (xs : List PyData) (Pv : Nat → List Sl → Prop), d = .list xs ∧ Pv 0 env ∧ (∀ i x, xs[i]? = some x → FT X g body A P Pv i x) ∧ ∀ e, Pv xs.length e → P.nx e) (fun c => P.ex c env))
    (hs : ∀ x, foldedSetIterable iter X.env x = pure x := by intro _; rfl) : W1 X g (.For tg iter body [] pos) env P := fun W tk hx2 σ F H s0 D hD => by
  refine semP_of (ps_for hp hc (pi_list (peS iter)) hpg (pssS body) hs) ?_
  refine hi W tk σ F H s0 (hx2.hx env σ) _ fun d z v F1 H1 ⟨hz, xs, Pv, hd, p0, pt, pe⟩ s1 e1 rd => ?_
  subst hz hd
  obtain ⟨a, vs, rfl, hsq, hda⟩ := dp_lst rd
  refine ⟨a, rfl, ⟨vs, ex_l s1.ex hsq⟩, ?_⟩
  refine for_list (xs := vs) (FJ X.K g F1 Pv) ⟨F1, env, s1, Ex.refl F1, p0⟩ (fun i σ' H' _ ⟨F2, e2, s2, ex2, _⟩ => ex_l s2.ex (ex_l ex2 hsq)) (fun i x σ' H' hx hJ => ?_) (fun σ' H' ⟨F2, e2, s2, ex2, hp2⟩ => ?_)
  · obtain ⟨d, hd1, hd2⟩ := dpa_of hda hx
    exact for_turn tk hx2 (hD.mono e1) htd hd2 hJ (pt i d hd1)
  · rw [dpa_len hda] at hp2
    exact hD.nx e2 σ' F2 H' (pe e2 hp2) s2 (e1.trans ex2)
end
/-- while: a word with a number that falls -/
theorem w1_while (hp : PassesOwn (model X.prog X.w) X.A X.env X.xe) (Pv : Nat → List Sl → Prop) (m0 : Nat) (h0 : Pv m0 env)
    (h : ∀ m env', Pv m env' → WT X g c env' (fun k => (k = true → WS X g body env' (P.turn fun e => ∃ m', m' < m ∧ Pv m' e)) ∧ (k = false → P.nx env')) (fun c => P.ex c env')) : W1 X g (.While c body [] pos) env P := fun W tk hx2 σ F H s0 D hD => by
  refine semP_of (ps_while hp (ptS c) (pssS body)) ?_
  refine ⟨fun m σ' H' => FJ X.K g F (fun _ e => Pv m e) 0 σ' H', ⟨m0, F, env, s0, Ex.refl F, h0⟩, fun m σ' H' ⟨F1, e1, s1, ex1, hp1⟩ => ?_⟩
  refine h m e1 hp1 W tk σ' F1 H' s1 (hx2.hx e1 σ') _ fun k F2 H2 ⟨ht, hf⟩ s2 ex2 => ?_
  cases k with
  | true =>
    rw [if_pos rfl]
    refine ⟨fun σ3 H3 => ∃ m', m' < m ∧ FJ X.K g F (fun _ e => Pv m' e) 0 σ3 H3, fun σ3 H3 ⟨m', hm, q⟩ => ⟨m', hm, q⟩, ?_⟩
    exact ht rfl W tk hx2 σ' F2 H2 s2 _ ⟨fun e3 σ3 F3 H3 ⟨m', hm, q⟩ s3 ex3 => ⟨m', hm, F3, e3, s3, (ex1.trans ex2).trans ex3, q⟩, hD.rt, fun e3 σ3 F3 H3 q s3 ex3 => hD.nx e3 σ3 F3 H3 q s3 ((ex1.trans ex2).trans ex3), fun e3 σ3 F3 H3 ⟨m', hm, q⟩ s3 ex3 => ⟨m', hm, F3, e3, s3, (ex1.trans ex2).trans ex3, q⟩⟩
  | false =>
    rw [if_neg Bool.false_ne_true]
    exact hD.nx e1 σ' F2 H2 (hf rfl) s2 (ex1.trans ex2)
end
end TL
namespace TL
open PySem PySem.Spec PyProof.Rows L2
def BackS : Sl → Sl → Sl → Prop
  | .un, _, s' => s' = .un
  | .d x, _, s' => s' = .d x
  | .v x, _, s' => s' = .v x
  | .ol a _, .ol b ds', s' => b = a ∧ s' = .ol a ds'
  | .bg a, .bg b, s' => b = a ∧ s' = .bg a
  | .bg a, .ol b ds, s' => b = a ∧ BagD ds ∧ s' = .bg a
  | .dt a _, .dt b kvs, s' => b = a ∧ s' = .dt a kvs
  | .dk a _, .dk b kvs, s' => b = a ∧ s' = .dk a kvs
  | .ow t, .ow u, s' => u.id = t.id ∧ s' = .ow u
  | _, _, _ => False
def Back : List Sl → List Sl → List Sl → Prop
  | [], _, r => r = []
  | s :: r, e :: env, s' :: r' => BackS s e s' ∧ Back r env r'
  | _, _, _ => False
theorem backS_sub {s e s' : Sl} (h : BackS s e s') : ∀ a ∈ s'.fp, a ∈ e.fp := by
  cases s with
  | un => rw [show s' = _ from h]; intro a z; cases z
  | d x => rw [show s' = _ from h]; intro a z; cases z
  | v x => rw [show s' = _ from h]; intro a z; cases z
  | ol a ds => cases e <;> first | exact h.elim | (obtain ⟨rfl, rfl⟩ := h; exact fun _ z => z)
  | bg a => cases e <;> first | exact h.elim | (obtain ⟨rfl, rfl⟩ := h; exact fun _ z => z) | (obtain ⟨rfl, _, rfl⟩ := h; exact fun _ z => z)
  | dt a ds => cases e <;> first | exact h.elim | (obtain ⟨rfl, rfl⟩ := h; exact fun _ z => z)
  | dk a ds => cases e <;> first | exact h.elim | (obtain ⟨rfl, rfl⟩ := h; exact fun _ z => z)
  | oo a ds => cases e <;> exact h.elim
  | fv l => cases e <;> exact h.elim
  | fl l => cases e <;> exact h.elim
  | ow t => cases e <;> first | exact h.elim | (obtain ⟨_, rfl⟩ := h; exact fun _ z => z)
theorem backS_val {K : Frag} {F F' H H' : Hp} {o o' : Option V} {s e s' : Sl} (h : BackS s e s') (hne : e.fp ≠ []) (hs : s'.fp ≠ []) (h0 : SlOk K F H o s) (h1 : SlOk K F' H' o' e) : o = o' := by
  cases s with
  | un => rw [show s' = _ from h] at hs; exact absurd rfl hs
  | d x => rw [show s' = _ from h] at hs; exact absurd rfl hs
  | v x => rw [show s' = _ from h] at hs; exact absurd rfl hs
  | ol a ds => cases e <;> first | exact h.elim | exact h0.1.trans (by rw [h1.1, h.1])
  | bg a => cases e <;> first | exact h.elim | exact h0.1.trans (by rw [h1.1, h.1])
  | dt a ds => cases e <;> first | exact h.elim | exact h0.1.trans (by rw [h1.1, h.1])
  | dk a ds => cases e <;> first | exact h.elim | exact h0.1.trans (by rw [h1.1, h.1])
  | oo a ds => cases e <;> exact h.elim
  | fv l => cases e <;> exact h.elim
  | fl l => cases e <;> exact h.elim
  | ow t => cases e <;> first
      | exact h.elim
      | (obtain ⟨v, q1, q2⟩ := h0; obtain ⟨w, q3, q4⟩ := h1; rw [q1, q3, t.isr q2, OwT.isr _ q4, h.1])
theorem back_len : ∀ {args env args' : List Sl}, Back args env args' → args'.length = args.length
  | [], _, _, h => by rw [show _ = [] from h]
  | s :: r, e :: env, s' :: r', h => congrArg Nat.succ (back_len h.2)
  | _ :: _, [], _, h => h.elim
  | _ :: _, _ :: _, [], h => h.elim
theorem back_get : ∀ {args env args' : List Sl} {i : Nat} {s' : Sl}, Back args env args' → args'[i]? = some s' → ∃ s e, args[i]? = some s ∧ env[i]? = some e ∧ BackS s e s'
  | [], _, _, i, s', h, e => by rw [show _ = [] from h] at e; simp at e
  | s :: r, e :: env, t :: r', 0, s', h, q => by
    have e' := Option.some.inj q
    subst e'
    exact ⟨s, e, rfl, rfl, h.1⟩
  | s :: r, e :: env, t :: r', i + 1, s', h, q => back_get (i := i) h.2 q
  | _ :: _, [], _, _, _, h, _ => h.elim
  | _ :: _, _ :: _, [], _, _, h, _ => h.elim
theorem slok_back {K : Frag} {F F' H H' : Hp} {o o' : Option V} {s e s' : Sl} (h : BackS s e s') (e0 : Ex F F') (h0 : SlOk K F H o s) (h1 : SlOk K F' H' o' e) : SlOk K F' H' o s' := by
  cases s with
  | un => rw [show s' = .un from h]; trivial
  | d x => rw [show s' = .d x from h]; obtain ⟨v, q1, q2⟩ := h0; exact ⟨v, q1, dp_mono e0 _ _ q2⟩
  | v x => rw [show s' = .v x from h]; exact h0
  | ol a ds =>
    cases e <;> first
      | exact h.elim
      | (obtain ⟨rfl, rfl⟩ := h; exact ⟨h0.1, h1.2⟩)
  | bg a =>
    cases e <;> first
      | exact h.elim
      | (obtain ⟨rfl, rfl⟩ := h; exact ⟨h0.1, h1.2⟩)
      | (obtain ⟨rfl, hb, rfl⟩ := h; obtain ⟨_, vs, q1, q2⟩ := h1; exact ⟨h0.1, _, vs, hb, q1, q2⟩)
  | dt a ds =>
    cases e <;> first
      | exact h.elim
      | (obtain ⟨rfl, rfl⟩ := h; exact ⟨h0.1, h1.2⟩)
  | dk a ds =>
    cases e <;> first
      | exact h.elim
      | (obtain ⟨rfl, rfl⟩ := h; exact ⟨h0.1, h1.2⟩)
  | oo a ds => cases e <;> exact h.elim
  | fv l => cases e <;> exact h.elim
  | fl l => cases e <;> exact h.elim
  | ow t =>
    cases e <;> first
      | exact h.elim
      | (obtain ⟨hi, rfl⟩ := h
         obtain ⟨v, q1, q2⟩ := h0
         obtain ⟨w, q3, q4⟩ := h1
         have e1 := t.isr q2
         have e2 := OwT.isr _ q4
         rw [hi, ← e1] at e2
         subst e2
         exact ⟨w, q1, q4⟩)
def prIx (args args' : List Sl) : PR → Prop
  | .ar i => i < args.length ∧ ∀ s', args'[i]? = some s' → s'.fp ≠ []
  | _ => True
/-- what a body is to reach -/
def endOf (args : List Sl) (Φ : PR → List Sl → Prop) (Ψ : Exc → List Sl → Prop) : Po where
  nx := fun env' => ∃ args', Φ (.rd .none) args' ∧ Back args env' args'
  rt := fun r env' => ∃ args', Φ r args' ∧ prIx args args' r ∧ Back args env' args'
  ex := fun c env' => ∃ args', Ψ c args' ∧ Back args env' args'
theorem pad_get {args : List Sl} {n i : Nat} {s : Sl} (h : (args ++ List.replicate n .un)[i]? = some s) : args[i]? = some s ∨ s = .un := by
  by_cases hi : i < args.length
  · rw [List.getElem?_append_left hi] at h; exact .inl h
  · rw [List.getElem?_append_right (by omega)] at h
    rw [List.getElem?_replicate] at h
    split at h
    · exact .inr (Option.some.inj h).symm
    · cases h
theorem Sk.pad {K : Frag} {F H : Hp} {vs : List V} {args : List Sl} {N : List Str} (sk : Sk K F H (vs.map some) args) (hl : vs.length ≤ N.length) : Sk K F H (L2.start N vs) (args ++ List.replicate (N.length - vs.length) .un) := by
  have hlen : args.length = vs.length := by have := sk.len; rw [List.length_map] at this; exact this.symm
  have ow : ∀ a, Own (args ++ List.replicate (N.length - vs.length) .un) a → Own args a := fun a ⟨i, s, h1, h2⟩ => by
    rcases pad_get h1 with q | q
    · exact ⟨i, s, q, h2⟩
    · subst q; cases h2
  refine ⟨by unfold L2.start; simp only [List.length_append, List.length_map, List.length_replicate]; omega, fun i s h => ?_, fun i j s t a h1 h2 h3 h4 => ?_, fun a h => sk.fr a (ow a h), sk.ex, sk.tf, sk.tk⟩
  · rcases pad_get h with q | q
    · have hi : i < (vs.map some).length := by rw [List.length_map, ← hlen]; exact (List.getElem?_eq_some_iff.mp q).1
      have e : (L2.start N vs)[i]? = (vs.map some)[i]? := by unfold L2.start; rw [List.getElem?_append_left hi]
      rw [e]; exact sk.sl i s q
    · subst q; trivial
  · rcases pad_get h1 with q | q
    · rcases pad_get h2 with q2 | q2
      · exact sk.nd i j s t a q q2 h3 h4
      · subst q2; cases h4
    · subst q; cases h3
section
variable {P : Program} {w : World} {K : Frag} {mg : Str → Option Value} {base : Heap} {f : Addr} {fd : FuncData} {N ps : List Str} {k : Nat} {S : CT}
theorem fn_okL {m x : Str} {st : Stmt} {dvs : List V} {kws : List (Str × V)} (F : FunD K m x (defArgs st) (defBody st) (defScope st) dvs kws f fd) (sc : FnScope N ps (defScope st)) (hln : Nat.ble ps.length N.length = true)
    (body : ∀ (cdv : Value) (A : Around) (outer : List Env) (s : Shared) (H : Hp) (E : XK) (g : G) (args : List Sl) (Φ : PR → List Sl → Prop) (Ψ : Exc → List Sl → Prop),
      Room k (cxOf (L2.CX P w) P w K mg base N x (defScope st) f cdv A outer s H E).A →
      PassesOwn (model P w) (cxOf (L2.CX P w) P w K mg base N x (defScope st) f cdv A outer s H E).A (cxOf (L2.CX P w) P w K mg base N x (defScope st) f cdv A outer s H E).env (cxOf (L2.CX P w) P w K mg base N x (defScope st) f cdv A outer s H E).xe →
      g.M = fps args → args.length = ps.length → S args Φ Ψ →
      fd.code = cdv → WS (cxOf (L2.CX P w) P w K mg base N x (defScope st) f cdv A outer s H E) g (defBody st) (args ++ List.replicate (N.length - ps.length) .un) (endOf args Φ Ψ)) : FnOk P w K mg base (L2.CX P w) (k + 1) f fd ps (spOf K ps.length S) := by
  obtain ⟨oc, od, dV, kV, doc, pm, an, cdv, ct, osl, rfl, lk, hcd, _, _⟩ := F.ex
  refine fn_of lk hcd sc (fun vs H Q E h => h.1) fun A outer s H vs Q E hr h => ?_
  obtain ⟨hvl, F0, args, Φ, Ψ, hS, sk, hret, hexc⟩ := h
  have hal : args.length = ps.length := by have := sk.len; rw [List.length_map] at this; omega
  have hln' : ps.length ≤ N.length := Nat.le_of_ble_eq_true hln
  refine ⟨semS _ _, pssS _, ?_⟩
  have skp := sk.pad (N := N) (by omega)
  rw [hvl] at skp
  have fpe : ∀ a, a ∈ fps args ↔ Own args a := fun a => own_fps.symm
  have st0 : St K ⟨F0, H, fps args⟩ F0 H (L2.start N vs) (args ++ List.replicate (N.length - ps.length) .un) :=
    { skp with
      gt := ⟨fun a ps h => (by show H a ≠ none; rw [show H a = _ from h]; intro z; cases z), fun p hp z => (by obtain ⟨ps, h1, _⟩ := sk.tk.tb p hp; have z : H p.1 = none := z; rw [h1] at z; cases z)⟩
      g1 := fun _ _ h _ _ => h, g3 := Ex.refl F0, g4 := fun a h => .inl h
      g2 := fun a ⟨i, s, h1, h2⟩ => by
        rcases pad_get h1 with q | q
        · exact .inr ((fpe a).mpr ⟨i, s, q, h2⟩)
        · subst q; cases h2
      g5 := fun a h => sk.there ((fpe a).mp h)
      g6 := fun a h => sk.there ((fpe a).mp h) }
  -- what holds at every end
  have fin : ∀ {F' H' : Hp} {σ' : SS} {env' args' : List Sl}, St K ⟨F0, H, fps args⟩ F' H' σ' env' → Back args env' args' →
      Sk K F' H' (vs.map some) args' ∧ Step F0 H args F' H' ∧ (∀ a, Own args' a → Own args a ∨ H a = none) ∧ ∀ a, Own args' a → Own env' a := fun {F' H' σ' env' args'} s' hbk => by
    have sub : ∀ a, Own args' a → (Own args a ∨ H a = none) ∧ Own env' a := fun a ⟨i, t, h1, h2⟩ => by
      obtain ⟨s, e, q1, q2, q3⟩ := back_get hbk h1
      have oe : Own env' a := ⟨i, e, q2, backS_sub q3 a h2⟩
      refine ⟨?_, oe⟩
      rcases s'.g2 a oe with z | z
      · exact .inr z
      · exact .inl ((fpe a).mp z)
    refine ⟨⟨by rw [List.length_map, back_len hbk]; omega, fun i t h => ?_, fun i j s t a h1 h2 h3 h4 => ?_, fun a h => s'.fr a (sub a h).2, s'.ex, s'.tf, s'.tk⟩, ⟨s'.g3, fun a o h hn n => s'.g1 a o h (fun m => hn ((fpe a).mp m)) n, fun a h => s'.g4 a h, fun a h => ?_⟩, fun a h => (sub a h).1, fun a h => (sub a h).2⟩
    · obtain ⟨s, e, q1, q2, q3⟩ := back_get hbk h
      exact slok_back q3 s'.g3 (sk.sl i s q1) (s'.sl i e q2)
    · obtain ⟨s1, e1, _, q2, q3⟩ := back_get hbk h1
      obtain ⟨s2, e2, _, q5, q6⟩ := back_get hbk h2
      exact s'.nd i j e1 e2 a q2 q5 (backS_sub q3 a h3) (backS_sub q6 a h4)
    · intro z
      by_cases m : a ∈ fps args
      · exact s'.g5 a m z
      · cases q : H a with
        | none => exact h q
        | some u =>
          by_cases ht : ∃ ps, u = .tbl ps
          · obtain ⟨ps, rfl⟩ := ht; exact s'.gt.g7 a ps q z
          · rw [s'.g1 a u q m fun ps y => ht ⟨ps, y⟩] at z; cases z
  have hb0 := body cdv A outer s H E ⟨F0, H, fps args⟩ args Φ Ψ hr (passes_of rfl) rfl hal hS rfl
  refine hb0 (fun cls d _ H => E cls d H) (takes_of rfl rfl rfl rfl) (fun c env' σ' F' H' ⟨args', hp, hbk⟩ s' => ?_) (L2.start N vs) F0 H st0 _ ⟨fun env' σ' F' H' ⟨args', hp, hbk⟩ s' e' => ?_, fun r v env' σ' F' H' ⟨args', hp, hix, hbk⟩ s' ro => ?_, fun _ _ _ _ h => h.elim, fun _ _ _ _ h => h.elim⟩
  · obtain ⟨h1, h2, h3, h4⟩ := fin s' hbk
    have := hexc c args' F' H' hp h1 h2 h3
    cases c
    exact this
  · obtain ⟨h1, h2, h3, h4⟩ := fin s' hbk
    exact hret (.rd .none) .non args' F' H' hp h1 h2 h3 .non
  · obtain ⟨h1, h2, h3, h4⟩ := fin s' hbk
    refine hret r v args' F' H' hp h1 h2 h3 ?_
    cases r with
    | rd d => exact ro
    | nl ds =>
      obtain ⟨p, xs, q1, q2, q3, q4, q5, q6⟩ := ro
      exact ⟨p, xs, q1, q2, q3, q4, q6, fun z => q5 (h4 p z)⟩
    | nt ds =>
      obtain ⟨p, xs, q1, q2, q3, q4, q5, q6⟩ := ro
      exact ⟨p, xs, q1, q2, q3, q4, q6, fun z => q5 (h4 p z)⟩
    | nk ds =>
      obtain ⟨p, xs, q1, q2, q3, q4, q5, q6⟩ := ro
      exact ⟨p, xs, q1, q2, q3, q4, q6, fun z => q5 (h4 p z)⟩
    | sl C =>
      obtain ⟨t, c1, c2, c3⟩ := ro
      exact ⟨t, c1, c2, fun p hp => by obtain ⟨y1, y2, y3⟩ := c3 p hp; exact ⟨y1, y3, fun z => y2 (h4 p z)⟩⟩
    | ar i =>
      obtain ⟨q1, e, q2, q3⟩ := ro
      obtain ⟨hi, hown⟩ : i < args.length ∧ ∀ s', args'[i]? = some s' → s'.fp ≠ [] := hix
      have hi' : i < args'.length := by rw [back_len hbk]; exact hi
      obtain ⟨s0, e0, q4, q5, q6⟩ := back_get hbk (List.getElem?_eq_getElem hi')
      rw [q2] at q5
      have q5' := Option.some.inj q5
      subst q5'
      have k2 := s'.sl i e q2
      rw [q1] at k2
      show vs[i]? = some v
      have hv : i < vs.length := by omega
      have k1 := sk.sl i s0 q4
      have ev : ((vs.map some)[i]?.getD none : Option V) = some vs[i] := vmap_get (List.getElem?_eq_getElem hv)
      rw [ev] at k1
      have z := backS_val q6 q3 (hown _ (List.getElem?_eq_getElem hi')) k1 k2
      rw [List.getElem?_eq_getElem hv]
      exact z
theorem fn_ok {m x : Str} {st : Stmt} {dvs : List V} {kws : List (Str × V)} (F : FunD K m x (defArgs st) (defBody st) (defScope st) dvs kws f fd) (sc : FnScope N ps (defScope st)) (hln : Nat.ble ps.length N.length = true)
    (body : ∀ (cdv : Value) (A : Around) (outer : List Env) (s : Shared) (H : Hp) (E : XK) (g : G) (args : List Sl) (Φ : PR → List Sl → Prop) (Ψ : Exc → List Sl → Prop),
      Room k (cxOf (L2.CX P w) P w K mg base N x (defScope st) f cdv A outer s H E).A →
      PassesOwn (model P w) (cxOf (L2.CX P w) P w K mg base N x (defScope st) f cdv A outer s H E).A (cxOf (L2.CX P w) P w K mg base N x (defScope st) f cdv A outer s H E).env (cxOf (L2.CX P w) P w K mg base N x (defScope st) f cdv A outer s H E).xe →
      g.M = fps args → args.length = ps.length → S args Φ Ψ →
      WS (cxOf (L2.CX P w) P w K mg base N x (defScope st) f cdv A outer s H E) g (defBody st) (args ++ List.replicate (N.length - ps.length) .un) (endOf args Φ Ψ)) : FnOk P w K mg base (L2.CX P w) (k + 1) f fd ps (spOf K ps.length S) :=
  fn_okL F sc hln fun cdv A outer s H E g args Φ Ψ h1 h2 h3 h4 h5 _ => body cdv A outer s H E g args Φ Ψ h1 h2 h3 h4 h5
theorem fn_has {x : Str} {st : Stmt} {dvs : List V} {kws : List (Str × V)} (F : FunD K x x (defArgs st) (defBody st) (defScope st) dvs kws f fd) (hm : mg x = some (.ref f)) (sc : FnScope N ps (defScope st)) (hb : Binds K fd ps []) (hln : Nat.ble ps.length N.length = true)
    (body : ∀ (cdv : Value) (A : Around) (outer : List Env) (s : Shared) (H : Hp) (E : XK) (g : G) (args : List Sl) (Φ : PR → List Sl → Prop) (Ψ : Exc → List Sl → Prop),
      Room k (cxOf (L2.CX P w) P w K mg base N x (defScope st) f cdv A outer s H E).A →
      PassesOwn (model P w) (cxOf (L2.CX P w) P w K mg base N x (defScope st) f cdv A outer s H E).A (cxOf (L2.CX P w) P w K mg base N x (defScope st) f cdv A outer s H E).env (cxOf (L2.CX P w) P w K mg base N x (defScope st) f cdv A outer s H E).xe →
      g.M = fps args → args.length = ps.length → S args Φ Ψ →
      WS (cxOf (L2.CX P w) P w K mg base N x (defScope st) f cdv A outer s H E) g (defBody st) (args ++ List.replicate (N.length - ps.length) .un) (endOf args Φ Ψ)) : Has P w K mg base (k + 1) x ps S := ⟨f, fd, hm, F.kp, hb, fn_ok F sc hln body⟩
end
section
variable {X : Cx} {g : G} {env env' : List Sl} {P : Po} {pos p : Pos} {body : List Stmt} {F F' H H' : Hp} {σ σ' : SS} {D : Ends} {W : WX}
theorem St.at {K : Frag} (st : St K g F H σ env) : St K { g with F0 := F } F H σ env :=
  { st.toSk with gt := ⟨st.gt.g7, st.gt.g8⟩, g1 := st.g1, g2 := st.g2, g3 := Ex.refl F, g4 := fun a h => .inl h, g5 := st.g5, g6 := st.g6 }
end
def cLaw : CT := fun args Φ Ψ => ∃ ns : List Int, args = [.d (.list (ns.map .int))] ∧ ns.length ≤ 63 ∧ Φ (.rd (.bool true)) args
def noTb (H : Hp) : Hp := fun b => match H b with
  | some (.tbl _) => none
  | o => o
theorem noTb_of {H : Hp} {b : Addr} {u : HO} (h : H b = some u) (n : ntb u) : noTb H b = some u := by
  unfold noTb
  split
  · rename_i ps e; rw [h] at e; exact absurd (Option.some.inj e) (n ps)
  · exact h
theorem noTb_to {H : Hp} {b : Addr} {u : HO} (h : noTb H b = some u) : H b = some u ∧ ntb u := by
  unfold noTb at h
  split at h
  · cases h
  · rename_i e
    exact ⟨h, fun ps z => e ps (by rw [h, z])⟩
theorem noTb_sql {K : Frag} {H : Hp} {a : Addr} {xs : List V} (h : SqL K H a xs) : SqL K (noTb H) a xs := by
  rcases h with (h | ⟨o, h⟩) | h
  · exact .inl (.inl (noTb_of h fun _ z => by cases z))
  · exact .inl (.inr ⟨o, noTb_of h fun _ z => by cases z⟩)
  · exact .inr h
theorem law_sp {K : Frag} {H : Hp} {a : Addr} {ns : List Int} (hl : ns.length ≤ 63) (hT : ∀ p ∈ tabsK K, H p.1 = some (.tbl #[])) (hS : SqL K H a (ns.map V.int)) : spOf K 1 cLaw [.ref a] H (fun v _ => v = .bl true) (fun _ _ _ => False) := by
  refine ⟨rfl, noTb H, [.d (.list (ns.map .int))], fun r args' => r = .rd (.bool true), fun _ _ => False, ⟨ns, rfl, hl, rfl⟩, ⟨rfl, fun i s h => ?_, fun i j s t b h1 h2 h3 h4 => ?_, fun b ⟨i, s, h1, h2⟩ => ?_, fun b u z => (noTb_to z).1, fun b vs h => noTb_of h (fun _ z => by cases z), ⟨fun b ps z => (noTb_to z).2 ps rfl, fun p hp => ⟨#[], hT p hp, trivial, fun pos cv hc => ?_⟩⟩⟩, fun r v args' F' H' hp _ _ _ pr => ?_, fun c _ _ _ hp _ _ _ => hp.elim⟩
  · match i, h with
    | 0, h =>
      have e := Option.some.inj h
      subst e
      exact ⟨.ref a, rfl, .lst (noTb_sql hS) (dpa_ints ns)⟩
    | i + 1, h => simp at h
  · match i, h1 with
    | 0, h1 =>
      have e := Option.some.inj h1
      subst e
      cases h3
    | i + 1, h => simp at h
  · match i, h1 with
    | 0, h1 =>
      have e := Option.some.inj h1
      subst e
      cases h2
    | i + 1, h => simp at h
  · have z : codeAmong pos [] = some cv := hc
    simp [codeAmong] at z
  · subst hp
    exact dp_bl pr
end TL
namespace TL
open PySem PySem.Spec PyProof.Rows L2
section
variable {X : Cx} {g : G} {env env' : List Sl} {Ψ : Exc → Prop} {P : Po} {pos p : Pos} {a b c e : Expr} {es : List Expr} {rest : List Stmt} {K : Frag} {F F' H H' : Hp} {σ σ' : SS}
/-- a statement, what holds behind it, the rest -/
theorem ws_mid {st : Stmt} (M : List Sl → Prop) (h1 : W1 X g st env (P.thn M)) (h2 : ∀ e, M e → WS X g rest e P) : WS X g (st :: rest) env P := fun W tk hx σ F H s0 D hD => by
  refine semS_of (pss_cons (psP st) (pssS rest)) ?_
  refine h1 W tk hx σ F H s0 _ ⟨fun env' σ' F' H' hw s' e' => ?_, hD.rt, hD.bk, hD.ct⟩
  exact h2 env' hw W tk hx σ' F' H' s' D (hD.mono e')
theorem ws_close (i : Nat) {al : Addr} {ds : List PyData} (he : env[i]? = some (.ol al ds)) (hb : BagD ds) (h : WS X g rest (env.set i (.bg al)) P) : WS X g rest env P := fun W tk hx σ F H st D hD =>
  h W tk hx σ F H (st.weak he (fun a m => m) fun ⟨h1, vs, h2, h3⟩ => ⟨h1, ds, vs, hb, h2, h3⟩) D hD
theorem ws_open (i : Nat) {al : Addr} (he : env[i]? = some (.bg al)) (h : ∀ (cells : List Int) (j s t : Int), (∀ c ∈ cells, (0 : Int) ≤ c) → 0 ≤ j → 0 ≤ s → 0 ≤ t → t < 2147483629 → WS X g rest (env.set i (.ol al [.list (cells.map .int), .int j, .int s, .int t])) P) : WS X g rest env P := fun W tk hx σ F H st D hD => by
  obtain ⟨h1, ds, vs, ⟨cells, j, s, t, rfl, q1, q2, q3, q4, q5⟩, h2, h3⟩ := st.sl i _ he
  exact h cells j s t q1 q2 q3 q4 q5 W tk hx σ F H (st.weak he (fun a m => m) fun _ => ⟨h1, vs, h2, h3⟩) D hD
end
theorem szOk {n m : Nat} (h : Nat.ble n m = true) : n ≤ m := Nat.le_of_ble_eq_true h
theorem nb {m : Int} (h : m.natAbs < 2 ^ 120) : m.natAbs < 2 ^ 8000 := Nat.lt_of_lt_of_le h (Nat.pow_le_pow_right (by decide) (by decide))
theorem at_nat {α : Type} {xs : List α} {i : Int} {x : α} (h0 : 0 ≤ i) (h : xs[i.toNat]? = some x) : atI xs i = some x := by
  have hl := (List.getElem?_eq_some_iff.mp h).1
  unfold atI ixN
  rw [if_pos h0, if_pos (by omega)]
  exact h
theorem at_ints {ns : List Int} {i : Int} (h0 : 0 ≤ i) (h1 : i < ns.length) : ∃ n, n ∈ ns ∧ ns[i.toNat]? = some n ∧ atI (ns.map PyData.int) i = some (.int n) := by
  have hl : i.toNat < ns.length := by omega
  refine ⟨ns[i.toNat], List.getElem_mem hl, by simp [hl], at_nat h0 (by simp [hl])⟩
theorem wp_none {X : Cx} {g : G} {env : List Sl} {Φ : Option Int → Prop} {Ψ : Exc → Prop} (h : Φ none) : WP X g none env Φ Ψ := h
theorem wp_e {X : Cx} {g : G} {env : List Sl} {e : Expr} {Φ : Option Int → Prop} {Ψ : Exc → Prop} (h : WE X g e env (fun d _ => ∃ i, d = .int i ∧ Φ (some i)) Ψ) : WP X g (some e) env Φ Ψ := h
theorem cut_le {α : Type} (xs : List α) (k : Int) (h0 : 0 ≤ k) (h : (xs.length : Int) ≤ k) : cut xs none (some k) = xs := by
  unfold cut HT.sIx
  have e : ¬ k < 0 := by omega
  simp only [e, if_false]
  rw [List.drop_zero, Nat.min_eq_right (by omega), Nat.sub_zero, List.take_length]
theorem ints_get {ns : List Int} {i : Nat} {x : PyData} (h : (ns.map PyData.int)[i]? = some x) : ∃ n, x = .int n ∧ ns[i]? = some n := by
  obtain ⟨n, h1, h2⟩ := map_get h
  exact ⟨n, h2.symm, h1⟩
theorem tk_succ {α : Type} {ns : List α} {i : Nat} {n : α} (f : α → PyData) (h : ns[i]? = some n) : (ns.take i).map f ++ [f n] = (ns.take (i + 1)).map f := by
  rw [List.take_succ, h]
  simp
def ppD (p : Int × Int) : PyData := .tuple [.int p.1, .int p.2]
theorem pairs_alike (ps : List (Int × Int)) : PySem.W.AllAlike (ps.map ppD) := fun d hd d' hd' => by
  obtain ⟨p, _, rfl⟩ := List.mem_map.mp hd
  obtain ⟨q, _, rfl⟩ := List.mem_map.mp hd'
  rfl
theorem pairs_sortable (ps : List (Int × Int)) : PySem.W.Sortable (ps.map ppD) := .inl fun d hd => by
  obtain ⟨p, _, rfl⟩ := List.mem_map.mp hd
  exact ⟨_, _, rfl⟩
theorem pairs_depth (ps : List (Int × Int)) : ∀ d ∈ ps.map ppD, SeqAt.shaped d = true := fun d hd => by
  obtain ⟨p, _, rfl⟩ := List.mem_map.mp hd
  rfl
section
variable {Φ : PyData → Bool → Prop} {m : Nat} {f : Nat → PyData} {k : Int} {z1 z2 : Bool}
theorem ix_lst (h0 : 0 ≤ k) {xs : List PyData} {x : PyData} (h : xs[k.toNat]? = some x) (hp : Φ x true) : IxP Φ (.list xs) z1 (.int k) z2 := .lst hp (at_nat h0 h)
theorem ix_tup (h0 : 0 ≤ k) {xs : List PyData} {x : PyData} (h : xs[k.toNat]? = some x) (hp : Φ x true) : IxP Φ (.tuple xs) z1 (.int k) z2 := .tup hp (at_nat h0 h)
theorem ix_ints (h0 : 0 ≤ k) {ns : List Int} (h1 : k < ns.length) (hp : ∀ n ∈ ns, Φ (.int n) true) : IxP Φ (.list (ns.map .int)) z1 (.int k) z2 := by
  obtain ⟨n, q1, _, q2⟩ := at_ints h0 h1
  exact .lst (hp n q1) q2
end
theorem exk_of {K : Frag} {mg : Str → Option Value} {x : Str} (g : mg x = some (.ref (He.ga K x))) (h : PySem.W.excIn K (He.ga K x) He.veBase "ValueError.__new__" = true ∧ PySem.W.keepIn K (.ref (He.ga K x)) = true ∧ PySem.W.subIn K (.ref (He.ga K x)) (.type "BaseException") = some true ∧ PySem.W.typeIn K (.ref (He.ga K x)) = some (.type "type")) : ExK K mg x := ⟨g, h.1, h.2.1, h.2.2.1, h.2.2.2⟩
theorem Has.mono {P : Program} {w : World} {K : Frag} {mg : Str → Option Value} {base : Heap} {j k : Nat} {x : Str} {ps : List Str} {S : CT} (h : Has P w K mg base j x ps S) (le : j ≤ k) : Has P w K mg base k x ps S := by
  obtain ⟨f, fd, h1, h2, h3, h4⟩ := h.ex
  exact ⟨f, fd, h1, h2, h3, h4.mono le⟩
end TL
namespace TL
open PySem PySem.Spec PyProof.Rows L2
theorem enu_new {v : Value} {o : Obj} {D : Heap → Prop} (B : Begins v o D) : Meets (Builtin.«enumerate.__new__» ⟨[.type "enumerate", v], []⟩) (fun _ R z => D z.heap ∧
    R (.ok (.ret (.ref (z.heap.push o).objs.size))) { z with heap := (z.heap.push o).push { cls := .type "enumerate", data := .fields #[.none, .bool false, .ref z.heap.objs.size, rawInt 0, .none, .none] } }) :=
  .of_wp fun prog w A R z y => by
    obtain ⟨h0, g0, d0, t0, o0⟩ := z
    obtain ⟨y1, y2⟩ := y
    have sb := sub_enumerate
    have go : ∀ {A' : Around} {E : Value → Shared → Prop} {Q : Value → Shared → Prop}, Q (.ref h0.objs.size) ⟨h0.push o, g0, d0, t0, o0⟩ → wpAny (model prog w) A' (pyIter v) Q E ⟨h0, g0, d0, t0, o0⟩ := fun q => B.iter prog w _ _ _ _ y1 q
    wp_walk using go
    refine wpAny_stack_any fun _ => wpAny_pure ?_
    split
    · rename_i cc _ _ _ _ _
      cases (cc == Value.type "enumerate")
      all_goals
        wp_walk using go
        exact ⟨_, rfl, y2⟩
    · wp_walk using go
      exact ⟨_, rfl, y2⟩
theorem enu_call {prog : Program} {w : World} {A : Around} {E : Value → Shared → Prop} {z : Shared} {v : Value} {o : Obj} {D : Heap → Prop} {Q : Value → Shared → Prop} (B : Begins v o D) (y : D z.heap)
    (k : ∀ h', IsEnum h' (z.heap.objs.size + 1) z.heap.objs.size 0 .none → h'.get? z.heap.objs.size = some o → (∀ b u, z.heap.get? b = some u → h'.get? b = some u) → Q (.ref (z.heap.objs.size + 1)) { z with heap := h' }) :
    wpAny (model prog w) A (call (.type "enumerate") [v]) Q E z := by
  refine callType_new F.called_enumerate (by decide) (F.typeCall_enumerate_1 _) (F.newCall_enumerate_1 _) (fun u => F.args_object_init_2 u _) F.entry_enumerate_new (enu_new B) ⟨y, ?_⟩
  have sz : (z.heap.push o).objs.size = z.heap.objs.size + 1 := Heap.size_push ..
  show _ ∧ _
  rw [sz]
  have en : IsEnum ((z.heap.push o).push { cls := .type "enumerate", data := .fields #[.none, .bool false, .ref z.heap.objs.size, rawInt 0, .none, .none] }) (z.heap.objs.size + 1) z.heap.objs.size 0 .none := by
    have u := Heap.get?_push_size (z.heap.push o) (o := { cls := .type "enumerate", data := .fields #[.none, .bool false, .ref z.heap.objs.size, rawInt 0, .none, .none] }) rfl
    rw [sz] at u
    exact u
  exact ⟨⟨_, en, rfl⟩, k _ en (Heap.get?_push_of_some _ (Heap.get?_push_size _ B.free)) fun b u x => Heap.get?_push_of_some _ (Heap.get?_push_of_some _ x)⟩
/-- the tuple at a, each item in a new pair -/
def EnT (K : PySem.W.Frag) (a : Addr) : It :=
  ⟨fun i H => ∃ (vs : List V) (v : V), SqT K H a vs ∧ vs[i]? = some v, fun i H u H' => ∃ p v, u = .ref p ∧ H p = none ∧ H' = upd H p (.tup [.int (i : Nat), v]) ∧ ∀ vs, SqT K H a vs → vs[i]? = some v, fun i H => ∃ vs : List V, SqT K H a vs ∧ vs.length = i⟩
theorem turn_en {P : Program} {w : World} {K : PySem.W.Frag} {elts : List Expr} {kk : Nat} {tpos : Pos} (a e it : Addr) :
    Turn P w K (.Tuple elts kk tpos) (EnT K a) [e, it] e (fun i h => (∃ old, IsEnum h e it ((i : Nat) : Int) old) ∧ h.IsTupleIter it a i ∧ e ≠ it) where
  mem := by simp
  obj := fun i h q b hb => by
    obtain ⟨⟨old, en⟩, ⟨o, o1, o2, o3⟩, _⟩ := q
    have hb2 : b = e ∨ b = it := by simpa using hb
    rcases hb2 with rfl | rfl
    · exact ⟨_, en, fun v q => nomatch q⟩
    · exact ⟨o, o1, fun v q => by rw [o3] at q; cases q⟩
  keep := fun i h h' q k => by
    obtain ⟨⟨old, en⟩, ⟨o, o1, o2⟩, ne⟩ := q
    exact ⟨⟨old, k e (by simp) _ en⟩, ⟨o, k it (by simp) _ o1, o2⟩, ne⟩
  item := by
    intro X hP hw hK hc i pins s σ H E I fps st go
    subst hP hw hK
    obtain ⟨⟨old, en⟩, ti, ne⟩ := st
    obtain ⟨vs, v, sq, hv⟩ := go
    obtain ⟨its, rv, pt, hz⟩ := I.tuple sq
    obtain ⟨u, hu, ru⟩ := rv.get hv
    have lte : e < s.heap.objs.size := Heap.lt_size en
    have lti : it < s.heap.objs.size := by obtain ⟨_, q, _⟩ := ti; exact Heap.lt_size q
    have ani : a ≠ it := fun z => by
      obtain ⟨o, q1, q2, _⟩ := ti
      obtain ⟨o', q3, q4, _⟩ := pt
      rw [z, q1] at q3
      cases q3
      rw [q2] at q4
      exact absurd q4 (by decide)
    obtain ⟨f0, f1, f2, f3, f4, f5⟩ := fps it (by simp)
    have hlt : i < its.toArray.size := by
      have := (List.getElem?_eq_some_iff.mp hu).1
      simpa using this
    have ane : a ≠ e := fun z => by
      obtain ⟨o', q3, q4, _⟩ := pt
      have en' : s.heap.get? e = some _ := en
      rw [z, en'] at q3
      cases q3
      exact absurd q4 (by show ¬ (Value.type "enumerate" = Value.type "tuple"); decide)
    refine wpAny_pyNext_enum_itemD (Draws.tuple (show X.A.in1.handled = none from I.ok.hd hc) it a ani its.toArray) en ⟨ti, pt⟩ hlt ne (by
      intro hm
      have hm2 : e = it ∨ e = a := by simpa using hm
      rcases hm2 with z | z
      · exact ne z
      · exact ane z.symm) fun x h' tk hx eo st' hT hsz keep => ?_
    have xu : x = u := by
      have hx' : its[i]? = some x := by simpa using hx
      rw [hu] at hx'
      exact (Option.some.inj hx').symm
    subst xu
    refine ⟨_, rfl, wpAny_letOwnedTupleGo_enum (s := { s with heap := h', toks := tk + 1 }) eo fun h2 en2 sb => ?_⟩
    have hT2 : h2.get? s.heap.objs.size = some { cls := .type "tuple", data := .seq #[.int i tk, x] } := (sb.2 _ (Nat.ne_of_gt lte)).trans hT
    have nw : ObjOk X.prog X.w (upd H s.heap.objs.size (.tup [.int (i : Nat), v])) h2 s.heap.objs.size (.tup [.int (i : Nat), v]) := ⟨by show 2 ≤ sizeLine; decide, [.int i tk, x], .cons ⟨_, rfl⟩ (.cons ru .nil), ⟨_, hT2, rfl, _, rfl⟩⟩
    have I2 : Inv X pins σ (upd H s.heap.objs.size (.tup [.int (i : Nat), v])) { s with heap := h2, toks := tk + 1 } :=
      I.turnedNew (ch := [e, it]) (fun b ob hb q => (sb.2 b fun z => hb (by simp [z])).trans (keep b ob (fun z => hb (by simp [z])) (fun z => hb (by simp [z])) q)) fps (Nat.le_refl _) nw
    refine ⟨.ref s.heap.objs.size, _, I2, rfl, ⟨_, v, rfl, I.hok.fresh (Nat.le_refl _), rfl, fun ys hy => by rw [I.tuple_inj hy sq]; exact hv⟩, ⟨⟨x, ?_⟩, ?_, ne⟩, fun b hb => ?_⟩
    · rw [show ((i + 1 : Nat) : Int) = (i : Int) + 1 by omega]
      exact en2
    · obtain ⟨o, q1, q2⟩ := st'.1
      exact ⟨o, (sb.2 it (Ne.symm ne)).trans q1, q2⟩
    · have hb2 : b = e ∨ b = it := by simpa using hb
      have lb : b < s.heap.objs.size := by
        rcases hb2 with rfl | rfl
        · exact lte
        · exact lti
      rw [upd_ne (Nat.ne_of_lt lb)]
      exact (fps b hb).1
  done := by
    intro X hP hw hK hc i pins s σ H E I fps st go
    subst hP hw hK
    obtain ⟨⟨old, en⟩, ti, ne⟩ := st
    obtain ⟨vs, sq, hv⟩ := go
    obtain ⟨its, rv, pt, hz⟩ := I.tuple sq
    obtain ⟨f0, f1, f2, f3, f4, f5⟩ := fps it (by simp)
    have ani : a ≠ it := fun z => by
      obtain ⟨o, q1, q2, _⟩ := ti
      obtain ⟨o', q3, q4, _⟩ := pt
      rw [z, q1] at q3
      cases q3
      rw [q2] at q4
      exact absurd q4 (by decide)
    have hl := rv.length
    have hn : its.toArray.size = i := by simp; omega
    subst hn
    refine wpAny_pyNext_enum_endD (Draws.tuple (show X.A.in1.handled = none from I.ok.hd hc) it a ani its.toArray) en ⟨ti, pt⟩ fun h' eb => ⟨rfl, I.turned (t' := s.toks) (fun b o hb q => eb b o hb q) f0 f1 f3 f4 f5⟩
  self := fun A i s Q E q h => by
    obtain ⟨⟨_, en⟩, _⟩ := q
    exact wpAny_pyIter_enum en h
section
variable {K : PySem.W.Frag} {a : Addr} {xs : List V}
theorem walk_enT : Walk (EnT K a) xs.length (fun H => SqT K H a xs) (YPair (fun i => some (.int (i : Nat))) fun i => xs[i]?) := by
  refine ⟨fun i _ hi q => ⟨xs, xs[i], q, by simp [hi]⟩, fun _ q => ⟨xs, q, rfl⟩, fun i H v H' _ q y => ?_⟩
  obtain ⟨p, u, y1, y2, y3, y4⟩ := y
  exact ⟨p, _, u, y1, y2, y3, rfl, y4 xs q⟩
end
end TL
namespace TL
open PySem PySem.Spec PyProof.Rows L2
section
variable {X : Cx} {g : G} {env env' : List Sl} {Ψ : Exc → Prop} {P : Po} {pos p p2 p3 : Pos} {a b c e : Expr} {es : List Expr} {rest body : List Stmt} {K : Frag} {F F' H H' : Hp} {σ σ' : SS}
def tyN : PyData → String
  | .none => "NoneType"
  | .bool _ => "bool"
  | .int _ => "int"
  | .str _ => "str"
  | .list _ => "list"
  | .tuple _ => "tuple"
  | .dict _ => "dict"
def isTyB (T : String) (d : PyData) : Bool := match d with
  | .dict ((.bool true, _) :: _) => false
  | d => (kitB (tyN d) T).getD false
def kitOk (T : String) : Bool := (kitTys.all fun t => (kitB t T).isSome) && kitTys.contains T
theorem kitB_some (T : String) (d : PyData) (h : kitOk T = true) : kitB (tyN d) T = some ((kitB (tyN d) T).getD false) := by
  have m : tyN d ∈ kitTys := by cases d <;> simp [tyN, kitTys]
  have q := List.all_eq_true.mp (Bool.and_eq_true_iff.mp h).1 _ m
  cases e : kitB (tyN d) T with
  | none => rw [e] at q; cases q
  | some r => rfl
theorem tyx_of {z : Bool} {v : V} {d : PyData} (st : Sk K F H σ env) (h : Rd K F env z v d) : ∃ t, TyX K H v t ∧ ∀ T, kitOk T = true → PySem.W.kitOne K t (.type T) = some (isTyB T d) := by
  have h := rd_now st h
  cases h with
  | non => exact ⟨_, .base .non, fun T hT => kit_ty (kitB_some T .none hT)⟩
  | bl b => exact ⟨_, .base (.bl b), fun T hT => kit_ty (kitB_some T (.bool b) hT)⟩
  | int i => exact ⟨_, .base (.int i), fun T hT => kit_ty (kitB_some T (.int i) hT)⟩
  | str s => exact ⟨_, .base (.str s), fun T hT => kit_ty (kitB_some T (.str s) hT)⟩
  | @lst a xs ds s _ =>
    rcases s with s | ⟨o, _, _, s, q, _⟩
    · rcases s with s | ⟨o, s⟩
      · exact ⟨_, .base (.lst s), fun T hT => kit_ty (kitB_some T (.list ds) hT)⟩
      · exact ⟨_, .base (.frz s), fun T hT => kit_ty (kitB_some T (.list ds) hT)⟩
    · exact ⟨_, .kList s q, fun T hT => kit_ty (kitB_some T (.list ds) hT)⟩
  | @tup a xs ds s _ => exact ⟨_, .base (.tup s), fun T hT => kit_ty (kitB_some T (.tuple ds) hT)⟩
  | @ktup a s =>
    rcases s H with s | ⟨o, _, _, s, q, _⟩
    · rcases s with s | ⟨o, s⟩
      · exact ⟨_, .base (.tup s), fun T hT => kit_ty (kitB_some T startD hT)⟩
      · exact ⟨_, .fTuple s, fun T hT => kit_ty (kitB_some T startD hT)⟩
    · exact ⟨_, .kTuple s q, fun T hT => kit_ty (kitB_some T startD hT)⟩
  | @dct a vs kvs s _ => exact ⟨_, .base (.dT s), fun T hT => kit_ty (kitB_some T (.dict ((.none, .none) :: kvs)) hT)⟩
  | @dck a vs kvs s hk =>
    refine ⟨_, .base (.dK s), fun T hT => ?_⟩
    have e : isTyB T (.dict kvs) = (kitB "dict" T).getD false := by
      cases hk with
      | nil => rfl
      | @cons k _ _ _ _ _ _ => cases k <;> rfl
    rw [e]
    exact kit_ty (kitB_some T (.dict kvs) hT)
  | ins hk s _ => exact ⟨_, .base (.ins s hk.cls hk.c1 hk.c2 hk.c3 hk.c4), fun T hT => hk.kit T (by simpa using (Bool.and_eq_true_iff.mp hT).2)⟩
theorem pa_ty {T : String} {y : Str} (hm : X.mg y = none) (hv : bootBuiltins y = some (.type T)) (hg : Gl X y) (hn : y ≠ "__name__" := by decide) (hd : (y == ("__debug__" : Str)) = false := by decide) : PE X (.Name y p) (tC (.ty T)) := pe_bltn hg hm hv rfl hn hd
theorem we_isi (T : String) {y : Str} {Φ : PyData → Bool → Prop} (hm : X.mg "isinstance" = none) (hy : X.mg y = none) (h : WE X g a env (fun d _ => Φ (.bool (isTyB T d)) true) Ψ) (hv : bootBuiltins y = some (.type T) := by decide +kernel) (hg2 : Gl X y := by rfl)
    (hk : kitOk T = true := by decide +kernel) (hn : y ≠ "__name__" := by decide) (hd : (y == ("__debug__" : Str)) = false := by decide) (hg : Gl X "isinstance" := by rfl)
    (he : starEach [a, .Name y p2] X.env = (false, eval a X.env) :: starEach [.Name y p2] X.env := by rfl) (he2 : starEach [.Name y p2] X.env = (false, eval (.Name y p2) X.env) :: starEach [] X.env := by rfl) (hpl : (backTo pos (starEach [.Name y p2] X.env)).any (·.1) = false := by rfl) :
    WE X g (.Call (.Name "isinstance" p) [a, .Name y p2] [] pos) env Φ Ψ := fun W tk σ F H st hx Q hQ => by
  refine semE_of (pe_callB call_isi hg hm boot_isinstance (pa_cons (peS a) (pa_cons (pa_ty hy hv hg2 hn hd) pa_nil he2) he) (by decide) (by decide) he hpl) ?_
  refine h W tk σ F H st hx _ fun d1 z1 v1 F1 H1 h1 st1 e1 r1 => ?_
  obtain ⟨t, y1, y2⟩ := tyx_of st1.toSk r1
  exact ⟨v1, .ty T, t, .type T, isTyB T d1, rfl, .ty T, y1, y2 T hk, hQ _ true _ F1 H1 h1 st1 e1 (.bl _)⟩
/-- isinstance(x, (list, tuple)) -/
theorem we_isiLT {Φ : PyData → Bool → Prop} {p4 : Pos} {x1 : Nat} (hm : X.mg "isinstance" = none) (hl : X.mg "list" = none) (ht : X.mg "tuple" = none) (h : WE X g a env (fun d _ => Φ (.bool (isTyB "list" d || isTyB "tuple" d)) true) Ψ)
    (hg : Gl X "isinstance" := by rfl) (hgl : Gl X "list" := by rfl) (hgt : Gl X "tuple" := by rfl)
    (he : starEach [a, .Tuple [.Name "list" p2, .Name "tuple" p3] x1 p4] X.env = (false, eval a X.env) :: starEach [.Tuple [.Name "list" p2, .Name "tuple" p3] x1 p4] X.env := by rfl)
    (he2 : starEach [.Tuple [.Name "list" p2, .Name "tuple" p3] x1 p4] X.env = (false, eval (.Tuple [.Name "list" p2, .Name "tuple" p3] x1 p4) X.env) :: starEach [] X.env := by rfl)
    (hpl : (backTo pos (starEach [.Tuple [.Name "list" p2, .Name "tuple" p3] x1 p4] X.env)).any (·.1) = false := by rfl)
    (he3 : starEach [.Name "list" p2, .Name "tuple" p3] X.env = (false, eval (.Name "list" p2) X.env) :: starEach [.Name "tuple" p3] X.env := by rfl) (he4 : starEach [.Name "tuple" p3] X.env = (false, eval (.Name "tuple" p3) X.env) :: starEach [] X.env := by rfl) :
    WE X g (.Call (.Name "isinstance" p) [a, .Tuple [.Name "list" p2, .Name "tuple" p3] x1 p4] [] pos) env Φ Ψ := fun W tk σ F H st hx Q hQ => by
  refine semE_of (pe_callB call_isiT hg hm boot_isinstance (pa_cons (peS a) (pa_cons (pe_tup (pa_cons (pa_ty (T := "list") hl (by decide +kernel) hgl) (pa_cons (pa_ty (T := "tuple") ht (by decide +kernel) hgt) pa_nil he4) he3)) pa_nil he2) he) (by decide) (by decide) he hpl) ?_
  refine h W tk σ F H st hx _ fun d1 z1 v1 F1 H1 h1 st1 e1 r1 => ?_
  refine ⟨by decide, fun tp hn => ?_⟩
  have st2 := st1.allocF (o := .tup [.ty "list", .ty "tuple"]) hn
  have hF : F1 tp = none := st1.ex.none hn
  obtain ⟨t, y1, y2⟩ := tyx_of st2.toSk (rd_mono (Ex.new hF) r1)
  refine ⟨v1, tp, [.ty "list", .ty "tuple"], t, [.type "list", .type "tuple"], isTyB "list" d1 || isTyB "tuple" d1, rfl, upd_same, .cons (.ty _) (.cons (.ty _) .nil), y1, ?_, hQ _ true _ _ _ h1 st2 (e1.trans (Ex.new hF)) (.bl _)⟩
  refine kitAny_cons (y2 "list" (by decide +kernel)) (fun q => ?_) fun q => by rw [q]; rfl
  rw [q, Bool.false_or]
  refine kitAny_cons (y2 "tuple" (by decide +kernel)) (fun q => ?_) fun q => q
  rw [q]
  rfl
theorem cut_whole {α : Type} {xs : List α} {lo hi : Option Int} (h : HT.sIx xs.length 0 lo = 0 ∧ HT.sIx xs.length xs.length hi = xs.length) : cut xs lo hi = xs := by
  unfold cut
  rw [h.1, h.2, List.drop_zero, Nat.sub_zero, List.take_length]
theorem for_turn2 {t : TG} {A : PyData → Option (List (Nat × PyData))} {F1 F : Hp} {Pv : Nat → List Sl → Prop} {i : Nat} {x : PyData} {v : V} {D : Ends} {W : WX} (tk : Takes X W) (hx2 : XOk X g P W) (hD : DOk X g F1 P D) (htd : TGd X.K t A) (hv : Dq X.K F v x) (s1 : St X.K g F H σ env) (e1 : Ex F1 F) (hp : Pv i env) (h : FT X g body A P Pv i x) :
    t v σ H fun σ2 H2 => semS X body { D with nx := FJ X.K g F1 Pv (i + 1), ct := FJ X.K g F1 Pv (i + 1), bk := D.nx } σ2 H2 := by
  obtain ⟨l, hA, hl, hw⟩ := h env hp
  refine htd x l σ F H v _ hA s1.ex hv fun r sr => ?_
  have s2 := s1.sets sr fun q hq => ltB (List.all_eq_true.mp hl q hq)
  exact hw W tk hx2 _ F H s2 _ ⟨fun e2 σ' F' H' q s' ex => ⟨F', e2, s', e1.trans ex, q⟩, hD.rt, fun e2 σ' F' H' q s' ex => hD.nx e2 σ' F' H' q s' (e1.trans ex), fun e2 σ' F' H' q s' ex => ⟨F', e2, s', e1.trans ex, q⟩⟩
end
end TL
namespace TL
open PySem PySem.Spec PyProof.Rows L2
def backE (env : List Sl) : List Ar → List Sl → List Sl
  | .s i :: as, s :: ss => (backE env as ss).set i s
  | .d _ :: as, _ :: ss => backE env as ss
  | _, _ => env
section
variable {X : Cx} {g : G} {env env' : List Sl} {Ψ : Exc → Prop} {P : Po} {pos p lp : Pos} {a b c e : Expr} {es : List Expr} {rest body : List Stmt} {K : Frag} {F F' H H' : Hp} {σ σ' : SS}
theorem backE_len : ∀ (as : List Ar) (ss : List Sl), (backE env as ss).length = env.length
  | .s i :: as, s :: ss => by rw [backE, List.length_set, backE_len as ss]
  | .d _ :: as, _ :: ss => backE_len as ss
  | [], _ => rfl
  | .s _ :: _, [] => rfl
  | .d _ :: _, [] => rfl
theorem backE_out : ∀ {as : List Ar} {ss : List Sl} {i : Nat}, i ∉ arIx as → (backE env as ss)[i]? = env[i]?
  | .s j :: as, s :: ss, i, h => by
    have h1 : i ≠ j := fun z => h (by rw [z]; exact List.mem_cons_self ..)
    rw [backE, List.getElem?_set, if_neg (Ne.symm h1)]
    exact backE_out fun z => h (List.mem_cons_of_mem _ z)
  | .d _ :: as, _ :: ss, i, h => backE_out (as := as) h
  | [], _, _, _ => rfl
  | .s _ :: _, [], _, _ => rfl
  | .d _ :: _, [], _, _ => rfl
theorem backE_in : ∀ {as : List Ar} {ss : List Sl} {i j : Nat} {s : Sl}, (arIx as).Nodup → ss.length = as.length → as[j]? = some (.s i) → (backE env as ss)[i]? = some s → ss[j]? = some s
  | .s k :: as, t :: ss, i, 0, s, nd, hl, h1, h2 => by
    have e := Option.some.inj h1
    injection e with e
    subst e
    rw [backE, List.getElem?_set, if_pos rfl] at h2
    split at h2
    · exact h2
    · cases h2
  | .s k :: as, t :: ss, i, j + 1, s, nd, hl, h1, h2 => by
    have nd2 := List.nodup_cons.mp nd
    have hm : i ∈ arIx as := arix_mem (as := as) (j := j) h1
    have ne : k ≠ i := fun z => nd2.1 (z ▸ hm)
    rw [backE, List.getElem?_set, if_neg ne] at h2
    exact backE_in (as := as) (j := j) nd2.2 (Nat.succ.inj hl) h1 h2
  | .d _ :: as, t :: ss, i, 0, s, nd, hl, h1, h2 => by
    have e := Option.some.inj h1
    cases e
  | .d _ :: as, t :: ss, i, j + 1, s, nd, hl, h1, h2 => backE_in (as := as) (j := j) (ss := ss) nd (Nat.succ.inj hl) h1 h2
  | [], _, _, _, _, _, _, h1, _ => by simp at h1
  | _ :: _, [], _, _, _, _, hl, _, _ => by cases hl
theorem ix_of : ∀ {as : List Ar} {i : Nat}, i ∈ arIx as → ∃ j : Nat, as[j]? = some (Ar.s i)
  | .d z :: r, i, h => by
    obtain ⟨j, hj⟩ := ix_of (as := r) h
    exact ⟨j + 1, hj⟩
  | .s l :: r, i, h => by
    rcases List.mem_cons.mp (show i ∈ l :: arIx r from h) with e | h
    · subst e; exact ⟨0, rfl⟩
    · obtain ⟨j, hj⟩ := ix_of h; exact ⟨j + 1, hj⟩
theorem st_back {as : List Ar} {vs : List V} {args' : List Sl} (st : St K g F H σ env) (ha : ArAll K F σ vs as) (nd : (arIx as).Nodup) (hs : ∀ i ∈ arIx as, i < env.length) (sk : Sk K F' H' (vs.map some) args') (hst : Step F H (as.map (slOf env)) F' H')
    (hf : args'.map Sl.fp = (as.map (slOf env)).map Sl.fp) : St K g F' H' σ (backE env as args') := by
  have hl : args'.length = as.length := by have := congrArg List.length hf; simpa using this
  refine st.called ha sk hst (backE_len _ _) (fun i s h1 h2 => by rw [backE_out h1] at h2; exact h2) (fun j i s h1 h2 => backE_in nd hl h1 h2) (fun i s s' h1 h2 a h3 => ?_)
  by_cases hi : i ∈ arIx as
  · obtain ⟨j, hj⟩ := ix_of hi
    have q := backE_in nd hl hj h2
    have q2 : (args'.map Sl.fp)[j]? = some s'.fp := by rw [List.getElem?_map, q]; rfl
    rw [hf, List.getElem?_map, List.getElem?_map, hj] at q2
    have e : slOf env (.s i) = s := by show env[i]?.getD .un = _; rw [h1]; rfl
    have q3 : some (slOf env (.s i)).fp = some s'.fp := q2
    rw [e] at q3
    rw [Option.some.inj q3]
    exact .inl h3
  · rw [backE_out hi, h1] at h2
    cases h2
    exact .inl h3
/-- f(..) as a statement, what it was handed changed -/
theorem w1_callM {j k : Nat} {x : Str} {ps : List Str} {S : CT} (hf : Has X.prog X.w X.K X.mg X.base j x ps S) (hr : Room k X.A)
    (h : WAs X g (e :: es) env (fun as => callOk as ps.length env.length = true ∧ S (as.map (slOf env)) (fun _ args' => args'.map Sl.fp = (as.map (slOf env)).map Sl.fp ∧ P.nx (backE env as args')) (fun c args' => args' = as.map (slOf env) ∧ P.ex c env)) (fun c => P.ex c env))
    (hj : j ≤ k := by omega) (hg : Gl X x := by rfl) (hdb : (x == ("__debug__" : Str)) = false := by decide)
    (he : starEach (e :: es) X.env = (false, eval e X.env) :: starEach es X.env := by rfl) (hpl : (backTo p (starEach es X.env)).any (·.1) = false := by rfl) {p1 : Pos}
    (hs : swapsWith (.Call (.Name x p1) (e :: es) [] p) none pos.line X.env = pure false := by rfl) : W1 X g (.Expr (.Call (.Name x p1) (e :: es) [] p) pos) env P := fun W tk hx2 σ F H s0 D hD => by
  obtain ⟨f, fd, hm, hk, hb, F0⟩ := hf.ex
  refine semP_of (ps_expr (pe_callS F0 (hr.mono hj) hg hm hk hb (fun σ => passAt tk σ) (paS (e :: es)) hdb he hpl) hs) ?_
  refine h W tk σ F H s0 (hx2.hx env σ) _ fun as vs F1 H1 ⟨hok, hS⟩ s1 e1 ra => ?_
  obtain ⟨h1, h2, h3⟩ := callOk_ok hok
  refine ⟨by rw [arall_len ra, h1], F1, as.map (slOf env), _, _, hS, s1.toSk.callee ra h2 h3, fun r v args' F' H' ⟨ea, hp⟩ sk hst _ pr => ?_, fun c args' F' H' ⟨ea, hp⟩ sk hst _ => ?_⟩
  · exact hD.nx _ _ F' H' hp (st_back s1 ra h2 h3 sk hst ea) (e1.trans hst.1)
  · have := hx2 c env σ F' H' hp (st_same s1 ra sk hst ea)
    cases c
    exact this
def WAn (X : Cx) (g : G) (es : List Expr) (env : List Sl) (Φ : List Ar → Prop) (Ψ : Exc → Prop) : Prop :=
  ∀ (W : WX), Takes X W → ∀ (σ : SS) (F H : Hp), St X.K g F H σ env → HX X g env Ψ W σ →
    ∀ Q : List V → Hp → Prop, (∀ as vs q F' H', Φ as → St X.K g F' H' σ env → Ex F F' → ArAll X.K F' σ vs as → H' q = some (.lst []) → F' q = none → ¬ Own env q → g.H0 q = none → Q (vs ++ [.ref q]) H') → semA X es σ H Q
section
variable {Φ : List Ar → Prop}
theorem wan_l (h : Φ []) (hs : starEach [.List [] lp] X.env = (false, eval (.List [] lp) X.env) :: starEach [] X.env := by rfl) : WAn X g [.List [] lp] env Φ Ψ := fun W tk σ F H st hx Q hQ => by
  refine semA_of (pa_cons (pe_lst pa_nil) pa_nil hs) ?_
  refine ⟨Nat.zero_le _, fun q hn => ?_⟩
  exact hQ [] [] q F _ h (st.alloc hn) (Ex.refl F) trivial upd_same (st.ex.none hn) (st.toSk.notown hn) (st.h0 hn)
theorem wan_d (he : WE X g e env (fun d z => z = true ∧ WAn X g es env (fun as => Φ (.d d :: as)) Ψ) Ψ) (hs : starEach (e :: es) X.env = (false, eval e X.env) :: starEach es X.env := by rfl) : WAn X g (e :: es) env Φ Ψ := fun W tk σ F H st hx Q hQ => by
  refine semA_of (pa_cons (peS e) (paS es) hs) ?_
  refine he W tk σ F H st hx _ fun d z v F1 H1 ⟨hz, hp⟩ s1 e1 r1 => ?_
  subst hz
  exact hp W tk σ F1 H1 s1 hx _ fun as vs q F2 H2 hp2 s2 e2 r2 => hQ (.d d :: as) (v :: vs) q F2 H2 hp2 s2 (e1.trans e2) ⟨dp_mono e2 _ _ r1, r2⟩
theorem wan_s (i : Nat) {x : Str} {s : Sl} (h : WAn X g es env (fun as => Φ (.s i :: as)) Ψ) (he : env[i]? = some s := by rfl) (hne : s.fp ≠ [] := by (intro h; cases h)) (hN : X.N[i]? = some x := by rfl)
    (hv : Vis X.env.scope x := by first | exact Or.inl rfl | exact Or.inr (Or.inl rfl) | exact Or.inr (Or.inr rfl)) (hd : (x == ("__debug__" : Str)) = false := by decide)
    (hcd : (x == ("__classdict__" : Str)) = false := by decide) (hs : starEach ((.Name x pos) :: es) X.env = (false, eval (.Name x pos) X.env) :: starEach es X.env := by rfl) : WAn X g (.Name x pos :: es) env Φ Ψ := fun W tk σ F H st hx Q hQ => by
  refine semA_of (pa_cons (pe_var hN hv hd hcd) (paS es) hs) ?_
  have q := st.sl i s he
  obtain ⟨v, hv⟩ : ∃ v, σ[i]?.getD none = some v := by
    cases s with
    | un => exact absurd rfl hne
    | d x => exact absurd rfl hne
    | v x => exact ⟨_, q⟩
    | ol a ds => exact ⟨_, q.1⟩
    | bg a => exact ⟨_, q.1⟩
    | dt a ds => exact ⟨_, q.1⟩
    | dk a ds => exact ⟨_, q.1⟩
    | fv l => exact absurd rfl hne
    | fl l => exact absurd rfl hne
    | oo a ds => exact ⟨_, q.1⟩
    | ow t => exact ⟨q.choose, q.choose_spec.1⟩
  exact ⟨v, getD_some hv, h W tk σ F H st hx _ fun as vs q F2 H2 hp2 s2 e2 r2 => hQ (.s i :: as) (v :: vs) q F2 H2 hp2 s2 e2 ⟨getD_some hv, r2⟩⟩
end
theorem snoc_get {α : Type} {l : List α} {x y : α} {i : Nat} (h : (l ++ [x])[i]? = some y) : l[i]? = some y ∨ (i = l.length ∧ y = x) := by
  by_cases hi : i < l.length
  · rw [List.getElem?_append_left hi] at h; exact .inl h
  · by_cases e : i = l.length
    · subst e
      rw [List.getElem?_append_right (Nat.le_refl _), Nat.sub_self] at h
      exact .inr ⟨rfl, (Option.some.inj h).symm⟩
    · rw [List.getElem?_append_right (by omega)] at h
      have := (List.getElem?_eq_some_iff.mp h).1
      simp at this
      omega
theorem own_snoc {q a : Addr} {ds : List PyData} (h : Own (env ++ [.ol q ds]) a) : Own env a ∨ a = q := by
  obtain ⟨i, s, h1, h2⟩ := h
  rcases snoc_get h1 with h3 | ⟨_, rfl⟩
  · exact .inl ⟨i, s, h3, h2⟩
  · exact .inr (by simpa [Sl.fp] using h2)
theorem Sk.snoc {q : Addr} {xs : List V} {ds : List PyData} (st : Sk K F H σ env) (h1 : H q = some (.lst xs)) (h2 : DqAll K F xs ds) (h3 : F q = none) (h4 : ¬ Own env q) : Sk K F H (σ ++ [some (.ref q)]) (env ++ [.ol q ds]) where
  len := by rw [List.length_append, List.length_append, st.len]; rfl
  sl := fun i s h => by
    rcases snoc_get h with h | ⟨rfl, rfl⟩
    · have hi : i < σ.length := by rw [st.len]; exact (List.getElem?_eq_some_iff.mp h).1
      rw [List.getElem?_append_left hi]
      exact st.sl i s h
    · rw [← st.len, List.getElem?_append_right (Nat.le_refl _), Nat.sub_self]
      exact ⟨rfl, xs, h1, h2⟩
  nd := fun i j s t a hi hj m1 m2 => by
    rcases snoc_get hi with hi | ⟨rfl, rfl⟩
    · rcases snoc_get hj with hj | ⟨rfl, rfl⟩
      · exact st.nd i j s t a hi hj m1 m2
      · have e : a = q := by simpa [Sl.fp] using m2
        exact absurd ⟨i, s, hi, e ▸ m1⟩ h4
    · rcases snoc_get hj with hj | ⟨rfl, rfl⟩
      · have e : a = q := by simpa [Sl.fp] using m1
        exact absurd ⟨j, t, hj, e ▸ m2⟩ h4
      · rfl
  fr := fun a h => by
    rcases own_snoc h with h | rfl
    · exact st.fr a h
    · exact h3
  ex := st.ex
  tf := st.tf
  tk := st.tk
theorem St.snoc {q : Addr} {xs : List V} {ds : List PyData} (st : St K g F H σ env) (h1 : H q = some (.lst xs)) (h2 : DqAll K F xs ds) (h3 : F q = none) (h4 : ¬ Own env q) (h5 : g.H0 q = none) : St K g F H (σ ++ [some (.ref q)]) (env ++ [.ol q ds]) :=
  { st.toSk.snoc h1 h2 h3 h4 with
    gt := st.gt, g1 := st.g1, g3 := st.g3, g4 := st.g4, g5 := st.g5, g6 := st.g6
    g2 := fun a h => by
      rcases own_snoc h with h | rfl
      · exact st.g2 a h
      · exact .inl h5 }
theorem own_l {s : Sl} {a : Addr} (h : Own env a) : Own (env ++ [s]) a := by
  obtain ⟨i, t, h1, h2⟩ := h
  exact ⟨i, t, by rw [List.getElem?_append_left (List.getElem?_eq_some_iff.mp h1).1]; exact h1, h2⟩
theorem St.unsnoc {x : Option V} {s : Sl} (st : St K g F H (σ ++ [x]) (env ++ [s])) : St K g F H σ env where
  len := by have := st.len; rw [List.length_append, List.length_append] at this; exact Nat.add_right_cancel this
  sl := fun i t h => by
    have hi := (List.getElem?_eq_some_iff.mp h).1
    have hl := st.len
    rw [List.length_append, List.length_append] at hl
    have hl : σ.length = env.length := Nat.add_right_cancel hl
    have q := st.sl i t (by rw [List.getElem?_append_left hi]; exact h)
    rw [List.getElem?_append_left (by omega)] at q
    exact q
  nd := fun i j t u a h1 h2 => st.nd i j t u a (by rw [List.getElem?_append_left (List.getElem?_eq_some_iff.mp h1).1]; exact h1) (by rw [List.getElem?_append_left (List.getElem?_eq_some_iff.mp h2).1]; exact h2)
  fr := fun a h => st.fr a (own_l h)
  ex := st.ex
  tf := st.tf
  tk := st.tk
  gt := st.gt
  g1 := st.g1
  g2 := fun a h => st.g2 a (own_l h)
  g3 := st.g3
  g4 := st.g4
  g5 := st.g5
  g6 := st.g6
theorem arall_snoc {x : Option V} {q : Addr} (hx : x = some (.ref q)) {n : Nat} (hn : n = σ.length) : ∀ {vs : List V} {as : List Ar}, ArAll K F σ vs as → ArAll K F (σ ++ [x]) (vs ++ [.ref q]) (as ++ [.s n])
  | [], [], _ => ⟨by
      show (σ ++ [x])[n]? = some (some (.ref q))
      rw [hn, List.getElem?_append_right (Nat.le_refl _), Nat.sub_self, hx]
      rfl, trivial⟩
  | v :: vs, .d d :: as, ⟨h1, h2⟩ => ⟨h1, arall_snoc hx hn h2⟩
  | v :: vs, .s i :: as, ⟨h1, h2⟩ => ⟨by
      have h1' : σ[i]? = some (some v) := h1
      show (σ ++ [x])[i]? = some (some v)
      rw [List.getElem?_append_left (List.getElem?_eq_some_iff.mp h1').1]
      exact h1', arall_snoc hx hn h2⟩
theorem arix_snoc {n : Nat} : ∀ (as : List Ar), arIx (as ++ [Ar.s n]) = arIx as ++ [n]
  | [] => rfl
  | .d _ :: as => arix_snoc as
  | .s i :: as => congrArg (i :: ·) (arix_snoc as)
theorem map_snoc {s : Sl} : ∀ {as : List Ar}, (∀ i ∈ arIx as, i < env.length) → (as ++ [Ar.s env.length]).map (slOf (env ++ [s])) = as.map (slOf env) ++ [s]
  | [], _ => by
    show [(env ++ [s])[env.length]?.getD .un] = [s]
    rw [List.getElem?_append_right (Nat.le_refl _), Nat.sub_self]
    rfl
  | .d d :: as, h => congrArg (Sl.d d :: ·) (map_snoc (as := as) h)
  | .s i :: as, h => by
    have hi := h i (List.mem_cons_self ..)
    show (env ++ [s])[i]?.getD .un :: _ = env[i]?.getD .un :: _
    rw [List.getElem?_append_left hi]
    exact congrArg (_ :: ·) (map_snoc (as := as) fun j hj => h j (List.mem_cons_of_mem _ hj))
theorem wn_callN {j k : Nat} {x : Str} {ps : List Str} {S : CT} {Φ : List PyData → Prop} (hf : Has X.prog X.w X.K X.mg X.base j x ps S) (hr : Room k X.A)
    (h : WAn X g (e :: es) env (fun as => callOk as (ps.length - 1) env.length = true ∧ 1 ≤ ps.length ∧ ∀ q, S (as.map (slOf env) ++ [.ol q []]) (fun r args' => ∃ ds, args' = as.map (slOf env) ++ [.ol q ds] ∧ r = .ar as.length ∧ Φ ds) (fun _ _ => False)) Ψ)
    (hj : j ≤ k := by omega) (hg : Gl X x := by rfl) (hdb : (x == ("__debug__" : Str)) = false := by decide)
    (he : starEach (e :: es) X.env = (false, eval e X.env) :: starEach es X.env := by rfl) (hpl : (backTo pos (starEach es X.env)).any (·.1) = false := by rfl) : WN X g (.Call (.Name x p) (e :: es) [] pos) env Φ Ψ := fun W tk σ F H st hx Q hQ => by
  obtain ⟨f, fd, hm, hk, hb, F0⟩ := hf.ex
  refine semE_of (pe_callS F0 (hr.mono hj) hg hm hk hb (fun σ => passAt tk σ) (paS (e :: es)) hdb he hpl) ?_
  refine h W tk σ F H st hx _ fun as vs q F1 H1 ⟨hok, hn1, hS⟩ s1 e1 ra g1 g2 g3 g4 => ?_
  obtain ⟨h1, h2, h3⟩ := callOk_ok hok
  have s2 := s1.snoc g1 .nil g2 g3 g4
  have ra2 := arall_snoc (x := some (.ref q)) (q := q) rfl (n := env.length) s1.len.symm ra
  have nd2 : (arIx (as ++ [Ar.s env.length])).Nodup := by
    rw [arix_snoc]
    refine List.nodup_append.mpr ⟨h2, by simp, fun a ha b hb z => ?_⟩
    have : b = env.length := by simpa using hb
    have := h3 a ha
    omega
  have hs2 : ∀ i ∈ arIx (as ++ [Ar.s env.length]), i < (env ++ [Sl.ol q []]).length := fun i hi => by
    rw [arix_snoc] at hi
    rw [List.length_append]
    rcases List.mem_append.mp hi with hi | hi
    · have := h3 i hi; simp; omega
    · have : i = env.length := by simpa using hi
      simp; omega
  have sk2 := s2.toSk.callee ra2 nd2 hs2
  rw [map_snoc h3] at sk2
  refine ⟨by rw [List.length_append, arall_len ra, h1]; simp; omega, F1, as.map (slOf env) ++ [.ol q []], _, _, hS q, sk2, fun r v args' F' H' ⟨ds, ea, hr2, hp⟩ sk hst _ pr => ?_, fun c args' F' H' hp _ _ _ => hp.elim⟩
  subst ea hr2
  have hst2 : Step F1 H1 ((as ++ [Ar.s env.length]).map (slOf (env ++ [Sl.ol q []]))) F' H' := by rw [map_snoc h3]; exact hst
  have s3 := st_back s2 ra2 nd2 hs2 sk hst2 (by rw [map_snoc h3, List.map_append, List.map_append]; rfl)
  have eb : ∀ (as : List Ar) (env : List Sl) (n : Nat), n = env.length → (∀ i ∈ arIx as, i < env.length) → backE (env ++ [Sl.ol q []]) (as ++ [Ar.s n]) (as.map (slOf env) ++ [Sl.ol q ds]) = env ++ [Sl.ol q ds] := fun as env n hn => by
    subst hn
    induction as with
    | nil =>
      intro _
      show (env ++ [Sl.ol q []]).set env.length (.ol q ds) = _
      rw [List.set_append_right _ _ (Nat.le_refl _), Nat.sub_self]
      rfl
    | cons a as ih =>
      intro hh
      cases a with
      | d d => exact ih hh
      | s i =>
        have hi := hh i (List.mem_cons_self ..)
        show (backE (env ++ [.ol q []]) (as ++ [.s env.length]) (as.map (slOf env) ++ [.ol q ds])).set i (env[i]?.getD .un) = _
        rw [ih fun j hj => hh j (List.mem_cons_of_mem _ hj), List.getElem?_eq_getElem hi, List.set_append_left _ _ hi]
        show env.set i env[i] ++ _ = _
        rw [List.set_getElem_self hi]
  rw [eb as env _ rfl h3] at s3
  have hv : v = .ref q := by
    have pr' : (vs ++ [V.ref q])[as.length]? = some v := pr
    rw [← arall_len ra, List.getElem?_append_right (Nat.le_refl _), Nat.sub_self] at pr'
    exact (Option.some.inj pr').symm
  subst hv
  have hl : (env ++ [Sl.ol q ds])[env.length]? = some (Sl.ol q ds) := by rw [List.getElem?_append_right (Nat.le_refl _), Nat.sub_self]; rfl
  obtain ⟨_, xs, y1, y2⟩ := s3.sl env.length _ hl
  refine hQ ds (.ref q) F' H' hp s3.unsnoc (e1.trans hst.1) ⟨q, xs, rfl, y1, y2, s3.fr q ⟨_, _, hl, by simp [Sl.fp]⟩, fun ⟨i, s, z1, z2⟩ => ?_, g4⟩
  have hi := (List.getElem?_eq_some_iff.mp z1).1
  have := s3.nd i env.length s _ q (by rw [List.getElem?_append_left hi]; exact z1) hl z2 (by simp [Sl.fp])
  omega
end
theorem tkf_t {α : Type} {ns : List α} {i : Nat} {n : α} {f : α → Bool} (h : α → PyData) (e : ns[i]? = some n) (hf : f n = true) : ((ns.take i).filter f).map h ++ [h n] = ((ns.take (i + 1)).filter f).map h := by
  rw [List.take_succ, e]
  simp [List.filter_append, hf]
theorem tkf_f {α : Type} {ns : List α} {i : Nat} {n : α} {f : α → Bool} (h : α → PyData) (e : ns[i]? = some n) (hf : f n = false) : ((ns.take i).filter f).map h = ((ns.take (i + 1)).filter f).map h := by
  rw [List.take_succ, e]
  simp [List.filter_append, hf]
section
variable {Φ : PyData → Bool → Prop} {k : Int} {z1 z2 : Bool}
theorem ix_mem (n : Nat) (h0 : 0 ≤ k) (h1 : k < n) {xs : List PyData} (hp : ∀ x ∈ xs, Φ x true) (hn : xs.length = n := by rfl) : IxP Φ (.list xs) z1 (.int k) z2 := by
  have hl : k.toNat < xs.length := by omega
  exact .lst (hp _ (List.getElem_mem hl)) (at_nat h0 (by simp [hl]))
end
theorem ne_b (b : Bool) : (!decide (b = b)) = false := by simp
end TL
namespace TL
open PySem PySem.Spec PyProof.Rows L2
theorem dp_key {K : Frag} {F : Hp} (k : Key) : Dq K F (kV k) (kD k) := by
  cases k with
  | inl i => exact .int i
  | inr s => exact .str s
theorem dpa_key {K : Frag} {F : Hp} : ∀ k : List Key, DqAll K F (k.map kV) (k.map kD)
  | [] => .nil
  | x :: r => .cons (dp_key x) (dpa_key r)
theorem key_eq {K : Frag} {F : Hp} {v : V} {k : Key} (h : Dq K F v (kD k)) : v = kV k := by
  cases k with
  | inl i => exact dp_int h
  | inr s => exact dp_str h
theorem keys_eq {K : Frag} {F : Hp} : ∀ {k : List Key} {vs : List V}, DqAll K F vs (k.map kD) → vs = k.map kV
  | [], _, h => by
    have h' : DqAll K F _ [] := h
    cases h'; rfl
  | x :: r, _, h => by
    have h' : DqAll K F _ (kD x :: r.map kD) := h
    cases h' with
    | cons h1 h2 => rw [key_eq h1, keys_eq h2]; rfl
section
variable {κ : Type} [DecidableEq κ]
def putP (kvs : List (κ × PyData)) (k : κ) (d : PyData) : List (κ × PyData) := if (kvs.any fun kv => decide (kv.1 = k)) = true then kvs.map (fun kv => if kv.1 = k then (kv.1, d) else kv) else kvs ++ [(k, d)]
def valP (kvs : List (κ × PyData)) (k : κ) : Option PyData := (kvs.find? fun kv => decide (kv.1 = k)).map (·.2)
variable {K : Frag} {F : Hp}
theorem kvp_any {k : κ} : ∀ {xs : List (κ × V)} {kvs : List (κ × PyData)}, KVp K F xs kvs → (xs.any fun kv => decide (kv.1 = k)) = kvs.any fun kv => decide (kv.1 = k)
  | _, _, .nil => rfl
  | _, _, .cons h t => by
    rw [List.any_cons, List.any_cons, kvp_any t, h.1]
theorem kvp_map {k : κ} {v : V} {d : PyData} (hd : Dq K F v d) : ∀ {xs : List (κ × V)} {kvs : List (κ × PyData)}, KVp K F xs kvs → KVp K F (xs.map fun kv => if kv.1 = k then (kv.1, v) else kv) (kvs.map fun kv => if kv.1 = k then (kv.1, d) else kv)
  | _, _, .nil => .nil
  | (k1, v1) :: _, (k2, d2) :: _, .cons h t => by
    obtain ⟨h1, h2⟩ := h
    have h1 : k1 = k2 := h1
    subst h1
    refine .cons ?_ (kvp_map hd t)
    show (if k1 = k then (k1, v) else (k1, v1)).1 = (if k1 = k then (k1, d) else (k1, d2)).1 ∧ Dq K F (if k1 = k then (k1, v) else (k1, v1)).2 (if k1 = k then (k1, d) else (k1, d2)).2
    by_cases e : k1 = k
    · rw [if_pos e, if_pos e]; exact ⟨rfl, hd⟩
    · rw [if_neg e, if_neg e]; exact ⟨rfl, h2⟩
theorem kvp_app {v : V} {k : κ} {d : PyData} (hd : Dq K F v d) : ∀ {xs : List (κ × V)} {kvs : List (κ × PyData)}, KVp K F xs kvs → KVp K F (xs ++ [(k, v)]) (kvs ++ [(k, d)])
  | _, _, .nil => .cons ⟨rfl, hd⟩ .nil
  | _, _, .cons h t => .cons h (kvp_app hd t)
theorem kvp_put {xs : List (κ × V)} {kvs : List (κ × PyData)} {k : κ} {v : V} {d : PyData} (h : KVp K F xs kvs) (hd : Dq K F v d) : KVp K F (putK xs k v) (putP kvs k d) := by
  unfold putK putP
  rw [kvp_any h]
  by_cases e : (kvs.any fun kv => decide (kv.1 = k)) = true
  · rw [if_pos e, if_pos e]; exact kvp_map hd h
  · rw [if_neg e, if_neg e]; exact kvp_app hd h
theorem kvp_len : ∀ {xs : List (κ × V)} {kvs : List (κ × PyData)}, KVp K F xs kvs → xs.length = kvs.length
  | _, _, .nil => rfl
  | _, _, .cons _ t => congrArg Nat.succ (kvp_len t)
theorem putP_new {kvs : List (κ × PyData)} {k : κ} {d : PyData} (h : ∀ kv ∈ kvs, kv.1 ≠ k) : putP kvs k d = kvs ++ [(k, d)] := by
  unfold putP
  rw [if_neg]
  intro z
  obtain ⟨kv, h1, h2⟩ := List.any_eq_true.mp z
  exact h kv h1 (of_decide_eq_true h2)
end
section
variable {X : Cx} {g : G} {env env' : List Sl} {Ψ : Exc → Prop} {P : Po} {pos p lp : Pos} {a b c e : Expr} {es : List Expr} {rest body : List Stmt} {K : Frag} {F F' H H' : Hp} {σ σ' : SS}
theorem St.setT {i : Nat} {q : Addr} {xs : List (List Key × V)} {kvs : List (List Key × PyData)} (st : St K g F H σ env) (hi : i < env.length) (hH : H q = some (.dT xs)) (hd : KVp K F xs kvs) (hF : F q = none) (hn : ¬ Own env q) (h0 : g.H0 q = none) :
    St K g F H (σ.set i (some (.ref q))) (env.set i (.dt q kvs)) := by
  have one : ∀ b ∈ (Sl.dt q kvs).fp, b = q := fun b hb => by simpa [Sl.fp] using hb
  exact st.set (s := .dt q kvs) hi ⟨rfl, xs, hH, hd⟩ (fun b hb => by rw [one b hb]; exact hF) (fun b hb j t _ e ht => hn ⟨j, t, e, by rw [← one b hb]; exact ht⟩) (fun b hb => by rw [one b hb]; exact .inl h0)
/-- x = {} -/
theorem w1_newT (i : Nat) {x : Str} {pos' dp : Pos} (hN : X.N.Nodup) (h : ∀ q, q ∉ g.M → P.nx (env.set i (.dt q []))) (hi : X.N[i]? = some x := by rfl) (hx : Loc X.env.scope x := by first | exact Or.inl rfl | exact Or.inr rfl) (hl : Nat.blt i env.length = true := by rfl)
    (hs : swapsWith (.Dict [] [] dp) (some (.Name x pos')) pos.line X.env = pure false := by rfl) (hf : X.fn x = true ∨ X.env.scope.names.lookup x = some .local := by first | exact .inl rfl | exact .inr rfl) : W1 X g (.Assign [.Name x pos'] (.Dict [] [] dp) pos) env P := fun W tk hx2 σ F H s0 D hD => by
  refine semP_of (ps_set hN hi hx pe_dnewT hs hf) fun q hn => ?_
  have s1 := s0.alloc (o := .dT []) hn
  exact hD.nx _ _ F _ (h q fun m => s1.g6 q m (s0.h0 hn)) (s1.setT (ltB hl) upd_same .nil (s0.ex.none hn) (s0.toSk.notown hn) (s0.h0 hn)) (Ex.refl F)
/-- return x, x a dict made here -/
theorem w1_retT (i : Nat) {x : Str} {q : Pos} {al : Addr} {kvs : List (List Key × PyData)} (he : env[i]? = some (.dt al kvs)) (ha : al ∉ g.M) (h : P.rt (.nt kvs) (env.set i .un)) (hN : X.N[i]? = some x := by rfl)
    (hv : Vis X.env.scope x := by first | exact Or.inl rfl | exact Or.inr (Or.inl rfl) | exact Or.inr (Or.inr rfl)) (hd : (x == ("__debug__" : Str)) = false := by decide)
    (hcd : (x == ("__classdict__" : Str)) = false := by decide) : W1 X g (.Return (some (.Name x q)) pos) env P := fun W tk hx2 σ F H s0 D hD => by
  refine semP_of (ps_ret (pe_var hN hv hd hcd)) ?_
  obtain ⟨h1, vs, h2, h3⟩ := s0.sl i _ he
  have own : Own env al := ⟨i, _, he, by simp [Sl.fp]⟩
  refine ⟨_, getD_some h1, hD.rt _ _ _ σ F H h (s0.weak he (fun _ h => by cases h) fun _ => trivial) ⟨al, vs, rfl, h2, h3, s0.fr al own, fun z => ?_, ?_⟩⟩
  · obtain ⟨j, t, ej, ht⟩ := z
    rcases set_get ej with ⟨_, rfl⟩ | ⟨ne, ej⟩
    · cases ht
    · exact ne (s0.nd i j _ t al he ej (by simp [Sl.fp]) ht)
  · rcases s0.g2 al own with z | z
    · exact z
    · exact absurd z ha
/-- a new dict as an expression -/
def WDt (X : Cx) (g : G) (e : Expr) (env : List Sl) (Φ : List (List Key × PyData) → Prop) (Ψ : Exc → Prop) : Prop :=
  ∀ (W : WX), Takes X W → ∀ (σ : SS) (F H : Hp), St X.K g F H σ env → HX X g env Ψ W σ →
    ∀ Q : VK, (∀ kvs v F' H', Φ kvs → St X.K g F' H' σ env → Ex F F' → NewT X.K g F' H' env v kvs → Q v H') → semE X e σ H Q
theorem wd_call {j k : Nat} {x : Str} {ps : List Str} {S : CT} {Φ : List (List Key × PyData) → Prop} (hf : Has X.prog X.w X.K X.mg X.base j x ps S) (hr : Room k X.A)
    (h : WAs X g (e :: es) env (fun as => callOk as ps.length env.length = true ∧ S (as.map (slOf env)) (fun r args' => args' = as.map (slOf env) ∧ ∃ kvs, r = .nt kvs ∧ Φ kvs) (fun c args' => args' = as.map (slOf env) ∧ Ψ c)) Ψ)
    (hj : j ≤ k := by omega) (hg : Gl X x := by rfl) (hdb : (x == ("__debug__" : Str)) = false := by decide)
    (he : starEach (e :: es) X.env = (false, eval e X.env) :: starEach es X.env := by rfl) (hpl : (backTo pos (starEach es X.env)).any (·.1) = false := by rfl) : WDt X g (.Call (.Name x p) (e :: es) [] pos) env Φ Ψ := fun W tk σ F H st hx Q hQ => by
  refine call_run (Φ := fun r => ∃ kvs, r = .nt kvs ∧ Φ kvs) hf hr h hj hg hdb he hpl tk st hx fun r vs v F1 H1 F' H' args' ⟨kvs, hd, hp⟩ s' e' s1 pr => ?_
  subst hd
  obtain ⟨q, xs, rfl, h1, h2, h3, h4, h5⟩ := pr
  exact hQ kvs (.ref q) F' H' hp s' e' ⟨q, xs, rfl, h1, h2, h3, fun z => s1.there z h4, s1.h0 h4⟩
/-- x = a new dict -/
theorem w1_setT (i : Nat) {x : Str} {pos' : Pos} (hN : X.N.Nodup) (h : WDt X g e env (fun kvs => ∀ q, q ∉ g.M → P.nx (env.set i (.dt q kvs))) (fun c => P.ex c env)) (hi : X.N[i]? = some x := by rfl) (hx : Loc X.env.scope x := by first | exact Or.inl rfl | exact Or.inr rfl) (hl : Nat.blt i env.length = true := by rfl)
    (hs : swapsWith e (some (.Name x pos')) pos.line X.env = pure false := by rfl) (hf : X.fn x = true ∨ X.env.scope.names.lookup x = some .local := by first | exact .inl rfl | exact .inr rfl) : W1 X g (.Assign [.Name x pos'] e pos) env P := fun W tk hx2 σ F H s0 D hD => by
  refine semP_of (ps_set hN hi hx (peS e) hs hf) ?_
  refine h W tk σ F H s0 (hx2.hx env σ) _ fun kvs v F' H' hp s' e' ⟨q, xs, hv, h1, h2, h3, h4, h5⟩ => ?_
  subst hv
  exact hD.nx _ _ F' H' (hp q fun m => s'.g6 q m h5) (s'.setT (ltB hl) h1 h2 h3 h4 h5) e'
theorem keys_dpa {kvs : List (List Key × PyData)} (tf : ∀ (a : Addr) (vs : List V), H a = some (.tup vs) → F a = some (.tup vs)) : ∀ {xs : List (List Key × V)} {kvs : List (List Key × PyData)} {bs : List Addr}, KVp K F xs kvs → IsKeys H xs bs → DqAll K F (bs.map V.ref) (kvs.map fun kv => .tuple (kv.1.map kD))
  | _, _, _, .nil, h => by cases h; exact .nil
  | (k1, v1) :: _, (k2, d2) :: _, _, .cons h t, h2 => by
    cases h2 with
    | cons h3 h4 =>
      obtain ⟨h5, _⟩ := h
      have h5 : k1 = k2 := h5
      subst h5
      exact .cons (.tup (tf _ _ h3) (dpa_key k1)) (keys_dpa (kvs := kvs) tf t h4)
/-- list(..) of a new dict: its keys -/
theorem wn_listT {Φ : List PyData → Prop} (hm : X.mg "list" = none) (hc : X.calm = true) (h : WDt X g a env (fun kvs => Φ (kvs.map fun kv => .tuple (kv.1.map kD))) Ψ) (hg : Gl X "list" := by rfl) (he : starEach [a] X.env = (false, eval a X.env) :: starEach [] X.env := by rfl) (hpl : (backTo pos (starEach ([] : List Expr) X.env)).any (·.1) = false := by rfl) : WN X g (.Call (.Name "list" p) [a] [] pos) env Φ Ψ := fun W tk σ F H st hx Q hQ => by
  refine semE_of (pe_callTy (call_list_dT hc) hg hm (by decide +kernel) (pa_cons (peS a) pa_nil he) (by decide) (by decide) he hpl) ?_
  refine h W tk σ F H st hx _ fun kvs v F1 H1 hp s1 e1 ⟨q, xs, hv, h1, h2, h3, h4, h5⟩ => ?_
  subst hv
  refine ⟨q, xs, rfl, .inl h1, fun pn bs hn hb => ?_⟩
  exact put_new s1 hn (keys_dpa (kvs := kvs) s1.tf h2 hb) hp fun ds v F' H' hp s e r => hQ ds v F' H' hp s (e1.trans e) r
end
end TL
namespace TL
open PySem PySem.Spec PyProof.Rows L2
open Sem (wp)
def DGetS (K : Frag) (H : Hp) (a : Addr) (y : V) (r : Option V) : Prop :=
  DGet H a y r ∨ ∃ kvs k b, L2.Rd H a (.dT kvs) ∧ y = .ref b ∧ SqT K H b (k.map kV) ∧ r = valV kvs k
theorem DGetS.k {K : Frag} {H : Hp} {a : Addr} {kvs : List (Key × V)} {k : Key} (e : H a = some (.dK kvs)) : DGetS K H a (kV k) (valV kvs k) := .inl (DGet.k e)
theorem DGetS.t {K : Frag} {H : Hp} {a b : Addr} {kvs : List (List Key × V)} {k : List Key} (e : H a = some (.dT kvs)) (eb : SqT K H b (k.map kV)) : DGetS K H a (.ref b) (valV kvs k) := .inr ⟨kvs, k, b, .inl e, rfl, eb, rfl⟩
section
variable {X : Cx} {pins : List (Addr × Obj)} {σ : L2.St} {H : Hp} {s : Shared} {a : Addr} {y v d : V} {u r : Value} {o : Option V} {A : Around} {E : Value → Shared → Prop}
theorem keyS_of {b : Addr} {k : List Key} (I : Inv X pins σ H s) (h : SqT X.K H b (k.map kV)) : (tupleKind (mixKind X.prog X.w)).is s.heap k b := by
  obtain ⟨its, r, ⟨o, h1, h2, n, h3⟩, _⟩ := I.tuple h
  exact ⟨o, its.toArray, n, h1, h2, h3, by simpa using items_are r⟩
theorem dS_getItem {Q : Value → Shared → Prop} (hu : A.units + 1 < cLine) (I : Inv X pins σ H s) (g : DGetS X.K H a y (some v)) (ry : RelV y u) (h : ∀ w' s', Inv X pins σ H s' → RelV v w' → Q w' s') :
    wpAny (model X.prog X.w) A (getItem (.ref a) u) Q E s := by
  rcases g with g | ⟨kvs, k, b, e, ey, eb, l⟩
  · exact d_getItem hu I g ry h
  · subst ey
    cases (show u = Value.ref b from ry)
    obtain ⟨z, hd, xs, rel, dd⟩ := dt_rd I.hok e
    obtain ⟨w', hw, rw'⟩ := RelO.some_of (v := v) (o := (atKey xs k).map (·.2)) (by rw [l]; exact rel.val k)
    obtain ⟨p, hp, hp2⟩ := Option.map_eq_some_iff.mp hw
    refine wpAny_getItem_heap (tupleKind_room_in1 hu) (keyS_of I eb) dd hp ?_
    rw [hp2]
    exact h w' _ (I.tok _) rw'
theorem dS_in {Q : Value → Shared → Prop} (hu : A.units + 1 < cLine) (I : Inv X pins σ H s) (g : DGetS X.K H a y o) (ry : RelV y u) (h : ∀ s', Inv X pins σ H s' → Q (.bool o.isSome) s') :
    wpAny (model X.prog X.w) A (compareOp .In u (.ref a)) Q E s := by
  rcases g with g | ⟨kvs, k, b, e, ey, eb, l⟩
  · exact d_in hu I g ry h
  · subst ey
    cases (show u = Value.ref b from ry)
    obtain ⟨z, hd, xs, rel, dd⟩ := dt_rd I.hok e
    refine wpAny_in_heap (tupleKind_room_in1 hu) (keyS_of I eb) hd dd ?_
    have q := (rel.val k).isSome_eq
    rw [Option.isSome_map] at q
    rw [← q, ← l]
    exact h _ (I.tok _)
theorem dS_notIn {Q : Value → Shared → Prop} (hu : A.units + 1 < cLine) (I : Inv X pins σ H s) (g : DGetS X.K H a y o) (ry : RelV y u) (h : ∀ s', Inv X pins σ H s' → Q (.bool (!o.isSome)) s') :
    wpAny (model X.prog X.w) A (compareOp .NotIn u (.ref a)) Q E s := by
  rcases g with g | ⟨kvs, k, b, e, ey, eb, l⟩
  · exact d_notIn hu I g ry h
  · subst ey
    cases (show u = Value.ref b from ry)
    obtain ⟨z, hd, xs, rel, dd⟩ := dt_rd I.hok e
    refine wpAny_notIn_heap (tupleKind_room_in1 hu) (keyS_of I eb) hd dd ?_
    have q := (rel.val k).isSome_eq
    rw [Option.isSome_map] at q
    rw [← q, ← l]
    exact h _ (I.tok _)
theorem dS_typeIs (I : Inv X pins σ H s) (g : DGetS X.K H a y o) : s.TypeIs (.ref a) "dict" := by
  rcases g with g | ⟨kvs, k, b, e, _, _, _⟩
  · exact dict_typeIs I g
  · obtain ⟨_, _, xs, _, dd⟩ := dt_rd I.hok e
    exact dd.typeIs
end
def tDGetS (K : Frag) (td ty : TE) : TE := fun σ H Q => td σ H fun x H1 => ty σ H1 fun y H2 => ∃ a v, x = .ref a ∧ DGetS K H2 a y (some v) ∧ Q v H2
def tDInS (K : Frag) (ty td : TE) : TE := fun σ H Q => ty σ H fun y H1 => td σ H1 fun x H2 => ∃ a o, x = .ref a ∧ DGetS K H2 a y o ∧ Q (.bl o.isSome) H2
def tDNotInS (K : Frag) (ty td : TE) : TE := fun σ H Q => ty σ H fun y H1 => td σ H1 fun x H2 => ∃ a o, x = .ref a ∧ DGetS K H2 a y o ∧ Q (.bl (!o.isSome)) H2
section
variable {X : Cx} {o i e f : Expr} {pos apos cpos : Pos} {td ty tx : TE}
theorem pe_dgetS (hu : X.A.units + 1 < cLine) (ho : PE X o td) (hi : PE X i ty) (hs : NoSl i) : PE X (.Subscript o i pos) (tDGetS X.K td ty) := by
  refine ⟨fun pins s σ H Q I h => ?_⟩
  refine subD_of PySem.F.slot_dict_getitem.lookup hs (thn (ho.run pins s σ H _ I h) fun u s1 ⟨x, H1, I1, rx, q1⟩ => thn (hi.run pins s1 σ H1 _ I1 q1) fun iv s2 ⟨y, H2, I2, ry, a, v, ex, g, q2⟩ => ?_)
  subst ex
  obtain rfl : u = Value.ref a := rx
  exact ⟨dS_typeIs I2 g, dS_getItem hu I2 g ry fun w' s3 I3 rw' => ⟨v, H2, I3, rw', q2⟩⟩
theorem pc_dinS (hu : X.A.units + 1 < cLine) (hi : PE X i ty) (ho : PE X o td) : PC X .In i o (tDInS X.K ty td) := by
  refine ⟨fun pins s σ H Q I h => ?_⟩
  refine thn (hi.run pins s σ H _ I h) fun iv s1 ⟨y, H1, I1, ry, q1⟩ => thn (ho.run pins s1 σ H1 _ I1 q1) fun u s2 ⟨x, H2, I2, rx, a, ov, ex, g, q2⟩ => ?_
  subst ex
  obtain rfl : u = Value.ref a := rx
  exact dS_in hu I2 g ry fun s3 I3 => ⟨.bl ov.isSome, H2, I3, rfl, q2⟩
theorem pc_dnotinS (hu : X.A.units + 1 < cLine) (hi : PE X i ty) (ho : PE X o td) : PC X .NotIn i o (tDNotInS X.K ty td) := by
  refine ⟨fun pins s σ H Q I h => ?_⟩
  refine thn (hi.run pins s σ H _ I h) fun iv s1 ⟨y, H1, I1, ry, q1⟩ => thn (ho.run pins s1 σ H1 _ I1 q1) fun u s2 ⟨x, H2, I2, rx, a, ov, ex, g, q2⟩ => ?_
  subst ex
  obtain rfl : u = Value.ref a := rx
  exact dS_notIn hu I2 g ry fun s3 I3 => ⟨.bl (!ov.isSome), H2, I3, rfl, q2⟩
end
end TL
namespace TL
open PySem PySem.Spec PyProof.Rows L2
structure SemI (X : Cx) (tg iter : Expr) (σ : SS) (H : Hp) (R : It → Hp → Prop) : Prop where
  run : ∀ (pins : List (Addr × Obj)) (s : Shared), Inv X pins σ H s →
    wpAny (model X.prog X.w) X.A (eval iter X.env) (fun v s1 => wpAny (model X.prog X.w) X.A (pyIter v) (PIE X pins σ tg R) X.xe s1) X.xe s
def semI (X : Cx) (tg iter : Expr) : TI := fun σ H R => SemI X tg iter σ H R
def ItOk (K : Frag) (J : It) (xs : List PyData) (F : Hp) : Prop := ∃ (G : Hp → Prop) (Y : Nat → Hp → V → Hp → Prop), Walk J xs.length G Y ∧ (∀ H, Ex F H → G H) ∧
  ∀ i d, xs[i]? = some d → ∀ H v H', Y i H v H' → ∀ g F1 σ env, St K g F1 H σ env → Ex F F1 → ∃ F2, St K g F2 H' σ env ∧ Ex F1 F2 ∧ Dq K F2 v d ∧ Ex H H' ∧ ∀ a, F2 a ≠ none → F1 a ≠ none ∨ H a = none
def WI (X : Cx) (g : G) (tg iter : Expr) (env : List Sl) (Φ : List PyData → Prop) (Ψ : Exc → Prop) : Prop :=
  ∀ (W : WX), Takes X W → ∀ (σ : SS) (F H : Hp), St X.K g F H σ env → HX X g env Ψ W σ →
    ∀ R : It → Hp → Prop, (∀ xs J F' H', Φ xs → xs.length ≤ sizeLine → St X.K g F' H' σ env → Ex F F' → ItOk X.K J xs F' → R J H') → semI X tg iter σ H R
section
variable {X : Cx} {g : G} {env env' : List Sl} {Ψ : Exc → Prop} {P : Po} {pos p lp : Pos} {a b c e tg iter : Expr} {es : List Expr} {rest body : List Stmt} {K : Frag} {F F' H H' : Hp} {σ σ' : SS}
theorem piS : PI X tg iter (semI X tg iter) := ⟨fun pins s σ H R I h => h.run pins s I⟩
theorem semI_of {wi : TI} (h : PI X tg iter wi) {R : It → Hp → Prop} (q : wi σ H R) : semI X tg iter σ H R := ⟨fun pins s I => h.run pins s σ H R I q⟩
def iAny (K : Frag) (tl : TE) : TI := fun σ H R => tl σ H fun x H1 => (∃ a xs, x = .ref a ∧ SqL K H1 a xs ∧ (xs.length ≤ sizeLine → R (Itl K a) H1)) ∨ (∃ a xs, x = .ref a ∧ SqT K H1 a xs ∧ (xs.length ≤ sizeLine → R (Itt K a) H1)) ∨ ∃ z, x = .str z ∧ R (Its z) H1
theorem pi_any {l : Expr} {tl : TE} (hl : PE X l tl) : PI X tg l (iAny X.K tl) := by
  refine ⟨fun pins s σ H R I h => ?_⟩
  refine thn (hl.run pins s σ H _ I h) fun v s1 ⟨x, H1, I1, r1, q1⟩ => ?_
  rcases q1 with ⟨a, xs, e, hq, q⟩ | ⟨a, xs, e, hq, q⟩ | ⟨z, e, q⟩
  · subst e
    cases r1
    obtain ⟨its, rv, p, hz⟩ := I1.list hq
    refine wpAny_pyIter_list p.isList ?_
    refine ⟨s1.heap.objs.size, [s1.heap.objs.size], _, _, H1, rfl, I1.kept (t' := s1.toks) fun b o e => Heap.get?_push_of_some _ e, turn_list a _, ⟨_, Heap.get?_push_size _ rfl, rfl, rfl⟩, fun b hb => ?_, q hz⟩
    have e : b = s1.heap.objs.size := by simpa using hb
    subst e
    exact I1.fpOk (Nat.le_refl _) (I1.hok.fresh (Nat.le_refl _))
  · subst e
    cases r1
    obtain ⟨its, rv, p, hz⟩ := I1.tuple hq
    refine wpAny_pyIter_tuple (show s1.heap.IsTuple a its.toArray from p) ?_
    refine ⟨s1.heap.objs.size, [s1.heap.objs.size], _, _, H1, rfl, I1.kept (t' := s1.toks) fun b o e => Heap.get?_push_of_some _ e, turn_tuple a _, ⟨_, Heap.get?_push_size _ rfl, rfl, rfl⟩, fun b hb => ?_, q hz⟩
    have e : b = s1.heap.objs.size := by simpa using hb
    subst e
    exact I1.fpOk (Nat.le_refl _) (I1.hok.fresh (Nat.le_refl _))
  · subst e
    obtain ⟨t, rfl⟩ := r1
    cases ha : z.cps.all (· < 128)
    · exact wpAny_pyIter_wide ha (pi_one (tk := s1.toks) I1 _ (turn_str _ z t "str_iterator" (.inr rfl)) ⟨_, Heap.get?_push_size _ rfl, rfl, rfl⟩ q)
    · exact wpAny_pyIter_ascii ha (pi_one (tk := s1.toks) I1 _ (turn_str _ z t "str_ascii_iterator" (.inl rfl)) ⟨_, Heap.get?_push_size _ rfl, rfl, rfl⟩ q)
def sgn (c : Nat) : PyData := .str ⟨#[c]⟩
/-- the items of data -/
def itM : PyData → (List PyData → Prop) → Prop
  | .list xs, K => K xs
  | .tuple xs, K => K xs
  | .str s, K => s.cps.size ≤ sizeLine ∧ K (s.cps.toList.map sgn)
  | _, _ => False
theorem itok_at {xs : List PyData} {vs : List V} {J : It} {G : Hp → Prop} (w : Walk J vs.length G (YAt vs)) (hG : ∀ H, Ex F H → G H) (h : DqAll K F vs xs) : ItOk K J xs F := by
  refine ⟨G, YAt vs, by rw [← dpa_len h]; exact w, hG, fun i d hd H v H' ⟨y1, y2⟩ g F1 σ env st e1 => ?_⟩
  subst y1
  obtain ⟨v', h1, h2⟩ := dpa_get h hd
  rw [y2] at h1
  cases h1
  exact ⟨F1, st, Ex.refl F1, dp_mono e1 _ _ h2, Ex.refl _, fun a h => .inl h⟩
theorem itok_str {z : Str} : ItOk K (Its z) (z.cps.toList.map sgn) F := by
  refine ⟨_, _, by rw [List.length_map, Array.length_toList]; exact walk_str, fun _ _ => trivial, fun i d hd H v H' hy g F1 σ env st e1 => ?_⟩
  obtain ⟨y1, c, y2, y3⟩ := hy
  subst y1 y3
  obtain ⟨c', h1, rfl⟩ := map_get hd
  rw [Array.getElem?_toList, y2] at h1
  cases h1
  exact ⟨F1, st, Ex.refl F1, .str _, Ex.refl _, fun a h => .inl h⟩
theorem wi_d {Φ : List PyData → Prop} (h : WE X g iter env (fun d z => z = true ∧ itM d Φ) Ψ) : WI X g tg iter env Φ Ψ := fun W tk σ F H st hx R hR => by
  refine semI_of (pi_any (peS iter)) ?_
  refine h W tk σ F H st hx _ fun d z v F1 H1 ⟨hz, hi⟩ s1 e1 rd => ?_
  subst hz
  cases d with
  | list xs =>
    obtain ⟨a, vs, rfl, hsq, hda⟩ := dp_lst rd
    have hi : Φ xs := hi
    exact .inl ⟨a, vs, rfl, ex_l s1.ex hsq, fun hl => hR xs _ F1 H1 hi (by rw [← dpa_len hda]; exact hl) s1 e1 (itok_at walk_list (fun H eH => ex_l eH hsq) hda)⟩
  | tuple xs =>
    obtain ⟨a, vs, rfl, hsq, hda⟩ := dp_tup rd
    have hi : Φ xs := hi
    exact .inr (.inl ⟨a, vs, rfl, ex_t s1.ex hsq, fun hl => hR xs _ F1 H1 hi (by rw [← dpa_len hda]; exact hl) s1 e1 (itok_at walk_tup (fun H eH => ex_t eH hsq) hda)⟩)
  | str s =>
    obtain ⟨hl, hi⟩ : s.cps.size ≤ sizeLine ∧ Φ (s.cps.toList.map sgn) := hi
    have e := dp_str rd
    subst e
    exact .inr (.inr ⟨s, rfl, hR _ _ F1 H1 hi (by rw [List.length_map, Array.length_toList]; exact hl) s1 e1 itok_str⟩)
  | none => exact hi.elim
  | bool b => exact hi.elim
  | int i => exact hi.elim
  | dict k => exact hi.elim
def rangeL (lo hi : Int) : List PyData := (List.range (hi - lo).toNat).map fun i => .int (lo + (i : Nat))
theorem itok_rng {lo hi : Int} : ItOk K (Itr lo (hi - lo).toNat) (rangeL lo hi) F := by
  refine ⟨_, _, by unfold rangeL; rw [List.length_map, List.length_range]; exact walk_range, fun _ _ => trivial, fun i d hd H v H' hy g F1 σ env st e1 => ?_⟩
  obtain ⟨y1, y2⟩ := hy
  subst y1 y2
  obtain ⟨j, h1, rfl⟩ := map_get hd
  have hj := (List.getElem?_eq_some_iff.mp h1)
  have hj : i = j := by
    obtain ⟨h3, h4⟩ := hj
    simpa using h4
  subst hj
  exact ⟨F1, st, Ex.refl F1, .int _, Ex.refl _, fun a h => .inl h⟩
def rngM : PyData → PyData → (List PyData → Prop) → Prop
  | .int lo, .int hi, K => (-1000000 ≤ lo ∧ lo ≤ 1000000 ∧ -1000000 ≤ hi ∧ hi ≤ 1000000) ∧ K (rangeL lo hi)
  | _, _, _ => False
theorem range_len {lo hi : Int} (h : -1000000 ≤ lo ∧ lo ≤ 1000000 ∧ -1000000 ≤ hi ∧ hi ≤ 1000000) : (rangeL lo hi).length ≤ sizeLine := by
  unfold rangeL
  rw [List.length_map, List.length_range, sizeLine_eq]
  omega
theorem wi_r2 {Φ : List PyData → Prop} {p1 p2 : Pos} (hm : X.mg "range" = none) (h : WE X g a env (fun d1 _ => WE X g b env (fun d2 _ => rngM d1 d2 Φ) Ψ) Ψ) (hg : Gl X "range" := by rfl)
    (he : starEach [a, b] X.env = [(false, eval a X.env), (false, eval b X.env)] := by rfl) (he2 : starEach [b] X.env = [(false, eval b X.env)] := by rfl) : WI X g tg (.Call (.Name "range" p1) [a, b] [] p2) env Φ Ψ := fun W tk σ F H st hx R hR => by
  refine semI_of (pi_range2 hg hm (pa_cons (peS a) (pa_cons (peS b) pa_nil (by rw [he2]; rfl)) (by rw [he, he2])) he he2) ?_
  refine h W tk σ F H st hx _ fun d1 z1 v1 F1 H1 h1 s1 e1 r1 => ?_
  refine h1 W tk σ F1 H1 s1 hx _ fun d2 z2 v2 F2 H2 h2 s2 e2 r2 => ?_
  cases d1 with
  | int i =>
    cases d2 with
    | int j =>
      obtain ⟨hb, hi⟩ : (-1000000 ≤ i ∧ i ≤ 1000000 ∧ -1000000 ≤ j ∧ j ≤ 1000000) ∧ Φ (rangeL i j) := h2
      rw [rd_int r1, rd_int r2]
      exact ⟨i, j, rfl, by omega, hR _ _ F2 H2 hi (range_len hb) s2 (e1.trans e2) itok_rng⟩
    | _ => exact h2.elim
  | _ => cases d2 <;> exact h2.elim
theorem wi_r1 {Φ : List PyData → Prop} {p1 p2 : Pos} (hm : X.mg "range" = none) (h : WE X g a env (fun d1 _ => rngM (.int 0) d1 Φ) Ψ) (hg : Gl X "range" := by rfl)
    (he : starEach [a] X.env = [(false, eval a X.env)] := by rfl) : WI X g tg (.Call (.Name "range" p1) [a] [] p2) env Φ Ψ := fun W tk σ F H st hx R hR => by
  refine semI_of (pi_range1 hg hm (pa_cons (peS a) pa_nil (by rw [he]; rfl)) he) ?_
  refine h W tk σ F H st hx _ fun d2 z2 v2 F2 H2 h2 s2 e2 r2 => ?_
  cases d2 with
  | int j =>
    obtain ⟨hb, hi⟩ : (-1000000 ≤ (0 : Int) ∧ (0 : Int) ≤ 1000000 ∧ -1000000 ≤ j ∧ j ≤ 1000000) ∧ Φ (rangeL 0 j) := h2
    rw [rd_int r2]
    have := itok_rng (K := X.K) (F := F2) (lo := 0) (hi := j)
    rw [Int.sub_zero] at this
    exact ⟨j, rfl, by omega, by omega, hR _ _ F2 H2 hi (range_len hb) s2 e2 this⟩
  | _ => exact h2.elim
def enumL (xs : List PyData) : List PyData := xs.mapIdx fun i x => .tuple [.int (i : Nat), x]
def iEnA (K : Frag) (ta : TA) : TI := fun σ H R => ta σ H fun vs H1 => ∃ a xs, vs = [.ref a] ∧ ((SqL K H1 a xs ∧ (xs.length ≤ sizeLine → R (Ite K a) H1)) ∨ (SqT K H1 a xs ∧ (xs.length ≤ sizeLine → R (EnT K a) H1)))
theorem pi_enA {ta : TA} {tpos : Pos} {elts : List Expr} {kk : Nat} (hg : Gl X "enumerate") (hm : X.mg "enumerate" = none) (ha : PA X [e] ta) (hs : starEach [e] X.env = [(false, eval e X.env)] := by rfl) :
    PI X (.Tuple elts kk tpos) (.Call (.Name "enumerate" p) [e] [] pos) (iEnA X.K ta) := by
  refine ⟨fun pins s σ H R I h => ?_⟩
  refine Call_ (ld_blt I hg hm boot_enumerate (PyProof.Rows.callWith_type1 (thn (ha.run pos pins s σ H _ I h) fun us s1 ⟨vs, H1, I1, r1, q1⟩ => ?_) hs rfl))
  obtain ⟨a, xs, ex, hq | hq⟩ := q1
  · subst ex
    obtain ⟨hq, q⟩ := hq
    cases r1 with
    | cons r rr =>
      cases rr
      cases r
      obtain ⟨its, rv, p', hz⟩ := I1.list hq
      refine call_enumerate_list p'.isList fun h' he hit hsz hk => wpAny_pyIter_enum he ?_
      have I2 : Inv X pins σ H1 { s1 with heap := h' } := I1.kept (t' := s1.toks) hk
      refine ⟨s1.heap.objs.size + 1, [s1.heap.objs.size + 1, s1.heap.objs.size], _, _, H1, rfl, I2, turn_enum a (s1.heap.objs.size + 1) s1.heap.objs.size, ⟨⟨.none, he⟩, hit, Nat.succ_ne_self _⟩, fun b hb => ?_, q hz⟩
      have e' : b = s1.heap.objs.size + 1 ∨ b = s1.heap.objs.size := by simpa using hb
      have hle : s1.heap.objs.size ≤ b := by
        rcases e' with z | z
        · rw [z]; exact Nat.le_succ _
        · rw [z]; exact Nat.le_refl _
      exact I1.fpOk hle (I1.hok.fresh hle)
  · subst ex
    obtain ⟨sq, q⟩ := hq
    cases r1 with
    | cons r rr =>
      cases rr
      cases r
      obtain ⟨its, rv, pt, hz⟩ := I1.tuple sq
      refine enu_call (begins_tuple a its.toArray) pt fun h' en iv keep => wpAny_pyIter_enum en ?_
      have I2 : Inv X pins σ H1 { s1 with heap := h' } := I1.kept (t' := s1.toks) keep
      refine ⟨s1.heap.objs.size + 1, [s1.heap.objs.size + 1, s1.heap.objs.size], _, _, H1, rfl, I2, turn_en a (s1.heap.objs.size + 1) s1.heap.objs.size, ⟨⟨.none, en⟩, ⟨_, iv, rfl, rfl⟩, Nat.succ_ne_self _⟩, fun b hb => ?_, q hz⟩
      have hb2 : b = s1.heap.objs.size + 1 ∨ b = s1.heap.objs.size := by simpa using hb
      have le : s1.heap.objs.size ≤ b := by
        rcases hb2 with rfl | rfl
        · exact Nat.le_add_right _ _
        · exact Nat.le_refl _
      exact I1.fpOk le (I1.hok.fresh le)
theorem itok_pair {xs : List PyData} {vs : List V} {J : It} {G : Hp → Prop} (w : Walk J vs.length G (YPair (fun i => some (.int (i : Nat))) fun i => vs[i]?)) (hG : ∀ H, Ex F H → G H) (h : DqAll K F vs xs) : ItOk K J (enumL xs) F := by
  refine ⟨G, _, by unfold enumL; rw [List.length_mapIdx, ← dpa_len h]; exact w, hG, fun i d hd H v H' hy g F1 σ env st e1 => ?_⟩
  obtain ⟨T, x, y, y1, y2, y3, y4, y5⟩ := hy
  unfold enumL at hd
  rw [List.getElem?_mapIdx] at hd
  obtain ⟨d', hd', rfl⟩ := Option.map_eq_some_iff.mp hd
  obtain ⟨v', h1, h2⟩ := dpa_get h hd'
  have y5 : vs[i]? = some y := y5
  rw [y5] at h1
  cases h1
  cases y4
  subst y1 y3
  have hF := st.ex.none y2
  refine ⟨_, st.allocF (o := .tup [.int (i : Nat), y]) y2, Ex.new hF, .tup upd_same (.cons (.int _) (.cons (dp_mono (e1.trans (Ex.new hF)) _ _ h2) .nil)), Ex.new y2, fun a ha => ?_⟩
  by_cases ea : a = T
  · subst ea; exact .inr y2
  · rw [upd_ne ea] at ha; exact .inl ha
def enuM : PyData → (List PyData → Prop) → Prop
  | .list xs, K => K (enumL xs)
  | .tuple xs, K => K (enumL xs)
  | _, _ => False
theorem enum_len (xs : List PyData) : (enumL xs).length = xs.length := by unfold enumL; rw [List.length_mapIdx]
theorem wi_en {Φ : List PyData → Prop} {elts : List Expr} {kk : Nat} {tpos p1 : Pos} (hm : X.mg "enumerate" = none) (h : WE X g a env (fun d z => z = true ∧ enuM d Φ) Ψ) (hg : Gl X "enumerate" := by rfl)
    (he : starEach [a] X.env = [(false, eval a X.env)] := by rfl) : WI X g (.Tuple elts kk tpos) (.Call (.Name "enumerate" p1) [a] [] pos) env Φ Ψ := fun W tk σ F H st hx R hR => by
  refine semI_of (pi_enA hg hm (pa_cons (peS a) pa_nil (by rw [he]; rfl)) he) ?_
  refine h W tk σ F H st hx _ fun d z v F1 H1 ⟨hz, hi⟩ s1 e1 rd => ?_
  subst hz
  cases d with
  | list xs =>
    obtain ⟨a, vs, rfl, hsq, hda⟩ := dp_lst rd
    have hi : Φ (enumL xs) := hi
    exact ⟨a, vs, rfl, .inl ⟨ex_l s1.ex hsq, fun hl => hR _ _ F1 H1 hi (by rw [enum_len, ← dpa_len hda]; exact hl) s1 e1 (itok_pair walk_enum (fun H eH => ex_l eH hsq) hda)⟩⟩
  | tuple xs =>
    obtain ⟨a, vs, rfl, hsq, hda⟩ := dp_tup rd
    have hi : Φ (enumL xs) := hi
    exact ⟨a, vs, rfl, .inr ⟨ex_t s1.ex hsq, fun hl => hR _ _ F1 H1 hi (by rw [enum_len, ← dpa_len hda]; exact hl) s1 e1 (itok_pair walk_enT (fun H eH => ex_t eH hsq) hda)⟩⟩
  | _ => exact hi.elim
theorem w1_for {t : TG} {A : PyData → Option (List (Nat × PyData))} (hp : PassesOwn (model X.prog X.w) X.A X.env X.xe) (hc : X.calm = true) (hpg : PG X tg t) (htd : TGd X.K t A)
    (hi : WI X g tg iter env (fun xs => ∃ Pv : Nat → List Sl → Prop, Pv 0 env ∧ (∀ i x, xs[i]? = some x → FT X g body A P Pv i x) ∧ ∀ e, Pv xs.length e → P.nx e) (fun c => P.ex c env))
    (hs : ∀ x, foldedSetIterable iter X.env x = pure x := by intro _; rfl) : W1 X g (.For tg iter body [] pos) env P := fun W tk hx2 σ F H s0 D hD => by
  refine semP_of (ps_for hp hc piS hpg (pssS body) hs) ?_
  refine hi W tk σ F H s0 (hx2.hx env σ) _ fun xs J F1 H1 ⟨Pv, p0, pt, pe⟩ hlen s1 e1 ⟨GG, Y, hw, hG, hy⟩ => ?_
  refine for_it hw (FJ X.K g F1 Pv) ⟨F1, env, s1, Ex.refl F1, p0⟩ (fun i σ' H' _ ⟨F2, e2, s2, ex2, _⟩ => hG _ (ex2.trans s2.ex)) (fun i x σ' H2 H3 hi2 hJ hY => ?_) (fun σ' H' ⟨F2, e2, s2, ex2, hp2⟩ => ?_)
  · obtain ⟨F2, e2, s2, ex2, hp2⟩ := hJ
    obtain ⟨d, hd⟩ : ∃ d, xs[i]? = some d := ⟨xs[i], by simp [hi2]⟩
    obtain ⟨F3, s3, ex3, hv, _, _⟩ := hy i d hd _ _ _ hY _ _ _ _ s2 ex2
    exact for_turn2 tk hx2 (hD.mono e1) htd hv s3 (ex2.trans ex3) hp2 (pt i d hd)
  · exact hD.nx e2 σ' F2 H' (pe e2 hp2) s2 (e1.trans ex2)
theorem lc_turn2 {scope : Scope} {ifs : List Expr} {elt : Expr} {t : TG} {A : PyData → Option (List (Nat × PyData))} {F1 : Hp} {vs : List Nat} {Pv : Nat → List PyData → Prop} {D : Addr} {i : Nat} {x : PyData} {v : V} {l : List (Nat × PyData)}
    (htd : TGd X.K t A) (hA : A x = some l) (hl : ∀ q ∈ l, q.1 ∈ vs ∧ q.1 < env.length) (hsz : i < sizeLine) {F : Hp} {acc : List PyData} {avs : List V} (st : St X.K g F H (wipe σ vs) (wipeE env vs)) (eF : Ex F1 F) (hv : Dq X.K F v x) (hD : H D = some (.lst avs)) (hd : DqAll X.K F avs acc) (fD : F D = none) (oD : ¬ Own (wipeE env vs) D) (gD : g.H0 D = none) (hp : Pv i acc) (hlen : acc.length ≤ i)
    (hb : ∀ (g' : G) s H0 C cl fp, WTs (BX X scope s H0 C cl fp) g' ifs (putsE (wipeE env vs) l) (fun b => (b = true → ∀ s H0 C cl fp, WE (BX X scope s H0 C cl fp) g' elt (putsE (wipeE env vs) l) (fun y z => z = true ∧ Pv (i + 1) (acc ++ [y])) (fun _ => False)) ∧ (b = false → Pv (i + 1) acc))) :
    t v (wipe σ vs) H fun σ2 H2 => wipe σ2 vs = wipe σ vs ∧ semTB X scope ifs σ2 H2 fun b H3 =>
      if b = true then semEB X scope elt σ2 H3 fun y H4 => ∃ acc, H4 D = some (.lst acc) ∧ acc.length < sizeLine ∧ LJ X.K g F1 (wipe σ vs) (wipeE env vs) Pv D (i + 1) (upd H4 D (.lst (acc ++ [y]))) else LJ X.K g F1 (wipe σ vs) (wipeE env vs) Pv D (i + 1) H3 := by
  refine htd x l (wipe σ vs) F H v _ hA st.ex hv fun r sr => ?_
  have hidx : ∀ q ∈ r, q.1 ∈ vs := setsP_idx sr fun q hq => (hl q hq).1
  refine ⟨by rw [wipe_putsV hidx]; exact wipe_wipe σ vs, ?_⟩
  -- the state within the turn, over a ground of its own
  have st1 : St X.K ⟨F, H, fps (wipeE env vs)⟩ F H (putsV (wipe σ vs) r) (putsE (wipeE env vs) l) := St.sets st.toSk.base sr fun q hq => by rw [wipeE_len]; exact (hl q hq).2
  have back : ∀ {F' H'}, St X.K ⟨F, H, fps (wipeE env vs)⟩ F' H' (putsV (wipe σ vs) r) (putsE (wipeE env vs) l) → Ex F F' → St X.K ⟨F, H, fps (wipeE env vs)⟩ F' H' (wipe σ vs) (wipeE env vs) := fun {F' H'} s' e' =>
    { len := by rw [wipe_length, wipeE_len]; have := s'.len; rw [putsE_len, wipeE_len] at this; rw [← this, putsV_len, wipe_length]
      sl := fun k s e => by
        by_cases hm : k ∈ vs
        · rw [wipeE_get, if_pos hm] at e
          obtain ⟨_, _, e⟩ := Option.map_eq_some_iff.mp e
          subst e
          trivial
        · have e2 : (putsE (wipeE env vs) l)[k]? = some s := by rw [putsE_get (i := k) fun q hq (z : q.1 = k) => hm (by rw [← z]; exact (hl q hq).1)]; exact e
          have q := s'.sl k s e2
          rw [putsV_get (i := k) fun q hq (z : q.1 = k) => hm (by rw [← z]; exact hidx q hq)] at q
          exact q
      nd := st.nd
      fr := fun a h => by
        obtain ⟨k, s, h1, h2⟩ := h
        by_cases hm : k ∈ vs
        · rw [wipeE_get, if_pos hm] at h1
          obtain ⟨_, _, e⟩ := Option.map_eq_some_iff.mp h1
          subst e
          cases h2
        · exact s'.fr a ⟨k, s, by rw [putsE_get (i := k) fun q hq (z : q.1 = k) => hm (by rw [← z]; exact (hl q hq).1)]; exact h1, h2⟩
      ex := s'.ex
      tf := s'.tf
      tk := s'.tk
      gt := s'.gt
      g1 := s'.g1
      g2 := fun a h => .inr (own_fps.mp h)
      g3 := s'.g3
      g4 := s'.g4
      g5 := s'.g5
      g6 := s'.g6 }
  have keepD : ∀ {F' H'}, St X.K ⟨F, H, fps (wipeE env vs)⟩ F' H' (putsV (wipe σ vs) r) (putsE (wipeE env vs) l) → H' D = some (.lst avs) ∧ F' D = none := fun {F' H'} s' => by
    refine ⟨s'.g1 D _ hD (fun z => oD (own_fps.mpr z)) (fun _ z => by cases z), ?_⟩
    cases q : F' D with
    | none => rfl
    | some u =>
      rcases s'.g4 D (by rw [q]; intro z; cases z) with z | z
      · exact absurd fD z
      · have z' : H D = none := z
        rw [hD] at z'; cases z'
  have tests : ∀ (Q : Bool → Hp → Prop), (∀ b F' H', ((b = true → ∀ s H0 C cl fp, WE (BX X scope s H0 C cl fp) ⟨F, H, fps (wipeE env vs)⟩ elt (putsE (wipeE env vs) l) (fun y z => z = true ∧ Pv (i + 1) (acc ++ [y])) (fun _ => False)) ∧ (b = false → Pv (i + 1) acc)) →
      St X.K ⟨F, H, fps (wipeE env vs)⟩ F' H' (putsV (wipe σ vs) r) (putsE (wipeE env vs) l) → Ex F F' → Q b H') → semTB X scope ifs (putsV (wipe σ vs) r) H Q := fun Q hQ => by
    cases ifs with
    | nil =>
      exact hQ true F H ⟨fun _ s H0 C cl fp => (hb _ (X.s_0) H0 C cl fp).1 rfl s H0 C cl fp, fun z => by cases z⟩ st1 (Ex.refl F)
    | cons c cs =>
      intro s H0 C cl fp
      refine hb _ s H0 C cl fp _ takesB _ F H st1 hxF Q fun b F' H' hbb s' e' => hQ b F' H' hbb s' e'
  refine tests _ fun b F' H' ⟨h1, h2⟩ s' e' => ?_
  cases b with
  | true =>
    rw [if_pos rfl]
    intro s H0 C cl fp
    refine h1 rfl s H0 C cl fp _ takesB _ F' H' s' hxF _ fun y z w F2 H2 ⟨hz, hp2⟩ s2 e2 rd => ?_
    subst hz
    obtain ⟨hD2, fD2⟩ := keepD s2
    refine ⟨avs, hD2, by rw [dpa_len hd]; omega, F2, acc ++ [y], avs ++ [w], ?_, eF.trans (e'.trans e2), upd_same, ?_, fD2, oD, gD, hp2, by rw [List.length_append, List.length_singleton]; omega⟩
    · have s3 := st.rebase (back s2 (e'.trans e2)) fun a h => h
      exact s3.untracked fD2 oD gD
    · exact dpa_app (dpa_mono (e'.trans e2) _ _ hd) (dpa_one rd)
  | false =>
    rw [if_neg Bool.false_ne_true]
    obtain ⟨hD2, fD2⟩ := keepD s'
    exact ⟨F', acc, avs, st.rebase (back s' e') fun a h => h, eF.trans e', hD2, dpa_mono e' _ _ hd, fD2, oD, gD, h2 rfl, by omega⟩
def LT2 (X : Cx) (env : List Sl) (scope : Scope) (ifs : List Expr) (elt : Expr) (vs : List Nat) (A : PyData → Option (List (Nat × PyData))) (Pv : Nat → List PyData → Prop) (i : Nat) (x : PyData) : Prop :=
  ∀ acc, Pv i acc → ∃ l, A x = some l ∧ (l.all fun q => vs.elem q.1 && Nat.blt q.1 env.length) = true ∧ ∀ (g' : G) s H0 C cl fp, WTs (BX X scope s H0 C cl fp) g' ifs (putsE (wipeE env vs) l) (fun b =>
    (b = true → ∀ s H0 C cl fp, WE (BX X scope s H0 C cl fp) g' elt (putsE (wipeE env vs) l) (fun y z => z = true ∧ Pv (i + 1) (acc ++ [y])) (fun _ => False)) ∧ (b = false → Pv (i + 1) acc))
section
variable {elt : Expr} {ifs : List Expr} {scope : Scope} {own : List (Str × Nat)} {t : TG} {A : PyData → Option (List (Nat × PyData))} {Φ : List PyData → Prop}
theorem nt_lc (htd : TGd X.K t A) (hwo : wipeOk env (own.map (·.2)) = true)
    (hi : WI X g tg iter env (fun xs => ∃ Pv : Nat → List PyData → Prop, Pv 0 [] ∧ (∀ i x, xs[i]? = some x → LT2 X env scope ifs elt (own.map (·.2)) A Pv i x) ∧ ∀ acc, Pv xs.length acc → Φ acc) Ψ) : WNt X g (tLc (semI X tg iter) t (semTB X scope ifs) (semEB X scope elt) (own.map (·.2))) env Φ Ψ := fun W tk σ F H st hx Q hQ => by
  refine hi W tk σ F H st hx _ fun xs J F1 H1 ⟨Pv, p0, pt, pe⟩ hlen s1 e1 ⟨GG, Y, hw, hG, hy⟩ => fun D hD => ?_
  have st2 : St X.K g F1 (upd H1 D (.lst [])) (wipe σ (own.map (·.2))) (wipeE env (own.map (·.2))) := (s1.alloc hD).wiped _
  refine lc_it hw (LJ X.K g F1 (wipe σ (own.map (·.2))) (wipeE env (own.map (·.2))) Pv D) ⟨F1, [], [], st2, Ex.refl F1, upd_same, .nil, s1.ex.none hD, fun z => s1.there (own_wipe z) hD, s1.h0 hD, p0, Nat.le_refl 0⟩ (fun i H2 _ ⟨F2, _, _, s3, e3, _⟩ => hG _ (e3.trans s3.ex)) (fun i x H2 H3 hi2 hJ hY => ?_) (fun H2 ⟨F2, acc, avs, s3, e3, hD3, hd3, fD, oD, gD, hp, _⟩ => ?_)
  · obtain ⟨F2, acc, avs, s3, e3, hD3, hd3, fD, oD, gD, hp, hl2⟩ := hJ
    obtain ⟨d, hd⟩ : ∃ d, xs[i]? = some d := ⟨xs[i], by simp [hi2]⟩
    obtain ⟨F3, s4, ex4, hv, exH, hF⟩ := hy i d hd _ _ _ hY _ _ _ _ s3 e3
    obtain ⟨l, hA, hl, hb⟩ := pt i d hd acc hp
    have fD3 : F3 D = none := by
      cases q : F3 D with
      | none => rfl
      | some u =>
        rcases hF D (by rw [q]; intro z; cases z) with z | z
        · exact absurd fD z
        · rw [hD3] at z; cases z
    exact lc_turn2 htd hA (lt_idx hl) (by omega) s4 (e3.trans ex4) hv (exH _ _ hD3) (dpa_mono ex4 _ _ hd3) fD3 oD gD hp hl2 hb
  · exact hQ acc (.ref D) F2 H2 (pe acc hp) (s1.unwiped hwo s3 e3) (e1.trans e3) ⟨D, avs, rfl, hD3, hd3, fD, fun z => s1.there z hD, gD⟩
theorem wn_lc (hc : X.calm = true) (hN : X.N.Nodup) (ok : BlkOk X.N X.env.scope scope own) (hpg : ∀ s H C cl fp, PG (BX X scope s H C cl fp) tg t) (htd : TGd X.K t A) (h1 : ifs.length ≤ 1) (hwo : wipeOk env (own.map (·.2)) = true)
    (hi : WI X g tg iter env (fun xs => ∃ Pv : Nat → List PyData → Prop, Pv 0 [] ∧ (∀ i x, xs[i]? = some x → LT2 X env scope ifs elt (own.map (·.2)) A Pv i x) ∧ ∀ acc, Pv xs.length acc → Φ acc) Ψ)
    (hs : ∀ x, foldedSetIterable iter X.env x = pure x := by intro _; rfl) : WN X g (.ListComp elt [⟨tg, iter, ifs, 0⟩] scope pos) env Φ Ψ := fun W tk σ F H st hx Q hQ =>
  semE_of (pe_lc hc hN piS ok hpg (ptsB h1) peB hs) (nt_lc htd hwo hi W tk σ F H st hx Q hQ)
end
end
end TL
namespace TL
open PySem PySem.Spec PyProof.Rows L2
abbrev KD := PyData → Prop
abbrev KL := List PyData → Prop
abbrev KB := Bool → Prop
abbrev KX := Exc → Prop
def addM : PyData → PyData → KD → Prop
  | .int i, .int j, K => K (.int (i + j))
  | .str i, .str j, K => i.length + j.length ≤ sizeLine ∧ K (.str (i ++ j))
  | .list xs, .list ys, K => xs.length + ys.length ≤ sizeLine ∧ K (.list (xs ++ ys))
  | .tuple xs, .tuple ys, K => xs.length + ys.length ≤ sizeLine ∧ K (.tuple (xs ++ ys))
  | _, _, _ => False
def addLM : PyData → PyData → KL → Prop
  | .list xs, .list ys, K => xs.length + ys.length ≤ sizeLine ∧ K (xs ++ ys)
  | _, _, _ => False
def subM : PyData → PyData → KD → Prop
  | .int i, .int j, K => K (.int (i - j))
  | _, _, _ => False
def mulM : PyData → PyData → KD → Prop
  | .int i, .int j, K => (CMul i j ∨ CMulW i j) ∧ K (.int (i * j))
  | _, _, _ => False
def divM : PyData → PyData → KD → Prop
  | .int i, .int j, K => CDivW i j ∧ K (.int (i / j))
  | _, _, _ => False
def modM : PyData → PyData → KD → Prop
  | .int i, .int j, K => 0 < j ∧ K (.int (i % j))
  | _, _, _ => False
def negM : PyData → KD → Prop
  | .int i, K => K (.int (-i))
  | _, _ => False
def boolM : PyData → KB → Prop
  | .bool b, K => K b
  | _, _ => False
def eqM : PyData → PyData → KB → Prop
  | .int i, .int j, K => K (decide (i = j))
  | .str i, .str j, K => K (decide (i = j))
  | .bool i, .bool j, K => K (decide (i = j))
  | x, y, K => SeqAt.shaped x = true ∧ SeqAt.shaped y = true ∧ K (PyData.eqv x y)
def neM : PyData → PyData → KB → Prop
  | .int i, .int j, K => K (!decide (i = j))
  | .str i, .str j, K => K (!decide (i = j))
  | .bool i, .bool j, K => K (!decide (i = j))
  | x, y, K => SeqAt.shaped x = true ∧ SeqAt.shaped y = true ∧ K (!PyData.eqv x y)
def intsOf : List PyData → Option (List Int)
  | [] => some []
  | .int i :: r => match intsOf r with
    | some l => some (i :: l)
    | none => none
  | _ :: _ => none
def ltM : PyData → PyData → KB → Prop
  | .int i, .int j, K => K (decide (i < j))
  | .tuple xs, .tuple ys, K => match intsOf xs, intsOf ys with
    | some ns, some ms => K (HT.lexLt ns ms)
    | _, _ => False
  | _, _, _ => False
def leTup (ns ms : List Int) : Bool := Ob.lexAt (fun j => decide (ns.getD j 0 = ms.getD j 0)) (fun j => decide (ns.getD j 0 ≤ ms.getD j 0)) (decide (ns.length ≤ ms.length)) 0 (min ns.length ms.length)
def leM : PyData → PyData → KB → Prop
  | .int i, .int j, K => K (decide (i ≤ j))
  | .tuple xs, .tuple ys, K => match intsOf xs, intsOf ys with
    | some ns, some ms => K (leTup ns ms)
    | _, _ => False
  | _, _, _ => False
def gtM : PyData → PyData → KB → Prop
  | .int i, .int j, K => K (decide (j < i))
  | _, _, _ => False
def geM : PyData → PyData → KB → Prop
  | .int i, .int j, K => K (decide (j ≤ i))
  | _, _, _ => False
def flAll : List PyData → Option (List V)
  | [] => some []
  | d :: r => match fl d, flAll r with
    | some v, some l => some (v :: l)
    | _, _ => none
def inLstM (x : PyData) (ds : List PyData) (K : KB) : Prop := match fl x, flAll ds with
  | some v, some vs => K (inV v vs)
  | _, _ => SeqAt.shaped x = true ∧ SeqAt.shaped (.list ds) = true ∧ K (ds.any fun z => PyData.eqv z x)
def inTplM (x : PyData) (ds : List PyData) (K : KB) : Prop := match fl x, flAll ds with
  | some v, some vs => K (inV v vs)
  | _, _ => SeqAt.shaped x = true ∧ SeqAt.shaped (.tuple ds) = true ∧ K (ds.any fun z => PyData.eqv z x)
def inM (x : PyData) : PyData → KB → Prop
  | .list ds, K => inLstM x ds K
  | .tuple ds, K => inTplM x ds K
  | .str t, K => match x with
    | .str s => K (!(Builtin.Str.occurrences t s 0 t.length 1).isEmpty)
    | _ => False
  | _, _ => False
def notInM (x c : PyData) (K : KB) : Prop := inM x c fun b => K (!b)
def ixM : PyData → PyData → KD → Prop
  | .list xs, .int i, K => match atI xs i with
    | some y => K y
    | none => False
  | .tuple xs, .int i, K => match atI xs i with
    | some y => K y
    | none => False
  | .str s, .int i, K => s.length ≤ sizeLine ∧ match atI s.cps.toList i with
    | some c => K (sgn c)
    | none => False
  | _, _, _ => False
def intO : PyData → (Int → Prop) → Prop
  | .int i, K => K i
  | _, _ => False
def slM : PyData → Option Int → Option Int → KD → Prop
  | .list xs, lo, hi, K => K (.list (cut xs lo hi))
  | .tuple xs, lo, hi, K => K (.tuple (cut xs lo hi))
  | .str z, lo, hi, K => z.length ≤ sizeLine ∧ K (.str (cutS z lo hi))
  | _, _, _, _ => False
def slLM : PyData → Option Int → Option Int → KL → Prop
  | .list xs, lo, hi, K => K (cut xs lo hi)
  | _, _, _, _ => False
def revM : PyData → KL → Prop
  | .list xs, K => K xs.reverse
  | _, _ => False
def lenM : PyData → KD → Prop
  | .list xs, K => K (.int xs.length)
  | .tuple xs, K => K (.int xs.length)
  | .str s, K => s.length ≤ sizeLine ∧ K (.int s.length)
  | _, _ => False
def absM : PyData → KD → Prop
  | .int i, K => K (.int (if i < 0 then -i else i))
  | _, _ => False
def sumM : PyData → KD → Prop
  | .list xs, K => match intsOf xs with
    | some ns => K (.int ns.sum)
    | none => False
  | _, _ => False
def boolsOf : List PyData → Option (List Bool)
  | [] => some []
  | .bool i :: r => match boolsOf r with
    | some l => some (i :: l)
    | none => none
  | _ :: _ => none
def allM : PyData → KD → Prop
  | .list xs, K => match boolsOf xs with
    | some ns => K (.bool (ns.all id))
    | none => False
  | _, _ => False
def anyM : PyData → KD → Prop
  | .list xs, K => match boolsOf xs with
    | some ns => K (.bool (ns.any id))
    | none => False
  | _, _ => False
def intM : PyData → KD → Prop
  | .int i, K => K (.int i)
  | .bool b, K => K (.int (if b then 1 else 0))
  | _, _ => False
def tupM : PyData → KD → Prop
  | .list xs, K => K (.tuple xs)
  | .tuple xs, K => K (.tuple xs)
  | _, _ => False
def listM : PyData → KL → Prop
  | .list xs, K => K xs
  | .tuple xs, K => K xs
  | _, _ => False
def sortM : PyData → KL → Prop
  | .list ds, K => (PySem.W.AllAlike ds ∧ PySem.W.Sortable ds ∧ ∀ d ∈ ds, SeqAt.shaped d = true) ∧ K (srt ds)
  | _, _ => False
def min2M : PyData → PyData → KD → Prop
  | .int i, .int j, K => K (.int (if j < i then j else i))
  | _, _, _ => False
def max2M : PyData → PyData → KD → Prop
  | .int i, .int j, K => K (.int (if j > i then j else i))
  | _, _, _ => False
def andM (ma mb : KB → Prop) (K : KB) : Prop := ma fun b => (b = true → mb K) ∧ (b = false → K false)
def orM (ma mb : KB → Prop) (K : KB) : Prop := ma fun b => (b = true → K true) ∧ (b = false → mb K)
def ifM {α : Type} (mt : KB → Prop) (ma mb : (α → Prop) → Prop) (K : α → Prop) : Prop := mt fun b => (b = true → ma K) ∧ (b = false → mb K)
def un2 : PyData → (PyData → PyData → Prop) → Prop
  | .tuple [a, b], K => K a b
  | _, _ => False
def un3 : PyData → (PyData → PyData → PyData → Prop) → Prop
  | .tuple [a, b, c], K => K a b c
  | _, _ => False
def un4 : PyData → (PyData → PyData → PyData → PyData → Prop) → Prop
  | .tuple [a, b, c, d], K => K a b c d
  | _, _ => False
theorem un2_sh {d : PyData} {K} (h : un2 d K) : ∃ a b, d = .tuple [a, b] ∧ K a b := by
  unfold un2 at h
  split at h
  · exact ⟨_, _, rfl, h⟩
  · exact h.elim
def forM {σ : Type} (bd : PyData → σ → (σ → Prop) → (σ → Prop) → Prop) (K : σ → Prop) : List PyData → σ → Prop
  | [], s => K s
  | x :: xs, s => bd x s (fun s' => forM bd K xs s') K
def whileM {σ : Type} (st : σ → (σ → Prop) → (σ → Prop) → Prop) (K : σ → Prop) : Nat → σ → Prop
  | 0, _ => False
  | n + 1, s => st s (fun s' => whileM st K n s') K
def lcM {β : Type} (bd : PyData → (β → Prop) → Prop → Prop) (K : List β → Prop) : List PyData → List β → Prop
  | [], acc => K acc
  | x :: xs, acc => bd x (fun y => lcM bd K xs (acc ++ [y])) (lcM bd K xs acc)
/-- ways that come together -/
def joinM {σ : Type} (bd : (σ → Prop) → Prop) (K : σ → Prop) : Prop := bd K
section
variable {X : Cx} {g : G} {env env' : List Sl} {Ψ : Exc → Prop} {P : Po} {pos p lp : Pos} {a b c e tg iter : Expr} {es : List Expr} {rest body : List Stmt} {K : Frag} {F F' H H' : Hp} {σ σ' : SS} {x y : PyData} {z1 z2 : Bool}
theorem ws_env {env' : List Sl} (h : env = env') (k : WS X g rest env' P) : WS X g rest env P := h ▸ k
section
variable {Q : KD} {Φ : PyData → Bool → Prop}
theorem add_sh (h : addM x y Q) (k : ∀ r, Q r → Φ r true) : AddP Φ x z1 y z2 := by
  unfold addM at h
  split at h
  · exact .int (k _ h)
  · exact .str (k _ h.2) h.1
  · exact .lst (k _ h.2) h.1
  · exact .tup (k _ h.2) h.1
  · exact h.elim
theorem sub_sh (h : subM x y Q) (k : ∀ r, Q r → Φ r true) : IntP (fun _ _ => True) (fun i j => i - j) Φ x z1 y z2 := by
  unfold subM at h
  split at h
  · exact ⟨k _ h, trivial⟩
  · exact h.elim
inductive MulP (Φ : PyData → Bool → Prop) : PyData → Bool → PyData → Bool → Prop
  | mk {i j : Int} {z1 z2 : Bool} : Φ (.int (i * j)) true → CMul i j ∨ CMulW i j → MulP Φ (.int i) z1 (.int j) z2
theorem we_mulA (h : WE X g a env (fun d1 z1 => WE X g b env (fun d2 z2 => MulP Φ d1 z1 d2 z2) Ψ) Ψ) : WE X g (.BinOp a .Mult b pos) env Φ Ψ :=
  we_op (pe_op (op_mul.or op_mulW) (peS a) (peS b)) (fun _ _ _ _ ⟨h, hc⟩ => by
    rcases hc with hc | hc
    · exact dop_l (dop_I hc h fun F => .int _)
    · exact dop_r (dop_I hc h fun F => .int _)) h
theorem mul_sh (h : mulM x y Q) (k : ∀ r, Q r → Φ r true) : MulP Φ x z1 y z2 := by
  unfold mulM at h
  split at h
  · exact ⟨k _ h.2, h.1⟩
  · exact h.elim
theorem div_sh (h : divM x y Q) (k : ∀ r, Q r → Φ r true) : IntP CDivW (fun i j => i / j) Φ x z1 y z2 := by
  unfold divM at h
  split at h
  · exact ⟨k _ h.2, h.1⟩
  · exact h.elim
theorem mod_sh (h : modM x y Q) (k : ∀ r, Q r → Φ r true) : IntP (fun _ j => 0 < j) (fun i j => i % j) Φ x z1 y z2 := by
  unfold modM at h
  split at h
  · exact ⟨k _ h.2, h.1⟩
  · exact h.elim
theorem ix_sh (h : ixM x y Q) (k : ∀ r, Q r → Φ r true) : IxP Φ x z1 y z2 := by
  unfold ixM at h
  split at h
  · split at h
    · rename_i e; exact .lst (k _ h) e
    · exact h.elim
  · split at h
    · rename_i e; exact .tup (k _ h) e
    · exact h.elim
  · obtain ⟨h1, h⟩ := h
    split at h
    · rename_i e; exact .str (k _ h) h1 e
    · exact h.elim
  · exact h.elim
theorem len_sh (h : lenM x Q) (k : ∀ r, Q r → Φ r true) : LenP Φ x z1 := by
  unfold lenM at h
  split at h
  · exact .lst (k _ h)
  · exact .tup (k _ h)
  · exact .str (k _ h.2) h.1
  · exact h.elim
theorem intsOf_eq : ∀ {xs : List PyData} {ns : List Int}, intsOf xs = some ns → xs = ns.map .int
  | [], _, h => by cases h; rfl
  | d :: r, ns, h => by
    cases d with
    | int i =>
      unfold intsOf at h
      split at h
      · rename_i l e; cases h; rw [intsOf_eq e]; rfl
      · cases h
    | _ => cases h
theorem ints_of (ns : List Int) : intsOf (ns.map .int) = some ns := by
  induction ns with
  | nil => rfl
  | cons n ns ih => show (match intsOf (ns.map .int) with | some l => some (n :: l) | none => none) = _; rw [ih]
theorem boolsOf_eq : ∀ {xs : List PyData} {ns : List Bool}, boolsOf xs = some ns → xs = ns.map .bool
  | [], _, h => by cases h; rfl
  | d :: r, ns, h => by
    cases d with
    | bool i =>
      unfold boolsOf at h
      split at h
      · rename_i l e; cases h; rw [boolsOf_eq e]; rfl
      · cases h
    | _ => cases h
theorem bools_of (ns : List Bool) : boolsOf (ns.map .bool) = some ns := by
  induction ns with
  | nil => rfl
  | cons n ns ih => show (match boolsOf (ns.map .bool) with | some l => some (n :: l) | none => none) = _; rw [ih]
theorem sum_sh (h : sumM x Q) (k : ∀ r, Q r → Φ r true) : ∃ ns : List Int, x = .list (ns.map .int) ∧ Φ (.int ns.sum) true := by
  unfold sumM at h
  split at h
  · split at h
    · rename_i e; exact ⟨_, by rw [intsOf_eq e], k _ h⟩
    · exact h.elim
  · exact h.elim
theorem all_sh (h : allM x Q) (k : ∀ r, Q r → Φ r true) : ∃ ns : List Bool, x = .list (ns.map .bool) ∧ Φ (.bool (ns.all id)) true := by
  unfold allM at h
  split at h
  · split at h
    · rename_i e; exact ⟨_, by rw [boolsOf_eq e], k _ h⟩
    · exact h.elim
  · exact h.elim
theorem any_sh (h : anyM x Q) (k : ∀ r, Q r → Φ r true) : ∃ ns : List Bool, x = .list (ns.map .bool) ∧ Φ (.bool (ns.any id)) true := by
  unfold anyM at h
  split at h
  · split at h
    · rename_i e; exact ⟨_, by rw [boolsOf_eq e], k _ h⟩
    · exact h.elim
  · exact h.elim
theorem tup_sh (h : tupM x Q) (k : ∀ r, Q r → Φ r true) (hz : z1 = true ∨ isTyB "tuple" x = false := by exact Or.inl rfl) : TupP Φ x z1 := by
  unfold tupM at h
  split at h
  · exact .lst (k _ h)
  · rcases hz with hz | hz
    · subst hz; exact .tup (k _ h)
    · rename_i xs
      have e : isTyB "tuple" (.tuple xs) = true := by show (L2.kitB "tuple" "tuple").getD false = true; decide +kernel
      rw [e] at hz; cases hz
  · exact h.elim
theorem min2_sh (h : min2M x y Q) (k : ∀ r, Q r → Φ r true) : ∃ i j, x = .int i ∧ y = .int j ∧ Φ (.int (if j < i then j else i)) true := by
  unfold min2M at h
  split at h
  · exact ⟨_, _, rfl, rfl, k _ h⟩
  · exact h.elim
theorem max2_sh (h : max2M x y Q) (k : ∀ r, Q r → Φ r true) : ∃ i j, x = .int i ∧ y = .int j ∧ Φ (.int (if j > i then j else i)) true := by
  unfold max2M at h
  split at h
  · exact ⟨_, _, rfl, rfl, k _ h⟩
  · exact h.elim
end
theorem bool_sh {Q : KB} {Φ : Bool → Prop} (h : boolM x Q) (k : ∀ r, Q r → Φ r) : ∃ b, x = .bool b ∧ Φ b := by
  unfold boolM at h
  split at h
  · exact ⟨_, rfl, k _ h⟩
  · exact h.elim
section
variable {Q : KL} {Φ : List PyData → Prop}
theorem list_sh (h : listM x Q) (k : ∀ r, Q r → Φ r) : LstP Φ x z1 := by
  unfold listM at h
  split at h
  · exact .lst (k _ h)
  · exact .tup (k _ h)
  · exact h.elim
theorem sort_sh (h : sortM x Q) (k : ∀ r, Q r → Φ r) : ∃ ds, x = .list ds ∧ PySem.W.AllAlike ds ∧ PySem.W.Sortable ds ∧ (∀ d ∈ ds, SeqAt.shaped d = true) ∧ Φ (srt ds) := by
  unfold sortM at h
  split at h
  · exact ⟨_, rfl, h.1.1, h.1.2.1, h.1.2.2, k _ h.2⟩
  · exact h.elim
end
theorem sl_sh {Q : KD} {Φ : KD} {lo hi : Option Int} (h : slM x lo hi Q) (k : ∀ r, Q r → Φ r) : slM x lo hi Φ := by
  unfold slM at *
  split at h
  · exact k _ h
  · exact k _ h
  · exact ⟨h.1, k _ h.2⟩
  · exact h.elim
theorem we_slA {lo hi : Option Expr} {p2 : Pos} {Φ : PyData → Bool → Prop} (h : WE X g a env (fun d1 z => z = true ∧ WP X g lo env (fun l => WP X g hi env (fun u => slM d1 l u fun r => Φ r true) Ψ) Ψ) Ψ) : WE X g (.Subscript a (.Slice lo hi none p2) pos) env Φ Ψ := fun W tk σ F H st hx Q hQ => by
  refine semE_of (pe_slice (sl_list.or (sl_tupA.or sl_str)) (peS a) (poS lo) (poS hi)) ?_
  refine h W tk σ F H st hx _ fun d1 z1 v1 F1 H1 ⟨hz, h1⟩ st1 e1 r1 => ?_
  subst hz
  refine wp_run h1 tk st1 hx fun l F2 H2 h2 st2 e2 => wp_run h2 tk st2 hx fun u F3 H3 h3 st3 e3 => ?_
  have E := (e1.trans e2).trans e3
  have r3 := rd_mono (e2.trans e3) r1
  cases d1 with
  | list xs =>
    have h3 : Φ (.list (cut xs l u)) true := h3
    obtain ⟨a1, vs1, rfl, s1, p1⟩ := rd_lst st3.toSk r3
    exact .inl ⟨a1, vs1, rfl, s1, fun p hp => put_lst st3 hp (dpa_cut p1 l u) h3 fun d z v F' H' q1 q2 q3 q4 => hQ d z v F' H' q1 q2 (E.trans q3) q4⟩
  | tuple xs =>
    have h3 : Φ (.tuple (cut xs l u)) true := h3
    obtain ⟨a1, vs1, rfl, s1, p1⟩ := rd_tup st3.toSk r3
    refine .inr (.inl ⟨a1, vs1, rfl, s1, fun hw => ?_, fun _ p hp => put_tup st3 hp (dpa_cut p1 l u) h3 fun d z v F' H' q1 q2 q3 q4 => hQ d z v F' H' q1 q2 (E.trans q3) q4⟩)
    rw [dpa_len p1] at hw
    rw [cut_whole hw] at h3
    exact hQ _ true _ F3 H3 h3 st3 E r3
  | str s =>
    obtain ⟨hl, h3⟩ : s.length ≤ sizeLine ∧ Φ (.str (cutS s l u)) true := h3
    rw [rd_str r3]
    exact .inr (.inr ⟨s, rfl, hl, hQ _ true _ F3 H3 h3 st3 E (.str _)⟩)
  | _ => exact h3.elim
theorem into_sh {Q : Int → Prop} {Φ : Int → Prop} (h : intO x Q) (k : ∀ r, Q r → Φ r) : ∃ i, x = .int i ∧ Φ i := by
  unfold intO at h
  split at h
  · exact ⟨_, rfl, k _ h⟩
  · exact h.elim
section
variable {Q : KB} {Φ : KB}
theorem eq_sh (h : eqM x y Q) (k : ∀ b, Q b → Φ b) : ∃ b, CP K g env (rEqA K) x z1 y z2 b ∧ Φ b := by
  unfold eqM at h
  split at h
  · exact ⟨_, cp_eqI, k _ h⟩
  · exact ⟨_, cp_eqS, k _ h⟩
  · exact ⟨_, cp_eqB, k _ h⟩
  · exact ⟨_, cp_eqD h.1 h.2.1, k _ h.2.2⟩
theorem ne_sh (h : neM x y Q) (k : ∀ b, Q b → Φ b) : ∃ b, CP K g env (rNeA K) x z1 y z2 b ∧ Φ b := by
  unfold neM at h
  split at h
  · exact ⟨_, cp_neI, k _ h⟩
  · exact ⟨_, cp_neS, k _ h⟩
  · exact ⟨_, cp_neB, k _ h⟩
  · exact ⟨_, cp_neD h.1 h.2.1, k _ h.2.2⟩
theorem lt_sh (h : ltM x y Q) (k : ∀ b, Q b → Φ b) : ∃ b, CP K g env (rLtA K) x z1 y z2 b ∧ Φ b := by
  unfold ltM at h
  split at h
  · exact ⟨_, cp_lt, k _ h⟩
  · split at h
    · rename_i e1 e2
      rw [intsOf_eq e1, intsOf_eq e2]
      exact ⟨_, cp_ltT, k _ h⟩
    · exact h.elim
  · exact h.elim
abbrev rLeA (K : Frag) : R2 := fun x y H Q => (rI0 fun i j => .bl (decide (i ≤ j))) x y H Q ∨ rLeT K x y H Q
theorem op_leA {k : Nat} (hr : Room k X.A) : OpR X (compareOp .LtE) (rLeA X.K) := op_le.or (op_leT hr.units0)
theorem cp_leA {i j : Int} : CP K g env (rLeA K) (.int i) z1 (.int j) z2 (decide (i ≤ j)) := cp_l cp_le
theorem cp_leTA (ns ms : List Int) : CP K g env (rLeA K) (.tuple (ns.map .int)) z1 (.tuple (ms.map .int)) z2 (leTup ns ms) := cp_r fun σ F H v1 v2 st r1 r2 Q q => by
  obtain ⟨a1, vs1, rfl, s1, p1⟩ := rd_tup st.toSk r1
  obtain ⟨a2, vs2, rfl, s2, p2⟩ := rd_tup st.toSk r2
  rw [dpa_ints_eq p1] at s1
  rw [dpa_ints_eq p2] at s2
  exact ⟨a1, a2, ns, ms, rfl, rfl, s1, s2, q⟩
theorem le_sh (h : leM x y Q) (k : ∀ b, Q b → Φ b) : ∃ b, CP K g env (rLeA K) x z1 y z2 b ∧ Φ b := by
  unfold leM at h
  split at h
  · exact ⟨_, cp_leA, k _ h⟩
  · split at h
    · rename_i e1 e2
      rw [intsOf_eq e1, intsOf_eq e2]
      exact ⟨_, cp_leTA _ _, k _ h⟩
    · exact h.elim
  · exact h.elim
theorem flAll_dp : ∀ {ds : List PyData} {vs xs : List V}, flAll ds = some xs → DqAll K F vs ds → vs = xs
  | [], _, _, h, q => by cases q; cases h; rfl
  | d :: r, _, _, h, q => by
    cases q with
    | cons q1 q2 =>
      unfold flAll at h
      split at h
      · rename_i e1 e2
        cases h
        rw [fl_dp q1 e1, flAll_dp e2 q2]
      · cases h
theorem flAll_flat : ∀ {ds : List PyData} {xs : List V}, flAll ds = some xs → xs.all flatV = true
  | [], _, h => by cases h; rfl
  | d :: r, _, h => by
    unfold flAll at h
    split at h
    · rename_i e1 e2
      cases h
      rw [List.all_cons, fl_flat e1, flAll_flat e2]; rfl
    · cases h
theorem in_sh (h : inM x y Q) (k : ∀ b, Q b → Φ b) : ∃ b, CP K g env (rInA K) x z1 y z2 b ∧ Φ b := by
  cases y with
  | list ds =>
    have h : inLstM x ds Q := h
    unfold inLstM at h
    split at h
    · rename_i v vs e1 e2
      refine ⟨_, cp_l fun σ F H v1 v2 st r1 r2 Q q => ?_, k _ h⟩
      obtain ⟨a2, vs2, rfl, s2, p2⟩ := rd_lst st.toSk r2
      have e3 := fl_dp (rd_now st.toSk r1) e1
      have e4 := flAll_dp e2 p2
      subst e3 e4
      exact ⟨a2, vs2, rfl, .inl s2, fl_flat e1, flAll_flat e2, q⟩
    · exact ⟨_, cp_inD h.1 h.2.1, k _ h.2.2⟩
  | tuple ds =>
    have h : inTplM x ds Q := h
    unfold inTplM at h
    split at h
    · rename_i v vs e1 e2
      refine ⟨_, cp_l fun σ F H v1 v2 st r1 r2 Q q => ?_, k _ h⟩
      obtain ⟨a2, vs2, rfl, s2, p2⟩ := rd_tup st.toSk r2
      have e3 := fl_dp (rd_now st.toSk r1) e1
      have e4 := flAll_dp e2 p2
      subst e3 e4
      exact ⟨a2, vs2, rfl, .inr s2, fl_flat e1, flAll_flat e2, q⟩
    · exact ⟨_, cp_inTD h.1 h.2.1, k _ h.2.2⟩
  | str t =>
    cases x with
    | str s => exact ⟨_, cp_inS, k _ h⟩
    | _ => exact (show False from h).elim
  | _ => exact (show False from h).elim
theorem notIn_sh (h : notInM x y Q) (k : ∀ b, Q b → Φ b) : ∃ b, CP K g env (rNotInA K) x z1 y z2 b ∧ Φ b := by
  cases y with
  | list ds =>
    have h : inLstM x ds (fun b => Q (!b)) := h
    unfold inLstM at h
    split at h
    · rename_i v vs e1 e2
      refine ⟨_, cp_l fun σ F H v1 v2 st r1 r2 Q q => ?_, k _ h⟩
      obtain ⟨a2, vs2, rfl, s2, p2⟩ := rd_lst st.toSk r2
      have e3 := fl_dp (rd_now st.toSk r1) e1
      have e4 := flAll_dp e2 p2
      subst e3 e4
      exact ⟨a2, vs2, rfl, .inl s2, fl_flat e1, flAll_flat e2, q⟩
    · exact ⟨_, cp_notInD h.1 h.2.1, k _ h.2.2⟩
  | tuple ds =>
    have h : inTplM x ds (fun b => Q (!b)) := h
    unfold inTplM at h
    split at h
    · rename_i v vs e1 e2
      refine ⟨_, cp_l fun σ F H v1 v2 st r1 r2 Q q => ?_, k _ h⟩
      obtain ⟨a2, vs2, rfl, s2, p2⟩ := rd_tup st.toSk r2
      have e3 := fl_dp (rd_now st.toSk r1) e1
      have e4 := flAll_dp e2 p2
      subst e3 e4
      exact ⟨a2, vs2, rfl, .inr s2, fl_flat e1, flAll_flat e2, q⟩
    · exact ⟨_, cp_notInTD h.1 h.2.1, k _ h.2.2⟩
  | str t =>
    cases x with
    | str s => exact ⟨_, cp_notInS, k _ h⟩
    | _ => exact (show False from h).elim
  | _ => exact (show False from h).elim
theorem isN_sh (k : Φ (isNone x)) : ∃ b, CP K g env rIsN x z1 .none z2 b ∧ Φ b := ⟨_, cp_isN, k⟩
theorem notN_sh (k : Φ (!isNone x)) : ∃ b, CP K g env rNotN x z1 .none z2 b ∧ Φ b := ⟨_, cp_notN, k⟩
end
section
variable {ma mb mt : KB → Prop} {Q : KB} {Φ : KB}
theorem WW.mono {Φ' : Bool → Prop} (h : WW X g e env Φ Ψ) (k : ∀ d, Φ d → Φ' d) : WW X g e env Φ' Ψ :=
  fun W tk σ F H st hx Q hQ => h W tk σ F H st hx Q fun b F' H' p => hQ b F' H' (k b p)
theorem ww_andS {re : List Expr} (h : andM ma mb Q) (ha : ∀ Q, ma Q → WT X g a env Q Ψ) (hb : ∀ Q, mb Q → WW X g (.BoolOp .And (b :: re) pos) env Q Ψ) (k : ∀ r, Q r → Φ r) : WW X g (.BoolOp .And (a :: b :: re) pos) env Φ Ψ :=
  ww_and ((ha _ h).mono fun r ⟨h1, h2⟩ => ⟨fun e => (hb _ (h1 e)).mono k, fun e => k _ (h2 e)⟩)
theorem ww_orS {re : List Expr} (h : orM ma mb Q) (ha : ∀ Q, ma Q → WT X g a env Q Ψ) (hb : ∀ Q, mb Q → WW X g (.BoolOp .Or (b :: re) pos) env Q Ψ) (k : ∀ r, Q r → Φ r) : WW X g (.BoolOp .Or (a :: b :: re) pos) env Φ Ψ :=
  ww_or ((ha _ h).mono fun r ⟨h1, h2⟩ => ⟨fun e => k _ (h1 e), fun e => (hb _ (h2 e)).mono k⟩)
theorem we_andS {re : List Expr} {Φ : PyData → Bool → Prop} (h : andM ma mb Q) (ha : ∀ Q, ma Q → WE X g a env (fun d _ => ∃ k, d = .bool k ∧ Q k) Ψ) (hb : ∀ Q, mb Q → WE X g (.BoolOp .And (b :: re) pos) env (fun d _ => ∃ k, d = .bool k ∧ Q k) Ψ) (k : ∀ r, Q r → Φ (.bool r) true) : WE X g (.BoolOp .And (a :: b :: re) pos) env Φ Ψ :=
  we_and ((ha _ h).mono fun d z ⟨r, hd, h1, h2⟩ => ⟨r, hd, fun e => by
    intro W tk σ F H st hx Q' hQ'
    refine hb _ (h1 e) W tk σ F H st hx Q' fun d z v F' H' ⟨r2, hd2, h3⟩ s1 e1 r1 => ?_
    subst hd2
    have := rd_bl r1
    subst this
    exact hQ' _ true _ F' H' (k _ h3) s1 e1 (.bl _), fun e => k _ (h2 e)⟩)
theorem we_ifS {m1 m2 : KD → Prop} {Q : KD} {Φ : PyData → Bool → Prop} (h : ifM mt m1 m2 Q) (ht : ∀ Q, mt Q → WT X g c env Q Ψ) (h1 : ∀ Q, m1 Q → WE X g a env (fun d z => z = true ∧ Q d) Ψ) (h2 : ∀ Q, m2 Q → WE X g b env (fun d z => z = true ∧ Q d) Ψ) (k : ∀ d, Q d → Φ d true) : WE X g (.IfExp c a b pos) env Φ Ψ :=
  we_if ((ht _ h).mono fun r ⟨q1, q2⟩ => ⟨fun e => (h1 _ (q1 e)).mono fun d z ⟨hz, hd⟩ => hz ▸ k d hd, fun e => (h2 _ (q2 e)).mono fun d z ⟨hz, hd⟩ => hz ▸ k d hd⟩)
end
section
variable {t : TG} {A : PyData → Option (List (Nat × PyData))} {τ υ : Type}
theorem forS {bd : PyData → τ → (τ → Prop) → (τ → Prop) → Prop} {Q : τ → Prop} {xs : List PyData} {s0 : τ} (h : forM bd Q xs s0) (mk : τ → υ → List Sl) (u0 : υ) (h0 : env = mk s0 u0) (hend : ∀ s u, Q s → P.nx (mk s u))
    (hturn : (∀ s u, Q s → P.nx (mk s u)) → ∀ x s u (N : τ → Prop), bd x s N Q → ∃ l, A x = some l ∧ (l.all fun q => Nat.blt q.1 (mk s u).length) = true ∧ WS X g body (putsE (mk s u) l) (P.turn fun e => ∃ s' u', N s' ∧ e = mk s' u')) :
    ∃ Pv : Nat → List Sl → Prop, Pv 0 env ∧ (∀ i x, xs[i]? = some x → FT X g body A P Pv i x) ∧ ∀ e, Pv xs.length e → P.nx e := by
  refine ⟨fun i e => ∃ s u, forM bd Q (xs.drop i) s ∧ e = mk s u, ⟨s0, u0, h, h0⟩, fun i x hx e ⟨s, u, hf, he⟩ => ?_, fun e ⟨s, u, hf, he⟩ => ?_⟩
  · subst he
    have hi := (List.getElem?_eq_some_iff.mp hx).1
    have ed : xs.drop i = x :: xs.drop (i + 1) := by
      rw [List.drop_eq_getElem_cons hi]
      congr 1
      exact (List.getElem?_eq_some_iff.mp hx).2
    rw [ed] at hf
    obtain ⟨l, h1, h2, h3⟩ := hturn hend x s u _ hf
    exact ⟨l, h1, h2, h3⟩
  · subst he
    rw [List.drop_length] at hf
    exact hend s u hf
theorem whileS {st : τ → (τ → Prop) → (τ → Prop) → Prop} {Q : τ → Prop} {s0 : τ} (h : ∃ n, whileM st Q n s0) (hp : PassesOwn (model X.prog X.w) X.A X.env X.xe) (mk : τ → υ → List Sl) (u0 : υ) (h0 : env = mk s0 u0) (hend : ∀ s u, Q s → P.nx (mk s u))
    (hturn : (∀ s u, Q s → P.nx (mk s u)) → ∀ s u (N : τ → Prop), st s N Q → WT X g c (mk s u) (fun k => (k = true → WS X g body (mk s u) (P.turn fun e => ∃ s' u', N s' ∧ e = mk s' u')) ∧ (k = false → P.nx (mk s u))) (fun c => P.ex c (mk s u))) : W1 X g (.While c body [] pos) env P := by
  obtain ⟨n, h⟩ := h
  refine w1_while hp (fun m e => ∃ s u, whileM st Q m s ∧ e = mk s u) n ⟨s0, u0, h, h0⟩ fun m e ⟨s, u, hw, he⟩ => ?_
  subst he
  cases m with
  | zero => exact hw.elim
  | succ m =>
    refine (hturn hend s u _ hw).mono fun k ⟨h1, h2⟩ => ⟨fun e => ?_, h2⟩
    exact (h1 e).mono (fun e ⟨s', u', h3, h4⟩ => ⟨m, Nat.lt_succ_self _, s', u', h3, h4⟩) (fun _ _ h => h) (fun _ h => h) (fun e ⟨s', u', h3, h4⟩ => ⟨m, Nat.lt_succ_self _, s', u', h3, h4⟩) (fun _ _ h => h)
theorem lcS {bd : PyData → KD → Prop → Prop} {Q : KL} {xs : List PyData} {scope : Scope} {ifs : List Expr} {elt : Expr} {vs : List Nat} {Φ : List PyData → Prop} (h : lcM bd Q xs []) 
    (ht : ∀ x (kp : KD) (sk : Prop), bd x kp sk → ∃ l, A x = some l ∧ (l.all fun q => vs.elem q.1 && Nat.blt q.1 env.length) = true ∧ ∀ (g' : G) s H0 C cl fp, WTs (BX X scope s H0 C cl fp) g' ifs (putsE (wipeE env vs) l) (fun b =>
      (b = true → ∀ s H0 C cl fp, WE (BX X scope s H0 C cl fp) g' elt (putsE (wipeE env vs) l) (fun y z => z = true ∧ kp y) (fun _ => False)) ∧ (b = false → sk))) (k : ∀ acc, Q acc → Φ acc) :
    ∃ Pv : Nat → List PyData → Prop, Pv 0 [] ∧ (∀ i x, xs[i]? = some x → LT2 X env scope ifs elt vs A Pv i x) ∧ ∀ acc, Pv xs.length acc → Φ acc := by
  refine ⟨fun i acc => lcM bd Q (xs.drop i) acc, h, fun i x hx acc hq => ?_, fun acc hq => k acc (by
    have hq : lcM bd Q (xs.drop xs.length) acc := hq
    rw [List.drop_length] at hq; exact hq)⟩
  have hi := (List.getElem?_eq_some_iff.mp hx).1
  have ed : xs.drop i = x :: xs.drop (i + 1) := by
    rw [List.drop_eq_getElem_cons hi]
    congr 1
    exact (List.getElem?_eq_some_iff.mp hx).2
  have hq : lcM bd Q (xs.drop i) acc := hq
  rw [ed] at hq
  exact ht x _ _ hq
end
/-- behind ways that come together -/
theorem ws_joinS {τ υ : Type} {st : Stmt} {bd : (τ → Prop) → Prop} {Q : τ → Prop} (h : joinM bd Q) (mk : τ → υ → List Sl) (h1 : ∀ Q, bd Q → W1 X g st env (P.thn fun e => ∃ s u, Q s ∧ e = mk s u)) (h2 : ∀ s u, Q s → WS X g rest (mk s u) P) : WS X g (st :: rest) env P :=
  ws_mid (fun e => ∃ s u, Q s ∧ e = mk s u) (h1 Q h) fun e ⟨s, u, hq, he⟩ => he ▸ h2 s u hq
end
end TL
namespace TL
open PySem PySem.Spec PyProof.Rows L2
def keyA : PyData → Option Key
  | .int i => some (.inl i)
  | .str s => some (.inr s)
  | _ => none
def keyAs : List PyData → Option (List Key)
  | [] => some []
  | d :: r => match keyA d, keyAs r with
    | some k, some l => some (k :: l)
    | _, _ => none
def keyT : PyData → Option (List Key)
  | .tuple xs => keyAs xs
  | _ => none
/-- keys that may be stored: a tuple of the module is none -/
def keyS : PyData → Option (List Key)
  | .tuple [.int a, .int b, .int c] => if a = 0 ∧ b = 1 ∧ c = 0 then none else some [.inl a, .inl b, .inl c]
  | d => keyT d
def getTM (kvs : List (List Key × PyData)) (key : PyData) (K : KD) : Prop := match keyT key with
  | some k => match valP kvs k with
    | some d => K d
    | none => False
  | none => False
def inTM (kvs : List (List Key × PyData)) (key : PyData) (K : KB) : Prop := match keyT key with
  | some k => K (valP kvs k).isSome
  | none => False
def inKM (kvs : List (Key × PyData)) (key : PyData) (K : KB) : Prop := match keyA key with
  | some k => K (valP kvs k).isSome
  | none => False
def putTM (kvs : List (List Key × PyData)) (key v : PyData) (K : List (List Key × PyData) → Prop) : Prop := match keyS key with
  | some k => kvs.length < sizeLine ∧ K (putP kvs k v)
  | none => False
def keysT (kvs : List (List Key × PyData)) : List PyData := kvs.map fun kv => .tuple (kv.1.map kD)
theorem keyA_eq {d : PyData} {k : Key} (h : keyA d = some k) : d = kD k := by
  unfold keyA at h
  split at h
  · cases h; rfl
  · cases h; rfl
  · cases h
theorem keyAs_eq : ∀ {ds : List PyData} {k : List Key}, keyAs ds = some k → ds = k.map kD
  | [], _, h => by cases h; rfl
  | d :: r, _, h => by
    unfold keyAs at h
    split at h
    · rename_i e1 e2
      cases h
      rw [keyA_eq e1, keyAs_eq e2]; rfl
    · cases h
theorem keyT_eq {d : PyData} {k : List Key} (h : keyT d = some k) : d = .tuple (k.map kD) := by
  unfold keyT at h
  split at h
  · rw [keyAs_eq h]
  · cases h
theorem keyS_eq {d : PyData} {k : List Key} (h : keyS d = some k) : keyT d = some k ∧ d ≠ startD := by
  unfold keyS at h
  split at h
  · split at h
    · cases h
    · rename_i hn
      cases h
      refine ⟨rfl, fun e => hn ?_⟩
      injection e with e
      injection e with e1 e
      injection e with e2 e
      injection e with e3 e
      injection e1 with e1
      injection e2 with e2
      injection e3 with e3
      exact ⟨e1, e2, e3⟩
  · rename_i hn
    exact ⟨h, fun e => hn 0 1 0 e⟩
section
variable {X : Cx} {g : G} {env env' : List Sl} {Ψ : Exc → Prop} {P : Po} {pos p lp : Pos} {a b c e tg iter : Expr} {es : List Expr} {rest body : List Stmt} {K : Frag} {F F' H H' : Hp} {σ σ' : SS} {x y : PyData} {z1 z2 : Bool}
theorem rng_sh {lo hi : PyData} {Q Φ : KL} (h : rngM lo hi Q) (k : ∀ r, Q r → Φ r) : rngM lo hi Φ := by
  unfold rngM at *
  split at h
  · exact ⟨h.1, k _ h.2⟩
  · exact h.elim
theorem enu_sh {Q Φ : KL} (h : enuM x Q) (k : ∀ r, Q r → Φ r) : enuM x Φ := by
  unfold enuM at *
  split at h
  · exact k _ h
  · exact k _ h
  · exact h.elim
theorem it_sh {Q Φ : KL} (h : itM x Q) (k : ∀ r, Q r → Φ r) : itM x Φ := by
  unfold itM at *
  split at h
  · exact k _ h
  · exact k _ h
  · exact ⟨h.1, k _ h.2⟩
  · exact h.elim
theorem ch_sh2 {ma mb : KB → Prop} {Q Φ : KB} {r r' : R2} (h : andM ma mb Q) (h1 : ∀ Q, ma Q → ∃ k, CP X.K g env r x z1 y z2 k ∧ Q k) (h2 : ∀ Q, mb Q → WE X g c env (fun d3 z3 => ∃ k', CP X.K g env r' y z2 d3 z3 k' ∧ Q k') Ψ) (k : ∀ b, Q b → Φ b) :
    ∃ k, CP X.K g env r x z1 y z2 k ∧ (k = true → WE X g c env (fun d3 z3 => ∃ k', CP X.K g env r' y z2 d3 z3 k' ∧ Φ k') Ψ) ∧ (k = false → Φ false) := by
  obtain ⟨b, hb, q1, q2⟩ := h1 _ h
  exact ⟨b, hb, fun e => (h2 _ (q1 e)).mono fun d z ⟨k', c1, c2⟩ => ⟨k', c1, k _ c2⟩, fun e => k _ (q2 e)⟩
theorem kvp_val {κ : Type} [DecidableEq κ] {k : κ} : ∀ {xs : List (κ × V)} {kvs : List (κ × PyData)}, KVp K F xs kvs → (∀ d, valP kvs k = some d → ∃ v, valV xs k = some v ∧ Dq K F v d) ∧ (valV xs k).isSome = (valP kvs k).isSome
  | _, _, .nil => ⟨fun d h => (by cases h), rfl⟩
  | p :: xs, q :: kvs, .cons r t => by
    obtain ⟨i1, i2⟩ := kvp_val (k := k) t
    unfold valV valP
    rw [List.find?_cons, List.find?_cons, r.1]
    by_cases h : q.1 = k
    · rw [decide_eq_true h]
      refine ⟨fun d hd => ?_, rfl⟩
      have e : q.2 = d := Option.some.inj hd
      exact ⟨p.2, rfl, e ▸ r.2⟩
    · rw [decide_eq_false h]
      exact ⟨i1, i2⟩
section
variable {kT : List (List Key × PyData)} {kA : List (Key × PyData)} {key v : PyData}
theorem inT_sh {Q Φ : KB} (h : inTM kT key Q) (k : ∀ r, Q r → Φ r) : ∃ q, keyT key = some q ∧ Φ (valP kT q).isSome := by
  unfold inTM at h
  split at h
  · rename_i e1; exact ⟨_, e1, k _ h⟩
  · exact h.elim
theorem inK_sh {Q Φ : KB} (h : inKM kA key Q) (k : ∀ r, Q r → Φ r) : ∃ q, keyA key = some q ∧ Φ (valP kA q).isSome := by
  unfold inKM at h
  split at h
  · rename_i e1; exact ⟨_, e1, k _ h⟩
  · exact h.elim
theorem notInT_sh {Q Φ : KB} (h : inTM kT key Q) (k : ∀ r, Q r → Φ (!r)) : ∃ q, keyT key = some q ∧ Φ (!(valP kT q).isSome) := inT_sh (Φ := fun r => Φ (!r)) h k
theorem putT_sh {Q Φ : List (List Key × PyData) → Prop} (h : putTM kT key v Q) (k : ∀ r, Q r → Φ r) : ∃ q, keyS key = some q ∧ kT.length < sizeLine ∧ Φ (putP kT q v) := by
  unfold putTM at h
  split at h
  · rename_i e1; exact ⟨_, e1, h.1, k _ h.2⟩
  · exact h.elim
end
section
variable {k0 : Nat} {xn : Str} {q tpos : Pos} {al : Addr}
theorem keyT_dp {v : V} {k : List Key} {d : PyData} (h : Dq K F v d) (e : keyT d = some k) : ∃ t, v = .ref t ∧ SqT K F t (k.map kV) := by
  rw [keyT_eq e] at h
  obtain ⟨t, xs, rfl, h1, h2⟩ := dp_tup h
  rw [keys_eq h2] at h1
  exact ⟨t, rfl, h1⟩
theorem keyS_dp {v : V} {k : List Key} {d : PyData} (h : Dq K F v d) (e : keyS d = some k) : ∃ t, v = .ref t ∧ F t = some (.tup (k.map kV)) := by
  obtain ⟨e1, e2⟩ := keyS_eq e
  have e3 := keyT_eq e1
  subst e3
  obtain ⟨t, xs, rfl, h1, h2⟩ := dp_tup' (fun z => e2 (congrArg PyData.tuple z)) h
  rw [keys_eq h2] at h1
  exact ⟨t, rfl, h1⟩
theorem keyA_dp {v : V} {k : Key} {d : PyData} (h : Dq K F v d) (e : keyA d = some k) : v = kV k := key_eq (keyA_eq e ▸ h)
theorem we_getT (i : Nat) {kvs : List (List Key × PyData)} {Φ : PyData → Bool → Prop} (hr : Room k0 X.A) (he : env[i]? = some (.dt al kvs) := by rfl) (h : WE X g a env (fun kd z => z = true ∧ ∃ k, keyT kd = some k ∧ ∃ d, valP kvs k = some d ∧ Φ d true) Ψ) (hN : X.N[i]? = some xn := by rfl)
    (hv : Vis X.env.scope xn := by first | exact Or.inl rfl | exact Or.inr (Or.inl rfl) | exact Or.inr (Or.inr rfl)) (hd : (xn == ("__debug__" : Str)) = false := by decide)
    (hcd : (xn == ("__classdict__" : Str)) = false := by decide) (hs : NoSl a := by exact fun _ _ => rfl) : WE X g (.Subscript (.Name xn q) a pos) env Φ Ψ := fun W tk σ F H st hx Q hQ => by
  refine semE_of (pe_dgetS (by have := hr.units; omega) (pe_var hN hv hd hcd) (peS a) hs) ?_
  obtain ⟨h1, vs, h2, h3⟩ := st.sl i _ he
  refine ⟨_, getD_some h1, ?_⟩
  refine h W tk σ F H st hx _ fun kd z v F1 H1 ⟨hz, k, hk, d, hd, hp⟩ s1 e1 r1 => ?_
  subst hz
  obtain ⟨t, rfl, ht⟩ := keyT_dp r1 hk
  obtain ⟨_, vs', h2', h3'⟩ := s1.sl i _ he
  obtain ⟨w, hw, dw⟩ := (kvp_val h3').1 d hd
  exact ⟨al, w, rfl, hw ▸ DGetS.t h2' (ex_t s1.ex ht), hQ d true w F1 H1 hp s1 e1 dw⟩
theorem wt_notInT (i : Nat) {kvs : List (List Key × PyData)} {Φ : KB} (hr : Room k0 X.A) (he : env[i]? = some (.dt al kvs) := by rfl) (h : WE X g a env (fun kd z => z = true ∧ ∃ k, keyT kd = some k ∧ Φ (!(valP kvs k).isSome)) Ψ) (hN : X.N[i]? = some xn := by rfl)
    (hv : Vis X.env.scope xn := by first | exact Or.inl rfl | exact Or.inr (Or.inl rfl) | exact Or.inr (Or.inr rfl)) (hd : (xn == ("__debug__" : Str)) = false := by decide)
    (hcd : (xn == ("__classdict__" : Str)) = false := by decide) (hm : behindInMarks .NotIn (.Name xn q) = false := by first | exact nomark _ | rfl) : WT X g (.Compare a [.NotIn] [.Name xn q] pos) env Φ Ψ := fun W tk σ F H st hx Q hQ => by
  refine semT_of (pt_cmp (pc_dnotinS (by have := hr.units; omega) (peS a) (pe_var hN hv hd hcd)) hm) ?_
  refine h W tk σ F H st hx _ fun kd z v F1 H1 ⟨hz, k, hk, hp⟩ s1 e1 r1 => ?_
  subst hz
  obtain ⟨t, rfl, ht⟩ := keyT_dp r1 hk
  obtain ⟨h1, vs', h2', h3'⟩ := s1.sl i _ he
  refine ⟨_, getD_some h1, al, valV vs' k, rfl, DGetS.t h2' (ex_t s1.ex ht), _, rfl, ?_⟩
  rw [(kvp_val h3').2]
  exact hQ _ F1 H1 hp s1 e1
theorem w1_storeTA (i : Nat) {kvs : List (List Key × PyData)} (hr : Room k0 X.A) (he : env[i]? = some (.dt al kvs) := by rfl)
    (h : WE X g e env (fun d z => z = true ∧ WE X g a env (fun kd z => z = true ∧ ∃ k, keyS kd = some k ∧ kvs.length < sizeLine ∧ P.nx (env.set i (.dt al (putP kvs k d)))) (fun c => P.ex c env)) (fun c => P.ex c env)) (hN : X.N[i]? = some xn := by rfl)
    (hv : Vis X.env.scope xn := by first | exact Or.inl rfl | exact Or.inr (Or.inl rfl) | exact Or.inr (Or.inr rfl)) (hd : (xn == ("__debug__" : Str)) = false := by decide)
    (hcd : (xn == ("__classdict__" : Str)) = false := by decide)
    (hs : swapsWith e (some (.Subscript (.Name xn q) a tpos)) pos.line X.env = pure false := by rfl) : W1 X g (.Assign [.Subscript (.Name xn q) a tpos] e pos) env P := fun W tk hx2 σ F H s0 D hD => by
  refine semP_of (ps_dput (by have := hr.units; omega) (pe_var hN hv hd hcd) (peS a) (peS e) hs) ?_
  refine h W tk σ F H s0 (hx2.hx env σ) _ fun d z v F1 H1 ⟨hz, hw⟩ s1 e1 r1 => ?_
  subst hz
  obtain ⟨h1, vs, h2, h3⟩ := s1.sl i _ he
  refine ⟨_, getD_some h1, ?_⟩
  refine hw W tk σ F1 H1 s1 (hx2.hx env σ) _ fun kd z w F2 H2 ⟨hz, k, hk, hlen, hp⟩ s2 e2 r2 => ?_
  subst hz
  obtain ⟨t, rfl, ht⟩ := keyS_dp r2 hk
  obtain ⟨h1', vs', h2', h3'⟩ := s2.sl i _ he
  refine ⟨al, _, rfl, DPut.t h2' (s2.ex _ _ ht) (by rw [kvp_len h3']; exact hlen), ?_⟩
  exact hD.nx _ _ _ _ hp (s2.write he rfl rfl ⟨h1', _, upd_same, kvp_put h3' (dp_mono e2 _ _ r1)⟩) (e1.trans e2)
end
/-- list(d), d a local dict -/
theorem wn_listTv (i : Nat) {kvs : List (List Key × PyData)} {al : Addr} {xn : Str} {q : Pos} {Φ : List PyData → Prop} (hm : X.mg "list" = none) (hc : X.calm = true) (h : Φ (keysT kvs)) (he : env[i]? = some (.dt al kvs) := by rfl) (hN : X.N[i]? = some xn := by rfl)
    (hv : Vis X.env.scope xn := by first | exact Or.inl rfl | exact Or.inr (Or.inl rfl) | exact Or.inr (Or.inr rfl)) (hd : (xn == ("__debug__" : Str)) = false := by decide)
    (hcd : (xn == ("__classdict__" : Str)) = false := by decide) (hg : Gl X "list" := by rfl) (hes : starEach [Expr.Name xn q] X.env = (false, eval (.Name xn q) X.env) :: starEach [] X.env := by rfl) (hpl : (backTo pos (starEach ([] : List Expr) X.env)).any (·.1) = false := by rfl) : WN X g (.Call (.Name "list" p) [.Name xn q] [] pos) env Φ Ψ := fun W tk σ F H st hx Q hQ => by
  refine semE_of (pe_callTy (call_list_dT hc) hg hm (by decide +kernel) (pa_cons (pe_var hN hv hd hcd) pa_nil hes) (by decide) (by decide) hes hpl) ?_
  obtain ⟨h1, vs, h2, h3⟩ := st.sl i _ he
  refine ⟨_, getD_some h1, al, vs, rfl, .inl h2, fun pn bs hn hb => ?_⟩
  exact put_new st hn (keys_dpa (kvs := kvs) st.tf h3 hb) h hQ
structure GTup (K : Frag) (mg : Str → Option Value) (x : Str) (ds : List PyData) : Prop where
  ex : ∃ a vs, mg x = some (.ref a) ∧ flAll ds = some vs ∧ ∀ H, SqT K H a vs
theorem flAll_dq : ∀ {ds : List PyData} {vs : List V}, flAll ds = some vs → DqAll K F vs ds
  | [], _, h => by cases h; exact .nil
  | d :: r, _, h => by
    unfold flAll at h
    split at h
    · rename_i e1 e2
      cases h
      refine .cons ?_ (flAll_dq e2)
      cases d with
      | int i => cases e1; exact .int i
      | str s => cases e1; exact .str s
      | none => cases e1; exact .non
      | _ => cases e1
    · cases h
theorem wi_g {xn : Str} {q : Pos} {ds : List PyData} {Φ : List PyData → Prop} (hG : GTup X.K X.mg xn ds) (h : Φ ds) (hg : Gl X xn := by rfl) (hd : (xn == ("__debug__" : Str)) = false := by decide) : WI X g tg (.Name xn q) env Φ Ψ := fun W tk σ F H st hx R hR => by
  obtain ⟨a, vs, hm, hf, hs⟩ := hG.ex
  refine semI_of (pi_any (pe_glob hg hm (v := .ref a) rfl hd)) ?_
  exact .inr (.inl ⟨a, vs, rfl, hs H, fun hl => hR ds _ F H h (by rw [← dpa_len (flAll_dq (K := X.K) (F := F) hf)]; exact hl) st (Ex.refl F) (itok_at walk_tup (fun H _ => hs H) (flAll_dq hf))⟩)
end
theorem Has.imp {P : Program} {w : World} {K : Frag} {mg : Str → Option Value} {base : Heap} {j : Nat} {x : Str} {ps : List Str} {S S' : CT} (h : Has P w K mg base j x ps S) (i : ∀ args Φ Ψ, S' args Φ Ψ → S args Φ Ψ) : Has P w K mg base j x ps S' := by
  obtain ⟨f, fd, h1, h2, h3, h4⟩ := h.ex
  have up : ∀ vs H Q E, spOf K ps.length S' vs H Q E → spOf K ps.length S vs H Q E := fun vs H Q E ⟨q1, F, args, Φ, Ψ, q2, q3⟩ => ⟨q1, F, args, Φ, Ψ, i _ _ _ q2, q3⟩
  exact ⟨f, fd, h1, h2, h3, ⟨fun vs H Q E q => h4.len vs H Q E (up _ _ _ _ q), fun A outer s H args us vs Q E r e b v q => h4.run A outer s H args us vs Q E r e b v (up _ _ _ _ q)⟩⟩
theorem forM_inv {α τ : Type} {bd : PyData → τ → (τ → Prop) → (τ → Prop) → Prop} {K : τ → Prop} (L : List α) (d : α → PyData) (I : Nat → τ → Prop) (h : ∀ i a, L[i]? = some a → ∀ s, I i s → ∀ N : τ → Prop, (∀ s', I (i + 1) s' → N s') → bd (d a) s N K) (hK : ∀ s, I L.length s → K s) (s0 : τ) (h0 : I 0 s0) : forM bd K (L.map d) s0 := by
  have go : ∀ (M : List α) (i : Nat), (∀ j a, M[j]? = some a → L[i + j]? = some a) → i + M.length = L.length → ∀ s, I i s → forM bd K (M.map d) s := by
    intro M
    induction M with
    | nil => intro i _ hl s hs; exact hK s (by rw [← hl]; exact hs)
    | cons a M ih =>
      intro i hM hl s hs
      refine h i a (hM 0 a rfl) s hs _ fun s' hs' => ih (i + 1) (fun j b hj => ?_) (by simp only [List.length_cons] at hl; omega) s' hs'
      have := hM (j + 1) b hj
      rwa [show i + (j + 1) = i + 1 + j by omega] at this
  exact go L 0 (fun j a hj => by rwa [Nat.zero_add]) (by simp) s0 h0
end TL
namespace TL
open PySem PySem.Spec PyProof.Rows L2
section
variable {X : Cx} {g : G} {env env' : List Sl} {Ψ : Exc → Prop} {P : Po} {pos p lp : Pos} {a b c e tg iter : Expr} {es : List Expr} {rest body : List Stmt} {K : Frag} {F F' H H' : Hp} {σ σ' : SS} {x y : PyData} {z1 z2 : Bool} {Φ : PyData → Bool → Prop}
theorem sum_m {Q Q' : KD} (h : sumM x Q) (k : ∀ r, Q r → Q' r) : sumM x Q' := by
  unfold sumM at *
  split at h
  · split at h
    · exact k _ h
    · exact h.elim
  · exact h.elim
theorem all_m {Q Q' : KD} (h : allM x Q) (k : ∀ r, Q r → Q' r) : allM x Q' := by
  unfold allM at *
  split at h
  · split at h
    · exact k _ h
    · exact h.elim
  · exact h.elim
theorem any_m {Q Q' : KD} (h : anyM x Q) (k : ∀ r, Q r → Q' r) : anyM x Q' := by
  unfold anyM at *
  split at h
  · split at h
    · exact k _ h
    · exact h.elim
  · exact h.elim
theorem min2_m {Q Q' : KD} (h : min2M x y Q) (k : ∀ r, Q r → Q' r) : min2M x y Q' := by
  unfold min2M at *
  split at h
  · exact k _ h
  · exact h.elim
theorem max2_m {Q Q' : KD} (h : max2M x y Q) (k : ∀ r, Q r → Q' r) : max2M x y Q' := by
  unfold max2M at *
  split at h
  · exact k _ h
  · exact h.elim
theorem sort_m {Q Q' : KL} (h : sortM x Q) (k : ∀ r, Q r → Q' r) : sortM x Q' := by
  unfold sortM at *
  split at h
  · exact ⟨h.1, k _ h.2⟩
  · exact h.elim
section
variable {kT : List (List Key × PyData)} {kA : List (Key × PyData)} {key v : PyData}
theorem inT_m {Q Q' : KB} (h : inTM kT key Q) (k : ∀ r, Q r → Q' r) : inTM kT key Q' := by
  unfold inTM at *
  split at h
  · exact k _ h
  · exact h.elim
theorem putT_m {Q Q' : List (List Key × PyData) → Prop} (h : putTM kT key v Q) (k : ∀ r, Q r → Q' r) : putTM kT key v Q' := by
  unfold putTM at *
  split at h
  · exact ⟨h.1, k _ h.2⟩
  · exact h.elim
end
theorem we_sumA (hm : X.mg "sum" = none) (hc : X.calm = true) (h : WE X g a env (fun d _ => sumM d fun r => Φ r true) Ψ) (hg : Gl X "sum" := by rfl) (he : starEach [a] X.env = (false, eval a X.env) :: starEach [] X.env := by rfl) (hpl : (backTo pos (starEach ([] : List Expr) X.env)).any (·.1) = false := by rfl) : WE X g (.Call (.Name "sum" p) [a] [] pos) env Φ Ψ :=
  we_sum hm hc (h.mono fun d z h => sum_sh (Φ := Φ) h fun _ h => h) hg he
theorem we_allA (hm : X.mg "all" = none) (hc : X.calm = true) (h : WE X g a env (fun d _ => allM d fun r => Φ r true) Ψ) (hg : Gl X "all" := by rfl) (he : starEach [a] X.env = (false, eval a X.env) :: starEach [] X.env := by rfl) (hpl : (backTo pos (starEach ([] : List Expr) X.env)).any (·.1) = false := by rfl) : WE X g (.Call (.Name "all" p) [a] [] pos) env Φ Ψ :=
  we_all hm hc (h.mono fun d z h => all_sh (Φ := Φ) h fun _ h => h) hg he
theorem we_anyA (hm : X.mg "any" = none) (hc : X.calm = true) (h : WE X g a env (fun d _ => anyM d fun r => Φ r true) Ψ) (hg : Gl X "any" := by rfl) (he : starEach [a] X.env = (false, eval a X.env) :: starEach [] X.env := by rfl) (hpl : (backTo pos (starEach ([] : List Expr) X.env)).any (·.1) = false := by rfl) : WE X g (.Call (.Name "any" p) [a] [] pos) env Φ Ψ :=
  we_any hm hc (h.mono fun d z h => any_sh (Φ := Φ) h fun _ h => h) hg he
theorem we_min2A (hm : X.mg "min" = none) (hc : X.calm = true) (h : WE X g a env (fun d1 _ => WE X g b env (fun d2 _ => min2M d1 d2 fun r => Φ r true) Ψ) Ψ) (hg : Gl X "min" := by rfl) (he : starEach [a, b] X.env = (false, eval a X.env) :: starEach [b] X.env := by rfl) (he2 : starEach [b] X.env = (false, eval b X.env) :: starEach [] X.env := by rfl) (hpl : (backTo pos (starEach [b] X.env)).any (·.1) = false := by rfl) : WE X g (.Call (.Name "min" p) [a, b] [] pos) env Φ Ψ :=
  we_min2 hm hc (h.mono fun d z h => h.mono fun d z h => min2_sh (Φ := Φ) h fun _ h => h) hg he he2 hpl
theorem we_max2A (hm : X.mg "max" = none) (hc : X.calm = true) (h : WE X g a env (fun d1 _ => WE X g b env (fun d2 _ => max2M d1 d2 fun r => Φ r true) Ψ) Ψ) (hg : Gl X "max" := by rfl) (he : starEach [a, b] X.env = (false, eval a X.env) :: starEach [b] X.env := by rfl) (he2 : starEach [b] X.env = (false, eval b X.env) :: starEach [] X.env := by rfl) (hpl : (backTo pos (starEach [b] X.env)).any (·.1) = false := by rfl) : WE X g (.Call (.Name "max" p) [a, b] [] pos) env Φ Ψ :=
  we_max2 hm hc (h.mono fun d z h => h.mono fun d z h => max2_sh (Φ := Φ) h fun _ h => h) hg he he2 hpl
theorem wn_sortedA {k : Nat} {Φ : List PyData → Prop} (hm : X.mg "sorted" = none) (hr : Room k X.A) (h : WE X g a env (fun d _ => sortM d Φ) Ψ) (hg : Gl X "sorted" := by rfl) (he : starEach [a] X.env = (false, eval a X.env) :: starEach [] X.env := by rfl) : WN X g (.Call (.Name "sorted" p) [a] [] pos) env Φ Ψ :=
  wn_sorted hm hr (h.mono fun d z h => sort_sh (Φ := Φ) h fun _ h => h) hg he
section
variable {k0 : Nat} {xn : Str} {q tpos : Pos} {al : Addr}
theorem wt_notInTA (i : Nat) {kvs : List (List Key × PyData)} {Φ : KB} (hr : Room k0 X.A) (h : WE X g a env (fun kd z => z = true ∧ inTM kvs kd fun r => Φ (!r)) Ψ) (he : env[i]? = some (.dt al kvs) := by rfl) (hN : X.N[i]? = some xn := by rfl)
    (hv : Vis X.env.scope xn := by first | exact Or.inl rfl | exact Or.inr (Or.inl rfl) | exact Or.inr (Or.inr rfl)) (hd : (xn == ("__debug__" : Str)) = false := by decide)
    (hcd : (xn == ("__classdict__" : Str)) = false := by decide) (hm : behindInMarks .NotIn (.Name xn q) = false := by first | exact nomark _ | rfl) : WT X g (.Compare a [.NotIn] [.Name xn q] pos) env Φ Ψ :=
  wt_notInT i hr he (h.mono fun d z ⟨hz, h⟩ => ⟨hz, notInT_sh (Φ := Φ) h fun _ h => h⟩) hN hv hd hcd hm
theorem w1_storeTB (i : Nat) {kvs : List (List Key × PyData)} (hr : Room k0 X.A)
    (h : WE X g e env (fun d z => z = true ∧ WE X g a env (fun kd z => z = true ∧ putTM kvs kd d fun r => P.nx (env.set i (.dt al r))) (fun c => P.ex c env)) (fun c => P.ex c env)) (he : env[i]? = some (.dt al kvs) := by rfl) (hN : X.N[i]? = some xn := by rfl)
    (hv : Vis X.env.scope xn := by first | exact Or.inl rfl | exact Or.inr (Or.inl rfl) | exact Or.inr (Or.inr rfl)) (hd : (xn == ("__debug__" : Str)) = false := by decide)
    (hcd : (xn == ("__classdict__" : Str)) = false := by decide)
    (hs : swapsWith e (some (.Subscript (.Name xn q) a tpos)) pos.line X.env = pure false := by rfl) : W1 X g (.Assign [.Subscript (.Name xn q) a tpos] e pos) env P :=
  w1_storeTA i hr he (h.mono fun d z ⟨hz, h⟩ => ⟨hz, h.mono fun d z ⟨hz, h⟩ => ⟨hz, putT_sh (Φ := fun r => P.nx (env.set i (.dt al r))) h fun _ h => h⟩⟩) hN hv hd hcd hs
end
end
end TL
namespace TL
open PySem PySem.Spec PyProof.Rows L2
section
variable {i j : Int} {s t : Str} {b c : Bool} {xs ys : List PyData} {x y z u : PyData} {K : KD} {KL' : KL} {KB' : KB} {E : KX}
theorem q_add_ii : addM (.int i) (.int j) K = K (.int (i + j)) := rfl
theorem q_add_ss : addM (.str s) (.str t) K = (s.length + t.length ≤ sizeLine ∧ K (.str (s ++ t))) := rfl
theorem q_add_ll : addM (.list xs) (.list ys) K = (xs.length + ys.length ≤ sizeLine ∧ K (.list (xs ++ ys))) := rfl
theorem q_add_tt : addM (.tuple xs) (.tuple ys) K = (xs.length + ys.length ≤ sizeLine ∧ K (.tuple (xs ++ ys))) := rfl
theorem q_addL : addLM (.list xs) (.list ys) KL' = (xs.length + ys.length ≤ sizeLine ∧ KL' (xs ++ ys)) := rfl
theorem q_sub : subM (.int i) (.int j) K = K (.int (i - j)) := rfl
theorem q_mul : mulM (.int i) (.int j) K = ((CMul i j ∨ CMulW i j) ∧ K (.int (i * j))) := rfl
theorem q_div : divM (.int i) (.int j) K = (CDivW i j ∧ K (.int (i / j))) := rfl
theorem q_mod : modM (.int i) (.int j) K = (0 < j ∧ K (.int (i % j))) := rfl
theorem q_neg : negM (.int i) K = K (.int (-i)) := rfl
theorem q_bool : boolM (.bool b) KB' = KB' b := rfl
theorem q_eq_ii : eqM (.int i) (.int j) KB' = KB' (decide (i = j)) := rfl
theorem q_eq_ss : eqM (.str s) (.str t) KB' = KB' (decide (s = t)) := rfl
theorem q_eq_bb : eqM (.bool b) (.bool c) KB' = KB' (decide (b = c)) := rfl
theorem q_ne_ii : neM (.int i) (.int j) KB' = KB' (!decide (i = j)) := rfl
theorem q_ne_ss : neM (.str s) (.str t) KB' = KB' (!decide (s = t)) := rfl
theorem q_ne_bb : neM (.bool b) (.bool c) KB' = KB' (!decide (b = c)) := rfl
theorem q_lt : ltM (.int i) (.int j) KB' = KB' (decide (i < j)) := rfl
theorem q_le : leM (.int i) (.int j) KB' = KB' (decide (i ≤ j)) := rfl
theorem q_gt : gtM (.int i) (.int j) KB' = KB' (decide (j < i)) := rfl
theorem q_ge : geM (.int i) (.int j) KB' = KB' (decide (j ≤ i)) := rfl
theorem q_un2 {K : PyData → PyData → Prop} : un2 (.tuple [x, y]) K = K x y := rfl
theorem q_un3 {K : PyData → PyData → PyData → Prop} : un3 (.tuple [x, y, z]) K = K x y z := rfl
theorem q_un4 {K : PyData → PyData → PyData → PyData → Prop} : un4 (.tuple [x, y, z, u]) K = K x y z u := rfl
theorem q_intO {K : Int → Prop} : intO (.int i) K = K i := rfl
theorem q_len_l : lenM (.list xs) K = K (.int xs.length) := rfl
theorem q_len_t : lenM (.tuple xs) K = K (.int xs.length) := rfl
theorem q_len_s : lenM (.str s) K = (s.length ≤ sizeLine ∧ K (.int s.length)) := rfl
theorem q_abs : absM (.int i) K = K (.int (if i < 0 then -i else i)) := rfl
theorem q_int_i : intM (.int i) K = K (.int i) := rfl
theorem q_int_b : intM (.bool b) K = K (.int (if b then 1 else 0)) := rfl
theorem q_tup_l : tupM (.list xs) K = K (.tuple xs) := rfl
theorem q_tup_t : tupM (.tuple xs) K = K (.tuple xs) := rfl
theorem q_list_l : listM (.list xs) KL' = KL' xs := rfl
theorem q_list_t : listM (.tuple xs) KL' = KL' xs := rfl
theorem q_min : min2M (.int i) (.int j) K = K (.int (if j < i then j else i)) := rfl
theorem q_max : max2M (.int i) (.int j) K = K (.int (if j > i then j else i)) := rfl
theorem q_it_l : itM (.list xs) KL' = KL' xs := rfl
theorem q_it_t : itM (.tuple xs) KL' = KL' xs := rfl
theorem q_rng : rngM (.int i) (.int j) KL' = ((-1000000 ≤ i ∧ i ≤ 1000000 ∧ -1000000 ≤ j ∧ j ≤ 1000000) ∧ KL' (rangeL i j)) := rfl
theorem q_enu_l : enuM (.list xs) KL' = KL' (enumL xs) := rfl
theorem q_enu_t : enuM (.tuple xs) KL' = KL' (enumL xs) := rfl
theorem q_rev : revM (.list xs) KL' = KL' xs.reverse := rfl
theorem q_sl_l {lo hi : Option Int} : slM (.list xs) lo hi K = K (.list (cut xs lo hi)) := rfl
theorem q_sl_t {lo hi : Option Int} : slM (.tuple xs) lo hi K = K (.tuple (cut xs lo hi)) := rfl
theorem q_sl_s {lo hi : Option Int} : slM (.str s) lo hi K = (s.length ≤ sizeLine ∧ K (.str (cutS s lo hi))) := rfl
theorem q_slL {lo hi : Option Int} : slLM (.list xs) lo hi KL' = KL' (cut xs lo hi) := rfl
theorem q_all (ns : List Bool) : allM (.list (ns.map .bool)) K = K (.bool (ns.all id)) := by
  show (match boolsOf (ns.map .bool) with | some ns => K (.bool (ns.all id)) | none => False) = _
  rw [bools_of]
theorem q_any (ns : List Bool) : anyM (.list (ns.map .bool)) K = K (.bool (ns.any id)) := by
  show (match boolsOf (ns.map .bool) with | some ns => K (.bool (ns.any id)) | none => False) = _
  rw [bools_of]
theorem q_sum (ns : List Int) : sumM (.list (ns.map .int)) K = K (.int ns.sum) := by
  show (match intsOf (ns.map .int) with | some ns => K (.int ns.sum) | none => False) = _
  rw [ints_of]
theorem q_sort_pp (L : List (Int × Int)) : sortM (.list (L.map ppD)) KL' = KL' (srt (L.map ppD)) := by
  unfold sortM
  exact propext ⟨fun h => h.2, fun h => ⟨⟨pairs_alike _, pairs_sortable _, pairs_depth _⟩, h⟩⟩
theorem q_and {b1 b2 : Bool} : andM (fun Q => Q b1) (fun Q => Q b2) KB' = KB' (b1 && b2) := by
  unfold andM; cases b1 <;> simp
theorem q_or {b1 b2 : Bool} : orM (fun Q => Q b1) (fun Q => Q b2) KB' = KB' (b1 || b2) := by
  unfold orM; cases b1 <;> simp
theorem q_and' {ma mb : KB → Prop} {b1 : Bool} (h : ∀ Q, ma Q = Q b1) {b2 : Bool} (h2 : b1 = true → ∀ Q, mb Q = Q b2) : andM ma mb KB' = KB' (b1 && b2) := by
  unfold andM; rw [h]; cases b1
  · simp
  · rw [h2 rfl]; simp
theorem q_ite {b : Bool} {A B : Prop} : ((b = true → A) ∧ (b = false → B)) = cond b A B := by cases b <;> simp
theorem q_join {σ : Type} {bd : (σ → Prop) → Prop} {K : σ → Prop} : joinM bd K = bd K := rfl
theorem q_lc_cons {β : Type} {bd : PyData → (β → Prop) → Prop → Prop} {K : List β → Prop} {acc : List β} : lcM bd K (x :: xs) acc = bd x (fun y => lcM bd K xs (acc ++ [y])) (lcM bd K xs acc) := rfl
theorem q_for_nil {σ : Type} {bd : PyData → σ → (σ → Prop) → (σ → Prop) → Prop} {K : σ → Prop} {s : σ} : forM bd K [] s = K s := rfl
theorem q_for_cons {σ : Type} {bd : PyData → σ → (σ → Prop) → (σ → Prop) → Prop} {K : σ → Prop} {s : σ} : forM bd K (x :: xs) s = bd x s (fun s' => forM bd K xs s') K := rfl
/-- a comprehension told at once -/
theorem q_lc_map {α β : Type} {bd : PyData → (β → Prop) → Prop → Prop} {K : List β → Prop} (L : List α) (d : α → PyData) (f : α → β) (h : ∀ a ∈ L, ∀ k s, bd (d a) k s = k (f a)) (acc : List β) : lcM bd K (L.map d) acc = K (acc ++ L.map f) := by
  induction L generalizing acc with
  | nil => rw [List.map_nil, List.map_nil, List.append_nil]; rfl
  | cons a L ih =>
    rw [List.map_cons, q_lc_cons, h a (by simp), ih fun b hb => h b (List.mem_cons_of_mem _ hb)]
    simp
theorem q_lc_fil {α β : Type} {bd : PyData → (β → Prop) → Prop → Prop} {K : List β → Prop} (L : List α) (d : α → PyData) (p : α → Bool) (f : α → β) (h : ∀ a ∈ L, ∀ (k : β → Prop) (s : Prop), bd (d a) k s = cond (p a) (k (f a)) s) (acc : List β) : lcM bd K (L.map d) acc = K (acc ++ (L.filter p).map f) := by
  induction L generalizing acc with
  | nil => rw [List.map_nil, List.filter_nil, List.map_nil, List.append_nil]; rfl
  | cons a L ih =>
    rw [List.map_cons, q_lc_cons, h a (by simp), ih fun b hb => h b (List.mem_cons_of_mem _ hb), ih fun b hb => h b (List.mem_cons_of_mem _ hb)]
    cases e : p a <;> simp [e]
/-- a loop whose states are known, one after the other -/
theorem q_for_seq {α τ : Type} {bd : PyData → τ → (τ → Prop) → (τ → Prop) → Prop} {K : τ → Prop} (L : List α) (d : α → PyData) (S : Nat → τ) (h : ∀ i a, L[i]? = some a → ∀ N : τ → Prop, bd (d a) (S i) N K = N (S (i + 1))) : forM bd K (L.map d) (S 0) = K (S L.length) := by
  have go : ∀ (M : List α) (i : Nat), (∀ j a, M[j]? = some a → L[i + j]? = some a) → i + M.length = L.length → forM bd K (M.map d) (S i) = K (S L.length) := by
    intro M
    induction M with
    | nil => intro i _ hl; rw [← hl]; rfl
    | cons a M ih =>
      intro i hM hl
      rw [List.map_cons, q_for_cons, h i a (hM 0 a rfl)]
      refine ih (i + 1) (fun j b hj => ?_) (by simp only [List.length_cons] at hl; omega)
      have := hM (j + 1) b hj
      rwa [show i + (j + 1) = i + 1 + j by omega] at this
  exact go L 0 (fun j a hj => by rwa [Nat.zero_add]) (by simp)
/-- a loop that goes on while p holds, else ends in r -/
theorem q_for_all {α : Type} {bd : PyData → Unit → (Unit → Prop) → (Unit → Prop) → Prop} {K : Unit → Prop} {R : Prop} (L : List α) (d : α → PyData) (p : α → Bool) (h : ∀ a ∈ L, ∀ (N : Unit → Prop), bd (d a) () N K = cond (p a) (N ()) R) : forM bd K (L.map d) () = cond (L.all p) (K ()) R := by
  induction L with
  | nil => simp [q_for_nil]
  | cons a L ih =>
    rw [List.map_cons, q_for_cons, h a (by simp)]
    cases e : p a
    · simp [e]
    · simp only [e, cond_true, List.all_cons, Bool.true_and]
      exact ih fun b hb => h b (List.mem_cons_of_mem _ hb)
theorem range0 (n : Int) : rangeL 0 n = (List.range n.toNat).map fun (i : Nat) => PyData.int i := by unfold rangeL; simp
theorem enum_map {α : Type} (L : List α) (d : α → PyData) : enumL (L.map d) = (L.mapIdx fun i a => (i, a)).map fun q => PyData.tuple [.int (q.1 : Nat), d q.2] := by
  unfold enumL
  refine List.ext_getElem? fun i => ?_
  rw [List.getElem?_mapIdx, List.getElem?_map, List.getElem?_map, List.getElem?_mapIdx]
  cases L[i]? <;> rfl
end
end TL
namespace TL
open PySem PySem.Spec PyProof.Rows L2 He
abbrev XF := PySem.W.Frag → Bool
def obsX (ex : List XF) (fa : List Fa) (fn : List DefD) (K : PySem.W.Frag) : AlD := ((obsD fa fn K).1 && ex.all fun e => e K, (obsD fa fn K).2)
def SaysX (ex : List XF) (fa : List Fa) (fn : List DefD) (K : PySem.W.Frag) : Prop := obsX ex fa fn K = valD fn
section
variable {ex : List XF} {fa : List Fa} {fn : List DefD} {K : PySem.W.Frag} {mg : Str → Option Value} {h : Heap}
theorem SaysX.d (c : SaysX ex fa fn K) : SaysD fa fn K := by
  have c1 : ((obsD fa fn K).1 && ex.all fun e => e K) = true := congrArg (fun z : AlD => z.1) c
  have c2 : (obsD fa fn K).2 = fn.map DefD.val := congrArg (fun z : AlD => z.2) c
  exact Prod.ext (ba c1).1 c2
theorem SaysX.xf (c : SaysX ex fa fn K) (i : Nat) {e : XF} (h : ex[i]? = some e := by rfl) : e K = true := by
  have c1 : ((obsD fa fn K).1 && ex.all fun e => e K) = true := congrArg (fun z : AlD => z.1) c
  exact List.all_eq_true.mp (ba c1).2 e (List.mem_of_getElem? h)
theorem gtup_ok (X : K.In h) (G : h.Ns mainGlobals mg) {x : Str} {vs : List Dv} {ds : List PyData} (c : (Fa.glo x).ok K = true) (t : tupB K x vs = true) (hd : flAll ds = some (vs.map (Dv.v K)) := by rfl) : GTup K mg x ds :=
  ⟨ga K x, _, glo_ok X G c, hd, fun H => tupB_ok t H⟩
end
end TL
namespace TL
open PySem PySem.Spec PyProof.Rows L2
abbrev ooS (a : Addr) (as : List Addr) (ds : List (List PyData)) : Sl := .oo a (as.zip ds)
def rowM (ds : List (List PyData)) : PyData → KL → Prop
  | .int n, K => match atI ds n with
    | some l => K l
    | none => False
  | _, _ => False
def rowAppM (ds : List (List PyData)) : PyData → PyData → (List (List PyData) → Prop) → Prop
  | .int n, y, K => match ixN ds.length n with
    | some j => match ds[j]? with
      | some l => l.length < sizeLine ∧ K (ds.set j (l ++ [y]))
      | none => False
    | none => False
  | _, _, _ => False
section
variable {X : Cx} {g : G} {env env' : List Sl} {Ψ : Exc → Prop} {P : Po} {pos p lp : Pos} {a b c e tg iter : Expr} {es : List Expr} {rest body : List Stmt} {K : Frag} {F F' H H' : Hp} {σ σ' : SS} {x y : PyData} {z1 z2 : Bool} {Φ : PyData → Bool → Prop}
theorem rowApp_m {ds : List (List PyData)} {Q Q' : List (List PyData) → Prop} (h : rowAppM ds x y Q) (k : ∀ r, r.length = ds.length → Q r → Q' r) : rowAppM ds x y Q' := by
  unfold rowAppM at *
  split at h
  · split at h
    · split at h
      · exact ⟨h.1, k _ (by rw [List.length_set]) h.2⟩
      · exact h.elim
    · exact h.elim
  · exact h.elim
theorem row_m {ds : List (List PyData)} {Q Q' : KL} (h : rowM ds x Q) (k : ∀ r, Q r → Q' r) : rowM ds x Q' := by
  unfold rowM at *
  split at h
  · split at h
    · exact k _ h
    · exact h.elim
  · exact h.elim
theorem row_ob {ds : List (List PyData)} {Q : KL} (h : rowM ds x Q) : ∃ n l, x = .int n ∧ atI ds n = some l ∧ Q l := by
  unfold rowM at h
  split at h
  · split at h
    · rename_i e; exact ⟨_, _, rfl, e, h⟩
    · exact h.elim
  · exact h.elim
/-- for, with a side word about state and objects -/
theorem forSC {A : PyData → Option (List (Nat × PyData))} {τ υ : Type} {bd : PyData → τ → (τ → Prop) → (τ → Prop) → Prop} {Q : τ → Prop} {xs : List PyData} {s0 : τ} (h : forM bd Q xs s0) (mk : τ → υ → List Sl) (C : τ → υ → Prop) (u0 : υ) (h0 : env = mk s0 u0) (c0 : C s0 u0) (hend : ∀ s u, C s u → Q s → P.nx (mk s u))
    (hturn : (∀ s u, C s u → Q s → P.nx (mk s u)) → ∀ x s u (N : τ → Prop), C s u → bd x s N Q → ∃ l, A x = some l ∧ (l.all fun q => Nat.blt q.1 (mk s u).length) = true ∧ WS X g body (putsE (mk s u) l) (P.turn fun e => ∃ s' u', N s' ∧ C s' u' ∧ e = mk s' u')) :
    ∃ Pv : Nat → List Sl → Prop, Pv 0 env ∧ (∀ i x, xs[i]? = some x → FT X g body A P Pv i x) ∧ ∀ e, Pv xs.length e → P.nx e := by
  refine ⟨fun i e => ∃ s u, forM bd Q (xs.drop i) s ∧ C s u ∧ e = mk s u, ⟨s0, u0, h, c0, h0⟩, fun i x hx e ⟨s, u, hf, hc, he⟩ => ?_, fun e ⟨s, u, hf, hc, he⟩ => ?_⟩
  · subst he
    have hi := (List.getElem?_eq_some_iff.mp hx).1
    have ed : xs.drop i = x :: xs.drop (i + 1) := by
      rw [List.drop_eq_getElem_cons hi]
      congr 1
      exact (List.getElem?_eq_some_iff.mp hx).2
    rw [ed] at hf
    obtain ⟨l, h1, h2, h3⟩ := hturn hend x s u _ hc hf
    exact ⟨l, h1, h2, h3⟩
  · subst he
    rw [List.drop_length] at hf
    exact hend s u hc hf
/-- x[k], a row -/
theorem we_ixOO (i : Nat) {al : Addr} {as : List Addr} {ds : List (List PyData)} {xn : Str} {q : Pos} (hl : as.length = ds.length) (h : WE X g a env (fun d _ => rowM ds d fun l => Φ (.list l) false) Ψ) (he : env[i]? = some (ooS al as ds) := by rfl) (hN : X.N[i]? = some xn := by rfl)
    (hv : Vis X.env.scope xn := by first | exact Or.inl rfl | exact Or.inr (Or.inl rfl) | exact Or.inr (Or.inr rfl)) (hd : (xn == ("__debug__" : Str)) = false := by decide)
    (hcd : (xn == ("__classdict__" : Str)) = false := by decide) (hs : PlainIx a := by exact fun _ _ => rfl) : WE X g (.Subscript (.Name xn q) a pos) env Φ Ψ := fun W tk σ F H st hx Q hQ => by
  refine semE_of (pe_ix ix_list (pe_var hN hv hd hcd) (peS a) hs) ?_
  obtain ⟨h1, _⟩ := st.sl i _ he
  refine ⟨_, getD_some h1, ?_⟩
  refine h W tk σ F H st hx _ fun d z v F1 H1 hr s1 e1 r1 => ?_
  have hr : rowM ds d fun l => Φ (.list l) false := hr
  obtain ⟨n, l, rfl, hat, hr⟩ := row_ob hr
  obtain ⟨_, h2, h3, h4⟩ := s1.sl i _ he
  obtain ⟨j, hj, hjl⟩ : ∃ j, ixN ds.length n = some j ∧ ds[j]? = some l := by
    unfold atI at hat
    obtain ⟨j, h5, h6⟩ := Option.bind_eq_some_iff.mp hat
    exact ⟨j, h5, h6⟩
  obtain ⟨hj1, hj2⟩ := List.getElem?_eq_some_iff.mp hjl
  have hz : (as.zip ds)[j]? = some (as[j]'(by omega), l) := by
    rw [List.getElem?_eq_getElem (by rw [List.length_zip]; omega), List.getElem_zip, hj2]
  have hat2 : atI ((as.zip ds).map fun r => V.ref r.1) n = some (.ref (as[j]'(by omega))) := by
    have e1 : ((as.zip ds).map fun r => V.ref r.1).length = ds.length := by rw [List.length_map, List.length_zip]; omega
    unfold atI
    rw [e1, hj]
    show ((as.zip ds).map fun r => V.ref r.1)[j]? = _
    rw [List.getElem?_map, hz]; rfl
  exact ⟨al, _, n, _, rfl, rd_int r1, SqL.of h2, hat2, hQ _ false _ F1 H1 hr s1 e1 ⟨_, l, .inr (.inl ⟨i, al, _, he, List.mem_of_getElem? hz⟩), rfl, rfl⟩⟩
/-- an object of a slot, one of several, is changed in place -/
theorem St.writeIn {i : Nat} {q : Addr} {s s' : Sl} {o' : HO} (st : St K g F H σ env) (hs : env[i]? = some s) (ha : q ∈ s.fp) (ha' : s'.fp = s.fp) (h : SlOk K F (upd H q o') (σ[i]?.getD none) s') (ht : ∀ vs, o' ≠ .tup vs := by intro _ z; cases z) : St K g F (upd H q o') σ (env.set i s') := by
  have own : Own env q := ⟨i, s, hs, ha⟩
  have hF : F q = none := st.fr q own
  have sub : ∀ b, Own (env.set i s') b → Own env b := fun b hb => by
    rcases own_set hb with h1 | h1
    · rw [ha'] at h1; exact ⟨i, s, hs, h1⟩
    · exact h1
  have oth : ∀ (j : Nat) (t : Sl), i ≠ j → env[j]? = some t → q ∉ t.fp := fun j t ne e ht => ne (st.nd i j s t q hs e ha ht)
  refine { len := by rw [List.length_set]; exact st.len, sl := fun j t e => ?_, nd := fun j k t u b ej ek ht hu => ?_, fr := fun b hb => st.fr b (sub b hb), ex := st.ex.mut hF, tf := fun b vs z => by
             by_cases e : b = q
             · subst e; rw [upd_same] at z; exact absurd (Option.some.inj z) (ht vs)
             · rw [upd_ne e] at z; exact st.tf b vs z, tk := st.tk.put (st.tk.ne (st.toSk.ntb own)), gt := st.gt.grow (fun b z => by
             by_cases e : b = q
             · subst e; rw [upd_same] at z; cases z
             · rw [upd_ne e] at z; exact z), g1 := fun b u z m n => ?_, g2 := fun b hb => st.g2 b (sub b hb), g3 := st.g3, g4 := st.g4, g5 := fun b m z => ?_, g6 := st.g6 }
  · rcases set_get e with ⟨rfl, rfl⟩ | ⟨ne, e⟩
    · exact h
    · refine slok_mono (Ex.refl F) (fun b hb u z => ?_) (st.sl j t e)
      have hne : b ≠ q := fun z => oth j t ne e (z ▸ hb)
      rw [upd_ne hne]; exact z
  · rcases set_get ej with ⟨rfl, rfl⟩ | ⟨ne, ej2⟩
    · rcases set_get ek with ⟨rfl, rfl⟩ | ⟨ne2, ek⟩
      · rfl
      · rw [ha'] at ht; exact st.nd _ k s u b hs ek ht hu
    · rcases set_get ek with ⟨rfl, rfl⟩ | ⟨ne2, ek⟩
      · rw [ha'] at hu; exact st.nd j _ t s b ej2 hs ht hu
      · exact st.nd j k t u b ej2 ek ht hu
  · have hne : b ≠ q := fun e => by
      subst e
      rcases st.g2 b own with h1 | h1
      · rw [h1] at z; cases z
      · exact m h1
    rw [upd_ne hne]; exact st.g1 b u z m n
  · by_cases hb : b = q
    · subst hb; rw [upd_same] at z; cases z
    · rw [upd_ne hb] at z; exact st.g5 b m z
theorem zip_set {α β : Type} : ∀ {as : List α} {bs : List β} {j : Nat} {y : β}, (as.zip (bs.set j y)).map Prod.fst = (as.zip bs).map Prod.fst
  | [], _, _, _ => rfl
  | _ :: _, [], _, _ => rfl
  | a :: as, b :: bs, 0, y => rfl
  | a :: as, b :: bs, j + 1, y => by
    show a :: (as.zip (bs.set j y)).map Prod.fst = a :: (as.zip bs).map Prod.fst
    rw [zip_set]
/-- x[k].append(e) -/
theorem w1_appendOO (i : Nat) {al : Addr} {as : List Addr} {ds : List (List PyData)} {xn : Str} {q apos cpos spos : Pos} (hl : as.length = ds.length)
    (h : WE X g a env (fun kd _ => rowM ds kd fun _ => WE X g e env (fun d z => z = true ∧ rowAppM ds kd d fun r => P.nx (env.set i (ooS al as r))) (fun c => P.ex c env)) (fun c => P.ex c env)) (he : env[i]? = some (ooS al as ds) := by rfl) (hN : X.N[i]? = some xn := by rfl)
    (hv : Vis X.env.scope xn := by first | exact Or.inl rfl | exact Or.inr (Or.inl rfl) | exact Or.inr (Or.inr rfl)) (hd : (xn == ("__debug__" : Str)) = false := by decide)
    (hcd : (xn == ("__classdict__" : Str)) = false := by decide) (hpx : PlainIx a := by exact fun _ _ => rfl)
    (hbase : attributeBase (.Subscript (.Name xn q) a spos) "append" X.env (eval (.Subscript (.Name xn q) a spos) X.env) = eval (.Subscript (.Name xn q) a spos) X.env := by rfl)
    (hfew : ((backTo cpos (starEach [e] X.env)).all (fun x => !x.1) && (backToKw cpos (keywordEach [] X.env)).all (fun x => x.1.isSome)
      && decide ([e].length + ([] : List Keyword).length + (if ([] : List Keyword).isEmpty then 0 else 1) < 30)) = true := by rfl)
    (hline : (apos.endLine == cpos.line) = true := by rfl) (hs1 : starEach [e] X.env = (false, eval e X.env) :: starEach [] X.env := by rfl) (hplain : (backTo cpos (starEach ([] : List Expr) X.env)).any (·.1) = false := by rfl)
    (hs : swapsWith (.Call (.Attribute (.Subscript (.Name xn q) a spos) "append" apos) [e] [] cpos) none pos.line X.env = pure false := by rfl) :
    W1 X g (.Expr (.Call (.Attribute (.Subscript (.Name xn q) a spos) "append" apos) [e] [] cpos) pos) env P := fun W tk hx2 σ F H s0 D hD => by
  refine semP_of (ps_expr (pe_bm PySem.F.plainAttrs_list PySem.F.slot_list_append PySem.F.type_list_append mt_append (pe_ix ix_list (pe_var hN hv hd hcd) (peS a) hpx) (pa_cons (peS e) pa_nil hs1) hbase hfew hline hs1 hplain) hs) ?_
  obtain ⟨h1, _⟩ := s0.sl i _ he
  refine ⟨_, getD_some h1, ?_⟩
  refine h W tk σ F H s0 (hx2.hx env σ) _ fun kd z v F1 H1 hr s1 e1 r1 => ?_
  have hr : rowM ds kd fun _ => WE X g e env (fun d z => z = true ∧ rowAppM ds kd d fun r => P.nx (env.set i (ooS al as r))) (fun c => P.ex c env) := hr
  obtain ⟨n, l, rfl, hat, hr⟩ := row_ob hr
  obtain ⟨j, hj, hjl⟩ : ∃ j, ixN ds.length n = some j ∧ ds[j]? = some l := by
    unfold atI at hat
    obtain ⟨j, h5, h6⟩ := Option.bind_eq_some_iff.mp hat
    exact ⟨j, h5, h6⟩
  obtain ⟨hj1, hj2⟩ := List.getElem?_eq_some_iff.mp hjl
  have hz : (as.zip ds)[j]? = some (as[j]'(by omega), l) := by
    rw [List.getElem?_eq_getElem (by rw [List.length_zip]; omega), List.getElem_zip, hj2]
  have hat2 : atI ((as.zip ds).map fun r => V.ref r.1) n = some (.ref (as[j]'(by omega))) := by
    have e1 : ((as.zip ds).map fun r => V.ref r.1).length = ds.length := by rw [List.length_map, List.length_zip]; omega
    unfold atI
    rw [e1, hj]
    show ((as.zip ds).map fun r => V.ref r.1)[j]? = _
    rw [List.getElem?_map, hz]; rfl
  obtain ⟨_, h2, h3, h4⟩ := s1.sl i _ he
  refine ⟨al, _, n, _, rfl, rd_int r1, SqL.of h2, hat2, ?_⟩
  obtain ⟨vs, h5, _⟩ := h4 _ (List.mem_of_getElem? hz)
  refine ⟨.inl ⟨rfl, vs, SqL.of h5⟩, ?_⟩
  refine hr W tk σ F1 H1 s1 (hx2.hx env σ) _ fun d z w F2 H2 ⟨hz2, hp⟩ s2 e2 r2 => ?_
  subst hz2
  unfold rowAppM at hp
  simp only [hj, hjl] at hp
  obtain ⟨hlen, hp⟩ := hp
  obtain ⟨q1, q2, q3, q4⟩ := s2.sl i _ he
  obtain ⟨us, q5, q6⟩ := q4 _ (List.mem_of_getElem? hz)
  refine ⟨_, us, w, rfl, rfl, q5, by rw [dpa_len q6]; exact hlen, ?_⟩
  have hmem : as[j]'(by omega) ∈ (as.zip ds).map (·.1) := List.mem_map.mpr ⟨_, List.mem_of_getElem? hz, rfl⟩
  have fpe : (ooS al as (ds.set j (l ++ [d]))).fp = (ooS al as ds).fp := by
    show al :: (as.zip (ds.set j (l ++ [d]))).map Prod.fst = al :: (as.zip ds).map Prod.fst
    rw [zip_set]
  have nd := List.nodup_cons.mp q3
  have hne : as[j]'(by omega) ≠ al := fun z => nd.1 (z ▸ hmem)
  refine hD.nx _ _ F2 _ hp (s2.writeIn he (List.mem_cons_of_mem _ hmem) fpe ?_) (e1.trans e2)
  refine ⟨q1, ?_, ?_, fun r hr => ?_⟩
  · rw [upd_ne (Ne.symm hne), q2]
    congr 2
    have : ∀ L : List (Addr × List PyData), (L.map fun r => V.ref r.1) = (L.map Prod.fst).map V.ref := fun L => by rw [List.map_map]; rfl
    rw [this, this, zip_set]
  · show (al :: (as.zip (ds.set j (l ++ [d]))).map Prod.fst).Nodup
    rw [zip_set]; exact q3
  · obtain ⟨k, hk⟩ := List.mem_iff_getElem?.mp hr
    have hk2 := List.getElem?_zip_eq_some.mp hk
    by_cases ek : k = j
    · subst ek
      have ea : as[k]'(by omega) = r.1 := by
        have := hk2.1
        rw [List.getElem?_eq_getElem (by omega)] at this
        exact Option.some.inj this
      have ed : r.2 = l ++ [d] := by
        have := hk2.2
        rw [List.getElem?_set_self hj1] at this
        exact (Option.some.inj this).symm
      rw [← ea, ed, upd_same]
      exact ⟨us ++ [w], rfl, dpa_app q6 (dpa_one r2)⟩
    · have hr2 : r ∈ as.zip ds := by
        refine List.mem_of_getElem? (i := k) (List.getElem?_zip_eq_some.mpr ⟨hk2.1, ?_⟩)
        have := hk2.2
        rwa [List.getElem?_set_ne (Ne.symm ek)] at this
      obtain ⟨us', z1, z2⟩ := q4 _ hr2
      have hne2 : r.1 ≠ as[j]'(by omega) := fun z => by
        have hlt : k < as.length := (List.getElem?_eq_some_iff.mp hk2.1).1
        have hnd : ((as.zip ds).map Prod.fst).Nodup := nd.2
        have hk3 : ((as.zip ds).map Prod.fst)[k]? = some r.1 := by
          rw [List.getElem?_map, List.getElem?_zip_eq_some.mpr ⟨hk2.1, by have := hk2.2; rwa [List.getElem?_set_ne (Ne.symm ek)] at this⟩]; rfl
        have hj3 : ((as.zip ds).map Prod.fst)[j]? = some r.1 := by
          rw [List.getElem?_map, hz, z]; rfl
        obtain ⟨i1, i2⟩ := List.getElem?_eq_some_iff.mp hk3
        obtain ⟨i3, i4⟩ := List.getElem?_eq_some_iff.mp hj3
        exact ek ((List.getElem_inj hnd).mp (i2.trans i4.symm))
      exact ⟨us', by rw [upd_ne hne2]; exact z1, z2⟩
/-- name = [[] for .. in ..] -/
def LJo (K : Frag) (g : G) (F1 : Hp) (σ : SS) (env : List Sl) (D : Addr) (i : Nat) (H : Hp) : Prop :=
  ∃ F as, St K g F H σ env ∧ Ex F1 F ∧ H D = some (.lst (as.map .ref)) ∧ F D = none ∧ ¬ Own env D ∧ g.H0 D = none ∧ (D :: as).Nodup ∧ as.length = i ∧ ∀ b ∈ as, H b = some (.lst []) ∧ F b = none ∧ ¬ Own env b ∧ g.H0 b = none
theorem w1_newOOc (i : Nat) {y : Str} {py elp : Pos} {scope : Scope} {own : List (Str × Nat)} {t : TG} {A : PyData → Option (List (Nat × PyData))} (hc : X.calm = true) (hN : X.N.Nodup) (ok : BlkOk X.N X.env.scope scope own) (hpg : ∀ s H C cl fp, PG (BX X scope s H C cl fp) tg t) (htd : TGd X.K t A) (hwo : wipeOk env (own.map (·.2)) = true)
    (h : WI X g tg iter env (fun xs => (∀ x ∈ xs, ∃ l, A x = some l ∧ (l.all fun q => (own.map (·.2)).elem q.1 && Nat.blt q.1 env.length) = true) ∧ ∀ q as, q ∉ g.M → as.length = xs.length → P.nx (env.set i (ooS q as (List.replicate xs.length [])))) (fun c => P.ex c env))
    (hy : X.N[i]? = some y := by rfl) (hx : Loc X.env.scope y := by first | exact Or.inl rfl | exact Or.inr rfl) (hl : Nat.blt i env.length = true := by rfl)
    (hsw : swapsWith (.ListComp (.List [] elp) [⟨tg, iter, [], 0⟩] scope pos) (some (.Name y py)) p.line X.env = pure false := by rfl) (hf : X.fn y = true ∨ X.env.scope.names.lookup y = some .local := by first | exact .inl rfl | exact .inr rfl) (hs : ∀ x, foldedSetIterable iter X.env x = pure x := by intro _; rfl) :
    W1 X g (.Assign [.Name y py] (.ListComp (.List [] elp) [⟨tg, iter, [], 0⟩] scope pos) p) env P := fun W tk hx2 σ F H s0 D hD => by
  refine semP_of (ps_set hN hy hx (pe_lc hc hN piS ok hpg (ptsB (by decide)) peB hs) hsw hf) ?_
  refine h W tk σ F H s0 (hx2.hx env σ) _ fun xs J F1 H1 ⟨hA, hp⟩ hlen s1 e1 ⟨GG, Y, hw, hG, hyy⟩ => fun D' hD' => ?_
  have st2 : St X.K g F1 (upd H1 D' (.lst [])) (wipe σ (own.map (·.2))) (wipeE env (own.map (·.2))) := (s1.alloc hD').wiped _
  refine lc_it hw (LJo X.K g F1 (wipe σ (own.map (·.2))) (wipeE env (own.map (·.2))) D') ⟨F1, [], st2, Ex.refl F1, upd_same, s1.ex.none hD', fun z => s1.there (own_wipe z) hD', s1.h0 hD', by simp, rfl, fun b hb => by cases hb⟩ (fun i H2 _ ⟨F2, _, s3, e3, _⟩ => hG _ (e3.trans s3.ex)) (fun i x H2 H3 hi2 hJ hY => ?_) (fun H2 ⟨F2, as, s3, e3, q1, q2, q3, q4, q5, q6, q7⟩ => ?_)
  · obtain ⟨F2, as, s3, e3, q1, q2, q3, q4, q5, q6, q7⟩ := hJ
    obtain ⟨d, hd⟩ : ∃ d, xs[i]? = some d := ⟨xs[i], by simp [hi2]⟩
    obtain ⟨F3, s4, ex4, hv, exH, hF⟩ := hyy i d hd _ _ _ hY _ _ _ _ s3 e3
    obtain ⟨l, hAl, hl2⟩ := hA d (List.mem_of_getElem? hd)
    have keep : ∀ b o, H2 b = some o → F2 b = none → F3 b = none := fun b o h1 h2 => by
      cases z : F3 b with
      | none => rfl
      | some u =>
        rcases hF b (by rw [z]; intro z; cases z) with w | w
        · exact absurd h2 w
        · rw [h1] at w; cases w
    refine htd d l (wipe σ (own.map (·.2))) F3 H3 x _ hAl s4.ex hv fun r sr => ?_
    have hidx : ∀ q ∈ r, q.1 ∈ own.map (·.2) := setsP_idx sr fun q hq => (lt_idx hl2 q hq).1
    refine ⟨by rw [wipe_putsV hidx]; exact wipe_wipe σ _, ?_⟩
    unfold semTB tYes
    dsimp only
    rw [if_pos rfl]
    intro sh H0 C cl fp
    refine semE_of (pe_lst pa_nil) ?_
    refine ⟨Nat.zero_le _, fun b hb => ?_⟩
    have nD : b ≠ D' := fun z => by subst z; rw [exH _ _ q1] at hb; cases hb
    have nas : b ∉ as := fun z => by rw [exH _ _ (q7 b z).1] at hb; cases hb
    have s5 := s4.alloc (o := .lst []) hb
    refine ⟨as.map .ref, by rw [upd_ne (Ne.symm nD)]; exact exH _ _ q1, by rw [List.length_map]; omega, F3, as ++ [b], ?_, e3.trans ex4, by rw [upd_same, List.map_append]; rfl, keep D' _ q1 q2, q3, q4, ?_, by rw [List.length_append, List.length_singleton, q6], fun c hc => ?_⟩
    · exact s5.untracked (keep D' _ q1 q2) q3 q4
    · rw [← List.cons_append, List.nodup_append]
      refine ⟨q5, by simp, fun c hc e he => ?_⟩
      have he : e = b := by simpa using he
      subst he
      rcases List.mem_cons.mp hc with rfl | hc
      · exact Ne.symm nD
      · exact fun z => nas (z ▸ hc)
    · rcases List.mem_append.mp hc with hc | hc
      · obtain ⟨z1, z2, z3, z4⟩ := q7 c hc
        have h1 : c ≠ D' := fun z => (List.nodup_cons.mp q5).1 (z ▸ hc)
        have h2 : c ≠ b := fun z => nas (z ▸ hc)
        exact ⟨by rw [upd_ne h1, upd_ne h2]; exact exH _ _ z1, keep c _ z1 z2, z3, z4⟩
      · have hc : c = b := by simpa using hc
        subst hc
        exact ⟨by rw [upd_ne nD, upd_same], s4.ex.none hb, fun z => s4.there z hb, s4.h0 hb⟩
  · have s5 := s1.unwiped hwo s3 e3
    have no : ∀ b, ¬ Own (wipeE env (own.map (·.2))) b → ¬ Own env b := fun b h z => h (own_wipe' hwo z)
    have hzf : ∀ n, as.length = n → (as.zip (List.replicate n ([] : List PyData))).map Prod.fst = as := fun n hn => by
      rw [List.map_fst_zip]; rw [List.length_replicate]; omega
    refine hD.nx _ _ F2 H2 (hp D' as (fun m => s1.g6 D' m q4) q6) (s5.set (ltB hl) ?_ ?_ ?_ ?_) (e1.trans e3)
    · refine ⟨rfl, ?_, ?_, fun r hr => ?_⟩
      · rw [q1]
        congr 2
        have : ∀ L : List (Addr × List PyData), (L.map fun r => V.ref r.1) = (L.map Prod.fst).map V.ref := fun L => by rw [List.map_map]; rfl
        rw [this, hzf _ q6]
      · show (D' :: (as.zip (List.replicate xs.length [])).map Prod.fst).Nodup
        rw [hzf _ q6]; exact q5
      · obtain ⟨m1, m2⟩ := List.of_mem_zip (a := r.1) (b := r.2) hr
        rw [(List.mem_replicate.mp m2).2]
        exact ⟨[], (q7 _ m1).1, .nil⟩
    all_goals
      intro b hb
      have hb : b = D' ∨ b ∈ as := by
        have hb : b ∈ D' :: (as.zip (List.replicate xs.length [])).map Prod.fst := hb
        rw [hzf _ q6] at hb
        exact List.mem_cons.mp hb
    · rcases hb with rfl | hb
      · exact q2
      · exact (q7 b hb).2.1
    · intro j u hj hu hbu
      rcases hb with rfl | hb
      · exact no _ q3 ⟨j, u, hu, hbu⟩
      · exact no _ (q7 b hb).2.2.1 ⟨j, u, hu, hbu⟩
    · rcases hb with rfl | hb
      · exact .inl q4
      · exact .inl (q7 b hb).2.2.2
end
theorem getT_s {kT : List (List Key × PyData)} {key : PyData} {Q : KD} {Φ : PyData → Prop} (h : getTM kT key Q) (k : ∀ r, Q r → Φ r) : ∃ q, keyT key = some q ∧ ∃ d, valP kT q = some d ∧ Φ d := by
  unfold getTM at h
  split at h
  · rename_i e1
    split at h
    · rename_i e2; exact ⟨_, e1, _, e2, k _ h⟩
    · exact h.elim
  · exact h.elim
end TL
namespace TL
open PySem PySem.Spec PyProof.Rows L2
def dTd (m : List (List Key × PyData)) : PyData := .dict ((.none, .none) :: m.map fun kv => (.tuple (kv.1.map kD), kv.2))
def dKd (m : List (Key × PyData)) : PyData := .dict (m.map fun kv => (kD kv.1, kv.2))
def asT : List (PyData × PyData) → Option (List (List Key × PyData))
  | [] => some []
  | (k, d) :: r => match keyT k, asT r with
    | some q, some l => some ((q, d) :: l)
    | _, _ => none
def asK : List (PyData × PyData) → Option (List (Key × PyData))
  | [] => some []
  | (k, d) :: r => match keyA k, asK r with
    | some q, some l => some ((q, d) :: l)
    | _, _ => none
theorem keyA_kD (k : Key) : keyA (kD k) = some k := by cases k <;> rfl
theorem keyAs_kD : ∀ k : List Key, keyAs (k.map kD) = some k
  | [] => rfl
  | x :: r => by
    show (match keyA (kD x), keyAs (r.map kD) with | some k, some l => some (k :: l) | _, _ => none) = _
    rw [keyA_kD, keyAs_kD r]
theorem keyT_kD (k : List Key) : keyT (.tuple (k.map kD)) = some k := keyAs_kD k
theorem asT_of : ∀ m : List (List Key × PyData), asT (m.map fun kv => (.tuple (kv.1.map kD), kv.2)) = some m
  | [] => rfl
  | (k, d) :: r => by
    show (match keyT (.tuple (k.map kD)), asT (r.map fun kv => (.tuple (kv.1.map kD), kv.2)) with | some q, some l => some ((q, d) :: l) | _, _ => none) = _
    rw [keyT_kD, asT_of r]
theorem asK_of : ∀ m : List (Key × PyData), asK (m.map fun kv => (kD kv.1, kv.2)) = some m
  | [] => rfl
  | (k, d) :: r => by
    show (match keyA (kD k), asK (r.map fun kv => (kD kv.1, kv.2)) with | some q, some l => some ((q, d) :: l) | _, _ => none) = _
    rw [keyA_kD, asK_of r]
theorem asT_eq : ∀ {l : List (PyData × PyData)} {m : List (List Key × PyData)}, asT l = some m → l = m.map fun kv => (.tuple (kv.1.map kD), kv.2)
  | [], _, h => by cases h; rfl
  | (k, d) :: r, _, h => by
    unfold asT at h
    split at h
    · rename_i e1 e2
      cases h
      rw [keyT_eq e1, asT_eq e2]; rfl
    · cases h
theorem asK_eq : ∀ {l : List (PyData × PyData)} {m : List (Key × PyData)}, asK l = some m → l = m.map fun kv => (kD kv.1, kv.2)
  | [], _, h => by cases h; rfl
  | (k, d) :: r, _, h => by
    unfold asK at h
    split at h
    · rename_i e1 e2
      cases h
      rw [keyA_eq e1, asK_eq e2]; rfl
    · cases h
/-- a dict as data: by tuples, by atoms -/
def dictO : PyData → Option (List (List Key × PyData) ⊕ List (Key × PyData))
  | .dict l => match asK l with
    | some m => some (.inr m)
    | none => match l with
      | (.none, .none) :: r => match asT r with
        | some m => some (.inl m)
        | none => none
      | _ => none
  | _ => none
theorem dictO_T (m : List (List Key × PyData)) : dictO (dTd m) = some (.inl m) := by
  show (match asT (m.map fun kv => (.tuple (kv.1.map kD), kv.2)) with | some m => some (Sum.inl m) | none => none) = _
  rw [asT_of]
theorem dictO_t {d : PyData} {m : List (List Key × PyData)} (h : dictO d = some (.inl m)) : d = dTd m := by
  unfold dictO at h
  split at h
  · split at h
    · cases h
    · split at h
      · split at h
        · rename_i e; cases h; rw [asT_eq e]; rfl
        · cases h
      · cases h
  · cases h
theorem dictO_k {d : PyData} {m : List (Key × PyData)} (h : dictO d = some (.inr m)) : d = dKd m := by
  unfold dictO at h
  split at h
  · split at h
    · rename_i e; cases h; rw [asK_eq e]; rfl
    · split at h
      · split at h <;> cases h
      · cases h
  · cases h
def inDM (d key : PyData) (K : KB) : Prop := match dictO d with
  | some (.inl m) => inTM m key K
  | some (.inr m) => inKM m key K
  | none => False
theorem q_inD' {m : List (List Key × PyData)} {key : PyData} {K : KB} : inDM (dTd m) key K = inTM m key K := by unfold inDM; rw [dictO_T]
section
variable {K : Frag} {F : Hp}
theorem kvp_dqt : ∀ {xs : List (List Key × V)} {m : List (List Key × PyData)}, KVp K F xs m → DqT K F xs (m.map fun kv => (.tuple (kv.1.map kD), kv.2))
  | _, _, .nil => .nil
  | (k1, v1) :: _, (k2, d2) :: _, .cons h t => by
    obtain ⟨h1, h2⟩ := h
    have h1 : k1 = k2 := h1
    subst h1
    exact .cons h2 (kvp_dqt t)
theorem dqt_as : ∀ {xs : List (List Key × V)} {kvs : List (PyData × PyData)}, DqT K F xs kvs → ∃ m, asT kvs = some m ∧ KVp K F xs m
  | _, _, .nil => ⟨[], rfl, .nil⟩
  | _, _, .cons (k := k) (d := d) (ds := ds) h t => by
    obtain ⟨m, e, r⟩ := dqt_as t
    refine ⟨(k, d) :: m, ?_, .cons ⟨rfl, h⟩ r⟩
    show (match keyT (.tuple (k.map kD)), asT ds with | some q, some l => some ((q, d) :: l) | _, _ => none) = _
    rw [keyT_kD, e]
theorem dqk_as : ∀ {xs : List (Key × V)} {kvs : List (PyData × PyData)}, DqK K F xs kvs → ∃ m, asK kvs = some m ∧ KVp K F xs m
  | _, _, .nil => ⟨[], rfl, .nil⟩
  | _, _, .cons (k := k) (d := d) (ds := ds) h t => by
    obtain ⟨m, e, r⟩ := dqk_as t
    refine ⟨(k, d) :: m, ?_, .cons ⟨rfl, h⟩ r⟩
    show (match keyA (kD k), asK ds with | some q, some l => some ((q, d) :: l) | _, _ => none) = _
    rw [keyA_kD, e]
theorem dq_dT {v : V} {m : List (List Key × PyData)} (h : Dq K F v (dTd m)) : ∃ a xs, v = .ref a ∧ F a = some (.dT xs) ∧ KVp K F xs m := by
  unfold dTd at h
  cases h with
  | dct hs ht =>
    obtain ⟨m', e1, e2⟩ := dqt_as ht
    rw [asT_of] at e1
    cases e1
    exact ⟨_, _, rfl, hs, e2⟩
  | dck hs ht =>
    generalize hk : ((PyData.none, PyData.none) :: m.map fun kv => (PyData.tuple (kv.1.map kD), kv.2)) = kvs at ht
    cases ht with
    | nil => cases hk
    | cons h t => rename_i k _ _ _ _; injection hk with e1 _; injection e1 with e1 _; cases k <;> cases e1
theorem dq_dK {v : V} {m : List (Key × PyData)} (h : Dq K F v (dKd m)) : ∃ a xs, v = .ref a ∧ F a = some (.dK xs) ∧ KVp K F xs m := by
  unfold dKd at h
  generalize hk : (m.map fun kv => (kD kv.1, kv.2)) = kvs at h
  cases h with
  | dct hs ht =>
    cases m with
    | nil => cases hk
    | cons a m => injection hk with e1 _; injection e1 with e1 _; obtain ⟨k, _⟩ := a; cases k <;> cases e1
  | dck hs ht =>
    obtain ⟨m', e1, e2⟩ := dqk_as ht
    rw [← hk, asK_of] at e1
    cases e1
    exact ⟨_, _, rfl, hs, e2⟩
  | ins _ _ _ =>
    cases m with
    | nil => cases hk
    | cons a m => injection hk with e1 _; injection e1 with e1 _; obtain ⟨k, _⟩ := a; cases k <;> cases e1
end
/-- what a look tells: the walk's side -/
def GetD (d key : PyData) (o : Option PyData) : Prop := (∃ m q, d = dTd m ∧ keyT key = some q ∧ valP m q = o) ∨ ∃ m q, d = dKd m ∧ keyA key = some q ∧ valP m q = o
theorem inD_s {d key : PyData} {Q Φ : KB} (h : inDM d key Q) (k : ∀ r, Q r → Φ r) : ∃ o, GetD d key o ∧ Φ o.isSome := by
  unfold inDM at h
  split at h
  · rename_i m e
    obtain ⟨q, e1, h⟩ := inT_sh h k
    exact ⟨_, .inl ⟨m, q, dictO_t e, e1, rfl⟩, h⟩
  · rename_i m e
    obtain ⟨q, e1, h⟩ := inK_sh h k
    exact ⟨_, .inr ⟨m, q, dictO_k e, e1, rfl⟩, h⟩
  · exact h.elim
theorem getD_run {K : Frag} {F H : Hp} {v kv : V} {d key : PyData} {o : Option PyData} (h : GetD d key o) (hd : Dq K F v d) (hk : Dq K F kv key) (ex : Ex F H) : ∃ (a : Addr) (ov : Option V), v = .ref a ∧ DGetS K H a kv ov ∧ ov.isSome = o.isSome ∧ ∀ x, o = some x → ∃ w, ov = some w ∧ Dq K F w x := by
  rcases h with ⟨m, q, rfl, e4, e5⟩ | ⟨m, q, rfl, e4, e5⟩
  · obtain ⟨a, vs, rfl, hs, e2⟩ := dq_dT hd
    obtain ⟨t, rfl, ht⟩ := keyT_dp hk e4
    obtain ⟨w1, w2⟩ := kvp_val (k := q) e2
    exact ⟨a, valV vs q, rfl, DGetS.t (ex _ _ hs) (ex_t ex ht), by rw [w2, e5], fun x hx => w1 x (e5.trans hx)⟩
  · obtain ⟨a, vs, rfl, hs, e2⟩ := dq_dK hd
    have hv := keyA_dp hk e4
    subst hv
    obtain ⟨w1, w2⟩ := kvp_val (k := q) e2
    exact ⟨a, valV vs q, rfl, DGetS.k (ex _ _ hs), by rw [w2, e5], fun x hx => w1 x (e5.trans hx)⟩
section
variable {X : Cx} {g : G} {env env' : List Sl} {Ψ : Exc → Prop} {P : Po} {pos p : Pos} {a b c e : Expr} {es : List Expr} {rest body : List Stmt} {k0 : Nat}
theorem wt_inD {Φ : KB} (hr : Room k0 X.A) (h : WE X g a env (fun kd z => z = true ∧ WE X g b env (fun d z => z = true ∧ ∃ o, GetD d kd o ∧ Φ o.isSome) Ψ) Ψ) (hm : behindInMarks .In b = false := by first | exact nomark _ | rfl) : WT X g (.Compare a [.In] [b] pos) env Φ Ψ := fun W tk σ F H st hx Q hQ => by
  refine semT_of (pt_cmp (pc_dinS (by have := hr.units; omega) (peS a) (peS b)) hm) ?_
  refine h W tk σ F H st hx _ fun kd z w F1 H1 ⟨hz, h2⟩ s1 e1 r1 => ?_
  subst hz
  refine h2 W tk σ F1 H1 s1 hx _ fun d z v F2 H2 ⟨hz, o, hg, hp⟩ s2 e2 r2 => ?_
  subst hz
  obtain ⟨al, ov, rfl, g1, g2, g3⟩ := getD_run hg r2 (dp_mono e2 _ _ r1) s2.ex
  refine ⟨al, ov, rfl, g1, _, rfl, ?_⟩
  rw [g2]
  exact hQ _ F2 H2 hp s2 (e1.trans e2)
theorem ws_freezeT (i : Nat) {al : Addr} {kvs : List (List Key × PyData)} (ha : al ∉ g.M) (h : WS X g rest (env.set i (.d (dTd kvs))) P) (he : env[i]? = some (.dt al kvs) := by rfl) : WS X g rest env P := fun W tk hx2 σ F H st D hD => by
  obtain ⟨h1, vs, h2, h3⟩ := st.sl i _ he
  have own : Own env al := ⟨i, _, he, by simp [Sl.fp]⟩
  have hi := (List.getElem?_eq_some_iff.mp he).1
  have s1 := st.weak (s' := .un) he (fun _ h => by cases h) fun _ => trivial
  have no : ¬ Own (env.set i .un) al := fun z => by
    obtain ⟨j, t, ej, ht⟩ := z
    rcases set_get ej with ⟨_, rfl⟩ | ⟨ne, ej⟩
    · cases ht
    · exact ne (st.nd i j _ t al he ej (by simp [Sl.fp]) ht)
  have h0 : g.H0 al = none := by
    rcases st.g2 al own with z | z
    · exact z
    · exact absurd z ha
  have e2 := Ex.new (o := .dT vs) (st.fr al own)
  have s2 := s1.freeze h2 (st.fr al own) no h0
  have hσ : σ.set i (some (.ref al)) = σ := by
    have hl : i < σ.length := by rw [st.len]; exact hi
    have e := getD_some h1
    obtain ⟨_, e'⟩ := List.getElem?_eq_some_iff.mp e
    rw [← e']
    exact List.set_getElem_self hl
  have s3 := s2.setD (i := i) (v := .ref al) (x := dTd kvs) (by rw [List.length_set]; exact hi) (.dct upd_same (dqt_mono e2 _ _ (kvp_dqt h3)))
  rw [hσ, List.set_set] at s3
  exact h W tk hx2 σ _ H s3 D (hD.mono e2)
end
end TL
namespace TL
open PySem PySem.Spec PyProof.Rows L2
section
variable {X : Cx} {g : G} {env env' : List Sl} {Ψ : Exc → Prop} {P : Po} {pos p lp : Pos} {a b c e f o tg iter : Expr} {es : List Expr} {rest body : List Stmt} {K : Frag} {F F' H H' : Hp} {σ σ' : SS} {x y : PyData} {z1 z2 : Bool} {k0 : Nat} {al : Addr} {xn : Str} {apos : Pos}
def zipE : List (Option Expr) → List Expr → List (Expr × Expr)
  | some k :: ks, v :: vs => (k, v) :: zipE ks vs
  | _, _ => []
def DqPs (K : Frag) (F : Hp) : List (V × V) → List (PyData × PyData) → Prop
  | [], [] => True
  | (v, w) :: r, (d, c) :: s => (Dq K F v d ∧ Dq K F w c) ∧ DqPs K F r s
  | _, _ => False
def WPs (X : Cx) (g : G) (ps : List (Expr × Expr)) (env : List Sl) (Φ : List (PyData × PyData) → Prop) (Ψ : Exc → Prop) : Prop :=
  ∀ (W : WX), Takes X W → ∀ (σ : SS) (F H : Hp), St X.K g F H σ env → HX X g env Ψ W σ →
    ∀ Q : List (V × V) → Hp → Prop, (∀ ds vs F' H', Φ ds → St X.K g F' H' σ env → Ex F F' → DqPs X.K F' vs ds → Q vs H') → tPairs (ps.map fun q => (semE X q.1, semE X q.2)) σ H Q
theorem wps_nil {Φ : List (PyData × PyData) → Prop} (h : Φ []) : WPs X g [] env Φ Ψ := fun W tk σ F H st hx Q hQ => hQ [] [] F H h st (Ex.refl F) trivial
theorem wps_cons {ps : List (Expr × Expr)} {Φ : List (PyData × PyData) → Prop} (h : WE X g a env (fun d1 z1 => z1 = true ∧ WE X g b env (fun d2 z2 => z2 = true ∧ WPs X g ps env (fun l => Φ ((d1, d2) :: l)) Ψ) Ψ) Ψ) : WPs X g ((a, b) :: ps) env Φ Ψ := fun W tk σ F H st hx Q hQ => by
  show semE X a σ H _
  refine h W tk σ F H st hx _ fun d1 z1 v1 F1 H1 ⟨hz, h2⟩ s1 e1 r1 => ?_
  subst hz
  refine h2 W tk σ F1 H1 s1 hx _ fun d2 z2 v2 F2 H2 ⟨hz, h3⟩ s2 e2 r2 => ?_
  subst hz
  refine h3 W tk σ F2 H2 s2 hx _ fun ds vs F3 H3 hp s3 e3 r3 => ?_
  exact hQ _ _ F3 H3 hp s3 ((e1.trans e2).trans e3) ⟨⟨dp_mono (e2.trans e3) _ _ r1, dp_mono e3 _ _ r2⟩, r3⟩
theorem pps_zip : ∀ {ks : List (Option Expr)} {vs : List Expr}, ks.all (·.isSome) = true → ks.length = vs.length → PPs X pos ks vs ((zipE ks vs).map fun q => (semE X q.1, semE X q.2))
  | [], [], _, _ => pps_nil
  | some k :: ks, v :: vs, h, hl => pps_cons (peS k) (peS v) (pps_zip (by simpa using h) (by simpa using hl))
  | [], _ :: _, _, hl => by cases hl
  | none :: _, _, h, _ => by simp at h
  | some _ :: _, [], _, hl => by cases hl
end
end TL
namespace TL
open PySem PySem.Spec PyProof.Rows L2
section
variable {X : Cx} {g : G} {env env' : List Sl} {Ψ : Exc → Prop} {P : Po} {pos p lp : Pos} {a b c e f o tg iter : Expr} {es : List Expr} {rest body : List Stmt} {K : Frag} {F F' H H' : Hp} {σ σ' : SS} {x y : PyData} {z1 z2 : Bool} {k0 : Nat} {al : Addr} {xn : Str} {apos : Pos}
theorem rng_map (lo hi : Int) : rangeL lo hi = (List.range (hi - lo).toNat).map fun (i : Nat) => PyData.int (lo + (i : Nat)) := rfl
theorem ws_forget (i : Nat) (h : WS X g rest (env.set i .un) P) (hi : env[i]?.isSome = true := by rfl) : WS X g rest env P := fun W tk hx σ F H st D hD => by
  obtain ⟨s, hs⟩ := Option.isSome_iff_exists.mp hi
  exact h W tk hx σ F H (st.weak hs (fun a m => by cases m) fun _ => trivial) D hD
theorem w1_par2 (i j : Nat) {x y : Str} {px py pt : Pos} {kt k2 : Nat} {pt2 : Pos} (hc : X.calm = true) (hN : X.N.Nodup) (hi : X.N[i]? = some x) (hj : X.N[j]? = some y) (hij : i ≠ j)
    (h : WAs X g [a, b] env (fun as => ∃ d1 d2, datas as = some [d1, d2] ∧ P.nx ((env.set i (.d d1)).set j (.d d2))) (fun c => P.ex c env))
    (hl : (Nat.blt i env.length && Nat.blt j env.length) = true := by rfl)
    (hx : X.env.scope.names.lookup x = some .local := by rfl) (hy : X.env.scope.names.lookup y = some .local := by rfl)
    (hw : swappedStores [.Tuple [.Name x px, .Name y py] kt pt] (.Tuple [a, b] k2 pt2) X.env = pure (some [x, y]) := by rfl)
    (hs : swapsWithSole [.Tuple [.Name x px, .Name y py] kt pt] (.Tuple [a, b] k2 pt2) pos.line X.env = pure false := by rfl) :
    W1 X g (.Assign [.Tuple [.Name x px, .Name y py] kt pt] (.Tuple [a, b] k2 pt2) pos) env P := fun W tk hx2 σ F H s0 D hD => by
  refine semP_of (ps_par hc hN hi hj hij hx hy (paS [a, b]) hw hs) ?_
  refine h W tk σ F H s0 (hx2.hx env σ) _ fun as vs F' H' ⟨d1, d2, e1, hp⟩ s' e' r' => ?_
  have hd := dpa_datas e1 r'
  obtain ⟨l1, l2⟩ := Bool.and_eq_true_iff.mp hl
  cases hd with
  | cons q1 hd =>
    cases hd with
    | cons q2 hd =>
      cases hd
      exact ⟨_, _, rfl, hD.nx _ _ F' H' hp ((s'.setD (ltB l1) q1).setD (by rw [List.length_set]; exact ltB l2) q2) e'⟩
end
end TL
namespace TL
open PySem PySem.Spec PyProof.Rows L2
section
variable {X : Cx} {g : G} {env env' : List Sl} {Ψ : Exc → Prop} {P : Po} {pos p lp : Pos} {a b c e f o tg iter : Expr} {es : List Expr} {rest body : List Stmt} {K : Frag} {F F' H H' : Hp} {σ σ' : SS} {x y : PyData} {z1 z2 : Bool} {k0 : Nat} {al : Addr} {xn : Str} {apos : Pos}
/-- each row once -/
def dd : List (List Int) → List (List Int)
  | [] => []
  | a :: l => if a ∈ l then dd l else a :: dd l
end
end TL
namespace TL
open PySem PySem.Spec PyProof.Rows L2 LamX
theorem lamO_ntb {f c : Addr} {l : Lam} : ntb (LamO f l c) := fun _ z => by unfold LamO at z; cases z
theorem codeO_ntb {c : Addr} {q : Str} : ntb (CodeO c q) := fun _ z => by unfold CodeO at z; cases z
/-- the heap behind the making: as it was, or the table is longer by a new code object -/
inductive LmRes (H : Hp) (P : Addr) (ps : Array Value) (q : Str) (c : Addr) : Hp → Prop
  | hit (pos : Pos) : codeAmong pos ps.toList = some (.ref c) → LmRes H P ps q c H
  | new (more : Array Value) : H c = none → c ≠ P → TriplesOk (ps ++ more).toList → (∀ (pos : Pos) (cv : Value), codeAmong pos (ps ++ more).toList = some cv → codeAmong pos ps.toList = some cv ∨ cv = .ref c) →
      LmRes H P ps q c (upd (upd H P (.tbl (ps ++ more))) c (CodeO c q))
theorem upd_comm {H : Hp} {a b : Addr} {x y : HO} (h : a ≠ b) : upd (upd H a x) b y = upd (upd H b y) a x := by
  funext c
  by_cases h1 : c = b
  · subst h1; rw [upd_same, upd_ne (Ne.symm h), upd_same]
  · by_cases h2 : c = a
    · subst h2; rw [upd_ne h1, upd_same, upd_same]
    · rw [upd_ne h1, upd_ne h2, upd_ne h2, upd_ne h1]
section
variable {K : Frag} {g : G} {env : List Sl} {F H H1 : Hp} {σ : SS} {P : Addr} {ps ps' : Array Value} {q : Str}
theorem St.tabw (st : St K g F H σ env) (hP : H P = some (.tbl ps)) (ht : TriplesOk ps'.toList) (hc : ∀ q, (P, q) ∈ tabsK K → ∀ (pos : Pos) (cv : Value), codeAmong pos ps'.toList = some cv → ∃ c, cv = .ref c ∧ F c = some (CodeO c q)) : St K g F (upd H P (.tbl ps')) σ env where
  len := st.len
  sl := fun i s e => slok_mono (Ex.refl F) (fun a ha u z => by
    have ne : a ≠ P := fun y => slok_ntb (st.sl i s e) ha ps (y ▸ hP)
    rw [upd_ne ne]; exact z) (st.sl i s e)
  nd := st.nd
  fr := st.fr
  ex := fun a u z => by
    by_cases y : a = P
    · subst y
      have z2 := st.ex a u z
      rw [hP] at z2; cases z2
      exact absurd z (st.tk.fn a ps)
    · rw [upd_ne y]; exact st.ex a u z
  tf := fun a vs z => by
    by_cases y : a = P
    · subst y; rw [upd_same] at z; cases z
    · rw [upd_ne y] at z; exact st.tf a vs z
  tk := ⟨st.tk.fn, fun p hp => by
    by_cases y : p.1 = P
    · obtain ⟨p1, p2⟩ := p
      have y : p1 = P := y
      subst y
      exact ⟨ps', upd_same, ht, hc p2 hp⟩
    · exact (st.tk.tb p hp).mono (Ex.refl F) fun u z => by rw [upd_ne y]; exact z⟩
  gt := st.gt.grow fun a z => by
    by_cases y : a = P
    · subst y; rw [upd_same] at z; cases z
    · rw [upd_ne y] at z; exact z
  g1 := fun a o z m n => by
    have z2 := st.g1 a o z m n
    have ne : a ≠ P := fun y => by
      subst y; rw [hP] at z2; exact n ps (Option.some.inj z2).symm
    rw [upd_ne ne]; exact z2
  g2 := st.g2
  g3 := st.g3
  g4 := st.g4
  g5 := fun a m z => by
    by_cases y : a = P
    · subst y; rw [upd_same] at z; cases z
    · rw [upd_ne y] at z; exact st.g5 a m z
  g6 := st.g6
theorem St.lam {l : Lam} {f c : Addr} (st : St K g F H σ env) (r : LmRes H P ps l.q c H1) (hP : H P = some (.tbl ps)) (hk : ∀ (pos : Pos) (cv : Value), codeAmong pos ps.toList = some cv → ∃ c, cv = .ref c ∧ F c = some (CodeO c l.q)) (hu : ∀ p ∈ tabsK K, p.1 = P → p.2 = l.q) (hn : H1 f = none) :
    ∃ F1, St K g F1 (upd H1 f (LamO f l c)) σ env ∧ Ex F F1 ∧ IsLam F1 (.ref f) l := by
  cases r with
  | hit pos hc =>
    obtain ⟨c0, e0, e1⟩ := hk pos _ hc
    cases e0
    have e := Ex.new (o := LamO f l c) (st.ex.none hn)
    exact ⟨upd F f (LamO f l c), st.allocF hn lamO_ntb, e, f, c, rfl, upd_same, e _ _ e1⟩
  | new more hc hcP ht hco =>
    rw [upd_comm (Ne.symm hcP)] at hn ⊢
    have hF := st.ex.none hc
    have e1 := Ex.new (o := CodeO c l.q) hF
    have s1 := st.allocF (o := CodeO c l.q) hc codeO_ntb
    have s2 : St K g (upd F c (CodeO c l.q)) (upd (upd H c (CodeO c l.q)) P (.tbl (ps ++ more))) σ env := s1.tabw (P := P) (ps := ps) (by rw [upd_ne (Ne.symm hcP)]; exact hP) ht fun q hq pos cv hcv => by
      have eq := hu (P, q) hq rfl
      have eq : q = l.q := eq
      subst eq
      rcases hco pos cv hcv with z | z
      · obtain ⟨c0, z1, z2⟩ := hk pos cv z
        exact ⟨c0, z1, e1 _ _ z2⟩
      · exact ⟨c, z, upd_same⟩
    have e2 := Ex.new (o := LamO f l c) (s2.ex.none hn)
    exact ⟨_, s2.allocF hn lamO_ntb, e1.trans e2, f, c, rfl, upd_same, e2 _ _ upd_same⟩
end
end TL
namespace TL
open PySem PySem.Spec PyProof.Rows L2 He LamX
abbrev LamD : Type := Defn × Str
def markObj (P : Addr) (q : Str) : Obj := { cls := .none, data := .fields #[.str "lam!" 0, .ref P, .str q 0] }
def markK (tf : List LamD) (K : Frag) : Frag := K ++ tf.map fun p => ((cT K p.1).1, markObj (cT K p.1).2 p.2)
def lamB (g : Addr → Option Obj) (tf : List LamD) (K : Frag) : Bool :=
  (tf.all fun p => PySem.W.codeHdIn K (cT K p.1).1 (cT K p.1).2 && (match g (cT K p.1).2 with
    | some o => emptyTab o
    | none => false)) && (decide (tabsK (markK tf K) = tf.map fun p => ((cT K p.1).2, p.2)) && decide ((tf.map fun p => (cT K p.1).2).Nodup))
abbrev AlL : Type := AlD × Bool
def obsL (ex : List XF) (fa : List Fa) (fn : List DefD) (tf : List LamD) (g : Addr → Option Obj) (K : Frag) : AlL := (obsX ex fa fn (markK tf K), lamB g tf K)
def obsLG (n : Nat) (ex : List XF) (fa : List Fa) (fn : List DefD) (tf : List LamD) (g : Addr → Option Obj) : AlL := obsL ex fa fn tf g (frT g (asD g n))
structure SaysL (ex : List XF) (fa : List Fa) (fn : List DefD) (tf : List LamD) (h : Heap) (K0 : Frag) : Prop where
  x : SaysX ex fa fn (markK tf K0)
  hd : ∀ p ∈ tf, PySem.W.codeHdIn K0 (cT K0 p.1).1 (cT K0 p.1).2 = true
  out : ∀ p ∈ tf, K0.lookup (cT K0 p.1).2 = none
  empty : ∀ p ∈ tf, h.get? (cT K0 p.1).2 = some { cls := .none, data := .fields #[] }
  tabs : tabsK (markK tf K0) = tf.map fun p => ((cT K0 p.1).2, p.2)
  nd : (tf.map fun p => (cT K0 p.1).2).Nodup
theorem saysL_of {n : Nat} {ex : List XF} {fa : List Fa} {fn : List DefD} {tf : List LamD} {h : Heap} (e : obsLG n ex fa fn tf h.get? = (valD fn, true)) : SaysL ex fa fn tf h (frT h.get? (asD h.get? n)) := by
  have e1 : obsX ex fa fn (markK tf (frT h.get? (asD h.get? n))) = valD fn := congrArg (fun z : AlL => z.1) e
  have e2 : lamB h.get? tf (frT h.get? (asD h.get? n)) = true := congrArg (fun z : AlL => z.2) e
  obtain ⟨h1, h2⟩ := ba e2
  obtain ⟨h3, h4⟩ := ba h2
  have key : ∀ p ∈ tf, PySem.W.codeHdIn (frT h.get? (asD h.get? n)) (cT (frT h.get? (asD h.get? n)) p.1).1 (cT (frT h.get? (asD h.get? n)) p.1).2 = true ∧ ∃ o, h.get? (cT (frT h.get? (asD h.get? n)) p.1).2 = some o ∧ emptyTab o = true := fun p hp => by
    obtain ⟨k1, k2⟩ := ba (List.all_eq_true.mp h1 p hp)
    refine ⟨k1, ?_⟩
    cases q : h.get? (cT (frT h.get? (asD h.get? n)) p.1).2 with
    | none => rw [q] at k2; cases k2
    | some o => rw [q] at k2; exact ⟨o, rfl, k2⟩
  exact ⟨e1, fun p hp => (key p hp).1, fun p hp => by
    obtain ⟨_, o, q, z⟩ := key p hp
    exact frT_none q z, fun p hp => by
    obtain ⟨_, o, q, z⟩ := key p hp
    rw [q, emptyTab_eq z], of_decide_eq_true h3, of_decide_eq_true h4⟩
def hookL (n : Nat) (ex : List XF) (fa : List Fa) (fn : List DefD) (tf : List LamD) : PySem.W.Hook where
  α := AlL
  obs := fun s => obsLG n ex fa fn tf s.heap.get?
  val := fun _ => (valD fn, true)
  says := fun _ h => ∃ K0 : Frag, K0.In h ∧ SaysL ex fa fn tf h K0
  of := fun _ _ e => ⟨_, frT_in, saysL_of e⟩
  keeps := fun _ _ _ ⟨K0, hK, c⟩ k => ⟨K0, PySem.W.Frag.In.keeps hK k, ⟨c.x, c.hd, c.out, fun p hp => k _ _ (c.empty p hp), c.tabs, c.nd⟩⟩
theorem obsLG_eq {n : Nat} {ex : List XF} {fa : List Fa} {fn : List DefD} {tf : List LamD} {g : Addr → Option Obj} {s : Shared} (h : ∀ a, g a = s.heap.get? a) : obsLG n ex fa fn tf g = (hookL n ex fa fn tf).obs s := by
  have e : g = s.heap.get? := funext h
  rw [e] <;> rfl
theorem lookup_app {a : Addr} : ∀ {K M : Frag}, (K ++ M).lookup a = match K.lookup a with | some o => some o | none => M.lookup a
  | [], _ => rfl
  | (b, o) :: r, M => by
    show (match a == b with | true => some o | false => (r ++ M).lookup a) = match (match a == b with | true => some o | false => r.lookup a) with | some o => some o | none => M.lookup a
    cases a == b with
    | true => rfl
    | false => exact lookup_app (K := r) (M := M)
theorem codeHd_some {K : Frag} {c P : Addr} (h : PySem.W.codeHdIn K c P = true) : ∃ o, K.lookup c = some o := by
  unfold PySem.W.codeHdIn at h
  cases q : K.lookup c with
  | none => rw [q] at h; cases h
  | some o => exact ⟨o, rfl⟩
section
variable {ex : List XF} {fa : List Fa} {fn : List DefD} {tf : List LamD} {h : Heap} {K0 : Frag}
theorem SaysL.marks (c : SaysL ex fa fn tf h K0) {a : Addr} {o : Obj} (e : (tf.map fun p => ((cT K0 p.1).1, markObj (cT K0 p.1).2 p.2)).lookup a = some o) : ∃ o, K0.lookup a = some o := by
  obtain ⟨p, hp, ep⟩ := List.mem_map.mp (He.lookup_mem e)
  have e1 : (cT K0 p.1).1 = a := congrArg Prod.fst ep
  rw [← e1]
  exact codeHd_some (c.hd p hp)
theorem SaysL.look (c : SaysL ex fa fn tf h K0) (a : Addr) : (markK tf K0).lookup a = K0.lookup a := by
  unfold markK
  rw [lookup_app]
  cases q : K0.lookup a with
  | some o => rfl
  | none =>
    cases z : (tf.map fun p => ((cT K0 p.1).1, markObj (cT K0 p.1).2 p.2)).lookup a with
    | none => rfl
    | some o =>
      obtain ⟨o', e⟩ := c.marks z
      rw [q] at e; cases e
theorem SaysL.kin (c : SaysL ex fa fn tf h K0) (k : K0.In h) : (markK tf K0).In h := fun a o e => k a o (by rw [← c.look a]; exact e)
end
section
variable {ex : List XF} {fa : List Fa} {fn : List DefD} {tf : List LamD} {h base : Heap} {K0 : Frag} {mg : Str → Option Value}
/-- the code objects and tables of the defs that make lambdas -/
def csOf (tf : List LamD) (K0 : Frag) : List (Addr × Addr) := tf.map fun p => cT K0 p.1
end
/-- the end, with tables -/
theorem walk_xT {l : PySem.W.OpenLaw} {m j : Nat} {q : Program} {lo : List Str} {XP : (Str → Option Value) → Heap → Prop} {YP : World → Heap → Prop} {d : DefRec} {x : Str} (h1 : l.most = some m) (h2 : m ≤ sizeLine) (h3 : d.params.defaults = []) (h4 : Room j callerA)
    (h : ∀ (u : World) (mg : Str → Option Value) (a : Addr) (hp : Heap), YP u hp → hp.Ns mainGlobals mg → mg d.name = some (.ref a) → ∃ K : Frag, K.In hp ∧ LawAtS l u K (L2.CX l.prog u) j m x mg a hp) :
    PySem.W.WalkO q lo XP YP l.row.toRowW d [] (fun f vs => PySem.call f vs) :=
  walk_ofTsE h1 h2 h3 h4 h fun w H s e s' z => by
    obtain ⟨_, _, _, _, _, _, _, _, _, _, _, _, z⟩ := z
    exact z
theorem lawAt {l : PySem.W.OpenLaw} {u : World} {j : Nat} {x : Str} {mg : Str → Option Value} {a : Addr} {hp : Heap} {ex : List XF} {fa : List Fa} {fn : List DefD} {tf : List LamD} {K0 : Frag} (c : SaysL ex fa fn tf hp K0) (k : K0.In hp)
    (h : ∃ fd : FuncData, (∀ (s : Shared) (y : Value), BindsTo s fd ⟨[y], []⟩ [(x, y)]) ∧ ∀ base : Heap, (markK tf K0).In base → base.Ns mainGlobals mg → (∀ p ∈ csOf tf K0, TabB base mg p.1 p.2) → FnOk l.prog u (markK tf K0) mg base (L2.CX l.prog u) j a fd [x] (spOf (markK tf K0) 1 cLaw)) :
    LawAtS l u (markK tf K0) (L2.CX l.prog u) j 63 x mg a hp := by
  obtain ⟨fd, hb, hF⟩ := h
  have mem : ∀ p ∈ csOf tf K0, ∃ r ∈ tf, cT K0 r.1 = p := fun p hp => by
    obtain ⟨r, hr, e⟩ := List.mem_map.mp hp
    exact ⟨r, hr, e⟩
  refine ⟨fd, csOf tf K0, _, fun p hp => ?_, fun p hp => ?_, fun p hp => ?_, hb, fun H b ns hl _ hT hS => law_sp hl (fun p hp => ?_) hS, hF⟩
  · obtain ⟨r, hr, rfl⟩ := mem p hp; exact c.empty r hr
  · obtain ⟨r, hr, rfl⟩ := mem p hp; rw [c.look]; exact c.out r hr
  · obtain ⟨r, hr, rfl⟩ := mem p hp; exact PySem.W.codeHd_of_K k (c.hd r hr)
  · rw [c.tabs] at hp
    obtain ⟨r, hr, rfl⟩ := List.mem_map.mp hp
    exact hT _ (List.mem_map.mpr ⟨r, hr, rfl⟩)
end TL
namespace TL
open PySem PySem.Spec PyProof.Rows L2 LamX
section
variable {X : Cx} {g : G} {env : List Sl} {Ψ : Exc → Prop} {Φ : PyData → Bool → Prop} {P : Po} {pos lp apos : Pos} {k : Nat} {ps : Arguments} {bd : Expr} {sc : Scope} {c T : Addr} {es : List Expr} {a : Expr}
inductive LmAll (N : Lam → Prop) : List Lam → List Prop → Prop
  | nil : LmAll N [] []
  | cons {l : Lam} {R : Prop} {ls : List Lam} {Rs : List Prop} (h : R → N l) (t : LmAll N ls Rs) : LmAll N (l :: ls) (R :: Rs)
theorem LmAll.len {N : Lam → Prop} : ∀ {ls : List Lam} {Rs : List Prop}, LmAll N ls Rs → ls.length = Rs.length
  | _, _, .nil => rfl
  | _, _, .cons _ t => congrArg Nat.succ t.len
theorem LmAll.get {N : Lam → Prop} : ∀ {ls : List Lam} {Rs : List Prop} {n : Nat} {l : Lam}, LmAll N ls Rs → ls[n]? = some l → Rs[n]?.getD False → N l
  | _, _, 0, _, .cons h _, e, r => by
    have e := Option.some.inj e
    subst e
    exact h r
  | _, _, n + 1, _, .cons _ t, e, r => t.get (n := n) e r
  | _, _, _, _, .nil, e, _ => by simp at e
end
end TL
namespace TL
open PySem PySem.Spec PyProof.Rows L2
section
variable {X : Cx} {g : G} {env env' : List Sl} {Ψ : Exc → Prop} {P : Po} {pos p lp : Pos} {a b c e : Expr} {es : List Expr} {rest body : List Stmt} {K : Frag} {F F' H H' : Hp} {σ σ' : SS}
theorem Sk.snocS {s0 : Sl} {q : Addr} (st : Sk K F H σ env) (hs : s0.fp = [q]) (h1 : SlOk K F H (some (.ref q)) s0) (h3 : F q = none) (h4 : ¬ Own env q) : Sk K F H (σ ++ [some (.ref q)]) (env ++ [s0]) where
  len := by rw [List.length_append, List.length_append, st.len]; rfl
  sl := fun i s h => by
    rcases snoc_get h with h | ⟨rfl, rfl⟩
    · have hi : i < σ.length := by rw [st.len]; exact (List.getElem?_eq_some_iff.mp h).1
      rw [List.getElem?_append_left hi]
      exact st.sl i s h
    · rw [← st.len, List.getElem?_append_right (Nat.le_refl _), Nat.sub_self]
      exact h1
  nd := fun i j s t a hi hj m1 m2 => by
    rcases snoc_get hi with hi2 | ⟨ei, es⟩
    · rcases snoc_get hj with hj2 | ⟨ej, et⟩
      · exact st.nd i j s t a hi2 hj2 m1 m2
      · have e : a = q := by rw [et, hs] at m2; simpa using m2
        exact absurd ⟨i, s, hi2, e ▸ m1⟩ h4
    · rcases snoc_get hj with hj2 | ⟨ej, et⟩
      · have e : a = q := by rw [es, hs] at m1; simpa using m1
        exact absurd ⟨j, t, hj2, e ▸ m2⟩ h4
      · rw [ei, ej]
  fr := fun a ⟨i, s, hi, m⟩ => by
    rcases snoc_get hi with hi2 | ⟨_, rfl⟩
    · exact st.fr a ⟨i, s, hi2, m⟩
    · have e : a = q := by rw [hs] at m; simpa using m
      rw [e]; exact h3
  ex := st.ex
  tf := st.tf
  tk := st.tk
theorem St.snocS {s0 : Sl} {q : Addr} (st : St K g F H σ env) (hs : s0.fp = [q]) (h1 : SlOk K F H (some (.ref q)) s0) (h3 : F q = none) (h4 : ¬ Own env q) (h5 : g.H0 q = none) : St K g F H (σ ++ [some (.ref q)]) (env ++ [s0]) :=
  { st.toSk.snocS hs h1 h3 h4 with
    gt := st.gt, g1 := st.g1, g3 := st.g3, g4 := st.g4, g5 := st.g5, g6 := st.g6
    g2 := fun a ⟨i, s, hi, m⟩ => by
      rcases snoc_get hi with hi2 | ⟨_, rfl⟩
      · exact st.g2 a ⟨i, s, hi2, m⟩
      · have e : a = q := by rw [hs] at m; simpa using m
        rw [e]; exact .inl h5 }
/-- arguments, a new dict at the end -/
def WAd (X : Cx) (g : G) (es : List Expr) (env : List Sl) (Φ : List Ar → Prop) (Ψ : Exc → Prop) : Prop :=
  ∀ (W : WX), Takes X W → ∀ (σ : SS) (F H : Hp), St X.K g F H σ env → HX X g env Ψ W σ →
    ∀ Q : List V → Hp → Prop, (∀ as vs q F' H', Φ as → St X.K g F' H' σ env → Ex F F' → ArAll X.K F' σ vs as → H' q = some (.dT []) → F' q = none → ¬ Own env q → g.H0 q = none → Q (vs ++ [.ref q]) H') → semA X es σ H Q
section
variable {Φ : List Ar → Prop}
theorem wad_t (h : Φ []) (hs : starEach [.Dict [] [] lp] X.env = (false, eval (.Dict [] [] lp) X.env) :: starEach [] X.env := by rfl) : WAd X g [.Dict [] [] lp] env Φ Ψ := fun W tk σ F H st hx Q hQ => by
  refine semA_of (pa_cons pe_dnewT pa_nil hs) fun q hn => ?_
  exact hQ [] [] q F _ h (st.alloc hn) (Ex.refl F) trivial upd_same (st.ex.none hn) (st.toSk.notown hn) (st.h0 hn)
theorem wad_d (he : WE X g e env (fun d z => z = true ∧ WAd X g es env (fun as => Φ (.d d :: as)) Ψ) Ψ) (hs : starEach (e :: es) X.env = (false, eval e X.env) :: starEach es X.env := by rfl) : WAd X g (e :: es) env Φ Ψ := fun W tk σ F H st hx Q hQ => by
  refine semA_of (pa_cons (peS e) (paS es) hs) ?_
  refine he W tk σ F H st hx _ fun d z v F1 H1 ⟨hz, hp⟩ s1 e1 r1 => ?_
  subst hz
  exact hp W tk σ F1 H1 s1 hx _ fun as vs q F2 H2 hp2 s2 e2 r2 => hQ (.d d :: as) (v :: vs) q F2 H2 hp2 s2 (e1.trans e2) ⟨dp_mono e2 _ _ r1, r2⟩
end
theorem backE_snoc {as : List Ar} {env : List Sl} {s0 s1 : Sl} (h3 : ∀ i ∈ arIx as, i < env.length) : backE (env ++ [s0]) (as ++ [Ar.s env.length]) (as.map (slOf env) ++ [s1]) = env ++ [s1] := by
  have go : ∀ (as : List Ar) (env : List Sl) (n : Nat), n = env.length → (∀ i ∈ arIx as, i < env.length) → backE (env ++ [s0]) (as ++ [Ar.s n]) (as.map (slOf env) ++ [s1]) = env ++ [s1] := fun as env n hn => by
    subst hn
    induction as with
    | nil =>
      intro _
      show (env ++ [s0]).set env.length s1 = _
      rw [List.set_append_right _ _ (Nat.le_refl _), Nat.sub_self]
      rfl
    | cons a as ih =>
      intro hh
      cases a with
      | d d => exact ih hh
      | s i =>
        have hi := hh i (List.mem_cons_self ..)
        show (backE (env ++ [s0]) (as ++ [.s env.length]) (as.map (slOf env) ++ [s1])).set i (env[i]?.getD .un) = _
        rw [ih fun j hj => hh j (List.mem_cons_of_mem _ hj), List.getElem?_eq_getElem hi, List.set_append_left _ _ hi]
        show env.set i env[i] ++ _ = _
        rw [List.set_getElem_self hi]
  exact go as env _ rfl h3
/-- g(.., {}): a new list, the dict is let go -/
theorem wn_callD {j k : Nat} {x : Str} {ps : List Str} {S : CT} {Φ : List PyData → Prop} (hf : Has X.prog X.w X.K X.mg X.base j x ps S) (hr : Room k X.A)
    (h : WAd X g (e :: es) env (fun as => callOk as (ps.length - 1) env.length = true ∧ 1 ≤ ps.length ∧ ∀ q, S (as.map (slOf env) ++ [.dt q []]) (fun r args' => ∃ s ds, args' = as.map (slOf env) ++ [.dt q s] ∧ r = .nl ds ∧ Φ ds) (fun _ _ => False)) Ψ)
    (hj : j ≤ k := by omega) (hg : Gl X x := by rfl) (hdb : (x == ("__debug__" : Str)) = false := by decide)
    (he : starEach (e :: es) X.env = (false, eval e X.env) :: starEach es X.env := by rfl) (hpl : (backTo pos (starEach es X.env)).any (·.1) = false := by rfl) : WN X g (.Call (.Name x p) (e :: es) [] pos) env Φ Ψ := fun W tk σ F H st hx Q hQ => by
  obtain ⟨f, fd, hm, hk, hb, F0⟩ := hf.ex
  refine semE_of (pe_callS F0 (hr.mono hj) hg hm hk hb (fun σ => passAt tk σ) (paS (e :: es)) hdb he hpl) ?_
  refine h W tk σ F H st hx _ fun as vs q F1 H1 ⟨hok, hn1, hS⟩ s1 e1 ra g1 g2 g3 g4 => ?_
  obtain ⟨h1, h2, h3⟩ := callOk_ok hok
  have s2 := s1.snocS (s0 := .dt q []) rfl ⟨rfl, [], g1, .nil⟩ g2 g3 g4
  have ra2 := arall_snoc (x := some (.ref q)) (q := q) rfl (n := env.length) s1.len.symm ra
  have nd2 : (arIx (as ++ [Ar.s env.length])).Nodup := by
    rw [arix_snoc]
    refine List.nodup_append.mpr ⟨h2, by simp, fun a ha b hb z => ?_⟩
    have : b = env.length := by simpa using hb
    have := h3 a ha
    omega
  have hs2 : ∀ i ∈ arIx (as ++ [Ar.s env.length]), i < (env ++ [Sl.dt q []]).length := fun i hi => by
    rw [arix_snoc] at hi
    rw [List.length_append]
    rcases List.mem_append.mp hi with hi | hi
    · have := h3 i hi; simp; omega
    · have : i = env.length := by simpa using hi
      simp; omega
  have sk2 := s2.toSk.callee ra2 nd2 hs2
  rw [map_snoc h3] at sk2
  refine ⟨by rw [List.length_append, arall_len ra, h1]; simp; omega, F1, as.map (slOf env) ++ [.dt q []], _, _, hS q, sk2, fun r v args' F' H' ⟨s, ds, ea, hr2, hp⟩ sk hst _ pr => ?_, fun c args' F' H' hp _ _ _ => hp.elim⟩
  subst ea hr2
  have hst2 : Step F1 H1 ((as ++ [Ar.s env.length]).map (slOf (env ++ [Sl.dt q []]))) F' H' := by rw [map_snoc h3]; exact hst
  have s3 := st_back s2 ra2 nd2 hs2 sk hst2 (by rw [map_snoc h3, List.map_append, List.map_append]; rfl)
  rw [backE_snoc h3] at s3
  obtain ⟨p0, xs, hv, y1, y2, y3, y4, y5⟩ := pr
  exact hQ ds v F' H' hp s3.unsnoc (e1.trans hst.1) ⟨p0, xs, hv, y1, y2, y3, fun z => s1.there z y4, s1.h0 y4⟩
/-- x = x + g(..), g changes what it is handed -/
theorem w1_catM (i : Nat) {j k : Nat} {x gx : Str} {ps : List Str} {S : CT} {q : Addr} {ds : List PyData} {p1 p2 p3 p4 pb : Pos} (he0 : env[i]? = some (.ol q ds)) (hN : X.N.Nodup) (hf : Has X.prog X.w X.K X.mg X.base j gx ps S) (hr : Room k X.A)
    (h : WAs X g (e :: es) env (fun as => callOk as ps.length env.length = true ∧ (arIx as).contains i = false ∧ S (as.map (slOf env)) (fun r args' => args'.map Sl.fp = (as.map (slOf env)).map Sl.fp ∧ ∃ es', r = .nl es' ∧ ds.length + es'.length ≤ sizeLine ∧ ∀ q', q' ∉ g.M → P.nx ((backE env as args').set i (.ol q' (ds ++ es')))) (fun _ _ => False)) (fun c => P.ex c env))
    (hj : j ≤ k := by omega) (hg : Gl X gx := by rfl) (hdb : (gx == ("__debug__" : Str)) = false := by decide)
    (he : starEach (e :: es) X.env = (false, eval e X.env) :: starEach es X.env := by rfl) (hpl : (backTo pos (starEach es X.env)).any (·.1) = false := by rfl)
    (hi : X.N[i]? = some x := by rfl) (hx : Loc X.env.scope x := by first | exact Or.inl rfl | exact Or.inr rfl)
    (hv : Vis X.env.scope x := by first | exact Or.inl rfl | exact Or.inr (Or.inl rfl) | exact Or.inr (Or.inr rfl)) (hd : (x == ("__debug__" : Str)) = false := by decide)
    (hcd : (x == ("__classdict__" : Str)) = false := by decide)
    (hs : swapsWith (.BinOp (.Name x p2) .Add (.Call (.Name gx p3) (e :: es) [] pos) pb) (some (.Name x p1)) p4.line X.env = pure false := by rfl) (hfn : X.fn x = true ∨ X.env.scope.names.lookup x = some .local := by first | exact .inl rfl | exact .inr rfl) :
    W1 X g (.Assign [.Name x p1] (.BinOp (.Name x p2) .Add (.Call (.Name gx p3) (e :: es) [] pos) pb) p4) env P := fun W tk hx2 σ F H s0 D hD => by
  obtain ⟨f, fd, hm, hk, hb, F0⟩ := hf.ex
  refine semP_of (ps_set hN hi hx (pe_op op_catL (pe_var hi hv hd hcd) (pe_callS F0 (hr.mono hj) hg hm hk hb (fun σ => passAt tk σ) (paS (e :: es)) hdb he hpl)) hs hfn) ?_
  have l0 := s0.sl i _ he0
  refine ⟨_, getD_some l0.1, ?_⟩
  refine h W tk σ F H s0 (hx2.hx env σ) _ fun as vs F1 H1 ⟨hok, hni, hS⟩ s1 e1 ra => ?_
  obtain ⟨h1, h2, h3⟩ := callOk_ok hok
  refine ⟨by rw [arall_len ra, h1], F1, as.map (slOf env), _, _, hS, s1.toSk.callee ra h2 h3, fun r v args' F' H' ⟨hfp, es', er, hlen, hp⟩ sk hst _ pr => ?_, fun c args' F' H' hp _ _ _ => hp.elim⟩
  subst er
  have s2 := st_back s1 ra h2 h3 sk hst hfp
  obtain ⟨p0, xs, hv0, y1, y2, y3, y4, y5⟩ := pr
  subst hv0
  have hnot : i ∉ arIx as := fun z => by
    have : (arIx as).contains i = true := List.contains_iff_mem.mpr z
    rw [hni] at this; cases this
  have he2 : (backE env as args')[i]? = some (.ol q ds) := by rw [backE_out hnot]; exact he0
  obtain ⟨l1, vs0, l2, l3⟩ := s2.sl i _ he2
  refine ⟨q, p0, vs0, xs, rfl, rfl, SqL.of l2, SqL.of y1, by rw [dpa_len l3, dpa_len y2]; exact hlen, fun pn hn => ?_⟩
  have s3 := s2.alloc (o := .lst (vs0 ++ xs)) hn
  have hF : F' pn = none := s2.ex.none hn
  exact hD.nx _ _ F' _ (hp pn fun m => s2.g6 pn m (s2.h0 hn)) (s3.setL (by rw [backE_len]; exact (List.getElem?_eq_some_iff.mp he0).1) upd_same (dpa_app l3 y2) hF (s2.toSk.notown hn) (s2.h0 hn)) (e1.trans hst.1)
end
end TL
namespace TL
open PySem PySem.Spec PyProof.Rows L2
open Classical in
noncomputable def cutS (F : Hp) (S : Addr → Prop) : Hp := fun b => if S b then none else F b
end TL
namespace TL
open PySem PySem.Spec PyProof.Rows L2
def NewS (K : Frag) (g : G) (F H : Hp) (env : List Sl) (v : V) (s : Sl) : Prop := SlOk K F H (some v) s ∧ ∀ p ∈ s.fp, F p = none ∧ ¬ Own env p ∧ g.H0 p = none
def WO (X : Cx) (g : G) (e : Expr) (env : List Sl) (Φ : Sl → Prop) (Ψ : Exc → Prop) : Prop :=
  ∀ (W : WX), Takes X W → ∀ (σ : SS) (F H : Hp), St X.K g F H σ env → HX X g env Ψ W σ →
    ∀ Q : VK, (∀ s v F' H', Φ s → St X.K g F' H' σ env → Ex F F' → NewS X.K g F' H' env v s → Q v H') → semE X e σ H Q
section
variable {X : Cx} {g : G} {env env' : List Sl} {Ψ : Exc → Prop} {P : Po} {pos p lp : Pos} {a b c e e1 e2 : Expr} {es : List Expr} {rest body : List Stmt} {K : Frag} {F F' F1 F2 H H' H1 H2 : Hp} {σ σ' : SS} {s : Sl} {v : V} {x : PyData}
theorem WO.mono {Φ Φ' : Sl → Prop} (h : WO X g e env Φ Ψ) (k : ∀ s, Φ s → Φ' s) : WO X g e env Φ' Ψ :=
  fun W tk σ F H st hx Q hQ => h W tk σ F H st hx Q fun s v F' H' p => hQ s v F' H' (k s p)
theorem St.setS {i : Nat} (st : St K g F H σ env) (hi : i < env.length) (n : NewS K g F H env v s) : St K g F H (σ.set i (some v)) (env.set i s) :=
  st.set hi n.1 (fun b hb => (n.2 b hb).1) (fun b hb j t _ e ht => (n.2 b hb).2.1 ⟨j, t, e, ht⟩) (fun b hb => .inl (n.2 b hb).2.2)
/-- x = e, a new owned thing -/
theorem w1_setO (i : Nat) {x : Str} {pos' : Pos} (hN : X.N.Nodup) (h : WO X g e env (fun s => (∀ b ∈ s.fp, b ∉ g.M) → P.nx (env.set i s)) (fun c => P.ex c env)) (hi : X.N[i]? = some x := by rfl) (hx : Loc X.env.scope x := by first | exact Or.inl rfl | exact Or.inr rfl) (hl : Nat.blt i env.length = true := by rfl)
    (hs : swapsWith e (some (.Name x pos')) pos.line X.env = pure false := by rfl) (hf : X.fn x = true ∨ X.env.scope.names.lookup x = some .local := by first | exact .inl rfl | exact .inr rfl) : W1 X g (.Assign [.Name x pos'] e pos) env P := fun W tk hx2 σ F H s0 D hD => by
  refine semP_of (ps_set hN hi hx (peS e) hs hf) ?_
  refine h W tk σ F H s0 (hx2.hx env σ) _ fun s v F' H' hp s' e' n => ?_
  exact hD.nx _ _ F' H' (hp fun b hb m => s'.g6 b m (n.2 b hb).2.2) (s'.setS (ltB hl) n) e'
end
end TL
namespace TL
open PySem PySem.Spec PyProof.Rows L2
def otT (a : Addr) (as : List Addr) (ds : List (List PyData)) : OwT where
  id := a
  fp := (as.zip ds).map (·.1)
  ok := fun K F H v => v = .ref a ∧ F a = some (.tup ((as.zip ds).map fun r => .ref r.1)) ∧ ((as.zip ds).map (·.1)).Nodup ∧ ∀ r ∈ as.zip ds, ∃ vs, H r.1 = some (.lst vs) ∧ DqAll K F vs r.2
  isr := fun h => h.1
  mono := fun {K F F' H H' v} e k h => by
    obtain ⟨h1, h2, h3, h4⟩ := h
    refine ⟨h1, e _ _ h2, h3, fun r hr => ?_⟩
    obtain ⟨vs, q1, q2⟩ := h4 r hr
    exact ⟨vs, k r.1 (List.mem_map_of_mem hr) _ q1, dpa_mono e _ _ q2⟩
  there := fun {K F H v} h b hb => by
    obtain ⟨r, hr, rfl⟩ := List.mem_map.mp hb
    obtain ⟨vs, q1, _⟩ := h.2.2.2 r hr
    exact ⟨_, q1, rfl⟩
  rows := as.zip ds
  held := fun {K F H v} h r hr => h.2.2.2 r hr
def IsNest (x : PyData) (s : Sl) : Prop := (∃ ds al as, x = .list (ds.map .list) ∧ s = ooS al as ds ∧ as.length = ds.length) ∨ ∃ ds a as, x = .tuple (ds.map .list) ∧ s = .ow (otT a as ds) ∧ as.length = ds.length
section
variable {X : Cx} {g : G} {env env' : List Sl} {Ψ : Exc → Prop} {P : Po} {pos p lp : Pos} {a b c e e1 e2 : Expr} {es : List Expr} {rest body : List Stmt} {K : Frag} {F F' F1 F2 H H' H1 H2 : Hp} {σ σ' : SS} {s : Sl} {v : V} {x kd : PyData}
theorem IsNest.ne (h : IsNest x s) : s ≠ .un := by
  rcases h with ⟨_, _, _, _, rfl, _⟩ | ⟨_, _, _, _, rfl, _⟩ <;> (intro z; cases z)
end
end TL
namespace TL
open PySem PySem.Spec PyProof.Rows L2
section
variable {X : Cx} {g : G} {env env' : List Sl} {Ψ : Exc → Prop} {P : Po} {pos p lp : Pos} {a b c e e1 e2 elt tg iter : Expr} {es : List Expr} {rest body : List Stmt} {K : Frag} {F F' F1 F2 H H' H1 H2 : Hp} {σ σ' : SS} {s : Sl} {v : V} {x kd : PyData}
/-- what stood and no slot owns stays as it is, out of the frozen part -/
theorem St.keeps {D : Addr} {u : HO} (s2 : St K ⟨F, H, fps env⟩ F' H' σ' env') (hD : H D = some u) (hu : ntb u) (fD : F D = none) (oD : ¬ Own env D) : H' D = some u ∧ F' D = none := by
  refine ⟨s2.g1 D _ hD (fun z => oD (own_fps.mpr z)) hu, ?_⟩
  cases q : F' D with
  | none => rfl
  | some w =>
    rcases s2.g4 D (by rw [q]; intro z; cases z) with z | z
    · exact absurd fD z
    · have z' : H D = none := z
      rw [hD] at z'; cases z'
end
end TL
namespace TL
open PySem PySem.Spec PyProof.Rows L2
structure HasD (P : Program) (w : World) (K : Frag) (mg : Str → Option Value) (base : Heap) (k : Nat) (x : Str) (ps : List Str) (dvs : List V) (S : CT) : Prop where
  ex : ∃ f fd ds, mg x = some (.ref f) ∧ PySem.W.keepIn K (.ref f) = true ∧ Vals dvs ds ∧ Binds K fd ps ds ∧ FnOk P w K mg base (L2.CX P w) k f fd ps (spOf K ps.length S)
structure HasN (P : Program) (w : World) (K : Frag) (mg : Str → Option Value) (base : Heap) (k : Nat) (x : Str) (ps : List Str) (n : Nat) (ks : List Str) (S : CT) : Prop where
  ex : ∃ f fd, mg x = some (.ref f) ∧ PySem.W.keepIn K (.ref f) = true ∧ L2.KBn K fd ps n ks (fun us ws => us ++ ws) (fun us ws => us ++ ws) ∧ FnOk P w K mg base (L2.CX P w) k f fd ps (spOf K ps.length S)
theorem HasD.mono {P : Program} {w : World} {K : Frag} {mg : Str → Option Value} {base : Heap} {k k' : Nat} {x : Str} {ps : List Str} {dvs : List V} {S : CT} (h : HasD P w K mg base k x ps dvs S) (le : k ≤ k') : HasD P w K mg base k' x ps dvs S := by
  obtain ⟨f, fd, ds, h1, h2, h3, h4, h5⟩ := h.ex
  exact ⟨f, fd, ds, h1, h2, h3, h4, h5.mono le⟩
theorem HasN.mono {P : Program} {w : World} {K : Frag} {mg : Str → Option Value} {base : Heap} {k k' n : Nat} {x : Str} {ps ks : List Str} {S : CT} (h : HasN P w K mg base k x ps n ks S) (le : k ≤ k') : HasN P w K mg base k' x ps n ks S := by
  obtain ⟨f, fd, h1, h2, h3, h5⟩ := h.ex
  exact ⟨f, fd, h1, h2, h3, h5.mono le⟩
end TL
namespace TL
open PySem PySem.Spec PyProof.Rows L2
inductive OF where
  | d (x : PyData)
  | l (ds : List PyData)
inductive OA where
  | d (x : PyData)
  | l (q : Addr) (ds : List PyData)
def OA.fp : OA → List Addr
  | .d _ => []
  | .l q _ => [q]
def OA.of : OA → OF
  | .d x => .d x
  | .l _ ds => .l ds
def ofp (fs : List (Str × OA)) : List Addr := fs.flatMap fun p => p.2.fp
def FOk (K : Frag) (F H : Hp) : List (Str × V) → List (Str × OA) → Prop
  | [], [] => True
  | (f, v) :: vs, (g, o) :: fs => f = g ∧ (match o with
    | .d x => Dq K F v x
    | .l q ds => v = .ref q ∧ ∃ us, H q = some (.lst us) ∧ DqAll K F us ds) ∧ FOk K F H vs fs
  | _, _ => False
theorem fok_mono {K : Frag} {F F' H H' : Hp} (e : Ex F F') : ∀ {vs : List (Str × V)} {fs : List (Str × OA)}, (∀ b ∈ ofp fs, ∀ u, H b = some u → H' b = some u) → FOk K F H vs fs → FOk K F' H' vs fs
  | [], [], _, _ => trivial
  | (f, v) :: vs, (g, .d x) :: fs, k, ⟨h1, h2, h3⟩ => ⟨h1, dp_mono e _ _ h2, fok_mono e (fun b hb => k b (by unfold ofp at *; rw [List.flatMap_cons]; exact List.mem_append_right _ hb)) h3⟩
  | (f, v) :: vs, (g, .l q ds) :: fs, k, ⟨h1, ⟨h2, us, h4, h5⟩, h3⟩ =>
    ⟨h1, ⟨h2, us, k q (by unfold ofp; rw [List.flatMap_cons]; exact List.mem_append_left _ (List.mem_singleton.mpr rfl)) _ h4, dpa_mono e _ _ h5⟩, fok_mono e (fun b hb => k b (by unfold ofp at *; rw [List.flatMap_cons]; exact List.mem_append_right _ hb)) h3⟩
  | [], _ :: _, _, h => h.elim
  | _ :: _, [], _, h => h.elim
theorem fok_there {K : Frag} {F H : Hp} : ∀ {vs : List (Str × V)} {fs : List (Str × OA)}, FOk K F H vs fs → ∀ b ∈ ofp fs, ∃ us, H b = some (.lst us)
  | [], [], _, b, hb => by cases hb
  | (f, v) :: vs, (g, .d x) :: fs, ⟨h1, h2, h3⟩, b, hb => by
    unfold ofp at hb; rw [List.flatMap_cons] at hb
    exact fok_there h3 b hb
  | (f, v) :: vs, (g, .l q ds) :: fs, ⟨h1, ⟨h2, us, h4, h5⟩, h3⟩, b, hb => by
    unfold ofp at hb; rw [List.flatMap_cons] at hb
    rcases List.mem_append.mp hb with z | z
    · rw [List.mem_singleton.mp z]; exact ⟨us, h4⟩
    · exact fok_there h3 b z
  | [], _ :: _, h, _, _ => h.elim
  | _ :: _, [], h, _, _ => h.elim
def oarows (fs : List (Str × OA)) : List (Addr × List PyData) := fs.flatMap fun p => match p.2 with
  | .d _ => []
  | .l q ds => [(q, ds)]
theorem fok_held {K : Frag} {F H : Hp} : ∀ {vs : List (Str × V)} {fs : List (Str × OA)}, FOk K F H vs fs → ∀ r ∈ oarows fs, ∃ us, H r.1 = some (.lst us) ∧ DqAll K F us r.2
  | [], [], _, b, hb => by cases hb
  | (f, v) :: vs, (g, .d x) :: fs, ⟨h1, h2, h3⟩, b, hb => by
    unfold oarows at hb; rw [List.flatMap_cons] at hb
    exact fok_held h3 b hb
  | (f, v) :: vs, (g, .l q ds) :: fs, ⟨h1, ⟨h2, us, h4, h5⟩, h3⟩, b, hb => by
    unfold oarows at hb; rw [List.flatMap_cons] at hb
    rcases List.mem_append.mp hb with z | z
    · rw [List.mem_singleton.mp z]; exact ⟨us, h4, h5⟩
    · exact fok_held h3 b z
  | [], _ :: _, h, _, _ => h.elim
  | _ :: _, [], h, _, _ => h.elim
def obT (n : Str) (a dx : Addr) (fs : List (Str × OA)) : OwT where
  id := a
  fp := a :: dx :: ofp fs
  ok := fun K F H v => v = .ref a ∧ InsK K n ∧ (ofp fs).Nodup ∧ H dx = some (.own a) ∧ ∃ vs, H a = some (.ins (He.ga K n) dx vs) ∧ FOk K F H vs fs
  isr := fun h => h.1
  mono := fun e k ⟨h1, h2, h3, h4, vs, h5, h6⟩ => ⟨h1, h2, h3, k dx (by simp) _ h4, vs, k a (by simp) _ h5, fok_mono e (fun b hb => k b (by simp [hb])) h6⟩
  there := fun ⟨h1, h2, h3, h4, vs, h5, h6⟩ b hb => by
    rcases List.mem_cons.mp hb with rfl | hb
    · exact ⟨_, h5, rfl⟩
    · rcases List.mem_cons.mp hb with rfl | hb
      · exact ⟨_, h4, rfl⟩
      · obtain ⟨us, h⟩ := fok_there h6 b hb
        exact ⟨_, h, rfl⟩
  rows := oarows fs
  held := fun ⟨h1, h2, h3, h4, vs, h5, h6⟩ r hr => fok_held h6 r hr
/-- an object of the class n with these fields -/
def IsOb (n : Str) (fs : List (Str × OF)) (s : Sl) : Prop := ∃ a dx fa, s = .ow (obT n a dx fa) ∧ fs = fa.map fun p => (p.1, p.2.of)
theorem IsOb.ne {n : Str} {fs : List (Str × OF)} {s : Sl} (h : IsOb n fs s) : s ≠ .un := by
  obtain ⟨a, dx, fa, rfl, _⟩ := h
  intro z; cases z
end TL
namespace TL
open PySem PySem.Spec PyProof.Rows L2
structure HasM (P : Program) (w : World) (K : Frag) (mg : Str → Option Value) (base : Heap) (k : Nat) (n m : Str) (ps : List Str) (S : CT) : Prop where
  ex : ∃ f fd, Meth K (He.ga K n) m f ∧ Binds K fd ps [] ∧ FnOk P w K mg base (L2.CX P w) k f fd ps (spOf K ps.length S)
theorem HasM.mono {P : Program} {w : World} {K : Frag} {mg : Str → Option Value} {base : Heap} {k k' : Nat} {n m : Str} {ps : List Str} {S : CT} (h : HasM P w K mg base k n m ps S) (le : k ≤ k') : HasM P w K mg base k' n m ps S := by
  obtain ⟨f, fd, h1, h2, h3⟩ := h.ex
  exact ⟨f, fd, h1, h2, h3.mono le⟩
end TL
namespace TL
open PySem PySem.Spec PyProof.Rows L2
structure HasI (P : Program) (w : World) (K : Frag) (mg : Str → Option Value) (base : Heap) (k : Nat) (n : Str) (ps : List Str) (S : CT) : Prop where
  ex : ∃ f fd, mg n = some (.ref (He.ga K n)) ∧ InsK K n ∧ Mk K (He.ga K n) f ∧ Binds K fd ps [] ∧ FnOk P w K mg base (L2.CX P w) k f fd ps (spOf K ps.length S)
theorem HasI.mono {P : Program} {w : World} {K : Frag} {mg : Str → Option Value} {base : Heap} {k k' : Nat} {n : Str} {ps : List Str} {S : CT} (h : HasI P w K mg base k n ps S) (le : k ≤ k') : HasI P w K mg base k' n ps S := by
  obtain ⟨f, fd, h1, h2, h3, h4, h5⟩ := h.ex
  exact ⟨f, fd, h1, h2, h3, h4, h5.mono le⟩
section
variable {X : Cx} {g : G} {env env' : List Sl} {Ψ : Exc → Prop} {P : Po} {pos p apos q lp : Pos} {a b c e ex o : Expr} {es : List Expr} {rest body orelse : List Stmt} {K : Frag} {F F' F1 F2 H H' H1 H2 : Hp} {σ σ' : SS} {s s' : Sl} {v : V} {x kd : PyData} {n m xn : Str} {fs : List (Str × OF)}
/-- a slot more, at the end -/
theorem St.push (st : St K g F H σ env) (h : SlOk K F H (some v) s) (hn : ∀ b ∈ s.fp, F b = none ∧ ¬ Own env b ∧ g.H0 b = none) : St K g F H (σ ++ [some v]) (env ++ [s]) := by
  have hl := st.len
  have cas : ∀ (j : Nat) (t : Sl), (env ++ [s])[j]? = some t → env[j]? = some t ∨ (j = env.length ∧ t = s) := fun j t e => by
    by_cases z : j < env.length
    · rw [List.getElem?_append_left z] at e; exact .inl e
    · rw [List.getElem?_append_right (by omega)] at e
      have hj : j - env.length < 1 := by
        by_cases y : j - env.length < 1
        · exact y
        · rw [List.getElem?_eq_none (by simp; omega)] at e; cases e
      have : j = env.length := by omega
      subst this
      rw [Nat.sub_self] at e
      exact .inr ⟨rfl, (Option.some.inj e).symm⟩
  have ow : ∀ b, Own (env ++ [s]) b → Own env b ∨ b ∈ s.fp := fun b ⟨j, t, e, ht⟩ => by
    rcases cas j t e with z | ⟨_, rfl⟩
    · exact .inl ⟨j, t, z, ht⟩
    · exact .inr ht
  refine { len := by rw [List.length_append, List.length_append, hl]; rfl, sl := fun j t e => ?_, nd := fun j k t u b ej ek ht hu => ?_, fr := fun b hb => (ow b hb).elim (st.fr b) fun z => (hn b z).1, ex := st.ex, tf := st.tf, tk := st.tk, gt := st.gt, g1 := st.g1, g2 := fun b hb => (ow b hb).elim (st.g2 b) fun z => .inl (hn b z).2.2, g3 := st.g3, g4 := st.g4, g5 := st.g5, g6 := st.g6 }
  · rcases cas j t e with z | ⟨rfl, rfl⟩
    · have : j < σ.length := by rw [hl]; exact (List.getElem?_eq_some_iff.mp z).1
      rw [List.getElem?_append_left this]; exact st.sl j t z
    · rw [List.getElem?_append_right (by omega), hl, Nat.sub_self]; exact h
  · rcases cas j t ej with z | ⟨rfl, rfl⟩ <;> rcases cas k u ek with y | ⟨rfl, rfl⟩
    · exact st.nd j k t u b z y ht hu
    · exact absurd ⟨j, t, z, ht⟩ (hn b hu).2.1
    · exact absurd ⟨k, u, y, hu⟩ (hn b ht).2.1
    · rfl
structure HasIK (P : Program) (w : World) (K : Frag) (mg : Str → Option Value) (base : Heap) (k : Nat) (n nm : Str) (ps : List Str) (S : CT) : Prop where
  ex : ∃ f fd, mg n = some (.ref (He.ga K n)) ∧ InsK K n ∧ Mk K (He.ga K n) f ∧ L2.KBn K fd ps 1 [nm] (fun us ws => us ++ ws) (fun us ws => us ++ ws) ∧ FnOk P w K mg base (L2.CX P w) k f fd ps (spOf K ps.length S)
theorem HasIK.mono {P : Program} {w : World} {K : Frag} {mg : Str → Option Value} {base : Heap} {k k' : Nat} {n nm : Str} {ps : List Str} {S : CT} (h : HasIK P w K mg base k n nm ps S) (le : k ≤ k') : HasIK P w K mg base k' n nm ps S := by
  obtain ⟨f, fd, h1, h2, h3, h4, h5⟩ := h.ex
  exact ⟨f, fd, h1, h2, h3, h4, h5.mono le⟩
structure HasID (P : Program) (w : World) (K : Frag) (mg : Str → Option Value) (base : Heap) (k : Nat) (n : Str) (ps : List Str) (dvs : List V) (S : CT) : Prop where
  ex : ∃ f fd ds, mg n = some (.ref (He.ga K n)) ∧ InsK K n ∧ Mk K (He.ga K n) f ∧ Vals dvs ds ∧ Binds K fd ps ds ∧ FnOk P w K mg base (L2.CX P w) k f fd ps (spOf K ps.length S)
theorem HasID.mono {P : Program} {w : World} {K : Frag} {mg : Str → Option Value} {base : Heap} {k k' : Nat} {n : Str} {ps : List Str} {dvs : List V} {S : CT} (h : HasID P w K mg base k n ps dvs S) (le : k ≤ k') : HasID P w K mg base k' n ps dvs S := by
  obtain ⟨f, fd, ds, h1, h2, h3, h4, h5, h6⟩ := h.ex
  exact ⟨f, fd, ds, h1, h2, h3, h4, h5, h6.mono le⟩
end
end TL
namespace TL
open PySem PySem.Spec PyProof.Rows L2
section
variable {X : Cx} {g : G} {env env' : List Sl} {Ψ : Exc → Prop} {P : Po} {pos p apos q : Pos} {a b c e ex o : Expr} {es : List Expr} {rest body : List Stmt} {K : Frag} {F F' F1 F2 H H' H1 H2 : Hp} {σ σ' : SS} {s s' : Sl} {v : V} {x kd : PyData} {n m xn : Str} {fs : List (Str × OF)}
theorem HasI.ins {P : Program} {w : World} {K : Frag} {mg : Str → Option Value} {base : Heap} {k : Nat} {n : Str} {ps : List Str} {S : CT} (h : HasI P w K mg base k n ps S) : InsK K n := by
  obtain ⟨f, fd, h1, h2, h3⟩ := h.ex
  exact h2
end
end TL
namespace TL
open PySem PySem.Spec PyProof.Rows L2
open Sem (wp)
def nk1 : PyData → Option NestedKey
  | .int i => some (.num i)
  | .str s => some (.text s)
  | _ => none
def nkL (f : PyData → Option NestedKey) : List PyData → Option (List NestedKey)
  | [] => some []
  | d :: r => match f d, nkL f r with
    | some k, some l => some (k :: l)
    | _, _ => none
/-- not a tuple that the module may hold -/
def noStart : List PyData → Bool
  | .int _ :: .int _ :: .int _ :: _ => false
  | _ => true
def nkT (f : PyData → Option NestedKey) (ds : List PyData) : Option NestedKey := match noStart ds with
  | true => (nkL f ds).map .tup
  | false => none
def nk2 : PyData → Option NestedKey
  | .tuple ds => nkT nk1 ds
  | d => nk1 d
def keyN : PyData → Option NestedKey
  | .tuple ds => nkT nk2 ds
  | _ => none
mutual
inductive NKv (H : Hp) : NestedKey → V → Prop
  | num (i : Int) : NKv H (.num i) (.int i)
  | text (x : Str) : NKv H (.text x) (.str x)
  | tup {a : Addr} {vs : List V} {ks : List NestedKey} : H a = some (.tup vs) → NKvs H ks vs → NKv H (.tup ks) (.ref a)
inductive NKvs (H : Hp) : List NestedKey → List V → Prop
  | nil : NKvs H [] []
  | cons {k : NestedKey} {v : V} {ks : List NestedKey} {vs : List V} : NKv H k v → NKvs H ks vs → NKvs H (k :: ks) (v :: vs)
end
section
variable {P : Program} {w : World} {H H' F : Hp} {h : Heap} {K : Frag}
mutual
theorem NKv.mono (e : ∀ a vs, H a = some (.tup vs) → H' a = some (.tup vs)) : ∀ {k : NestedKey} {v : V}, NKv H k v → NKv H' k v
  | _, _, .num i => .num i
  | _, _, .text x => .text x
  | _, _, .tup h1 h2 => .tup (e _ _ h1) (NKvs.mono e h2)
theorem NKvs.mono (e : ∀ a vs, H a = some (.tup vs) → H' a = some (.tup vs)) : ∀ {k : List NestedKey} {v : List V}, NKvs H k v → NKvs H' k v
  | _, _, .nil => .nil
  | _, _, .cons h1 h2 => .cons (NKv.mono e h1) (NKvs.mono e h2)
end
mutual
theorem NKv.is (ok : HOk P w H h) : ∀ {k : NestedKey} {v : V} {u : Value}, NKv H k v → RelV v u → NestedIs h k u
  | _, _, _, .num i, r => by obtain ⟨t, rfl⟩ := (show ∃ t, _ = Value.int i t from r); exact .int i t
  | _, _, _, .text x, r => by obtain ⟨t, rfl⟩ := (show ∃ t, _ = Value.str x t from r); exact .text x t
  | _, _, _, @NKv.tup _ a vs ks h1 h2, r => by
    cases (show _ = Value.ref a from r)
    obtain ⟨_, its, r, o, g1, g2, n, g3⟩ := (show ObjOk P w H h a (.tup vs) from ok a _ h1)
    exact .tup g1 g2 g3 (by simpa using NKvs.is ok h2 r)
theorem NKvs.is (ok : HOk P w H h) : ∀ {k : List NestedKey} {v : List V} {u : List Value}, NKvs H k v → Vals v u → NestedAll h k u
  | _, _, _, .nil, r => by cases r; exact .nil
  | _, _, _, .cons h1 h2, r => by
    cases r with
    | cons r1 r2 => exact .cons (NKv.is ok h1 r1) (NKvs.is ok h2 r2)
end
theorem nk1_dq {v : V} {d : PyData} {k : NestedKey} (h : Dq K F v d) (e : nk1 d = some k) : NKv F k v ∧ k.depth = 0 := by
  unfold nk1 at e
  split at e
  · cases e; cases h; exact ⟨.num _, rfl⟩
  · cases e; cases h; exact ⟨.text _, rfl⟩
  · cases e
theorem nkL_dq {f : PyData → Option NestedKey} {m : Nat} (hf : ∀ v d k, Dq K F v d → f d = some k → NKv F k v ∧ k.depth ≤ m) : ∀ {vs : List V} {ds : List PyData} {ks : List NestedKey}, DqAll K F vs ds → nkL f ds = some ks → NKvs F ks vs ∧ NestedKey.depthAll ks ≤ m
  | _, [], _, h, e => by cases h; cases e; exact ⟨.nil, Nat.zero_le _⟩
  | _, d :: r, _, h, e => by
    cases h with
    | cons h1 h2 =>
      unfold nkL at e
      split at e
      · rename_i e1 e2
        cases e
        obtain ⟨a1, a2⟩ := hf _ _ _ h1 e1
        obtain ⟨b1, b2⟩ := nkL_dq hf h2 e2
        refine ⟨.cons a1 b1, ?_⟩
        show max _ _ ≤ m
        omega
      · cases e
theorem nkT_dq {f : PyData → Option NestedKey} {m : Nat} (hf : ∀ v d k, Dq K F v d → f d = some k → NKv F k v ∧ k.depth ≤ m) {v : V} {ds : List PyData} {k : NestedKey} (h : Dq K F v (.tuple ds)) (e : nkT f ds = some k) : NKv F k v ∧ k.depth ≤ m + 1 ∧ ∃ b, v = .ref b := by
  unfold nkT at e
  split at e
  · rename_i hn
    obtain ⟨ks, e1, rfl⟩ := Option.map_eq_some_iff.mp e
    obtain ⟨a, xs, rfl, h1, h2⟩ := dp_tup' (fun z => by rw [z] at hn; cases hn) h
    obtain ⟨q1, q2⟩ := nkL_dq hf h2 e1
    refine ⟨.tup h1 q1, ?_, a, rfl⟩
    show NestedKey.depthAll ks + 1 ≤ m + 1
    omega
  · cases e
theorem nk2_dq {v : V} {d : PyData} {k : NestedKey} (h : Dq K F v d) (e : nk2 d = some k) : NKv F k v ∧ k.depth ≤ 1 := by
  unfold nk2 at e
  split at e
  · obtain ⟨a, b, _⟩ := nkT_dq (m := 0) (fun v d k h e => ⟨(nk1_dq h e).1, Nat.le_of_eq (nk1_dq h e).2⟩) h e
    exact ⟨a, b⟩
  · obtain ⟨a, b⟩ := nk1_dq h e
    exact ⟨a, by omega⟩
theorem keyN_dq {v : V} {d : PyData} {k : NestedKey} (h : Dq K F v d) (e : keyN d = some k) : NKv F k v ∧ k.depth ≤ 8 ∧ ∃ b, v = .ref b := by
  unfold keyN at e
  split at e
  · obtain ⟨a, b, c⟩ := nkT_dq (m := 1) (fun v d k h e => nk2_dq h e) h e
    exact ⟨a, by omega, c⟩
  · cases e
abbrev NXs (F : Hp) : List (NestedKey × V) → List (NestedKey × Addr × Value) → Prop := Paired fun p q => p.1 = q.1 ∧ (NKv F q.1 (.ref q.2.1) ∧ q.1.depth ≤ 8) ∧ RelV p.2 q.2.2
def rawO (a : Addr) (o : Obj) : HO := .ext fun h => h.get? a = some o
structure DNx (P : Program) (w : World) (F : Hp) (a : Addr) (o : Obj) (kvs : List (NestedKey × V)) : Prop where
  ns : (a == sysModules) = false
  ln : kvs.length ≤ sizeLine
  ex : ∃ es ep xs, o.ExactDict ∧ o.data = .dict es ep ∧ es.toList = xs.map (entryOfKey (nestedKind P w)) ∧ (xs.map (·.1)).Nodup ∧ NXs F kvs xs
theorem NXs.mono (e : ∀ a vs, F a = some (.tup vs) → H' a = some (.tup vs)) {kvs : List (NestedKey × V)} {xs : List (NestedKey × Addr × Value)} (h : NXs F kvs xs) : NXs H' kvs xs := Paired.mapP h fun _ _ z => ⟨z.1, ⟨z.2.1.1.mono e, z.2.1.2⟩, z.2.2⟩
theorem DNx.mono {a : Addr} {o : Obj} {kvs : List (NestedKey × V)} (e : ∀ a vs, F a = some (.tup vs) → H' a = some (.tup vs)) (h : DNx P w F a o kvs) : DNx P w H' a o kvs := by
  obtain ⟨h1, h2, es, ep, xs, g1, g2, g3, g4, g5⟩ := h
  exact ⟨h1, h2, es, ep, xs, g1, g2, g3, g4, g5.mono e⟩
theorem rawO_ok {a : Addr} {o : Obj} (h1 : h.get? a = some o) : ObjOk P w H h a (rawO a o) := ⟨h1, ⟨o, h1⟩, fun _ _ p q => q _ p⟩
theorem rawO_get {a : Addr} {o : Obj} (ok : HOk P w H h) (e : H a = some (rawO a o)) : h.get? a = some o := (ok a _ e).1
theorem NXs.keys (ok : HOk P w H h) : ∀ {kvs : List (NestedKey × V)} {xs : List (NestedKey × Addr × Value)}, NXs H kvs xs → ∀ x ∈ xs, (nestedKind P w).is h x.1 x.2.1
  | _, _, .nil, x, hx => nomatch hx
  | _, _, .cons r t, x, hx => by
    rcases List.mem_cons.mp hx with e | hx
    · subst e; exact ⟨NKv.is ok r.2.1.1 rfl, r.2.1.2⟩
    · exact NXs.keys ok t x hx
theorem DNx.of {a : Addr} {o : Obj} {kvs : List (NestedKey × V)} (ok : HOk P w H h) (e : H a = some (rawO a o)) (d : DNx P w H a o kvs) : ∃ xs, NXs H kvs xs ∧ h.DictOfH (nestedKind P w) a xs := by
  obtain ⟨_, _, es, ep, xs, g1, g2, g3, g4, g5⟩ := d
  exact ⟨xs, g5, o, es, ep, rawO_get ok e, g1, g2, g3, NXs.keys ok g5, g4⟩
theorem NXs.val {kvs : List (NestedKey × V)} {xs : List (NestedKey × Addr × Value)} (r : NXs H kvs xs) (k : NestedKey) : RelO (valV kvs k) ((atKey xs k).map (·.2)) := by
  induction r with
  | nil => exact True.intro
  | @cons p q ps qs h t ih =>
    obtain ⟨h1, _, h2⟩ := h
    by_cases e : p.1 = k
    · have e' : q.1 = k := h1.symm.trans e
      have b : atKey (q :: qs) k = some q.2 := by simp [atKey, List.find?_cons, e']
      rw [valV_pos e, b]; exact h2
    · have e' : ¬ q.1 = k := fun z => e (h1.trans z)
      have b : atKey (q :: qs) k = atKey qs k := by simp [atKey, List.find?_cons, e']
      rw [valV_neg e, b]; exact ih
theorem NXs.repl {kvs : List (NestedKey × V)} {xs : List (NestedKey × Addr × Value)} (r : NXs H kvs xs) (k : NestedKey) {y : V} {u : Value} (ry : RelV y u) :
    NXs H (kvs.map fun kv => if kv.1 = k then (kv.1, y) else kv) (xs.map (putAt k u)) := by
  induction r with
  | nil => exact .nil
  | @cons p q ps qs h t ih =>
    rw [List.map_cons, List.map_cons]
    refine .cons ?_ ih
    obtain ⟨h1, h2, h3⟩ := h
    unfold putAt
    by_cases e : p.1 = k
    · rw [if_pos e, if_pos (h1.symm.trans e)]; exact ⟨h1, h2, ry⟩
    · rw [if_neg e, if_neg (fun z => e (h1.trans z))]; exact ⟨h1, h2, h3⟩
theorem NXs.put {kvs : List (NestedKey × V)} {xs : List (NestedKey × Addr × Value)} (r : NXs H kvs xs) (k : NestedKey) {b : Addr} {y : V} {u : Value} (hb : NKv H k (.ref b)) (hd : k.depth ≤ 8) (ry : RelV y u) :
    NXs H (putK kvs k y) (storedH xs k b u) := by
  have e : (kvs.any fun kv => decide (kv.1 = k)) = (atKey xs k).isSome := by
    rw [valV_any, (r.val k).isSome_eq, Option.isSome_map]
  unfold putK storedH
  rw [e]
  by_cases q : (atKey xs k).isSome = true
  · rw [if_pos q, if_pos q]; exact r.repl k ry
  · rw [if_neg q, if_neg q]; exact Paired.snoc r ⟨rfl, ⟨hb, hd⟩, ry⟩
end
section
variable {X : Cx} {pins : List (Addr × Obj)} {σ : L2.St} {H : Hp} {s : Shared} {a b : Addr} {v d : V} {u r : Value} {A : Around} {E : Value → Shared → Prop} {o : Obj} {kvs : List (NestedKey × V)} {k : NestedKey}
/-- the dict at a, as the heap told has it -/
def DNh (X : Cx) (H : Hp) (a : Addr) (kvs : List (NestedKey × V)) : Prop := ∃ o, H a = some (rawO a o) ∧ DNx X.prog X.w H a o kvs
theorem nroom (hu : A.units + 9 < cLine) : (nestedKind X.prog X.w).room A.in1 := by
  show A.in1.units + 8 < cLine
  have : A.in1.units = A.units + 1 := rfl
  omega
theorem dN_key (I : Inv X pins σ H s) (h : NKv H k (.ref b)) (hd : k.depth ≤ 8) : (nestedKind X.prog X.w).is s.heap k b := ⟨h.is I.hok rfl, hd⟩
theorem dN_typeIs (I : Inv X pins σ H s) (g : DNh X H a kvs) : s.TypeIs (.ref a) "dict" := by
  obtain ⟨o, e, g⟩ := g
  obtain ⟨xs, _, dd⟩ := g.of I.hok e
  exact dd.typeIs
theorem dN_getItem {Q : Value → Shared → Prop} (hu : A.units + 9 < cLine) (I : Inv X pins σ H s) (g : DNh X H a kvs) (hk : NKv H k (.ref b)) (hd : k.depth ≤ 8) (l : valV kvs k = some v) (h : ∀ w' s', Inv X pins σ H s' → RelV v w' → Q w' s') :
    wpAny (model X.prog X.w) A (getItem (.ref a) (.ref b)) Q E s := by
  obtain ⟨o, e, g⟩ := g
  obtain ⟨xs, rel, dd⟩ := g.of I.hok e
  obtain ⟨w', hw, rw'⟩ := RelO.some_of (v := v) (o := (atKey xs k).map (·.2)) (by rw [← l]; exact rel.val k)
  obtain ⟨p, hp, hp2⟩ := Option.map_eq_some_iff.mp hw
  refine wpAny_getItem_heap (nroom hu) (dN_key I hk hd) dd hp ?_
  rw [hp2]
  exact h w' _ (I.tok _) rw'
theorem dN_notIn {Q : Value → Shared → Prop} (hu : A.units + 9 < cLine) (I : Inv X pins σ H s) (g : DNh X H a kvs) (hk : NKv H k (.ref b)) (hd : k.depth ≤ 8) (h : ∀ s', Inv X pins σ H s' → Q (.bool (!(valV kvs k).isSome)) s') :
    wpAny (model X.prog X.w) A (compareOp .NotIn (.ref b) (.ref a)) Q E s := by
  obtain ⟨o, e, g⟩ := g
  have ns := g.ns
  obtain ⟨xs, rel, dd⟩ := g.of I.hok e
  refine wpAny_notIn_heap (nroom hu) (dN_key I hk hd) ns dd ?_
  have q := (rel.val k).isSome_eq
  rw [Option.isSome_map] at q
  rw [← q]
  exact h _ (I.tok _)
theorem dN_get2 {Q : Value → Shared → Prop} (hu : A.units + 9 < cLine) (I : Inv X pins σ H s) (g : DNh X H a kvs) (hk : NKv H k (.ref b)) (hd : k.depth ≤ 8) (rd : RelV d r) (h : ∀ w' s', Inv X pins σ H s' → RelV ((valV kvs k).getD d) w' → Q w' s') :
    wpAny (model X.prog X.w) A (call (.builtin "dict.get") [.ref a, .ref b, r]) Q E s := by
  obtain ⟨o, e, g⟩ := g
  have ns := g.ns
  obtain ⟨xs, rel, dd⟩ := g.of I.hok e
  exact call_meetsIn PySem.F.slot_dict_get dd.typeIs PySem.F.entry_dict_get (PySem.F.args_dict_get_3 _ _ _) (meetsH_dict_get_default (nestedKind X.prog X.w) a b ns r) ⟨nroom hu, k, xs, dN_key I hk hd, dd, h _ _ (I.tok _) ((rel.val k).getD rd)⟩
theorem dN_setItem {Q : Unit → Shared → Prop} (hu : A.units + 9 < cLine) (I : Inv X pins σ H s) (g : DNh X H a kvs) (hk : NKv H k (.ref b)) (hd : k.depth ≤ 8) (hl : kvs.length < sizeLine) (rv : RelV v r)
    (h : ∀ s' o', Inv X pins σ (upd H a (rawO a o')) s' → DNx X.prog X.w H a o' (putK kvs k v) → Q () s') : wpAny (model X.prog X.w) A (setItem (.ref a) (.ref b) r) Q E s := by
  obtain ⟨o, e, g⟩ := g
  have ns := g.ns
  obtain ⟨xs, rel, dd⟩ := g.of I.hok e
  have hz : xs.length ≤ sizeLine := by rw [← Paired.length rel]; exact Nat.le_of_lt hl
  refine wpAny_setItem_heap (hsz := hz) (nroom hu) (dN_key I hk hd) dd fun h' dd' hs => ?_
  obtain ⟨q, es, ep, hq, h2, h3, h4, _, h5⟩ := dd'
  refine h _ q (d_write I (by rw [e]; exact True.intro) hs ⟨q, hq⟩ (rawO_ok hq)) ⟨ns, by have := length_putK kvs k v; omega, es, ep, _, h2, h3, h4, h5, rel.put k hk hd rv⟩
end
def tNGet (X : Cx) (td ty : TE) : TE := fun σ H Q => td σ H fun x H1 => ty σ H1 fun y H2 => ∃ a b kvs k v, x = .ref a ∧ y = .ref b ∧ DNh X H2 a kvs ∧ NKv H2 k y ∧ k.depth ≤ 8 ∧ valV kvs k = some v ∧ Q v H2
def tNNotIn (X : Cx) (ty td : TE) : TE := fun σ H Q => ty σ H fun y H1 => td σ H1 fun x H2 => ∃ a b kvs k, x = .ref a ∧ y = .ref b ∧ DNh X H2 a kvs ∧ NKv H2 k y ∧ k.depth ≤ 8 ∧ Q (.bl (!(valV kvs k).isSome)) H2
def tNGet2 (X : Cx) (td ty tx : TE) : TE := fun σ H Q => td σ H fun x H1 => ∃ a, x = .ref a ∧ (∃ kvs, DNh X H1 a kvs) ∧ ty σ H1 fun y H2 => tx σ H2 fun z H3 => ∃ b kvs k, y = .ref b ∧ DNh X H3 a kvs ∧ NKv H3 k y ∧ k.depth ≤ 8 ∧ Q ((valV kvs k).getD z) H3
def sNPut (X : Cx) (td ty tv : TE) : TS := fun D σ H => tv σ H fun v H1 => td σ H1 fun x H2 => ty σ H2 fun y H3 => ∃ a b kvs k, x = .ref a ∧ y = .ref b ∧ DNh X H3 a kvs ∧ NKv H3 k y ∧ k.depth ≤ 8 ∧ kvs.length < sizeLine ∧ ∀ o', DNx X.prog X.w H3 a o' (putK kvs k v) → D.nx σ (upd H3 a (rawO a o'))
section
variable {X : Cx} {o i e f value : Expr} {pos pos' apos cpos : Pos} {td ty tx tv : TE}
theorem pe_nget (hu : X.A.units + 9 < cLine) (ho : PE X o td) (hi : PE X i ty) (hs : NoSl i) : PE X (.Subscript o i pos) (tNGet X td ty) := by
  refine ⟨fun pins s σ H Q I h => ?_⟩
  refine subD_of PySem.F.slot_dict_getitem.lookup hs (thn (ho.run pins s σ H _ I h) fun u s1 ⟨x, H1, I1, rx, q1⟩ => thn (hi.run pins s1 σ H1 _ I1 q1) fun iv s2 ⟨y, H2, I2, ry, a, b, kvs, k, v, ex, ey, g, hk, hd, l, q2⟩ => ?_)
  subst ex ey
  obtain rfl : u = Value.ref a := rx
  obtain rfl : iv = Value.ref b := ry
  exact ⟨dN_typeIs I2 g, dN_getItem hu I2 g hk hd l fun w' s3 I3 rw' => ⟨v, H2, I3, rw', q2⟩⟩
theorem pc_nnotin (hu : X.A.units + 9 < cLine) (hi : PE X i ty) (ho : PE X o td) : PC X .NotIn i o (tNNotIn X ty td) := by
  refine ⟨fun pins s σ H Q I h => ?_⟩
  refine thn (hi.run pins s σ H _ I h) fun iv s1 ⟨y, H1, I1, ry, q1⟩ => thn (ho.run pins s1 σ H1 _ I1 q1) fun u s2 ⟨x, H2, I2, rx, a, b, kvs, k, ex, ey, g, hk, hd, q2⟩ => ?_
  subst ex ey
  obtain rfl : u = Value.ref a := rx
  obtain rfl : iv = Value.ref b := ry
  exact dN_notIn hu I2 g hk hd fun s3 I3 => ⟨.bl _, H2, I3, rfl, q2⟩
theorem pe_nget2 (hu : X.A.units + 9 < cLine) (ho : PE X o td) (he : PE X e ty) (hf : PE X f tx) (m : M2 X o "get" apos e f cpos) : PE X (.Call (.Attribute o "get" apos) [e, f] [] cpos) (tNGet2 X td ty tx) := by
  refine ⟨fun pins s σ H Q I h => ?_⟩
  refine wpAny_Call_method m.base m.few m.line PySem.F.plainAttrs_dict PySem.F.slot_dict_get PySem.F.type_dict_get (thn (ho.run pins s σ H _ I h) fun u s1 ⟨x, H1, I1, rx, a, ex, ⟨kvs0, o0, e0, g0⟩, q1⟩ => ?_)
  subst ex
  obtain rfl : u = Value.ref a := rx
  obtain ⟨xs0, rel0, ob, es0, ep0, d1, d2, d3⟩ := g0.of I1.hok e0
  refine ⟨⟨ob, d1, d2.1⟩, fun b q => by cases q; exact ⟨ob, d1, d2.2.1⟩, ?_⟩
  rw [m.trees]
  refine Calls.callWith_builtin rfl (Calls.evalArgs_plain (Calls.spliced_cons (thn (he.run pins s1 σ H1 _ I1 q1) fun iv s2 ⟨y, H2, I2, ry, q2⟩ =>
    Calls.spliced_cons (thn (hf.run pins s2 σ H2 _ I2 q2) fun fv s3 ⟨z, H3, I3, rz, b, kvs, k, ey, g, hk, hd, q3⟩ => Calls.spliced_nil ?_))))
  subst ey
  obtain rfl : iv = Value.ref b := ry
  exact dN_get2 hu I3 g hk hd rz fun w' s4 I4 rw' => ⟨_, H3, I4, rw', q3⟩
theorem ps_nput (hu : X.A.units + 9 < cLine) (ho : PE X o td) (hi : PE X i ty) (hv : PE X value tv) (hs : swapsWith value (some (.Subscript o i pos')) pos.line X.env = pure false) :
    PS X (.Assign [.Subscript o i pos'] value pos) (sNPut X td ty tv) := by
  refine ⟨fun pins s σ H D I h => ?_⟩
  refine wpAny_Assign_Subscript (thn (hv.run pins s σ H _ I h) fun r s1 ⟨v, H1, I1, rv, q1⟩ => thn (ho.run pins s1 σ H1 _ I1 q1) fun u s2 ⟨x, H2, I2, rx, q2⟩ => thn (hi.run pins s2 σ H2 _ I2 q2) fun iv s3 ⟨y, H3, I3, ry, a, b, kvs, k, ex, ey, g, hk, hd, hl, q3⟩ => ?_) hs
  subst ex ey
  obtain rfl : u = Value.ref a := rx
  obtain rfl : iv = Value.ref b := ry
  exact dN_setItem hu I3 g hk hd hl rv fun s4 o' I4 dx => ⟨σ, _, I4, q3 o' dx⟩
theorem dn_empty {P : Program} {w : World} {H : Hp} (h : Heap) (hb : sysModules < h.objs.size) : DNx P w H h.objs.size { cls := .type "dict", data := .dict #[] } [] :=
  ⟨beq_eq_false_iff_ne.mpr (Ne.symm (Nat.ne_of_lt hb)), Nat.zero_le _, #[], 0, [], ⟨rfl, rfl, rfl⟩, rfl, rfl, List.nodup_nil, .nil⟩
/-- {k: v} -/
def tNDisp (X : Cx) (trs : List (TE × TE)) : TE := fun σ H Q => ∀ p o, H p = none → DNx X.prog X.w H p o [] → tPairs trs σ (upd H p (rawO p o)) fun ps H2 => H2 p = some (rawO p o) ∧ (∀ a vs, H a = some (.tup vs) → H2 a = some (.tup vs)) ∧ ∃ (b : Addr) (k : NestedKey) (y : V), ps = [(.ref b, y)] ∧ NKv H2 k (.ref b) ∧ k.depth ≤ 8 ∧ ∀ o', DNx X.prog X.w H2 p o' [(k, y)] → Q (.ref p) (upd H2 p (rawO p o'))
theorem pe_ndisp {k v : Expr} {trs : List (TE × TE)} (h : PPs X pos [some k] [v] trs) (hu : X.A.units + 9 < cLine) : PE X (.Dict [some k] [v] pos) (tNDisp X trs) := by
  refine ⟨fun pins s σ H Q I q => ?_⟩
  have hn := I.hok.fresh (Nat.le_refl s.heap.objs.size)
  have I1 := I.laid (a := s.heap.objs.size) (o := rawO s.heap.objs.size { cls := .type "dict", data := .dict #[] }) (h' := s.heap.push { cls := .type "dict", data := .dict #[] }) (t' := s.toks) (fun _ _ q => Heap.get?_push_of_some _ q) (Nat.le_refl _) (rawO_ok (Heap.get?_push_size _ rfl))
  have hl1 : (pairTrees [some k] [v] X.env pos).length = 1 := pairTrees_length [some k] [v] X.env pos rfl rfl
  have h0 : pairTrees [some k] [v] X.env pos ≠ [] := fun z => by rw [z] at hl1; cases hl1
  rw [arm_eval_Dict, zip_pairTrees [some k] [v] X.env pos rfl rfl, dictDisplay_pairs _ h0 (by omega)]
  refine wpAny_bind (wpAny_standAt (wpAny_bind (wpAny_subDictH (knd := nestedKind X.prog X.w) (Q := fun d s' => wpAny (model X.prog X.w) X.A (pure (Value.ref d)) _ _ s') (show X.A.units + 8 < cLine by omega) (by omega) ?_)))
  refine thn (h.run pins _ σ _ _ I1 (q _ _ hn (dn_empty s.heap I.big))) fun ws s2 ⟨ps, H2, I2, rel, e, et, b, ks, y, ep, nk, hd, q2⟩ => ?_
  subst ep
  cases rel with
  | @cons _ w _ ws' r t =>
    cases t
    obtain ⟨w1, w2⟩ := w
    obtain ⟨r1, r2⟩ := r
    cases (show w1 = Value.ref b from r1)
    have g0 := (dn_empty (P := X.prog) (w := X.w) (H := H) s.heap I.big).mono et
    obtain ⟨xs0, r0, dd⟩ := g0.of I2.hok e
    cases r0
    refine ⟨[(ks, b, w2)], ⟨rfl, rfl, dN_key I2 nk hd, trivial⟩, dd, fun h' tk dd' hs => ?_⟩
    obtain ⟨o, es, ep, hq, h2, h3, h4, _, h5⟩ := dd'
    exact wpAny_pure ⟨.ref s.heap.objs.size, _, d_write I2 (by rw [e]; exact True.intro) hs ⟨o, hq⟩ (rawO_ok hq), rfl, q2 o ⟨g0.ns, by rw [sizeLine_eq]; show 1 ≤ 16777216; decide, es, ep, [(ks, b, w2)], h2, h3, h4, h5, .cons ⟨rfl, ⟨nk, hd⟩, r2⟩ .nil⟩⟩
end
end TL
namespace TL
open PySem PySem.Spec PyProof.Rows L2
def dnT (P : Program) (w : World) (a : Addr) (kvs : List (NestedKey × PyData)) : OwT where
  id := a
  fp := [a]
  ok := fun K F H v => v = .ref a ∧ ∃ o kvs', H a = some (rawO a o) ∧ DNx P w F a o kvs' ∧ KVp K F kvs' kvs
  isr := fun h => h.1
  mono := fun e k ⟨h1, o, kvs', h2, h3, h4⟩ => ⟨h1, o, kvs', k _ (by simp) _ h2, h3.mono fun a vs z => e a _ z, kvp_mono e h4⟩
  there := fun ⟨h1, o, kvs', h2, h3, h4⟩ b hb => by
    have e : b = a := by simpa using hb
    subst e
    exact ⟨_, h2, rfl⟩
  rows := []
  held := fun _ r hr => by cases hr
def IsDN (P : Program) (w : World) (kvs : List (NestedKey × PyData)) (s : Sl) : Prop := ∃ a, s = .ow (dnT P w a kvs)
def getNM (kvs : List (NestedKey × PyData)) (key : PyData) (K : KD) : Prop := match keyN key with
  | some k => match valP kvs k with
    | some d => K d
    | none => False
  | none => False
def getdNM (kvs : List (NestedKey × PyData)) (key dflt : PyData) (K : KD) : Prop := match keyN key with
  | some k => K ((valP kvs k).getD dflt)
  | none => False
def inNM (kvs : List (NestedKey × PyData)) (key : PyData) (K : KB) : Prop := match keyN key with
  | some k => K (valP kvs k).isSome
  | none => False
def putNM (kvs : List (NestedKey × PyData)) (key v : PyData) (K : List (NestedKey × PyData) → Prop) : Prop := match keyN key with
  | some k => kvs.length < sizeLine ∧ K (putP kvs k v)
  | none => False
def dispNM (ps : List (PyData × PyData)) (K : List (NestedKey × PyData) → Prop) : Prop := match ps with
  | [(k, d)] => match keyN k with
    | some q => K [(q, d)]
    | none => False
  | _ => False
section
variable {X : Cx} {g : G} {env env' : List Sl} {Ψ : Exc → Prop} {P : Po} {pos p lp tpos apos : Pos} {a b c e f : Expr} {es : List Expr} {K : Frag} {F F' H H' : Hp} {σ σ' : SS} {x y : PyData} {k0 : Nat} {s : Sl} {kvs : List (NestedKey × PyData)} {key v dflt : PyData}
theorem getN_m {Q Q' : KD} (h : getNM kvs key Q) (k : ∀ r, Q r → Q' r) : getNM kvs key Q' := by
  unfold getNM at *
  split at h
  · split at h
    · exact k _ h
    · exact h
  · exact h
theorem getdN_m {Q Q' : KD} (h : getdNM kvs key dflt Q) (k : ∀ r, Q r → Q' r) : getdNM kvs key dflt Q' := by
  unfold getdNM at *
  split at h
  · exact k _ h
  · exact h
theorem inN_m {Q Q' : KB} (h : inNM kvs key Q) (k : ∀ r, Q r → Q' r) : inNM kvs key Q' := by
  unfold inNM at *
  split at h
  · exact k _ h
  · exact h
theorem putN_m {Q Q' : List (NestedKey × PyData) → Prop} (h : putNM kvs key v Q) (k : ∀ r, Q r → Q' r) : putNM kvs key v Q' := by
  unfold putNM at *
  split at h
  · exact ⟨h.1, k _ h.2⟩
  · exact h
theorem dispN_m {ps : List (PyData × PyData)} {Q Q' : List (NestedKey × PyData) → Prop} (h : dispNM ps Q) (k : ∀ r, Q r → Q' r) : dispNM ps Q' := by
  unfold dispNM at *
  split at h
  · split at h
    · exact k _ h
    · exact h.elim
  · exact h.elim
theorem IsDN.ne {P : Program} {w : World} (h : IsDN P w kvs s) : s ≠ .un := by
  obtain ⟨a, rfl⟩ := h
  intro z; cases z
/-- what a slot that is such a dict says -/
theorem dn_at {i : Nat} (st : St X.K g F H σ env) (hn : IsDN X.prog X.w kvs s) (he : env[i]? = some s) : ∃ a kvs', s = .ow (dnT X.prog X.w a kvs) ∧ σ[i]? = some (some (.ref a)) ∧ DNh X H a kvs' ∧ KVp X.K F kvs' kvs ∧ Own env a := by
  obtain ⟨a, rfl⟩ := hn
  obtain ⟨v, h1, rfl, o, kvs', h2, h3, h4⟩ := st.sl i _ he
  exact ⟨a, kvs', rfl, getD_some h1, ⟨o, h2, h3.mono fun b vs z => st.ex b _ z⟩, h4, i, _, he, by show a ∈ [a]; simp⟩
theorem nk_up (st : St K g F H σ env) {k : NestedKey} {v : V} (h : NKv F k v) : NKv H k v := h.mono fun b vs z => st.ex b _ z
theorem we_getN (i : Nat) {xn : Str} {q : Pos} {Φ : PyData → Bool → Prop} (hn : IsDN X.prog X.w kvs s) (hr : Room k0 X.A) (h : WE X g a env (fun kd z => z = true ∧ getNM kvs kd fun r => Φ r true) Ψ) (he : env[i]? = some s := by rfl) (hN : X.N[i]? = some xn := by rfl)
    (hv : Vis X.env.scope xn := by first | exact Or.inl rfl | exact Or.inr (Or.inl rfl) | exact Or.inr (Or.inr rfl)) (hd : (xn == ("__debug__" : Str)) = false := by decide)
    (hcd : (xn == ("__classdict__" : Str)) = false := by decide) (hs : NoSl a := by exact fun _ _ => rfl) : WE X g (.Subscript (.Name xn q) a pos) env Φ Ψ := fun W tk σ F H st hx Q hQ => by
  refine semE_of (pe_nget (by have := units65 hr; omega) (pe_var hN hv hd hcd) (peS a) hs) ?_
  obtain ⟨al, _, _, hσ, _⟩ := dn_at st hn he
  refine ⟨_, hσ, ?_⟩
  refine h W tk σ F H st hx _ fun kd z v F1 H1 ⟨hz, hp⟩ s1 e1 r1 => ?_
  subst hz
  unfold getNM at hp
  split at hp
  · rename_i k hk
    split at hp
    · rename_i d hd
      obtain ⟨n1, n2, b, rfl⟩ := keyN_dq r1 hk
      obtain ⟨al', kvs', e', hσ', dh, kv, _⟩ := dn_at s1 hn he
      rw [hσ] at hσ'
      cases hσ'
      obtain ⟨w, hw, dw⟩ := (kvp_val kv).1 d hd
      exact ⟨al, b, kvs', k, w, rfl, rfl, dh, nk_up s1 n1, n2, hw, hQ d true w F1 H1 hp s1 e1 dw⟩
    · exact hp.elim
  · exact hp.elim
theorem wt_notInN (i : Nat) {xn : Str} {q : Pos} {Φ : KB} (hn : IsDN X.prog X.w kvs s) (hr : Room k0 X.A) (h : WE X g a env (fun kd z => z = true ∧ inNM kvs kd fun r => Φ (!r)) Ψ) (he : env[i]? = some s := by rfl) (hN : X.N[i]? = some xn := by rfl)
    (hv : Vis X.env.scope xn := by first | exact Or.inl rfl | exact Or.inr (Or.inl rfl) | exact Or.inr (Or.inr rfl)) (hd : (xn == ("__debug__" : Str)) = false := by decide)
    (hcd : (xn == ("__classdict__" : Str)) = false := by decide) (hm : behindInMarks .NotIn (.Name xn q) = false := by first | exact nomark _ | rfl) : WT X g (.Compare a [.NotIn] [.Name xn q] pos) env Φ Ψ := fun W tk σ F H st hx Q hQ => by
  refine semT_of (pt_cmp (pc_nnotin (by have := units65 hr; omega) (peS a) (pe_var hN hv hd hcd)) hm) ?_
  refine h W tk σ F H st hx _ fun kd z v F1 H1 ⟨hz, hp⟩ s1 e1 r1 => ?_
  subst hz
  unfold inNM at hp
  split at hp
  · rename_i k hk
    obtain ⟨n1, n2, b, rfl⟩ := keyN_dq r1 hk
    obtain ⟨al, kvs', e', hσ, dh, kv, _⟩ := dn_at s1 hn he
    refine ⟨_, hσ, al, b, kvs', k, rfl, rfl, dh, nk_up s1 n1, n2, _, rfl, ?_⟩
    rw [(kvp_val kv).2]
    exact hQ _ F1 H1 hp s1 e1
  · exact hp.elim
theorem we_getdN (i : Nat) {xn : Str} {q : Pos} {Φ : PyData → Bool → Prop} (hn : IsDN X.prog X.w kvs s) (hr : Room k0 X.A) (h : WE X g e env (fun kd z => z = true ∧ WE X g f env (fun fd z => z = true ∧ getdNM kvs kd fd fun r => Φ r true) Ψ) Ψ) (he : env[i]? = some s := by rfl) (hN : X.N[i]? = some xn := by rfl)
    (hv : Vis X.env.scope xn := by first | exact Or.inl rfl | exact Or.inr (Or.inl rfl) | exact Or.inr (Or.inr rfl)) (hd : (xn == ("__debug__" : Str)) = false := by decide)
    (hcd : (xn == ("__classdict__" : Str)) = false := by decide)
    (m : M2 X (.Name xn q) "get" apos e f pos := by exact ⟨by rfl, by rfl, by rfl, by rfl⟩) : WE X g (.Call (.Attribute (.Name xn q) "get" apos) [e, f] [] pos) env Φ Ψ := fun W tk σ F H st hx Q hQ => by
  refine semE_of (pe_nget2 (by have := units65 hr; omega) (pe_var hN hv hd hcd) (peS e) (peS f) m) ?_
  obtain ⟨al, kvs0, _, hσ, dh0, _⟩ := dn_at st hn he
  refine ⟨_, hσ, al, rfl, ⟨_, dh0⟩, ?_⟩
  refine h W tk σ F H st hx _ fun kd z v F1 H1 ⟨hz, hw⟩ s1 e1 r1 => ?_
  subst hz
  refine hw W tk σ F1 H1 s1 hx _ fun fd z u F2 H2 ⟨hz, hp⟩ s2 e2 r2 => ?_
  subst hz
  unfold getdNM at hp
  split at hp
  · rename_i k hk
    obtain ⟨n1, n2, b, rfl⟩ := keyN_dq (dp_mono e2 _ _ r1) hk
    obtain ⟨al', kvs', e', hσ', dh, kv, _⟩ := dn_at s2 hn he
    rw [hσ] at hσ'
    cases hσ'
    refine ⟨b, kvs', k, rfl, dh, nk_up s2 n1, n2, hQ _ true _ F2 H2 hp s2 (e1.trans e2) ?_⟩
    obtain ⟨w1, w2⟩ := kvp_val (k := k) kv
    cases hq : valP kvs k with
    | some x =>
      obtain ⟨w', e', dw⟩ := w1 x hq
      rw [e']; exact dw
    | none =>
      rw [hq] at w2
      cases e' : valV kvs' k with
      | some _ => rw [e'] at w2; cases w2
      | none => exact r2
  · exact hp.elim
theorem w1_storeN (i : Nat) {xn : Str} {q : Pos} (hn : IsDN X.prog X.w kvs s) (nM : ∀ b ∈ s.fp, b ∉ g.M) (hr : Room k0 X.A)
    (h : WE X g e env (fun d z => z = true ∧ WE X g a env (fun kd z => z = true ∧ putNM kvs kd d fun r => ∀ s', IsDN X.prog X.w r s' → (∀ b ∈ s'.fp, b ∉ g.M) → P.nx (env.set i s')) (fun c => P.ex c env)) (fun c => P.ex c env)) (he : env[i]? = some s := by rfl) (hN : X.N[i]? = some xn := by rfl)
    (hv : Vis X.env.scope xn := by first | exact Or.inl rfl | exact Or.inr (Or.inl rfl) | exact Or.inr (Or.inr rfl)) (hd : (xn == ("__debug__" : Str)) = false := by decide)
    (hcd : (xn == ("__classdict__" : Str)) = false := by decide)
    (hs : swapsWith e (some (.Subscript (.Name xn q) a tpos)) pos.line X.env = pure false := by rfl) : W1 X g (.Assign [.Subscript (.Name xn q) a tpos] e pos) env P := fun W tk hx2 σ F H s0 D hD => by
  refine semP_of (ps_nput (by have := units65 hr; omega) (pe_var hN hv hd hcd) (peS a) (peS e) hs) ?_
  refine h W tk σ F H s0 (hx2.hx env σ) _ fun d z v F1 H1 ⟨hz, hw⟩ s1 e1 r1 => ?_
  subst hz
  obtain ⟨al, _, es, hσ, _⟩ := dn_at s1 hn he
  refine ⟨_, hσ, ?_⟩
  refine hw W tk σ F1 H1 s1 (hx2.hx env σ) _ fun kd z w F2 H2 ⟨hz, hp⟩ s2 e2 r2 => ?_
  subst hz
  unfold putNM at hp
  split at hp
  · rename_i k hk
    obtain ⟨n1, n2, b, rfl⟩ := keyN_dq r2 hk
    obtain ⟨al', kvs', es', hσ', dh, kv, _⟩ := dn_at s2 hn he
    rw [hσ] at hσ'
    cases hσ'
    have hfp : s.fp = [al] := by rw [es]; rfl
    have hdf : ∀ o', DNx X.prog X.w H2 al o' (putK kvs' k v) → ∃ kk, DNx X.prog X.w F2 al o' kk ∧ KVp X.K F2 kk (putP kvs k d) := fun o' dx => ?_
    · refine ⟨al, b, kvs', k, rfl, rfl, dh, nk_up s2 n1, n2, by rw [kvp_len kv]; exact hp.1, fun o' dx => ?_⟩
      obtain ⟨kk, q1, q2⟩ := hdf o' dx
      have eσ : σ[i]?.getD none = some (.ref al) := by rw [hσ]; rfl
      refine hD.nx _ _ F2 _ (hp.2 (.ow (dnT X.prog X.w al (putP kvs k d))) ⟨al, rfl⟩ fun c hc => nM c (by rw [hfp]; exact hc)) (s2.write (s' := .ow (dnT X.prog X.w al (putP kvs k d))) he hfp rfl ⟨.ref al, eσ, rfl, o', kk, upd_same, q1, q2⟩) (e1.trans e2)
    · refine ⟨_, ?_, kvp_put kv (dp_mono e2 _ _ r1)⟩
      obtain ⟨o0, g1, g2⟩ := dh
      obtain ⟨h1, h2, es1, ep1, xs1, z1, z2, z3, z4, z5⟩ := dx
      refine ⟨h1, h2, es1, ep1, xs1, z1, z2, z3, z4, ?_⟩
      exact Paired.mapP z5 fun p q z => ⟨z.1, ⟨z.2.1.1.mono fun a vs y => s2.tf a vs y, z.2.1.2⟩, z.2.2⟩
  · exact hp.elim
theorem dn_back {P : Program} {w : World} {al : Addr} {o' : Obj} {kk : List (NestedKey × V)} (tf : ∀ (a : Addr) (vs : List V), H a = some (.tup vs) → F a = some (.tup vs)) (h : DNx P w H al o' kk) : DNx P w F al o' kk := h.mono tf
/-- x = {k: v} -/
theorem wo_dispN {Φ : Sl → Prop} (hr : Room k0 X.A) (h : ∀ g' : G, WPs X g' [(a, b)] env (fun ps => dispNM ps fun r => ∀ s, IsDN X.prog X.w r s → Φ s) Ψ) : WO X g (.Dict [some a] [b] pos) env Φ Ψ := fun W tk σ F H st hx Q hQ => by
  refine semE_of (pe_ndisp (pps_zip (ks := [some a]) (vs := [b]) rfl rfl) (by have := units65 hr; omega)) fun p o hn dx0 => ?_
  have rt : ∀ vs, rawO p o ≠ .tup vs := fun vs z => by unfold rawO at z; cases z
  have s1 := st.alloc (o := rawO p o) hn rt
  have no : ¬ Own env p := st.toSk.notown hn
  have hF : F p = none := st.ex.none hn
  have hpM : p ∉ fps env := fun z => no (own_fps.mpr z)
  refine h ⟨F, upd H p (rawO p o), fps env⟩ W tk σ F _ s1.toSk.base (fun c F' H' hc s2 => hx c F' H' hc (s1.rebase s2 fun _ q => q)) _ fun ds vs' F2 H2 hd s2 e2 r2 => ?_
  have hp2 : H2 p = some (rawO p o) := s2.g1 p _ upd_same hpM (fun _ z => by unfold rawO at z; cases z)
  have htt : ∀ a vs, H a = some (.tup vs) → H2 a = some (.tup vs) := fun a vs z => s2.ex a _ (e2 a _ (st.tf a vs z))
  have hd : dispNM ds _ := hd
  unfold dispNM at hd
  split at hd
  · rename_i kd d
    split at hd
    · rename_i q eq
      obtain ⟨v, w, rfl⟩ : ∃ v w, vs' = [(v, w)] := by
        cases vs' with
        | nil => exact r2.elim
        | cons a l =>
          cases l with
          | nil => exact ⟨a.1, a.2, rfl⟩
          | cons b l => exact r2.2.elim
      obtain ⟨⟨rk, rv⟩, _⟩ := r2
      obtain ⟨n1, n2, t, rfl⟩ := keyN_dq rk eq
      refine ⟨hp2, htt, t, q, w, rfl, nk_up s2 n1, n2, fun o' dx => ?_⟩
      have s3 := s1.rebase s2 fun _ q => q
      have hF2 : F2 p = none := by
        cases z : F2 p with
        | none => rfl
        | some u =>
          rcases s2.g4 p (by rw [z]; intro y; cases y) with y | y
          · exact absurd hF y
          · have y : upd H p (rawO p o) p = none := y
            rw [upd_same] at y; cases y
      have h0' : g.H0 p = none := st.h0 hn
      have s4 := s3.untracked (D := p) (o' := rawO p o') hF2 no h0' (fun vs z => by unfold rawO at z; cases z)
      refine hQ _ (.ref p) F2 _ (hd _ ⟨p, rfl⟩) s4 e2 ⟨⟨.ref p, rfl, rfl, o', [(q, w)], upd_same, dn_back s2.tf dx, .cons ⟨rfl, rv⟩ .nil⟩, fun b hb => ?_⟩
      have e : b = p := by simpa [Sl.fp, dnT] using hb
      subst e
      exact ⟨hF2, no, h0'⟩
    · exact hd.elim
  · exact hd.elim
end
section
variable {X : Cx} {g : G} {env : List Sl} {P : Po} {pos : Pos} {c : Expr} {body : List Stmt} {τ υ : Type}
theorem whileSC {st : τ → (τ → Prop) → (τ → Prop) → Prop} {Q : τ → Prop} {s0 : τ} (h : ∃ n, whileM st Q n s0) (hp : PassesOwn (model X.prog X.w) X.A X.env X.xe) (mk : τ → υ → List Sl) (C : τ → υ → Prop) (u0 : υ) (h0 : env = mk s0 u0) (c0 : C s0 u0) (hend : ∀ s u, C s u → Q s → P.nx (mk s u))
    (hturn : (∀ s u, C s u → Q s → P.nx (mk s u)) → ∀ s u (N : τ → Prop), C s u → st s N Q → WT X g c (mk s u) (fun k => (k = true → WS X g body (mk s u) (P.turn fun e => ∃ s' u', N s' ∧ C s' u' ∧ e = mk s' u')) ∧ (k = false → P.nx (mk s u))) (fun c => P.ex c (mk s u))) : W1 X g (.While c body [] pos) env P := by
  obtain ⟨n, h⟩ := h
  refine w1_while hp (fun m e => ∃ s u, whileM st Q m s ∧ C s u ∧ e = mk s u) n ⟨s0, u0, h, c0, h0⟩ fun m e ⟨s, u, hw, hc, he⟩ => ?_
  subst he
  cases m with
  | zero => exact hw.elim
  | succ m =>
    refine (hturn hend s u _ hc hw).mono fun k ⟨h1, h2⟩ => ⟨fun e => ?_, h2⟩
    exact (h1 e).mono (fun e ⟨s', u', h3, h5, h4⟩ => ⟨m, Nat.lt_succ_self _, s', u', h3, h5, h4⟩) (fun _ _ h => h) (fun _ h => h) (fun e ⟨s', u', h3, h5, h4⟩ => ⟨m, Nat.lt_succ_self _, s', u', h3, h5, h4⟩) (fun _ _ h => h)
end
end TL
namespace Tx
open PySem PySem.Spec PyProof.Rows L2
set_option maxRecDepth 100000
def topS (i : Nat) : Stmt := PySem.Challenge.pw_pinchfold_k29_whole_no_shorter_tour.main.body.getD i (.Pass ⟨0, 0, 0, 0⟩)
abbrev s_crossing : Stmt := topS 7
abbrev s_is_cut : Stmt := topS 8
abbrev s_is_plan : Stmt := topS 9
abbrev s_need_plan : Stmt := topS 10
abbrev s_follows : Stmt := topS 11
abbrev s_pair_of : Stmt := topS 12
abbrev s_all_lines : Stmt := topS 13
abbrev s_neighbours : Stmt := topS 14
abbrev s_need_place : Stmt := topS 17
abbrev s_between : Stmt := topS 18
abbrev s_third_corner : Stmt := topS 19
abbrev s_tour_by : Stmt := topS 21
abbrev s_tour : Stmt := topS 22
abbrev s__law_alike : Stmt := topS 24
abbrev s__law_all_lines : Stmt := topS 25
abbrev s__law_bag : Stmt := topS 26
abbrev s__law_cut_arc : Stmt := topS 27
abbrev s__law_drawn_plan : Stmt := topS 28
abbrev s__law_going : Stmt := topS 29
abbrev s__law_moved : Stmt := topS 30
abbrev s__law_pair : Stmt := topS 31
abbrev s__law_plan : Stmt := topS 32
abbrev s__law_pull : Stmt := topS 33
abbrev s__law_spot : Stmt := topS 34
abbrev s__law_spots : Stmt := topS 35
abbrev s__law_third : Stmt := topS 36
abbrev s__law_tied : Stmt := topS 37
abbrev s__law_whole : Stmt := topS 38
abbrev s_law : Stmt := topS 39
theorem sc_crossing : FnScope ["one", "other", "low", "high", "inside", "corner"] ["one", "other"] (defScope s_crossing) := ⟨rfl, rfl, rfl, by decide +kernel, rfl, by decide +kernel, by decide +kernel⟩
theorem sc_is_cut : FnScope ["faces", "cut", "low", "high"] ["faces", "cut"] (defScope s_is_cut) := ⟨rfl, rfl, rfl, by decide +kernel, rfl, by decide +kernel, by decide +kernel⟩
theorem sc_is_plan : FnScope ["plan", "faces", "cuts", "cut", "at", "other"] ["plan"] (defScope s_is_plan) := ⟨rfl, rfl, rfl, by decide +kernel, rfl, by decide +kernel, by decide +kernel⟩
theorem sc_need_plan : FnScope ["plan"] ["plan"] (defScope s_need_plan) := ⟨rfl, rfl, rfl, by decide +kernel, rfl, by decide +kernel, by decide +kernel⟩
theorem sc_follows : FnScope ["faces", "face"] ["faces", "face"] (defScope s_follows) := ⟨rfl, rfl, rfl, by decide +kernel, rfl, by decide +kernel, by decide +kernel⟩
theorem sc_pair_of : FnScope ["one", "other"] ["one", "other"] (defScope s_pair_of) := ⟨rfl, rfl, rfl, by decide +kernel, rfl, by decide +kernel, by decide +kernel⟩
theorem sc_all_lines : FnScope ["plan", "faces", "cuts", "face"] ["plan"] (defScope s_all_lines) := ⟨rfl, rfl, rfl, by decide +kernel, rfl, by decide +kernel, by decide +kernel⟩
theorem sc_neighbours : FnScope ["plan", "faces", "cuts", "found", "face", "low", "high", "step"] ["plan"] (defScope s_neighbours) := ⟨rfl, rfl, rfl, by decide +kernel, rfl, by decide +kernel, by decide +kernel⟩
theorem sc_need_place : FnScope ["plan", "place", "top", "under"] ["plan", "place"] (defScope s_need_place) := ⟨rfl, rfl, rfl, by decide +kernel, rfl, by decide +kernel, by decide +kernel⟩
theorem sc_between : FnScope ["faces", "start", "corner", "end"] ["faces", "start", "corner", "end"] (defScope s_between) := ⟨rfl, rfl, rfl, by decide +kernel, rfl, by decide +kernel, by decide +kernel⟩
theorem sc_third_corner : FnScope ["plan", "near", "place", "way", "top", "under", "start", "end", "corner"] ["plan", "near", "place", "way"] (defScope s_third_corner) := ⟨rfl, rfl, rfl, by decide +kernel, rfl, by decide +kernel, by decide +kernel⟩
theorem sc_tour_by : FnScope ["plan", "near", "place", "seen", "found", "way", "corner", "part", "here", "turn"] ["plan", "near", "place", "seen"] (defScope s_tour_by) := ⟨rfl, rfl, rfl, by decide +kernel, rfl, by decide +kernel, by decide +kernel⟩
theorem sc_tour : FnScope ["plan", "place"] ["plan", "place"] (defScope s_tour) := ⟨rfl, rfl, rfl, by decide +kernel, rfl, by decide +kernel, by decide +kernel⟩
theorem sc__law_alike : FnScope ["_law_found", "_law_due", "_law_at"] ["_law_found", "_law_due"] (defScope s__law_alike) := ⟨rfl, rfl, rfl, by decide +kernel, rfl, by decide +kernel, by decide +kernel⟩
theorem sc__law_all_lines : FnScope ["_law_plan_here", "_law_faces", "_law_cuts", "_law_sides", "_law_low"] ["_law_plan_here"] (defScope s__law_all_lines) := ⟨rfl, rfl, rfl, by decide +kernel, rfl, by decide +kernel, by decide +kernel⟩
theorem sc__law_bag : FnScope ["_law_script", "_law_cells", "_law_one", "_law_salt"] ["_law_script"] (defScope s__law_bag) := ⟨rfl, rfl, rfl, by decide +kernel, rfl, by decide +kernel, by decide +kernel⟩
theorem sc__law_cut_arc : FnScope ["_law_bag_here", "_law_start", "_law_end", "_law_found", "_law_wide", "_law_way", "_law_middle"] ["_law_bag_here", "_law_start", "_law_end", "_law_found"] (defScope s__law_cut_arc) := ⟨rfl, rfl, rfl, by decide +kernel, rfl, by decide +kernel, by decide +kernel⟩
theorem sc__law_drawn_plan : FnScope ["_law_bag_here", "_law_faces", "_law_rows", "_law_low", "_law_high"] ["_law_bag_here", "_law_faces"] (defScope s__law_drawn_plan) := ⟨rfl, rfl, rfl, by decide +kernel, rfl, by decide +kernel, by decide +kernel⟩
theorem sc__law_going : FnScope ["_law_faces", "_law_start", "_law_end", "_law_found", "_law_here"] ["_law_faces", "_law_start", "_law_end"] (defScope s__law_going) := ⟨rfl, rfl, rfl, by decide +kernel, rfl, by decide +kernel, by decide +kernel⟩
theorem sc__law_moved : FnScope ["_law_plan_here", "_law_held", "_law_spot_here", "_law_word", "_law_way", "_law_corner"] ["_law_plan_here", "_law_held", "_law_spot_here", "_law_word", "_law_way"] (defScope s__law_moved) := ⟨rfl, rfl, rfl, by decide +kernel, rfl, by decide +kernel, by decide +kernel⟩
theorem sc__law_pair : FnScope ["_law_one", "_law_other"] ["_law_one", "_law_other"] (defScope s__law_pair) := ⟨rfl, rfl, rfl, by decide +kernel, rfl, by decide +kernel, by decide +kernel⟩
theorem sc__law_plan : FnScope ["_law_bag_here", "_law_most", "_law_faces"] ["_law_bag_here", "_law_most"] (defScope s__law_plan) := ⟨rfl, rfl, rfl, by decide +kernel, rfl, by decide +kernel, by decide +kernel⟩
theorem sc__law_pull : FnScope ["_law_bag_here", "_law_many", "_law_seed", "_law_blend", "_law_drawn"] ["_law_bag_here", "_law_many"] (defScope s__law_pull) := ⟨rfl, rfl, rfl, by decide +kernel, rfl, by decide +kernel, by decide +kernel⟩
theorem sc__law_spot : FnScope ["_law_bag_here", "_law_plan_here", "_law_rows"] ["_law_bag_here", "_law_plan_here"] (defScope s__law_spot) := ⟨rfl, rfl, rfl, by decide +kernel, rfl, by decide +kernel, by decide +kernel⟩
theorem sc__law_spots : FnScope ["_law_plan_here"] ["_law_plan_here"] (defScope s__law_spots) := ⟨rfl, rfl, rfl, by decide +kernel, rfl, by decide +kernel, by decide +kernel⟩
theorem sc__law_third : FnScope ["_law_plan_here", "_law_held", "_law_spot_here", "_law_way", "_law_top", "_law_under", "_law_corner"] ["_law_plan_here", "_law_held", "_law_spot_here", "_law_way"] (defScope s__law_third) := ⟨rfl, rfl, rfl, by decide +kernel, rfl, by decide +kernel, by decide +kernel⟩
theorem sc__law_tied : FnScope ["_law_plan_here", "_law_held", "_law_low", "_law_high"] ["_law_plan_here"] (defScope s__law_tied) := ⟨rfl, rfl, rfl, by decide +kernel, rfl, by decide +kernel, by decide +kernel⟩
theorem sc__law_whole : FnScope ["_law_found"] ["_law_found"] (defScope s__law_whole) := ⟨rfl, rfl, rfl, by decide +kernel, rfl, by decide +kernel, by decide +kernel⟩
theorem sc_law : FnScope ["_law_script", "_law_bag_here", "_law_plan_here", "_law_held", "_law_spot_here", "_law_bits", "_law_bit", "_law_line", "_law_every", "_law_start", "_law_far", "_law_row", "_law_at", "_law_here", "_law_mask", "_law_way", "_law_there", "_law_later"] ["_law_script"] (defScope s_law) := ⟨rfl, rfl, rfl, by decide +kernel, rfl, by decide +kernel, by decide +kernel⟩
end Tx
namespace Tx
namespace Hd
open PySem PySem.Spec PyProof.Rows L2 TL
def d_crossing : He.DefD := ⟨("crossing", none), "crossing", "crossing", defArgs s_crossing, defBody s_crossing, defScope s_crossing, [], []⟩
def d_is_cut : He.DefD := ⟨("is_cut", none), "is_cut", "is_cut", defArgs s_is_cut, defBody s_is_cut, defScope s_is_cut, [], []⟩
def d_is_plan : He.DefD := ⟨("is_plan", none), "is_plan", "is_plan", defArgs s_is_plan, defBody s_is_plan, defScope s_is_plan, [], []⟩
def d_need_plan : He.DefD := ⟨("need_plan", none), "need_plan", "need_plan", defArgs s_need_plan, defBody s_need_plan, defScope s_need_plan, [], []⟩
def d_follows : He.DefD := ⟨("follows", none), "follows", "follows", defArgs s_follows, defBody s_follows, defScope s_follows, [], []⟩
def d_pair_of : He.DefD := ⟨("pair_of", none), "pair_of", "pair_of", defArgs s_pair_of, defBody s_pair_of, defScope s_pair_of, [], []⟩
def d_all_lines : He.DefD := ⟨("all_lines", none), "all_lines", "all_lines", defArgs s_all_lines, defBody s_all_lines, defScope s_all_lines, [], []⟩
def d_neighbours : He.DefD := ⟨("neighbours", none), "neighbours", "neighbours", defArgs s_neighbours, defBody s_neighbours, defScope s_neighbours, [], []⟩
def d_need_place : He.DefD := ⟨("need_place", none), "need_place", "need_place", defArgs s_need_place, defBody s_need_place, defScope s_need_place, [], []⟩
def d_between : He.DefD := ⟨("between", none), "between", "between", defArgs s_between, defBody s_between, defScope s_between, [], []⟩
def d_third_corner : He.DefD := ⟨("third_corner", none), "third_corner", "third_corner", defArgs s_third_corner, defBody s_third_corner, defScope s_third_corner, [], []⟩
def d_tour_by : He.DefD := ⟨("tour_by", none), "tour_by", "tour_by", defArgs s_tour_by, defBody s_tour_by, defScope s_tour_by, [], []⟩
def d_tour : He.DefD := ⟨("tour", none), "tour", "tour", defArgs s_tour, defBody s_tour, defScope s_tour, [], []⟩
def d__law_alike : He.DefD := ⟨("_law_alike", none), "_law_alike", "_law_alike", defArgs s__law_alike, defBody s__law_alike, defScope s__law_alike, [], []⟩
def d__law_all_lines : He.DefD := ⟨("_law_all_lines", none), "_law_all_lines", "_law_all_lines", defArgs s__law_all_lines, defBody s__law_all_lines, defScope s__law_all_lines, [], []⟩
def d__law_bag : He.DefD := ⟨("_law_bag", none), "_law_bag", "_law_bag", defArgs s__law_bag, defBody s__law_bag, defScope s__law_bag, [], []⟩
def d__law_cut_arc : He.DefD := ⟨("_law_cut_arc", none), "_law_cut_arc", "_law_cut_arc", defArgs s__law_cut_arc, defBody s__law_cut_arc, defScope s__law_cut_arc, [], []⟩
def d__law_drawn_plan : He.DefD := ⟨("_law_drawn_plan", none), "_law_drawn_plan", "_law_drawn_plan", defArgs s__law_drawn_plan, defBody s__law_drawn_plan, defScope s__law_drawn_plan, [], []⟩
def d__law_going : He.DefD := ⟨("_law_going", none), "_law_going", "_law_going", defArgs s__law_going, defBody s__law_going, defScope s__law_going, [], []⟩
def d__law_moved : He.DefD := ⟨("_law_moved", none), "_law_moved", "_law_moved", defArgs s__law_moved, defBody s__law_moved, defScope s__law_moved, [], []⟩
def d__law_pair : He.DefD := ⟨("_law_pair", none), "_law_pair", "_law_pair", defArgs s__law_pair, defBody s__law_pair, defScope s__law_pair, [], []⟩
def d__law_plan : He.DefD := ⟨("_law_plan", none), "_law_plan", "_law_plan", defArgs s__law_plan, defBody s__law_plan, defScope s__law_plan, [], []⟩
def d__law_pull : He.DefD := ⟨("_law_pull", none), "_law_pull", "_law_pull", defArgs s__law_pull, defBody s__law_pull, defScope s__law_pull, [], []⟩
def d__law_spot : He.DefD := ⟨("_law_spot", none), "_law_spot", "_law_spot", defArgs s__law_spot, defBody s__law_spot, defScope s__law_spot, [], []⟩
def d__law_spots : He.DefD := ⟨("_law_spots", none), "_law_spots", "_law_spots", defArgs s__law_spots, defBody s__law_spots, defScope s__law_spots, [], []⟩
def d__law_third : He.DefD := ⟨("_law_third", none), "_law_third", "_law_third", defArgs s__law_third, defBody s__law_third, defScope s__law_third, [], []⟩
def d__law_tied : He.DefD := ⟨("_law_tied", none), "_law_tied", "_law_tied", defArgs s__law_tied, defBody s__law_tied, defScope s__law_tied, [], []⟩
def d__law_whole : He.DefD := ⟨("_law_whole", none), "_law_whole", "_law_whole", defArgs s__law_whole, defBody s__law_whole, defScope s__law_whole, [], []⟩
def d_law : He.DefD := ⟨("law", none), "law", "law", defArgs s_law, defBody s_law, defScope s_law, [], []⟩
def fn : List He.DefD := [d_crossing, d_is_cut, d_is_plan, d_need_plan, d_follows, d_pair_of, d_all_lines, d_neighbours, d_need_place, d_between, d_third_corner, d_tour_by, d_tour, d__law_alike, d__law_all_lines, d__law_bag, d__law_cut_arc, d__law_drawn_plan, d__law_going, d__law_moved, d__law_pair, d__law_plan, d__law_pull, d__law_spot, d__law_spots, d__law_third, d__law_tied, d__law_whole, d_law]
def fa : List He.Fa := [.glo "crossing",
  .glo "is_cut",
  .glo "is_plan",
  .glo "need_plan",
  .glo "follows",
  .glo "pair_of",
  .glo "all_lines",
  .glo "neighbours",
  .glo "need_place",
  .glo "between",
  .glo "third_corner",
  .glo "tour_by",
  .glo "tour",
  .glo "_law_alike",
  .glo "_law_all_lines",
  .glo "_law_bag",
  .glo "_law_cut_arc",
  .glo "_law_drawn_plan",
  .glo "_law_going",
  .glo "_law_moved",
  .glo "_law_pair",
  .glo "_law_plan",
  .glo "_law_pull",
  .glo "_law_spot",
  .glo "_law_spots",
  .glo "_law_third",
  .glo "_law_tied",
  .glo "_law_whole",
  .glo "law",
  .glo "PinchError",
  .glo "BadPlan",
  .glo "BadPlace",
  .free "abs",
  .free "all",
  .free "any",
  .free "bool",
  .free "enumerate",
  .free "int",
  .free "isinstance",
  .free "len",
  .free "list",
  .free "max",
  .free "min",
  .free "range",
  .free "sorted",
  .free "str",
  .free "sum",
  .free "tuple",
  .int "LEAST" 3,
  .int "MOST" 40,
  .glo "WAYS",
  .exc "PinchError",
  .exc "BadPlan",
  .exc "BadPlace"]
def xf : List XF := [fun K => He.tupB K "WAYS" [.str "even", .str "odd"]]
abbrev R : PySem.W.OpenRow := PySem.W.OpenLaw.row PySem.Challenge.rw_pinchfold_k29_whole_no_shorter_tour
def tf : List LamD := []
abbrev hk : PySem.W.Hook := hookL 4 xf fa fn tf
def ob (s : PySem.W.SharedT) : AlL := obsLG 4 xf fa fn tf (HandSHeadRun.getT s)
theorem ob_eq (s : PySem.W.SharedT) : ob s = hk.obs s.abs := obsLG_eq (HandSHeadRun.getT_eq s)
def loose : List PySem.Str := (["PinchError", "BadPlan", "BadPlace", "LEAST", "MOST", "crossing", "is_cut", "is_plan", "need_plan", "follows", "pair_of", "all_lines", "neighbours", "WAYS", "need_place", "between", "third_corner", "tour_by", "tour", "_law_alike", "_law_all_lines", "_law_bag", "_law_cut_arc", "_law_drawn_plan", "_law_going", "_law_moved", "_law_pair", "_law_plan", "_law_pull", "_law_spot"] : List PySem.Str) ++ (["_law_spots", "_law_third", "_law_tied", "_law_whole"] : List PySem.Str)
theorem run (w : World) : HandSHeadRun.RunEq R (PySem.W.view R.prog [39]) hk ob 6000 loose w := by
  intro os
  kernel_rfl
end Hd
end Tx
namespace Tx
open PySem PySem.Spec PyProof.Rows L2 TL
def catl : List Int := [0, 1, 1, 2, 5, 14, 42, 132, 429, 1430, 4862, 16796, 58786, 208012, 742900, 2674440, 9694845, 35357670, 129644790, 477638700, 1767263190, 6564120420, 24466267020, 91482563640, 343059613650, 1289904147324, 4861946401452, 18367353072152, 69533550916004, 263747951750360, 1002242216651368, 3814986502092304, 14544636039226909, 55534064877048198, 212336130412243110, 812944042149730764, 3116285494907301262, 11959798385860453492, 45950804324621742364, 176733862787006701400, 680425371729975800390, 2622127042276492108820]
def cc (i : Nat) : Int := catl.getD i 0
def lePP (p q : Int × Int) : Bool := decide (p.1 < q.1 ∨ (p.1 = q.1 ∧ p.2 ≤ q.2))
def ltPP (p q : Int × Int) : Bool := decide (p.1 < q.1 ∨ (p.1 = q.1 ∧ p.2 < q.2))
def sortPP (ps : List (Int × Int)) : List (Int × Int) := ps.mergeSort lePP
theorem srt_pp (ps : List (Int × Int)) : srt (ps.map ppD) = (sortPP ps).map ppD := by
  unfold srt sortPP
  have e := PySem.W.dataLe_ii (β := Int × Int) (fun p => p.1) (fun p => p.2)
  refine (List.map_mergeSort (r := lePP) (s := PySem.W.dataLe false id) fun a _ b _ => ?_).symm
  have e2 := congrFun (congrFun e a) b
  exact e2.symm
def planD (n : Int) (cs : List PyData) : PyData := .tuple [.int n, .tuple cs]
abbrev plD (n : Int) (cs : List (Int × Int)) : PyData := planD n (cs.map ppD)
def nrm (n : Int) (p : Int × Int) : Int × Int := (if p.2 % n < p.1 then p.2 % n else p.1, if p.2 % n > p.1 then p.2 % n else p.1)
def inF (p : Int × Int) (c : Int) : Bool := !decide (c = p.1) && !decide (c = p.2)
def inG (p : Int × Int) (c : Int) : Bool := decide (p.1 < c) && decide (c < p.2)
def two : List Bool → Bool
  | [a, b] => !decide (a = b)
  | _ => false
def crossB (p q : Int × Int) : Bool := two (([q.1, q.2].filter (inF p)).map (inG p))
def cutB (n : Int) (p : Int × Int) : Bool := decide (0 ≤ p.1) && (decide (p.1 + 1 < p.2) && decide (p.2 < n)) && !decide (p.1 = 0 ∧ p.2 = n - 1)
theorem eqv_ii (a b c d : Int) : PyData.eqv (.tuple [.int a, .int b]) (.tuple [.int c, .int d]) = decide (a = c ∧ b = d) := by
  simp only [PyData.eqv, PyData.eqvAll, Bool.and_true]
  by_cases h1 : a = c
  · by_cases h2 : b = d
    · simp [h1, h2]
    · simp [h1, h2]
  · simp [h1]
def adjB (cs : List (Int × Int)) : Bool := (List.range (cs.length - 1)).all fun i => ltPP (cs.getD i (0, 0)) (cs.getD (i + 1) (0, 0))
def nocB (cs : List (Int × Int)) : Bool := (List.range cs.length).all fun i => !((cs.take i).any fun d => crossB (cs.getD i (0, 0)) d)
def planB (n : Int) (cs : List (Int × Int)) : Bool := decide (3 ≤ n) && decide (n ≤ 40) && decide ((cs.length : Int) = n - 3) && cs.all (cutB n) && adjB cs && nocB cs
theorem ltPP_lex (p q : Int × Int) : HT.lexLt [p.1, p.2] [q.1, q.2] = ltPP p q := by
  unfold ltPP
  rw [HT.lexLt_cons, HT.lexLt_cons, HT.lexLt_nil_nil]
  by_cases h : p.1 = q.1
  · rw [if_pos h]
    by_cases h2 : p.2 = q.2
    · rw [if_pos h2]; symm; apply decide_eq_false; omega
    · rw [if_neg h2]; apply decide_eq_decide.mpr; omega
  · rw [if_neg h]; apply decide_eq_decide.mpr; omega
structure IsPlan (n : Int) (cs : List (Int × Int)) : Prop where
  lo : 3 ≤ n
  hi : n ≤ 40
  len : (cs.length : Int) = n - 3
  cut : ∀ c ∈ cs, 0 ≤ c.1 ∧ c.1 + 1 < c.2 ∧ c.2 < n ∧ ¬ (c.1 = 0 ∧ c.2 = n - 1)
  srt : cs.Pairwise fun p q => ltPP p q = true
  noc : ∀ c ∈ cs, ∀ d ∈ cs, crossB c d = false
theorem inF_t {p : Int × Int} {c : Int} (h1 : c ≠ p.1) (h2 : c ≠ p.2) : inF p c = true := by unfold inF; simp [h1, h2]
theorem inF_1 {p : Int × Int} {c : Int} (h1 : c = p.1) : inF p c = false := by unfold inF; simp [h1]
theorem inF_2 {p : Int × Int} {c : Int} (h1 : c = p.2) : inF p c = false := by unfold inF; simp [h1]
theorem cross_eq (p q : Int × Int) : crossB p q = decide (q.1 ≠ p.1 ∧ q.1 ≠ p.2 ∧ q.2 ≠ p.1 ∧ q.2 ≠ p.2 ∧ ¬ ((p.1 < q.1 ∧ q.1 < p.2) ↔ (p.1 < q.2 ∧ q.2 < p.2))) := by
  unfold crossB
  have k1 : ∀ x y : Bool, inF p q.1 = x → inF p q.2 = y → two (([q.1, q.2].filter (inF p)).map (inG p)) = (x && y && !decide (inG p q.1 = inG p q.2)) := fun x y h1 h2 => by
    cases x <;> cases y <;> simp [List.filter, h1, h2, two]
  have g : ∀ c, inG p c = decide (p.1 < c ∧ c < p.2) := fun c => by unfold inG; simp
  have key : (!decide (inG p q.1 = inG p q.2)) = decide (¬ ((p.1 < q.1 ∧ q.1 < p.2) ↔ (p.1 < q.2 ∧ q.2 < p.2))) := by
    rw [g, g]
    by_cases a : p.1 < q.1 ∧ q.1 < p.2 <;> by_cases b : p.1 < q.2 ∧ q.2 < p.2 <;> simp [a, b]
  by_cases h1 : q.1 = p.1
  · rw [k1 _ _ (inF_1 h1) rfl]; simp [h1]
  · by_cases h2 : q.1 = p.2
    · rw [k1 _ _ (inF_2 h2) rfl]; simp [h2]
    · by_cases h3 : q.2 = p.1
      · rw [k1 _ _ rfl (inF_1 h3)]; simp [h3]
      · by_cases h4 : q.2 = p.2
        · rw [k1 _ _ rfl (inF_2 h4)]; simp [h4]
        · rw [k1 _ _ (inF_t h1 h2) (inF_t h3 h4), key]
          apply decide_eq_decide.mpr
          constructor
          · exact fun h => ⟨h1, h2, h3, h4, h⟩
          · exact fun h => h.2.2.2.2
theorem cutB_iff (n : Int) (c : Int × Int) : cutB n c = true ↔ (0 ≤ c.1 ∧ c.1 + 1 < c.2 ∧ c.2 < n ∧ ¬ (c.1 = 0 ∧ c.2 = n - 1)) := by
  unfold cutB
  simp only [Bool.and_eq_true, decide_eq_true_eq, Bool.not_eq_true', decide_eq_false_iff_not]
  constructor
  · rintro ⟨⟨h1, h2, h3⟩, h4⟩; exact ⟨h1, h2, h3, h4⟩
  · rintro ⟨h1, h2, h3, h4⟩; exact ⟨⟨h1, h2, h3⟩, h4⟩
theorem getD_at {cs : List (Int × Int)} {i : Nat} (h : i < cs.length) : cs.getD i (0, 0) = cs[i] := by rw [List.getD_eq_getElem?_getD, List.getElem?_eq_getElem h]; rfl
theorem planB_of {n : Int} {cs : List (Int × Int)} (h : IsPlan n cs) : planB n cs = true := by
  unfold planB
  rw [decide_eq_true h.lo, decide_eq_true h.hi, decide_eq_true h.len]
  have h4 : cs.all (cutB n) = true := List.all_eq_true.mpr fun c hc => (cutB_iff n c).mpr (h.cut c hc)
  have h5 : adjB cs = true := by
    unfold adjB
    refine List.all_eq_true.mpr fun i hi => ?_
    have hi := List.mem_range.mp hi
    rw [getD_at (by omega), getD_at (by omega)]
    exact List.pairwise_iff_getElem.mp h.srt i (i + 1) (by omega) (by omega) (by omega)
  have h6 : nocB cs = true := by
    unfold nocB
    refine List.all_eq_true.mpr fun i hi => ?_
    have hi := List.mem_range.mp hi
    rw [getD_at hi]
    have : (cs.take i).any (fun d => crossB cs[i] d) = false := List.any_eq_false.mpr fun d hd => by
      rw [h.noc _ (List.getElem_mem hi) d (List.mem_of_mem_take hd)]
      decide
    rw [this]
    rfl
  rw [h4, h5, h6]
  rfl
theorem lePP_total (p q : Int × Int) : (lePP p q || lePP q p) = true := by
  unfold lePP
  by_cases h : p.1 < q.1 ∨ (p.1 = q.1 ∧ p.2 ≤ q.2)
  · rw [decide_eq_true h]; rfl
  · rw [decide_eq_true (show q.1 < p.1 ∨ (q.1 = p.1 ∧ q.2 ≤ p.2) by omega), Bool.or_true]
theorem lePP_trans (p q r : Int × Int) (h1 : lePP p q = true) (h2 : lePP q r = true) : lePP p r = true := by
  unfold lePP at *
  have h1 := of_decide_eq_true h1
  have h2 := of_decide_eq_true h2
  apply decide_eq_true
  omega
theorem sortPP_perm (ps : List (Int × Int)) : (sortPP ps).Perm ps := List.mergeSort_perm ps lePP
theorem sortPP_lt {ps : List (Int × Int)} (nd : ps.Nodup) : (sortPP ps).Pairwise fun p q => ltPP p q = true := by
  have h1 : (sortPP ps).Pairwise fun p q => lePP p q = true := List.pairwise_mergeSort lePP_trans lePP_total ps
  have h2 : (sortPP ps).Nodup := (sortPP_perm ps).nodup_iff.mpr nd
  refine (h1.and h2).imp fun {p q} h => ?_
  have h3 := of_decide_eq_true h.1
  have h4 : p ≠ q := h.2
  apply decide_eq_true
  have : ¬ (p.1 = q.1 ∧ p.2 = q.2) := fun z => h4 (Prod.ext z.1 z.2)
  omega
inductive Arcs : Int → Int → List (Int × Int) → Prop
  | leaf {s e : Int} : e - s ≤ 1 → Arcs s e []
  | node {s m e : Int} {a b : List (Int × Int)} : s < m → m < e → Arcs s m a → Arcs m e b → Arcs s e ((s, m) :: (m, e) :: (a ++ b))
theorem Arcs.len {s e : Int} {l : List (Int × Int)} (h : Arcs s e l) (hs : s < e) : (l.length : Int) ≤ 2 * (e - s) - 2 := by
  induction h with
  | leaf h => simp; omega
  | node h1 h2 _ _ ia ib =>
    have := ia h1
    have := ib h2
    simp only [List.length_cons, List.length_append]
    omega
def wide (p : Int × Int) : Bool := decide (p.2 - p.1 > 1)
def lam (p q : Int × Int) : Prop := p.2 ≤ q.1 ∨ q.2 ≤ p.1 ∨ (p.1 ≤ q.1 ∧ q.2 ≤ p.2) ∨ (q.1 ≤ p.1 ∧ p.2 ≤ q.2)
theorem Arcs.within {s e : Int} {l : List (Int × Int)} (h : Arcs s e l) (hs : s < e) : ∀ p ∈ l, s ≤ p.1 ∧ p.1 < p.2 ∧ p.2 ≤ e ∧ ¬ (p.1 = s ∧ p.2 = e) := by
  induction h with
  | leaf h => intro p hp; cases hp
  | node h1 h2 _ _ ia ib =>
    intro p hp
    rcases List.mem_cons.mp hp with rfl | hp
    · exact ⟨Int.le_refl _, h1, by omega, by omega⟩
    · rcases List.mem_cons.mp hp with rfl | hp
      · exact ⟨by omega, h2, Int.le_refl _, by omega⟩
      · rcases List.mem_append.mp hp with hp | hp
        · have := ia h1 p hp; omega
        · have := ib h2 p hp; omega
theorem Arcs.lams {s e : Int} {l : List (Int × Int)} (h : Arcs s e l) (hs : s < e) : ∀ p ∈ l, ∀ q ∈ l, lam p q := by
  induction h with
  | leaf h => intro p hp; cases hp
  | @node s m e a b h1 h2 ha hb ia ib =>
    have wa := ha.within h1
    have wb := hb.within h2
    have cases4 : ∀ p ∈ (s, m) :: (m, e) :: (a ++ b), p = (s, m) ∨ p = (m, e) ∨ p ∈ a ∨ p ∈ b := fun p hp => by
      rcases List.mem_cons.mp hp with h | hp
      · exact .inl h
      · rcases List.mem_cons.mp hp with h | hp
        · exact .inr (.inl h)
        · rcases List.mem_append.mp hp with h | h
          · exact .inr (.inr (.inl h))
          · exact .inr (.inr (.inr h))
    intro p hp q hq
    rcases cases4 p hp with rfl | rfl | hp | hp <;> rcases cases4 q hq with rfl | rfl | hq | hq
    all_goals first
      | exact ia h1 p hp q hq
      | exact ib h2 p hp q hq
      | (unfold lam; (try have x1 := wa p hp); (try have x2 := wb p hp); (try have x3 := wa q hq); (try have x4 := wb q hq); (try simp only at *); omega)
theorem Arcs.nodup {s e : Int} {l : List (Int × Int)} (h : Arcs s e l) (hs : s < e) : l.Nodup := by
  induction h with
  | leaf h => exact List.nodup_nil
  | @node s m e a b h1 h2 ha hb ia ib =>
    have wa := ha.within h1
    have wb := hb.within h2
    refine List.nodup_cons.mpr ⟨fun hm => ?_, List.nodup_cons.mpr ⟨fun hm => ?_, List.nodup_append.mpr ⟨ia h1, ib h2, fun x hx y hy z => ?_⟩⟩⟩
    · rcases List.mem_cons.mp hm with h | hm
      · have := congrArg Prod.fst h; simp only at this; omega
      · rcases List.mem_append.mp hm with h | h
        · exact (wa _ h).2.2.2 ⟨rfl, rfl⟩
        · exact absurd (show m ≤ s from (wb _ h).1) (by omega)
    · rcases List.mem_append.mp hm with h | h
      · exact absurd (show e ≤ m from (wa _ h).2.2.1) (by omega)
      · exact (wb _ h).2.2.2 ⟨rfl, rfl⟩
    · subst z
      have := wa _ hx
      have := wb _ hy
      omega
theorem Arcs.wides {s e : Int} {l : List (Int × Int)} (h : Arcs s e l) (hs : s < e) : ((l.filter wide).length : Int) = if e - s ≤ 1 then 0 else e - s - 2 := by
  induction h with
  | leaf h => rw [if_pos h]; rfl
  | @node s m e a b h1 h2 ha hb ia ib =>
    have x := ia h1
    have y := ib h2
    rw [if_neg (by omega)]
    have w1 : wide (s, m) = decide (m - s > 1) := rfl
    have w2 : wide (m, e) = decide (e - m > 1) := rfl
    by_cases c1 : m - s ≤ 1 <;> by_cases c2 : e - m ≤ 1
    all_goals
      (first | rw [if_pos c1] at x | rw [if_neg c1] at x)
      (first | rw [if_pos c2] at y | rw [if_neg c2] at y)
      have d1 : decide (m - s > 1) = !decide (m - s ≤ 1) := by by_cases h : m - s ≤ 1 <;> simp [h] <;> omega
      have d2 : decide (e - m > 1) = !decide (e - m ≤ 1) := by by_cases h : e - m ≤ 1 <;> simp [h] <;> omega
      simp only [List.filter_cons, List.filter_append, w1, w2, d1, d2, c1, c2, decide_true, decide_false, Bool.not_true, Bool.not_false, if_true, if_false, List.length_cons, List.length_append, Bool.false_eq_true]
      omega
/-- what a drawn row of arcs gives is a good plan -/
theorem arcs_plan {n : Int} {l : List (Int × Int)} (h3 : 3 ≤ n) (h40 : n ≤ 40) (h : Arcs 1 n l) : IsPlan n (sortPP ((l.filter wide).map (nrm n))) := by
  have hn : (1 : Int) < n := by omega
  have hw := h.within hn
  have hlm := h.lams hn
  have hlen := h.wides hn
  rw [if_neg (by omega)] at hlen
  have val : ∀ p ∈ l.filter wide, (p.2 < n ∧ nrm n p = p) ∨ (p.2 = n ∧ nrm n p = (0, p.1)) := fun p hp => by
    have hp1 := (List.mem_filter.mp hp).1
    have w := hw p hp1
    by_cases e : p.2 = n
    · right
      refine ⟨e, ?_⟩
      unfold nrm
      rw [e, Int.emod_self, if_pos (by omega), if_neg (by omega)]
    · left
      refine ⟨by omega, ?_⟩
      unfold nrm
      rw [Int.emod_eq_of_lt (by omega) (by omega), if_neg (by omega), if_pos (by omega)]
  have facts : ∀ p ∈ l.filter wide, 1 ≤ p.1 ∧ p.1 + 1 < p.2 ∧ p.2 ≤ n ∧ ¬ (p.1 = 1 ∧ p.2 = n) := fun p hp => by
    obtain ⟨hp1, hp2⟩ := List.mem_filter.mp hp
    have w := hw p hp1
    have w2 : p.2 - p.1 > 1 := of_decide_eq_true hp2
    omega
  have nd : ((l.filter wide).map (nrm n)).Nodup := by
    have nd0 : (l.filter wide).Nodup := (h.nodup hn).filter _
    refine List.pairwise_map.mpr (nd0.imp_of_mem fun {p q} hp hq hne z => hne ?_)
    have f1 := facts p hp
    have f2 := facts q hq
    rcases val p hp with ⟨a1, a2⟩ | ⟨a1, a2⟩ <;> rcases val q hq with ⟨b1, b2⟩ | ⟨b1, b2⟩
    · rw [a2, b2] at z; exact z
    · rw [a2, b2] at z
      have := congrArg Prod.fst z; simp only at this; omega
    · rw [a2, b2] at z
      have := congrArg Prod.fst z; simp only at this; omega
    · rw [a2, b2] at z
      have := congrArg Prod.snd z; simp only at this
      exact Prod.ext this (by omega)
  have mem : ∀ c ∈ sortPP ((l.filter wide).map (nrm n)), ∃ p ∈ l.filter wide, nrm n p = c := fun c hc => List.mem_map.mp ((sortPP_perm _).mem_iff.mp hc)
  refine ⟨h3, h40, ?_, fun c hc => ?_, sortPP_lt nd, fun c hc d hd => ?_⟩
  · rw [(sortPP_perm _).length_eq, List.length_map]; omega
  · obtain ⟨p, hp, rfl⟩ := mem c hc
    have f1 := facts p hp
    rcases val p hp with ⟨a1, a2⟩ | ⟨a1, a2⟩
    · rw [a2]; omega
    · rw [a2]; simp only; omega
  · obtain ⟨p, hp, rfl⟩ := mem c hc
    obtain ⟨q, hq, rfl⟩ := mem d hd
    have f1 := facts p hp
    have f2 := facts q hq
    have L := hlm p (List.mem_filter.mp hp).1 q (List.mem_filter.mp hq).1
    unfold lam at L
    rw [cross_eq]
    apply decide_eq_false
    rcases val p hp with ⟨a1, a2⟩ | ⟨a1, a2⟩ <;> rcases val q hq with ⟨b1, b2⟩ | ⟨b1, b2⟩ <;> rw [a2, b2] <;> (try simp only) <;> omega
def o__law_pair : CT := fun args Φ Ψ => ∃ i j : Int, args = [.d (.int i), .d (.int j)] ∧ Φ (.rd (ppD (if j < i then j else i, if j > i then j else i))) args
def absI (c : Int) : Int := if c < 0 then -c else c
theorem absI_nn (c : Int) : 0 ≤ absI c := by unfold absI; split <;> omega
def o__law_bag : CT := fun args Φ Ψ => ∃ ns : List Int, args = [.d (.list (ns.map .int))] ∧ ns.length ≤ 63 ∧ ∀ ds, BagD ds → Φ (.nl ds) args
def o__law_pull : CT := fun args Φ Ψ => ∃ (b : Addr) (many : Int), args = [.bg b, .d (.int many)] ∧ 0 < many ∧ many.natAbs < 2 ^ 8000 ∧ ∀ r : Int, 0 ≤ r → r < many → Φ (.rd (.int r)) args
def o__law_cut_arc (N : Nat) : CT := fun args Φ Ψ => ∃ (b : Addr) (st en : Int) (f : Addr) (ds : List PyData), args = [.bg b, .d (.int st), .d (.int en), .ol f ds] ∧ st < en ∧ en - st ≤ N ∧ (ds.length : Int) + 2 * (en - st) ≤ 10000 ∧ ∀ l, Arcs st en l → Φ (.ar 3) [.bg b, .d (.int st), .d (.int en), .ol f (ds ++ l.map ppD)]
/-- the plan of the lines within the arc 1 .. n -/
def planOf (n : Int) (l : List (Int × Int)) : List (Int × Int) := sortPP ((l.filter wide).map (nrm n))
def o__law_drawn_plan : CT := fun args Φ Ψ => ∃ (b : Addr) (n : Int), args = [.bg b, .d (.int n)] ∧ 3 ≤ n ∧ n ≤ 40 ∧ ∀ l, Arcs 1 n l → Φ (.rd (plD n (planOf n l))) args
def sides (n : Int) : List (Int × Int) := ((List.range (n.toNat - 1)).map fun (i : Nat) => ((i : Int), (i : Int) + 1)) ++ [(0, n - 1)]
def linesOf (n : Int) (cs : List (Int × Int)) : List (Int × Int) := sortPP (sides n ++ cs)
def sideAt (n i : Int) : Int × Int := (if (i + 1) % n < i then (i + 1) % n else i, if (i + 1) % n > i then (i + 1) % n else i)
theorem sides_eq {n : Int} (h : 2 ≤ n) : ((List.range n.toNat).map fun (i : Nat) => sideAt n i) = sides n := by
  unfold sides
  rw [show n.toNat = (n.toNat - 1) + 1 by omega, List.range_succ, List.map_append, Nat.add_sub_cancel]
  congr 1
  · refine List.map_congr_left fun i hi => ?_
    have hi := List.mem_range.mp hi
    unfold sideAt
    rw [Int.emod_eq_of_lt (by omega) (by omega), if_neg (by omega), if_pos (by omega)]
  · show [sideAt n ((n.toNat - 1 : Nat) : Int)] = _
    have e : (((n.toNat - 1 : Nat) : Int) + 1) % n = 0 := by
      rw [show ((n.toNat - 1 : Nat) : Int) + 1 = n by omega]; exact Int.emod_self
    unfold sideAt
    rw [e, if_pos (by omega), if_neg (by omega)]
    congr 2
    omega
theorem sides_len {n : Int} (h : 2 ≤ n) : ((sides n).length : Int) = n := by
  unfold sides
  simp only [List.length_append, List.length_map, List.length_range, List.length_cons, List.length_nil]
  omega
theorem pp_unique : ∀ {l m : List (Int × Int)}, l.Perm m → l.Pairwise (fun p q => ltPP p q = true) → m.Pairwise (fun p q => ltPP p q = true) → l = m
  | [], m, h, _, _ => (List.nil_perm.mp h).symm
  | a :: l, [], h, _, _ => absurd h.length_eq (by simp)
  | a :: l, b :: m, h, h1, h2 => by
    have no : ∀ {p q : Int × Int}, ltPP p q = true → ltPP q p = true → False := fun {p q} x y => by
      have x := of_decide_eq_true x
      have y := of_decide_eq_true y
      omega
    have e : a = b := by
      have ha : a ∈ b :: m := h.mem_iff.mp (List.mem_cons_self ..)
      have hb : b ∈ a :: l := h.mem_iff.mpr (List.mem_cons_self ..)
      rcases List.mem_cons.mp ha with e | ha
      · exact e
      · rcases List.mem_cons.mp hb with e | hb
        · exact e.symm
        · exact (no ((List.pairwise_cons.mp h1).1 b hb) ((List.pairwise_cons.mp h2).1 a ha)).elim
    subst e
    rw [pp_unique (List.perm_cons a |>.mp h) (List.pairwise_cons.mp h1).2 (List.pairwise_cons.mp h2).2]
theorem sortPP_eq {l m : List (Int × Int)} (h : l.Perm m) (nd : l.Nodup) : sortPP l = sortPP m :=
  pp_unique ((sortPP_perm l).trans (h.trans (sortPP_perm m).symm)) (sortPP_lt nd) (sortPP_lt (h.nodup_iff.mp nd))
structure LinesOk (n : Int) (L : List (Int × Int)) : Prop where
  nd : L.Nodup
  lt : ∀ p ∈ L, 0 ≤ p.1 ∧ p.1 < p.2 ∧ p.2 < n
theorem sides_mem {n : Int} (h : 2 ≤ n) {p : Int × Int} (hp : p ∈ sides n) : (0 ≤ p.1 ∧ p.2 = p.1 + 1 ∧ p.2 < n) ∨ (p.1 = 0 ∧ p.2 = n - 1) := by
  unfold sides at hp
  rcases List.mem_append.mp hp with hp | hp
  · obtain ⟨i, hi, rfl⟩ := List.mem_map.mp hp
    have hi := List.mem_range.mp hi
    exact .inl ⟨Int.natCast_nonneg i, rfl, show (i : Int) + 1 < n by omega⟩
  · have e : p = (0, n - 1) := by simpa using hp
    subst e
    right
    exact ⟨rfl, rfl⟩
theorem sides_nodup {n : Int} (h : 3 ≤ n) : (sides n).Nodup := by
  unfold sides
  refine List.nodup_append.mpr ⟨?_, by simp, fun a ha b hb z => ?_⟩
  · exact List.pairwise_map.mpr (List.nodup_range.imp fun hne z => hne (by have := congrArg Prod.fst z; simp only at this; omega))
  · obtain ⟨i, hi, rfl⟩ := List.mem_map.mp ha
    have hi := List.mem_range.mp hi
    have e : b = (0, n - 1) := by simpa using hb
    rw [e] at z
    have z1 := congrArg Prod.fst z
    have z2 := congrArg Prod.snd z
    simp only at z1 z2
    omega
theorem lines_nodup {n : Int} {cs : List (Int × Int)} (h : IsPlan n cs) : (sides n ++ cs).Nodup := by
  refine List.nodup_append.mpr ⟨sides_nodup h.lo, ?_, fun a ha b hb z => ?_⟩
  · exact h.srt.imp fun {p q} hl z => by
      subst z
      have := of_decide_eq_true hl
      omega
  · subst z
    have c := h.cut a hb
    have := h.lo
    rcases sides_mem (by omega) ha with s | s <;> omega
theorem lines_ok {n : Int} {cs : List (Int × Int)} (h : IsPlan n cs) : LinesOk n (linesOf n cs) where
  nd := (sortPP_perm _).nodup_iff.mpr (lines_nodup h)
  lt := fun p hp => by
    have hp := (sortPP_perm _).mem_iff.mp hp
    have := h.lo
    rcases List.mem_append.mp hp with s | s
    · rcases sides_mem (by omega) s with s | s <;> omega
    · have := h.cut p s
      omega
theorem lines_len {n : Int} {cs : List (Int × Int)} (h : IsPlan n cs) : ((linesOf n cs).length : Int) = 2 * n - 3 := by
  unfold linesOf
  rw [(sortPP_perm _).length_eq, List.length_append]
  have := sides_len (n := n) (by have := h.lo; omega)
  have := h.len
  omega
def swp (p : Int × Int) : Int × Int := (p.2, p.1)
def both (L : List (Int × Int)) : List (Int × Int) := L.flatMap fun p => [p, swp p]
def spots (n : Int) (cs : List (Int × Int)) : List (Int × Int) := sortPP (both (linesOf n cs))
def keyP (p : Int × Int) : List Key := [.inl p.1, .inl p.2]
def tied (L : List (Int × Int)) : List (List Key × PyData) := (both L).map fun p => (keyP p, .bool true)
theorem keyP_inj {p q : Int × Int} (h : keyP p = keyP q) : p = q := by
  unfold keyP at h
  injection h with h1 h2
  injection h2 with h2 _
  injection h1 with h1
  injection h2 with h2
  exact Prod.ext h1 h2
theorem both_app (L M : List (Int × Int)) : both (L ++ M) = both L ++ both M := List.flatMap_append ..
theorem tied_keys (L : List (Int × Int)) : (tied L).map (fun kv => PyData.tuple (kv.1.map kD)) = (both L).map ppD := by
  unfold tied
  rw [List.map_map]
  rfl
theorem shp_pp (L : List (Int × Int)) : SeqAt.shaped (.list (L.map ppD)) = true := by
  have h1 : ∀ M : List (Int × Int), PyData.canLayAll0 (M.map ppD) = true ∧ PyData.depthAll (M.map ppD) ≤ 1 := fun M => by
    induction M with
    | nil => exact ⟨rfl, Nat.zero_le _⟩
    | cons a M ih =>
      refine ⟨?_, ?_⟩
      · show (PyData.canLay0 (ppD a) && PyData.canLayAll0 (M.map ppD)) = true
        rw [ih.1]; rfl
      · show max (PyData.depth (ppD a)) (PyData.depthAll (M.map ppD)) ≤ 1
        exact Nat.max_le.mpr ⟨Nat.le_of_ble_eq_true rfl, ih.2⟩
  unfold SeqAt.shaped
  have e1 : PyData.canLay0 (.list (L.map ppD)) = true := (h1 L).1
  have e2 : PyData.depth (.list (L.map ppD)) ≤ 64 := by
    show PyData.depthAll (L.map ppD) + 1 ≤ 64
    have := (h1 L).2
    omega
  rw [e1, decide_eq_true e2]
  rfl
theorem any_pp (L : List (Int × Int)) (p : Int × Int) : ((L.map ppD).any fun z => PyData.eqv z (ppD p)) = decide (p ∈ L) := by
  have e : ∀ q : Int × Int, PyData.eqv (ppD q) (ppD p) = decide (q = p) := fun q => by
    have h := eqv_ii q.1 q.2 p.1 p.2
    refine h.trans (decide_eq_decide.mpr ⟨fun z => Prod.ext z.1 z.2, fun z => by subst z; exact ⟨rfl, rfl⟩⟩)
  induction L with
  | nil => rfl
  | cons a L ih =>
    show (PyData.eqv (ppD a) (ppD p) || (L.map ppD).any fun z => PyData.eqv z (ppD p)) = _
    rw [e, ih]
    by_cases h1 : a = p
    · simp [h1]
    · by_cases h2 : p ∈ L
      · simp [h2]
      · have h3 : ¬ p = a := fun z => h1 z.symm
        simp [h1, h2, h3]
theorem both_iff {n : Int} {L : List (Int × Int)} (h : LinesOk n L) (p : Int × Int) : p ∈ both L ↔ ((0 ≤ p.1 ∧ p.1 < n) ∧ (0 ≤ p.2 ∧ p.2 < n) ∧ ((if p.2 < p.1 then p.2 else p.1, if p.2 > p.1 then p.2 else p.1) : Int × Int) ∈ L) := by
  constructor
  · intro hm
    obtain ⟨t, ht, hp⟩ := List.mem_flatMap.mp hm
    have tl := h.lt t ht
    have hp : p = t ∨ p = swp t := by simpa using hp
    rcases hp with rfl | rfl
    · rw [if_neg (by omega), if_pos (by omega)]
      exact ⟨by omega, by omega, ht⟩
    · show (0 ≤ t.2 ∧ t.2 < n) ∧ (0 ≤ t.1 ∧ t.1 < n) ∧ ((if t.1 < t.2 then t.1 else t.2, if t.1 > t.2 then t.1 else t.2) : Int × Int) ∈ L
      rw [if_pos (by omega), if_neg (by omega)]
      exact ⟨by omega, by omega, ht⟩
  · rintro ⟨_, _, hm⟩
    have tl := h.lt _ hm
    simp only at tl
    by_cases c : p.1 < p.2
    · rw [if_neg (by omega), if_pos (by omega)] at hm
      exact List.mem_flatMap.mpr ⟨p, hm, List.mem_cons_self ..⟩
    · by_cases c2 : p.2 < p.1
      · rw [if_pos c2, if_neg (by omega)] at hm
        exact List.mem_flatMap.mpr ⟨(p.2, p.1), hm, by simp [swp]⟩
      · rw [if_neg c2, if_neg (by omega)] at tl
        omega
def o__law_whole : CT := fun args Φ Ψ => ∃ d, args = [.d d] ∧ Φ (.rd (.bool (isTyB "int" d && !isTyB "bool" d))) args
theorem ti_bool_bool (v : Bool) : isTyB "bool" (.bool v) = true := by show (L2.kitB "bool" "bool").getD false = true; decide +kernel
theorem ti_int_bool (v : Int) : isTyB "bool" (.int v) = false := by show (L2.kitB "int" "bool").getD false = false; decide +kernel
theorem ti_int_int (v : Int) : isTyB "int" (.int v) = true := by show (L2.kitB "int" "int").getD false = true; decide +kernel
theorem ti_str_bool (v : Str) : isTyB "bool" (.str v) = false := by show (L2.kitB "str" "bool").getD false = false; decide +kernel
theorem ti_str_int (v : Str) : isTyB "int" (.str v) = false := by show (L2.kitB "str" "int").getD false = false; decide +kernel
theorem ti_str_str (v : Str) : isTyB "str" (.str v) = true := by show (L2.kitB "str" "str").getD false = true; decide +kernel
theorem ti_list_bool (v : List PyData) : isTyB "bool" (.list v) = false := by show (L2.kitB "list" "bool").getD false = false; decide +kernel
theorem ti_list_int (v : List PyData) : isTyB "int" (.list v) = false := by show (L2.kitB "list" "int").getD false = false; decide +kernel
theorem ti_list_str (v : List PyData) : isTyB "str" (.list v) = false := by show (L2.kitB "list" "str").getD false = false; decide +kernel
theorem ti_list_list (v : List PyData) : isTyB "list" (.list v) = true := by show (L2.kitB "list" "list").getD false = true; decide +kernel
theorem ti_list_tuple (v : List PyData) : isTyB "tuple" (.list v) = false := by show (L2.kitB "list" "tuple").getD false = false; decide +kernel
theorem ti_tuple_bool (v : List PyData) : isTyB "bool" (.tuple v) = false := by show (L2.kitB "tuple" "bool").getD false = false; decide +kernel
theorem ti_tuple_int (v : List PyData) : isTyB "int" (.tuple v) = false := by show (L2.kitB "tuple" "int").getD false = false; decide +kernel
theorem ti_tuple_str (v : List PyData) : isTyB "str" (.tuple v) = false := by show (L2.kitB "tuple" "str").getD false = false; decide +kernel
theorem ti_tuple_list (v : List PyData) : isTyB "list" (.tuple v) = false := by show (L2.kitB "tuple" "list").getD false = false; decide +kernel
theorem ti_tuple_tuple (v : List PyData) : isTyB "tuple" (.tuple v) = true := by show (L2.kitB "tuple" "tuple").getD false = true; decide +kernel
def okD : Nat → PyData → Bool
  | _, .none => true
  | _, .bool _ => true
  | _, .int _ => true
  | _, .str _ => true
  | N + 1, .list xs => decide (xs.length ≤ 10000000) && xs.all (okD N)
  | N + 1, .tuple xs => decide (xs.length ≤ 10000000) && xs.all (okD N)
  | _, _ => false
def o__law_alike (N : Nat) : CT := fun args Φ Ψ => ∃ x, args = [.d x, .d x] ∧ okD N x = true ∧ Φ (.rd (.bool true)) args
end Tx
namespace Tx
open PySem PySem.Spec PyProof.Rows L2 TL
def f__law_pull : PyData → KD → KX → Prop
  | .int m, K, _ => (0 < m ∧ m.natAbs < 2 ^ 8000) ∧ ∀ r : Int, 0 ≤ r → r < m → K (.int r)
  | _, _, _ => False
def c__law_pull : CT := fun args Φ Ψ => ∃ (b : Addr) (m : PyData) (K : KD) (E : KX), args = [.bg b, .d m] ∧ f__law_pull m K E ∧ (∀ r, K r → Φ (.rd r) args) ∧ ∀ c, E c → Ψ c args
def f__law_drawn_plan : PyData → KD → KX → Prop
  | .int n, K, _ => (3 ≤ n ∧ n ≤ 40) ∧ ∀ l, Arcs 1 n l → K (plD n (planOf n l))
  | _, _, _ => False
def c__law_drawn_plan : CT := fun args Φ Ψ => ∃ (b : Addr) (m : PyData) (K : KD) (E : KX), args = [.bg b, .d m] ∧ f__law_drawn_plan m K E ∧ (∀ r, K r → Φ (.rd r) args) ∧ ∀ c, E c → Ψ c args
def f__law_alike (x y : PyData) (K : KD) (_ : KX) : Prop := x = y ∧ okD 8 x = true ∧ K (.bool true)
def c__law_alike : CT := fun args Φ Ψ => ∃ (x y : PyData) (K : KD) (E : KX), args = [.d x, .d y] ∧ f__law_alike x y K E ∧ (∀ r, K r → Φ (.rd r) args) ∧ ∀ c, E c → Ψ c args
section
variable {n : Int} {cs : List (Int × Int)} {p q : Int × Int} {K : KD} {K2 : PyData → PyData → Prop} {Kb : KB} {m : Int} {E : KX} {x y : PyData}
theorem p_un_pl : un2 (plD n cs) K2 = K2 (.int n) (.tuple (cs.map ppD)) := rfl
theorem p_ix_pl0 : ixM (plD n cs) (.int 0) K = K (.int n) := rfl
theorem p_ix_pl1 : ixM (plD n cs) (.int 1) K = K (.tuple (cs.map ppD)) := rfl
theorem p_un_pp : un2 (ppD p) K2 = K2 (.int p.1) (.int p.2) := rfl
theorem p_ix_pp0 : ixM (ppD p) (.int 0) K = K (.int p.1) := rfl
theorem p_ix_pp1 : ixM (ppD p) (.int 1) K = K (.int p.2) := rfl
theorem p_mk {i j : Int} : PyData.tuple [.int i, .int j] = ppD (i, j) := rfl
theorem p_it_pp {Kl : KL} : itM (ppD p) Kl = Kl [.int p.1, .int p.2] := rfl
theorem shp_p (p : Int × Int) : SeqAt.shaped (ppD p) = true := rfl
theorem p_eq : eqM (ppD p) (ppD q) Kb = Kb (decide (p = q)) := by
  show (SeqAt.shaped (ppD p) = true ∧ SeqAt.shaped (ppD q) = true ∧ Kb (PyData.eqv (ppD p) (ppD q))) = _
  rw [show PyData.eqv (ppD p) (ppD q) = decide (p = q) by unfold ppD; rw [eqv_ii]; congr 1; exact propext ⟨fun h => Prod.ext h.1 h.2, fun h => by rw [h]; exact ⟨rfl, rfl⟩⟩]
  simp [shp_p]
theorem p_ne : neM (ppD p) (ppD q) Kb = Kb (!decide (p = q)) := by
  show (SeqAt.shaped (ppD p) = true ∧ SeqAt.shaped (ppD q) = true ∧ Kb (!PyData.eqv (ppD p) (ppD q))) = _
  rw [show PyData.eqv (ppD p) (ppD q) = decide (p = q) by unfold ppD; rw [eqv_ii]; congr 1; exact propext ⟨fun h => Prod.ext h.1 h.2, fun h => by rw [h]; exact ⟨rfl, rfl⟩⟩]
  simp [shp_p]
theorem p_in {L : List (Int × Int)} : inM (ppD p) (.list (L.map ppD)) Kb = Kb (decide (p ∈ L)) := by
  show inLstM (ppD p) (L.map ppD) Kb = _
  unfold inLstM
  rw [show fl (ppD p) = none from rfl]
  rw [any_pp]
  simp [shp_p, shp_pp]
theorem p_notIn {L : List (Int × Int)} : notInM (ppD p) (.list (L.map ppD)) Kb = Kb (!decide (p ∈ L)) := by unfold notInM; rw [p_in]
theorem p_lt : ltM (ppD p) (ppD q) Kb = Kb (ltPP p q) := by
  show Kb (HT.lexLt [p.1, p.2] [q.1, q.2]) = _
  rw [ltPP_lex]
theorem e__law_pull (h : 0 < m) (h2 : m < 1000000) : f__law_pull (.int m) K E = ∀ r : Int, 0 ≤ r → r < m → K (.int r) := by
  show ((0 < m ∧ m.natAbs < 2 ^ 8000) ∧ _) = _
  have e : m.natAbs < 2 ^ 8000 := nb (Nat.lt_of_lt_of_le (show m.natAbs < 2 ^ 20 by omega) (Nat.pow_le_pow_right (by decide) (by decide)))
  simp [h, e]
theorem e__law_drawn_plan (h : 3 ≤ m) (h2 : m ≤ 40) : f__law_drawn_plan (.int m) K E = ∀ l, Arcs 1 m l → K (plD m (planOf m l)) := by
  show ((3 ≤ m ∧ m ≤ 40) ∧ _) = _
  simp [h, h2]
theorem e__law_alike (h : okD 8 x = true) : f__law_alike x x K E = K (.bool true) := by unfold f__law_alike; simp [h]
end
end Tx
namespace Tx
open PySem PySem.Spec PyProof.Rows L2 TL
@[irreducible] def f_pair_of (one : PyData) (other : PyData) (K : KD) (E : KX) : Prop :=
  min2M one other fun r1 =>
  max2M one other fun r2 =>
  K (.tuple [r1, r2])
def c_pair_of : CT := fun args Φ Ψ => ∃ (one : PyData) (other : PyData) (K : KD) (E : KX), args = [.d one, .d other] ∧ f_pair_of one other K E ∧ (∀ r, K r → Φ (.rd r) args) ∧ ∀ c, E c → Ψ c args
@[irreducible] def f_crossing (one : PyData) (other : PyData) (K : KD) (E : KX) : Prop :=
  un2 one fun low1 high2 =>
  itM other fun xs4 =>
  lcM (fun corner5 kp sk => andM (fun Q => neM corner5 low1 fun b8 =>
  Q b8) (fun Q => neM corner5 high2 fun b9 =>
  Q b9) fun b7 =>
  (b7 = true → (andM (fun Q => ltM low1 corner5 Q) (fun Q => ltM corner5 high2 Q) fun b10 =>
  kp (.bool b10))) ∧ (b7 = false → sk)) (fun l6 =>
  andM (fun Q => lenM (.list l6) fun r13 =>
  eqM r13 (.int 2) fun b14 =>
  Q b14) (fun Q => ixM (.list l6) (.int 0) fun r15 =>
  ixM (.list l6) (.int 1) fun r16 =>
  neM r15 r16 fun b17 =>
  Q b17) fun b12 =>
  K (.bool b12)) xs4 []
def c_crossing : CT := fun args Φ Ψ => ∃ (one : PyData) (other : PyData) (K : KD) (E : KX), args = [.d one, .d other] ∧ f_crossing one other K E ∧ (∀ r, K r → Φ (.rd r) args) ∧ ∀ c, E c → Ψ c args
@[irreducible] def f_is_cut (faces : PyData) (cut : PyData) (K : KD) (E : KX) : Prop :=
  un2 cut fun low1 high2 =>
  andM (fun Q => leM (.int 0) low1 fun b5 =>
  Q b5) (fun Q => andM (fun Q => addM low1 (.int 1) fun r7 =>
  andM (fun Q => ltM r7 high2 Q) (fun Q => ltM high2 faces Q) fun b8 =>
  Q b8) (fun Q => subM faces (.int 1) fun r10 =>
  neM (.tuple [low1, high2]) (.tuple [(.int 0), r10]) fun b11 =>
  Q b11) fun b6 =>
  Q b6) fun b4 =>
  K (.bool b4)
def c_is_cut : CT := fun args Φ Ψ => ∃ (faces : PyData) (cut : PyData) (K : KD) (E : KX), args = [.d faces, .d cut] ∧ f_is_cut faces cut K E ∧ (∀ r, K r → Φ (.rd r) args) ∧ ∀ c, E c → Ψ c args
@[irreducible] def f_is_plan (plan : PyData) (K : KD) (E : KX) : Prop :=
  un2 plan fun faces1 cuts2 =>
  orM (fun Q => andM (fun Q => leM (.int 3) faces1 Q) (fun Q => leM faces1 (.int 40) Q) fun b5 =>
  Q (!b5)) (fun Q => lenM cuts2 fun r7 =>
  subM faces1 (.int 3) fun r8 =>
  neM r7 r8 fun b9 =>
  Q b9) fun b4 =>
  (b4 = true → (K (.bool false))) ∧ (b4 = false → (itM cuts2 fun xs13 =>
  lcM (fun cut14 kp sk => f_is_cut faces1 cut14 (fun r16 =>
  kp r16) (fun _ => False)) (fun l15 =>
  allM (.list l15) fun r17 =>
  boolM r17 fun b18 =>
  ((!b18) = true → (K (.bool false))) ∧ ((!b18) = false → (lenM cuts2 fun r23 =>
  rngM (.int 1) r23 fun xs22 =>
  forM (fun at_47 (_ : Unit) N48 B49 => subM at_47 (.int 1) fun r51 =>
  ixM cuts2 r51 fun r52 =>
  ixM cuts2 at_47 fun r53 =>
  ltM r52 r53 fun b54 =>
  ((!b54) = true → (K (.bool false))) ∧ ((!b54) = false → (N48 ()))) (fun (_ : Unit) =>
  enuM cuts2 fun xs25 =>
  forM (fun p28 (_ : Unit) N29 B30 => un2 p28 fun at_33 cut34 =>
  intO at_33 fun i37 =>
  slM cuts2 none (some i37) fun r38 =>
  itM r38 fun xs36 =>
  lcM (fun other39 kp sk => f_crossing cut34 other39 (fun r41 =>
  kp r41) (fun _ => False)) (fun l40 =>
  anyM (.list l40) fun r42 =>
  boolM r42 fun b43 =>
  (b43 = true → (K (.bool false))) ∧ (b43 = false → (N29 ()))) xs36 []) (fun (_ : Unit) =>
  K (.bool true)) xs25 ()) xs22 ()))) xs13 []))
def c_is_plan : CT := fun args Φ Ψ => ∃ (plan : PyData) (K : KD) (E : KX), args = [.d plan] ∧ f_is_plan plan K E ∧ (∀ r, K r → Φ (.rd r) args) ∧ ∀ c, E c → Ψ c args
@[irreducible] def f_need_plan (plan : PyData) (K : KD) (E : KX) : Prop :=
  f_is_plan plan (fun r1 =>
  boolM r1 fun b2 =>
  ((!b2) = true → (E (.own "BadPlan"))) ∧ ((!b2) = false → (K .none))) E
def c_need_plan : CT := fun args Φ Ψ => ∃ (plan : PyData) (K : KD) (E : KX), args = [.d plan] ∧ f_need_plan plan K E ∧ (∀ r, K r → Φ (.rd r) args) ∧ ∀ c, E c → Ψ c args
@[irreducible] def f_follows (faces : PyData) (face : PyData) (K : KD) (E : KX) : Prop :=
  addM face (.int 1) fun r1 =>
  modM r1 faces fun r2 =>
  K r2
def c_follows : CT := fun args Φ Ψ => ∃ (faces : PyData) (face : PyData) (K : KD) (E : KX), args = [.d faces, .d face] ∧ f_follows faces face K E ∧ (∀ r, K r → Φ (.rd r) args) ∧ ∀ c, E c → Ψ c args
@[irreducible] def f_all_lines (plan : PyData) (K : KL) (E : KX) : Prop :=
  un2 plan fun faces1 cuts2 =>
  rngM (.int 0) faces1 fun xs4 =>
  lcM (fun face5 kp sk => f_follows faces1 face5 (fun r7 =>
  f_pair_of face5 r7 (fun r8 =>
  kp r8) (fun _ => False)) (fun _ => False)) (fun l6 =>
  listM cuts2 fun l9 =>
  addM (.list l6) (.list l9) fun r10 =>
  sortM r10 fun l11 =>
  K l11) xs4 []
def c_all_lines : CT := fun args Φ Ψ => ∃ (plan : PyData) (K : KL) (E : KX), args = [.d plan] ∧ f_all_lines plan K E ∧ (∀ r, K r → Φ (.nl r) args) ∧ ∀ c, E c → Ψ c args
@[irreducible] def f_need_place (plan : PyData) (place : PyData) (K : KD) (E : KX) : Prop :=
  f_need_plan plan (fun r1 =>
  un2 place fun top2 under3 =>
  orM (fun Q => andM (fun Q => leM (.int 0) top2 Q) (fun Q => ixM plan (.int 0) fun r8 =>
  ltM top2 r8 Q) fun b6 =>
  Q (!b6)) (fun Q => orM (fun Q => andM (fun Q => leM (.int 0) under3 Q) (fun Q => ixM plan (.int 0) fun r12 =>
  ltM under3 r12 Q) fun b10 =>
  Q (!b10)) (fun Q => f_pair_of top2 under3 (fun r13 =>
  f_all_lines plan (fun r14 =>
  notInM r13 (.list r14) fun b15 =>
  Q b15) E) E) fun b9 =>
  Q b9) fun b5 =>
  (b5 = true → (E (.own "BadPlace"))) ∧ (b5 = false → (K .none))) E
def c_need_place : CT := fun args Φ Ψ => ∃ (plan : PyData) (place : PyData) (K : KD) (E : KX), args = [.d plan, .d place] ∧ f_need_place plan place K E ∧ (∀ r, K r → Φ (.rd r) args) ∧ ∀ c, E c → Ψ c args
@[irreducible] def f__law_all_lines (l_plan_here : PyData) (K : KL) (E : KX) : Prop :=
  un2 l_plan_here fun l_faces1 l_cuts2 =>
  subM l_faces1 (.int 1) fun r5 =>
  rngM (.int 0) r5 fun xs4 =>
  lcM (fun l_low6 kp sk => addM l_low6 (.int 1) fun r8 =>
  kp (.tuple [l_low6, r8])) (fun l7 =>
  subM l_faces1 (.int 1) fun r9 =>
  addM (.list l7) (.list [(.tuple [(.int 0), r9])]) fun r10 =>
  listM l_cuts2 fun l11 =>
  addM r10 (.list l11) fun r12 =>
  sortM r12 fun l13 =>
  K l13) xs4 []
def c__law_all_lines : CT := fun args Φ Ψ => ∃ (l_plan_here : PyData) (K : KL) (E : KX), args = [.d l_plan_here] ∧ f__law_all_lines l_plan_here K E ∧ (∀ r, K r → Φ (.nl r) args) ∧ ∀ c, E c → Ψ c args
@[irreducible] def f__law_pair (l_one : PyData) (l_other : PyData) (K : KD) (E : KX) : Prop :=
  min2M l_one l_other fun r1 =>
  max2M l_one l_other fun r2 =>
  K (.tuple [r1, r2])
def c__law_pair : CT := fun args Φ Ψ => ∃ (l_one : PyData) (l_other : PyData) (K : KD) (E : KX), args = [.d l_one, .d l_other] ∧ f__law_pair l_one l_other K E ∧ (∀ r, K r → Φ (.rd r) args) ∧ ∀ c, E c → Ψ c args
@[irreducible] def f__law_plan (l_most : PyData) (K : KD) (E : KX) : Prop :=
  subM l_most (.int 2) fun r1 =>
  f__law_pull r1 (fun r2 =>
  addM (.int 3) r2 fun r3 =>
  f__law_drawn_plan r3 (fun r4 =>
  K r4) E) E
def c__law_plan : CT := fun args Φ Ψ => ∃ (a_l_bag_here : Addr) (l_most : PyData) (K : KD) (E : KX), args = [.bg a_l_bag_here, .d l_most] ∧ f__law_plan l_most K E ∧ (∀ r, K r → Φ (.rd r) args) ∧ ∀ c, E c → Ψ c args
@[irreducible] def f__law_tied (l_plan_here : PyData) (K : (List (List Key × PyData) → Prop)) (E : KX) : Prop :=
  f__law_all_lines l_plan_here (fun r3 =>
  itM (.list r3) fun xs2 =>
  forM (fun p8 l_held11 N9 B10 => un2 p8 fun l_low15 l_high16 =>
  putTM l_held11 (.tuple [l_low15, l_high16]) (.bool true) fun kv18 =>
  putTM kv18 (.tuple [l_high16, l_low15]) (.bool true) fun kv19 =>
  N9 kv19) (fun l_held4 =>
  K l_held4) xs2 []) E
def c__law_tied : CT := fun args Φ Ψ => ∃ (l_plan_here : PyData) (K : (List (List Key × PyData) → Prop)) (E : KX), args = [.d l_plan_here] ∧ f__law_tied l_plan_here K E ∧ (∀ r, K r → Φ (.nt r) args) ∧ ∀ c, E c → Ψ c args
@[irreducible] def f__law_spots (l_plan_here : PyData) (K : KL) (E : KX) : Prop :=
  f__law_tied l_plan_here (fun r1 =>
  sortM (.list (keysT r1)) fun l2 =>
  K l2) E
def c__law_spots : CT := fun args Φ Ψ => ∃ (l_plan_here : PyData) (K : KL) (E : KX), args = [.d l_plan_here] ∧ f__law_spots l_plan_here K E ∧ (∀ r, K r → Φ (.nl r) args) ∧ ∀ c, E c → Ψ c args
@[irreducible] def f__law_whole (l_found : PyData) (K : KD) (E : KX) : Prop :=
  andM (fun Q => Q (isTyB "int" l_found)) (fun Q => Q (!(isTyB "bool" l_found))) fun b1 =>
  K (.bool b1)
def c__law_whole : CT := fun args Φ Ψ => ∃ (l_found : PyData) (K : KD) (E : KX), args = [.d l_found] ∧ f__law_whole l_found K E ∧ (∀ r, K r → Φ (.rd r) args) ∧ ∀ c, E c → Ψ c args
section
variable {K : KD} {Kl : KL} {E : KX} {n i j : Int} {cs : List (Int × Int)} {p q : Int × Int}
def nrmP (i j : Int) : Int × Int := (if j < i then j else i, if j > i then j else i)
theorem e_pair_of : f_pair_of (.int i) (.int j) K E = K (ppD (nrmP i j)) := by
  unfold f_pair_of; simp only [q_add_ii, q_add_ss, q_add_ll, q_add_tt, q_addL, q_sub, q_mul, q_div, q_mod, q_neg, q_bool, q_eq_ii, q_eq_ss, q_eq_bb, q_ne_ii, q_ne_ss, q_ne_bb, q_lt, q_le, q_gt, q_ge, q_un2, q_un3, q_un4, q_intO, q_len_l, q_len_t, q_len_s, q_abs, q_int_i, q_int_b, q_tup_l, q_tup_t, q_list_l, q_list_t, q_min, q_max, q_it_l, q_it_t, q_rng, q_enu_l, q_enu_t, q_rev, q_sl_l, q_sl_t, q_sl_s, q_slL, q_all, q_any, q_sum, q_sort_pp, q_and, q_or, q_ite, q_join, cond_true, cond_false, true_and, and_true, decide_eq_true_eq, decide_true, decide_false, p_un_pl, p_ix_pl0, p_ix_pl1, p_un_pp, p_ix_pp0, p_ix_pp1, p_mk, p_eq, p_ne, p_in, p_notIn, p_lt]; rfl
theorem e__law_pair : f__law_pair (.int i) (.int j) K E = K (ppD (nrmP i j)) := by
  unfold f__law_pair; simp only [q_add_ii, q_add_ss, q_add_ll, q_add_tt, q_addL, q_sub, q_mul, q_div, q_mod, q_neg, q_bool, q_eq_ii, q_eq_ss, q_eq_bb, q_ne_ii, q_ne_ss, q_ne_bb, q_lt, q_le, q_gt, q_ge, q_un2, q_un3, q_un4, q_intO, q_len_l, q_len_t, q_len_s, q_abs, q_int_i, q_int_b, q_tup_l, q_tup_t, q_list_l, q_list_t, q_min, q_max, q_it_l, q_it_t, q_rng, q_enu_l, q_enu_t, q_rev, q_sl_l, q_sl_t, q_sl_s, q_slL, q_all, q_any, q_sum, q_sort_pp, q_and, q_or, q_ite, q_join, cond_true, cond_false, true_and, and_true, decide_eq_true_eq, decide_true, decide_false, p_un_pl, p_ix_pl0, p_ix_pl1, p_un_pp, p_ix_pp0, p_ix_pp1, p_mk, p_eq, p_ne, p_in, p_notIn, p_lt]; rfl
theorem e_follows (h : 0 < n) : f_follows (.int n) (.int i) K E = K (.int ((i + 1) % n)) := by
  unfold f_follows; simp only [q_add_ii, q_add_ss, q_add_ll, q_add_tt, q_addL, q_sub, q_mul, q_div, q_mod, q_neg, q_bool, q_eq_ii, q_eq_ss, q_eq_bb, q_ne_ii, q_ne_ss, q_ne_bb, q_lt, q_le, q_gt, q_ge, q_un2, q_un3, q_un4, q_intO, q_len_l, q_len_t, q_len_s, q_abs, q_int_i, q_int_b, q_tup_l, q_tup_t, q_list_l, q_list_t, q_min, q_max, q_it_l, q_it_t, q_rng, q_enu_l, q_enu_t, q_rev, q_sl_l, q_sl_t, q_sl_s, q_slL, q_all, q_any, q_sum, q_sort_pp, q_and, q_or, q_ite, q_join, cond_true, cond_false, true_and, and_true, decide_eq_true_eq, decide_true, decide_false, p_un_pl, p_ix_pl0, p_ix_pl1, p_un_pp, p_ix_pp0, p_ix_pp1, p_mk, p_eq, p_ne, p_in, p_notIn, p_lt, h]
theorem e_all_lines (h2 : 2 ≤ n) (hn : n ≤ 1000) (hc : cs.length ≤ 1000) : f_all_lines (plD n cs) Kl E = Kl ((linesOf n cs).map ppD) := by
  unfold f_all_lines
  have hsd := sides_len h2
  have hsl := sizeLine_eq
  have g1 : -1000000 ≤ n ∧ n ≤ 1000000 := by omega
  simp only [q_add_ii, q_add_ss, q_add_ll, q_add_tt, q_addL, q_sub, q_mul, q_div, q_mod, q_neg, q_bool, q_eq_ii, q_eq_ss, q_eq_bb, q_ne_ii, q_ne_ss, q_ne_bb, q_lt, q_le, q_gt, q_ge, q_un2, q_un3, q_un4, q_intO, q_len_l, q_len_t, q_len_s, q_abs, q_int_i, q_int_b, q_tup_l, q_tup_t, q_list_l, q_list_t, q_min, q_max, q_it_l, q_it_t, q_rng, q_enu_l, q_enu_t, q_rev, q_sl_l, q_sl_t, q_sl_s, q_slL, q_all, q_any, q_sum, q_sort_pp, q_and, q_or, q_ite, q_join, cond_true, cond_false, true_and, and_true, decide_eq_true_eq, decide_true, decide_false, p_un_pl, p_ix_pl0, p_ix_pl1, p_un_pp, p_ix_pp0, p_ix_pp1, p_mk, p_eq, p_ne, p_in, p_notIn, p_lt, range0]
  rw [q_lc_map _ _ (fun i : Nat => ppD (sideAt n i)) fun a ha k s => by
    simp only [e_follows (n := n) (by omega : 0 < n), e_pair_of]; rfl]
  have em : ((List.range n.toNat).map fun (j : Nat) => ppD (sideAt n j)) = (sides n).map ppD := by rw [← sides_eq h2, List.map_map]; rfl
  rw [List.nil_append, em]
  have g2 : ((sides n).map ppD).length + (cs.map ppD).length ≤ sizeLine := by simp only [List.length_map]; omega
  simp only [g1, g2, true_and, ← List.map_append, q_sort_pp, srt_pp, linesOf]
  simp
theorem e_crossing : f_crossing (ppD p) (ppD q) K E = K (.bool (crossB p q)) := by
  unfold f_crossing
  simp only [q_add_ii, q_add_ss, q_add_ll, q_add_tt, q_addL, q_sub, q_mul, q_div, q_mod, q_neg, q_bool, q_eq_ii, q_eq_ss, q_eq_bb, q_ne_ii, q_ne_ss, q_ne_bb, q_lt, q_le, q_gt, q_ge, q_un2, q_un3, q_un4, q_intO, q_len_l, q_len_t, q_len_s, q_abs, q_int_i, q_int_b, q_tup_l, q_tup_t, q_list_l, q_list_t, q_min, q_max, q_it_l, q_it_t, q_rng, q_enu_l, q_enu_t, q_rev, q_sl_l, q_sl_t, q_sl_s, q_slL, q_all, q_any, q_sum, q_sort_pp, q_and, q_or, q_ite, q_join, cond_true, cond_false, true_and, and_true, decide_eq_true_eq, decide_true, decide_false, p_un_pl, p_ix_pl0, p_ix_pl1, p_un_pp, p_ix_pp0, p_ix_pp1, p_mk, p_eq, p_ne, p_in, p_notIn, p_lt, p_it_pp]
  rw [show [PyData.int q.1, .int q.2] = [q.1, q.2].map .int from rfl]
  rw [q_lc_fil _ _ (inF p) (fun c => .bool (inG p c)) fun c hc k s => by
    simp only [q_add_ii, q_add_ss, q_add_ll, q_add_tt, q_addL, q_sub, q_mul, q_div, q_mod, q_neg, q_bool, q_eq_ii, q_eq_ss, q_eq_bb, q_ne_ii, q_ne_ss, q_ne_bb, q_lt, q_le, q_gt, q_ge, q_un2, q_un3, q_un4, q_intO, q_len_l, q_len_t, q_len_s, q_abs, q_int_i, q_int_b, q_tup_l, q_tup_t, q_list_l, q_list_t, q_min, q_max, q_it_l, q_it_t, q_rng, q_enu_l, q_enu_t, q_rev, q_sl_l, q_sl_t, q_sl_s, q_slL, q_all, q_any, q_sum, q_sort_pp, q_and, q_or, q_ite, q_join, cond_true, cond_false, true_and, and_true, decide_eq_true_eq, decide_true, decide_false, p_un_pl, p_ix_pl0, p_ix_pl1, p_un_pp, p_ix_pp0, p_ix_pp1, p_mk, p_eq, p_ne, p_in, p_notIn, p_lt, inF, inG]]
  rw [List.nil_append, show (([q.1, q.2].filter (inF p)).map fun c => PyData.bool (inG p c)) = (([q.1, q.2].filter (inF p)).map (inG p)).map .bool by rw [List.map_map]; rfl]
  unfold crossB
  generalize (([q.1, q.2].filter (inF p)).map (inG p)) = bs
  match bs with
  | [] => exact q_and' (b1 := false) (fun Q => rfl) (b2 := false) (fun e => by cases e)
  | [a] => exact q_and' (b1 := false) (fun Q => rfl) (b2 := false) (fun e => by cases e)
  | [a, b] => exact q_and' (b1 := true) (fun Q => rfl) (fun e Q => rfl)
  | a :: b :: c :: r =>
    refine q_and' (b1 := false) (fun Q => ?_) (b2 := false) (fun e => by cases e)
    show Q (decide (((List.length (PyData.bool a :: PyData.bool b :: PyData.bool c :: r.map PyData.bool) : Nat) : Int) = 2)) = _
    rw [decide_eq_false (by simp only [List.length_cons]; omega)]
theorem dec_pair {a b c d : Int} : decide ((a, b) = (c, d)) = decide (a = c ∧ b = d) := by
  congr 1; exact propext (Prod.ext_iff (x := (a, b)) (y := (c, d)))
theorem e_is_cut : f_is_cut (.int n) (ppD p) K E = K (.bool (cutB n p)) := by
  unfold f_is_cut
  simp only [q_add_ii, q_add_ss, q_add_ll, q_add_tt, q_addL, q_sub, q_mul, q_div, q_mod, q_neg, q_bool, q_eq_ii, q_eq_ss, q_eq_bb, q_ne_ii, q_ne_ss, q_ne_bb, q_lt, q_le, q_gt, q_ge, q_un2, q_un3, q_un4, q_intO, q_len_l, q_len_t, q_len_s, q_abs, q_int_i, q_int_b, q_tup_l, q_tup_t, q_list_l, q_list_t, q_min, q_max, q_it_l, q_it_t, q_rng, q_enu_l, q_enu_t, q_rev, q_sl_l, q_sl_t, q_sl_s, q_slL, q_all, q_any, q_sum, q_sort_pp, q_and, q_or, q_ite, q_join, cond_true, cond_false, true_and, and_true, decide_eq_true_eq, decide_true, decide_false, p_un_pl, p_ix_pl0, p_ix_pl1, p_un_pp, p_ix_pp0, p_ix_pp1, p_mk, p_eq, p_ne, p_in, p_notIn, p_lt, dec_pair]
  simp only [cutB, Bool.and_assoc]
theorem at_cs {i : Int} (h0 : 0 ≤ i) (h : i < cs.length) : ixM (.tuple (cs.map ppD)) (.int i) K = K (ppD (cs.getD i.toNat (0, 0))) := by
  show (match atI (cs.map ppD) i with | some y => K y | none => False) = _
  have e : (cs.map ppD)[i.toNat]? = some (ppD (cs.getD i.toNat (0, 0))) := by
    rw [List.getElem?_map, List.getD_eq_getElem?_getD]
    rw [List.getElem?_eq_getElem (show i.toNat < cs.length by omega)]
    rfl
  rw [at_nat h0 e]
theorem cut_pp {j : Int} (h0 : 0 ≤ j) (h : j ≤ cs.length) : cut (cs.map ppD) none (some j) = (cs.take j.toNat).map ppD := by
  obtain ⟨k, rfl⟩ : ∃ k : Nat, j = k := ⟨j.toNat, by omega⟩
  unfold cut
  rw [HT.sIx_none, HT.sIx_nat, List.drop_zero, Nat.sub_zero, List.length_map, Nat.min_eq_left (by omega), List.map_take, Int.toNat_natCast]
theorem e_is_plan (hc : cs.length ≤ 1000) : f_is_plan (plD n cs) K E = K (.bool (planB n cs)) := by
  have hsl := sizeLine_eq
  unfold f_is_plan
  simp only [q_add_ii, q_add_ss, q_add_ll, q_add_tt, q_addL, q_sub, q_mul, q_div, q_mod, q_neg, q_bool, q_eq_ii, q_eq_ss, q_eq_bb, q_ne_ii, q_ne_ss, q_ne_bb, q_lt, q_le, q_gt, q_ge, q_un2, q_un3, q_un4, q_intO, q_len_l, q_len_t, q_len_s, q_abs, q_int_i, q_int_b, q_tup_l, q_tup_t, q_list_l, q_list_t, q_min, q_max, q_it_l, q_it_t, q_rng, q_enu_l, q_enu_t, q_rev, q_sl_l, q_sl_t, q_sl_s, q_slL, q_all, q_any, q_sum, q_sort_pp, q_and, q_or, q_ite, q_join, cond_true, cond_false, true_and, and_true, decide_eq_true_eq, decide_true, decide_false, p_un_pl, p_ix_pl0, p_ix_pl1, p_un_pp, p_ix_pp0, p_ix_pp1, p_mk, p_eq, p_ne, p_in, p_notIn, p_lt, List.length_map]
  unfold planB
  have e0 : (!(decide (3 ≤ n) && decide (n ≤ 40)) || !decide ((cs.length : Int) = n - 3)) = !(decide (3 ≤ n) && decide (n ≤ 40) && decide ((cs.length : Int) = n - 3)) := by
    cases decide (3 ≤ n) <;> cases decide (n ≤ 40) <;> cases decide ((cs.length : Int) = n - 3) <;> rfl
  rw [e0]
  cases e : (decide (3 ≤ n) && decide (n ≤ 40) && decide ((cs.length : Int) = n - 3))
  · rfl
  rw [Bool.true_and]
  show lcM _ _ _ _ = _
  rw [q_lc_map _ _ (fun c => PyData.bool (cutB n c)) fun c hc k s => by simp only [e_is_cut]]
  rw [List.nil_append, show (cs.map fun c => PyData.bool (cutB n c)) = (cs.map (cutB n)).map .bool by rw [List.map_map]; rfl, q_all]
  simp only [q_add_ii, q_add_ss, q_add_ll, q_add_tt, q_addL, q_sub, q_mul, q_div, q_mod, q_neg, q_bool, q_eq_ii, q_eq_ss, q_eq_bb, q_ne_ii, q_ne_ss, q_ne_bb, q_lt, q_le, q_gt, q_ge, q_un2, q_un3, q_un4, q_intO, q_len_l, q_len_t, q_len_s, q_abs, q_int_i, q_int_b, q_tup_l, q_tup_t, q_list_l, q_list_t, q_min, q_max, q_it_l, q_it_t, q_rng, q_enu_l, q_enu_t, q_rev, q_sl_l, q_sl_t, q_sl_s, q_slL, q_all, q_any, q_sum, q_sort_pp, q_and, q_or, q_ite, q_join, cond_true, cond_false, true_and, and_true, decide_eq_true_eq, decide_true, decide_false, p_un_pl, p_ix_pl0, p_ix_pl1, p_un_pp, p_ix_pp0, p_ix_pp1, p_mk, p_eq, p_ne, p_in, p_notIn, p_lt]
  have e2 : (cs.map (cutB n)).all id = cs.all (cutB n) := by rw [List.all_map]; rfl
  rw [e2]
  cases cs.all (cutB n)
  · rfl
  rw [Bool.true_and]
  show ((_ ∧ _) : Prop) = _
  refine Eq.trans (propext (and_iff_right (by omega))) ?_
  rw [rng_map, show ((cs.length : Int) - 1).toNat = cs.length - 1 by omega]
  rw [q_for_all _ _ (fun i => ltPP (cs.getD i (0, 0)) (cs.getD (i + 1) (0, 0))) (R := K (.bool false)) fun i hi N => ?_]
  · show cond (adjB cs) _ _ = _
    cases adjB cs
    · rfl
    show forM _ _ _ _ = _
    rw [enum_map, q_for_all _ _ (fun q => !((cs.take q.1).any fun d => crossB q.2 d)) (R := K (.bool false)) fun q hq N => ?_]
    · have e3 : (cs.mapIdx fun i a => (i, a)).all (fun q => !((cs.take q.1).any fun d => crossB q.2 d)) = nocB cs := by
        unfold nocB
        rw [Bool.eq_iff_iff, List.all_eq_true, List.all_eq_true]
        refine ⟨fun h i hi => ?_, fun h q hq => ?_⟩
        · have hi := List.mem_range.mp hi
          rw [getD_at hi]
          exact h (i, cs[i]) (List.mem_iff_getElem?.mpr ⟨i, by rw [List.getElem?_mapIdx, List.getElem?_eq_getElem hi]; rfl⟩)
        · obtain ⟨j, hj⟩ := List.mem_iff_getElem?.mp hq
          rw [List.getElem?_mapIdx] at hj
          obtain ⟨c, hc, rfl⟩ := Option.map_eq_some_iff.mp hj
          obtain ⟨hjl, hjc⟩ := List.getElem?_eq_some_iff.mp hc
          have := h j (List.mem_range.mpr hjl)
          rw [getD_at hjl, hjc] at this
          exact this
      rw [e3]
      cases nocB cs <;> rfl
    · obtain ⟨i, c⟩ := q
      have hi : i < cs.length := by
        obtain ⟨j, hj⟩ := List.mem_iff_getElem?.mp hq
        rw [List.getElem?_mapIdx] at hj
        obtain ⟨c, hc, e⟩ := Option.map_eq_some_iff.mp hj
        cases e
        exact (List.getElem?_eq_some_iff.mp hc).1
      simp only [q_add_ii, q_add_ss, q_add_ll, q_add_tt, q_addL, q_sub, q_mul, q_div, q_mod, q_neg, q_bool, q_eq_ii, q_eq_ss, q_eq_bb, q_ne_ii, q_ne_ss, q_ne_bb, q_lt, q_le, q_gt, q_ge, q_un2, q_un3, q_un4, q_intO, q_len_l, q_len_t, q_len_s, q_abs, q_int_i, q_int_b, q_tup_l, q_tup_t, q_list_l, q_list_t, q_min, q_max, q_it_l, q_it_t, q_rng, q_enu_l, q_enu_t, q_rev, q_sl_l, q_sl_t, q_sl_s, q_slL, q_all, q_any, q_sum, q_sort_pp, q_and, q_or, q_ite, q_join, cond_true, cond_false, true_and, and_true, decide_eq_true_eq, decide_true, decide_false, p_un_pl, p_ix_pl0, p_ix_pl1, p_un_pp, p_ix_pp0, p_ix_pp1, p_mk, p_eq, p_ne, p_in, p_notIn, p_lt]
      rw [cut_pp (by omega) (by omega)]
      rw [q_lc_map _ _ (fun d => PyData.bool (crossB c d)) fun d hd k s => by simp only [e_crossing]]
      rw [List.nil_append, show ∀ L : List (Int × Int), (L.map fun d => PyData.bool (crossB c d)) = (L.map (crossB c)).map .bool from fun L => by rw [List.map_map]; rfl, q_any]
      simp only [q_add_ii, q_add_ss, q_add_ll, q_add_tt, q_addL, q_sub, q_mul, q_div, q_mod, q_neg, q_bool, q_eq_ii, q_eq_ss, q_eq_bb, q_ne_ii, q_ne_ss, q_ne_bb, q_lt, q_le, q_gt, q_ge, q_un2, q_un3, q_un4, q_intO, q_len_l, q_len_t, q_len_s, q_abs, q_int_i, q_int_b, q_tup_l, q_tup_t, q_list_l, q_list_t, q_min, q_max, q_it_l, q_it_t, q_rng, q_enu_l, q_enu_t, q_rev, q_sl_l, q_sl_t, q_sl_s, q_slL, q_all, q_any, q_sum, q_sort_pp, q_and, q_or, q_ite, q_join, cond_true, cond_false, true_and, and_true, decide_eq_true_eq, decide_true, decide_false, p_un_pl, p_ix_pl0, p_ix_pl1, p_un_pp, p_ix_pp0, p_ix_pp1, p_mk, p_eq, p_ne, p_in, p_notIn, p_lt]
      rw [show ∀ L : List (Int × Int), (L.map (crossB c)).any id = L.any (crossB c) from fun L => by rw [List.any_map]; rfl, Int.toNat_natCast]
      show cond ((cs.take i).any (crossB c)) _ _ = cond (!(cs.take i).any (crossB c)) _ _
      cases (cs.take i).any (crossB c) <;> rfl
  · have hi := List.mem_range.mp hi
    simp only [q_add_ii, q_add_ss, q_add_ll, q_add_tt, q_addL, q_sub, q_mul, q_div, q_mod, q_neg, q_bool, q_eq_ii, q_eq_ss, q_eq_bb, q_ne_ii, q_ne_ss, q_ne_bb, q_lt, q_le, q_gt, q_ge, q_un2, q_un3, q_un4, q_intO, q_len_l, q_len_t, q_len_s, q_abs, q_int_i, q_int_b, q_tup_l, q_tup_t, q_list_l, q_list_t, q_min, q_max, q_it_l, q_it_t, q_rng, q_enu_l, q_enu_t, q_rev, q_sl_l, q_sl_t, q_sl_s, q_slL, q_all, q_any, q_sum, q_sort_pp, q_and, q_or, q_ite, q_join, cond_true, cond_false, true_and, and_true, decide_eq_true_eq, decide_true, decide_false, p_un_pl, p_ix_pl0, p_ix_pl1, p_un_pp, p_ix_pp0, p_ix_pp1, p_mk, p_eq, p_ne, p_in, p_notIn, p_lt]
    rw [at_cs (by omega) (by omega), at_cs (by omega) (by omega)]
    simp only [q_add_ii, q_add_ss, q_add_ll, q_add_tt, q_addL, q_sub, q_mul, q_div, q_mod, q_neg, q_bool, q_eq_ii, q_eq_ss, q_eq_bb, q_ne_ii, q_ne_ss, q_ne_bb, q_lt, q_le, q_gt, q_ge, q_un2, q_un3, q_un4, q_intO, q_len_l, q_len_t, q_len_s, q_abs, q_int_i, q_int_b, q_tup_l, q_tup_t, q_list_l, q_list_t, q_min, q_max, q_it_l, q_it_t, q_rng, q_enu_l, q_enu_t, q_rev, q_sl_l, q_sl_t, q_sl_s, q_slL, q_all, q_any, q_sum, q_sort_pp, q_and, q_or, q_ite, q_join, cond_true, cond_false, true_and, and_true, decide_eq_true_eq, decide_true, decide_false, p_un_pl, p_ix_pl0, p_ix_pl1, p_un_pp, p_ix_pp0, p_ix_pp1, p_mk, p_eq, p_ne, p_in, p_notIn, p_lt]
    rw [show ((1 : Int) + (i : Nat) - 1).toNat = i by omega, show ((1 : Int) + (i : Nat)).toNat = i + 1 by omega]
    cases ltPP (cs.getD i (0, 0)) (cs.getD (i + 1) (0, 0)) <;> rfl
theorem e_need_plan (hc : cs.length ≤ 1000) : f_need_plan (plD n cs) K E = cond (planB n cs) (K .none) (E (.own "BadPlan")) := by
  unfold f_need_plan
  simp only [q_add_ii, q_add_ss, q_add_ll, q_add_tt, q_addL, q_sub, q_mul, q_div, q_mod, q_neg, q_bool, q_eq_ii, q_eq_ss, q_eq_bb, q_ne_ii, q_ne_ss, q_ne_bb, q_lt, q_le, q_gt, q_ge, q_un2, q_un3, q_un4, q_intO, q_len_l, q_len_t, q_len_s, q_abs, q_int_i, q_int_b, q_tup_l, q_tup_t, q_list_l, q_list_t, q_min, q_max, q_it_l, q_it_t, q_rng, q_enu_l, q_enu_t, q_rev, q_sl_l, q_sl_t, q_sl_s, q_slL, q_all, q_any, q_sum, q_sort_pp, q_and, q_or, q_ite, q_join, cond_true, cond_false, true_and, and_true, decide_eq_true_eq, decide_true, decide_false, p_un_pl, p_ix_pl0, p_ix_pl1, p_un_pp, p_ix_pp0, p_ix_pp1, p_mk, p_eq, p_ne, p_in, p_notIn, p_lt, e_is_plan hc]
  cases planB n cs <;> rfl
theorem e_need_ok (h : IsPlan n cs) : f_need_plan (plD n cs) K E = K .none := by
  rw [e_need_plan (by have := h.len; have := h.hi; omega), planB_of h]; rfl
section
variable (hp : IsPlan n cs)
include hp
theorem e_all_lines' : f_all_lines (plD n cs) Kl E = Kl ((linesOf n cs).map ppD) := by
  have := hp.len; have := hp.hi; have := hp.lo
  exact e_all_lines (by omega) (by omega) (by omega)
theorem e_need_place : f_need_place (plD n cs) (ppD p) K E = cond (decide (p ∈ both (linesOf n cs))) (K .none) (E (.own "BadPlace")) := by
  have lok := lines_ok hp
  unfold f_need_place
  simp only [q_add_ii, q_add_ss, q_add_ll, q_add_tt, q_addL, q_sub, q_mul, q_div, q_mod, q_neg, q_bool, q_eq_ii, q_eq_ss, q_eq_bb, q_ne_ii, q_ne_ss, q_ne_bb, q_lt, q_le, q_gt, q_ge, q_un2, q_un3, q_un4, q_intO, q_len_l, q_len_t, q_len_s, q_abs, q_int_i, q_int_b, q_tup_l, q_tup_t, q_list_l, q_list_t, q_min, q_max, q_it_l, q_it_t, q_rng, q_enu_l, q_enu_t, q_rev, q_sl_l, q_sl_t, q_sl_s, q_slL, q_all, q_any, q_sum, q_sort_pp, q_and, q_or, q_ite, q_join, cond_true, cond_false, true_and, and_true, decide_eq_true_eq, decide_true, decide_false, p_un_pl, p_ix_pl0, p_ix_pl1, p_un_pp, p_ix_pp0, p_ix_pp1, p_mk, p_eq, p_ne, p_in, p_notIn, p_lt, e_need_ok hp, e_all_lines' hp, e_pair_of]
  have e : decide (p ∈ both (linesOf n cs)) = !(!(decide (0 ≤ p.1) && decide (p.1 < n)) || (!(decide (0 ≤ p.2) && decide (p.2 < n)) || !decide (nrmP p.1 p.2 ∈ linesOf n cs))) := by
    rw [Bool.eq_iff_iff]
    simp only [decide_eq_true_eq, both_iff lok, Bool.not_or, Bool.not_not, Bool.and_eq_true]
    rfl
  rw [e]
  generalize (!(decide (0 ≤ p.1) && decide (p.1 < n)) || (!(decide (0 ≤ p.2) && decide (p.2 < n)) || !decide (nrmP p.1 p.2 ∈ linesOf n cs))) = b
  cases b <;> rfl
theorem e__law_all_lines : f__law_all_lines (plD n cs) Kl E = Kl ((linesOf n cs).map ppD) := by
  have h1 := hp.len; have h2 := hp.hi; have h3 := hp.lo
  have hsl := sizeLine_eq
  unfold f__law_all_lines
  simp only [q_add_ii, q_add_ss, q_add_ll, q_add_tt, q_addL, q_sub, q_mul, q_div, q_mod, q_neg, q_bool, q_eq_ii, q_eq_ss, q_eq_bb, q_ne_ii, q_ne_ss, q_ne_bb, q_lt, q_le, q_gt, q_ge, q_un2, q_un3, q_un4, q_intO, q_len_l, q_len_t, q_len_s, q_abs, q_int_i, q_int_b, q_tup_l, q_tup_t, q_list_l, q_list_t, q_min, q_max, q_it_l, q_it_t, q_rng, q_enu_l, q_enu_t, q_rev, q_sl_l, q_sl_t, q_sl_s, q_slL, q_all, q_any, q_sum, q_sort_pp, q_and, q_or, q_ite, q_join, cond_true, cond_false, true_and, and_true, decide_eq_true_eq, decide_true, decide_false, p_un_pl, p_ix_pl0, p_ix_pl1, p_un_pp, p_ix_pp0, p_ix_pp1, p_mk, p_eq, p_ne, p_in, p_notIn, p_lt, range0]
  rw [q_lc_map _ _ (fun i : Nat => ppD ((i : Int), (i : Int) + 1)) fun a ha k s => by simp only [q_add_ii, q_add_ss, q_add_ll, q_add_tt, q_addL, q_sub, q_mul, q_div, q_mod, q_neg, q_bool, q_eq_ii, q_eq_ss, q_eq_bb, q_ne_ii, q_ne_ss, q_ne_bb, q_lt, q_le, q_gt, q_ge, q_un2, q_un3, q_un4, q_intO, q_len_l, q_len_t, q_len_s, q_abs, q_int_i, q_int_b, q_tup_l, q_tup_t, q_list_l, q_list_t, q_min, q_max, q_it_l, q_it_t, q_rng, q_enu_l, q_enu_t, q_rev, q_sl_l, q_sl_t, q_sl_s, q_slL, q_all, q_any, q_sum, q_sort_pp, q_and, q_or, q_ite, q_join, cond_true, cond_false, true_and, and_true, decide_eq_true_eq, decide_true, decide_false, p_un_pl, p_ix_pl0, p_ix_pl1, p_un_pp, p_ix_pp0, p_ix_pp1, p_mk, p_eq, p_ne, p_in, p_notIn, p_lt]]
  have em : ((List.range (n - 1).toNat).map fun (j : Nat) => ppD ((j : Int), (j : Int) + 1)) ++ [ppD (0, n - 1)] = (sides n).map ppD := by
    unfold sides
    rw [List.map_append, List.map_map, show (n - 1).toNat = n.toNat - 1 by omega]
    rfl
  have hsd := sides_len (by omega : 2 ≤ n)
  simp only [q_add_ii, q_add_ss, q_add_ll, q_add_tt, q_addL, q_sub, q_mul, q_div, q_mod, q_neg, q_bool, q_eq_ii, q_eq_ss, q_eq_bb, q_ne_ii, q_ne_ss, q_ne_bb, q_lt, q_le, q_gt, q_ge, q_un2, q_un3, q_un4, q_intO, q_len_l, q_len_t, q_len_s, q_abs, q_int_i, q_int_b, q_tup_l, q_tup_t, q_list_l, q_list_t, q_min, q_max, q_it_l, q_it_t, q_rng, q_enu_l, q_enu_t, q_rev, q_sl_l, q_sl_t, q_sl_s, q_slL, q_all, q_any, q_sum, q_sort_pp, q_and, q_or, q_ite, q_join, cond_true, cond_false, true_and, and_true, decide_eq_true_eq, decide_true, decide_false, p_un_pl, p_ix_pl0, p_ix_pl1, p_un_pp, p_ix_pp0, p_ix_pp1, p_mk, p_eq, p_ne, p_in, p_notIn, p_lt, List.nil_append, em, ← List.map_append, srt_pp, List.length_map, List.length_range, List.length_append, List.length_cons, List.length_nil]
  refine Eq.trans (propext (and_iff_right (by omega))) (Eq.trans (propext (and_iff_right (by omega))) (Eq.trans (propext (and_iff_right (by omega))) rfl))
theorem e__law_tied {Kt : List (List Key × PyData) → Prop} : f__law_tied (plD n cs) Kt E = Kt (tied (linesOf n cs)) := by
  have hsl := sizeLine_eq
  have lok := lines_ok hp
  have llen := lines_len hp
  have h40 := hp.hi
  unfold f__law_tied
  simp only [q_add_ii, q_add_ss, q_add_ll, q_add_tt, q_addL, q_sub, q_mul, q_div, q_mod, q_neg, q_bool, q_eq_ii, q_eq_ss, q_eq_bb, q_ne_ii, q_ne_ss, q_ne_bb, q_lt, q_le, q_gt, q_ge, q_un2, q_un3, q_un4, q_intO, q_len_l, q_len_t, q_len_s, q_abs, q_int_i, q_int_b, q_tup_l, q_tup_t, q_list_l, q_list_t, q_min, q_max, q_it_l, q_it_t, q_rng, q_enu_l, q_enu_t, q_rev, q_sl_l, q_sl_t, q_sl_s, q_slL, q_all, q_any, q_sum, q_sort_pp, q_and, q_or, q_ite, q_join, cond_true, cond_false, true_and, and_true, decide_eq_true_eq, decide_true, decide_false, p_un_pl, p_ix_pl0, p_ix_pl1, p_un_pp, p_ix_pp0, p_ix_pp1, p_mk, p_eq, p_ne, p_in, p_notIn, p_lt, e__law_all_lines hp]
  generalize hL : linesOf n cs = L at *
  have tl : ∀ i, (tied (L.take i)).length ≤ 2 * i := fun i => by
    have e : ∀ M : List (Int × Int), (both M).length = 2 * M.length := fun M => by
      induction M with
      | nil => rfl
      | cons a M ih => show (a :: swp a :: both M).length = _; simp only [List.length_cons, ih]; omega
    unfold tied
    rw [List.length_map, e, List.length_take]
    omega
  rw [show ([] : List (List Key × PyData)) = (fun i => tied (L.take i)) 0 from rfl, q_for_seq L ppD (fun i => tied (L.take i)) fun i p hp1 N => ?_]
  · simp only [List.take_length]
  have hi := (List.getElem?_eq_some_iff.mp hp1).1
  have pl := lok.lt p (List.mem_of_getElem? hp1)
  have fresh : p ∉ L.take i := fun hm => by
    obtain ⟨j, hj, e⟩ := List.mem_take_iff_getElem.mp hm
    have e2 := (List.getElem?_eq_some_iff.mp hp1).2
    have := (List.getElem_inj lok.nd).mp (e.trans e2.symm)
    omega
  have key1 : ∀ kv ∈ tied (L.take i), kv.1 ≠ keyP p ∧ kv.1 ≠ keyP (swp p) := fun kv hkv => by
    obtain ⟨r, hr1, rfl⟩ := List.mem_map.mp hkv
    obtain ⟨t, ht, hr2⟩ := List.mem_flatMap.mp hr1
    have htL := List.mem_of_mem_take ht
    have tl := lok.lt t htL
    have hne : t ≠ p := fun z => fresh (z ▸ ht)
    have hr3 : r = t ∨ r = swp t := by simpa using hr2
    refine ⟨fun z => ?_, fun z => ?_⟩
    · have z := keyP_inj z
      rcases hr3 with rfl | rfl
      · exact hne z
      · rw [← z] at pl; unfold swp at pl; simp only at pl; omega
    · have z := keyP_inj z
      rcases hr3 with rfl | rfl
      · rw [z] at tl; unfold swp at tl; simp only at tl; omega
      · have z1 : t.2 = p.2 := congrArg Prod.fst z
        have z2 : t.1 = p.1 := congrArg Prod.snd z
        exact hne (Prod.ext z2 z1)
  have et : tied (L.take (i + 1)) = tied (L.take i) ++ [(keyP p, .bool true)] ++ [(keyP (swp p), .bool true)] := by
    unfold tied
    rw [List.take_succ, hp1, both_app, List.map_append]
    simp [both]
  have tli := tl i
  simp only [p_un_pp]
  refine Eq.trans (propext (and_iff_right (by omega))) ?_
  show putTM (putP (tied (L.take i)) (keyP p) (.bool true)) (ppD (swp p)) _ _ = _
  rw [putP_new fun kv hkv => (key1 kv hkv).1]
  refine Eq.trans (propext (and_iff_right (by simp only [List.length_append, List.length_cons, List.length_nil]; omega))) ?_
  show N (putP _ (keyP (swp p)) _) = _
  rw [putP_new fun kv hkv => by
      rcases List.mem_append.mp hkv with h | h
      · exact (key1 kv h).2
      · have e : kv = (keyP p, .bool true) := by simpa using h
        rw [e]
        intro z
        have z1 : p.1 = p.2 := congrArg Prod.fst (keyP_inj z)
        omega]
  rw [et]
theorem e__law_spots : f__law_spots (plD n cs) Kl E = Kl ((spots n cs).map ppD) := by
  unfold f__law_spots
  simp only [q_add_ii, q_add_ss, q_add_ll, q_add_tt, q_addL, q_sub, q_mul, q_div, q_mod, q_neg, q_bool, q_eq_ii, q_eq_ss, q_eq_bb, q_ne_ii, q_ne_ss, q_ne_bb, q_lt, q_le, q_gt, q_ge, q_un2, q_un3, q_un4, q_intO, q_len_l, q_len_t, q_len_s, q_abs, q_int_i, q_int_b, q_tup_l, q_tup_t, q_list_l, q_list_t, q_min, q_max, q_it_l, q_it_t, q_rng, q_enu_l, q_enu_t, q_rev, q_sl_l, q_sl_t, q_sl_s, q_slL, q_all, q_any, q_sum, q_sort_pp, q_and, q_or, q_ite, q_join, cond_true, cond_false, true_and, and_true, decide_eq_true_eq, decide_true, decide_false, p_un_pl, p_ix_pl0, p_ix_pl1, p_un_pp, p_ix_pp0, p_ix_pp1, p_mk, p_eq, p_ne, p_in, p_notIn, p_lt, e__law_tied hp, keysT, tied_keys, srt_pp]
  rfl
end
theorem e__law_plan {m : Int} (h : 3 ≤ m) (h2 : m ≤ 40) : f__law_plan (.int m) K E = ∀ n, 3 ≤ n → n ≤ m → ∀ l, Arcs 1 n l → K (plD n (planOf n l)) := by
  unfold f__law_plan
  simp only [q_add_ii, q_add_ss, q_add_ll, q_add_tt, q_addL, q_sub, q_mul, q_div, q_mod, q_neg, q_bool, q_eq_ii, q_eq_ss, q_eq_bb, q_ne_ii, q_ne_ss, q_ne_bb, q_lt, q_le, q_gt, q_ge, q_un2, q_un3, q_un4, q_intO, q_len_l, q_len_t, q_len_s, q_abs, q_int_i, q_int_b, q_tup_l, q_tup_t, q_list_l, q_list_t, q_min, q_max, q_it_l, q_it_t, q_rng, q_enu_l, q_enu_t, q_rev, q_sl_l, q_sl_t, q_sl_s, q_slL, q_all, q_any, q_sum, q_sort_pp, q_and, q_or, q_ite, q_join, cond_true, cond_false, true_and, and_true, decide_eq_true_eq, decide_true, decide_false, p_un_pl, p_ix_pl0, p_ix_pl1, p_un_pp, p_ix_pp0, p_ix_pp1, p_mk, p_eq, p_ne, p_in, p_notIn, p_lt]
  rw [e__law_pull (by omega) (by omega)]
  simp only [q_add_ii]
  refine propext ⟨fun hh n hn hn2 l hl => ?_, fun hh r r0 r1 => ?_⟩
  · have := hh (n - 3) (by omega) (by omega)
    rw [show 3 + (n - 3) = n by omega, e__law_drawn_plan hn (by omega)] at this
    exact this l hl
  · rw [e__law_drawn_plan (by omega) (by omega)]
    exact hh _ (by omega) (by omega)
theorem both_len : ∀ M : List (Int × Int), (both M).length = 2 * M.length
  | [] => rfl
  | a :: M => by show (a :: swp a :: both M).length = _; simp only [List.length_cons, both_len M]; omega
theorem spots_len {n : Int} {cs : List (Int × Int)} (h : IsPlan n cs) : ((spots n cs).length : Int) = 4 * n - 6 := by
  unfold spots
  rw [(sortPP_perm _).length_eq, both_len]
  have := lines_len h
  omega
end
end Tx
namespace Tx
open PySem PySem.Spec PyProof.Rows L2 TL
@[irreducible] def f_neighbours (plan : PyData) (K : KL) (E : KX) : Prop :=
  un2 plan fun faces1 cuts2 =>
  rngM (.int 0) faces1 fun xs4 =>
  f_all_lines plan (fun r10 =>
  itM (.list r10) fun xs9 =>
  forM (fun p24 found27 N25 B26 => un2 p24 fun low30 high31 =>
  rowM found27 low30 fun l33 =>
  subM high31 low30 fun r34 =>
  modM r34 faces1 fun r35 =>
  rowAppM found27 low30 r35 fun rows36 =>
  rowM rows36 high31 fun l39 =>
  subM low30 high31 fun r40 =>
  modM r40 faces1 fun r41 =>
  rowAppM rows36 high31 r41 fun rows42 =>
  N25 rows42) (fun found11 =>
  rngM (.int 0) faces1 fun xs14 =>
  lcM (fun face15 kp sk => rowM found11 face15 fun l18 =>
  sortM (.list l18) fun l19 =>
  itM (.list l19) fun xs17 =>
  lcM (fun step20 kp sk => addM face15 step20 fun r22 =>
  modM r22 faces1 fun r23 =>
  kp r23) (fun l21 =>
  kp (.list l21)) xs17 []) (fun l16 =>
  K l16) xs14 []) xs9 (List.replicate xs4.length ([] : List PyData))) E
def c_neighbours : CT := fun args Φ Ψ => ∃ (plan : PyData) (K : KL) (E : KX), args = [.d plan] ∧ f_neighbours plan K E ∧ (∀ r, K r → Φ (.nl r) args) ∧ ∀ c, E c → Ψ c args
abbrev sortI (ns : List Int) : List Int := ns.mergeSort fun a b => decide (a ≤ b)
theorem srt_ints (ns : List Int) : srt (ns.map .int) = (sortI ns).map .int := by
  unfold srt sortI
  have e := PySem.W.dataLe_int (β := Int) (fun p => p)
  exact (List.map_mergeSort (r := fun a b => decide (a ≤ b)) (s := PySem.W.dataLe false id) fun a _ b _ => (congrFun (congrFun e a) b).symm).symm
theorem q_sort_ints (ns : List Int) {Kl : KL} : sortM (.list (ns.map .int)) Kl = Kl ((sortI ns).map .int) := by
  rw [← srt_ints]
  show ((_ ∧ _) : Prop) = _
  refine propext (and_iff_right ⟨.of fun _ _ => by simp [PySem.W.alike], .others fun b => ⟨(by intro z; cases z), fun xs z => (by cases z)⟩, fun d hd => ?_⟩)
  obtain ⟨p, _, rfl⟩ := List.mem_map.mp hd
  rfl
theorem lt_unique : ∀ {l m : List Int}, l.Perm m → l.Pairwise (· < ·) → m.Pairwise (· < ·) → l = m
  | [], m, h, _, _ => (List.nil_perm.mp h).symm
  | a :: l, [], h, _, _ => absurd h.length_eq (by simp)
  | a :: l, b :: m, h, h1, h2 => by
    have e : a = b := by
      have ha : a ∈ b :: m := h.mem_iff.mp (List.mem_cons_self ..)
      have hb : b ∈ a :: l := h.mem_iff.mpr (List.mem_cons_self ..)
      rcases List.mem_cons.mp ha with e | ha
      · exact e
      · rcases List.mem_cons.mp hb with e | hb
        · exact e.symm
        · have := (List.pairwise_cons.mp h1).1 b hb
          have := (List.pairwise_cons.mp h2).1 a ha
          omega
    subst e
    rw [lt_unique (List.perm_cons a |>.mp h) (List.pairwise_cons.mp h1).2 (List.pairwise_cons.mp h2).2]
theorem sortI_lt {ns : List Int} (nd : ns.Nodup) : (sortI ns).Pairwise (· < ·) := by
  have h1 : (sortI ns).Pairwise fun a b => decide (a ≤ b) = true := List.pairwise_mergeSort (fun a b c h1 h2 => by have := of_decide_eq_true h1; have := of_decide_eq_true h2; exact decide_eq_true (by omega)) (fun a b => by
    rcases Int.le_total a b with h | h <;> simp [h]) ns
  have h2 : (sortI ns).Nodup := (List.mergeSort_perm ns _).nodup_iff.mpr nd
  have h3 := h1.and h2
  exact h3.imp fun ⟨a, b⟩ => by have := of_decide_eq_true a; omega
/-- sorted of items without doubles: any rising list with the same items -/
theorem sortI_eq {ns ms : List Int} (nd : ns.Nodup) (h : ms.Pairwise (· < ·)) (m : ∀ x, x ∈ ns ↔ x ∈ ms) : sortI ns = ms := by
  have nd2 : ms.Nodup := h.imp fun h => Int.ne_of_lt h
  refine lt_unique (((List.mergeSort_perm ns _)).trans ?_) (sortI_lt nd) h
  exact (List.perm_ext_iff_of_nodup nd nd2).mpr m
def tieB (n : Int) (cs : List (Int × Int)) (a b : Int) : Bool := decide ((a, b) ∈ both (linesOf n cs))
/-- the corners that have a line with f, from the one that follows it on -/
def near (n : Int) (cs : List (Int × Int)) (f : Int) : List Int := ((List.range (n.toNat - 1)).filter fun (k : Nat) => tieB n cs f ((f + k + 1) % n)).map fun (k : Nat) => (f + k + 1) % n
def stp (n : Int) (L : List (Int × Int)) (f : Int) : List Int := L.flatMap fun p => (if p.1 = f then [(p.2 - p.1) % n] else []) ++ (if p.2 = f then [(p.1 - p.2) % n] else [])
theorem set_rg {β : Type} (m : Nat) (f : Nat → β) (j : Nat) (y : β) : ((List.range m).map f).set j y = (List.range m).map fun x => if x = j then y else f x := by
  refine List.ext_getElem? fun i => ?_
  rw [List.getElem?_set, List.getElem?_map, List.getElem?_map, List.length_map, List.length_range]
  by_cases h : j = i
  · subst h
    rw [if_pos rfl]
    by_cases h2 : j < m
    · rw [if_pos h2, List.getElem?_range h2]; simp
    · rw [if_neg h2, List.getElem?_eq_none (by simpa using h2)]; rfl
  · rw [if_neg h]
    by_cases h2 : i < m
    · rw [List.getElem?_range h2]
      show some (f i) = some (if i = j then y else f i)
      rw [if_neg fun z => h z.symm]
    · rw [List.getElem?_eq_none (by simpa using h2)]; rfl
section
variable {K : KD} {Kl : KL} {E : KX} {n i j : Int} {cs : List (Int × Int)} {p q : Int × Int}
theorem rg_at {β : Type} {m : Nat} {f : Nat → β} {a : Int} (h0 : 0 ≤ a) (h : a < m) : atI ((List.range m).map f) a = some (f a.toNat) := by
  refine at_nat h0 ?_
  rw [List.getElem?_map, List.getElem?_range (by omega)]; rfl
theorem rg_ixN {m : Nat} {a : Int} (h0 : 0 ≤ a) (h : a < m) : ixN m a = some a.toNat := by
  have := rg_at (β := Nat) (f := fun x => x) h0 h
  unfold atI at this
  obtain ⟨j, h1, h2⟩ := Option.bind_eq_some_iff.mp this
  rw [List.length_map, List.length_range] at h1
  rw [h1]
  rw [List.getElem?_map] at h2
  obtain ⟨k, h3, h4⟩ := Option.map_eq_some_iff.mp h2
  obtain ⟨h5, h6⟩ := List.getElem?_eq_some_iff.mp h3
  rw [List.getElem_range] at h6
  have h4 : k = a.toNat := h4
  congr 1
  omega
theorem row_rg {m : Nat} {f : Nat → List PyData} {a : Int} (h0 : 0 ≤ a) (h : a < m) : rowM ((List.range m).map f) (.int a) Kl = Kl (f a.toNat) := by
  show (match atI _ a with | some l => Kl l | none => False) = _
  rw [rg_at h0 h]
theorem rowApp_rg {m : Nat} {f : Nat → List PyData} {a : Int} {y : PyData} {Kr : List (List PyData) → Prop} (h0 : 0 ≤ a) (h : a < m) (hl : (f a.toNat).length < sizeLine) : rowAppM ((List.range m).map f) (.int a) y Kr = Kr ((List.range m).map fun x => if x = a.toNat then f x ++ [y] else f x) := by
  show (match ixN ((List.range m).map f).length a with | some j => (match ((List.range m).map f)[j]? with | some l => l.length < sizeLine ∧ Kr (((List.range m).map f).set j (l ++ [y])) | none => False) | none => False) = _
  rw [List.length_map, List.length_range, rg_ixN h0 h]
  simp only [List.getElem?_map, List.getElem?_range (show a.toNat < m by omega), Option.map_some]
  rw [set_rg]
  refine Eq.trans (propext (and_iff_right hl)) ?_
  congr 1
  refine List.map_congr_left fun x _ => ?_
  by_cases e : x = a.toNat
  · subst e; simp
  · simp [e]
variable (hp : IsPlan n cs)
include hp
theorem stp_len (L : List (Int × Int)) (f : Int) : (stp n L f).length ≤ 2 * L.length := by
  unfold stp
  induction L with
  | nil => simp
  | cons a L ih =>
    rw [List.flatMap_cons, List.length_append, List.length_append, List.length_cons]
    have e1 : (if a.1 = f then [(a.2 - a.1) % n] else []).length ≤ 1 := by split <;> simp
    have e2 : (if a.2 = f then [(a.1 - a.2) % n] else []).length ≤ 1 := by split <;> simp
    omega
theorem mem_both {L : List (Int × Int)} {a b : Int} : (a, b) ∈ both L ↔ (a, b) ∈ L ∨ (b, a) ∈ L := by
  unfold both
  rw [List.mem_flatMap]
  refine ⟨fun ⟨p, h1, h2⟩ => ?_, fun h => ?_⟩
  · have h2 : (a, b) = p ∨ (a, b) = swp p := by simpa using h2
    rcases h2 with h | h
    · exact .inl (h ▸ h1)
    · have : p = (b, a) := by
        unfold swp at h
        exact Prod.ext (congrArg Prod.snd h).symm (congrArg Prod.fst h).symm
      exact .inr (this ▸ h1)
  · rcases h with h | h
    · exact ⟨_, h, by simp⟩
    · exact ⟨_, h, by simp [swp]⟩
theorem tie_lt {a b : Int} (h : tieB n cs a b = true) : 0 ≤ a ∧ a < n ∧ 0 ≤ b ∧ b < n ∧ a ≠ b := by
  have lok := lines_ok hp
  rcases (mem_both hp).mp (of_decide_eq_true h) with h | h
  · have := lok.lt _ h; simp only at this; omega
  · have := lok.lt _ h; simp only at this; omega
theorem emod_ab {a b : Int} (h1 : 0 ≤ a) (h2 : a < b) (h3 : b < n) : (b - a) % n = b - a ∧ (a - b) % n = a - b + n := by
  refine ⟨Int.emod_eq_of_lt (by omega) (by omega), ?_⟩
  rw [← Int.add_emod_right, Int.emod_eq_of_lt (by omega) (by omega)]
theorem stp_near (f : Nat) (hf : (f : Int) < n) : (sortI (stp n (linesOf n cs) f)).map (fun s => ((f : Int) + s) % n) = near n cs f := by
  have lok := lines_ok hp
  have h3 := hp.lo
  have el : ∀ p ∈ linesOf n cs, ∀ x, x ∈ ((if p.1 = (f : Int) then [(p.2 - p.1) % n] else []) ++ (if p.2 = (f : Int) then [(p.1 - p.2) % n] else [])) ↔ (p.1 = f ∧ x = p.2 - p.1) ∨ (p.2 = f ∧ x = p.1 - p.2 + n) := fun p hm x => by
    have pl := lok.lt p hm
    obtain ⟨e1, e2⟩ := emod_ab hp pl.1 pl.2.1 pl.2.2
    rw [List.mem_append, e1, e2]
    by_cases h1 : p.1 = (f : Int) <;> by_cases h2 : p.2 = (f : Int) <;> simp [h1, h2]
  have nd : (stp n (linesOf n cs) f).Nodup := by
    unfold stp
    refine List.pairwise_flatMap.mpr ⟨fun p hm => ?_, ?_⟩
    · have pl := lok.lt p hm
      by_cases h1 : p.1 = (f : Int)
      · rw [if_pos h1, if_neg (by omega)]; simp
      · rw [if_neg h1]; split <;> simp
    · refine List.Pairwise.imp_of_mem (fun {p q} hm hq hne x hx y hy e => ?_) lok.nd
      subst e
      have pl := lok.lt p hm
      have ql := lok.lt q hq
      have hx := (el p hm x).mp hx
      have hy := (el q hq x).mp hy
      exact hne (Prod.ext (by omega) (by omega))
  have e : sortI (stp n (linesOf n cs) f) = ((List.range (n.toNat - 1)).filter fun (k : Nat) => tieB n cs f (((f : Int) + k + 1) % n)).map fun (k : Nat) => (k : Int) + 1 := by
    refine sortI_eq nd ?_ fun x => ?_
    · refine List.pairwise_map.mpr ((List.pairwise_lt_range.filter _).imp fun h => by omega)
    · unfold stp
      rw [List.mem_flatMap, List.mem_map]
      refine ⟨fun ⟨p, hm, hx⟩ => ?_, fun ⟨k, hk, hx⟩ => ?_⟩
      · have pl := lok.lt p hm
        have hx := (el p hm x).mp hx
        refine ⟨(x - 1).toNat, List.mem_filter.mpr ⟨List.mem_range.mpr (by omega), ?_⟩, by omega⟩
        have ex : ((f : Int) + ((x - 1).toNat : Nat) + 1) = f + x := by omega
        rw [ex]
        unfold tieB
        refine decide_eq_true ((mem_both hp).mpr ?_)
        rcases hx with ⟨h1, h2⟩ | ⟨h1, h2⟩
        · rw [Int.emod_eq_of_lt (by omega) (by omega), show (f : Int) + x = p.2 by omega, ← h1]
          exact .inl hm
        · rw [show (f : Int) + x = p.1 + n by omega, Int.add_emod_right, Int.emod_eq_of_lt (by omega) (by omega), ← h1]
          exact .inr hm
      · obtain ⟨hk1, hk2⟩ := List.mem_filter.mp hk
        have hk1 := List.mem_range.mp hk1
        have hb := (mem_both hp).mp (of_decide_eq_true hk2)
        have eg : ((f : Int) + k + 1) % n = if (f : Int) + k + 1 < n then (f : Int) + k + 1 else (f : Int) + k + 1 - n := by
          split
          · exact Int.emod_eq_of_lt (by omega) (by omega)
          · rw [← Int.sub_emod_right, Int.emod_eq_of_lt (by omega) (by omega)]
        rw [eg] at hb
        rcases hb with hb | hb
        · have pl := lok.lt _ hb
          simp only at pl
          refine ⟨_, hb, (el _ hb x).mpr (.inl ⟨rfl, ?_⟩)⟩
          simp only
          split at pl <;> rename_i h9 <;> simp only [h9, if_true, if_false] <;> omega
        · have pl := lok.lt _ hb
          simp only at pl
          refine ⟨_, hb, (el _ hb x).mpr (.inr ⟨rfl, ?_⟩)⟩
          simp only
          split at pl <;> rename_i h9 <;> simp only [h9, if_true, if_false] <;> omega
  rw [e, List.map_map]
  unfold near
  refine List.map_congr_left fun k _ => ?_
  show ((f : Int) + ((k : Int) + 1)) % n = _
  rw [Int.add_assoc]
theorem e_neighbours : f_neighbours (plD n cs) Kl E = Kl ((List.range n.toNat).map fun (i : Nat) => .list ((near n cs i).map .int)) := by
  have hsl := sizeLine_eq
  have lok := lines_ok hp
  have llen := lines_len hp
  have h3 := hp.lo
  have h40 := hp.hi
  unfold f_neighbours
  simp only [q_add_ii, q_add_ss, q_add_ll, q_add_tt, q_addL, q_sub, q_mul, q_div, q_mod, q_neg, q_bool, q_eq_ii, q_eq_ss, q_eq_bb, q_ne_ii, q_ne_ss, q_ne_bb, q_lt, q_le, q_gt, q_ge, q_un2, q_un3, q_un4, q_intO, q_len_l, q_len_t, q_len_s, q_abs, q_int_i, q_int_b, q_tup_l, q_tup_t, q_list_l, q_list_t, q_min, q_max, q_it_l, q_it_t, q_rng, q_enu_l, q_enu_t, q_rev, q_sl_l, q_sl_t, q_sl_s, q_slL, q_all, q_any, q_sum, q_sort_pp, q_and, q_or, q_ite, q_join, cond_true, cond_false, true_and, and_true, decide_eq_true_eq, decide_true, decide_false, p_un_pl, p_ix_pl0, p_ix_pl1, p_un_pp, p_ix_pp0, p_ix_pp1, p_mk, p_eq, p_ne, p_in, p_notIn, p_lt, e_all_lines' hp, range0]
  refine Eq.trans (propext (and_iff_right (by omega))) ?_
  have base : List.replicate ((List.range n.toNat).map fun (i : Nat) => PyData.int i).length ([] : List PyData) = (fun i => (List.range n.toNat).map fun (f : Nat) => (stp n ((linesOf n cs).take i) f).map PyData.int) 0 := by
    refine List.ext_getElem? fun i => ?_
    rw [List.length_map, List.length_range]
    by_cases h : i < n.toNat
    · rw [List.getElem?_replicate, if_pos h, List.getElem?_map, List.getElem?_range h]; rfl
    · rw [List.getElem?_replicate, if_neg h, List.getElem?_eq_none (by simpa using h)]
  rw [base, q_for_seq (linesOf n cs) ppD (fun i => (List.range n.toNat).map fun (f : Nat) => (stp n ((linesOf n cs).take i) f).map PyData.int) fun i p hp1 N => ?_]
  · simp only [q_add_ii, q_add_ss, q_add_ll, q_add_tt, q_addL, q_sub, q_mul, q_div, q_mod, q_neg, q_bool, q_eq_ii, q_eq_ss, q_eq_bb, q_ne_ii, q_ne_ss, q_ne_bb, q_lt, q_le, q_gt, q_ge, q_un2, q_un3, q_un4, q_intO, q_len_l, q_len_t, q_len_s, q_abs, q_int_i, q_int_b, q_tup_l, q_tup_t, q_list_l, q_list_t, q_min, q_max, q_it_l, q_it_t, q_rng, q_enu_l, q_enu_t, q_rev, q_sl_l, q_sl_t, q_sl_s, q_slL, q_all, q_any, q_sum, q_sort_pp, q_and, q_or, q_ite, q_join, cond_true, cond_false, true_and, and_true, decide_eq_true_eq, decide_true, decide_false, p_un_pl, p_ix_pl0, p_ix_pl1, p_un_pp, p_ix_pp0, p_ix_pp1, p_mk, p_eq, p_ne, p_in, p_notIn, p_lt, List.take_length]
    refine Eq.trans (propext (and_iff_right (by omega))) ?_
    rw [q_lc_map _ _ (fun (i : Nat) => PyData.list ((near n cs i).map .int)) fun f hf k s => ?_]
    · rfl
    · have hf := List.mem_range.mp hf
      rw [row_rg (by omega) (by omega), Int.toNat_natCast, q_sort_ints]
      rw [q_lc_map _ _ (fun s => PyData.int (((f : Int) + s) % n)) fun s _ k s => by simp only [q_add_ii, q_add_ss, q_add_ll, q_add_tt, q_addL, q_sub, q_mul, q_div, q_mod, q_neg, q_bool, q_eq_ii, q_eq_ss, q_eq_bb, q_ne_ii, q_ne_ss, q_ne_bb, q_lt, q_le, q_gt, q_ge, q_un2, q_un3, q_un4, q_intO, q_len_l, q_len_t, q_len_s, q_abs, q_int_i, q_int_b, q_tup_l, q_tup_t, q_list_l, q_list_t, q_min, q_max, q_it_l, q_it_t, q_rng, q_enu_l, q_enu_t, q_rev, q_sl_l, q_sl_t, q_sl_s, q_slL, q_all, q_any, q_sum, q_sort_pp, q_and, q_or, q_ite, q_join, cond_true, cond_false, true_and, and_true, decide_eq_true_eq, decide_true, decide_false, p_un_pl, p_ix_pl0, p_ix_pl1, p_un_pp, p_ix_pp0, p_ix_pp1, p_mk, p_eq, p_ne, p_in, p_notIn, p_lt, show 0 < n by omega]]
      rw [List.nil_append, ← stp_near hp f (by omega), List.map_map]
      rfl
  · have hi := (List.getElem?_eq_some_iff.mp hp1).1
    have pl := lok.lt p (List.mem_of_getElem? hp1)
    have b1 : ∀ f : Int, (stp n ((linesOf n cs).take i) f).length ≤ 2 * i := fun f => by
      have := stp_len hp ((linesOf n cs).take i) f
      rw [List.length_take] at this
      omega
    have c1 := b1 p.1
    have c2 := b1 p.2
    simp only [q_add_ii, q_add_ss, q_add_ll, q_add_tt, q_addL, q_sub, q_mul, q_div, q_mod, q_neg, q_bool, q_eq_ii, q_eq_ss, q_eq_bb, q_ne_ii, q_ne_ss, q_ne_bb, q_lt, q_le, q_gt, q_ge, q_un2, q_un3, q_un4, q_intO, q_len_l, q_len_t, q_len_s, q_abs, q_int_i, q_int_b, q_tup_l, q_tup_t, q_list_l, q_list_t, q_min, q_max, q_it_l, q_it_t, q_rng, q_enu_l, q_enu_t, q_rev, q_sl_l, q_sl_t, q_sl_s, q_slL, q_all, q_any, q_sum, q_sort_pp, q_and, q_or, q_ite, q_join, cond_true, cond_false, true_and, and_true, decide_eq_true_eq, decide_true, decide_false, p_un_pl, p_ix_pl0, p_ix_pl1, p_un_pp, p_ix_pp0, p_ix_pp1, p_mk, p_eq, p_ne, p_in, p_notIn, p_lt, show 0 < n by omega]
    rw [row_rg (by omega) (by omega), rowApp_rg (by omega) (by omega) (by rw [List.length_map, show ((p.1.toNat : Nat) : Int) = p.1 by omega]; omega)]
    have ne : p.2.toNat ≠ p.1.toNat := by omega
    rw [row_rg (by omega) (by omega), rowApp_rg (by omega) (by omega) (by
      rw [if_neg ne, List.length_map, show ((p.2.toNat : Nat) : Int) = p.2 by omega]; omega)]
    refine congrArg N (List.map_congr_left fun x hx => ?_)
    have et : stp n ((linesOf n cs).take (i + 1)) x = stp n ((linesOf n cs).take i) x ++ ((if p.1 = (x : Int) then [(p.2 - p.1) % n] else []) ++ (if p.2 = (x : Int) then [(p.1 - p.2) % n] else [])) := by
      unfold stp
      rw [List.take_succ, hp1, List.flatMap_append]
      simp
    rw [et, List.map_append]
    by_cases h1 : x = p.1.toNat
    · have h2 : x ≠ p.2.toNat := by omega
      rw [if_neg h2, if_pos h1, if_pos (by omega), if_neg (by omega)]
      simp
    · rw [if_neg h1, if_neg (show ¬ p.1 = (x : Int) by omega)]
      by_cases h2 : x = p.2.toNat
      · rw [if_pos h2, if_pos (by omega)]; simp
      · rw [if_neg h2, if_neg (by omega)]; simp
end
end Tx
namespace Tx
open PySem PySem.Spec PyProof.Rows L2 TL
@[irreducible] def f__law_spot (l_plan_here : PyData) (K : KD) (E : KX) : Prop :=
  f__law_spots l_plan_here (fun r1 =>
  lenM (.list r1) fun r2 =>
  f__law_pull r2 (fun r3 =>
  ixM (.list r1) r3 fun r4 =>
  K r4) E) E
def c__law_spot : CT := fun args Φ Ψ => ∃ (a_l_bag_here : Addr) (l_plan_here : PyData) (K : KD) (E : KX), args = [.bg a_l_bag_here, .d l_plan_here] ∧ f__law_spot l_plan_here K E ∧ (∀ r, K r → Φ (.rd r) args) ∧ ∀ c, E c → Ψ c args
section
variable {K : KD} {Kl : KL} {E : KX} {Kb : KB} {n i j : Int} {cs : List (Int × Int)} {p q : Int × Int}
theorem q_ixr {m : Nat} {f : Nat → PyData} {a : Int} (h0 : 0 ≤ a) (h : a < m) : ixM (.list ((List.range m).map f)) (.int a) K = K (f a.toNat) := by
  show (match atI ((List.range m).map f) a with | some y => K y | none => False) = _
  rw [rg_at h0 h]
theorem q_inT : inTM (tied (linesOf n cs)) (ppD p) Kb = Kb (tieB n cs p.1 p.2) := by
  show Kb (valP (tied (linesOf n cs)) (keyP p)).isSome = _
  refine congrArg Kb ?_
  unfold valP tied tieB
  generalize both (linesOf n cs) = L
  induction L with
  | nil => simp
  | cons a L ih =>
    rw [List.map_cons, List.find?_cons]
    by_cases e : a = p
    · subst e; simp
    · have : ¬ keyP a = keyP p := fun z => e (keyP_inj z)
      simp only [this, decide_false]
      rw [ih]
      have e' : ¬ (p.1, p.2) = a := fun z => e z.symm
      simp [e']
variable (hp : IsPlan n cs)
include hp
theorem mem_near {a b : Int} (h : tieB n cs a b = true) : b ∈ near n cs a := by
  obtain ⟨h1, h2, h3, h4, h5⟩ := tie_lt hp h
  unfold near
  have eg : ∃ k : Nat, k < n.toNat - 1 ∧ (a + k + 1) % n = b := by
    by_cases hab : a < b
    · exact ⟨(b - a - 1).toNat, by omega, by rw [show a + ((b - a - 1).toNat : Nat) + 1 = b by omega]; exact Int.emod_eq_of_lt h3 h4⟩
    · exact ⟨(b - a - 1 + n).toNat, by omega, by rw [show a + ((b - a - 1 + n).toNat : Nat) + 1 = b + n by omega, Int.add_emod_right]; exact Int.emod_eq_of_lt h3 h4⟩
  obtain ⟨k, k1, k2⟩ := eg
  exact List.mem_map.mpr ⟨k, List.mem_filter.mpr ⟨List.mem_range.mpr k1, by rw [k2]; exact h⟩, k2⟩
theorem i__law_spot (hK : ∀ p, p ∈ both (linesOf n cs) → K (ppD p)) : f__law_spot (plD n cs) K E := by
  unfold f__law_spot
  have hl := spots_len hp
  have h3 := hp.lo
  have h40 := hp.hi
  simp only [q_add_ii, q_add_ss, q_add_ll, q_add_tt, q_addL, q_sub, q_mul, q_div, q_mod, q_neg, q_bool, q_eq_ii, q_eq_ss, q_eq_bb, q_ne_ii, q_ne_ss, q_ne_bb, q_lt, q_le, q_gt, q_ge, q_un2, q_un3, q_un4, q_intO, q_len_l, q_len_t, q_len_s, q_abs, q_int_i, q_int_b, q_tup_l, q_tup_t, q_list_l, q_list_t, q_min, q_max, q_it_l, q_it_t, q_rng, q_enu_l, q_enu_t, q_rev, q_sl_l, q_sl_t, q_sl_s, q_slL, q_all, q_any, q_sum, q_sort_pp, q_and, q_or, q_ite, q_join, cond_true, cond_false, true_and, and_true, decide_eq_true_eq, decide_true, decide_false, p_un_pl, p_ix_pl0, p_ix_pl1, p_un_pp, p_ix_pp0, p_ix_pp1, p_mk, p_eq, p_ne, p_in, p_notIn, p_lt, e__law_spots hp, List.length_map]
  rw [e__law_pull (by omega) (by omega)]
  intro r r0 r1
  obtain ⟨x, hx⟩ : ∃ x, (spots n cs)[r.toNat]? = some x := ⟨_, List.getElem?_eq_getElem (show r.toNat < (spots n cs).length by omega)⟩
  show (match atI ((spots n cs).map ppD) r with | some y => K y | none => False)
  rw [at_nat r0 (by rw [List.getElem?_map, hx]; rfl)]
  exact hK x ((sortPP_perm _).mem_iff.mp (List.mem_of_getElem? hx))
end
end Tx
namespace Tx
open PySem PySem.Spec PyProof.Rows L2 TL
theorem Arcs.fill {s e : Int} {l : List (Int × Int)} (h : Arcs s e l) : ∀ p ∈ (s, e) :: l, 1 < p.2 - p.1 → ∃ m, p.1 < m ∧ m < p.2 ∧ (p.1, m) ∈ (s, e) :: l ∧ (m, p.2) ∈ (s, e) :: l := by
  induction h with
  | leaf h =>
    intro p hp hw
    have := List.mem_singleton.mp hp
    subst this
    simp only at hw; omega
  | @node s m e a b h1 h2 _ _ ia ib =>
    intro p hp hw
    have la : ∀ q, q ∈ (s, m) :: a → q ∈ (s, e) :: (s, m) :: (m, e) :: (a ++ b) := fun q hq => by
      rcases List.mem_cons.mp hq with rfl | hq <;> simp [*]
    have lb : ∀ q, q ∈ (m, e) :: b → q ∈ (s, e) :: (s, m) :: (m, e) :: (a ++ b) := fun q hq => by
      rcases List.mem_cons.mp hq with rfl | hq <;> simp [*]
    have go : p = (s, e) ∨ p ∈ (s, m) :: a ∨ p ∈ (m, e) :: b := by
      simp only [List.mem_cons, List.mem_append] at hp ⊢
      rcases hp with h | h | h | h | h <;> simp [h]
    rcases go with rfl | hq | hq
    · exact ⟨m, h1, h2, la _ (List.mem_cons_self ..), lb _ (List.mem_cons_self ..)⟩
    · obtain ⟨k, k1, k2, k3, k4⟩ := ia p hq hw
      exact ⟨k, k1, k2, la _ k3, la _ k4⟩
    · obtain ⟨k, k1, k2, k3, k4⟩ := ib p hq hw
      exact ⟨k, k1, k2, lb _ k3, lb _ k4⟩
theorem Arcs.unit {s e : Int} {l : List (Int × Int)} (h : Arcs s e l) (hs : s < e) : ∀ x, s ≤ x → x < e → (x, x + 1) ∈ (s, e) :: l := by
  induction h with
  | @leaf s e h =>
    intro x h1 h2
    rw [show x = s by omega, show s + 1 = e by omega]
    exact List.mem_cons_self ..
  | @node s m e a b h1 h2 _ _ ia ib =>
    intro x x1 x2
    by_cases hx : x < m
    · have := ia h1 x x1 hx
      simp only [List.mem_cons, List.mem_append] at this ⊢
      rcases this with h | h <;> simp [h]
    · have := ib h2 x (by omega) x2
      simp only [List.mem_cons, List.mem_append] at this ⊢
      rcases this with h | h <;> simp [h]
theorem mem_lines {n : Int} {cs : List (Int × Int)} {p : Int × Int} (h : 3 ≤ n) : p ∈ linesOf n cs ↔ (0 ≤ p.1 ∧ p.2 = p.1 + 1 ∧ p.2 < n) ∨ p = (0, n - 1) ∨ p ∈ cs := by
  unfold linesOf
  rw [(sortPP_perm _).mem_iff, List.mem_append]
  unfold sides
  rw [List.mem_append, List.mem_map, List.mem_singleton]
  refine ⟨fun z => ?_, fun z => ?_⟩
  · rcases z with (⟨i, hi, rfl⟩ | z) | z
    · have := List.mem_range.mp hi
      exact .inl ⟨by simp, rfl, by simp only; omega⟩
    · exact .inr (.inl z)
    · exact .inr (.inr z)
  · rcases z with ⟨z1, z2, z3⟩ | z | z
    · exact .inl (.inl ⟨p.1.toNat, List.mem_range.mpr (by omega), Prod.ext (by simp only; omega) (by simp only; omega)⟩)
    · exact .inl (.inr z)
    · exact .inr z
section
variable {n : Int} {l : List (Int × Int)}
theorem mem_plan {c : Int × Int} : c ∈ planOf n l ↔ ∃ p ∈ l, wide p = true ∧ nrm n p = c := by
  unfold planOf
  rw [(sortPP_perm _).mem_iff, List.mem_map]
  refine ⟨fun ⟨p, h1, h2⟩ => ⟨p, (List.mem_filter.mp h1).1, (List.mem_filter.mp h1).2, h2⟩, fun ⟨p, h1, h2, h3⟩ => ⟨p, List.mem_filter.mpr ⟨h1, h2⟩, h3⟩⟩
theorem nrm_in {p : Int × Int} (h1 : 1 ≤ p.1) (h2 : p.1 < p.2) (h3 : p.2 < n) : nrm n p = p := by
  unfold nrm
  rw [Int.emod_eq_of_lt (by omega) (by omega), if_neg (by omega), if_pos (by omega)]
theorem nrm_top {p : Int × Int} (h1 : 1 ≤ p.1) (h3 : p.2 = n) : nrm n p = (0, p.1) := by
  unfold nrm
  rw [h3, Int.emod_self, if_pos (by omega), if_neg (by omega)]
/-- lines of a drawn plan: the arcs, n read as 0 -/
theorem tie_arc (h3 : 3 ≤ n) (h : Arcs 1 n l) {x y : Int} (hx : 1 ≤ x) (hy : x < y) (hn : y ≤ n) : tieB n (planOf n l) x (y % n) = true ↔ (x, y) ∈ (1, n) :: l := by
  have hn1 : (1 : Int) < n := by omega
  have hw := h.within hn1
  have hu := h.unit hn1
  unfold tieB
  rw [decide_eq_true_iff]
  have mb : ∀ a b : Int, (a, b) ∈ both (linesOf n (planOf n l)) ↔ (a, b) ∈ linesOf n (planOf n l) ∨ (b, a) ∈ linesOf n (planOf n l) := fun a b => by
    unfold both
    rw [List.mem_flatMap]
    refine ⟨fun ⟨p, q1, q2⟩ => ?_, fun q => ?_⟩
    · have q2 : (a, b) = p ∨ (a, b) = swp p := by simpa using q2
      rcases q2 with z | z
      · exact .inl (z ▸ q1)
      · have : p = (b, a) := by
          unfold swp at z
          exact Prod.ext (congrArg Prod.snd z).symm (congrArg Prod.fst z).symm
        exact .inr (this ▸ q1)
    · rcases q with z | z
      · exact ⟨_, z, by simp⟩
      · exact ⟨_, z, by simp [swp]⟩
  rw [mb, mem_lines h3, mem_lines h3, mem_plan, mem_plan]
  by_cases e : y = n
  · subst e
    rw [Int.emod_self]
    refine ⟨fun z => ?_, fun z => ?_⟩
    · rcases z with (⟨z1, z2, z3⟩ | z | ⟨p, p1, p2, p3⟩) | (⟨z1, z2, z3⟩ | z | ⟨p, p1, p2, p3⟩)
      · simp only at z2; omega
      · have := congrArg Prod.fst z; simp only at this; omega
      · have w := hw p p1
        by_cases pe : p.2 = y
        · rw [nrm_top (by omega) pe] at p3
          have := congrArg Prod.fst p3; simp only at this; omega
        · rw [nrm_in (by omega) (by omega) (by omega)] at p3
          have := congrArg Prod.snd p3; simp only at this; omega
      · simp only at z2
        rw [show x = 1 by omega]
        exact List.mem_cons_self ..
      · have := congrArg Prod.snd z
        simp only at this
        have q := hu x hx hy
        rwa [show x + 1 = y by omega] at q
      · have w := hw p p1
        by_cases pe : p.2 = y
        · rw [nrm_top (by omega) pe] at p3
          have := congrArg Prod.snd p3
          simp only at this
          rw [show (x, y) = p from Prod.ext this.symm pe.symm]
          exact List.mem_cons_of_mem _ p1
        · rw [nrm_in (by omega) (by omega) (by omega)] at p3
          have := congrArg Prod.fst p3; simp only at this; omega
    · right
      rcases List.mem_cons.mp z with z | z
      · have := congrArg Prod.fst z
        simp only at this
        exact .inl ⟨Int.le_refl _, by simp only; omega, by simp only; omega⟩
      · have w := hw _ z
        simp only at w
        by_cases wd : y - x > 1
        · exact .inr (.inr ⟨_, z, decide_eq_true wd, nrm_top hx rfl⟩)
        · exact .inr (.inl (Prod.ext rfl (by simp only; omega)))
  · rw [Int.emod_eq_of_lt (by omega) (by omega)]
    refine ⟨fun z => ?_, fun z => ?_⟩
    · rcases z with (⟨z1, z2, z3⟩ | z | ⟨p, p1, p2, p3⟩) | (⟨z1, z2, z3⟩ | z | ⟨p, p1, p2, p3⟩)
      · simp only at z2
        rw [z2]
        exact hu x hx (by omega)
      · have := congrArg Prod.fst z; simp only at this; omega
      · have w := hw p p1
        by_cases pe : p.2 = n
        · rw [nrm_top (by omega) pe] at p3
          have := congrArg Prod.fst p3; simp only at this; omega
        · rw [nrm_in (by omega) (by omega) (by omega)] at p3
          rw [← p3]
          exact List.mem_cons_of_mem _ p1
      · simp only at z2; omega
      · have := congrArg Prod.fst z; simp only at this; omega
      · have w := hw p p1
        by_cases pe : p.2 = n
        · rw [nrm_top (by omega) pe] at p3
          have := congrArg Prod.fst p3; simp only at this; omega
        · rw [nrm_in (by omega) (by omega) (by omega)] at p3
          have a1 := congrArg Prod.fst p3
          have a2 := congrArg Prod.snd p3
          simp only at a1 a2; omega
    · left
      rcases List.mem_cons.mp z with z | z
      · have := congrArg Prod.snd z; simp only at this; omega
      · have w := hw _ z
        simp only at w
        by_cases wd : y - x > 1
        · exact .inr (.inr ⟨_, z, decide_eq_true wd, nrm_in hx hy (by simp only; omega)⟩)
        · exact .inl ⟨by simp only; omega, by simp only; omega, by simp only; omega⟩
theorem tie_sym {cs : List (Int × Int)} {a b : Int} : tieB n cs a b = tieB n cs b a := by
  unfold tieB
  refine decide_eq_decide.mpr ?_
  unfold both
  simp only [List.mem_flatMap, List.mem_cons, List.not_mem_nil, or_false]
  have go : ∀ a b : Int, (∃ p, p ∈ linesOf n cs ∧ ((a, b) = p ∨ (a, b) = swp p)) → ∃ p, p ∈ linesOf n cs ∧ ((b, a) = p ∨ (b, a) = swp p) := fun a b ⟨p, h1, h2⟩ => by
    refine ⟨p, h1, ?_⟩
    rcases h2 with h | h
    · right; rw [← h]; rfl
    · left; unfold swp at h; exact Prod.ext (congrArg Prod.snd h) (congrArg Prod.fst h)
  exact ⟨go a b, go b a⟩
/-- the first corner between s and e (counted from s + 1 on) that has a line with both -/
def corJ (n : Int) (cs : List (Int × Int)) (s e : Int) : Option Nat := (List.range (e - s - 1).toNat).find? fun (j : Nat) => tieB n cs s (s + j + 1) && tieB n cs (s + j + 1) (e % n)
theorem corJ_some (h3 : 3 ≤ n) (h : Arcs 1 n l) {s e : Int} (ha : (s, e) ∈ (1, n) :: l) (hw : 1 < e - s) : ∃ j : Nat, corJ n (planOf n l) s e = some j ∧ (j : Int) + 1 < e - s ∧ (s, s + j + 1) ∈ (1, n) :: l ∧ (s + j + 1, e) ∈ (1, n) :: l := by
  have hb : 1 ≤ s ∧ s < e ∧ e ≤ n := by
    rcases List.mem_cons.mp ha with z | z
    · have a1 := congrArg Prod.fst z
      have a2 := congrArg Prod.snd z
      simp only at a1 a2; omega
    · have := h.within (by omega) _ z; simp only at this; omega
  obtain ⟨m, m1, m2, m3, m4⟩ := h.fill _ ha hw
  simp only at m1 m2 m3 m4
  have key : ∀ j : Nat, (j : Int) + 1 < e - s → ((tieB n (planOf n l) s (s + j + 1) && tieB n (planOf n l) (s + j + 1) (e % n)) = true ↔ (s, s + j + 1) ∈ (1, n) :: l ∧ (s + j + 1, e) ∈ (1, n) :: l) := fun j hj => by
    rw [Bool.and_eq_true_iff, ← tie_arc h3 h (x := s) (y := s + j + 1) (by omega) (by omega) (by omega), ← tie_arc h3 h (x := s + j + 1) (y := e) (by omega) (by omega) (by omega), Int.emod_eq_of_lt (a := s + (j : Int) + 1) (by omega) (by omega)]
  cases e0 : corJ n (planOf n l) s e with
  | none =>
    unfold corJ at e0
    have := List.find?_eq_none.mp e0 (m - s - 1).toNat (List.mem_range.mpr (by omega))
    refine absurd ((key _ (by omega)).mpr ?_) this
    rw [show s + ((m - s - 1).toNat : Int) + 1 = m by omega]
    exact ⟨m3, m4⟩
  | some j =>
    unfold corJ at e0
    have h1 := List.find?_some e0
    have h2 := List.mem_range.mp (List.mem_of_find?_eq_some e0)
    exact ⟨j, rfl, by omega, (key j (by omega)).mp h1⟩
end
end Tx
namespace Tx
open PySem PySem.Spec PyProof.Rows L2 TL
@[irreducible] def f_between (faces : PyData) (start : PyData) (corner : PyData) (end_ : PyData) (K : KD) (E : KX) : Prop :=
  subM corner start fun r1 =>
  modM r1 faces fun r2 =>
  andM (fun Q => ltM (.int 0) r2 Q) (fun Q => subM end_ start fun r5 =>
  modM r5 faces fun r6 =>
  ltM r2 r6 Q) fun b3 =>
  K (.bool b3)
def c_between : CT := fun args Φ Ψ => ∃ (faces : PyData) (start : PyData) (corner : PyData) (end_ : PyData) (K : KD) (E : KX), args = [.d faces, .d start, .d corner, .d end_] ∧ f_between faces start corner end_ K E ∧ (∀ r, K r → Φ (.rd r) args) ∧ ∀ c, E c → Ψ c args
@[irreducible] def f__law_going (l_faces : PyData) (l_start : PyData) (l_end : PyData) (K : KL) (E : KX) : Prop :=
  addM l_start (.int 1) fun r2 =>
  modM r2 l_faces fun r3 =>
  ∃ n : Nat, whileM (fun (s : (List PyData) × PyData) N7 B8 => match s with
  | (l_found9, l_here10) => neM l_here10 l_end fun b12 =>
  (b12 = true → (l_found9.length < sizeLine ∧ (addM l_here10 (.int 1) fun r15 =>
  modM r15 l_faces fun r16 =>
  N7 ((l_found9 ++ ([l_here10] : List PyData)), r16)))) ∧ (b12 = false → B8 (l_found9, l_here10))) (fun (s : (List PyData) × PyData) =>
  match s with
  | (l_found4, l_here5) => K l_found4) n ([], r3)
def c__law_going : CT := fun args Φ Ψ => ∃ (l_faces : PyData) (l_start : PyData) (l_end : PyData) (K : KL) (E : KX), args = [.d l_faces, .d l_start, .d l_end] ∧ f__law_going l_faces l_start l_end K E ∧ (∀ r, K r → Φ (.nl r) args) ∧ ∀ c, E c → Ψ c args
section
variable {K : KD} {Kl : KL} {Kb : KB} {E : KX} {n i j : Int} {l cs : List (Int × Int)} {p q : Int × Int}
theorem q_for_find {α : Type} {bd : PyData → Unit → (Unit → Prop) → (Unit → Prop) → Prop} {K : Unit → Prop} (L : List α) (d : α → PyData) (p : α → Bool) (R : α → Prop) (h : ∀ a ∈ L, ∀ (N : Unit → Prop), bd (d a) () N K = cond (p a) (R a) (N ())) : forM bd K (L.map d) () = (match L.find? p with | some a => R a | none => K ()) := by
  induction L with
  | nil => rfl
  | cons a L ih =>
    show bd (d a) () _ K = _
    rw [h a (List.mem_cons_self ..), List.find?_cons]
    cases p a with
    | true => rfl
    | false => exact ih fun b hb => h b (List.mem_cons_of_mem _ hb)
theorem q_in_ints {L : List Int} : inM (.int i) (.list (L.map .int)) Kb = Kb (decide (i ∈ L)) := by
  show inLstM (.int i) (L.map .int) Kb = _
  have e : flAll (L.map PyData.int) = some (L.map V.int) := by
    induction L with
    | nil => rfl
    | cons a L ih =>
      show (match fl (.int a), flAll (L.map PyData.int) with | some v, some l => some (v :: l) | _, _ => none) = _
      rw [ih]; rfl
  unfold inLstM
  rw [e]
  show Kb (inV (.int i) (L.map V.int)) = _
  rw [inV_ints]
theorem find_fil {α : Type} {L : List α} {f p : α → Bool} : (L.filter f).find? p = L.find? fun a => f a && p a := by
  induction L with
  | nil => rfl
  | cons a L ih =>
    rw [List.filter_cons, List.find?_cons]
    cases e : f a with
    | true =>
      rw [if_pos rfl, List.find?_cons, ih, Bool.true_and]
    | false =>
      rw [if_neg (by decide), ih, Bool.false_and]
theorem find_congr {α : Type} {L : List α} {P Q : α → Bool} (h : ∀ a ∈ L, P a = Q a) : L.find? P = L.find? Q := by
  induction L with
  | nil => rfl
  | cons a L ih =>
    rw [List.find?_cons, List.find?_cons, h a (List.mem_cons_self ..), ih fun b hb => h b (List.mem_cons_of_mem _ hb)]
theorem find_range {P Q : Nat → Bool} (b d : Nat) (h1 : ∀ k, k < b → P k = Q k) (h2 : ∀ k, b ≤ k → k < b + d → P k = false) : (List.range (b + d)).find? P = (List.range b).find? Q := by
  induction d with
  | zero => exact find_congr fun k hk => h1 k (List.mem_range.mp hk)
  | succ d ih =>
    rw [show b + (d + 1) = (b + d) + 1 by omega, List.range_succ, List.find?_append, ih fun k k1 k2 => h2 k k1 (by omega), List.find?_cons, h2 (b + d) (by omega) (by omega), List.find?_nil, Option.or_none]
/-- how the leaves of an arc lie -/
def ordA (n : Int) (cs : List (Int × Int)) : Nat → Int → Int → Bool → List Int
  | 0, _, _, _ => []
  | f + 1, s, e, x => if e - s = 1 then [s] else match corJ n cs s e with
    | some j => if x then ordA n cs f (s + j + 1) e (!x) ++ ordA n cs f s (s + j + 1) (!x) else ordA n cs f s (s + j + 1) (!x) ++ ordA n cs f (s + j + 1) e (!x)
    | none => []
variable (hp : IsPlan n cs)
include hp
theorem near_mem {a b : Int} (ha : 0 ≤ a) (ha2 : a < n) : b ∈ near n cs a ↔ tieB n cs a b = true := by
  refine ⟨fun z => ?_, mem_near hp⟩
  unfold near at z
  obtain ⟨k, k1, k2⟩ := List.mem_map.mp z
  have := (List.mem_filter.mp k1).2
  rw [k2] at this
  exact this
theorem e_between {a b c : Int} : f_between (.int n) (.int a) (.int b) (.int c) K E = K (.bool (decide (0 < (b - a) % n) && decide ((b - a) % n < (c - a) % n))) := by
  have h3 := hp.lo
  unfold f_between
  simp only [q_add_ii, q_add_ss, q_add_ll, q_add_tt, q_addL, q_sub, q_mul, q_div, q_mod, q_neg, q_bool, q_eq_ii, q_eq_ss, q_eq_bb, q_ne_ii, q_ne_ss, q_ne_bb, q_lt, q_le, q_gt, q_ge, q_un2, q_un3, q_un4, q_intO, q_len_l, q_len_t, q_len_s, q_abs, q_int_i, q_int_b, q_tup_l, q_tup_t, q_list_l, q_list_t, q_min, q_max, q_it_l, q_it_t, q_rng, q_enu_l, q_enu_t, q_rev, q_sl_l, q_sl_t, q_sl_s, q_slL, q_all, q_any, q_sum, q_sort_pp, q_and, q_or, q_ite, q_join, cond_true, cond_false, true_and, and_true, decide_eq_true_eq, decide_true, decide_false, p_un_pl, p_ix_pl0, p_ix_pl1, p_un_pp, p_ix_pp0, p_ix_pp1, p_mk, p_eq, p_ne, p_in, p_notIn, p_lt, show 0 < n by omega]
omit hp in
theorem while_seq2 {τ : Type} {st : τ → (τ → Prop) → (τ → Prop) → Prop} {K : τ → Prop} (k : Nat) (S : Nat → τ) (h : ∀ i < k, ∀ N : τ → Prop, N (S (i + 1)) → st (S i) N K) (hend : ∀ N : τ → Prop, st (S k) N K) : ∃ n, whileM st K n (S 0) := by
  refine ⟨k + 1, ?_⟩
  have go : ∀ d i, i + d = k → whileM st K (d + 1) (S i) := by
    intro d
    induction d with
    | zero => intro i e; rw [show i = k by omega]; exact hend _
    | succ d ih => intro i e; exact h i (by omega) _ (ih (i + 1) (by omega))
  exact go k 0 (by omega)
end
section
variable (h3 : 3 ≤ n) (h40 : n ≤ 40) (h : Arcs 1 n l)
include h3 h40 h
def ordP (n : Int) (l : List (Int × Int)) : List Int := 0 :: ordA n (planOf n l) 64 1 n false
end
end Tx
namespace Tx
open PySem PySem.Spec PyProof.Rows L2 TL
section
variable {K : KD} {Kl : KL} {E : KX} {n i j : Int} {cs : List (Int × Int)} {p q : Int × Int}
def wrF : Nat → Nat → Int → List (List (Int × Int))
  | 0, _, _ => [[]]
  | f + 1, w, s => if w ≤ 1 then [[]] else (List.range (w - 1)).flatMap fun j => (wrF f (1 + j) s).flatMap fun a => (wrF f (w - 1 - j) (s + 1 + (j : Int))).map fun b => a ++ b ++ [(s, s + 1 + (j : Int)), (s + 1 + (j : Int), s + (w : Int))]
theorem wrF_eq : ∀ f g w s, w ≤ f → w ≤ g → wrF f w s = wrF g w s := by
  intro f
  induction f with
  | zero =>
    intro g w s h1 h2
    cases g with
    | zero => rfl
    | succ g => unfold wrF; rw [if_pos (by omega)]
  | succ f ih =>
    intro g w s h1 h2
    cases g with
    | zero => unfold wrF; rw [if_pos (by omega)]
    | succ g =>
      unfold wrF
      by_cases h : w ≤ 1
      · rw [if_pos h, if_pos h]
      · rw [if_neg h, if_neg h]
        refine congrArg List.flatten (List.map_congr_left fun j hj => ?_)
        have hj := List.mem_range.mp hj
        rw [ih g (1 + j) s (by omega) (by omega), ih g (w - 1 - j) _ (by omega) (by omega)]
def wr (w : Nat) (s : Int) : List (List (Int × Int)) := wrF w w s
theorem wr_step {w : Nat} (h : 2 ≤ w) (s : Int) : wr w s = (List.range (w - 1)).flatMap fun j => (wr (1 + j) s).flatMap fun a => (wr (w - 1 - j) (s + 1 + (j : Int))).map fun b => a ++ b ++ [(s, s + 1 + (j : Int)), (s + 1 + (j : Int), s + (w : Int))] := by
  unfold wr
  obtain ⟨f, rfl⟩ : ∃ f, w = f + 1 := ⟨w - 1, by omega⟩
  conv => lhs; unfold wrF
  rw [if_neg (by omega)]
  refine congrArg List.flatten (List.map_congr_left fun j hj => ?_)
  have hj := List.mem_range.mp hj
  rw [wrF_eq f (1 + j) (1 + j) s (by omega) (by omega), wrF_eq f (f + 1 - 1 - j) (f + 1 - 1 - j) _ (by omega) (by omega)]
theorem valP_put {κ : Type} [DecidableEq κ] {kvs : List (κ × PyData)} {k k' : κ} {d : PyData} : valP (putP kvs k d) k' = if k' = k then some d else valP kvs k' := by
  unfold putP valP
  by_cases h : (kvs.any fun kv => decide (kv.1 = k)) = true
  · rw [if_pos h]
    induction kvs with
    | nil => simp at h
    | cons kv r ih =>
      rw [List.map_cons]
      by_cases e : kv.1 = k
      · rw [if_pos e]
        by_cases e2 : k' = k
        · subst e2; simp [List.find?_cons, e]
        · rw [if_neg e2]
          have ne : ¬ kv.1 = k' := fun z => e2 (z ▸ e)
          simp only [List.find?_cons, ne, decide_false]
          clear ih h
          induction r with
          | nil => rfl
          | cons kv2 r ih2 =>
            rw [List.map_cons]
            by_cases e3 : kv2.1 = k
            · rw [if_pos e3]
              have ne : ¬ kv2.1 = k' := fun z => e2 (z ▸ e3)
              simp only [List.find?_cons, ne, decide_false]
              exact ih2
            · rw [if_neg e3]
              by_cases e4 : kv2.1 = k'
              · simp [List.find?_cons, e4]
              · simp only [List.find?_cons, e4, decide_false]
                exact ih2
      · rw [if_neg e]
        have h' : (r.any fun kv => decide (kv.1 = k)) = true := by simpa [e] using h
        by_cases e4 : kv.1 = k'
        · have : ¬ k' = k := fun z => e (e4.trans z)
          simp [List.find?_cons, e4, this]
        · simp only [List.find?_cons, e4, decide_false]
          exact ih h'
  · rw [if_neg h, List.find?_append]
    by_cases e2 : k' = k
    · subst e2
      have : (kvs.find? fun kv => decide (kv.1 = k')) = none := List.find?_eq_none.mpr fun x hx z => h (List.any_eq_true.mpr ⟨x, hx, z⟩)
      rw [this]; simp
    · have : ¬ k = k' := fun z => e2 z.symm
      rw [if_neg e2]
      cases kvs.find? fun kv => decide (kv.1 = k') <;> simp [this]
theorem putP_len {κ : Type} [DecidableEq κ] {kvs : List (κ × PyData)} {k : κ} {d : PyData} : (putP kvs k d).length ≤ kvs.length + 1 := by
  unfold putP
  split <;> simp
abbrev AT := List (List Key × PyData)
abbrev rowD (l : List (Int × Int)) : PyData := .list (l.map ppD)
abbrev kT (i j : Int) : List Key := [.inl i, .inl j]
theorem q_getT {kvs : AT} : getTM kvs (ppD p) K = (match valP kvs (kT p.1 p.2) with | some d => K d | none => False) := rfl
theorem q_putT {kvs : AT} {v : PyData} {Q : AT → Prop} : putTM kvs (ppD p) v Q = (kvs.length < sizeLine ∧ Q (putP kvs (kT p.1 p.2) v)) := rfl
/-- widths below w are told, and the first t starts of width w -/
structure Told (n : Int) (w t : Nat) (A : AT) : Prop where
  len : A.length ≤ 100 * w + t
  low : ∀ v : Nat, 1 ≤ v → v < w → ∀ s : Int, 1 ≤ s → s + v ≤ n → valP A (kT s (s + v)) = some (.list ((wr v s).map rowD))
  cur : ∀ s : Int, 1 ≤ s → s ≤ t → s + w ≤ n → valP A (kT s (s + w)) = some (.list ((wr w s).map rowD))
theorem Told.put {w t : Nat} {A : AT} (h : Told n w t A) {v : PyData} (hv : v = .list ((wr w (1 + (t : Int))).map rowD)) : Told n w (t + 1) (putP A (kT (1 + (t : Int)) (1 + (t : Int) + w)) v) := by
  refine ⟨?_, fun v' v1 v2 s s1 s2 => ?_, fun s s1 s2 s3 => ?_⟩
  · have := putP_len (kvs := A) (k := kT (1 + (t : Int)) (1 + (t : Int) + w)) (d := v)
    have := h.len
    omega
  · rw [valP_put, if_neg (fun e => by injection e with e1 e2; injection e1 with e1; injection e2 with e2; injection e2 with e2; omega)]
    exact h.low v' v1 v2 s s1 s2
  · rw [valP_put]
    by_cases e : s = 1 + (t : Int)
    · subst e
      rw [if_pos rfl, hv]
    · rw [if_neg (fun z => by injection z with e1 e2; injection e1 with e1; exact e e1)]
      exact h.cur s s1 (by omega) s3
end
end Tx
namespace Tx
open PySem PySem.Spec PyProof.Rows L2 TL
inductive Tr where
  | lf
  | nd (a b : Tr)
namespace Tr
def sz : Tr → Int
  | .lf => 1
  | .nd a b => a.sz + b.sz
def arcs : Tr → Int → List (Int × Int)
  | .lf, _ => []
  | .nd a b, s => (s, s + a.sz) :: (s + a.sz, s + a.sz + b.sz) :: (a.arcs s ++ b.arcs (s + a.sz))
/-- its own arc too -/
def arcF (t : Tr) (s : Int) : List (Int × Int) := (s, s + t.sz) :: t.arcs s
/-- the trees within it, by their starts -/
def subs : Tr → Int → List (Tr × Int)
  | .lf, s => [(.lf, s)]
  | .nd a b, s => (.nd a b, s) :: (a.subs s ++ b.subs (s + a.sz))
/-- the parts as start, middle, end, each with its hand, as they are come to -/
def pts : Tr → Int → Bool → List ((Int × Int × Int) × Bool)
  | .lf, _, _ => []
  | .nd a b, s, h => ((s, s + a.sz, s + a.sz + b.sz), h) :: (b.pts (s + a.sz) (!h) ++ a.pts s (!h))
/-- the hand of the part with the middle x -/
def hdAt : Tr → Int → Bool → Int → Bool
  | .lf, _, h, _ => h
  | .nd a b, s, h, x => if x = s + a.sz then h else if x < s + a.sz then a.hdAt s (!h) x else b.hdAt (s + a.sz) (!h) x
end Tr
open Tr
theorem sz_pos : ∀ t : Tr, 1 ≤ t.sz
  | .lf => by show (1 : Int) ≤ 1; omega
  | .nd a b => by have := sz_pos a; have := sz_pos b; show 1 ≤ a.sz + b.sz; omega
theorem Arcs.tr {s e : Int} {l : List (Int × Int)} (h : Arcs s e l) (hs : s < e) : ∃ t : Tr, t.sz = e - s ∧ l = t.arcs s := by
  induction h with
  | leaf h => exact ⟨.lf, by show (1 : Int) = _; omega, rfl⟩
  | @node s m e a b h1 h2 _ _ ia ib =>
    obtain ⟨ta, a1, rfl⟩ := ia h1
    obtain ⟨tb, b1, rfl⟩ := ib h2
    have e1 : s + ta.sz = m := by omega
    have e2 : m + tb.sz = e := by omega
    refine ⟨.nd ta tb, by show ta.sz + tb.sz = _; omega, ?_⟩
    show _ = (s, s + ta.sz) :: (s + ta.sz, s + ta.sz + tb.sz) :: (ta.arcs s ++ tb.arcs (s + ta.sz))
    rw [e1, e2]
theorem tr_arcs : ∀ (t : Tr) (s : Int), Arcs s (s + t.sz) (t.arcs s)
  | .lf, s => .leaf (by show s + 1 - s ≤ 1; omega)
  | .nd a b, s => by
    have ha := sz_pos a
    have hb := sz_pos b
    have h := Arcs.node (s := s) (m := s + a.sz) (e := s + a.sz + b.sz) (by omega) (by omega) (tr_arcs a s) (tr_arcs b (s + a.sz))
    show Arcs s (s + (a.sz + b.sz)) _
    rw [← Int.add_assoc]
    exact h
theorem mem_arcF_nd {a b : Tr} {s : Int} {p : Int × Int} : p ∈ (Tr.nd a b).arcF s ↔ p = (s, s + a.sz + b.sz) ∨ p ∈ a.arcF s ∨ p ∈ b.arcF (s + a.sz) := by
  show p ∈ (s, s + (a.sz + b.sz)) :: (s, s + a.sz) :: (s + a.sz, s + a.sz + b.sz) :: (a.arcs s ++ b.arcs (s + a.sz)) ↔ _
  rw [← Int.add_assoc]
  unfold Tr.arcF
  simp only [List.mem_cons, List.mem_append]
  constructor
  · rintro (h | h | h | h | h) <;> simp [h]
  · rintro (h | (h | h) | (h | h)) <;> simp [h]
theorem arcF_in {t : Tr} {s : Int} : ∀ {p : Int × Int}, p ∈ t.arcF s → s ≤ p.1 ∧ p.1 < p.2 ∧ p.2 ≤ s + t.sz := by
  induction t generalizing s with
  | lf =>
    intro p h
    have : p = (s, s + 1) := by simpa [Tr.arcF, Tr.arcs, Tr.sz] using h
    subst this
    show s ≤ s ∧ s < s + 1 ∧ s + 1 ≤ s + 1
    omega
  | nd a b ia ib =>
    intro p h
    have ha := sz_pos a
    have hb := sz_pos b
    show s ≤ p.1 ∧ p.1 < p.2 ∧ p.2 ≤ s + (a.sz + b.sz)
    rcases mem_arcF_nd.mp h with rfl | h | h
    · simp only; omega
    · have := ia h; omega
    · have := ib h; omega
theorem self_arcF (t : Tr) (s : Int) : (s, s + t.sz) ∈ t.arcF s := List.mem_cons_self ..
theorem self_subs : ∀ (t : Tr) (s : Int), (t, s) ∈ t.subs s
  | .lf, _ => List.mem_cons_self ..
  | .nd _ _, _ => List.mem_cons_self ..
theorem subs_arc {t : Tr} {s : Int} : ∀ {u : Tr} {x : Int}, (u, x) ∈ t.subs s → (∀ p ∈ u.arcF x, p ∈ t.arcF s) ∧ s ≤ x ∧ x + u.sz ≤ s + t.sz ∧ ∀ q ∈ u.subs x, q ∈ t.subs s := by
  induction t generalizing s with
  | lf =>
    intro u x h
    have : (u, x) = (Tr.lf, s) := by simpa [Tr.subs] using h
    cases this
    exact ⟨fun p h => h, Int.le_refl _, Int.le_refl _, fun q h => h⟩
  | nd a b ia ib =>
    intro u x h
    have ha := sz_pos a
    have hb := sz_pos b
    have h : (u, x) = (Tr.nd a b, s) ∨ (u, x) ∈ a.subs s ∨ (u, x) ∈ b.subs (s + a.sz) := by simpa [Tr.subs] using h
    have esz : (Tr.nd a b).sz = a.sz + b.sz := rfl
    rcases h with h | h | h
    · cases h
      exact ⟨fun p h => h, Int.le_refl _, Int.le_refl _, fun q h => h⟩
    · obtain ⟨h1, h2, h3, h4⟩ := ia h
      exact ⟨fun p hp => mem_arcF_nd.mpr (.inr (.inl (h1 p hp))), h2, by omega, fun q hq => by simp [Tr.subs, h4 q hq]⟩
    · obtain ⟨h1, h2, h3, h4⟩ := ib h
      exact ⟨fun p hp => mem_arcF_nd.mpr (.inr (.inr (h1 p hp))), by omega, by omega, fun q hq => by simp [Tr.subs, h4 q hq]⟩
/-- each arc is a tree's -/
theorem arc_sub {t : Tr} {s : Int} : ∀ {p : Int × Int}, p ∈ t.arcF s → ∃ u, (u, p.1) ∈ t.subs s ∧ p.2 = p.1 + u.sz := by
  induction t generalizing s with
  | lf =>
    intro p h
    have : p = (s, s + 1) := by simpa [Tr.arcF, Tr.arcs, Tr.sz] using h
    subst this
    exact ⟨.lf, List.mem_cons_self .., rfl⟩
  | nd a b ia ib =>
    intro p h
    rcases mem_arcF_nd.mp h with rfl | h | h
    · exact ⟨.nd a b, List.mem_cons_self .., by show s + a.sz + b.sz = s + (a.sz + b.sz); omega⟩
    · obtain ⟨u, h1, h2⟩ := ia h
      exact ⟨u, by simp [Tr.subs, h1], h2⟩
    · obtain ⟨u, h1, h2⟩ := ib h
      exact ⟨u, by simp [Tr.subs, h1], h2⟩
/-- arcs within a tree's bounds are the tree's -/
theorem arc_lam {t : Tr} {r : Int} : ∀ {u : Tr} {s : Int}, (u, s) ∈ t.subs r → ∀ p ∈ t.arcF r, s ≤ p.1 → p.2 ≤ s + u.sz → p ∈ u.arcF s := by
  induction t generalizing r with
  | lf =>
    intro u s h p hp _ _
    have : (u, s) = (Tr.lf, r) := by simpa [Tr.subs] using h
    cases this
    exact hp
  | nd a b ia ib =>
    intro u s h p hp h1 h2
    have ha := sz_pos a
    have hb := sz_pos b
    have hu := sz_pos u
    have h : (u, s) = (Tr.nd a b, r) ∨ (u, s) ∈ a.subs r ∨ (u, s) ∈ b.subs (r + a.sz) := by simpa [Tr.subs] using h
    rcases h with h | h | h
    · cases h; exact hp
    · obtain ⟨_, q1, q2, _⟩ := subs_arc h
      rcases mem_arcF_nd.mp hp with rfl | hp | hp
      · simp only at h1 h2; omega
      · exact ia h p hp h1 h2
      · have := arcF_in hp; omega
    · obtain ⟨_, q1, q2, _⟩ := subs_arc h
      rcases mem_arcF_nd.mp hp with rfl | hp | hp
      · simp only at h1 h2; omega
      · have := arcF_in hp; omega
      · exact ib h p hp h1 h2
/-- the third corner within -/
theorem third_in {t : Tr} {r : Int} {a b : Tr} {s c : Int} (h : (Tr.nd a b, s) ∈ t.subs r) (h1 : s < c) (h2 : c < s + a.sz + b.sz) (p : (s, c) ∈ t.arcF r) (q : (c, s + a.sz + b.sz) ∈ t.arcF r) : c = s + a.sz := by
  have ha := sz_pos a
  have hb := sz_pos b
  have esz : (Tr.nd a b).sz = a.sz + b.sz := rfl
  have p1 := arc_lam h _ p (Int.le_refl _) (by simp only; omega)
  have q1 := arc_lam h _ q (by simp only; omega) (by simp only; omega)
  rcases mem_arcF_nd.mp p1 with e | e | e
  · have := congrArg Prod.snd e; simp only at this; omega
  · have w1 := arcF_in e
    rcases mem_arcF_nd.mp q1 with e | e | e
    · have := congrArg Prod.fst e; simp only at this; omega
    · have := arcF_in e; simp only at this; omega
    · have := arcF_in e; simp only at this w1; omega
  · have := arcF_in e; simp only at this; omega
/-- the parts, by their middles -/
theorem pts_mid {t : Tr} {s : Int} {h : Bool} : ∀ {q : (Int × Int × Int) × Bool}, q ∈ t.pts s h → s ≤ q.1.1 ∧ q.1.1 < q.1.2.1 ∧ q.1.2.1 < q.1.2.2 ∧ q.1.2.2 ≤ s + t.sz ∧ q.2 = t.hdAt s h q.1.2.1 ∧ ∃ a b, (Tr.nd a b, q.1.1) ∈ t.subs s ∧ q.1.2.1 = q.1.1 + a.sz ∧ q.1.2.2 = q.1.1 + a.sz + b.sz := by
  induction t generalizing s h with
  | lf => intro q hq; cases hq
  | nd a b ia ib =>
    intro q hq
    have ha := sz_pos a
    have hb := sz_pos b
    have esz : (Tr.nd a b).sz = a.sz + b.sz := rfl
    have hq : q = ((s, s + a.sz, s + a.sz + b.sz), h) ∨ q ∈ b.pts (s + a.sz) (!h) ∨ q ∈ a.pts s (!h) := by simpa [Tr.pts] using hq
    rcases hq with rfl | hq | hq
    · refine ⟨Int.le_refl _, by simp only; omega, by simp only; omega, by simp only; omega, ?_, a, b, List.mem_cons_self .., rfl, rfl⟩
      simp [Tr.hdAt]
    · obtain ⟨h1, h2, h3, h4, h5, x, y, h6, h7, h8⟩ := ib hq
      refine ⟨by omega, h2, h3, by omega, ?_, x, y, by simp [Tr.subs, h6], h7, h8⟩
      show _ = if q.1.2.1 = s + a.sz then h else if q.1.2.1 < s + a.sz then a.hdAt s (!h) q.1.2.1 else b.hdAt (s + a.sz) (!h) q.1.2.1
      rw [if_neg (by omega), if_neg (by omega)]
      exact h5
    · obtain ⟨h1, h2, h3, h4, h5, x, y, h6, h7, h8⟩ := ia hq
      refine ⟨h1, h2, h3, by omega, ?_, x, y, by simp [Tr.subs, h6], h7, h8⟩
      show _ = if q.1.2.1 = s + a.sz then h else if q.1.2.1 < s + a.sz then a.hdAt s (!h) q.1.2.1 else b.hdAt (s + a.sz) (!h) q.1.2.1
      rw [if_neg (by omega), if_pos (by omega)]
      exact h5
theorem sub_pts {t : Tr} {s : Int} {h : Bool} : ∀ {a b : Tr} {x : Int}, (Tr.nd a b, x) ∈ t.subs s → ∃ g, ((x, x + a.sz, x + a.sz + b.sz), g) ∈ t.pts s h := by
  induction t generalizing s h with
  | lf => intro a b x hq; simp [Tr.subs] at hq
  | nd c d ia ib =>
    intro a b x hq
    have hq : (Tr.nd a b, x) = (Tr.nd c d, s) ∨ (Tr.nd a b, x) ∈ c.subs s ∨ (Tr.nd a b, x) ∈ d.subs (s + c.sz) := by simpa [Tr.subs] using hq
    rcases hq with hq | hq | hq
    · cases hq; exact ⟨h, List.mem_cons_self ..⟩
    · obtain ⟨g, hg⟩ := ia (h := !h) hq
      exact ⟨g, by simp [Tr.pts, hg]⟩
    · obtain ⟨g, hg⟩ := ib (h := !h) hq
      exact ⟨g, by simp [Tr.pts, hg]⟩
abbrev plT (n : Int) (T : Tr) : List (Int × Int) := planOf n (T.arcs 1)
section
variable {K : KD} {Kl : KL} {E : KX} {Kb : KB} {n : Int} {T : Tr}
variable (h3 : 3 ≤ n) (h40 : n ≤ 40) (hT : T.sz = n - 1)
include h3 h40 hT
theorem plT_arcs : Arcs 1 n (T.arcs 1) := by
  have := tr_arcs T 1
  rwa [show 1 + T.sz = n by omega] at this
theorem plT_ok : IsPlan n (plT n T) := arcs_plan h3 h40 (plT_arcs h3 h40 hT)
theorem arcF_top : T.arcF 1 = (1, n) :: T.arcs 1 := by
  unfold Tr.arcF
  rw [show 1 + T.sz = n by omega]
theorem tieT {x y : Int} (hx : 1 ≤ x) (hy : x < y) (hn : y ≤ n) : tieB n (plT n T) x (y % n) = true ↔ (x, y) ∈ T.arcF 1 := by
  rw [arcF_top h3 h40 hT]
  exact tie_arc h3 (plT_arcs h3 h40 hT) hx hy hn
theorem sub_b {u : Tr} {s : Int} (hu : (u, s) ∈ T.subs 1) : 1 ≤ s ∧ s < s + u.sz ∧ s + u.sz ≤ n := by
  obtain ⟨_, h1, h2, _⟩ := subs_arc hu
  have := sz_pos u
  omega
end
theorem q_while_s {σ : Type} {st : σ → (σ → Prop) → (σ → Prop) → Prop} {K : σ → Prop} {n : Nat} {s : σ} : whileM st K (n + 1) s = st s (fun s' => whileM st K n s') K := rfl
theorem sort3 {x y z : Int} {ms : List Int} (nd : [x, y, z].Nodup) (h : ms.Pairwise (· < ·)) (m : ∀ v, v ∈ [x, y, z] ↔ v ∈ ms) {Kl : KL} : sortM (.list [.int x, .int y, .int z]) Kl = Kl (ms.map .int) := by
  rw [show ([.int x, .int y, .int z] : List PyData) = [x, y, z].map .int from rfl, q_sort_ints, sortI_eq nd h m]
theorem keyS_3 {a b c : Int} (h : ¬ (a = 0 ∧ b = 1 ∧ c = 0)) : keyS (.tuple [.int a, .int b, .int c]) = some [.inl a, .inl b, .inl c] := by
  show (if a = 0 ∧ b = 1 ∧ c = 0 then none else some ([.inl a, .inl b, .inl c] : List Key)) = _
  rw [if_neg h]
end Tx
namespace Tx
open PySem PySem.Spec PyProof.Rows L2 TL
open Tr
def t3D (p : Int × Int × Int) : PyData := .tuple [.int p.1, .int p.2.1, .int p.2.2]
/-- a part's corners, rising, the last one read as 0 -/
def tri (n : Int) (p : Int × Int × Int) : Int × Int × Int := if p.2.2 = n then (0, p.1, p.2.1) else p
/-- the triples that are tied, low, high, corner -/
def rowAP (n : Int) (cs : List (Int × Int)) (p : Int × Int) : List (Int × Int × Int) := ((List.range (n - (p.2 + 1)).toNat).filter fun (j : Nat) => tieB n cs p.1 (p.2 + 1 + j) && tieB n cs p.2 (p.2 + 1 + j)).map fun (j : Nat) => (p.1, p.2, p.2 + 1 + (j : Int))
def apL (n : Int) (cs : List (Int × Int)) : List (Int × Int × Int) := (linesOf n cs).flatMap (rowAP n cs)
section
variable {K : KD} {Kl : KL} {E : KX} {Kb : KB} {n : Int} {T : Tr}
variable (h3 : 3 ≤ n) (h40 : n ≤ 40) (hT : T.sz = n - 1)
include h3 h40 hT
/-- triples that are tied are the parts -/
theorem mem_apL {x : Int × Int × Int} : x ∈ apL n (plT n T) ↔ ∃ q ∈ T.pts 1 true, x = tri n q.1 := by
  have hp := plT_ok h3 h40 hT
  have lok := lines_ok hp
  have tl : ∀ {a b : Int}, a < b → ((a, b) ∈ linesOf n (plT n T) ↔ tieB n (plT n T) a b = true) := fun {a b} hab => by
    unfold tieB
    rw [decide_eq_true_iff, mem_both hp]
    refine ⟨.inl, fun z => ?_⟩
    rcases z with z | z
    · exact z
    · have := lok.lt _ z; simp only at this; omega
  unfold apL
  rw [List.mem_flatMap]
  constructor
  · rintro ⟨p, hpm, hx⟩
    have pl := lok.lt p hpm
    unfold rowAP at hx
    obtain ⟨j, hj, rfl⟩ := List.mem_map.mp hx
    obtain ⟨hj1, hj2⟩ := List.mem_filter.mp hj
    have hj1 := List.mem_range.mp hj1
    obtain ⟨t1, t2⟩ := Bool.and_eq_true_iff.mp hj2
    have t0 : tieB n (plT n T) p.1 p.2 = true := (tl pl.2.1).mp hpm
    generalize hz : p.2 + 1 + (j : Int) = z at *
    have hzn : z < n := by omega
    have hyz : p.2 < z := by omega
    by_cases hx0 : p.1 = 0
    · rw [hx0] at t0 t1 pl
      have a1 : (p.2, n) ∈ T.arcF 1 := by
        rw [← tieT h3 h40 hT (by omega) (by omega) (Int.le_refl _), Int.emod_self, tie_sym]; exact t0
      have a2 : (z, n) ∈ T.arcF 1 := by
        rw [← tieT h3 h40 hT (by omega) (by omega) (Int.le_refl _), Int.emod_self, tie_sym]; exact t1
      have a3 : (p.2, z) ∈ T.arcF 1 := by
        rw [← tieT h3 h40 hT (by omega) hyz (by omega), Int.emod_eq_of_lt (by omega) (by omega)]; exact t2
      obtain ⟨u, hu, eu⟩ := arc_sub a1
      cases u with
      | lf => have : (Tr.lf).sz = 1 := rfl; simp only at eu; omega
      | nd a b =>
        have esz : (Tr.nd a b).sz = a.sz + b.sz := rfl
        simp only at eu hu
        have em : z = p.2 + a.sz := third_in hu hyz (by omega) a3 (by rw [show p.2 + a.sz + b.sz = n by omega]; exact a2)
        obtain ⟨g, hg⟩ := sub_pts (h := true) hu
        refine ⟨_, hg, ?_⟩
        unfold tri
        rw [if_pos (by simp only; omega), hx0, ← em]
    · have a1 : (p.1, z) ∈ T.arcF 1 := by
        rw [← tieT h3 h40 hT (by omega) (by omega) (by omega), Int.emod_eq_of_lt (by omega) (by omega)]; exact t1
      have a2 : (p.2, z) ∈ T.arcF 1 := by
        rw [← tieT h3 h40 hT (by omega) hyz (by omega), Int.emod_eq_of_lt (by omega) (by omega)]; exact t2
      have a3 : (p.1, p.2) ∈ T.arcF 1 := by
        rw [← tieT h3 h40 hT (by omega) pl.2.1 (by omega), Int.emod_eq_of_lt (by omega) (by omega)]; exact t0
      obtain ⟨u, hu, eu⟩ := arc_sub a1
      cases u with
      | lf => have : (Tr.lf).sz = 1 := rfl; simp only at eu; omega
      | nd a b =>
        have esz : (Tr.nd a b).sz = a.sz + b.sz := rfl
        simp only at eu hu
        have em : p.2 = p.1 + a.sz := third_in hu pl.2.1 (by omega) a3 (by rw [show p.1 + a.sz + b.sz = z by omega]; exact a2)
        obtain ⟨g, hg⟩ := sub_pts (h := true) hu
        refine ⟨_, hg, ?_⟩
        unfold tri
        rw [if_neg (by simp only; omega), ← em]
        rw [show p.2 + b.sz = z by omega]
  · rintro ⟨q, hq, rfl⟩
    obtain ⟨q1, q2, q3, q4, _, a, b, q5, q6, q7⟩ := pts_mid hq
    obtain ⟨w, _, _, _⟩ := subs_arc q5
    have ha := sz_pos a
    have hb := sz_pos b
    have m0 : (q.1.1, q.1.2.2) ∈ T.arcF 1 := w _ (mem_arcF_nd.mpr (.inl (Prod.ext rfl (by simp only; omega))))
    have m1 : (q.1.1, q.1.2.1) ∈ T.arcF 1 := w _ (mem_arcF_nd.mpr (.inr (.inl (by rw [q6]; exact self_arcF a _))))
    have m2 : (q.1.2.1, q.1.2.2) ∈ T.arcF 1 := w _ (mem_arcF_nd.mpr (.inr (.inr (by rw [q7, q6]; exact self_arcF b _))))
    unfold tri
    by_cases e : q.1.2.2 = n
    · rw [if_pos e]
      rw [e] at m0 m2
      have t0 := (tieT h3 h40 hT (by omega) (by omega) (Int.le_refl _)).mpr m0
      have t2 := (tieT h3 h40 hT (by omega) (by omega) (Int.le_refl _)).mpr m2
      rw [Int.emod_self, tie_sym] at t0 t2
      have t1 := (tieT h3 h40 hT q1 q2 (by omega)).mpr m1
      rw [Int.emod_eq_of_lt (by omega) (by omega)] at t1
      refine ⟨(0, q.1.1), (tl (by omega)).mpr t0, ?_⟩
      unfold rowAP
      refine List.mem_map.mpr ⟨(q.1.2.1 - q.1.1 - 1).toNat, List.mem_filter.mpr ⟨List.mem_range.mpr (by simp only; omega), ?_⟩, ?_⟩
      · have ez : q.1.1 + 1 + ((q.1.2.1 - q.1.1 - 1).toNat : Int) = q.1.2.1 := by omega
        simp only [ez, t2, t1, Bool.and_self]
      · simp only [show q.1.1 + 1 + ((q.1.2.1 - q.1.1 - 1).toNat : Int) = q.1.2.1 by omega]
    · rw [if_neg e]
      have t0 := (tieT h3 h40 hT q1 (by omega) (by omega)).mpr m0
      have t1 := (tieT h3 h40 hT q1 q2 (by omega)).mpr m1
      have t2 := (tieT h3 h40 hT (by omega) q3 (by omega)).mpr m2
      rw [Int.emod_eq_of_lt (by omega) (by omega)] at t0 t1 t2
      refine ⟨(q.1.1, q.1.2.1), (tl q2).mpr t1, ?_⟩
      unfold rowAP
      refine List.mem_map.mpr ⟨(q.1.2.2 - q.1.2.1 - 1).toNat, List.mem_filter.mpr ⟨List.mem_range.mpr (by simp only; omega), ?_⟩, ?_⟩
      · have ez : q.1.2.1 + 1 + ((q.1.2.2 - q.1.2.1 - 1).toNat : Int) = q.1.2.2 := by omega
        simp only [ez, t0, t2, Bool.and_self]
      · simp only [show q.1.2.1 + 1 + ((q.1.2.2 - q.1.2.1 - 1).toNat : Int) = q.1.2.2 by omega]
end
def corB (x : Int) (p : Int × Int × Int) : Bool := decide (x ∈ [p.1, p.2.1, p.2.2])
def cnt3 (p q : Int × Int × Int) : Nat := ([p.1, p.2.1, p.2.2].filter fun x => corB x q).length
theorem len_fil3 {a b c : Int} {P : Int → Bool} : ([a, b, c].filter P).length = (P a).toNat + (P b).toNat + (P c).toNat := by
  cases h1 : P a <;> cases h2 : P b <;> cases h3 : P c <;> simp [List.filter_cons, h1, h2, h3]
theorem corB_iff {x : Int} {p : Int × Int × Int} : corB x p = true ↔ x = p.1 ∨ x = p.2.1 ∨ x = p.2.2 := by
  unfold corB
  rw [decide_eq_true_iff]
  simp
theorem corB_no {x : Int} {p : Int × Int × Int} (h : ¬ (x = p.1 ∨ x = p.2.1 ∨ x = p.2.2)) : corB x p = false := by
  cases e : corB x p with
  | false => rfl
  | true => exact absurd (corB_iff.mp e) h
def tri0 (n x : Int) : Int := if x = n then 0 else x
def Tri1 (n : Int) (p : Int × Int × Int) : Prop := 1 ≤ p.1 ∧ p.1 < p.2.1 ∧ p.2.1 < p.2.2 ∧ p.2.2 ≤ n
theorem tri_cases {n : Int} {p : Int × Int × Int} (h : Tri1 n p) : (p.2.2 = n ∧ tri n p = (0, p.1, p.2.1)) ∨ (p.2.2 < n ∧ tri n p = p) := by
  unfold tri
  obtain ⟨_, _, _, h4⟩ := h
  by_cases e : p.2.2 = n
  · exact .inl ⟨e, if_pos e⟩
  · exact .inr ⟨by omega, if_neg e⟩
theorem corB_tri {n x : Int} {q : Int × Int × Int} (h : Tri1 n q) (h1 : 1 ≤ x) (h2 : x ≤ n) : corB (tri0 n x) (tri n q) = corB x q := by
  rw [Bool.eq_iff_iff, corB_iff, corB_iff]
  obtain ⟨a1, a2, a3, a4⟩ := h
  unfold tri0
  rcases tri_cases ⟨a1, a2, a3, a4⟩ with ⟨e, et⟩ | ⟨e, et⟩ <;> rw [et] <;> (try simp only) <;> split <;> omega
theorem cnt3_tri {n : Int} {p q : Int × Int × Int} (hp : Tri1 n p) (hq : Tri1 n q) : cnt3 (tri n p) (tri n q) = cnt3 p q := by
  unfold cnt3
  rw [len_fil3, len_fil3]
  have hp' := hp
  obtain ⟨a1, a2, a3, a4⟩ := hp'
  rcases tri_cases hp with ⟨e, et⟩ | ⟨e, et⟩ <;> rw [et] <;> (try simp only)
  · rw [← corB_tri hq (x := p.1) a1 (by omega), ← corB_tri hq (x := p.2.1) (by omega) (by omega), ← corB_tri hq (x := p.2.2) (by omega) a4]
    unfold tri0
    rw [if_pos e, if_neg (by omega), if_neg (by omega)]
    omega
  · rw [← corB_tri hq (x := p.1) a1 (by omega), ← corB_tri hq (x := p.2.1) (by omega) (by omega), ← corB_tri hq (x := p.2.2) (by omega) a4]
    unfold tri0
    rw [if_neg (by omega), if_neg (by omega), if_neg (by omega)]
theorem pts_b {t : Tr} {s : Int} {h : Bool} {q : (Int × Int × Int) × Bool} (hq : q ∈ t.pts s h) : s ≤ q.1.1 ∧ q.1.1 < q.1.2.1 ∧ q.1.2.1 < q.1.2.2 ∧ q.1.2.2 ≤ s + t.sz := by
  obtain ⟨a, b, c, d, _⟩ := pts_mid hq
  exact ⟨a, b, c, d⟩
theorem mem_pts_nd {a b : Tr} {s : Int} {h : Bool} {q : (Int × Int × Int) × Bool} : q ∈ (Tr.nd a b).pts s h ↔ q = ((s, s + a.sz, s + a.sz + b.sz), h) ∨ q ∈ b.pts (s + a.sz) (!h) ∨ q ∈ a.pts s (!h) := by
  simp [Tr.pts]
theorem top_pts {t : Tr} {s : Int} {h : Bool} {q : (Int × Int × Int) × Bool} (hq : q ∈ t.pts s h) (h1 : q.1.1 = s) (h2 : q.1.2.2 = s + t.sz) : q.2 = h := by
  cases t with
  | lf => cases hq
  | nd a b =>
    have ha := sz_pos a
    have hb := sz_pos b
    have esz : (Tr.nd a b).sz = a.sz + b.sz := rfl
    rcases mem_pts_nd.mp hq with rfl | hq | hq
    · rfl
    · have := pts_b hq; omega
    · have := pts_b hq; omega
theorem two_of {a b c : Bool} (h : a.toNat + b.toNat + c.toNat = 2) : (a = false → b = true ∧ c = true) ∧ (b = false → a = true ∧ c = true) ∧ (c = false → a = true ∧ b = true) := by
  revert h
  cases a <;> cases b <;> cases c <;> decide
/-- parts with two corners in common are of unlike hands -/
theorem adj_op : ∀ {t : Tr} {s : Int} {h : Bool} {p q : (Int × Int × Int) × Bool}, p ∈ t.pts s h → q ∈ t.pts s h → cnt3 p.1 q.1 = 2 → p.2 = !q.2 := by
  intro t
  induction t with
  | lf => intro s h p q hp; cases hp
  | nd a b ia ib =>
    intro s h p q hp hq hc
    have ha := sz_pos a
    have hb := sz_pos b
    unfold cnt3 at hc
    rw [len_fil3] at hc
    obtain ⟨c1, c2, c3⟩ := two_of hc
    rcases mem_pts_nd.mp hp with rfl | hp | hp <;> rcases mem_pts_nd.mp hq with rfl | hq | hq
    · simp only at c1 c2 c3 hc
      rw [corB_iff (x := s) (p := (s, s + a.sz, s + a.sz + b.sz)) |>.mpr (.inl rfl), corB_iff (x := s + a.sz) (p := (s, s + a.sz, s + a.sz + b.sz)) |>.mpr (.inr (.inl rfl)), corB_iff (x := s + a.sz + b.sz) (p := (s, s + a.sz, s + a.sz + b.sz)) |>.mpr (.inr (.inr rfl))] at hc
      exact absurd hc (by decide)
    · have w := pts_b hq
      have z : corB s q.1 = false := corB_no (by omega)
      obtain ⟨y1, y2⟩ := c1 z
      have y1 := corB_iff.mp y1
      have y2 := corB_iff.mp y2
      simp only at y1 y2
      rw [top_pts hq (by omega) (by omega), Bool.not_not]
    · have w := pts_b hq
      have z : corB (s + a.sz + b.sz) q.1 = false := corB_no (by omega)
      obtain ⟨y1, y2⟩ := c3 z
      have y1 := corB_iff.mp y1
      have y2 := corB_iff.mp y2
      simp only at y1 y2
      rw [top_pts hq (by omega) (by omega), Bool.not_not]
    · have w := pts_b hp
      have z : corB p.1.2.1 (s, s + a.sz, s + a.sz + b.sz) = false := corB_no (by simp only; omega)
      obtain ⟨y1, y2⟩ := c2 z
      have y1 := corB_iff.mp y1
      have y2 := corB_iff.mp y2
      simp only at y1 y2
      exact top_pts hp (by omega) (by omega)
    · exact ib hp hq (by unfold cnt3; rw [len_fil3]; exact hc)
    · have w := pts_b hp
      have w2 := pts_b hq
      have z1 : corB p.1.2.1 q.1 = false := corB_no (by omega)
      have z2 : corB p.1.2.2 q.1 = false := corB_no (by omega)
      have := (c2 z1).2
      rw [z2] at this; cases this
    · have w := pts_b hp
      have z : corB p.1.2.1 (s, s + a.sz, s + a.sz + b.sz) = false := corB_no (by simp only; omega)
      obtain ⟨y1, y2⟩ := c2 z
      have y1 := corB_iff.mp y1
      have y2 := corB_iff.mp y2
      simp only at y1 y2
      exact top_pts hp (by omega) (by omega)
    · have w := pts_b hp
      have w2 := pts_b hq
      have z1 : corB p.1.2.1 q.1 = false := corB_no (by omega)
      have z2 : corB p.1.1 q.1 = false := corB_no (by omega)
      have := (c2 z1).1
      rw [z2] at this; cases this
    · exact ia hp hq (by unfold cnt3; rw [len_fil3]; exact hc)
/-- parts of a depth below k -/
def Tr.dp : Tr → Int → Nat → List (Int × Int × Int)
  | _, _, 0 => []
  | .lf, _, _ => []
  | .nd a b, s, k + 1 => (s, s + a.sz, s + a.sz + b.sz) :: (b.dp (s + a.sz) k ++ a.dp s k)
theorem nodup_le {α : Type} [DecidableEq α] : ∀ {l m : List α}, l.Nodup → (∀ x ∈ l, x ∈ m) → l.length ≤ m.length
  | [], _, _, _ => Nat.zero_le _
  | a :: l, m, h, hs => by
    obtain ⟨h1, h2⟩ := List.nodup_cons.mp h
    have ha := hs a (List.mem_cons_self ..)
    have := nodup_le (m := m.erase a) h2 fun x hx => (List.mem_erase_of_ne (fun e => h1 (by rw [← e]; exact hx))).mpr (hs x (List.mem_cons_of_mem _ hx))
    rw [List.length_erase_of_mem ha] at this
    have : 0 < m.length := List.length_pos_of_mem ha
    rw [List.length_cons]; omega
def k3 (p : Int × Int × Int) : List Key := [.inl p.1, .inl p.2.1, .inl p.2.2]
theorem k3_inj {p q : Int × Int × Int} (h : k3 p = k3 q) : p = q := by
  unfold k3 at h
  injection h with h1 h2
  injection h2 with h2 h3
  injection h3 with h3 _
  exact Prod.ext (Sum.inl.inj h1) (Prod.ext (Sum.inl.inj h2) (Sum.inl.inj h3))
theorem valP_some {κ : Type} [DecidableEq κ] {kvs : List (κ × PyData)} {k : κ} {d : PyData} (h : (k, d) ∈ kvs) : (valP kvs k).isSome = true := by
  unfold valP
  rw [Option.isSome_map, List.find?_isSome]
  exact ⟨_, h, decide_eq_true rfl⟩
theorem q_put3 {kvs : AT} {p : Int × Int × Int} {v : PyData} {Q : AT → Prop} (h : p.2.1 < p.2.2) : putTM kvs (t3D p) v Q = (kvs.length < sizeLine ∧ Q (putP kvs (k3 p) v)) := by
  unfold putTM
  rw [show keyS (t3D p) = some (k3 p) from keyS_3 (by omega)]
theorem tri_up {n : Int} {p : Int × Int × Int} (h : Tri1 n p) : (tri n p).2.1 < (tri n p).2.2 := by
  obtain ⟨h1, h2, h3, h4⟩ := h
  rcases tri_cases ⟨h1, h2, h3, h4⟩ with ⟨_, e⟩ | ⟨_, e⟩ <;> rw [e] <;> assumption
section
variable {K : KD} {Kl : KL} {E : KX} {Kb : KB} {n : Int} {T : Tr}
variable (h3 : 3 ≤ n) (h40 : n ≤ 40) (hT : T.sz = n - 1)
include h3 h40 hT
theorem pts_tri1 {q : (Int × Int × Int) × Bool} (hq : q ∈ T.pts 1 true) : Tri1 n q.1 := by
  have := pts_b hq
  unfold Tri1
  omega
theorem tri_inj {p q : (Int × Int × Int) × Bool} (hp : p ∈ T.pts 1 true) (hq : q ∈ T.pts 1 true) (e : tri n p.1 = tri n q.1) : p = q := by
  obtain ⟨_, _, _, _, a5, _⟩ := pts_mid hp
  obtain ⟨_, _, _, _, b5, _⟩ := pts_mid hq
  have t1 := pts_tri1 h3 h40 hT hp
  have t2 := pts_tri1 h3 h40 hT hq
  have key : p.1 = q.1 := by
    obtain ⟨x1, x2, x3, x4⟩ := t1
    obtain ⟨y1, y2, y3, y4⟩ := t2
    rcases tri_cases (pts_tri1 h3 h40 hT hp) with ⟨e1, f1⟩ | ⟨e1, f1⟩ <;> rcases tri_cases (pts_tri1 h3 h40 hT hq) with ⟨e2, f2⟩ | ⟨e2, f2⟩ <;> rw [f1, f2] at e
    · have z1 := congrArg (fun t => t.2.1) e
      have z2 := congrArg (fun t => t.2.2) e
      simp only at z1 z2
      exact Prod.ext z1 (Prod.ext z2 (e1.trans e2.symm))
    · have z1 := congrArg (fun t => t.1) e
      simp only at z1
      omega
    · have z1 := congrArg (fun t => t.1) e
      simp only at z1
      omega
    · exact e
  exact Prod.ext key (by rw [a5, b5, key])
end
end Tx
namespace Tx
open PySem PySem.Spec PyProof.Rows L2 TL
/-- the stretch from a on, ahead of b -/
def sb (R : List Bool) (a b : Nat) : List Bool := (R.drop a).take (b - a)
end Tx
namespace Tx
open PySem PySem.Spec PyProof.Rows L2 TL
open Tr
namespace Tr
/-- the hand of the leaf x: of the part above it; h: of the part above the tree -/
def lfH : Tr → Int → Bool → Int → Bool
  | .lf, _, h, _ => h
  | .nd a b, s, h, x => if x < s + a.sz then a.lfH s (!h) x else b.lfH (s + a.sz) (!h) x
/-- the order of the leaves -/
def ord : Tr → Int → Bool → List Int
  | .lf, s, _ => [s]
  | .nd a b, s, x => if x then b.ord (s + a.sz) (!x) ++ a.ord s (!x) else a.ord s (!x) ++ b.ord (s + a.sz) (!x)
/-- the hands of the leaves in order -/
def row : Tr → Bool → Bool → List Bool
  | .lf, _, h => [h]
  | .nd a b, x, h => if x then b.row (!x) (!h) ++ a.row (!x) (!h) else a.row (!x) (!h) ++ b.row (!x) (!h)
end Tr
/-- a side's part has the leaf's hand -/
theorem side_hand : ∀ {t : Tr} {s : Int} {g : Bool} {q : (Int × Int × Int) × Bool} {x : Int}, q ∈ t.pts s g → (x = q.1.1 ∨ x = q.1.2.1 ∨ x = q.1.2.2) → (x + 1 = q.1.1 ∨ x + 1 = q.1.2.1 ∨ x + 1 = q.1.2.2) → q.2 = t.lfH s (!g) x := by
  intro t
  induction t with
  | lf => intro s g q x hq; cases hq
  | nd a b ia ib =>
    intro s g q x hq h1 h2
    have ha := sz_pos a
    have hb := sz_pos b
    show q.2 = if x < s + a.sz then a.lfH s (!!g) x else b.lfH (s + a.sz) (!!g) x
    rcases mem_pts_nd.mp hq with rfl | hq | hq
    · simp only at h1 h2
      rw [Bool.not_not]
      have hx : (x = s ∧ a.sz = 1) ∨ (x = s + a.sz ∧ b.sz = 1) := by omega
      rcases hx with ⟨e1, e2⟩ | ⟨e1, e2⟩
      · rw [if_pos (by omega)]
        cases a with
        | lf => rfl
        | nd c d => have := sz_pos c; have := sz_pos d; have : (Tr.nd c d).sz = c.sz + d.sz := rfl; omega
      · rw [if_neg (by omega)]
        cases b with
        | lf => rfl
        | nd c d => have := sz_pos c; have := sz_pos d; have : (Tr.nd c d).sz = c.sz + d.sz := rfl; omega
    · have w := pts_b hq
      rw [if_neg (by omega)]
      exact ib hq h1 h2
    · have w := pts_b hq
      rw [if_pos (by omega)]
      exact ia hq h1 h2
theorem side_part : ∀ {t : Tr} {s : Int} {g : Bool} {x : Int}, s ≤ x → x < s + t.sz → 2 ≤ t.sz → ∃ q ∈ t.pts s g, (x = q.1.1 ∨ x = q.1.2.1 ∨ x = q.1.2.2) ∧ (x + 1 = q.1.1 ∨ x + 1 = q.1.2.1 ∨ x + 1 = q.1.2.2) := by
  intro t
  induction t with
  | lf => intro s g x h1 h2 h4; have : (Tr.lf).sz = 1 := rfl; omega
  | nd a b ia ib =>
    intro s g x h1 h2 h4
    have ha := sz_pos a
    have hb := sz_pos b
    have esz : (Tr.nd a b).sz = a.sz + b.sz := rfl
    by_cases hx : x < s + a.sz
    · by_cases e : a.sz = 1
      · exact ⟨_, mem_pts_nd.mpr (.inl rfl), .inl (by simp only; omega), .inr (.inl (by simp only; omega))⟩
      · obtain ⟨q, hq, r1, r2⟩ := ia (g := !g) h1 hx (by omega)
        exact ⟨q, mem_pts_nd.mpr (.inr (.inr hq)), r1, r2⟩
    · by_cases e : b.sz = 1
      · exact ⟨_, mem_pts_nd.mpr (.inl rfl), .inr (.inl (by simp only; omega)), .inr (.inr (by simp only; omega))⟩
      · obtain ⟨q, hq, r1, r2⟩ := ib (s := s + a.sz) (g := !g) (x := x) (by omega) (by omega) (by omega)
        exact ⟨q, mem_pts_nd.mpr (.inr (.inl hq)), r1, r2⟩
/-- the leaf's hand, leaf 0 with it -/
def rowH (T : Tr) (x : Int) : Bool := if x = 0 then true else T.lfH 1 false x
section
variable {K : KD} {Kl : KL} {E : KX} {Kb : KB} {n : Int} {T : Tr}
variable (h3 : 3 ≤ n) (h40 : n ≤ 40) (hT : T.sz = n - 1)
include h3 h40 hT
/-- parts at the side of a leaf and the next corner: they have its hand -/
theorem side_tri {q : (Int × Int × Int) × Bool} (hq : q ∈ T.pts 1 true) {x : Int} (h0 : 0 ≤ x) (hx : x < n) (h1 : corB x (tri n q.1) = true) (h2 : corB ((x + 1) % n) (tri n q.1) = true) : q.2 = rowH T x := by
  have t1 := pts_tri1 h3 h40 hT hq
  have t1' := t1
  obtain ⟨a1, a2, a3, a4⟩ := t1'
  unfold rowH
  by_cases e : x = 0
  · subst e
    rw [if_pos rfl]
    rw [show (0 : Int) = tri0 n n by unfold tri0; rw [if_pos rfl], corB_tri t1 (by omega) (Int.le_refl _)] at h1
    rw [show ((0 : Int) + 1) % n = tri0 n 1 by unfold tri0; rw [if_neg (by omega), Int.emod_eq_of_lt (by omega) (by omega)]; rfl, corB_tri t1 (by omega) (by omega)] at h2
    have h1 := corB_iff.mp h1
    have h2 := corB_iff.mp h2
    exact top_pts hq (by omega) (by omega)
  · rw [if_neg e]
    have e1 : x = tri0 n x := by unfold tri0; rw [if_neg (by omega)]
    have e2 : (x + 1) % n = tri0 n (x + 1) := by
      unfold tri0
      split
      · rename_i z; rw [z, Int.emod_self]
      · exact Int.emod_eq_of_lt (by omega) (by omega)
    rw [e1, corB_tri t1 (by omega) (by omega)] at h1
    rw [e2, corB_tri t1 (by omega) (by omega)] at h2
    exact side_hand (g := true) hq (corB_iff.mp h1) (corB_iff.mp h2)
theorem tri_side {x : Int} (h0 : 0 ≤ x) (hx : x < n) : ∃ q ∈ T.pts 1 true, corB x (tri n q.1) = true ∧ corB ((x + 1) % n) (tri n q.1) = true := by
  by_cases e : x = 0
  · subst e
    obtain ⟨a, b, rfl⟩ : ∃ a b, T = .nd a b := by
      cases T with
      | lf => have : (Tr.lf).sz = 1 := rfl; omega
      | nd a b => exact ⟨a, b, rfl⟩
    have esz : (Tr.nd a b).sz = a.sz + b.sz := rfl
    have hq : ((1, 1 + a.sz, 1 + a.sz + b.sz), true) ∈ (Tr.nd a b).pts 1 true := mem_pts_nd.mpr (.inl rfl)
    refine ⟨_, hq, ?_, ?_⟩
    · have t1 := pts_tri1 h3 h40 hT hq
      rw [show (0 : Int) = tri0 n n by unfold tri0; rw [if_pos rfl], corB_tri t1 (by omega) (Int.le_refl _)]
      exact corB_iff.mpr (.inr (.inr (by simp only; omega)))
    · have t1 := pts_tri1 h3 h40 hT hq
      rw [show ((0 : Int) + 1) % n = tri0 n 1 by unfold tri0; rw [if_neg (by omega), Int.emod_eq_of_lt (by omega) (by omega)]; rfl, corB_tri t1 (by omega) (by omega)]
      exact corB_iff.mpr (.inl rfl)
  · obtain ⟨q, hq, r1, r2⟩ := side_part (t := T) (s := 1) (g := true) (x := x) (by omega) (by omega) (by omega)
    have t1 := pts_tri1 h3 h40 hT hq
    refine ⟨q, hq, ?_, ?_⟩
    · rw [show x = tri0 n x by unfold tri0; rw [if_neg (by omega)], corB_tri t1 (by omega) (by omega)]
      exact corB_iff.mpr r1
    · rw [show (x + 1) % n = tri0 n (x + 1) by
        unfold tri0
        split
        · rename_i z; rw [z, Int.emod_self]
        · exact Int.emod_eq_of_lt (by omega) (by omega), corB_tri t1 (by omega) (by omega)]
      exact corB_iff.mpr r2
theorem sub_ord : ∀ (f : Nat) {u : Tr} {s : Int} (x : Bool), (u, s) ∈ T.subs 1 → u.sz ≤ f → ordA n (plT n T) f s (s + u.sz) x = u.ord s x := by
  intro f
  induction f with
  | zero => intro u s x hu hf; have := sz_pos u; omega
  | succ f ih =>
    intro u s x hu hf
    obtain ⟨b1, b2, b3⟩ := sub_b h3 h40 hT hu
    unfold ordA
    cases u with
    | lf => rw [if_pos (by have : (Tr.lf).sz = 1 := rfl; omega)]; rfl
    | nd a b =>
      have ha := sz_pos a
      have hb := sz_pos b
      have esz : (Tr.nd a b).sz = a.sz + b.sz := rfl
      obtain ⟨w1, _, _, w4⟩ := subs_arc hu
      rw [if_neg (by omega)]
      have harc : (s, s + (Tr.nd a b).sz) ∈ (1, n) :: T.arcs 1 := by
        rw [← arcF_top h3 h40 hT]
        exact w1 _ (self_arcF _ _)
      obtain ⟨j, hj, j1, j2, j3⟩ := corJ_some h3 (plT_arcs h3 h40 hT) harc (by omega)
      rw [← arcF_top h3 h40 hT] at j2 j3
      have em : s + (j : Int) + 1 = s + a.sz := third_in hu (by omega) (by omega) j2 (by rw [esz, ← Int.add_assoc] at j3; exact j3)
      rw [hj]
      dsimp only
      have i1 := ih (u := a) (s := s) (!x) (w4 _ (by simp [Tr.subs, self_subs])) (by omega)
      have i2 := ih (u := b) (s := s + a.sz) (!x) (w4 _ (by simp [Tr.subs, self_subs])) (by omega)
      rw [em, i1, show s + (Tr.nd a b).sz = s + a.sz + b.sz by omega, i2]
      rfl
theorem ordP_T : ordP n (T.arcs 1) = 0 :: T.ord 1 false := by
  unfold ordP
  have := sub_ord h3 h40 hT 64 (u := T) (s := 1) false (self_subs T 1) (by omega)
  rw [show 1 + T.sz = n by omega] at this
  rw [← this]
end
end Tx
namespace Tx
open PySem PySem.Spec PyProof.Rows L2 TL
@[irreducible] def f_third_corner (plan : PyData) (near : PyData) (place : PyData) (way : PyData) (K : KD) (E : KX) : Prop :=
  un2 place fun top1 under2 =>
  ifM (fun Q => eqM way (.str "even") fun b5 =>
  Q b5) (fun Q => Q (.tuple [top1, under2])) (fun Q => Q (.tuple [under2, top1])) fun r4 =>
  un2 r4 fun start6 end_7 =>
  ixM near top1 fun r10 =>
  itM r10 fun xs9 =>
  forM (fun corner12 (_ : Unit) N13 B14 => andM (fun Q => ixM near under2 fun r17 =>
  inM corner12 r17 fun b18 =>
  Q b18) (fun Q => ixM plan (.int 0) fun r19 =>
  f_between r19 start6 corner12 end_7 (fun r20 =>
  boolM r20 fun b21 =>
  Q b21) E) fun b16 =>
  (b16 = true → (K corner12)) ∧ (b16 = false → (N13 ()))) (fun (_ : Unit) =>
  K PyData.none) xs9 ()
def c_third_corner : CT := fun args Φ Ψ => ∃ (plan : PyData) (near : PyData) (place : PyData) (way : PyData) (K : KD) (E : KX), args = [.d plan, .d near, .d place, .d way] ∧ f_third_corner plan near place way K E ∧ (∀ r, K r → Φ (.rd r) args) ∧ ∀ c, E c → Ψ c args
@[irreducible] def f__law_third (l_plan_here : PyData) (l_held : PyData) (l_spot_here : PyData) (l_way : PyData) (K : KD) (E : KX) : Prop :=
  un2 l_spot_here fun l_top1 l_under2 =>
  joinM (fun (Q : (PyData × PyData) → Prop) => eqM l_way (.str "odd") fun b4 =>
  (b4 = true → (un2 (.tuple [l_under2, l_top1]) fun l_top8 l_under9 =>
  Q (l_top8, l_under9))) ∧ (b4 = false → (Q (l_top1, l_under2)))) (fun (s : PyData × PyData) =>
  match s with
  | (l_top11, l_under12) => ixM l_plan_here (.int 0) fun r14 =>
  f__law_going r14 l_top11 l_under12 (fun r15 =>
  itM (.list r15) fun xs13 =>
  forM (fun l_corner17 (_ : Unit) N18 B19 => andM (fun Q => inDM l_held (.tuple [l_corner17, l_top11]) fun b22 =>
  Q b22) (fun Q => inDM l_held (.tuple [l_corner17, l_under12]) fun b23 =>
  Q b23) fun b21 =>
  (b21 = true → (K l_corner17)) ∧ (b21 = false → (N18 ()))) (fun (_ : Unit) =>
  K PyData.none) xs13 ()) E)
def c__law_third : CT := fun args Φ Ψ => ∃ (l_plan_here : PyData) (l_held : PyData) (l_spot_here : PyData) (l_way : PyData) (K : KD) (E : KX), args = [.d l_plan_here, .d l_held, .d l_spot_here, .d l_way] ∧ f__law_third l_plan_here l_held l_spot_here l_way K E ∧ (∀ r, K r → Φ (.rd r) args) ∧ ∀ c, E c → Ψ c args
@[irreducible] def f__law_moved (l_plan_here : PyData) (l_held : PyData) (l_spot_here : PyData) (l_word : PyData) (l_way : PyData) (K : KD) (E : KX) : Prop :=
  f__law_third l_plan_here l_held l_spot_here l_way (fun r1 =>
  ((isNone r1) = true → (K PyData.none)) ∧ ((isNone r1) = false → (eqM l_word (.str "pinch") fun b5 =>
  (b5 = true → (ixM l_spot_here (.int 0) fun r9 =>
  K (.tuple [r1, r9]))) ∧ (b5 = false → (ixM l_spot_here (.int 1) fun r10 =>
  K (.tuple [r10, r1])))))) E
def c__law_moved : CT := fun args Φ Ψ => ∃ (l_plan_here : PyData) (l_held : PyData) (l_spot_here : PyData) (l_word : PyData) (l_way : PyData) (K : KD) (E : KX), args = [.d l_plan_here, .d l_held, .d l_spot_here, .d l_word, .d l_way] ∧ f__law_moved l_plan_here l_held l_spot_here l_word l_way K E ∧ (∀ r, K r → Φ (.rd r) args) ∧ ∀ c, E c → Ψ c args
open Tr
/-- the first corner behind s and ahead of e that has a line with both -/
def thd (n : Int) (cs : List (Int × Int)) (s e : Int) : Option Int := ((List.range ((e - s) % n - 1).toNat).find? fun (k : Nat) => tieB n cs s ((s + k + 1) % n) && tieB n cs e ((s + k + 1) % n)).map fun (k : Nat) => (s + k + 1) % n
def optD : Option Int → PyData
  | none => .none
  | some c => .int c
def wayS (ev : Bool) : Str := if ev then "even" else "odd"
/-- the third corner of a place, by its way -/
def thW (n : Int) (cs : List (Int × Int)) (p : Int × Int) (ev : Bool) : Option Int := if ev then thd n cs p.1 p.2 else thd n cs p.2 p.1
theorem find_map_range {P : Nat → Bool} (a b : Nat) (h : ∀ k, k < a → P k = false) : (List.range (a + b)).find? P = ((List.range b).find? fun j => P (a + j)).map fun j => a + j := by
  induction b with
  | zero =>
    show (List.range a).find? P = _
    exact List.find?_eq_none.mpr fun k hk => by rw [h k (List.mem_range.mp hk)]; decide
  | succ b ih =>
    rw [← Nat.add_assoc, List.range_succ, List.range_succ, List.find?_append, List.find?_append, ih]
    cases (List.range b).find? fun j => P (a + j) with
    | some j => rfl
    | none =>
      show (none.or ([a + b].find? P)) = _
      simp only [Option.map_none, Option.none_or]
      rw [List.find?_cons, List.find?_cons]
      cases P (a + b) <;> rfl
section
variable {K : KD} {Kl : KL} {E : KX} {Kb : KB} {n : Int} {cs : List (Int × Int)}
variable (hp : IsPlan n cs)
include hp
theorem mod_diff {a b : Int} (ha : 0 ≤ a) (ha2 : a < n) (hb : 0 ≤ b) (hb2 : b < n) (hab : a ≠ b) : ((b - a) % n = b - a ∧ a < b ∨ (b - a) % n = b - a + n ∧ b < a) ∧ 0 < (b - a) % n ∧ (b - a) % n < n ∧ (b - a) % n + (a - b) % n = n := by
  have h3 := hp.lo
  by_cases h : a < b
  · have e1 : (b - a) % n = b - a := Int.emod_eq_of_lt (by omega) (by omega)
    have e2 : (a - b) % n = a - b + n := by rw [← Int.add_emod_right, Int.emod_eq_of_lt (by omega) (by omega)]
    refine ⟨.inl ⟨e1, h⟩, ?_, ?_, ?_⟩ <;> omega
  · have e1 : (a - b) % n = a - b := Int.emod_eq_of_lt (by omega) (by omega)
    have e2 : (b - a) % n = b - a + n := by rw [← Int.add_emod_right, Int.emod_eq_of_lt (by omega) (by omega)]
    refine ⟨.inr ⟨e2, by omega⟩, ?_, ?_, ?_⟩ <;> omega
theorem in_near {a b : Int} (ha : 0 ≤ a) (ha2 : a < n) : decide (b ∈ near n cs a) = tieB n cs a b := by
  have q := near_mem hp (b := b) ha ha2
  cases z : tieB n cs a b with
  | true => exact decide_eq_true (q.mpr z)
  | false => exact decide_eq_false fun m => by rw [q.mp m] at z; cases z
theorem e_third_corner {p : Int × Int} {ev : Bool} (h : tieB n cs p.1 p.2 = true) : f_third_corner (plD n cs) (.list ((List.range n.toNat).map fun (i : Nat) => .list ((near n cs i).map .int))) (ppD p) (.str (wayS ev)) K E = K (optD (thW n cs p ev)) := by
  have h3 := hp.lo
  obtain ⟨t0, t1, u0, u1, hne⟩ := tie_lt hp h
  obtain ⟨d1, d2, d3, d4⟩ := mod_diff hp t0 t1 u0 u1 hne
  have hw : decide (wayS ev = ("even" : Str)) = ev := by cases ev <;> decide +kernel
  unfold f_third_corner
  rw [p_un_pp]
  unfold ifM
  dsimp only
  rw [q_eq_ss, hw, q_ite]
  have ec : (cond ev (un2 (.tuple [.int p.1, .int p.2])) (un2 (.tuple [.int p.2, .int p.1]))) = un2 (.tuple [.int (if ev then p.1 else p.2), .int (if ev then p.2 else p.1)]) := by cases ev <;> rfl
  have e0 : ∀ G : PyData → PyData → Prop, cond ev (un2 (.tuple [.int p.1, .int p.2]) G) (un2 (.tuple [.int p.2, .int p.1]) G) = G (.int (if ev then p.1 else p.2)) (.int (if ev then p.2 else p.1)) := fun G => by cases ev <;> rfl
  rw [e0]
  rw [q_ixr t0 (by omega), show ((p.1.toNat : Nat) : Int) = p.1 by omega, q_it_l]
  have en : (near n cs p.1).map PyData.int = ((List.range (n.toNat - 1)).filter fun (k : Nat) => tieB n cs p.1 ((p.1 + k + 1) % n)).map fun (k : Nat) => PyData.int ((p.1 + k + 1) % n) := by unfold near; rw [List.map_map]; rfl
  rw [en]
  have test : ∀ (c : Int) (Q : KB), TL.andM (fun Q => ixM (.list ((List.range n.toNat).map fun (i : Nat) => .list ((near n cs i).map .int))) (.int p.2) fun r17 => inM (.int c) r17 fun b18 => Q b18) (fun Q => ixM (plD n cs) (.int 0) fun r19 => f_between r19 (.int (if ev then p.1 else p.2)) (.int c) (.int (if ev then p.2 else p.1)) (fun r20 => boolM r20 fun b21 => Q b21) E) Q = Q (tieB n cs p.2 c && (decide (0 < (c - (if ev then p.1 else p.2)) % n) && decide ((c - (if ev then p.1 else p.2)) % n < ((if ev then p.2 else p.1) - (if ev then p.1 else p.2)) % n))) := fun c Q => by
    refine q_and' (fun Q => ?_) fun _ Q => ?_
    · rw [q_ixr u0 (by omega), show ((p.2.toNat : Nat) : Int) = p.2 by omega, q_in_ints, in_near hp u0 u1]
    · rw [p_ix_pl0, e_between hp]; rfl
  rw [q_for_find _ _ (fun (k : Nat) => tieB n cs p.2 ((p.1 + (k : Int) + 1) % n) && (decide (0 < (((p.1 + (k : Int) + 1) % n) - (if ev then p.1 else p.2)) % n) && decide ((((p.1 + (k : Int) + 1) % n) - (if ev then p.1 else p.2)) % n < ((if ev then p.2 else p.1) - (if ev then p.1 else p.2)) % n))) (fun (k : Nat) => K (.int ((p.1 + (k : Int) + 1) % n))) fun k hk N => by rw [test, q_ite]]
  rw [find_fil]
  cases ev with
  | true =>
    simp only [if_true]
    have ef : (List.range (n.toNat - 1)).find? (fun (k : Nat) => tieB n cs p.1 ((p.1 + k + 1) % n) && (tieB n cs p.2 ((p.1 + (k : Int) + 1) % n) && (decide (0 < (((p.1 + (k : Int) + 1) % n) - p.1) % n) && decide ((((p.1 + (k : Int) + 1) % n) - p.1) % n < (p.2 - p.1) % n)))) = (List.range ((p.2 - p.1) % n - 1).toNat).find? fun (k : Nat) => tieB n cs p.1 ((p.1 + k + 1) % n) && tieB n cs p.2 ((p.1 + k + 1) % n) := by
      rw [show n.toNat - 1 = ((p.2 - p.1) % n - 1).toNat + (n.toNat - 1 - ((p.2 - p.1) % n - 1).toNat) by omega]
      have dk : ∀ k : Nat, k < n.toNat - 1 → ((p.1 + (k : Int) + 1) % n - p.1) % n = k + 1 := fun k hk => by
        rw [Int.emod_sub_emod, show p.1 + (k : Int) + 1 - p.1 = k + 1 by omega]
        exact Int.emod_eq_of_lt (by omega) (by omega)
      refine find_range _ _ (fun k hk => ?_) fun k k1 k2 => ?_
      · rw [dk k (by omega), decide_eq_true (by omega : (0 : Int) < (k : Int) + 1), decide_eq_true (by omega : (k : Int) + 1 < (p.2 - p.1) % n), Bool.and_self, Bool.and_true]
      · rw [dk k (by omega), decide_eq_false (by omega : ¬ (k : Int) + 1 < (p.2 - p.1) % n)]
        simp
    rw [ef]
    unfold thW thd
    rw [if_pos rfl]
    cases (List.range ((p.2 - p.1) % n - 1).toNat).find? fun (k : Nat) => tieB n cs p.1 ((p.1 + k + 1) % n) && tieB n cs p.2 ((p.1 + k + 1) % n) <;> rfl
  | false =>
    simp only [Bool.false_eq_true, if_false]
    have ef : (List.range (n.toNat - 1)).find? (fun (k : Nat) => tieB n cs p.1 ((p.1 + k + 1) % n) && (tieB n cs p.2 ((p.1 + (k : Int) + 1) % n) && (decide (0 < (((p.1 + (k : Int) + 1) % n) - p.2) % n) && decide ((((p.1 + (k : Int) + 1) % n) - p.2) % n < (p.1 - p.2) % n)))) = ((List.range ((p.1 - p.2) % n - 1).toNat).find? fun (j : Nat) => tieB n cs p.2 ((p.2 + j + 1) % n) && tieB n cs p.1 ((p.2 + j + 1) % n)).map fun j => ((p.2 - p.1) % n).toNat + j := by
      rw [show n.toNat - 1 = ((p.2 - p.1) % n).toNat + ((p.1 - p.2) % n - 1).toNat by omega]
      have sh : ∀ k : Nat, ((p.1 + (k : Int) + 1) % n - p.2) % n = ((k : Int) + 1 - (p.2 - p.1) % n) % n := fun k => by
        rw [Int.emod_sub_emod, Int.sub_emod ((k : Int) + 1), Int.emod_emod, ← Int.sub_emod]
        congr 1; omega
      rw [find_map_range _ _ fun k hk => ?_]
      · congr 1
        refine find_congr fun j hj => ?_
        have hj := List.mem_range.mp hj
        have ej : (p.1 + ((((p.2 - p.1) % n).toNat + j : Nat) : Int) + 1) % n = (p.2 + (j : Int) + 1) % n := by
          rw [show p.1 + ((((p.2 - p.1) % n).toNat + j : Nat) : Int) + 1 = p.1 + (p.2 - p.1) % n + ((j : Int) + 1) by omega, ← Int.emod_add_emod, Int.add_emod_emod, Int.emod_add_emod]
          congr 1; omega
        rw [sh, ej]
        have e5 : (((((p.2 - p.1) % n).toNat + j : Nat) : Int) + 1 - (p.2 - p.1) % n) % n = (j : Int) + 1 := by
          rw [show (((((p.2 - p.1) % n).toNat + j : Nat) : Int) + 1 - (p.2 - p.1) % n) = (j : Int) + 1 by omega]
          exact Int.emod_eq_of_lt (by omega) (by omega)
        rw [e5, decide_eq_true (by omega : (0 : Int) < (j : Int) + 1), decide_eq_true (by omega : (j : Int) + 1 < (p.1 - p.2) % n), Bool.and_self, Bool.and_true, Bool.and_comm]
      · rw [sh]
        by_cases e : (k : Int) + 1 = (p.2 - p.1) % n
        · rw [e, Int.sub_self]; simp
        · have e5 : ((k : Int) + 1 - (p.2 - p.1) % n) % n = (k : Int) + 1 - (p.2 - p.1) % n + n := by
            rw [← Int.add_emod_right, Int.emod_eq_of_lt (by omega) (by omega)]
          rw [e5, decide_eq_false (by omega : ¬ (k : Int) + 1 - (p.2 - p.1) % n + n < (p.1 - p.2) % n)]
          simp
    rw [ef]
    unfold thW thd
    rw [if_neg (by decide)]
    cases (List.range ((p.1 - p.2) % n - 1).toNat).find? fun (j : Nat) => tieB n cs p.2 ((p.2 + j + 1) % n) && tieB n cs p.1 ((p.2 + j + 1) % n) with
    | none => rfl
    | some j =>
      show K (.int ((p.1 + ((((p.2 - p.1) % n).toNat + j : Nat) : Int) + 1) % n)) = K (.int ((p.2 + (j : Int) + 1) % n))
      have ej : (p.1 + ((((p.2 - p.1) % n).toNat + j : Nat) : Int) + 1) % n = (p.2 + (j : Int) + 1) % n := by
        rw [show p.1 + ((((p.2 - p.1) % n).toNat + j : Nat) : Int) + 1 = p.1 + (p.2 - p.1) % n + ((j : Int) + 1) by omega, ← Int.emod_add_emod, Int.add_emod_emod, Int.emod_add_emod]
        congr 1; omega
      rw [ej]
end
end Tx
namespace Tx
open PySem PySem.Spec PyProof.Rows L2 TL
open Tr
theorem three {x y z : Int} (h1 : x ≠ y) (h2 : x ≠ z) (h3 : y ≠ z) : ∃ p : Int × Int × Int, p.1 < p.2.1 ∧ p.2.1 < p.2.2 ∧ ∀ v, v ∈ [x, y, z] ↔ v ∈ [p.1, p.2.1, p.2.2] := by
  have six : ∀ a b c : Int, a < b → b < c → (∀ v, v ∈ [x, y, z] ↔ v ∈ [a, b, c]) → ∃ p : Int × Int × Int, p.1 < p.2.1 ∧ p.2.1 < p.2.2 ∧ ∀ v, v ∈ [x, y, z] ↔ v ∈ [p.1, p.2.1, p.2.2] := fun a b c h1 h2 h3 => ⟨(a, b, c), h1, h2, h3⟩
  rcases Int.lt_or_gt_of_ne h1 with a | a <;> rcases Int.lt_or_gt_of_ne h2 with b | b <;> rcases Int.lt_or_gt_of_ne h3 with c | c
  · exact six x y z a c fun v => Iff.rfl
  · exact six x z y b c fun v => by simp only [List.mem_cons, List.not_mem_nil, or_false]; constructor <;> rintro (h | h | h) <;> simp [h]
  · omega
  · exact six z x y b a fun v => by simp only [List.mem_cons, List.not_mem_nil, or_false]; constructor <;> rintro (h | h | h) <;> simp [h]
  · exact six y x z a b fun v => by simp only [List.mem_cons, List.not_mem_nil, or_false]; constructor <;> rintro (h | h | h) <;> simp [h]
  · omega
  · exact six y z x c b fun v => by simp only [List.mem_cons, List.not_mem_nil, or_false]; constructor <;> rintro (h | h | h) <;> simp [h]
  · exact six z y x c a fun v => by simp only [List.mem_cons, List.not_mem_nil, or_false]; constructor <;> rintro (h | h | h) <;> simp [h]
section
variable {K : KD} {Kl : KL} {E : KX} {Kb : KB} {n : Int} {T : Tr}
variable (h3 : 3 ≤ n) (h40 : n ≤ 40) (hT : T.sz = n - 1)
include h3 h40 hT
/-- three corners that are tied are a part's -/
theorem tri_of {x y z : Int} (t1 : tieB n (plT n T) x y = true) (t2 : tieB n (plT n T) x z = true) (t3 : tieB n (plT n T) y z = true) : ∃ q ∈ T.pts 1 true, (∀ v, v ∈ [x, y, z] ↔ corB v (tri n q.1) = true) ∧ ∀ Kl : KL, sortM (.list [.int x, .int y, .int z]) Kl = Kl ((k3 (tri n q.1)).map kD) := by
  have hp := plT_ok h3 h40 hT
  have b1 := tie_lt hp t1
  have b2 := tie_lt hp t2
  have b3 := tie_lt hp t3
  obtain ⟨p, p1, p2, pm⟩ := three b1.2.2.2.2 b2.2.2.2.2 b3.2.2.2.2
  have all : ∀ u ∈ [x, y, z], ∀ v ∈ [x, y, z], u ≠ v → tieB n (plT n T) u v = true := fun u hu v hv hne => by
    have s1 : tieB n (plT n T) y x = true := by rw [tie_sym]; exact t1
    have s2 : tieB n (plT n T) z x = true := by rw [tie_sym]; exact t2
    have s3 : tieB n (plT n T) z y = true := by rw [tie_sym]; exact t3
    simp only [List.mem_cons, List.not_mem_nil, or_false] at hu hv
    rcases hu with rfl | rfl | rfl <;> rcases hv with rfl | rfl | rfl <;> first | exact absurd rfl hne | assumption
  have m1 := (pm p.1).mpr (by simp)
  have m2 := (pm p.2.1).mpr (by simp)
  have m3 := (pm p.2.2).mpr (by simp)
  have a12 := all _ m1 _ m2 (by omega)
  have a13 := all _ m1 _ m3 (by omega)
  have a23 := all _ m2 _ m3 (by omega)
  have l1 := tie_lt hp a13
  have lok := lines_ok hp
  have hm : p ∈ apL n (plT n T) := by
    unfold apL
    refine List.mem_flatMap.mpr ⟨(p.1, p.2.1), ?_, ?_⟩
    · have a := a12
      unfold tieB at a
      rw [decide_eq_true_iff, mem_both hp] at a
      rcases a with a | a
      · exact a
      · have := lok.lt _ a; simp only at this; omega
    · unfold rowAP
      refine List.mem_map.mpr ⟨(p.2.2 - (p.2.1 + 1)).toNat, List.mem_filter.mpr ⟨List.mem_range.mpr (by simp only; omega), ?_⟩, ?_⟩
      · simp only
        rw [show p.2.1 + 1 + ((p.2.2 - (p.2.1 + 1)).toNat : Int) = p.2.2 by omega, a13, a23]; rfl
      · simp only
        rw [show p.2.1 + 1 + ((p.2.2 - (p.2.1 + 1)).toNat : Int) = p.2.2 by omega]
  obtain ⟨q, hq, e⟩ := (mem_apL h3 h40 hT).mp hm
  subst e
  refine ⟨q, hq, fun v => by rw [pm, corB_iff]; simp, fun Kl => ?_⟩
  have nd : [x, y, z].Nodup := by simp; exact ⟨⟨b1.2.2.2.2, b2.2.2.2.2⟩, b3.2.2.2.2⟩
  exact sort3 (ms := [(tri n q.1).1, (tri n q.1).2.1, (tri n q.1).2.2]) nd (by simp; omega) pm
/-- a part's corners are tied -/
theorem pts_tie {q : (Int × Int × Int) × Bool} (hq : q ∈ T.pts 1 true) {u v : Int} (hu : corB u (tri n q.1) = true) (hv : corB v (tri n q.1) = true) (hne : u ≠ v) : tieB n (plT n T) u v = true := by
  have hp := plT_ok h3 h40 hT
  have lok := lines_ok hp
  have hm := (mem_apL h3 h40 hT).mpr ⟨q, hq, rfl⟩
  obtain ⟨p, hpm, hx⟩ := List.mem_flatMap.mp hm
  unfold rowAP at hx
  obtain ⟨j, hj, e⟩ := List.mem_map.mp hx
  obtain ⟨_, hj2⟩ := List.mem_filter.mp hj
  obtain ⟨t1, t2⟩ := Bool.and_eq_true_iff.mp hj2
  have t0 : tieB n (plT n T) p.1 p.2 = true := by
    unfold tieB
    rw [decide_eq_true_iff, mem_both hp]
    exact .inl hpm
  rw [← e] at hu hv
  have hu := corB_iff.mp hu
  have hv := corB_iff.mp hv
  simp only at hu hv
  have s1 : tieB n (plT n T) p.2 p.1 = true := by rw [tie_sym]; exact t0
  have s2 : tieB n (plT n T) (p.2 + 1 + (j : Int)) p.1 = true := by rw [tie_sym]; exact t1
  have s3 : tieB n (plT n T) (p.2 + 1 + (j : Int)) p.2 = true := by rw [tie_sym]; exact t2
  rcases hu with rfl | rfl | rfl <;> rcases hv with rfl | rfl | rfl <;> first | exact absurd rfl hne | assumption
/-- a part's third corner -/
theorem pts_third {q : (Int × Int × Int) × Bool} (hq : q ∈ T.pts 1 true) {u v : Int} (hu : corB u (tri n q.1) = true) (hv : corB v (tri n q.1) = true) (hne : u ≠ v) : ∃ c, corB c (tri n q.1) = true ∧ c ≠ u ∧ c ≠ v := by
  have t1 := pts_tri1 h3 h40 hT hq
  have hd : (tri n q.1).1 < (tri n q.1).2.1 ∧ (tri n q.1).2.1 < (tri n q.1).2.2 := by
    obtain ⟨x1, x2, x3, x4⟩ := t1
    rcases tri_cases (pts_tri1 h3 h40 hT hq) with ⟨e1, f1⟩ | ⟨e1, f1⟩ <;> rw [f1] <;> (try dsimp only) <;> omega
  have hu := corB_iff.mp hu
  have hv := corB_iff.mp hv
  generalize tri n q.1 = p at *
  rcases hu with rfl | rfl | rfl <;> rcases hv with rfl | rfl | rfl <;> first
    | exact absurd rfl hne
    | exact ⟨p.1, corB_iff.mpr (.inl rfl), by omega, by omega⟩
    | exact ⟨p.2.1, corB_iff.mpr (.inr (.inl rfl)), by omega, by omega⟩
    | exact ⟨p.2.2, corB_iff.mpr (.inr (.inr rfl)), by omega, by omega⟩
end
end Tx
namespace Tx
open PySem PySem.Spec PyProof.Rows L2 TL
open Tr
/-- between two corners, going round from the first one -/
def btw (n s c e : Int) : Bool := decide (0 < (c - s) % n) && decide ((c - s) % n < (e - s) % n)
theorem btw_iff {n s c e : Int} : btw n s c e = true ↔ 0 < (c - s) % n ∧ (c - s) % n < (e - s) % n := by
  unfold btw
  rw [Bool.and_eq_true_iff, decide_eq_true_iff, decide_eq_true_iff]
def goL (n s e : Int) : List Int := (List.range ((e - s) % n - 1).toNat).map fun (k : Nat) => (s + k + 1) % n
section
variable {K : KD} {Kl : KL} {E : KX} {Kb : KB} {n : Int} {cs : List (Int × Int)}
variable (hp : IsPlan n cs)
include hp
theorem i__law_going' {s e : Int} (s0 : 0 ≤ s) (s1 : s < n) (e0 : 0 ≤ e) (e1 : e < n) (hne : s ≠ e) (hK : Kl ((goL n s e).map .int)) : f__law_going (.int n) (.int s) (.int e) Kl E := by
  have h3 := hp.lo
  have h40 := hp.hi
  have hsl := sizeLine_eq
  obtain ⟨d1, d2, d3, d4⟩ := mod_diff hp s0 s1 e0 e1 hne
  unfold f__law_going
  simp only [q_add_ii, q_add_ss, q_add_ll, q_add_tt, q_addL, q_sub, q_mul, q_div, q_mod, q_neg, q_bool, q_eq_ii, q_eq_ss, q_eq_bb, q_ne_ii, q_ne_ss, q_ne_bb, q_lt, q_le, q_gt, q_ge, q_un2, q_un3, q_un4, q_intO, q_len_l, q_len_t, q_len_s, q_abs, q_int_i, q_int_b, q_tup_l, q_tup_t, q_list_l, q_list_t, q_min, q_max, q_it_l, q_it_t, q_rng, q_enu_l, q_enu_t, q_rev, q_sl_l, q_sl_t, q_sl_s, q_slL, q_all, q_any, q_sum, q_sort_pp, q_and, q_or, q_ite, q_join, cond_true, cond_false, true_and, and_true, decide_eq_true_eq, decide_true, decide_false, p_un_pl, p_ix_pl0, p_ix_pl1, p_un_pp, p_ix_pp0, p_ix_pp1, p_mk, p_eq, p_ne, p_in, p_notIn, p_lt, show 0 < n by omega]
  rw [show PyData.int ((s + 1) % n) = PyData.int ((s + ((0 : Nat) : Int) + 1) % n) by simp]
  refine while_seq2 ((e - s) % n - 1).toNat (fun i => (((List.range i).map fun (j : Nat) => PyData.int ((s + j + 1) % n)), PyData.int ((s + (i : Int) + 1) % n))) (fun i hi N hN => ?_) (fun N => ?_)
  · have ne : ¬ ((s + (i : Int) + 1) % n = e) := fun z => by
      have : ((i : Int) + 1) % n = (e - s) % n := by
        rw [← z, Int.emod_sub_emod]; congr 1; omega
      rw [Int.emod_eq_of_lt (by omega) (by omega)] at this
      omega
    simp only [q_add_ii, q_add_ss, q_add_ll, q_add_tt, q_addL, q_sub, q_mul, q_div, q_mod, q_neg, q_bool, q_eq_ii, q_eq_ss, q_eq_bb, q_ne_ii, q_ne_ss, q_ne_bb, q_lt, q_le, q_gt, q_ge, q_un2, q_un3, q_un4, q_intO, q_len_l, q_len_t, q_len_s, q_abs, q_int_i, q_int_b, q_tup_l, q_tup_t, q_list_l, q_list_t, q_min, q_max, q_it_l, q_it_t, q_rng, q_enu_l, q_enu_t, q_rev, q_sl_l, q_sl_t, q_sl_s, q_slL, q_all, q_any, q_sum, q_sort_pp, q_and, q_or, q_ite, q_join, cond_true, cond_false, true_and, and_true, decide_eq_true_eq, decide_true, decide_false, p_un_pl, p_ix_pl0, p_ix_pl1, p_un_pp, p_ix_pp0, p_ix_pp1, p_mk, p_eq, p_ne, p_in, p_notIn, p_lt, show 0 < n by omega, List.length_map, List.length_range]
    rw [decide_eq_false ne, Bool.not_false, cond_true]
    refine ⟨by omega, ?_⟩
    rw [List.range_succ, List.map_append, List.map_cons, List.map_nil] at hN
    have ee : ((s + (i : Int) + 1) % n + 1) % n = (s + ((i + 1 : Nat) : Int) + 1) % n := by
      rw [Int.emod_add_emod]; congr 1; omega
    rw [ee]
    exact hN
  · have ee : (s + ((((e - s) % n - 1).toNat : Nat) : Int) + 1) % n = e := by
      rw [show s + ((((e - s) % n - 1).toNat : Nat) : Int) + 1 = s + (e - s) % n by omega, Int.add_emod_emod, show s + (e - s) = e by omega]
      exact Int.emod_eq_of_lt e0 e1
    simp only [q_add_ii, q_add_ss, q_add_ll, q_add_tt, q_addL, q_sub, q_mul, q_div, q_mod, q_neg, q_bool, q_eq_ii, q_eq_ss, q_eq_bb, q_ne_ii, q_ne_ss, q_ne_bb, q_lt, q_le, q_gt, q_ge, q_un2, q_un3, q_un4, q_intO, q_len_l, q_len_t, q_len_s, q_abs, q_int_i, q_int_b, q_tup_l, q_tup_t, q_list_l, q_list_t, q_min, q_max, q_it_l, q_it_t, q_rng, q_enu_l, q_enu_t, q_rev, q_sl_l, q_sl_t, q_sl_s, q_slL, q_all, q_any, q_sum, q_sort_pp, q_and, q_or, q_ite, q_join, cond_true, cond_false, true_and, and_true, decide_eq_true_eq, decide_true, decide_false, p_un_pl, p_ix_pl0, p_ix_pl1, p_un_pp, p_ix_pp0, p_ix_pp1, p_mk, p_eq, p_ne, p_in, p_notIn, p_lt]
    rw [ee, decide_eq_true rfl]
    simp only [Bool.not_true, cond_false]
    unfold goL at hK
    rw [List.map_map] at hK
    exact hK
theorem mem_goL {s c e : Int} (s0 : 0 ≤ s) (s1 : s < n) (c0 : 0 ≤ c) (c1 : c < n) (e0 : 0 ≤ e) (e1 : e < n) (hne : s ≠ e) : decide (c ∈ goL n s e) = btw n s c e := by
  have h3 := hp.lo
  obtain ⟨d1, d2, d3, d4⟩ := mod_diff hp s0 s1 e0 e1 hne
  rw [Bool.eq_iff_iff, decide_eq_true_iff, btw_iff]
  unfold goL
  rw [List.mem_map]
  constructor
  · rintro ⟨k, hk, rfl⟩
    have hk := List.mem_range.mp hk
    have : ((s + (k : Int) + 1) % n - s) % n = k + 1 := by
      rw [Int.emod_sub_emod, show s + (k : Int) + 1 - s = k + 1 by omega]
      exact Int.emod_eq_of_lt (by omega) (by omega)
    omega
  · rintro ⟨h1, h2⟩
    refine ⟨((c - s) % n - 1).toNat, List.mem_range.mpr (by omega), ?_⟩
    rw [show s + ((((c - s) % n - 1).toNat : Nat) : Int) + 1 = s + (c - s) % n by omega, Int.add_emod_emod, show s + (c - s) = c by omega]
    exact Int.emod_eq_of_lt c0 c1
theorem thd_eq (s e : Int) : thd n cs s e = (goL n s e).find? fun c => tieB n cs s c && tieB n cs e c := by
  unfold thd goL
  rw [List.find?_map]
  rfl
theorem i__law_third {p : Int × Int} {ev : Bool} (h : tieB n cs p.1 p.2 = true) (hK : K (optD (thW n cs p ev))) : f__law_third (plD n cs) (dTd (tied (linesOf n cs))) (ppD p) (.str (wayS ev)) K E := by
  have h3 := hp.lo
  obtain ⟨t0, t1, u0, u1, hne⟩ := tie_lt hp h
  have hw : decide (wayS ev = ("odd" : Str)) = !ev := by cases ev <;> decide +kernel
  unfold f__law_third
  rw [p_un_pp]
  rw [q_join, q_eq_ss, hw, q_ite]
  have main : ∀ s e : Int, 0 ≤ s → s < n → 0 ≤ e → e < n → s ≠ e → K (optD (thd n cs s e)) → (match ((.int s, .int e) : PyData × PyData) with | (l_top11, l_under12) => ixM (plD n cs) (.int 0) fun r14 => f__law_going r14 l_top11 l_under12 (fun r15 => itM (.list r15) fun xs13 => TL.forM (fun l_corner17 (_ : Unit) N18 B19 => TL.andM (fun Q => inDM (dTd (tied (linesOf n cs))) (.tuple [l_corner17, l_top11]) fun b22 => Q b22) (fun Q => inDM (dTd (tied (linesOf n cs))) (.tuple [l_corner17, l_under12]) fun b23 => Q b23) fun b21 => (b21 = true → (K l_corner17)) ∧ (b21 = false → (N18 ()))) (fun (_ : Unit) => K PyData.none) xs13 ()) E) := fun s e s0 s1 e0 e1 hne hK => by
    dsimp only
    rw [p_ix_pl0]
    refine i__law_going' hp s0 s1 e0 e1 hne ?_
    rw [q_it_l]
    have test : ∀ (c : Int) (Q : KB), TL.andM (fun Q => inDM (dTd (tied (linesOf n cs))) (.tuple [.int c, .int s]) fun b22 => Q b22) (fun Q => inDM (dTd (tied (linesOf n cs))) (.tuple [.int c, .int e]) fun b23 => Q b23) Q = Q (tieB n cs s c && tieB n cs e c) := fun c Q => by
      refine q_and' (fun Q => ?_) fun _ Q => ?_
      · rw [q_inD', tie_sym]; exact q_inT (p := (c, s))
      · rw [q_inD', tie_sym]; exact q_inT (p := (c, e))
    rw [q_for_find (goL n s e) PyData.int (fun c => tieB n cs s c && tieB n cs e c) (fun c => K (.int c)) fun c hc N => by rw [test, q_ite]]
    rw [thd_eq hp] at hK
    cases hf : (goL n s e).find? fun c => tieB n cs s c && tieB n cs e c with
    | none => rw [hf] at hK; exact hK
    | some c => rw [hf] at hK; exact hK
  unfold thW at hK
  cases ev with
  | true => exact main p.1 p.2 t0 t1 u0 u1 hne hK
  | false => exact main p.2 p.1 u0 u1 t0 t1 (Ne.symm hne) hK
/-- lines do not cross -/
theorem noX {a b c d : Int} (h1 : tieB n cs a b = true) (h2 : tieB n cs c d = true) (x1 : a < c) (x2 : c < b) (x3 : b < d) : False := by
  have lok := lines_ok hp
  have b1 := tie_lt hp h1
  have b2 := tie_lt hp h2
  have one : ∀ x y : Int, x < y → tieB n cs x y = true → (x, y) ∈ linesOf n cs := fun x y hxy h => by
    unfold tieB at h
    rw [decide_eq_true_iff, mem_both hp] at h
    rcases h with h | h
    · exact h
    · have := lok.lt _ h; simp only at this; omega
  have m1 := one a b (by omega) h1
  have m2 := one c d (by omega) h2
  have cut : ∀ x y : Int, x + 1 < y → ¬ (x = 0 ∧ y = n - 1) → (x, y) ∈ linesOf n cs → (x, y) ∈ cs := fun x y hxy hn h => by
    rcases (mem_lines hp.lo).mp h with h | h | h
    · simp only at h; omega
    · exact absurd ⟨congrArg Prod.fst h, congrArg Prod.snd h⟩ hn
    · exact h
  have := hp.noc _ (cut a b (by omega) (by omega) m1) _ (cut c d (by omega) (by omega) m2)
  rw [cross_eq] at this
  have := of_decide_eq_false this
  simp only at this
  omega
theorem uniq_side {t u c d : Int} (h : tieB n cs t u = true) (c1 : tieB n cs t c = true) (c2 : tieB n cs u c = true) (d1 : tieB n cs t d = true) (d2 : tieB n cs u d = true) (bc : btw n u c t = true) (bd : btw n u d t = true) : c = d := by
  have key : ∀ c d : Int, tieB n cs t c = true → tieB n cs u c = true → tieB n cs t d = true → tieB n cs u d = true → btw n u c t = true → btw n u d t = true → (c - u) % n < (d - u) % n → False := fun c d c1 c2 d1 d2 bc bd lt => by
    have bc := btw_iff.mp bc
    have bd := btw_iff.mp bd
    have h0 := tie_lt hp h
    have hc := tie_lt hp c1
    have hd := tie_lt hp d1
    have hc2 := tie_lt hp c2
    have hd2 := tie_lt hp d2
    obtain ⟨mt, _, _, _⟩ := mod_diff hp (a := u) (b := t) (by omega) (by omega) (by omega) (by omega) (by omega)
    obtain ⟨mc, _, _, _⟩ := mod_diff hp (a := u) (b := c) (by omega) (by omega) (by omega) (by omega) (by omega)
    obtain ⟨md, _, _, _⟩ := mod_diff hp (a := u) (b := d) (by omega) (by omega) (by omega) (by omega) (by omega)
    have sym : ∀ {x y : Int}, tieB n cs x y = true → tieB n cs y x = true := fun h => by rw [tie_sym]; exact h
    have hcase : (u < c ∧ c < d ∧ d < t) ∨ (c < d ∧ d < t ∧ t < u) ∨ (d < t ∧ t < u ∧ u < c) ∨ (t < u ∧ u < c ∧ c < d) := by omega
    rcases hcase with ⟨x1, x2, x3⟩ | ⟨x1, x2, x3⟩ | ⟨x1, x2, x3⟩ | ⟨x1, x2, x3⟩
    · exact noX hp d2 (sym c1) x1 x2 x3
    · exact noX hp (sym c1) (sym d2) x1 x2 x3
    · exact noX hp (sym d2) c1 x1 x2 x3
    · exact noX hp c1 d2 x1 x2 x3
  rcases Int.lt_trichotomy ((c - u) % n) ((d - u) % n) with x | x | x
  · exact (key c d c1 c2 d1 d2 bc bd x).elim
  · have hc := tie_lt hp c1
    have hd := tie_lt hp d1
    have h0 := tie_lt hp h
    have hc2 := tie_lt hp c2
    have hd2 := tie_lt hp d2
    obtain ⟨mc, _, _, _⟩ := mod_diff hp (a := u) (b := c) (by omega) (by omega) (by omega) (by omega) (by omega)
    obtain ⟨md, _, _, _⟩ := mod_diff hp (a := u) (b := d) (by omega) (by omega) (by omega) (by omega) (by omega)
    omega
  · exact (key d c d1 d2 c1 c2 bd bc x).elim
/-- of a corner that is neither: it lies on one side alone -/
theorem btw_other {t u c : Int} (t0 : 0 ≤ t) (t1 : t < n) (u0 : 0 ≤ u) (u1 : u < n) (c0 : 0 ≤ c) (c1 : c < n) (h : t ≠ u) (hc : c ≠ t) (hc2 : c ≠ u) : btw n t c u = !btw n u c t := by
  have h3 := hp.lo
  obtain ⟨a1, _, _, _⟩ := mod_diff hp t0 t1 u0 u1 h
  obtain ⟨a2, _, _, _⟩ := mod_diff hp u0 u1 t0 t1 (Ne.symm h)
  obtain ⟨a3, _, _, _⟩ := mod_diff hp t0 t1 c0 c1 (Ne.symm hc)
  obtain ⟨a4, _, _, _⟩ := mod_diff hp u0 u1 c0 c1 (Ne.symm hc2)
  unfold btw
  rw [Bool.eq_iff_iff]
  simp only [Bool.and_eq_true, decide_eq_true_eq, Bool.not_eq_true', Bool.and_eq_false_iff, decide_eq_false_iff_not]
  omega
/-- the ring of three corners may be turned -/
theorem btw_turn {t u c : Int} (t0 : 0 ≤ t) (t1 : t < n) (u0 : 0 ≤ u) (u1 : u < n) (c0 : 0 ≤ c) (c1 : c < n) (h : t ≠ u) (hc : c ≠ t) (hc2 : c ≠ u) : btw n t u c = btw n u c t := by
  have h3 := hp.lo
  obtain ⟨a1, _, _, _⟩ := mod_diff hp t0 t1 u0 u1 h
  obtain ⟨a2, _, _, _⟩ := mod_diff hp u0 u1 t0 t1 (Ne.symm h)
  obtain ⟨a3, _, _, _⟩ := mod_diff hp t0 t1 c0 c1 (Ne.symm hc)
  obtain ⟨a4, _, _, _⟩ := mod_diff hp u0 u1 c0 c1 (Ne.symm hc2)
  unfold btw
  rw [Bool.eq_iff_iff]
  simp only [Bool.and_eq_true, decide_eq_true_eq]
  omega
/-- what the third corner tells -/
theorem thd_some {s e c : Int} (h : tieB n cs s e = true) (ht : thd n cs s e = some c) : tieB n cs s c = true ∧ tieB n cs e c = true ∧ btw n s c e = true := by
  obtain ⟨s0, s1, e0, e1, hne⟩ := tie_lt hp h
  rw [thd_eq hp] at ht
  have h1 := List.find?_some (p := fun c => tieB n cs s c && tieB n cs e c) ht
  have h2 := List.mem_of_find?_eq_some ht
  obtain ⟨a, b⟩ := Bool.and_eq_true_iff.mp h1
  obtain ⟨_, _, c0, c1, _⟩ := tie_lt hp a
  exact ⟨a, b, by rw [← mem_goL hp s0 s1 c0 c1 e0 e1 hne]; exact decide_eq_true h2⟩
theorem thd_none {s e c : Int} (h : tieB n cs s e = true) (ht : thd n cs s e = none) (h1 : tieB n cs s c = true) (h2 : tieB n cs e c = true) (hb : btw n s c e = true) : False := by
  obtain ⟨s0, s1, e0, e1, hne⟩ := tie_lt hp h
  obtain ⟨_, _, c0, c1, _⟩ := tie_lt hp h1
  rw [thd_eq hp] at ht
  rw [← mem_goL hp s0 s1 c0 c1 e0 e1 hne] at hb
  have := List.find?_eq_none.mp ht c (of_decide_eq_true hb)
  rw [h1, h2] at this
  exact this rfl
theorem thd_is {s e c : Int} (h : tieB n cs s e = true) (h1 : tieB n cs s c = true) (h2 : tieB n cs e c = true) (hb : btw n s c e = true) : thd n cs s e = some c := by
  cases ht : thd n cs s e with
  | none => exact (thd_none hp h ht h1 h2 hb).elim
  | some d =>
    obtain ⟨a, b, e'⟩ := thd_some hp h ht
    have h' : tieB n cs e s = true := by rw [tie_sym]; exact h
    rw [uniq_side hp h' b a h2 h1 e' hb]
end
end Tx
namespace Tx
open PySem PySem.Spec PyProof.Rows L2 TL
open Tr
theorem tri_set {p : Int × Int × Int} {t u c : Int} (ht : corB t p = true) (hu : corB u p = true) (hc : corB c p = true) (h1 : t ≠ u) (h2 : c ≠ t) (h3 : c ≠ u) (v : Int) : corB v p = true ↔ v = t ∨ v = u ∨ v = c := by
  have ht := corB_iff.mp ht
  have hu := corB_iff.mp hu
  have hc := corB_iff.mp hc
  rw [corB_iff]
  omega
theorem tri_eq {p q : Int × Int × Int} (hp : p.1 < p.2.1 ∧ p.2.1 < p.2.2) (hq : q.1 < q.2.1 ∧ q.2.1 < q.2.2) (h : ∀ v, corB v p = true ↔ corB v q = true) : p = q := by
  have a1 := corB_iff.mp ((h p.1).mp (corB_iff.mpr (.inl rfl)))
  have a2 := corB_iff.mp ((h p.2.1).mp (corB_iff.mpr (.inr (.inl rfl))))
  have a3 := corB_iff.mp ((h p.2.2).mp (corB_iff.mpr (.inr (.inr rfl))))
  have b1 := corB_iff.mp ((h q.1).mpr (corB_iff.mpr (.inl rfl)))
  have b2 := corB_iff.mp ((h q.2.1).mpr (corB_iff.mpr (.inr (.inl rfl))))
  have b3 := corB_iff.mp ((h q.2.2).mpr (corB_iff.mpr (.inr (.inr rfl))))
  refine Prod.ext ?_ (Prod.ext ?_ ?_) <;> omega
theorem two_shared {p q : Int × Int × Int} {t u c : Int} (hp : p.1 < p.2.1 ∧ p.2.1 < p.2.2) (ht : corB t p = true) (hu : corB u p = true) (hc : corB c p = true) (h1 : t ≠ u) (h2 : c ≠ t) (h3 : c ≠ u) (qt : corB t q = true) (qu : corB u q = true) (qc : corB c q = false) : cnt3 p q = 2 := by
  have ht := corB_iff.mp ht
  have hu := corB_iff.mp hu
  have hc := corB_iff.mp hc
  unfold cnt3
  rw [len_fil3]
  rcases ht with rfl | rfl | rfl <;> rcases hu with rfl | rfl | rfl <;> first
    | exact absurd rfl h1
    | (rcases hc with rfl | rfl | rfl <;> first | exact absurd rfl h2 | exact absurd rfl h3 | (simp only [qt, qu, qc]; rfl))
section
variable {K : KD} {Kl : KL} {E : KX} {Kb : KB} {n : Int} {T : Tr}
variable (h3 : 3 ≤ n) (h40 : n ≤ 40) (hT : T.sz = n - 1)
include h3 h40 hT
theorem tri_lt {q : (Int × Int × Int) × Bool} (hq : q ∈ T.pts 1 true) : (tri n q.1).1 < (tri n q.1).2.1 ∧ (tri n q.1).2.1 < (tri n q.1).2.2 := by
  obtain ⟨x1, x2, x3, x4⟩ := pts_tri1 h3 h40 hT hq
  rcases tri_cases (pts_tri1 h3 h40 hT hq) with ⟨e1, f1⟩ | ⟨e1, f1⟩ <;> rw [f1] <;> (try dsimp only) <;> omega
/-- the part by its corners -/
theorem part_by {p q : (Int × Int × Int) × Bool} (hp : p ∈ T.pts 1 true) (hq : q ∈ T.pts 1 true) {t u c : Int} (h1 : t ≠ u) (h2 : c ≠ t) (h4 : c ≠ u) (pt : corB t (tri n p.1) = true) (pu : corB u (tri n p.1) = true) (pc : corB c (tri n p.1) = true) (qt : corB t (tri n q.1) = true) (qu : corB u (tri n q.1) = true) (qc : corB c (tri n q.1) = true) : p = q :=
  tri_inj h3 h40 hT hp hq (tri_eq (tri_lt h3 h40 hT hp) (tri_lt h3 h40 hT hq) fun v => by rw [tri_set pt pu pc h1 h2 h4, tri_set qt qu qc h1 h2 h4])
/-- a place is upright: told by a part at it -/
structure Up (n : Int) (T : Tr) (t u : Int) (b : Bool) (q : (Int × Int × Int) × Bool) (c : Int) : Prop where
  hq : q ∈ T.pts 1 true
  ct : corB t (tri n q.1) = true
  cu : corB u (tri n q.1) = true
  cc : corB c (tri n q.1) = true
  c1 : c ≠ t
  c2 : c ≠ u
  val : b = (q.2 == btw n u c t)
theorem up_uniq {t u : Int} (h : t ≠ u) {b b' : Bool} {q q' : (Int × Int × Int) × Bool} {c c' : Int} (x : Up n T t u b q c) (y : Up n T t u b' q' c') : b = b' := by
  have hp := plT_ok h3 h40 hT
  by_cases e : corB c (tri n q'.1) = true
  · have eq : q = q' := part_by h3 h40 hT x.hq y.hq h x.c1 x.c2 x.ct x.cu x.cc y.ct y.cu e
    subst eq
    have : c' = c := by
      have := (tri_set x.ct x.cu x.cc h x.c1 x.c2 c').mp y.cc
      have := y.c1
      have := y.c2
      omega
    rw [x.val, y.val, this]
  · have e := Bool.eq_false_iff.mpr e
    have two := two_shared (tri_lt h3 h40 hT x.hq) x.ct x.cu x.cc h x.c1 x.c2 y.ct y.cu e
    rw [cnt3_tri (pts_tri1 h3 h40 hT x.hq) (pts_tri1 h3 h40 hT y.hq)] at two
    have op := adj_op x.hq y.hq two
    have tt := pts_tie h3 h40 hT x.hq x.ct x.cu h
    have a1 := pts_tie h3 h40 hT x.hq x.ct x.cc (Ne.symm x.c1)
    have a2 := pts_tie h3 h40 hT x.hq x.cu x.cc (Ne.symm x.c2)
    have b1 := pts_tie h3 h40 hT y.hq y.ct y.cc (Ne.symm y.c1)
    have b2 := pts_tie h3 h40 hT y.hq y.cu y.cc (Ne.symm y.c2)
    have tt' : tieB n (plT n T) u t = true := by rw [tie_sym]; exact tt
    obtain ⟨t0, t1, u0, u1, _⟩ := tie_lt hp tt
    obtain ⟨_, _, c0, c1, _⟩ := tie_lt hp a1
    obtain ⟨_, _, d0, d1, _⟩ := tie_lt hp b1
    have o1 := btw_other hp t0 t1 u0 u1 c0 c1 h x.c1 x.c2
    have o2 := btw_other hp t0 t1 u0 u1 d0 d1 h y.c1 y.c2
    have ne : c ≠ c' := fun z => by rw [z, y.cc] at e; cases e
    have : btw n u c t = !btw n u c' t := by
      cases v1 : btw n u c t <;> cases v2 : btw n u c' t <;> first | rfl | exfalso
      · rw [v1] at o1
        rw [v2] at o2
        exact ne (uniq_side hp tt' a2 a1 b2 b1 o1 o2)
      · exact ne (uniq_side hp tt a1 a2 b1 b2 v1 v2)
    rw [x.val, y.val, op, this]
    cases q'.2 <;> cases btw n u c' t <;> rfl
/-- each line has a part -/
theorem line_part {t u : Int} (h : tieB n (plT n T) t u = true) : ∃ q ∈ T.pts 1 true, corB t (tri n q.1) = true ∧ corB u (tri n q.1) = true := by
  have hp := plT_ok h3 h40 hT
  have key : ∀ x y : Int, 1 ≤ x → x < y → y ≤ n → (x, y) ∈ T.arcF 1 → ∃ q ∈ T.pts 1 true, corB x (tri n q.1) = true ∧ corB (y % n) (tri n q.1) = true := fun x y h1 h2 h4 ha => by
    obtain ⟨w, hw, ew⟩ := arc_sub ha
    simp only at hw ew
    cases w with
    | lf =>
      have : (Tr.lf).sz = 1 := rfl
      obtain ⟨q, hq, c1, c2⟩ := tri_side h3 h40 hT (x := x) (by omega) (by omega)
      exact ⟨q, hq, c1, by rw [show y = x + 1 by omega]; exact c2⟩
    | nd a b =>
      have esz : (Tr.nd a b).sz = a.sz + b.sz := rfl
      obtain ⟨g, hg⟩ := sub_pts (h := true) hw
      have t1 := pts_tri1 h3 h40 hT hg
      refine ⟨_, hg, ?_, ?_⟩
      · have e := corB_tri t1 (x := x) (by omega) (by omega)
        rw [show tri0 n x = x by unfold tri0; rw [if_neg (by omega)]] at e
        rw [e]
        exact corB_iff.mpr (.inl rfl)
      · rw [show y % n = tri0 n y by
          unfold tri0
          split
          · rename_i z; rw [z, Int.emod_self]
          · exact Int.emod_eq_of_lt (by omega) (by omega), corB_tri t1 (by omega) (by omega)]
        exact corB_iff.mpr (.inr (.inr (by simp only; omega)))
  obtain ⟨t0, t1, u0, u1, hne⟩ := tie_lt hp h
  have h' : tieB n (plT n T) u t = true := by rw [tie_sym]; exact h
  by_cases e0 : t = 0
  · subst e0
    have := (tieT h3 h40 hT (x := u) (y := n) (by omega) (by omega) (Int.le_refl _)).mp (by rw [Int.emod_self]; exact h')
    obtain ⟨q, hq, c1, c2⟩ := key u n (by omega) (by omega) (Int.le_refl _) this
    exact ⟨q, hq, by rw [Int.emod_self] at c2; exact c2, c1⟩
  · by_cases e1 : u = 0
    · subst e1
      have := (tieT h3 h40 hT (x := t) (y := n) (by omega) (by omega) (Int.le_refl _)).mp (by rw [Int.emod_self]; exact h)
      obtain ⟨q, hq, c1, c2⟩ := key t n (by omega) (by omega) (Int.le_refl _) this
      exact ⟨q, hq, c1, by rw [Int.emod_self] at c2; exact c2⟩
    · by_cases lt : t < u
      · have := (tieT h3 h40 hT (x := t) (y := u) (by omega) lt (by omega)).mp (by rw [Int.emod_eq_of_lt (by omega) (by omega)]; exact h)
        obtain ⟨q, hq, c1, c2⟩ := key t u (by omega) lt (by omega) this
        exact ⟨q, hq, c1, by rw [Int.emod_eq_of_lt (by omega) (by omega)] at c2; exact c2⟩
      · have := (tieT h3 h40 hT (x := u) (y := t) (by omega) (by omega) (by omega)).mp (by rw [Int.emod_eq_of_lt (by omega) (by omega)]; exact h')
        obtain ⟨q, hq, c1, c2⟩ := key u t (by omega) (by omega) (by omega) this
        exact ⟨q, hq, by rw [Int.emod_eq_of_lt (by omega) (by omega)] at c2; exact c2, c1⟩
theorem up_ex {t u : Int} (h : tieB n (plT n T) t u = true) : ∃ b q c, Up n T t u b q c := by
  have hp := plT_ok h3 h40 hT
  obtain ⟨_, _, _, _, hne⟩ := tie_lt hp h
  obtain ⟨q, hq, c1, c2⟩ := line_part h3 h40 hT h
  obtain ⟨c, c3, c4, c5⟩ := pts_third h3 h40 hT hq c1 c2 hne
  exact ⟨_, q, c, hq, c1, c2, c3, c4, c5, rfl⟩
/-- of the two places of a line one -/
theorem up_swap {t u : Int} (h : t ≠ u) {b : Bool} {q : (Int × Int × Int) × Bool} {c : Int} (x : Up n T t u b q c) : Up n T u t (!b) q c := by
  have hp := plT_ok h3 h40 hT
  have tt := pts_tie h3 h40 hT x.hq x.ct x.cu h
  have a1 := pts_tie h3 h40 hT x.hq x.ct x.cc (Ne.symm x.c1)
  obtain ⟨t0, t1, u0, u1, _⟩ := tie_lt hp tt
  obtain ⟨_, _, c0, c1, _⟩ := tie_lt hp a1
  have o1 := btw_other hp t0 t1 u0 u1 c0 c1 h x.c1 x.c2
  refine ⟨x.hq, x.cu, x.ct, x.cc, x.c2, x.c1, ?_⟩
  rw [x.val, o1]
  cases q.2 <;> cases btw n u c t <;> rfl
/-- a pinch keeps it -/
theorem up_pinch {t u : Int} (h : t ≠ u) {b : Bool} {q : (Int × Int × Int) × Bool} {c : Int} (x : Up n T t u b q c) : Up n T c t b q u := by
  have hp := plT_ok h3 h40 hT
  have tt := pts_tie h3 h40 hT x.hq x.ct x.cu h
  have a1 := pts_tie h3 h40 hT x.hq x.ct x.cc (Ne.symm x.c1)
  obtain ⟨t0, t1, u0, u1, _⟩ := tie_lt hp tt
  obtain ⟨_, _, c0, c1, _⟩ := tie_lt hp a1
  refine ⟨x.hq, x.cc, x.ct, x.cu, Ne.symm x.c2, Ne.symm h, ?_⟩
  rw [x.val, btw_turn hp t0 t1 u0 u1 c0 c1 h x.c1 x.c2]
/-- the part that three tied corners have -/
theorem up_of {t u c : Int} (h1 : tieB n (plT n T) t u = true) (h2 : tieB n (plT n T) t c = true) (h4 : tieB n (plT n T) u c = true) : ∃ q, Up n T t u (q.2 == btw n u c t) q c ∧ ∀ Kl : KL, sortM (.list [.int t, .int u, .int c]) Kl = Kl ((k3 (tri n q.1)).map kD) := by
  have hp := plT_ok h3 h40 hT
  obtain ⟨q, hq, mem, so⟩ := tri_of h3 h40 hT h1 h2 h4
  exact ⟨q, ⟨hq, (mem _).mp (by simp), (mem _).mp (by simp), (mem _).mp (by simp), Ne.symm (tie_lt hp h2).2.2.2.2, Ne.symm (tie_lt hp h4).2.2.2.2, rfl⟩, so⟩
theorem up_top : ∃ q c, Up n T 0 1 true q c := by
  have hp := plT_ok h3 h40 hT
  obtain ⟨q, hq, c1, c2⟩ := tri_side h3 h40 hT (x := 0) (by omega) (by omega)
  rw [show ((0 : Int) + 1) % n = 1 from Int.emod_eq_of_lt (by omega) (by omega)] at c2
  have hh := side_tri h3 h40 hT hq (x := 0) (by omega) (by omega) c1 (by rw [show ((0 : Int) + 1) % n = 1 from Int.emod_eq_of_lt (by omega) (by omega)]; exact c2)
  obtain ⟨c, c3, c4, c5⟩ := pts_third h3 h40 hT hq c1 c2 (by decide)
  have a1 := pts_tie h3 h40 hT hq c1 c3 (Ne.symm c4)
  obtain ⟨_, _, c0, c6, _⟩ := tie_lt hp a1
  have hb : btw n 1 c 0 = true := by
    rw [btw_iff, show (0 : Int) - 1 = -1 by decide, Int.emod_eq_of_lt (a := c - 1) (by omega) (by omega), ← Int.add_emod_right, Int.emod_eq_of_lt (by omega) (by omega)]
    omega
  refine ⟨q, c, hq, c1, c2, c3, c4, c5, ?_⟩
  rw [hh, hb]; rfl
omit h3 h40 hT in
theorem i__law_moved {cs : List (Int × Int)} (hp : IsPlan n cs) {p : Int × Int} {ev : Bool} {wd : Str} (h : tieB n cs p.1 p.2 = true) (h0 : thW n cs p ev = none → K .none) (h1 : ∀ c, thW n cs p ev = some c → K (ppD (if decide (wd = "pinch") then (c, p.1) else (p.2, c)))) : f__law_moved (plD n cs) (dTd (tied (linesOf n cs))) (ppD p) (.str wd) (.str (wayS ev)) K E := by
  unfold f__law_moved
  refine i__law_third hp h ?_
  cases ht : thW n cs p ev with
  | none => exact ⟨fun _ => h0 ht, fun z => (by cases z)⟩
  | some c =>
    refine ⟨fun z => (by cases z), fun _ => ?_⟩
    have := h1 c ht
    rw [q_eq_ss, p_ix_pp0, p_ix_pp1, q_ite]
    cases e : decide (wd = "pinch") with
    | true => rw [e] at this; exact this
    | false => rw [e] at this; exact this
end
end Tx
namespace Tx
open PySem PySem.Spec PyProof.Rows L2 TL
section
variable {K : KD} {Kl : KL} {E : KX} {Kb : KB} {n : Int} {cs : List (Int × Int)}
variable (hp : IsPlan n cs)
include hp
/-- c is the third corner of the place (t, u), by its way -/
structure Th (n : Int) (cs : List (Int × Int)) (ev : Bool) (t u c : Int) : Prop where
  tu : tieB n cs t u = true
  tc : tieB n cs t c = true
  uc : tieB n cs u c = true
  o : (if ev then btw n t c u else btw n u c t) = true
omit hp in
theorem tsym {a b : Int} (h : tieB n cs a b = true) : tieB n cs b a = true := by rw [tie_sym]; exact h
theorem th_of {p : Int × Int} {ev : Bool} {c : Int} (h : tieB n cs p.1 p.2 = true) (hc : thW n cs p ev = some c) : Th n cs ev p.1 p.2 c := by
  unfold thW at hc
  cases ev with
  | true =>
    rw [if_pos rfl] at hc
    obtain ⟨a, b, d⟩ := thd_some hp h hc
    exact ⟨h, a, b, by rw [if_pos rfl]; exact d⟩
  | false =>
    rw [if_neg (by decide)] at hc
    obtain ⟨a, b, d⟩ := thd_some hp (tsym h) hc
    exact ⟨h, b, a, by rw [if_neg (by decide)]; exact d⟩
theorem Th.eq {ev : Bool} {t u c : Int} (x : Th n cs ev t u c) : thW n cs (t, u) ev = some c := by
  have o := x.o
  unfold thW
  cases ev with
  | true => rw [if_pos rfl] at o ⊢; exact thd_is hp x.tu x.tc x.uc o
  | false => rw [if_neg (by decide)] at o ⊢; exact thd_is hp (tsym x.tu) x.uc x.tc o
theorem rot {a b c : Int} (ab : tieB n cs a b = true) (ac : tieB n cs a c = true) (bc : tieB n cs b c = true) : btw n a b c = btw n b c a := by
  obtain ⟨a0, a1, b0, b1, h1⟩ := tie_lt hp ab
  obtain ⟨_, _, c0, c1, h2⟩ := tie_lt hp ac
  obtain ⟨_, _, _, _, h3⟩ := tie_lt hp bc
  exact btw_turn hp a0 a1 b0 b1 c0 c1 h1 (Ne.symm h2) (Ne.symm h3)
/-- behind a pinch -/
theorem Th.pin {ev : Bool} {t u c : Int} (x : Th n cs ev t u c) : Th n cs ev c t u := by
  refine ⟨tsym x.tc, tsym x.uc, x.tu, ?_⟩
  have o := x.o
  cases ev with
  | true =>
    rw [if_pos rfl] at o ⊢
    rw [← rot hp x.tc x.tu (tsym x.uc)]; exact o
  | false =>
    rw [if_neg (by decide)] at o ⊢
    rw [rot hp x.tu x.tc x.uc]; exact o
/-- turned over -/
theorem Th.ov {ev : Bool} {t u c : Int} (x : Th n cs ev t u c) : Th n cs (!ev) u t c := by
  refine ⟨tsym x.tu, x.uc, x.tc, ?_⟩
  have o := x.o
  cases ev with
  | true => exact o
  | false => exact o
end
end Tx
namespace Tx
open PySem PySem.Spec PyProof.Rows L2 TL
theorem for_nil0 {τ : Type} {bd : PyData → τ → (τ → Prop) → (τ → Prop) → Prop} {K : τ → Prop} {s : τ} : TL.forM bd K [] s = K s := rfl
theorem for_cons0 {τ : Type} {bd : PyData → τ → (τ → Prop) → (τ → Prop) → Prop} {K : τ → Prop} {s : τ} {x : PyData} {xs : List PyData} : TL.forM bd K (x :: xs) s = bd x s (fun s' => TL.forM bd K xs s') K := rfl
inductive Sp2 where
  | mv (pn ev : Bool)
  | ov
def goS (n : Int) (cs : List (Int × Int)) (p : Int × Int) : Sp2 → Option (Int × Int)
  | .mv pn ev => (thW n cs p ev).map fun c => if pn then (c, p.1) else (p.2, c)
  | .ov => some (p.2, p.1)
def goW (n : Int) (cs : List (Int × Int)) : List Sp2 → Int × Int → Option (Int × Int)
  | [], p => some p
  | s :: r, p => (goS n cs p s).bind (goW n cs r)
end Tx
namespace Tx
open PySem PySem.Spec PyProof.Rows L2 TL
@[irreducible] def f_tour_by_s (rec : PyData → PyData → PyData → (List (List Key × PyData)) → (List PyData → List (List Key × PyData) → Prop) → Prop) (plan : PyData) (near : PyData) (place : PyData) (seen : List (List Key × PyData)) (K : (List PyData → List (List Key × PyData) → Prop)) : Prop :=
  forM (fun way10 (s : (List (List Key × PyData)) × (List PyData)) N11 B12 => match s with
  | (seen13, found14) => f_third_corner plan near place way10 (fun r21 =>
  ((!isNone r21) = true → (ixM place (.int 0) fun r25 =>
  ixM place (.int 1) fun r26 =>
  sortM (.list [r25, r26, r21]) fun l27 =>
  tupM (.list l27) fun r28 =>
  inTM seen13 r28 fun b29 =>
  ((!b29) = true → (putTM seen13 r28 (.bool true) fun kv33 =>
  rngM (.int 0) (.int 3) fun xs34 =>
  forM (fun turn40 (s : (List PyData) × PyData × (List (List Key × PyData))) N41 B42 => match s with
  | (found43, here44, seen45) => found43.length < sizeLine ∧ (f_third_corner plan near here44 way10 (fun r49 =>
  ixM here44 (.int 0) fun r50 =>
  ltM turn40 (.int 2) fun b51 =>
  (b51 = true → (rec plan near (.tuple [r49, r50]) seen45 (fun l55 kv56 =>
  ((found43 ++ ([(.tuple [(.str "pinch"), way10])] : List PyData)).length + l55.length ≤ sizeLine) ∧ (N41 (((found43 ++ ([(.tuple [(.str "pinch"), way10])] : List PyData)) ++ l55), (.tuple [r49, r50]), kv56))))) ∧ (b51 = false → (N41 ((found43 ++ ([(.tuple [(.str "pinch"), way10])] : List PyData)), (.tuple [r49, r50]), seen45)))) (fun _ => False))) (fun (s : (List PyData) × PyData × (List (List Key × PyData))) =>
  match s with
  | (found35, here36, seen37) => N11 (seen37, found35)) xs34 (found14, place, kv33))) ∧ ((!b29) = false → (N11 (seen13, found14))))) ∧ ((!isNone r21) = false → (N11 (seen13, found14)))) (fun _ => False)) (fun (s : (List (List Key × PyData)) × (List PyData)) =>
  match s with
  | (seen2, found3) => K found3 seen2) [.str "even", .str "odd"] (seen, [])
def f_tour_by : Nat → PyData → PyData → PyData → (List (List Key × PyData)) → (List PyData → List (List Key × PyData) → Prop) → Prop
  | 0 => fun _ _ _ _ _ => False
  | n + 1 => f_tour_by_s (f_tour_by n)
def c_tour_by (n : Nat) : CT := fun args Φ Ψ => ∃ (plan : PyData) (near : PyData) (place : PyData) (a_seen : Addr) (seen : List (List Key × PyData)) (K : (List PyData → List (List Key × PyData) → Prop)), args = [.d plan, .d near, .d place, .dt a_seen seen] ∧ f_tour_by n plan near place seen K ∧ ∀ r s, K r s → Φ (.nl r) [.d plan, .d near, .d place, .dt a_seen s]
@[irreducible] def f_tour (plan : PyData) (place : PyData) (K : KL) (E : KX) : Prop :=
  f_need_place plan place (fun r1 =>
  f_neighbours plan (fun r2 =>
  f_tour_by 64 plan (.list r2) place [] (fun l3 s4 =>
  K l3)) E) E
def c_tour : CT := fun args Φ Ψ => ∃ (plan : PyData) (place : PyData) (K : KL) (E : KX), args = [.d plan, .d place] ∧ f_tour plan place K E ∧ (∀ r, K r → Φ (.nl r) args) ∧ ∀ c, E c → Ψ c args
end Tx
namespace Tx
open PySem PySem.Spec PyProof.Rows L2 TL
open Tr
theorem arcF_sub {t : Tr} {s : Int} : ∀ {x y : Int}, (x, y) ∈ t.arcF s → ∃ u : Tr, (u, x) ∈ t.subs s ∧ y = x + u.sz := by
  induction t generalizing s with
  | lf =>
    intro x y h
    have h : (x, y) = (s, s + (1 : Int)) := by simpa [Tr.arcF, Tr.arcs, Tr.sz] using h
    cases h
    exact ⟨.lf, by simp [Tr.subs], rfl⟩
  | nd a b iha ihb =>
    intro x y h
    have h : (x, y) = (s, s + (a.sz + b.sz)) ∨ (x, y) ∈ a.arcF s ∨ (x, y) ∈ b.arcF (s + a.sz) := by
      rcases List.mem_cons.mp (show (x, y) ∈ (s, s + (Tr.nd a b).sz) :: (Tr.nd a b).arcs s from h) with h | h
      · exact .inl h
      · rcases List.mem_cons.mp h with h | h
        · exact .inr (.inl (h ▸ List.mem_cons_self ..))
        · rcases List.mem_cons.mp h with h | h
          · exact .inr (.inr (h ▸ List.mem_cons_self ..))
          · rcases List.mem_append.mp h with h | h
            · exact .inr (.inl (List.mem_cons_of_mem _ h))
            · exact .inr (.inr (List.mem_cons_of_mem _ h))
    rcases h with h | h | h
    · cases h
      exact ⟨.nd a b, List.mem_cons_self .., rfl⟩
    · obtain ⟨u, h1, h2⟩ := iha h
      exact ⟨u, List.mem_cons_of_mem _ (List.mem_append_left _ h1), h2⟩
    · obtain ⟨u, h1, h2⟩ := ihb h
      exact ⟨u, List.mem_cons_of_mem _ (List.mem_append_right _ h1), h2⟩
section
variable {n : Int} {T : Tr}
variable (h3 : 3 ≤ n) (h40 : n ≤ 40) (hT : T.sz = n - 1)
include h3 h40 hT
omit h40 hT in
theorem emod_shift {a x : Int} (a0 : 0 ≤ a) (a1 : a < n) (x0 : 0 ≤ x) (x1 : x < n) : (x - a) % n = if a ≤ x then x - a else x - a + n := by
  split
  · exact Int.emod_eq_of_lt (by omega) (by omega)
  · rw [← Int.add_emod_right]
    exact Int.emod_eq_of_lt (by omega) (by omega)
end
end Tx
namespace Tx
open PySem PySem.Spec PyProof.Rows L2 TL
open Tr
section
variable {n : Int} {T : Tr}
variable (h3 : 3 ≤ n) (h40 : n ≤ 40) (hT : T.sz = n - 1)
include h3 h40 hT
theorem part_th {a b : Tr} {x : Int} (hu : (Tr.nd a b, x) ∈ T.subs 1) : Th n (plT n T) true x ((x + (a.sz + b.sz)) % n) (x + a.sz) := by
  obtain ⟨b1, b2, b3⟩ := sub_b h3 h40 hT hu
  have sa := sz_pos a
  have sb := sz_pos b
  have e : (Tr.nd a b).sz = a.sz + b.sz := rfl
  obtain ⟨hA, _⟩ := subs_arc hu
  have m1 : (x, x + (a.sz + b.sz)) ∈ T.arcF 1 := hA _ (List.mem_cons_self ..)
  have m2 : (x, x + a.sz) ∈ T.arcF 1 := hA _ (List.mem_cons_of_mem _ (List.mem_cons_self ..))
  have m3 : (x + a.sz, x + (a.sz + b.sz)) ∈ T.arcF 1 := by
    have : (x + a.sz, x + a.sz + b.sz) ∈ T.arcF 1 := hA _ (List.mem_cons_of_mem _ (List.mem_cons_of_mem _ (List.mem_cons_self ..)))
    rwa [Int.add_assoc] at this
  have t1 := (tieT h3 h40 hT (by omega) (by omega) (by omega)).mpr m1
  have t2 := (tieT h3 h40 hT (by omega) (by omega) (by omega)).mpr m2
  have t3 := (tieT h3 h40 hT (by omega) (by omega) (by omega)).mpr m3
  rw [show (x + a.sz) % n = x + a.sz from Int.emod_eq_of_lt (by omega) (by omega)] at t2
  refine ⟨t1, t2, tsym t3, ?_⟩
  rw [if_pos rfl, btw_iff]
  rw [show x + a.sz - x = a.sz by omega, Int.emod_sub_emod, show x + (a.sz + b.sz) - x = a.sz + b.sz by omega, Int.emod_eq_of_lt (by omega) (by omega), Int.emod_eq_of_lt (by omega) (by omega)]
  omega
end
end Tx
namespace Tx
open PySem PySem.Spec PyProof.Rows L2 TL
open Tr
inductive Dwn (n : Int) (cs : List (Int × Int)) : Int → Int → Bool → List Int → Prop
  | leaf {t u : Int} {cr : Bool} : tieB n cs t u = true → (t + 1) % n = u → Dwn n cs t u cr [t]
  | node {t u c : Int} {cr : Bool} {A B : List Int} : Th n cs true t u c → Dwn n cs t c (!cr) A → Dwn n cs c u (!cr) B → Dwn n cs t u cr (if cr then B ++ A else A ++ B)
theorem arc_split {n t u c : Int} (h : btw n t c u = true) (n0 : 0 < n) : (c - t) % n + (u - c) % n = (u - t) % n ∧ 0 < (c - t) % n ∧ 0 < (u - c) % n := by
  obtain ⟨h1, h2⟩ := btw_iff.mp h
  have h3 := Int.emod_lt_of_pos (u - t) n0
  have e : (u - c) % n = (u - t) % n - (c - t) % n := by
    rw [show u - c = (u - t) - (c - t) by omega, Int.sub_emod]
    exact Int.emod_eq_of_lt (by omega) (by omega)
  omega
theorem arc_one {n t u : Int} (h : (t + 1) % n = u) (n1 : 1 < n) : (u - t) % n = 1 := by
  rw [← h, Int.emod_sub_emod, show t + 1 - t = 1 by omega]
  exact Int.emod_eq_of_lt (by omega) n1
section
variable {n : Int} {cs : List (Int × Int)} {E : KX}
variable (hp : IsPlan n cs)
include hp
theorem Dwn.len {t u : Int} {cr : Bool} {L : List Int} (h : Dwn n cs t u cr L) : (L.length : Int) = (u - t) % n := by
  have h3 := hp.lo
  induction h with
  | leaf h1 h2 => rw [arc_one h2 (by omega)]; rfl
  | @node t u c cr A B x _ _ ia ib =>
    have o := x.o
    rw [if_pos rfl] at o
    have := arc_split o (by omega)
    cases cr
    · show (((A ++ B).length : Nat) : Int) = _
      rw [List.length_append]; omega
    · show (((B ++ A).length : Nat) : Int) = _
      rw [List.length_append]; omega
end
/-- one list is the other one, begun elsewhere -/
def Rot (L O : List Int) : Prop := ∃ p q, O = p ++ q ∧ L = q ++ p
theorem Rot.swap {X Y O : List Int} (h : Rot (X ++ Y) O) : Rot (Y ++ X) O := by
  obtain ⟨p, q, rfl, e⟩ := h
  rcases List.append_eq_append_iff.mp e with ⟨r, rfl, rfl⟩ | ⟨r, rfl, rfl⟩
  · exact ⟨p ++ X, r, by simp, by simp⟩
  · exact ⟨r, Y ++ q, by simp, by simp⟩
theorem Rot.ne {L O : List Int} (h : Rot L O) (hO : O ≠ []) : ∃ p y q, O = p ++ y :: q ∧ L = y :: q ++ p := by
  obtain ⟨p, q, rfl, rfl⟩ := h
  cases q with
  | cons y q => exact ⟨p, y, q, rfl, rfl⟩
  | nil =>
    cases p with
    | nil => exact absurd rfl hO
    | cons y p => exact ⟨[], y, p, by simp, by simp⟩
section
variable {n : Int} {T : Tr}
variable (h3 : 3 ≤ n) (h40 : n ≤ 40) (hT : T.sz = n - 1)
include h3 h40 hT
theorem dwn_sub : ∀ (v : Tr) (x : Int) (cr : Bool), (v, x) ∈ T.subs 1 → Dwn n (plT n T) x ((x + v.sz) % n) cr (v.ord x cr) := by
  intro v
  induction v with
  | lf =>
    intro x cr hu
    obtain ⟨b1, b2, b3⟩ := sub_b h3 h40 hT hu
    have e : (Tr.lf).sz = 1 := rfl
    rw [e] at *
    obtain ⟨hA, _⟩ := subs_arc hu
    have m1 : (x, x + 1) ∈ T.arcF 1 := hA _ (List.mem_cons_self ..)
    exact .leaf ((tieT h3 h40 hT (by omega) (by omega) (by omega)).mpr m1) rfl
  | nd a b iha ihb =>
    intro x cr hu
    obtain ⟨b1, b2, b3⟩ := sub_b h3 h40 hT hu
    have sa := sz_pos a
    have sb := sz_pos b
    obtain ⟨_, _, _, hs⟩ := subs_arc hu
    have ha := fun cr => iha x cr (hs _ (List.mem_cons_of_mem _ (List.mem_append_left _ (self_subs a x))))
    have hb := fun cr => ihb (x + a.sz) cr (hs _ (List.mem_cons_of_mem _ (List.mem_append_right _ (self_subs b (x + a.sz)))))
    have b3 : x + (a.sz + b.sz) ≤ n := b3
    have ea : (x + a.sz) % n = x + a.sz := Int.emod_eq_of_lt (by omega) (by omega)
    rw [ea] at ha
    have hb := hb
    simp only [Int.add_assoc] at hb
    have := Dwn.node (cr := cr) (part_th h3 h40 hT hu) (ha (!cr)) (hb (!cr))
    have eo : (Tr.nd a b).ord x cr = if cr then b.ord (x + a.sz) (!cr) ++ a.ord x (!cr) else a.ord x (!cr) ++ b.ord (x + a.sz) (!cr) := by cases cr <;> rfl
    rw [eo]
    exact this
/-- how a part of the tree stands in the order: from the other side -/
def Oth (n : Int) (T : Tr) (v : Tr) (x : Int) : Prop :=
  (∃ q c C, Up n T x ((x + v.sz) % n) true q c ∧ Dwn n (plT n T) ((x + v.sz) % n) x false C ∧ Rot (v.ord x true ++ C) (ordP n (T.arcs 1))) ∨
  (∃ q c C, Up n T ((x + v.sz) % n) x true q c ∧ Dwn n (plT n T) ((x + v.sz) % n) x true C ∧ Rot (C ++ v.ord x false) (ordP n (T.arcs 1)))
theorem up_by {t u c : Int} {q : (Int × Int × Int) × Bool} {d : Int} (up : Up n T t u true q d) (h1 : tieB n (plT n T) t u = true) (h2 : tieB n (plT n T) t c = true) (h4 : tieB n (plT n T) u c = true) : ∃ q, Up n T t u true q c := by
  have hp := plT_ok h3 h40 hT
  obtain ⟨_, _, _, _, hne⟩ := tie_lt hp h1
  obtain ⟨q', up', _⟩ := up_of h3 h40 hT h1 h2 h4
  have e := up_uniq h3 h40 hT hne up' up
  rw [e] at up'
  exact ⟨q', up'⟩
theorem oth_step {a b : Tr} {x : Int} (hu : (Tr.nd a b, x) ∈ T.subs 1) (h : Oth n T (.nd a b) x) : Oth n T a x ∧ Oth n T b (x + a.sz) := by
  have hp := plT_ok h3 h40 hT
  obtain ⟨b1, b2, b3⟩ := sub_b h3 h40 hT hu
  have sa := sz_pos a
  have sb := sz_pos b
  have b3 : x + (a.sz + b.sz) ≤ n := b3
  obtain ⟨_, _, _, hs⟩ := subs_arc hu
  have ha := fun cr => dwn_sub h3 h40 hT a x cr (hs _ (List.mem_cons_of_mem _ (List.mem_append_left _ (self_subs a x))))
  have hb := fun cr => dwn_sub h3 h40 hT b (x + a.sz) cr (hs _ (List.mem_cons_of_mem _ (List.mem_append_right _ (self_subs b (x + a.sz)))))
  have ea : (x + a.sz) % n = x + a.sz := Int.emod_eq_of_lt (by omega) (by omega)
  rw [ea] at ha
  simp only [Int.add_assoc] at hb
  have th := part_th h3 h40 hT hu
  have o1 : (Tr.nd a b).ord x true = b.ord (x + a.sz) false ++ a.ord x false := rfl
  have o2 : (Tr.nd a b).ord x false = a.ord x true ++ b.ord (x + a.sz) true := rfl
  have esz : (x + (Tr.nd a b).sz) % n = (x + (a.sz + b.sz)) % n := rfl
  unfold Oth at h ⊢
  rw [ea, Int.add_assoc]
  rw [esz] at h
  generalize (x + (a.sz + b.sz)) % n = y at *
  generalize x + a.sz = m at *
  generalize ordP n (T.arcs 1) = O at *
  obtain ⟨_, _, _, _, hxy⟩ := tie_lt hp th.tu
  obtain ⟨_, _, _, _, hxm⟩ := tie_lt hp th.tc
  obtain ⟨_, _, _, _, hym⟩ := tie_lt hp th.uc
  have th1 := th.pin hp
  have th2 := th1.pin hp
  -- th1 : Th m x y, th2 : Th y m x
  rcases h with ⟨q, c, C, up, dC, r⟩ | ⟨q, c, C, up, dC, r⟩
  · obtain ⟨q, up⟩ := up_by h3 h40 hT (c := m) up th.tu th.tc th.uc
    have u1 := up_pinch h3 h40 hT hxy up
    have u2 := up_pinch h3 h40 hT (Ne.symm hxm) u1
    rw [o1] at r
    constructor
    · refine .inr ⟨_, _, C ++ b.ord m false, u1, .node th1 (hb false) dC, ?_⟩
      have := Rot.swap (X := b.ord m false ++ a.ord x false) (Y := C) r
      rw [← List.append_assoc] at this; exact this
    · refine .inr ⟨_, _, a.ord x false ++ C, u2, .node th2 dC (ha false), ?_⟩
      -- b a C ~ a C b
      rw [List.append_assoc] at r
      have := Rot.swap (X := b.ord m false) (Y := a.ord x false ++ C) r
      exact this
  · have hyx := tsym th.tu
    obtain ⟨q, up⟩ := up_by h3 h40 hT (c := m) up (tsym th.tu) th.uc th.tc
    have u1 := up_pinch h3 h40 hT (Ne.symm hxy) up
    have u2 := up_pinch h3 h40 hT (Ne.symm hym) u1
    rw [o2] at r
    constructor
    · refine .inl ⟨_, _, b.ord m true ++ C, u2, .node th1 (hb true) dC, ?_⟩
      have := Rot.swap (X := C) (Y := a.ord x true ++ b.ord m true) r
      rw [List.append_assoc] at this; exact this
    · refine .inl ⟨_, _, C ++ a.ord x true, u1, .node th2 dC (ha true), ?_⟩
      have := Rot.swap (X := C ++ a.ord x true) (Y := b.ord m true) (by rw [List.append_assoc]; exact r)
      exact this
theorem oth_all : ∀ (t : Tr) (s : Int), (t, s) ∈ T.subs 1 → Oth n T t s → ∀ v x, (v, x) ∈ t.subs s → Oth n T v x := by
  intro t
  induction t with
  | lf =>
    intro s _ h v x hv
    have : (v, x) = (Tr.lf, s) := by simpa [Tr.subs] using hv
    cases this; exact h
  | nd a b iha ihb =>
    intro s hs h v x hv
    obtain ⟨_, _, _, hs'⟩ := subs_arc hs
    obtain ⟨oa, ob⟩ := oth_step h3 h40 hT hs h
    rcases List.mem_cons.mp hv with hv | hv
    · cases hv; exact h
    · rcases List.mem_append.mp hv with hv | hv
      · exact iha s (hs' _ (List.mem_cons_of_mem _ (List.mem_append_left _ (self_subs a s)))) oa v x hv
      · exact ihb (s + a.sz) (hs' _ (List.mem_cons_of_mem _ (List.mem_append_right _ (self_subs b (s + a.sz))))) ob v x hv
/-- the stacks of an upright place, put down one behind the other, are the order, begun elsewhere -/
theorem up_down {t u : Int} {q : (Int × Int × Int) × Bool} {c : Int} (ht : tieB n (plT n T) t u = true) (up : Up n T t u true q c) : ∃ A B, Dwn n (plT n T) t u true A ∧ Dwn n (plT n T) u t false B ∧ Rot (A ++ B) (ordP n (T.arcs 1)) := by
  have hp := plT_ok h3 h40 hT
  obtain ⟨t0, t1, u0, u1, hne⟩ := tie_lt hp ht
  have root : Oth n T T 1 := by
    have em : (1 + T.sz) % n = 0 := by rw [show 1 + T.sz = n by omega]; exact Int.emod_self
    obtain ⟨q, c, u0⟩ := up_top h3 h40 hT
    refine .inr ⟨q, c, [0], by rw [em]; exact u0, ?_, ⟨[], 0 :: T.ord 1 false, ?_, ?_⟩⟩
    · rw [em]
      refine .leaf ?_ (by rw [Int.zero_add]; exact Int.emod_eq_of_lt (by omega) (by omega))
      have := dwn_sub h3 h40 hT T 1 true (self_subs T 1)
      have h1 : (1, n) ∈ T.arcF 1 := by
        have := self_arcF T 1
        rwa [show 1 + T.sz = n by omega] at this
      have := (tieT h3 h40 hT (x := 1) (y := n) (by omega) (by omega) (by omega)).mpr h1
      rw [Int.emod_self] at this
      exact tsym this
    · rw [ordP_T h3 h40 hT]; rfl
    · simp
  have all := oth_all h3 h40 hT T 1 (self_subs T 1) root
  have find : ∀ t u : Int, 0 ≤ t → t < n → 0 ≤ u → u < n → tieB n (plT n T) t u = true → (1 ≤ t ∧ (u = 0 ∨ t < u)) → ∃ v, (v, t) ∈ T.subs 1 ∧ (t + v.sz) % n = u := fun t u t0 t1 u0 u1 ht hc => by
    obtain ⟨y, y1, y2, y3⟩ : ∃ y, t < y ∧ y ≤ n ∧ y % n = u := by
      by_cases hu : u = 0
      · exact ⟨n, by omega, by omega, by rw [hu]; exact Int.emod_self⟩
      · exact ⟨u, by omega, by omega, Int.emod_eq_of_lt u0 u1⟩
    have ha := (tieT h3 h40 hT (x := t) (y := y) hc.1 y1 y2).mp (by rw [y3]; exact ht)
    obtain ⟨v, hv, rfl⟩ := arcF_sub ha
    exact ⟨v, hv, y3⟩
  by_cases hc : 1 ≤ t ∧ (u = 0 ∨ t < u)
  · obtain ⟨v, hv, e⟩ := find t u t0 t1 u0 u1 ht hc
    have d := fun cr => dwn_sub h3 h40 hT v t cr hv
    have o := all v t hv
    unfold Oth at o
    rw [e] at d o
    rcases o with ⟨q', c', C, up', dC, r⟩ | ⟨q', c', C, up', dC, r⟩
    · exact ⟨_, _, d true, dC, r⟩
    · have := up_uniq h3 h40 hT (Ne.symm hne) up' (up_swap h3 h40 hT hne up)
      cases this
  · obtain ⟨v, hv, e⟩ := find u t u0 u1 t0 t1 (tsym ht) (by omega)
    have d := fun cr => dwn_sub h3 h40 hT v u cr hv
    have o := all v u hv
    unfold Oth at o
    rw [e] at d o
    rcases o with ⟨q', c', C, up', dC, r⟩ | ⟨q', c', C, up', dC, r⟩
    · have := up_uniq h3 h40 hT (Ne.symm hne) up' (up_swap h3 h40 hT hne up)
      cases this
    · exact ⟨_, _, dC, d false, r⟩
end
end Tx
namespace Tx
open PySem PySem.Spec PyProof.Rows L2 TL
open Tr
inductive Tou (n : Int) (cs : List (Int × Int)) : Int → Int → Bool → List Bool → Prop
  | leaf {x y : Int} {w : Bool} : tieB n cs x y = true → (x + 1) % n = y → Tou n cs x y w []
  | node {x y c : Int} {w : Bool} {L1 L2 : List Bool} : Th n cs true x y c → Tou n cs x c (!w) L1 → Tou n cs c y (!w) L2 → Tou n cs x y w (w :: ((if w then L1 else L2) ++ (w :: ((if w then L2 else L1) ++ [w]))))
def plc (x y : Int) (w : Bool) : Int × Int := if w then (x, y) else (y, x)
def stD (w : Bool) : PyData := .tuple [.str "pinch", .str (wayS w)]
def nearD (n : Int) (cs : List (Int × Int)) : PyData := .list ((List.range n.toNat).map fun (i : Nat) => .list ((near n cs i).map .int))
def inA (n x y v : Int) : Prop := (v - x) % n ≤ (y - x) % n
theorem arc_sub1 {n x c y v : Int} (hb : btw n x c y = true) (h : inA n x c v) : inA n x y v := by
  have := (btw_iff.mp hb).2
  unfold inA at *; omega
theorem arc_vc {n x c y v : Int} (n0 : 0 < n) (hb : btw n x c y = true) (h : inA n c y v) : (v - x) % n = (c - x) % n + (v - c) % n := by
  obtain ⟨s1, s2, s3⟩ := arc_split hb n0
  have h4 := Int.emod_lt_of_pos (y - x) n0
  have h5 := Int.emod_nonneg (v - c) (show n ≠ 0 by omega)
  unfold inA at h
  rw [show v - x = (c - x) + (v - c) by omega, Int.add_emod]
  exact Int.emod_eq_of_lt (by omega) (by omega)
theorem arc_sub2 {n x c y v : Int} (n0 : 0 < n) (hb : btw n x c y = true) (h : inA n c y v) : inA n x y v := by
  obtain ⟨s1, s2, s3⟩ := arc_split hb n0
  have e := arc_vc n0 hb h
  unfold inA at *
  omega
theorem arc_meet {n x c y v : Int} (n0 : 0 < n) (hb : btw n x c y = true) (v0 : 0 ≤ v) (v1 : v < n) (c0 : 0 ≤ c) (c1 : c < n) (h1 : inA n x c v) (h2 : inA n c y v) : v = c := by
  have e := arc_vc n0 hb h2
  have h5 := Int.emod_nonneg (v - c) (show n ≠ 0 by omega)
  unfold inA at h1
  have z : (v - c) % n = 0 := by omega
  obtain ⟨k, hk⟩ := Int.dvd_of_emod_eq_zero z
  have k0 : k = 0 := by
    rcases Int.lt_trichotomy k 0 with h | h | h
    · have := Int.mul_le_mul_of_nonneg_left (show k ≤ -1 by omega) (show 0 ≤ n by omega)
      omega
    · exact h
    · have := Int.mul_le_mul_of_nonneg_left (show 1 ≤ k by omega) (show 0 ≤ n by omega)
      omega
  rw [k0] at hk
  omega
theorem Tou.len {n : Int} {cs : List (Int × Int)} (hp : IsPlan n cs) {x y : Int} {w : Bool} {L : List Bool} (h : Tou n cs x y w L) : (L.length : Int) + 3 = 3 * ((y - x) % n) := by
  have h3 := hp.lo
  induction h with
  | leaf h1 h2 => rw [arc_one h2 (by omega)]; rfl
  | @node x y c w L1 L2 t _ _ i1 i2 =>
    have o := t.o
    rw [if_pos rfl] at o
    have := arc_split o (by omega)
    cases w <;> simp only [if_true, if_false, Bool.false_eq_true, List.length_cons, List.length_append, List.length_nil] <;> omega
theorem tou_of {n : Int} {cs : List (Int × Int)} {t u : Int} {cr : Bool} {A : List Int} (h : Dwn n cs t u cr A) : ∀ w, ∃ L, Tou n cs t u w L := by
  induction h with
  | leaf h1 h2 => exact fun w => ⟨[], .leaf h1 h2⟩
  | node x _ _ ia ib =>
    intro w
    obtain ⟨L1, h1⟩ := ia (!w)
    obtain ⟨L2, h2⟩ := ib (!w)
    exact ⟨_, .node x h1 h2⟩
def tourStep (rec : PyData → PyData → PyData → AT → (List PyData → AT → Prop) → Prop) (plan near place way10 : PyData) (s : AT × (List PyData)) (N11 : AT × (List PyData) → Prop) : Prop := match s with
  | (seen13, found14) => f_third_corner plan near place way10 (fun r21 =>
  ((!isNone r21) = true → (ixM place (.int 0) fun r25 =>
  ixM place (.int 1) fun r26 =>
  sortM (.list [r25, r26, r21]) fun l27 =>
  tupM (.list l27) fun r28 =>
  inTM seen13 r28 fun b29 =>
  ((!b29) = true → (putTM seen13 r28 (.bool true) fun kv33 =>
  rngM (.int 0) (.int 3) fun xs34 =>
  forM (fun turn40 (s : (List PyData) × PyData × AT) N41 B42 => match s with
  | (found43, here44, seen45) => found43.length < sizeLine ∧ (f_third_corner plan near here44 way10 (fun r49 =>
  ixM here44 (.int 0) fun r50 =>
  ltM turn40 (.int 2) fun b51 =>
  (b51 = true → (rec plan near (.tuple [r49, r50]) seen45 (fun l55 kv56 =>
  ((found43 ++ ([(.tuple [(.str "pinch"), way10])] : List PyData)).length + l55.length ≤ sizeLine) ∧ (N41 (((found43 ++ ([(.tuple [(.str "pinch"), way10])] : List PyData)) ++ l55), (.tuple [r49, r50]), kv56))))) ∧ (b51 = false → (N41 ((found43 ++ ([(.tuple [(.str "pinch"), way10])] : List PyData)), (.tuple [r49, r50]), seen45)))) (fun _ => False))) (fun (s : (List PyData) × PyData × AT) =>
  match s with
  | (found35, here36, seen37) => N11 (seen37, found35)) xs34 (found14, place, kv33))) ∧ ((!b29) = false → (N11 (seen13, found14))))) ∧ ((!isNone r21) = false → (N11 (seen13, found14)))) (fun _ => False)
theorem tour_s {rec : PyData → PyData → PyData → AT → (List PyData → AT → Prop) → Prop} {plan near place : PyData} {seen : AT} {K : List PyData → AT → Prop} : f_tour_by_s rec plan near place seen K = tourStep rec plan near place (.str (wayS true)) (seen, []) fun s => tourStep rec plan near place (.str (wayS false)) s fun s => K s.2 s.1 := by
  unfold f_tour_by_s
  rfl
section
variable {E : KX} {n : Int} {T : Tr}
variable (h3 : 3 ≤ n) (h40 : n ≤ 40) (hT : T.sz = n - 1)
def seenP (n : Int) (S : AT) (q : (Int × Int × Int) × Bool) : Prop := (valP S (k3 (tri n q.1))).isSome = true
def inP (n : Int) (x y : Int) (q : (Int × Int × Int) × Bool) : Prop := ∀ v, corB v (tri n q.1) = true → inA n x y v
include h3 h40 hT
theorem no_two {x c y : Int} (hb : btw n x c y = true) (c0 : 0 ≤ c) (c1 : c < n) {q : (Int × Int × Int) × Bool} (hq : q ∈ T.pts 1 true) (h1 : inP n x c q) (h2 : inP n c y q) : False := by
  have hp := plT_ok h3 h40 hT
  have hl := tri_lt h3 h40 hT hq
  have k1 : corB (tri n q.1).1 (tri n q.1) = true := by unfold corB; simp
  have k2 : corB (tri n q.1).2.1 (tri n q.1) = true := by unfold corB; simp
  have t := pts_tie h3 h40 hT hq k1 k2 (by omega)
  obtain ⟨a0, a1, b0, b1, _⟩ := tie_lt hp t
  have e1 := arc_meet (by omega) hb a0 a1 c0 c1 (h1 _ k1) (h2 _ k1)
  have e2 := arc_meet (by omega) hb b0 b1 c0 c1 (h1 _ k2) (h2 _ k2)
  omega
theorem tour_skip {rec : PyData → PyData → PyData → AT → (List PyData → AT → Prop) → Prop} {p : Int × Int} {v : Bool} {S : AT} {found : List PyData} {N : AT × List PyData → Prop} (ht : tieB n (plT n T) p.1 p.2 = true)
    (hs : ∀ c, thW n (plT n T) p v = some c → ∀ q ∈ T.pts 1 true, corB p.1 (tri n q.1) = true → corB p.2 (tri n q.1) = true → corB c (tri n q.1) = true → seenP n S q) (hN : N (S, found)) :
    tourStep rec (plD n (plT n T)) (nearD n (plT n T)) (ppD p) (.str (wayS v)) (S, found) N := by
  have hp := plT_ok h3 h40 hT
  unfold tourStep
  dsimp only
  unfold nearD
  rw [e_third_corner hp ht]
  cases hc : thW n (plT n T) p v with
  | none => exact ⟨fun z => (by cases z), fun _ => hN⟩
  | some c =>
    refine ⟨fun _ => ?_, fun z => (by cases z)⟩
    have x := th_of hp ht hc
    obtain ⟨q, up, so⟩ := up_of h3 h40 hT ht x.tc x.uc
    rw [p_ix_pp0, p_ix_pp1]
    show sortM (.list [.int p.1, .int p.2, .int c]) _
    rw [so, q_tup_l]
    have e : ∀ Q : KB, inTM S (.tuple ((k3 (tri n q.1)).map kD)) Q = Q (valP S (k3 (tri n q.1))).isSome := fun Q => rfl
    rw [e, show (valP S (k3 (tri n q.1))).isSome = true from hs c hc q up.hq up.ct up.cu up.cc]
    exact ⟨fun z => (by cases z), fun _ => hN⟩
/-- one side of a place is toured -/
def TGo (n : Int) (T : Tr) (x y : Int) (w : Bool) (L : List Bool) : Prop := ∀ (f : Nat) (S : AT) (found : List PyData) (N : AT × List PyData → Prop), (y - x) % n ≤ f → S.length + L.length ≤ 1000 → found.length + L.length ≤ 1000 → (∀ q ∈ T.pts 1 true, inP n x y q → ¬ seenP n S q) →
  (∀ S' : AT, (∀ q, seenP n S q → seenP n S' q) → (∀ q ∈ T.pts 1 true, seenP n S' q → seenP n S q ∨ inP n x y q) → S'.length ≤ S.length + L.length → N (S', found ++ L.map stD)) →
  tourStep (f_tour_by f) (plD n (plT n T)) (nearD n (plT n T)) (ppD (plc x y w)) (.str (wayS w)) (S, found) N
theorem tour_sub {x y : Int} {w : Bool} {L : List Bool} (ht : tieB n (plT n T) x y = true) (go : TGo n T x y w L) {f : Nat} {S : AT} {K : List PyData → AT → Prop} (hf : (y - x) % n ≤ f) (hS : S.length + L.length ≤ 1000) (hL : L.length ≤ 1000)
    (ho : ∀ c, thW n (plT n T) (plc x y w) (!w) = some c → ∀ q ∈ T.pts 1 true, corB x (tri n q.1) = true → corB y (tri n q.1) = true → corB c (tri n q.1) = true → seenP n S q)
    (hu : ∀ q ∈ T.pts 1 true, inP n x y q → ¬ seenP n S q)
    (hK : ∀ S' : AT, (∀ q, seenP n S q → seenP n S' q) → (∀ q ∈ T.pts 1 true, seenP n S' q → seenP n S q ∨ inP n x y q) → S'.length ≤ S.length + L.length → K (L.map stD) S') :
    f_tour_by (f + 1) (plD n (plT n T)) (nearD n (plT n T)) (ppD (plc x y w)) S K := by
  show f_tour_by_s (f_tour_by f) _ _ _ _ _
  rw [tour_s]
  cases w with
  | true =>
    refine go f S [] _ hf hS (by simpa using hL) hu fun S' m1 m2 m3 => ?_
    rw [List.nil_append]
    exact tour_skip h3 h40 hT (p := (x, y)) ht (fun c hc q hq a b d => m1 q (ho c hc q hq a b d)) (hK S' m1 m2 m3)
  | false =>
    refine tour_skip h3 h40 hT (p := (y, x)) (tsym ht) (fun c hc q hq a b d => ho c hc q hq b a d) ?_
    refine go f S [] _ hf hS (by simpa using hL) hu fun S' m1 m2 m3 => ?_
    rw [List.nil_append]
    exact hK S' m1 m2 m3
omit h3 h40 hT in
theorem plc_th {x y : Int} {w : Bool} : thW n (plT n T) (plc x y w) w = thd n (plT n T) x y := by
  unfold plc thW
  cases w <;> rfl
theorem tour_go {x y : Int} {w : Bool} {L : List Bool} (h : Tou n (plT n T) x y w L) : TGo n T x y w L := by
  have hp := plT_ok h3 h40 hT
  have hsl := sizeLine_eq
  have n0 : 0 < n := by omega
  induction h with
  | @leaf x y w h1 h2 =>
    intro f S found N hf hS hL hu hN
    have hn : thW n (plT n T) (plc x y w) w = none := by
      rw [plc_th]
      unfold thd
      rw [arc_one h2 (by omega)]
      rfl
    have ht : tieB n (plT n T) (plc x y w).1 (plc x y w).2 = true := by
      unfold plc
      cases w
      · exact tsym h1
      · exact h1
    refine tour_skip h3 h40 hT ht (fun c hc => by rw [hn] at hc; cases hc) ?_
    have := hN S (fun _ z => z) (fun _ _ z => .inl z) (Nat.le_refl _)
    rw [show found ++ ([] : List Bool).map stD = found from List.append_nil _] at this
    exact this
  | @node x y c w L1 L2 t h1 h2 i1 i2 =>
    intro f S found N hf hS hL hu hN
    have o := t.o
    rw [if_pos rfl] at o
    obtain ⟨s1, s2, s3⟩ := arc_split o n0
    obtain ⟨f, rfl⟩ : ∃ g, f = g + 1 := ⟨f - 1, by omega⟩
    have hlen : (w :: ((if w then L1 else L2) ++ (w :: ((if w then L2 else L1) ++ [w])))).length = L1.length + L2.length + 3 := by
      cases w <;> simp only [if_true, if_false, Bool.false_eq_true, List.length_cons, List.length_append, List.length_nil] <;> omega
    rw [hlen] at hS hL hN
    obtain ⟨x0', x1', y0', y1', hxy⟩ := tie_lt hp t.tu
    obtain ⟨_, _, c0, c1, hxc⟩ := tie_lt hp t.tc
    obtain ⟨_, _, _, _, hyc⟩ := tie_lt hp t.uc
    -- the place and its third corners
    generalize hpl : plc x y w = p
    have tp : Th n (plT n T) w p.1 p.2 c := by
      rw [← hpl]
      unfold plc
      cases w
      · exact Th.ov hp t
      · exact t
    have tp1 := tp.pin hp
    have tp2 := tp1.pin hp
    -- the two sides behind it
    have a1 : plc x c (!w) = (if w then (c, p.1) else (p.2, c)) := by rw [← hpl]; cases w <;> rfl
    have a2 : plc c y (!w) = (if w then (p.2, c) else (c, p.1)) := by rw [← hpl]; cases w <;> rfl
    obtain ⟨q0, up, so⟩ := up_of h3 h40 hT tp.tu tp.tc tp.uc
    have q0c : ∀ v, v = x ∨ v = y ∨ v = c → corB v (tri n q0.1) = true := fun v hv => by
      have e1 := up.ct
      have e2 := up.cu
      rw [← hpl] at e1 e2
      unfold plc at e1 e2
      cases w
      · rcases hv with rfl | rfl | rfl
        · exact e2
        · exact e1
        · exact up.cc
      · rcases hv with rfl | rfl | rfl
        · exact e1
        · exact e2
        · exact up.cc
    have q0u : ∀ q ∈ T.pts 1 true, corB x (tri n q.1) = true → corB y (tri n q.1) = true → corB c (tri n q.1) = true → q = q0 := fun q hq b1 b2 b3 =>
      part_by h3 h40 hT hq up.hq hxy (Ne.symm hxc) (Ne.symm hyc) b1 b2 b3 (q0c x (.inl rfl)) (q0c y (.inr (.inl rfl))) (q0c c (.inr (.inr rfl)))
    have cor3 : ∀ v, corB v (tri n q0.1) = true → v = x ∨ v = y ∨ v = c := fun v hv => (tri_set (q0c x (.inl rfl)) (q0c y (.inr (.inl rfl))) (q0c c (.inr (.inr rfl))) hxy (Ne.symm hxc) (Ne.symm hyc) v).mp hv
    have xx : inA n x y x := by unfold inA; rw [Int.sub_self, Int.zero_emod]; omega
    have yy : inA n x y y := Int.le_refl _
    have cc : inA n x y c := by unfold inA; omega
    have q0in : inP n x y q0 := fun v hv => by
      rcases cor3 v hv with rfl | rfl | rfl
      · exact xx
      · exact yy
      · exact cc
    have un0 : ¬ seenP n S q0 := hu q0 up.hq q0in
    have ny : ¬ inA n x c y := by unfold inA; omega
    have nx : ¬ inA n c y x := fun z => by
      have := arc_vc n0 o z
      rw [Int.sub_self, Int.zero_emod] at this
      have := Int.emod_nonneg (x - c) (show n ≠ 0 by omega)
      omega
    have kinj : ∀ q ∈ T.pts 1 true, k3 (tri n q.1) = k3 (tri n q0.1) → q = q0 := fun q hq e => tri_inj h3 h40 hT hq up.hq (k3_inj e)
    -- what is seen behind the part itself
    have sP : ∀ q ∈ T.pts 1 true, seenP n (putP S (k3 (tri n q0.1)) (.bool true)) q → seenP n S q ∨ q = q0 := fun q hq z => by
      unfold seenP at z
      rw [valP_put] at z
      split at z
      · rename_i e; exact .inr (kinj q hq e)
      · exact .inl z
    have sM : ∀ q, seenP n S q → seenP n (putP S (k3 (tri n q0.1)) (.bool true)) q := fun q z => by
      unfold seenP at z ⊢
      rw [valP_put]
      split
      · rfl
      · exact z
    have s0 : seenP n (putP S (k3 (tri n q0.1)) (.bool true)) q0 := by
      unfold seenP
      rw [valP_put, if_pos rfl]; rfl
    have lP : (putP S (k3 (tri n q0.1)) (PyData.bool true)).length ≤ S.length + 1 := by
      unfold putP
      split
      · rw [List.length_map]; omega
      · rw [List.length_append]; exact Nat.le_refl _
    have etc : ∀ (p : Int × Int) (v : Bool) (Q : KD), tieB n (plT n T) p.1 p.2 = true → f_third_corner (plD n (plT n T)) (nearD n (plT n T)) (ppD p) (.str (wayS v)) Q (fun _ => False) = Q (optD (thW n (plT n T) p v)) := fun p v Q h => e_third_corner hp h
    have three : ∀ (xa ya xb yb : Int) (La Lb : List Bool), plc xa ya (!w) = (c, p.1) → plc xb yb (!w) = (p.2, c) → tieB n (plT n T) xa ya = true → tieB n (plT n T) xb yb = true → TGo n T xa ya (!w) La → TGo n T xb yb (!w) Lb → (ya - xa) % n ≤ f → (yb - xb) % n ≤ f → La.length + Lb.length = L1.length + L2.length →
        (∀ v, inA n xa ya v → inA n x y v) → (∀ v, inA n xb yb v → inA n x y v) → (∀ q ∈ T.pts 1 true, inP n xa ya q → inP n xb yb q → False) → ¬ inP n xa ya q0 → ¬ inP n xb yb q0 →
        (∀ q ∈ T.pts 1 true, corB xa (tri n q.1) = true → corB ya (tri n q.1) = true → corB p.2 (tri n q.1) = true → q = q0) → (∀ q ∈ T.pts 1 true, corB xb (tri n q.1) = true → corB yb (tri n q.1) = true → corB p.1 (tri n q.1) = true → q = q0) →
        (∀ S' : AT, (∀ q, seenP n S q → seenP n S' q) → (∀ q ∈ T.pts 1 true, seenP n S' q → seenP n S q ∨ inP n x y q) → S'.length ≤ S.length + (L1.length + L2.length + 3) → N (S', found ++ (w :: (La ++ (w :: (Lb ++ [w])))).map stD)) →
        tourStep (f_tour_by (f + 1)) (plD n (plT n T)) (nearD n (plT n T)) (ppD p) (.str (wayS w)) (S, found) N := by
      intro xa ya xb yb La Lb ha hb ta tb ga gb fa fb hl ia ib dis na nb ua ub fin
      unfold tourStep
      dsimp only
      rw [etc p w _ tp.tu, show thW n (plT n T) p w = some c from tp.eq hp]
      refine ⟨fun _ => ?_, fun z => (by cases z)⟩
      rw [p_ix_pp0, p_ix_pp1]
      show sortM (.list [.int p.1, .int p.2, .int c]) _
      rw [so, q_tup_l]
      have e : ∀ Q : KB, inTM S (.tuple ((k3 (tri n q0.1)).map kD)) Q = Q (valP S (k3 (tri n q0.1))).isSome := fun Q => rfl
      rw [e, show (valP S (k3 (tri n q0.1))).isSome = false from Bool.eq_false_iff.mpr un0]
      refine ⟨fun _ => ?_, fun z => (by cases z)⟩
      have ep : ∀ Q : AT → Prop, putTM S (.tuple ((k3 (tri n q0.1)).map kD)) (.bool true) Q = (S.length < sizeLine ∧ Q (putP S (k3 (tri n q0.1)) (.bool true))) := fun Q => q_put3 (tri_up (pts_tri1 h3 h40 hT up.hq))
      rw [ep]
      refine ⟨by omega, ?_⟩
      rw [q_rng]
      refine ⟨by decide, ?_⟩
      show TL.forM _ _ [.int 0, .int 1, .int 2] (found, ppD p, putP S (k3 (tri n q0.1)) (.bool true))
      generalize hS1 : putP S (k3 (tri n q0.1)) (PyData.bool true) = S1 at *
      have e1 : PyData.tuple [optD (some c), .int p.1] = ppD (c, p.1) := rfl
      have e2 : PyData.tuple [optD (some p.2), .int c] = ppD (p.2, c) := rfl
      have e3 : PyData.tuple [optD (some p.1), .int p.2] = ppD p := rfl
      have lst : ∀ L : List Bool, (L.map stD).length = L.length := fun L => List.length_map ..
      rw [for_cons0]
      refine ⟨(show found.length < sizeLine by omega), ?_⟩
      dsimp only
      rw [etc p w _ tp.tu, show thW n (plT n T) p w = some c from tp.eq hp, p_ix_pp0, q_lt, e1]
      refine ⟨fun _ => ?_, fun z => absurd z (by decide)⟩
      rw [← ha]
      refine tour_sub h3 h40 hT ta ga fa (by omega) (by omega) (fun c' hc' q hq b1 b2 b3 => ?_) (fun q hq hi hs => ?_) fun S2 m1 m2 m3 => ?_
      · rw [ha, Bool.not_not] at hc'
        have : thW n (plT n T) (c, p.1) w = some p.2 := tp1.eq hp
        rw [this] at hc'
        cases hc'
        rw [ua q hq b1 b2 b3]
        exact s0
      · rcases sP q hq hs with z | rfl
        · exact hu q hq (fun v hv => ia v (hi v hv)) z
        · exact na hi
      rw [ha]
      refine ⟨by rw [lst, List.length_append]; simp only [List.length_cons, List.length_nil]; omega, ?_⟩
      try dsimp only
      rw [for_cons0]
      refine ⟨by rw [List.length_append, List.length_append, lst]; simp only [List.length_cons, List.length_nil]; omega, ?_⟩
      dsimp only
      rw [etc (c, p.1) w _ tp1.tu, show thW n (plT n T) (c, p.1) w = some p.2 from tp1.eq hp, p_ix_pp0, q_lt, e2]
      refine ⟨fun _ => ?_, fun z => absurd z (by decide)⟩
      rw [← hb]
      refine tour_sub h3 h40 hT tb gb fb (by omega) (by omega) (fun c' hc' q hq b1 b2 b3 => ?_) (fun q hq hi hs => ?_) fun S3 k1 k2 k4 => ?_
      · rw [hb, Bool.not_not] at hc'
        have : thW n (plT n T) (p.2, c) w = some p.1 := tp2.eq hp
        rw [this] at hc'
        cases hc'
        rw [ub q hq b1 b2 b3]
        exact m1 q0 s0
      · rcases m2 q hq hs with z | z
        · rcases sP q hq z with z | rfl
          · exact hu q hq (fun v hv => ib v (hi v hv)) z
          · exact nb hi
        · exact dis q hq z hi
      rw [hb]
      refine ⟨by rw [lst, List.length_append, List.length_append, List.length_append, lst]; simp only [List.length_cons, List.length_nil]; omega, ?_⟩
      try dsimp only
      rw [for_cons0]
      refine ⟨by rw [List.length_append, List.length_append, List.length_append, List.length_append, lst, lst]; simp only [List.length_cons, List.length_nil]; omega, ?_⟩
      dsimp only
      rw [etc (p.2, c) w _ tp2.tu, show thW n (plT n T) (p.2, c) w = some p.1 from tp2.eq hp, p_ix_pp0, q_lt]
      refine ⟨fun z => absurd z (by decide), fun _ => ?_⟩
      have fin := fin S3 (fun q z => k1 q (m1 q (sM q z))) (fun q hq z => ?_) (by omega)
      · have el : found ++ (w :: (La ++ (w :: (Lb ++ [w])))).map stD = found ++ [stD w] ++ La.map stD ++ [stD w] ++ Lb.map stD ++ [stD w] := by simp
        rw [el] at fin
        exact fin
      · rcases k2 q hq z with z | z
        · rcases m2 q hq z with z | z
          · rcases sP q hq z with z | rfl
            · exact .inl z
            · exact .inr q0in
          · exact .inr fun v hv => ia v (z v hv)
        · exact .inr fun v hv => ib v (z v hv)
    have c3 : ∀ v, v = x ∨ v = y ∨ v = c → True := fun _ _ => trivial
    have na : ¬ inP n x c q0 := fun z => ny (z y (q0c y (.inr (.inl rfl))))
    have nb : ¬ inP n c y q0 := fun z => nx (z x (q0c x (.inl rfl)))
    cases w with
    | true =>
      rw [← hpl] at *
      exact three x c c y L1 L2 rfl rfl t.tc (tsym t.uc) i1 i2 (by omega) (by omega) rfl (fun v => arc_sub1 o) (fun v => arc_sub2 n0 o) (fun q hq a b => no_two h3 h40 hT o c0 c1 hq a b) na nb (fun q hq b1 b2 b3 => q0u q hq b1 b3 b2) (fun q hq b1 b2 b3 => q0u q hq b3 b2 b1) hN
    | false =>
      rw [← hpl] at *
      exact three c y x c L2 L1 rfl rfl (tsym t.uc) t.tc i2 i1 (by omega) (by omega) (by omega) (fun v => arc_sub2 n0 o) (fun v => arc_sub1 o) (fun q hq a b => no_two h3 h40 hT o c0 c1 hq b a) nb na (fun q hq b1 b2 b3 => q0u q hq b3 b2 b1) (fun q hq b1 b2 b3 => q0u q hq b1 b3 b2) hN
end
end Tx
namespace Tx
open PySem PySem.Spec PyProof.Rows L2 TL
open Tr
theorem kT_inj {p q : Int × Int} (h : kT p.1 p.2 = kT q.1 q.2) : p = q := by
  have h : ([.inl p.1, .inl p.2] : List Key) = [.inl q.1, .inl q.2] := h
  injection h with h1 h2
  injection h2 with h2 h3
  exact Prod.ext (Sum.inl.inj h1) (Sum.inl.inj h2)
section
variable {n : Int} {cs : List (Int × Int)} {E : KX}
variable (hp : IsPlan n cs)
include hp
theorem line_of {a b : Int} (h : tieB n cs a b = true) : nrmP a b ∈ linesOf n cs := by
  have lok := lines_ok hp
  rcases (mem_both hp).mp (of_decide_eq_true h) with h | h
  · have := lok.lt _ h
    have e : nrmP a b = (a, b) := by
      unfold nrmP
      simp only at this
      rw [if_neg (by omega), if_pos (by omega)]
    rw [e]; exact h
  · have := lok.lt _ h
    have e : nrmP a b = (b, a) := by
      unfold nrmP
      simp only at this
      rw [if_pos (by omega), if_neg (by omega)]
    rw [e]; exact h
end
section
variable {K : KD} {Kl : KL} {E : KX} {n : Int} {T : Tr}
variable (h3 : 3 ≤ n) (h40 : n ≤ 40) (hT : T.sz = n - 1)
include h3 h40 hT
omit h40 hT in
theorem both_ends {t u v : Int} (t0 : 0 ≤ t) (t1 : t < n) (u0 : 0 ≤ u) (u1 : u < n) (v0 : 0 ≤ v) (v1 : v < n) (h1 : inA n t u v) (h2 : inA n u t v) : v = t ∨ v = u := by
  unfold inA at *
  rw [emod_shift h3 t0 t1 v0 v1, emod_shift h3 t0 t1 u0 u1] at h1
  rw [emod_shift h3 u0 u1 v0 v1, emod_shift h3 u0 u1 t0 t1] at h2
  split at h1 <;> split at h1 <;> split at h2 <;> split at h2 <;> omega
theorem tou_ex {t u : Int} (ht : tieB n (plT n T) t u = true) : ∃ L1 L2, Tou n (plT n T) t u true L1 ∧ Tou n (plT n T) u t false L2 := by
  have hp := plT_ok h3 h40 hT
  obtain ⟨_, _, _, _, hne⟩ := tie_lt hp ht
  obtain ⟨b, q, c, up⟩ := up_ex h3 h40 hT ht
  cases b with
  | true =>
    obtain ⟨A, B, dA, dB, _⟩ := up_down h3 h40 hT ht up
    obtain ⟨L1, h1⟩ := tou_of dA true
    obtain ⟨L2, h2⟩ := tou_of dB false
    exact ⟨L1, L2, h1, h2⟩
  | false =>
    have up' := up_swap h3 h40 hT hne up
    obtain ⟨A, B, dA, dB, _⟩ := up_down h3 h40 hT (tsym ht) up'
    obtain ⟨L1, h1⟩ := tou_of dB true
    obtain ⟨L2, h2⟩ := tou_of dA false
    exact ⟨L1, L2, h1, h2⟩
theorem i_tour {t u : Int} {L1 L2 : List Bool} (ht : tieB n (plT n T) t u = true) (h1 : Tou n (plT n T) t u true L1) (h2 : Tou n (plT n T) u t false L2) (hK : Kl ((L1 ++ L2).map stD)) : f_tour (plD n (plT n T)) (ppD (t, u)) Kl E := by
  have hp := plT_ok h3 h40 hT
  have n0 : 0 < n := by omega
  obtain ⟨t0, t1, u0, u1, hne⟩ := tie_lt hp ht
  have l1 := h1.len hp
  have l2 := h2.len hp
  have b1 := Int.emod_lt_of_pos (u - t) n0
  have b2 := Int.emod_lt_of_pos (t - u) n0
  unfold f_tour
  rw [e_need_place hp, show decide ((t, u) ∈ both (linesOf n (plT n T))) = true from ht, cond_true, e_neighbours hp]
  show f_tour_by_s (f_tour_by 63) (plD n (plT n T)) (nearD n (plT n T)) (ppD (t, u)) [] _
  rw [tour_s]
  refine tour_go h3 h40 hT h1 63 [] [] _ (by omega) (by simp only [List.length_nil]; omega) (by simp only [List.length_nil]; omega) (fun q _ _ z => by cases z) fun S' m1 m2 m3 => ?_
  rw [List.nil_append]
  simp only [List.length_nil] at m3
  refine tour_go h3 h40 hT h2 63 S' _ _ (by omega) (by omega) (by rw [List.length_map]; omega) (fun q hq hi hs => ?_) fun S2 k1 k2 k3 => ?_
  · rcases m2 q hq hs with z | z
    · cases z
    · have hl := tri_lt h3 h40 hT hq
      have c1 : corB (tri n q.1).1 (tri n q.1) = true := by unfold corB; simp
      have c2 : corB (tri n q.1).2.1 (tri n q.1) = true := by unfold corB; simp
      have c3 : corB (tri n q.1).2.2 (tri n q.1) = true := by unfold corB; simp
      obtain ⟨a0, a1, b0, b1, _⟩ := tie_lt hp (pts_tie h3 h40 hT hq c1 c2 (by omega))
      obtain ⟨_, _, d0, d1, _⟩ := tie_lt hp (pts_tie h3 h40 hT hq c1 c3 (by omega))
      have e1 := both_ends h3 t0 t1 u0 u1 a0 a1 (z _ c1) (hi _ c1)
      have e2 := both_ends h3 t0 t1 u0 u1 b0 b1 (z _ c2) (hi _ c2)
      have e3 := both_ends h3 t0 t1 u0 u1 d0 d1 (z _ c3) (hi _ c3)
      omega
  · rw [← List.map_append]
    exact hK
end
end Tx
namespace Tx
open PySem PySem.Spec PyProof.Rows L2 TL
open Tr
namespace Tr
/-- the arcs within, the parts' own last -/
def arcsP : Tr → Int → List (Int × Int)
  | .lf, _ => []
  | .nd a b, s => a.arcsP s ++ b.arcsP (s + a.sz) ++ [(s, s + a.sz), (s + a.sz, s + a.sz + b.sz)]
end Tr
theorem arcsP_perm : ∀ (t : Tr) (s : Int), (t.arcsP s).Perm (t.arcs s)
  | .lf, _ => List.Perm.refl _
  | .nd a b, s => by
    show (a.arcsP s ++ b.arcsP (s + a.sz) ++ [(s, s + a.sz), (s + a.sz, s + a.sz + b.sz)]).Perm ([(s, s + a.sz), (s + a.sz, s + a.sz + b.sz)] ++ (a.arcs s ++ b.arcs (s + a.sz)))
    exact List.perm_append_comm.trans (((arcsP_perm a s).append (arcsP_perm b (s + a.sz))).append_left _)
def allF : Nat → Nat → List Tr
  | 0, _ => [.lf]
  | f + 1, w => if w ≤ 1 then [.lf] else (List.range (w - 1)).flatMap fun j => (allF f (1 + j)).flatMap fun a => (allF f (w - 1 - j)).map fun b => .nd a b
theorem allF_eq : ∀ f g w, w ≤ f → w ≤ g → allF f w = allF g w := by
  intro f
  induction f with
  | zero =>
    intro g w h1 h2
    cases g with
    | zero => rfl
    | succ g => unfold allF; rw [if_pos (by omega)]
  | succ f ih =>
    intro g w h1 h2
    cases g with
    | zero => unfold allF; rw [if_pos (by omega)]
    | succ g =>
      unfold allF
      by_cases h : w ≤ 1
      · rw [if_pos h, if_pos h]
      · rw [if_neg h, if_neg h]
        refine congrArg List.flatten (List.map_congr_left fun j hj => ?_)
        have hj := List.mem_range.mp hj
        rw [ih g (1 + j) (by omega) (by omega), ih g (w - 1 - j) (by omega) (by omega)]
def allT (w : Nat) : List Tr := allF w w
theorem allT_one : allT 1 = [.lf] := rfl
theorem allT_step {w : Nat} (h : 2 ≤ w) : allT w = (List.range (w - 1)).flatMap fun j => (allT (1 + j)).flatMap fun a => (allT (w - 1 - j)).map fun b => .nd a b := by
  unfold allT
  obtain ⟨f, rfl⟩ : ∃ f, w = f + 1 := ⟨w - 1, by omega⟩
  conv => lhs; unfold allF
  rw [if_neg (by omega)]
  refine congrArg List.flatten (List.map_congr_left fun j hj => ?_)
  have hj := List.mem_range.mp hj
  rw [allF_eq f (1 + j) (1 + j) (by omega) (by omega), allF_eq f (f + 1 - 1 - j) (f + 1 - 1 - j) (by omega) (by omega)]
theorem mem_allT : ∀ (w : Nat), 1 ≤ w → ∀ t : Tr, t ∈ allT w ↔ t.sz = w := by
  intro w
  induction w using Nat.strongRecOn with
  | _ w ih =>
    intro h1 t
    by_cases h : w = 1
    · subst h
      rw [allT_one, List.mem_singleton]
      constructor
      · rintro rfl; rfl
      · intro h
        cases t with
        | lf => rfl
        | nd a b => have := sz_pos a; have := sz_pos b; have : (Tr.nd a b).sz = a.sz + b.sz := rfl; omega
    · rw [allT_step (by omega), List.mem_flatMap]
      constructor
      · rintro ⟨j, hj, ht⟩
        have hj := List.mem_range.mp hj
        obtain ⟨a, ha, ht⟩ := List.mem_flatMap.mp ht
        obtain ⟨b, hb, rfl⟩ := List.mem_map.mp ht
        have ha := (ih (1 + j) (by omega) (by omega) a).mp ha
        have hb := (ih (w - 1 - j) (by omega) (by omega) b).mp hb
        show a.sz + b.sz = _
        omega
      · intro ht
        cases t with
        | lf => have : (Tr.lf).sz = 1 := rfl; omega
        | nd a b =>
          have ha := sz_pos a
          have hb := sz_pos b
          have : (Tr.nd a b).sz = a.sz + b.sz := rfl
          refine ⟨(a.sz - 1).toNat, List.mem_range.mpr (by omega), List.mem_flatMap.mpr ⟨a, (ih _ (by omega) (by omega) a).mpr (by omega), List.mem_map.mpr ⟨b, (ih _ (by omega) (by omega) b).mpr (by omega), rfl⟩⟩⟩
theorem wr_allT : ∀ (w : Nat), 1 ≤ w → ∀ s : Int, wr w s = (allT w).map fun t => t.arcsP s := by
  intro w
  induction w using Nat.strongRecOn with
  | _ w ih =>
    intro h1 s
    by_cases h : w = 1
    · subst h; rfl
    · rw [wr_step (by omega), allT_step (by omega), List.map_flatMap]
      refine congrArg List.flatten (List.map_congr_left fun j hj => ?_)
      have hj := List.mem_range.mp hj
      rw [ih (1 + j) (by omega) (by omega), List.flatMap_map, List.map_flatMap]
      refine congrArg List.flatten (List.map_congr_left fun a ha => ?_)
      have ha := (mem_allT (1 + j) (by omega) a).mp ha
      rw [ih (w - 1 - j) (by omega) (by omega), List.map_map, List.map_map]
      refine List.map_congr_left fun b hb => ?_
      have hb := (mem_allT (w - 1 - j) (by omega) b).mp hb
      show a.arcsP s ++ b.arcsP (s + 1 + (j : Int)) ++ [(s, s + 1 + (j : Int)), (s + 1 + (j : Int), s + (w : Int))] = a.arcsP s ++ b.arcsP (s + a.sz) ++ [(s, s + a.sz), (s + a.sz, s + a.sz + b.sz)]
      rw [show s + a.sz = s + 1 + (j : Int) by omega, show s + 1 + (j : Int) + b.sz = s + (w : Int) by omega]
theorem planP {n : Int} (t : Tr) (h3 : 3 ≤ n) (h40 : n ≤ 40) (hT : t.sz = n - 1) : planOf n (t.arcsP 1) = plT n t := by
  have nd : (((t.arcs 1).filter wide).map (nrm n)).Nodup := by
    have hp := plT_ok h3 h40 hT
    refine (sortPP_perm _).nodup_iff.mp (hp.srt.imp fun {p q} h e => ?_)
    subst e
    unfold ltPP at h
    have := of_decide_eq_true h
    omega
  unfold planOf plT planOf
  exact (sortPP_eq (((arcsP_perm t 1).filter wide).map (nrm n)).symm nd).symm
end Tx
namespace Tx
open PySem PySem.Spec PyProof.Rows L2 TL
def dat3 : List (List (Int × Int) × List (Nat × Nat × Nat × Nat)) := [([], [(1, 0, 16, 0), (2, 8, 0, 1), (8, 17, 0, 0), (10, 0, 1, 2), (16, 0, 10, 1), (17, 2, 0, 2)])]
def dat4 : List (List (Int × Int) × List (Nat × Nat × Nat × Nat)) := [([(0, 2)], [(1, 0, 16, 0), (2, 8, 24, 1), (3, 16, 0, 2), (8, 17, 0, 0), (10, 0, 1, 3), (16, 26, 10, 1), (17, 2, 0, 3), (19, 0, 2, 4), (24, 0, 19, 2), (26, 3, 0, 4)]),
  ([(1, 3)], [(1, 0, 24, 0), (3, 8, 0, 1), (8, 25, 0, 0), (10, 0, 25, 2), (11, 17, 1, 3), (17, 26, 0, 2), (19, 0, 10, 4), (24, 0, 11, 1), (25, 3, 19, 3), (26, 11, 0, 4)])]
def dat5 : List (List (Int × Int) × List (Nat × Nat × Nat × Nat)) := [([(0, 2), (0, 3)], [(1, 0, 16, 0), (2, 8, 24, 1), (3, 16, 32, 2), (4, 24, 0, 3), (8, 17, 0, 0), (10, 0, 1, 4), (16, 26, 10, 1), (17, 2, 0, 4), (19, 0, 2, 5), (24, 35, 19, 2), (26, 3, 0, 5), (28, 0, 3, 6), (32, 0, 28, 3), (35, 4, 0, 6)]),
  ([(0, 2), (2, 4)], [(1, 0, 16, 0), (2, 8, 32, 1), (4, 16, 0, 2), (8, 17, 0, 0), (10, 0, 1, 3), (16, 34, 10, 1), (17, 2, 0, 3), (19, 0, 34, 4), (20, 26, 2, 5), (26, 35, 0, 4), (28, 0, 19, 6), (32, 0, 20, 2), (34, 4, 28, 5), (35, 20, 0, 6)]),
  ([(0, 3), (1, 3)], [(1, 0, 24, 0), (3, 8, 32, 1), (4, 24, 0, 2), (8, 25, 0, 0), (10, 0, 25, 3), (11, 17, 1, 4), (17, 26, 0, 3), (19, 0, 10, 5), (24, 35, 11, 1), (25, 3, 19, 4), (26, 11, 0, 5), (28, 0, 3, 6), (32, 0, 28, 2), (35, 4, 0, 6)]),
  ([(1, 4), (2, 4)], [(1, 0, 32, 0), (4, 8, 0, 1), (8, 33, 0, 0), (10, 0, 33, 2), (12, 17, 1, 3), (17, 34, 0, 2), (19, 0, 34, 4), (20, 26, 10, 5), (26, 35, 0, 4), (28, 0, 19, 6), (32, 0, 12, 1), (33, 4, 20, 3), (34, 12, 28, 5), (35, 20, 0, 6)]),
  ([(1, 3), (1, 4)], [(1, 0, 32, 0), (4, 8, 0, 1), (8, 33, 0, 0), (10, 0, 25, 2), (11, 17, 33, 3), (12, 25, 1, 4), (17, 26, 0, 2), (19, 0, 10, 5), (25, 35, 19, 3), (26, 11, 0, 5), (28, 0, 11, 6), (32, 0, 12, 1), (33, 4, 28, 4), (35, 12, 0, 6)])]
def dat6 : List (List (Int × Int) × List (Nat × Nat × Nat × Nat)) := [([(0, 2), (0, 3), (0, 4)], [(1, 0, 16, 0), (2, 8, 24, 1), (3, 16, 32, 2), (4, 24, 40, 3), (5, 32, 0, 4), (8, 17, 0, 0), (10, 0, 1, 5), (16, 26, 10, 1), (17, 2, 0, 5), (19, 0, 2, 6), (24, 35, 19, 2), (26, 3, 0, 6), (28, 0, 3, 7), (32, 44, 28, 3), (35, 4, 0, 7), (37, 0, 4, 8), (40, 0, 37, 4), (44, 5, 0, 8)]),
  ([(0, 2), (0, 3), (3, 5)], [(1, 0, 16, 0), (2, 8, 24, 1), (3, 16, 40, 2), (5, 24, 0, 3), (8, 17, 0, 0), (10, 0, 1, 4), (16, 26, 10, 1), (17, 2, 0, 4), (19, 0, 2, 5), (24, 43, 19, 2), (26, 3, 0, 5), (28, 0, 43, 6), (29, 35, 3, 7), (35, 44, 0, 6), (37, 0, 28, 8), (40, 0, 29, 3), (43, 5, 37, 7), (44, 29, 0, 8)]),
  ([(0, 2), (0, 4), (2, 4)], [(1, 0, 16, 0), (2, 8, 32, 1), (4, 16, 40, 2), (5, 32, 0, 3), (8, 17, 0, 0), (10, 0, 1, 4), (16, 34, 10, 1), (17, 2, 0, 4), (19, 0, 34, 5), (20, 26, 2, 6), (26, 35, 0, 5), (28, 0, 19, 7), (32, 44, 20, 2), (34, 4, 28, 6), (35, 20, 0, 7), (37, 0, 4, 8), (40, 0, 37, 3), (44, 5, 0, 8)]),
  ([(0, 2), (2, 5), (3, 5)], [(1, 0, 16, 0), (2, 8, 40, 1), (5, 16, 0, 2), (8, 17, 0, 0), (10, 0, 1, 3), (16, 42, 10, 1), (17, 2, 0, 3), (19, 0, 42, 4), (21, 26, 2, 5), (26, 43, 0, 4), (28, 0, 43, 6), (29, 35, 19, 7), (35, 44, 0, 6), (37, 0, 28, 8), (40, 0, 21, 2), (42, 5, 29, 5), (43, 21, 37, 7), (44, 29, 0, 8)]),
  ([(0, 2), (2, 4), (2, 5)], [(1, 0, 16, 0), (2, 8, 40, 1), (5, 16, 0, 2), (8, 17, 0, 0), (10, 0, 1, 3), (16, 42, 10, 1), (17, 2, 0, 3), (19, 0, 34, 4), (20, 26, 42, 5), (21, 34, 2, 6), (26, 35, 0, 4), (28, 0, 19, 7), (34, 44, 28, 5), (35, 20, 0, 7), (37, 0, 20, 8), (40, 0, 21, 2), (42, 5, 37, 6), (44, 21, 0, 8)]),
  ([(0, 3), (0, 4), (1, 3)], [(1, 0, 24, 0), (3, 8, 32, 1), (4, 24, 40, 2), (5, 32, 0, 3), (8, 25, 0, 0), (10, 0, 25, 4), (11, 17, 1, 5), (17, 26, 0, 4), (19, 0, 10, 6), (24, 35, 11, 1), (25, 3, 19, 5), (26, 11, 0, 6), (28, 0, 3, 7), (32, 44, 28, 2), (35, 4, 0, 7), (37, 0, 4, 8), (40, 0, 37, 3), (44, 5, 0, 8)]),
  ([(0, 3), (1, 3), (3, 5)], [(1, 0, 24, 0), (3, 8, 40, 1), (5, 24, 0, 2), (8, 25, 0, 0), (10, 0, 25, 3), (11, 17, 1, 4), (17, 26, 0, 3), (19, 0, 10, 5), (24, 43, 11, 1), (25, 3, 19, 4), (26, 11, 0, 5), (28, 0, 43, 6), (29, 35, 3, 7), (35, 44, 0, 6), (37, 0, 28, 8), (40, 0, 29, 2), (43, 5, 37, 7), (44, 29, 0, 8)]),
  ([(0, 4), (1, 4), (2, 4)], [(1, 0, 32, 0), (4, 8, 40, 1), (5, 32, 0, 2), (8, 33, 0, 0), (10, 0, 33, 3), (12, 17, 1, 4), (17, 34, 0, 3), (19, 0, 34, 5), (20, 26, 10, 6), (26, 35, 0, 5), (28, 0, 19, 7), (32, 44, 12, 1), (33, 4, 20, 4), (34, 12, 28, 6), (35, 20, 0, 7), (37, 0, 4, 8), (40, 0, 37, 2), (44, 5, 0, 8)]),
  ([(0, 4), (1, 3), (1, 4)], [(1, 0, 32, 0), (4, 8, 40, 1), (5, 32, 0, 2), (8, 33, 0, 0), (10, 0, 25, 3), (11, 17, 33, 4), (12, 25, 1, 5), (17, 26, 0, 3), (19, 0, 10, 6), (25, 35, 19, 4), (26, 11, 0, 6), (28, 0, 11, 7), (32, 44, 12, 1), (33, 4, 28, 5), (35, 12, 0, 7), (37, 0, 4, 8), (40, 0, 37, 2), (44, 5, 0, 8)]),
  ([(1, 5), (2, 5), (3, 5)], [(1, 0, 40, 0), (5, 8, 0, 1), (8, 41, 0, 0), (10, 0, 41, 2), (13, 17, 1, 3), (17, 42, 0, 2), (19, 0, 42, 4), (21, 26, 10, 5), (26, 43, 0, 4), (28, 0, 43, 6), (29, 35, 19, 7), (35, 44, 0, 6), (37, 0, 28, 8), (40, 0, 13, 1), (41, 5, 21, 3), (42, 13, 29, 5), (43, 21, 37, 7), (44, 29, 0, 8)]),
  ([(1, 5), (2, 4), (2, 5)], [(1, 0, 40, 0), (5, 8, 0, 1), (8, 41, 0, 0), (10, 0, 41, 2), (13, 17, 1, 3), (17, 42, 0, 2), (19, 0, 34, 4), (20, 26, 42, 5), (21, 34, 10, 6), (26, 35, 0, 4), (28, 0, 19, 7), (34, 44, 28, 5), (35, 20, 0, 7), (37, 0, 20, 8), (40, 0, 13, 1), (41, 5, 21, 3), (42, 13, 37, 6), (44, 21, 0, 8)]),
  ([(1, 3), (1, 5), (3, 5)], [(1, 0, 40, 0), (5, 8, 0, 1), (8, 41, 0, 0), (10, 0, 25, 2), (11, 17, 41, 3), (13, 25, 1, 4), (17, 26, 0, 2), (19, 0, 10, 5), (25, 43, 19, 3), (26, 11, 0, 5), (28, 0, 43, 6), (29, 35, 11, 7), (35, 44, 0, 6), (37, 0, 28, 8), (40, 0, 13, 1), (41, 5, 29, 4), (43, 13, 37, 7), (44, 29, 0, 8)]),
  ([(1, 4), (1, 5), (2, 4)], [(1, 0, 40, 0), (5, 8, 0, 1), (8, 41, 0, 0), (10, 0, 33, 2), (12, 17, 41, 3), (13, 33, 1, 4), (17, 34, 0, 2), (19, 0, 34, 5), (20, 26, 10, 6), (26, 35, 0, 5), (28, 0, 19, 7), (33, 44, 20, 3), (34, 12, 28, 6), (35, 20, 0, 7), (37, 0, 12, 8), (40, 0, 13, 1), (41, 5, 37, 4), (44, 13, 0, 8)]),
  ([(1, 3), (1, 4), (1, 5)], [(1, 0, 40, 0), (5, 8, 0, 1), (8, 41, 0, 0), (10, 0, 25, 2), (11, 17, 33, 3), (12, 25, 41, 4), (13, 33, 1, 5), (17, 26, 0, 2), (19, 0, 10, 6), (25, 35, 19, 3), (26, 11, 0, 6), (28, 0, 11, 7), (33, 44, 28, 4), (35, 12, 0, 7), (37, 0, 12, 8), (40, 0, 13, 1), (41, 5, 37, 5), (44, 13, 0, 8)])]
def insP (p : Int × Int) : List (Int × Int) → List (Int × Int)
  | [] => [p]
  | q :: r => if lePP p q then p :: q :: r else q :: insP p r
def isP : List (Int × Int) → List (Int × Int)
  | [] => []
  | p :: r => insP p (isP r)
theorem insP_perm (p : Int × Int) : ∀ l, (insP p l).Perm (p :: l)
  | [] => .refl _
  | q :: r => by
    unfold insP
    split
    · exact .refl _
    · exact ((insP_perm p r).cons q).trans (List.Perm.swap p q r)
theorem isP_perm : ∀ l, (isP l).Perm l
  | [] => .refl _
  | p :: r => (insP_perm p (isP r)).trans ((isP_perm r).cons p)
theorem lePP_tot' (p q : Int × Int) : lePP p q = true ∨ lePP q p = true := by
  unfold lePP
  rw [decide_eq_true_eq, decide_eq_true_eq]
  omega
theorem lePP_tr {p q r : Int × Int} (h1 : lePP p q = true) (h2 : lePP q r = true) : lePP p r = true := by
  unfold lePP at *
  rw [decide_eq_true_eq] at *
  omega
theorem lePP_anti {p q : Int × Int} (h1 : lePP p q = true) (h2 : lePP q p = true) : p = q := by
  unfold lePP at *
  rw [decide_eq_true_eq] at *
  exact Prod.ext (by omega) (by omega)
theorem insP_srt (p : Int × Int) : ∀ l, l.Pairwise (fun a b => lePP a b = true) → (insP p l).Pairwise fun a b => lePP a b = true
  | [], _ => List.pairwise_singleton ..
  | q :: r, h => by
    obtain ⟨h1, h2⟩ := List.pairwise_cons.mp h
    unfold insP
    split
    · rename_i c
      exact List.pairwise_cons.mpr ⟨fun z hz => by
        rcases List.mem_cons.mp hz with rfl | hz
        · exact c
        · exact lePP_tr c (h1 z hz), h⟩
    · rename_i c
      have c : lePP q p = true := (lePP_tot' q p).resolve_right c
      exact List.pairwise_cons.mpr ⟨fun z hz => by
        rcases List.mem_cons.mp ((insP_perm p r).mem_iff.mp hz) with rfl | hz
        · exact c
        · exact h1 z hz, insP_srt p r h2⟩
theorem isP_srt : ∀ l, (isP l).Pairwise fun a b => lePP a b = true
  | [] => .nil
  | p :: r => insP_srt p _ (isP_srt r)
theorem le_unique : ∀ {l m : List (Int × Int)}, l.Perm m → l.Pairwise (fun p q => lePP p q = true) → m.Pairwise (fun p q => lePP p q = true) → l = m
  | [], m, h, _, _ => (List.nil_perm.mp h).symm
  | a :: l, [], h, _, _ => absurd h.length_eq (by simp)
  | a :: l, b :: m, h, h1, h2 => by
    have e : a = b := by
      have ha : a ∈ b :: m := h.mem_iff.mp (List.mem_cons_self ..)
      have hb : b ∈ a :: l := h.mem_iff.mpr (List.mem_cons_self ..)
      rcases List.mem_cons.mp ha with e | ha
      · exact e
      · rcases List.mem_cons.mp hb with e | hb
        · exact e.symm
        · exact lePP_anti ((List.pairwise_cons.mp h1).1 b hb) ((List.pairwise_cons.mp h2).1 a ha)
    subst e
    rw [le_unique (List.perm_cons a |>.mp h) (List.pairwise_cons.mp h1).2 (List.pairwise_cons.mp h2).2]
theorem isP_eq (l : List (Int × Int)) : sortPP l = isP l :=
  le_unique ((sortPP_perm l).trans (isP_perm l).symm) (List.pairwise_mergeSort lePP_trans lePP_total l) (isP_srt l)
def tieC (n : Int) (cs : List (Int × Int)) (a b : Int) : Bool := (sides n ++ cs).any fun p => (decide (p.1 = a) && decide (p.2 = b)) || (decide (p.1 = b) && decide (p.2 = a))
theorem mem_both' {L : List (Int × Int)} {a b : Int} : (a, b) ∈ both L ↔ (a, b) ∈ L ∨ (b, a) ∈ L := by
  unfold both
  rw [List.mem_flatMap]
  constructor
  · rintro ⟨p, h1, h2⟩
    rcases List.mem_cons.mp h2 with rfl | h2
    · exact .inl h1
    · have h2 := List.mem_singleton.mp h2
      unfold swp at h2
      cases h2
      exact .inr h1
  · rintro (h | h)
    · exact ⟨_, h, List.mem_cons_self ..⟩
    · exact ⟨_, h, List.mem_cons_of_mem _ (List.mem_singleton.mpr rfl)⟩
theorem tieC_eq (n : Int) (cs : List (Int × Int)) (a b : Int) : tieB n cs a b = tieC n cs a b := by
  rw [Bool.eq_iff_iff]
  unfold tieB tieC
  rw [decide_eq_true_eq, List.any_eq_true, mem_both']
  unfold linesOf
  rw [(sortPP_perm _).mem_iff, (sortPP_perm _).mem_iff]
  constructor
  · rintro (h | h)
    · exact ⟨_, h, by simp⟩
    · exact ⟨_, h, by simp⟩
  · rintro ⟨p, hp, e⟩
    rw [Bool.or_eq_true, Bool.and_eq_true, Bool.and_eq_true, decide_eq_true_eq, decide_eq_true_eq, decide_eq_true_eq, decide_eq_true_eq] at e
    rcases e with ⟨rfl, rfl⟩ | ⟨rfl, rfl⟩
    · exact .inl hp
    · exact .inr hp
def thdC (n : Int) (cs : List (Int × Int)) (s e : Int) : Option Int := ((List.range ((e - s) % n - 1).toNat).find? fun (k : Nat) => tieC n cs s ((s + k + 1) % n) && tieC n cs e ((s + k + 1) % n)).map fun (k : Nat) => (s + k + 1) % n
theorem thdC_eq (n : Int) (cs : List (Int × Int)) (s e : Int) : thd n cs s e = thdC n cs s e := by
  unfold thd thdC
  simp only [tieC_eq]
def wkA {σ : Type} (su : Bool → σ → Option σ) : List Bool → σ → Option σ
  | [], s => some s
  | w :: P, s => (su w s).bind (wkA su P)
theorem wkA_snoc {σ : Type} {su : Bool → σ → Option σ} : ∀ (P : List Bool) (w : Bool) (s : σ), wkA su (P ++ [w]) s = (wkA su P s).bind (su w)
  | [], w, s => by
    show (su w s).bind (fun s => some s) = su w s
    cases su w s <;> rfl
  | v :: P, w, s => by
    show (su v s).bind (wkA su (P ++ [w])) = ((su v s).bind (wkA su P)).bind (su w)
    cases su v s with
    | none => rfl
    | some s' => exact wkA_snoc P w s'
theorem wkA_map {σ τ : Type} {su : Bool → σ → Option σ} {st : Bool → τ → Option τ} {f : σ → τ} {I : σ → Prop} (hI : ∀ w s s', I s → su w s = some s' → I s') (h : ∀ w s, I s → st w (f s) = (su w s).map f) : ∀ (P : List Bool) (s : σ), I s → wkA st P (f s) = (wkA su P s).map f
  | [], s, _ => rfl
  | w :: P, s, hs => by
    show (st w (f s)).bind (wkA st P) = ((su w s).bind (wkA su P)).map f
    rw [h w s hs]
    cases e : su w s with
    | none => rfl
    | some s' => exact wkA_map hI h P s' (hI w s s' hs e)
theorem wkA_inv {σ : Type} {su : Bool → σ → Option σ} {I : σ → Prop} (hI : ∀ w s s', I s → su w s = some s' → I s') : ∀ (P : List Bool) (s s' : σ), I s → wkA su P s = some s' → I s'
  | [], s, s', hs, h => by cases h; exact hs
  | w :: P, s, s', hs, h => by
    obtain ⟨s1, h1, h2⟩ := Option.bind_eq_some_iff.mp (show (su w s).bind (wkA su P) = some s' from h)
    exact wkA_inv hI P s1 s' (hI w s s1 hs h1) h2
def addB (i m : Nat) : Nat := if m / 2 ^ i % 2 = 1 then m else m + 2 ^ i
def pc (m : Nat) : Nat := ((List.range 9).filter fun i => m / 2 ^ i % 2 = 1).length
theorem addB_ok : ∀ m < 512, ∀ i < 9, addB i m < 512 ∧ pc (addB i m) = (if addB i m = m then pc m else pc m + 1) := by decide +kernel
theorem pc_one : ∀ i < 9, pc (2 ^ i) = 1 ∧ 2 ^ i < 512 := by decide +kernel
theorem pc_all : ∀ k < 10, pc (2 ^ k - 1) = k ∧ 2 ^ k - 1 < 512 := by decide +kernel
abbrev TB := List (Nat × Nat × Nat × Nat)
def lkT (tb : TB) (c : Nat) : Option (Nat × Nat × Nat × Nat) := tb.find? fun x => Nat.beq x.1 c
def suT (tb : TB) (w : Bool) (s : Nat × Nat) : Option (Nat × Nat) := match lkT tb s.1 with
  | none => none
  | some x => match lkT tb (if w then x.2.1 else x.2.2.1) with
    | none => none
    | some y => some (y.1, addB y.2.2.2 s.2)
def eqT (s t : Nat × Nat) : Bool := Nat.beq s.1 t.1 && Nat.beq s.2 t.2
def bad (tb : TB) (tg : Nat × Nat) : Nat → Nat → Nat × Nat → Bool
  | 0, _, s => eqT s tg
  | f + 1, r, s => eqT s tg || (Nat.ble r (f + 1) && ((match suT tb true s with
    | none => false
    | some s' => bad tb tg f (if Nat.beq s'.2 s.2 then r else r - 1) s') || (match suT tb false s with
    | none => false
    | some s' => bad tb tg f (if Nat.beq s'.2 s.2 then r else r - 1) s')))
theorem eqT_iff {s t : Nat × Nat} : eqT s t = true ↔ s = t := by
  unfold eqT
  rw [Bool.and_eq_true]
  constructor
  · rintro ⟨h1, h2⟩; exact Prod.ext (Nat.eq_of_beq_eq_true h1) (Nat.eq_of_beq_eq_true h2)
  · rintro rfl; exact ⟨Nat.beq_refl _, Nat.beq_refl _⟩
def tbOk (tb : TB) : Bool := tb.all fun x => Nat.blt x.2.2.2 9
theorem suT_ok {tb : TB} (h : tbOk tb = true) {w : Bool} {s s' : Nat × Nat} (hs : s.2 < 512) (e : suT tb w s = some s') : s'.2 < 512 ∧ pc s'.2 = (if s'.2 = s.2 then pc s.2 else pc s.2 + 1) := by
  unfold suT at e
  split at e
  · cases e
  · split at e
    · cases e
    · rename_i y hy
      cases e
      have := List.all_eq_true.mp h y (List.mem_of_find?_eq_some hy)
      exact addB_ok _ hs _ (Nat.le_of_ble_eq_true this)
theorem bad_iff {tb : TB} (h : tbOk tb = true) {tg : Nat × Nat} {k : Nat} (hk : pc tg.2 = k) : ∀ (f r : Nat) (s : Nat × Nat), s.2 < 512 → r + pc s.2 = k → (bad tb tg f r s = true ↔ ∃ P : List Bool, P.length ≤ f ∧ wkA (suT tb) P s = some tg)
  | 0, r, s, hs, hr => by
    constructor
    · intro e
      exact ⟨[], Nat.le_refl _, by rw [eqT_iff.mp e]; rfl⟩
    · rintro ⟨P, h1, h2⟩
      have : P = [] := List.eq_nil_of_length_eq_zero (by omega)
      subst this
      cases h2
      exact eqT_iff.mpr rfl
  | f + 1, r, s, hs, hr => by
    have st : ∀ w s', suT tb w s = some s' → s'.2 < 512 ∧ (if Nat.beq s'.2 s.2 then r else r - 1) + pc s'.2 = k ∨ (s'.2 < 512 ∧ r = 0 ∧ s'.2 ≠ s.2) := fun w s' e => by
      obtain ⟨a, b⟩ := suT_ok h hs e
      by_cases c : s'.2 = s.2
      · rw [if_pos c] at b
        rw [c, Nat.beq_refl, if_pos rfl]
        rw [c] at a
        exact .inl ⟨a, hr⟩
      · rw [if_neg c] at b
        have : Nat.beq s'.2 s.2 = false := Bool.eq_false_iff.mpr fun z => c (Nat.eq_of_beq_eq_true z)
        rw [this, if_neg (by decide)]
        by_cases z : r = 0
        · exact .inr ⟨a, z, c⟩
        · exact .inl ⟨a, by omega⟩
    have grow : ∀ (P : List Bool) (s t : Nat × Nat), s.2 < 512 → wkA (suT tb) P s = some t → pc t.2 ≤ pc s.2 + P.length := fun P => by
      induction P with
      | nil => intro s t _ e; cases e; exact Nat.le_refl _
      | cons w P ih =>
        intro s t hs e
        obtain ⟨s1, h1, h2⟩ := Option.bind_eq_some_iff.mp (show (suT tb w s).bind (wkA (suT tb) P) = some t from e)
        obtain ⟨a, b⟩ := suT_ok h hs h1
        have := ih s1 t a h2
        rw [List.length_cons]
        split at b <;> omega
    have low : ∀ (P : List Bool) (s t : Nat × Nat), s.2 < 512 → wkA (suT tb) P s = some t → pc s.2 ≤ pc t.2 := fun P => by
      induction P with
      | nil => intro s t _ e; cases e; exact Nat.le_refl _
      | cons w P ih =>
        intro s t hs e
        obtain ⟨s1, h1, h2⟩ := Option.bind_eq_some_iff.mp (show (suT tb w s).bind (wkA (suT tb) P) = some t from e)
        obtain ⟨a, b⟩ := suT_ok h hs h1
        have := ih s1 t a h2
        split at b <;> omega
    have one : ∀ w, (match suT tb w s with | none => false | some s' => bad tb tg f (if Nat.beq s'.2 s.2 then r else r - 1) s') = true ↔ ∃ P : List Bool, P.length ≤ f ∧ wkA (suT tb) (w :: P) s = some tg := fun w => by
      cases e : suT tb w s with
      | none =>
        constructor
        · intro z; cases z
        · rintro ⟨P, _, z⟩
          have : (suT tb w s).bind (wkA (suT tb) P) = some tg := z
          rw [e] at this; cases this
      | some s' =>
        have ew : ∀ P, wkA (suT tb) (w :: P) s = wkA (suT tb) P s' := fun P => by
          show (suT tb w s).bind _ = _
          rw [e]; rfl
        simp only [ew]
        rcases st w s' e with ⟨a, b⟩ | ⟨a, b, c⟩
        · exact bad_iff h hk f _ s' a b
        · -- no line is missing, yet a new one is met: it can't be
          obtain ⟨a', b'⟩ := suT_ok h hs e
          rw [if_neg c] at b'
          have hk2 : pc tg.2 < pc s'.2 := by omega
          constructor
          · intro z
            exfalso
            have nb : ∀ (f r : Nat) (s : Nat × Nat), s.2 < 512 → pc tg.2 < pc s.2 → bad tb tg f r s = true → False := fun f => by
              induction f with
              | zero =>
                intro r s _ hp z
                rw [eqT_iff.mp z] at hp
                omega
              | succ f ih =>
                intro r s hs hp z
                unfold bad at z
                rw [Bool.or_eq_true, Bool.and_eq_true, Bool.or_eq_true] at z
                rcases z with z | ⟨_, z⟩
                · rw [eqT_iff.mp z] at hp; omega
                · have go : ∀ w, (match suT tb w s with | none => false | some s' => bad tb tg f (if Nat.beq s'.2 s.2 then r else r - 1) s') = true → False := fun w z => by
                    split at z
                    · cases z
                    · rename_i s2 e2
                      obtain ⟨a2, b2⟩ := suT_ok h hs e2
                      refine ih _ s2 a2 ?_ z
                      split at b2 <;> omega
                  exact z.elim (go true) (go false)
            exact nb _ _ _ a hk2 z
          · rintro ⟨P, _, z⟩
            have := low P s' tg a z
            omega
    have ex : ∀ P : List Bool, P.length ≤ f + 1 → wkA (suT tb) P s = some tg → Nat.ble r (f + 1) = true := fun P h1 h2 => by
      have := grow P s tg hs h2
      exact Nat.ble_eq_true_of_le (by omega)
    show (eqT s tg || (Nat.ble r (f + 1) && (_ || _))) = true ↔ _
    rw [Bool.or_eq_true, Bool.and_eq_true, Bool.or_eq_true, one true, one false, eqT_iff]
    constructor
    · rintro (rfl | ⟨_, ⟨P, h1, h2⟩ | ⟨P, h1, h2⟩⟩)
      · exact ⟨[], Nat.zero_le _, rfl⟩
      · exact ⟨true :: P, Nat.succ_le_succ h1, h2⟩
      · exact ⟨false :: P, Nat.succ_le_succ h1, h2⟩
    · rintro ⟨P, h1, h2⟩
      cases P with
      | nil => exact .inl (Option.some.inj h2)
      | cons w P =>
        refine .inr ⟨ex _ h1 h2, ?_⟩
        have h3 : P.length ≤ f := by rw [List.length_cons] at h1; omega
        cases w
        · exact .inr ⟨P, h3, h2⟩
        · exact .inl ⟨P, h3, h2⟩
def cdP (p : Int × Int) : Nat := 8 * p.1.toNat + p.2.toNat
def nxC (n : Int) (cs : List (Int × Int)) (w : Bool) (p : Int × Int) : Nat := match (if w then thdC n cs p.1 p.2 else thdC n cs p.2 p.1) with
  | none => 0
  | some c => cdP (c, p.1)
def chkP (n : Int) (cs : List (Int × Int)) (tb : TB) (p : Int × Int) : Bool := match lkT tb (cdP p) with
  | none => false
  | some x => Nat.beq x.2.1 (nxC n cs true p) && Nat.beq x.2.2.1 (nxC n cs false p) && decide ((isP (sides n ++ cs))[x.2.2.2]? = some (nrmP p.1 p.2)) &&
      !bad tb (cdP p, 2 ^ (2 * n - 3).toNat - 1) (3 * n - 7).toNat (2 * n - 4).toNat (cdP p, 2 ^ x.2.2.2) && bad tb (cdP p, 2 ^ (2 * n - 3).toNat - 1) (3 * n - 6).toNat (2 * n - 4).toNat (cdP p, 2 ^ x.2.2.2)
def chkT (n : Int) (cs : List (Int × Int)) (tb : TB) : Bool := tbOk tb && (both (sides n ++ cs)).all (chkP n cs tb) && (lkT tb 0).isNone
def chkA (n : Int) (d : List (List (Int × Int) × TB)) : Bool := d.all (fun x => chkT n x.1 x.2) && (wr (n - 1).toNat 1).all fun l => d.any fun x => decide (x.1 = isP ((l.filter wide).map (nrm n)))
theorem chk3 : chkA 3 dat3 = true := by decide +kernel
theorem chk4 : chkA 4 dat4 = true := by decide +kernel
theorem chk5 : chkA 5 dat5 = true := by decide +kernel
theorem chk6 : chkA 6 dat6 = true := by decide +kernel
end Tx
namespace Tx
open PySem PySem.Spec PyProof.Rows L2 TL
open Tr
section
variable {n : Int} {cs : List (Int × Int)}
def Inc (n x y x' y' : Int) : Prop := (x' - x) % n + (y' - x') % n ≤ (y - x) % n
theorem Inc.refl {x y : Int} : Inc n x y x y := by unfold Inc; rw [Int.sub_self, Int.zero_emod]; omega
theorem Inc.end {x y x' y' : Int} (n0 : 0 < n) (h : Inc n x y x' y') : (y' - x) % n = (x' - x) % n + (y' - x') % n := by
  unfold Inc at h
  have h1 := Int.emod_nonneg (y' - x') (show n ≠ 0 by omega)
  have h2 := Int.emod_nonneg (x' - x) (show n ≠ 0 by omega)
  have h3 := Int.emod_lt_of_pos (y - x) n0
  rw [show y' - x = (x' - x) + (y' - x') by omega, Int.add_emod]
  exact Int.emod_eq_of_lt (by omega) (by omega)
variable (hp : IsPlan n cs)
include hp
theorem Th.one {x y c c' : Int} (h1 : Th n cs true x y c) (h2 : Th n cs true x y c') : c = c' := by
  have e1 := h1.eq hp
  have e2 := h2.eq hp
  rw [e1] at e2
  exact Option.some.inj e2
def Alt : Option Bool → List Sp2 → Prop
  | _, [] => True
  | w, .mv _ v :: P => w ≠ some v ∧ Alt (some v) P
  | _, .ov :: _ => False
end
end Tx
namespace Tx
open PySem PySem.Spec PyProof.Rows L2 TL
open Tr
abbrev Ent := (Int × Int) × List Sp2
def lw : Option Bool → List Sp2 → Option Bool
  | w, [] => w
  | _, .mv _ v :: P => lw (some v) P
  | _, .ov :: _ => none
theorem put_new {D : AT} {k : List Key} {v : PyData} (h : valP D k = none) : putP D k v = D ++ [(k, v)] := by
  unfold putP
  rw [if_neg]
  intro z
  obtain ⟨kv, hkv, e⟩ := List.any_eq_true.mp z
  have := valP_some (kvs := D) (k := k) (d := kv.2) (by rw [← of_decide_eq_true e]; exact hkv)
  rw [h] at this
  cases this
section
variable {n : Int} {cs : List (Int × Int)}
structure Inv (n : Int) (cs : List (Int × Int)) (s : Int × Int) (L : List Ent) (at_ : Nat) : Prop where
  nod : ∀ e ∈ L, Alt none e.2 ∧ goW n cs e.2 s = some e.1
  nd : (L.map (·.2)).Nodup
  cl : ∀ i e, i < at_ → L[i]? = some e → ∀ pn v q', lw none e.2 ≠ some v → goS n cs e.1 (.mv pn v) = some q' → (q', e.2 ++ [.mv pn v]) ∈ L
  pa : ∀ e ∈ L, e.2 ≠ [] → ∃ i e', i < at_ ∧ L[i]? = some e' ∧ ∃ st, e.2 = e'.2 ++ [st]
  rt : (s, []) ∈ L
end
end Tx
namespace Tx
open PySem PySem.Spec PyProof.Rows L2 TL
@[irreducible] def f_law_k29 (script : PyData) (K : KD) (E : KX) : Prop :=
  f__law_plan (.int 6) (fun r1 =>
  f__law_tied r1 (fun r3 =>
  f__law_spot r1 (fun r4 =>
  f__law_all_lines r1 (fun r7 =>
  itM (.list r7) fun xs6 =>
  forM (fun l_line113 (s : (List (List Key × PyData)) × PyData) N114 B115 => match s with
  | (l_bits116, l_bit117) => putTM l_bits116 l_line113 l_bit117 fun kv120 =>
  mulM (.int 2) l_bit117 fun r121 =>
  N114 (kv120, r121)) (fun (s : (List (List Key × PyData)) × PyData) =>
  match s with
  | (l_bits8, l_bit9) => itM (.list (keysT l_bits8)) fun xs12 =>
  lcM (fun l_line13 kp sk => getTM l_bits8 l_line13 fun r15 =>
  kp r15) (fun l14 =>
  sumM (.list l14) fun r16 =>
  ixM r4 (.int 0) fun r17 =>
  ixM r4 (.int 1) fun r18 =>
  f__law_pair r17 r18 (fun r19 =>
  getTM l_bits8 r19 fun r20 =>
  dispNM [((.tuple [r4, r20]), (.int 0))] fun m25 =>
  ∃ n : Nat, whileM (fun (s : PyData × (List (PySem.NestedKey × PyData)) × (List PyData) × PyData) N44 B45 => match s with
  | (l_bit46, l_far47, l_row48, l_at49) => lenM (.list l_row48) fun r58 =>
  ltM l_at49 r58 fun b59 =>
  (b59 = true → (ixM (.list l_row48) l_at49 fun r61 =>
  un2 r61 fun l_here62 l_mask63 =>
  itM (.tuple [(.str "even"), (.str "odd")]) fun xs65 =>
  forM (fun l_way76 (s : PyData × (List (PySem.NestedKey × PyData)) × (List PyData)) N77 B78 => match s with
  | (l_bit79, l_far80, l_row81) => f__law_moved r1 (dTd r3) l_here62 (.str "pinch") l_way76 (fun r88 =>
  ((!isNone r88) = true → (ixM r88 (.int 0) fun r92 =>
  ixM r88 (.int 1) fun r93 =>
  f__law_pair r92 r93 (fun r94 =>
  getTM l_bits8 r94 fun r95 =>
  ifM (fun Q => divM l_mask63 r95 fun r97 =>
  modM r97 (.int 2) fun r98 =>
  eqM r98 (.int 1) fun b99 =>
  Q b99) (fun Q => Q l_mask63) (fun Q => addM l_mask63 r95 fun r100 =>
  Q r100) fun r96 =>
  inNM l_far80 (.tuple [r88, r96]) fun b101 =>
  ((!b101) = true → (ixM (.list l_row81) l_at49 fun r105 =>
  getNM l_far80 r105 fun r106 =>
  addM r106 (.int 1) fun r107 =>
  putNM l_far80 (.tuple [r88, r96]) r107 fun kv108 =>
  l_row81.length < sizeLine ∧ (N77 (r95, kv108, (l_row81 ++ ([(.tuple [r88, r96])] : List PyData)))))) ∧ ((!b101) = false → (N77 (r95, l_far80, l_row81)))) E)) ∧ ((!isNone r88) = false → (N77 (l_bit79, l_far80, l_row81)))) E) (fun (s : PyData × (List (PySem.NestedKey × PyData)) × (List PyData)) =>
  match s with
  | (l_bit66, l_far67, l_row68) => addM l_at49 (.int 1) fun r75 =>
  N44 (l_bit66, l_far67, l_row68, r75)) xs65 (l_bit46, l_far47, l_row48))) ∧ (b59 = false → B45 (l_bit46, l_far47, l_row48, l_at49))) (fun (s : PyData × (List (PySem.NestedKey × PyData)) × (List PyData) × PyData) =>
  match s with
  | (l_bit27, l_far28, l_row29, l_at30) => f_tour r1 r4 (fun r39 =>
  lenM (.list r39) fun r40 =>
  subM (.int 0) (.int 1) fun r41 =>
  getdNM l_far28 (.tuple [r4, r16]) r41 fun r42 =>
  f__law_alike r40 r42 (fun r43 =>
  K r43) E) E) n (l_bit9, m25, [(.tuple [r4, r20])], (.int 0))) E) xs12 []) xs6 ([], (.int 1))) E) E) E) E
abbrev SP := (Int × Int) × Nat
def ixL (n : Int) (cs : List (Int × Int)) (q : Int × Int) : Nat := (linesOf n cs).idxOf q
def suS (n : Int) (cs : List (Int × Int)) (w : Bool) (s : SP) : Option SP := (thW n cs s.1 w).map fun c => ((c, s.1.1), addB (ixL n cs (nrmP c s.1.1)) s.2)
def fS (s : SP) : Nat × Nat := (cdP s.1, s.2)
section
variable {n : Int} {cs : List (Int × Int)}
variable (hp : IsPlan n cs)
include hp
theorem suS_tie {w : Bool} {s s' : SP} (h : tieB n cs s.1.1 s.1.2 = true) (e : suS n cs w s = some s') : tieB n cs s'.1.1 s'.1.2 = true := by
  obtain ⟨c, hc, rfl⟩ := Option.map_eq_some_iff.mp e
  exact tsym (th_of hp h hc).tc
theorem cd_inj {p q : Int × Int} (h9 : n ≤ 6) (h1 : tieB n cs p.1 p.2 = true) (h2 : tieB n cs q.1 q.2 = true) (e : cdP p = cdP q) : p = q := by
  have a := tie_lt hp h1
  have b := tie_lt hp h2
  unfold cdP at e
  exact Prod.ext (by omega) (by omega)
theorem chk_at {tb : TB} (hc : chkT n cs tb = true) {p : Int × Int} (h : tieB n cs p.1 p.2 = true) : chkP n cs tb p = true := by
  unfold chkT at hc
  rw [Bool.and_eq_true, Bool.and_eq_true] at hc
  refine List.all_eq_true.mp hc.1.2 p ?_
  have h := of_decide_eq_true h
  have h : (p.1, p.2) ∈ both (linesOf n cs) := h
  rw [mem_both'] at h ⊢
  unfold linesOf at h
  rw [(sortPP_perm _).mem_iff, (sortPP_perm _).mem_iff] at h
  exact h
theorem chk_get {tb : TB} (hc : chkT n cs tb = true) {p : Int × Int} (h : tieB n cs p.1 p.2 = true) : ∃ x, lkT tb (cdP p) = some x ∧ x.1 = cdP p ∧ x.2.1 = nxC n cs true p ∧ x.2.2.1 = nxC n cs false p ∧ x.2.2.2 = ixL n cs (nrmP p.1 p.2) ∧ x.2.2.2 < 9 ∧
    bad tb (cdP p, 2 ^ (2 * n - 3).toNat - 1) (3 * n - 7).toNat (2 * n - 4).toNat (cdP p, 2 ^ x.2.2.2) = false ∧ bad tb (cdP p, 2 ^ (2 * n - 3).toNat - 1) (3 * n - 6).toNat (2 * n - 4).toNat (cdP p, 2 ^ x.2.2.2) = true := by
  have h2 := chk_at hp hc h
  unfold chkP at h2
  split at h2
  · cases h2
  · rename_i x hx
    rw [Bool.and_eq_true, Bool.and_eq_true, Bool.and_eq_true, Bool.and_eq_true, decide_eq_true_eq, Bool.not_eq_true'] at h2
    obtain ⟨⟨⟨⟨a, b⟩, c⟩, d⟩, e⟩ := h2
    have hx1 := List.find?_some hx
    have ht : tbOk tb = true := by
      unfold chkT at hc
      rw [Bool.and_eq_true, Bool.and_eq_true] at hc
      exact hc.1.1
    have h9 := List.all_eq_true.mp ht x (List.mem_of_find?_eq_some hx)
    refine ⟨x, hx, Nat.eq_of_beq_eq_true hx1, Nat.eq_of_beq_eq_true a, Nat.eq_of_beq_eq_true b, ?_, Nat.le_of_ble_eq_true h9, d, e⟩
    unfold ixL
    have el : linesOf n cs = isP (sides n ++ cs) := isP_eq _
    rw [el]
    have nd : (isP (sides n ++ cs)).Nodup := el ▸ (lines_ok hp).nd
    obtain ⟨hl, hg⟩ := List.getElem?_eq_some_iff.mp c
    rw [← hg]
    exact (List.Nodup.idxOf_getElem nd _ hl).symm
theorem suT_map {tb : TB} (hc : chkT n cs tb = true) (w : Bool) (s : SP) (h : tieB n cs s.1.1 s.1.2 = true) : suT tb w (fS s) = (suS n cs w s).map fS := by
  obtain ⟨x, hx, x1, x2, x3, x4, x5, _⟩ := chk_get hp hc h
  unfold suT
  show (match lkT tb (cdP s.1) with | none => none | some x => _) = _
  rw [hx]
  dsimp only
  have e : (if w = true then x.2.1 else x.2.2.1) = nxC n cs w s.1 := by cases w <;> simp [x2, x3]
  rw [e]
  have en : nxC n cs w s.1 = match thW n cs s.1 w with | none => 0 | some c => cdP (c, s.1.1) := by
    unfold nxC thW
    cases w <;> simp only [thdC_eq] <;> rfl
  rw [en]
  unfold suS
  cases ht : thW n cs s.1 w with
  | none =>
    have h0 : lkT tb 0 = none := by
      unfold chkT at hc
      rw [Bool.and_eq_true, Bool.and_eq_true] at hc
      exact Option.isNone_iff_eq_none.mp hc.2
    show (match lkT tb 0 with | none => none | some y => _) = none
    rw [h0]
  | some c =>
    have t := tsym (th_of hp h ht).tc
    obtain ⟨y, hy, y1, _, _, y4, _⟩ := chk_get hp hc (p := (c, s.1.1)) t
    show (match lkT tb (cdP (c, s.1.1)) with | none => none | some y => some (y.1, addB y.2.2.2 s.2)) = some (cdP (c, s.1.1), addB (ixL n cs (nrmP c s.1.1)) s.2)
    rw [hy]
    dsimp only
    rw [y1, y4]
theorem ix_lt {tb : TB} (hc : chkT n cs tb = true) {p : Int × Int} (h : tieB n cs p.1 p.2 = true) : ixL n cs (nrmP p.1 p.2) < 9 := by
  obtain ⟨x, _, _, _, _, x4, x5, _⟩ := chk_get hp hc h
  omega
/-- the fewest pinches of a round tour that meets each line -/
theorem fewest {tb : TB} (hc : chkT n cs tb = true) (h3 : 3 ≤ n) (h6 : n ≤ 6) {p : Int × Int} (h : tieB n cs p.1 p.2 = true) :
    (∃ P : List Bool, (P.length : Int) ≤ 3 * n - 6 ∧ wkA (suS n cs) P (p, 2 ^ ixL n cs (nrmP p.1 p.2)) = some (p, 2 ^ (2 * n - 3).toNat - 1)) ∧ ∀ P : List Bool, wkA (suS n cs) P (p, 2 ^ ixL n cs (nrmP p.1 p.2)) = some (p, 2 ^ (2 * n - 3).toNat - 1) → 3 * n - 6 ≤ (P.length : Int) := by
  obtain ⟨x, hx, x1, x2, x3, x4, x5, b1, b2⟩ := chk_get hp hc h
  have ht : tbOk tb = true := by
    unfold chkT at hc
    rw [Bool.and_eq_true, Bool.and_eq_true] at hc
    exact hc.1.1
  rw [x4] at b1 b2 x5
  obtain ⟨p1, p2⟩ := pc_all (2 * n - 3).toNat (by omega)
  obtain ⟨q1, q2⟩ := pc_one _ x5
  have mp : ∀ P, wkA (suT tb) P (fS (p, 2 ^ ixL n cs (nrmP p.1 p.2))) = (wkA (suS n cs) P (p, 2 ^ ixL n cs (nrmP p.1 p.2))).map fS := fun P =>
    wkA_map (I := fun s : SP => tieB n cs s.1.1 s.1.2 = true) (fun w s s' hs e => suS_tie hp hs e) (fun w s hs => suT_map hp hc w s hs) P _ h
  have it := fun (f : Nat) => bad_iff ht (tg := (cdP p, 2 ^ (2 * n - 3).toNat - 1)) (k := (2 * n - 3).toNat) p1 f (2 * n - 4).toNat (cdP p, 2 ^ ixL n cs (nrmP p.1 p.2)) q2 (by show _ + pc (2 ^ ixL n cs (nrmP p.1 p.2)) = _; rw [q1]; omega)
  constructor
  · obtain ⟨P, hl, hw⟩ := (it _).mp b2
    have hw : wkA (suT tb) P (fS (p, 2 ^ ixL n cs (nrmP p.1 p.2))) = _ := hw
    rw [mp] at hw
    obtain ⟨s, hs, e⟩ := Option.map_eq_some_iff.mp hw
    have hts := wkA_inv (I := fun s : SP => tieB n cs s.1.1 s.1.2 = true) (fun w s s' hs e => suS_tie hp hs e) P _ s h hs
    refine ⟨P, by omega, ?_⟩
    rw [hs]
    have e1 : cdP s.1 = cdP p := congrArg Prod.fst e
    have e2 : s.2 = 2 ^ (2 * n - 3).toNat - 1 := congrArg Prod.snd e
    exact congrArg some (Prod.ext (cd_inj hp h6 hts h e1) e2)
  · intro P hw
    have := mp P
    rw [hw] at this
    rcases Int.lt_or_le (P.length : Int) (3 * n - 6) with z | z
    · have nb : bad tb (cdP p, 2 ^ (2 * n - 3).toNat - 1) (3 * n - 7).toNat (2 * n - 4).toNat (cdP p, 2 ^ ixL n cs (nrmP p.1 p.2)) = true := (it _).mpr ⟨P, by omega, this⟩
      rw [b1] at nb; cases nb
    · exact z
end
theorem tab_ex {n : Int} {T : Tr} (h3 : 3 ≤ n) (h6 : n ≤ 6) (hT : T.sz = n - 1) : ∃ tb, chkT n (plT n T) tb = true := by
  have h1 : 1 ≤ (n - 1).toNat := by omega
  have hm : T ∈ allT (n - 1).toNat := (mem_allT _ h1 T).mpr (by omega)
  have hl : T.arcsP 1 ∈ wr (n - 1).toNat 1 := by rw [wr_allT _ h1]; exact List.mem_map.mpr ⟨T, hm, rfl⟩
  have go : ∀ d, chkA n d = true → ∃ tb, chkT n (plT n T) tb = true := fun d hd => by
    unfold chkA at hd
    rw [Bool.and_eq_true] at hd
    obtain ⟨x, hx, e⟩ := List.any_eq_true.mp (List.all_eq_true.mp hd.2 _ hl)
    have e := of_decide_eq_true e
    have e2 : plT n T = x.1 := by
      rw [← planP T h3 (by omega) hT, e]
      exact isP_eq _
    exact ⟨x.2, by rw [e2]; exact List.all_eq_true.mp hd.1 x hx⟩
  have : n = 3 ∨ n = 4 ∨ n = 5 ∨ n = 6 := by omega
  rcases this with rfl | rfl | rfl | rfl
  · exact go _ chk3
  · exact go _ chk4
  · exact go _ chk5
  · exact go _ chk6
structure BI {σ : Type} (su : Bool → σ → Option σ) (s0 : σ) (L : List (σ × Nat)) (a : Nat) (dn : List Bool) : Prop where
  nd : (L.map (·.1)).Nodup
  wk : ∀ e ∈ L, ∃ P : List Bool, P.length = e.2 ∧ wkA su P s0 = some e.1
  srt : L.Pairwise fun x y => x.2 ≤ y.2
  top : ∀ x, L[a]? = some x → ∀ e ∈ L, e.2 ≤ x.2 + 1
  cl : ∀ i x, L[i]? = some x → ∀ w, (i < a ∨ (i = a ∧ w ∈ dn)) → ∀ s', su w x.1 = some s' → ∃ e ∈ L, e.1 = s' ∧ e.2 ≤ x.2 + 1
  st : (s0, 0) ∈ L
section
variable {σ : Type} {su : Bool → σ → Option σ} {s0 : σ} {L : List (σ × Nat)} {a : Nat} {dn : List Bool}
theorem bi_start : BI su s0 [(s0, 0)] 0 [] where
  nd := by simp
  wk := fun e he => by rw [List.mem_singleton.mp he]; exact ⟨[], rfl, rfl⟩
  srt := List.pairwise_singleton ..
  top := fun x hx e he => by rw [List.mem_singleton.mp he]; exact Nat.zero_le _
  cl := fun i x hx w h => by
    rcases h with h | ⟨_, h⟩
    · omega
    · cases h
  st := List.mem_singleton.mpr rfl
theorem bi_none (I : BI su s0 L a dn) {x : σ × Nat} (hx : L[a]? = some x) {w : Bool} (h : su w x.1 = none) : BI su s0 L a (w :: dn) :=
  ⟨I.nd, I.wk, I.srt, I.top, fun i y hy v hv s' e => by
      rcases hv with hv | ⟨rfl, hv⟩
      · exact I.cl i y hy v (.inl hv) s' e
      · rcases List.mem_cons.mp hv with rfl | hv
        · rw [hx] at hy; cases hy; rw [h] at e; cases e
        · exact I.cl i y hy v (.inr ⟨rfl, hv⟩) s' e, I.st⟩
theorem bi_old (I : BI su s0 L a dn) {x : σ × Nat} (hx : L[a]? = some x) {w : Bool} {s1 : σ} (h : su w x.1 = some s1) (hm : s1 ∈ L.map (·.1)) : BI su s0 L a (w :: dn) :=
  ⟨I.nd, I.wk, I.srt, I.top, fun i y hy v hv s' e => by
      rcases hv with hv | ⟨rfl, hv⟩
      · exact I.cl i y hy v (.inl hv) s' e
      · rcases List.mem_cons.mp hv with rfl | hv
        · rw [hx] at hy; cases hy; rw [h] at e; cases e
          obtain ⟨e, he, e1⟩ := List.mem_map.mp hm
          exact ⟨e, he, e1, I.top x hx e he⟩
        · exact I.cl i y hy v (.inr ⟨rfl, hv⟩) s' e, I.st⟩
theorem bi_new (I : BI su s0 L a dn) {x : σ × Nat} (hx : L[a]? = some x) {w : Bool} {s1 : σ} (h : su w x.1 = some s1) (hm : s1 ∉ L.map (·.1)) : BI su s0 (L ++ [(s1, x.2 + 1)]) a (w :: dn) := by
  have ha := (List.getElem?_eq_some_iff.mp hx).1
  have mx := List.mem_of_getElem? hx
  have ga : ∀ i y, (L ++ [(s1, x.2 + 1)])[i]? = some y → i < L.length → L[i]? = some y := fun i y e hi => by rwa [List.getElem?_append_left hi] at e
  refine ⟨?_, fun e he => ?_, ?_, fun y hy e he => ?_, fun i y hy v hv s' e => ?_, List.mem_append_left _ I.st⟩
  · rw [List.map_append, List.nodup_append]
    refine ⟨I.nd, by simp, fun u hu v hv z => ?_⟩
    have : v = s1 := by simpa using hv
    exact hm (this ▸ z ▸ hu)
  · rcases List.mem_append.mp he with he | he
    · exact I.wk e he
    · rw [List.mem_singleton.mp he]
      obtain ⟨P, h1, h2⟩ := I.wk x mx
      exact ⟨P ++ [w], by rw [List.length_append, h1]; rfl, by rw [wkA_snoc, h2]; exact h⟩
  · rw [List.pairwise_append]
    exact ⟨I.srt, List.pairwise_singleton .., fun u hu v hv => by rw [List.mem_singleton.mp hv]; exact I.top x hx u hu⟩
  · have hy := ga a y hy ha
    rw [hx] at hy; cases hy
    rcases List.mem_append.mp he with he | he
    · exact I.top x hx e he
    · rw [List.mem_singleton.mp he]; exact Nat.le_refl _
  · have hi : i < L.length := by
      rcases hv with hv | ⟨rfl, _⟩ <;> omega
    have hy := ga i y hy hi
    have up : (∃ e ∈ L, e.1 = s' ∧ e.2 ≤ y.2 + 1) → ∃ e ∈ L ++ [(s1, x.2 + 1)], e.1 = s' ∧ e.2 ≤ y.2 + 1 := fun ⟨e, h1, h2⟩ => ⟨e, List.mem_append_left _ h1, h2⟩
    rcases hv with hv | ⟨rfl, hv⟩
    · exact up (I.cl i y hy v (.inl hv) s' e)
    · rcases List.mem_cons.mp hv with rfl | hv
      · rw [hx] at hy; cases hy; rw [h] at e; cases e
        exact ⟨_, List.mem_append_right _ (List.mem_singleton.mpr rfl), rfl, Nat.le_refl _⟩
      · exact up (I.cl i y hy v (.inr ⟨rfl, hv⟩) s' e)
theorem bi_next (I : BI su s0 L a dn) (hd : ∀ w, w ∈ dn) : BI su s0 L (a + 1) [] := by
  refine ⟨I.nd, I.wk, I.srt, fun y hy e he => ?_, fun i y hy v hv s' e => ?_, I.st⟩
  · have hlt := (List.getElem?_eq_some_iff.mp hy).1
    have hx : L[a]? = some L[a] := List.getElem?_eq_getElem (by omega)
    have h1 := I.top _ hx e he
    have h2 := List.pairwise_iff_getElem.mp I.srt a (a + 1) (by omega) hlt (by omega)
    have h3 := (List.getElem?_eq_some_iff.mp hy).2
    rw [h3] at h2
    omega
  · rcases hv with hv | ⟨_, hv⟩
    · by_cases z : i < a
      · exact I.cl i y hy v (.inl z) s' e
      · exact I.cl i y hy v (.inr ⟨by omega, hd v⟩) s' e
    · cases hv
theorem bi_done (I : BI su s0 L L.length []) : ∀ (k : Nat) (P : List Bool) (s : σ), P.length = k → wkA su P s0 = some s → ∃ e ∈ L, e.1 = s ∧ e.2 ≤ P.length
  | 0, P, s, hk, h => by
    have : P = [] := List.length_eq_zero_iff.mp hk
    subst this
    cases h
    exact ⟨_, I.st, rfl, Nat.le_refl _⟩
  | k + 1, P, s, hk, h => by
    rcases List.eq_nil_or_concat P with rfl | ⟨P0, w, rfl⟩
    · cases hk
    · rw [List.concat_eq_append] at *
      rw [List.length_append] at hk
      rw [wkA_snoc] at h
      obtain ⟨s1, h1, h2⟩ := Option.bind_eq_some_iff.mp h
      obtain ⟨e, he, e1, e2⟩ := bi_done I k P0 s1 (by simpa using hk) h1
      obtain ⟨i, hi, hie⟩ := List.getElem_of_mem he
      obtain ⟨e', g1, g2, g3⟩ := I.cl i e (by rw [List.getElem?_eq_getElem hi, hie]) w (.inl hi) s (e1 ▸ h2)
      exact ⟨e', g1, g2, by rw [List.length_append]; simp; omega⟩
end
def kS (s : SP) : NestedKey := .tup [.tup [.num s.1.1, .num s.1.2], .num s.2]
def stS (s : SP) : PyData := .tuple [ppD s.1, .int s.2]
def dL (L : List (SP × Nat)) : List (NestedKey × PyData) := L.map fun e => (kS e.1, PyData.int (e.2 : Nat))
def rL (L : List (SP × Nat)) : List PyData := L.map fun e => stS e.1
theorem kS_inj {s t : SP} (h : kS s = kS t) : s = t := by
  unfold kS at h
  injection h with h
  injection h with h1 h2
  injection h2 with h2 _
  injection h1 with h1
  injection h1 with h3 h4
  injection h4 with h4 _
  injection h2 with h2
  injection h3 with h3
  injection h4 with h4
  exact Prod.ext (Prod.ext h3 h4) (Int.ofNat.inj h2)
theorem dL_none {s : SP} : ∀ {L : List (SP × Nat)}, s ∉ L.map (·.1) → valP (dL L) (kS s) = none
  | [], _ => rfl
  | e :: L, h => by
    have ne : ¬ kS e.1 = kS s := fun z => h (by rw [← kS_inj z]; exact List.mem_cons_self ..)
    have := dL_none (L := L) fun z => h (List.mem_cons_of_mem _ z)
    unfold valP dL at this ⊢
    rw [List.map_cons, List.find?_cons, decide_eq_false ne]
    exact this
theorem dL_some {e : SP × Nat} : ∀ {L : List (SP × Nat)}, (L.map (·.1)).Nodup → e ∈ L → valP (dL L) (kS e.1) = some (.int (e.2 : Nat))
  | [], _, h => by cases h
  | x :: L, hn, h => by
    obtain ⟨n1, n2⟩ := List.nodup_cons.mp hn
    unfold valP dL
    rw [List.map_cons, List.find?_cons]
    rcases List.mem_cons.mp h with rfl | h
    · rw [decide_eq_true rfl]; rfl
    · have ne : ¬ kS x.1 = kS e.1 := fun z => n1 (List.mem_map.mpr ⟨e, h, (kS_inj z).symm⟩)
      rw [decide_eq_false ne]
      exact dL_some n2 h
theorem putN_new {D : List (NestedKey × PyData)} {k : NestedKey} {v : PyData} (h : valP D k = none) : putP D k v = D ++ [(k, v)] := by
  unfold putP
  rw [if_neg]
  intro z
  obtain ⟨kv, h1, h2⟩ := List.any_eq_true.mp z
  unfold valP at h
  rw [Option.map_eq_none_iff, List.find?_eq_none] at h
  exact h kv h1 h2
theorem sumP : ∀ k : Nat, ((List.range k).map fun (j : Nat) => ((2 ^ j : Nat) : Int)).sum = ((2 ^ k - 1 : Nat) : Int)
  | 0 => rfl
  | k + 1 => by
    rw [List.range_succ, List.map_append, List.sum_append, sumP k]
    have := Nat.one_le_two_pow (n := k)
    rw [show 2 ^ (k + 1) = 2 ^ k + 2 ^ k by rw [Nat.pow_succ]; omega]
    simp only [List.map_cons, List.map_nil, List.sum_cons, List.sum_nil]
    omega
def dB (l : List (Int × Int)) : AT := l.mapIdx fun j q => (kT q.1 q.2, PyData.int ((2 ^ j : Nat) : Int))
theorem dB_snoc (l : List (Int × Int)) (q : Int × Int) : dB (l ++ [q]) = dB l ++ [(kT q.1 q.2, .int ((2 ^ l.length : Nat) : Int))] := by
  unfold dB
  rw [List.mapIdx_append]; simp
theorem dB_keys (l : List (Int × Int)) : keysT (dB l) = l.map ppD := by
  unfold keysT dB
  refine List.ext_getElem? fun i => ?_
  rw [List.getElem?_map, List.getElem?_mapIdx, List.getElem?_map]
  cases l[i]? <;> rfl
theorem dB_none {l : List (Int × Int)} {q : Int × Int} (h : q ∉ l) : valP (dB l) (kT q.1 q.2) = none := by
  unfold valP
  rw [Option.map_eq_none_iff, List.find?_eq_none]
  intro kv hkv z
  unfold dB at hkv
  obtain ⟨i, hi, e⟩ := List.mem_mapIdx.mp hkv
  have z := of_decide_eq_true z
  rw [← e] at z
  have := kT_inj z
  exact h (by rw [← show l[i] = q from this]; exact List.getElem_mem hi)
theorem dB_some {l : List (Int × Int)} (hn : l.Nodup) {q : Int × Int} (h : q ∈ l) : valP (dB l) (kT q.1 q.2) = some (.int ((2 ^ l.idxOf q : Nat) : Int)) := by
  have go : ∀ (l m : List (Int × Int)), (l ++ m).Nodup → q ∈ l ++ m → q ∉ l → valP (dB (l ++ m)) (kT q.1 q.2) = some (.int ((2 ^ (l ++ m).idxOf q : Nat) : Int)) := by
    intro l m
    induction m generalizing l with
    | nil => intro _ h1 h2; rw [List.append_nil] at h1; exact absurd h1 h2
    | cons x m ih =>
      intro hn h1 h2
      by_cases e : x = q
      · subst e
        have hn2 : x ∉ m := fun z => by
          have := (List.nodup_append.mp hn).2.1
          exact (List.nodup_cons.mp this).1 z
        have en : dB (l ++ x :: m) = dB l ++ (kT x.1 x.2, .int ((2 ^ l.length : Nat) : Int)) :: (m.mapIdx fun j q => (kT q.1 q.2, PyData.int ((2 ^ (j + (l.length + 1)) : Nat) : Int))) := by
          unfold dB
          rw [List.mapIdx_append, List.mapIdx_cons]
          simp [Nat.add_assoc, Nat.add_comm, Nat.add_left_comm]
        rw [en]
        have h3 := dB_none h2
        unfold valP at h3 ⊢
        rw [Option.map_eq_none_iff] at h3
        rw [List.find?_append, h3, Option.none_or, List.find?_cons, decide_eq_true rfl]
        have : (l ++ x :: m).idxOf x = l.length := by
          rw [List.idxOf_append, if_neg h2]; simp
        rw [this]; rfl
      · have := ih (l ++ [x]) (by simpa using hn) (by simpa using h1) (by simp [h2, Ne.symm e])
        simpa using this
  exact go [] l hn h (by simp)
theorem q_getN {D : List (NestedKey × PyData)} {s : SP} {Q : KD} : getNM D (stS s) Q = (match valP D (kS s) with | some d => Q d | none => False) := rfl
theorem q_inN {D : List (NestedKey × PyData)} {s : SP} {Q : KB} : inNM D (stS s) Q = Q (valP D (kS s)).isSome := rfl
theorem q_putNs {D : List (NestedKey × PyData)} {s : SP} {v : PyData} {Q : List (NestedKey × PyData) → Prop} : putNM D (stS s) v Q = (D.length < sizeLine ∧ Q (putP D (kS s) v)) := rfl
theorem q_getdN {D : List (NestedKey × PyData)} {s : SP} {v : PyData} {Q : KD} : getdNM D (stS s) v Q = Q ((valP D (kS s)).getD v) := rfl
theorem q_rowat {L : List (SP × Nat)} {a : Nat} {x : SP × Nat} (hx : L[a]? = some x) {Q : KD} : ixM (.list (rL L)) (.int (a : Nat)) Q = Q (stS x.1) := by
  have h : (rL L)[((a : Nat) : Int).toNat]? = some (stS x.1) := by
    unfold rL
    rw [Int.toNat_natCast, List.getElem?_map, hx]; rfl
  show (match atI (rL L) (a : Nat) with | some y => Q y | none => False) = _
  rw [at_nat (by omega) h]
section
variable {n : Int} {T : Tr}
def SOk (n : Int) (cs : List (Int × Int)) (s : SP) : Prop := tieB n cs s.1.1 s.1.2 = true ∧ s.2 < 512
theorem sok_step {cs : List (Int × Int)} (hp : IsPlan n cs) {tb : TB} (hc : chkT n cs tb = true) (w : Bool) (s s' : SP) (h : SOk n cs s) (e : suS n cs w s = some s') : SOk n cs s' := by
  refine ⟨suS_tie hp h.1 e, ?_⟩
  obtain ⟨c, hc', rfl⟩ := Option.map_eq_some_iff.mp e
  exact (addB_ok _ h.2 _ (ix_lt hp hc (p := (c, s.1.1)) (tsym (th_of hp h.1 hc').tc))).1
theorem bi_size {cs : List (Int × Int)} (hp : IsPlan n cs) (h6 : n ≤ 6) {tb : TB} (hc : chkT n cs tb = true) {s0 : SP} (h0 : SOk n cs s0) {L : List (SP × Nat)} {a : Nat} {dn : List Bool} (I : BI (suS n cs) s0 L a dn) : L.length ≤ 24576 ∧ ∀ e ∈ L, SOk n cs e.1 := by
  have ok : ∀ e ∈ L, SOk n cs e.1 := fun e he => by
    obtain ⟨P, _, hw⟩ := I.wk e he
    exact wkA_inv (I := SOk n cs) (fun w s s' h e => sok_step hp hc w s s' h e) P s0 e.1 h0 hw
  refine ⟨?_, ok⟩
  have hn : (L.map fun e => 512 * cdP e.1.1 + e.1.2).Nodup := by
    refine List.pairwise_map.mpr ?_
    have := List.pairwise_map.mp I.nd
    refine (List.Pairwise.and_mem.mp this).imp fun {x y} hxy e => ?_
    obtain ⟨hx, hy, hne⟩ := hxy
    have ox := ok x hx
    have oy := ok y hy
    have e1 : cdP x.1.1 = cdP y.1.1 := by have := ox.2; have := oy.2; omega
    have e2 : x.1.2 = y.1.2 := by omega
    exact hne (Prod.ext (cd_inj hp h6 ox.1 oy.1 e1) e2)
  have := nodup_le (m := List.range 24576) hn fun z hz => by
    obtain ⟨e, he, rfl⟩ := List.mem_map.mp hz
    have oe := ok e he
    have ht := tie_lt hp oe.1
    have := oe.2
    refine List.mem_range.mpr ?_
    unfold cdP
    omega
  rw [List.length_map, List.length_range] at this
  exact this
end
section
variable {n : Int} {T : Tr}
/-- one way of the law's turn -/
def wayB (n : Int) (cs : List (Int × Int)) (L0 : AT) (here mask at_ way : PyData) (s : PyData × (List (PySem.NestedKey × PyData)) × (List PyData)) (N77 : PyData × (List (PySem.NestedKey × PyData)) × (List PyData) → Prop) : Prop := match s with
  | (l_bit79, l_far80, l_row81) => f__law_moved (plD n cs) (dTd (tied (linesOf n cs))) here (.str "pinch") way (fun r88 =>
  ((!isNone r88) = true → (ixM r88 (.int 0) fun r92 =>
  ixM r88 (.int 1) fun r93 =>
  f__law_pair r92 r93 (fun r94 =>
  getTM L0 r94 fun r95 =>
  TL.ifM (fun Q => divM mask r95 fun r97 =>
  modM r97 (.int 2) fun r98 =>
  eqM r98 (.int 1) fun b99 =>
  Q b99) (fun Q => Q mask) (fun Q => addM mask r95 fun r100 =>
  Q r100) fun r96 =>
  inNM l_far80 (.tuple [r88, r96]) fun b101 =>
  ((!b101) = true → (ixM (.list l_row81) at_ fun r105 =>
  getNM l_far80 r105 fun r106 =>
  addM r106 (.int 1) fun r107 =>
  putNM l_far80 (.tuple [r88, r96]) r107 fun kv108 =>
  l_row81.length < sizeLine ∧ (N77 (r95, kv108, (l_row81 ++ ([(.tuple [r88, r96])] : List PyData)))))) ∧ ((!b101) = false → (N77 (r95, l_far80, l_row81)))) (fun _ => False))) ∧ ((!isNone r88) = false → (N77 (l_bit79, l_far80, l_row81)))) (fun _ => False)
theorem i_way {cs : List (Int × Int)} (hp : IsPlan n cs) (h6 : n ≤ 6) {tb : TB} (hc : chkT n cs tb = true) {s0 : SP} (h0 : SOk n cs s0) {L : List (SP × Nat)} {a : Nat} {dn : List Bool} (I : BI (suS n cs) s0 L a dn) {x : SP × Nat} (hx : L[a]? = some x) (w : Bool) (b : PyData)
    {N : PyData × (List (PySem.NestedKey × PyData)) × (List PyData) → Prop} (hN : ∀ (M : List (SP × Nat)) (b' : PyData), BI (suS n cs) s0 M a (w :: dn) → M[a]? = some x → N (b', dL M, rL M)) :
    wayB n cs (dB (linesOf n cs)) (ppD x.1.1) (.int (x.1.2 : Nat)) (.int (a : Nat)) (.str (wayS w)) (b, dL L, rL L) N := by
  have hsl := sizeLine_eq
  obtain ⟨sz, ok⟩ := bi_size hp h6 hc h0 I
  have ox := ok x (List.mem_of_getElem? hx)
  have ha := (List.getElem?_eq_some_iff.mp hx).1
  unfold wayB
  dsimp only
  refine i__law_moved hp ox.1 (fun e => ?_) fun c e => ?_
  · refine ⟨fun z => (by cases z), fun _ => ?_⟩
    refine hN L b (bi_none I hx ?_) hx
    unfold suS
    rw [e]; rfl
  · rw [decide_eq_true rfl, if_pos rfl]
    refine ⟨fun _ => ?_, fun z => (by cases z)⟩
    have ht := tsym (th_of hp ox.1 e).tc
    rw [p_ix_pp0, p_ix_pp1, e__law_pair, q_getT, dB_some (lines_ok hp).nd (line_of hp ht)]
    dsimp only
    have hi : ixL n cs (nrmP c x.1.1.1) < 9 := ix_lt hp hc (p := (c, x.1.1.1)) ht
    show TL.ifM _ _ _ _
    have hsu : suS n cs w x.1 = some ((c, x.1.1.1), addB (ixL n cs (nrmP c x.1.1.1)) x.1.2) := by
      unfold suS
      rw [e]; rfl
    have hadd : addB (ixL n cs (nrmP c x.1.1.1)) x.1.2 < 512 := (addB_ok _ ox.2 _ hi).1
    generalize hj : (linesOf n cs).idxOf (nrmP c x.1.1.1) = j at *
    have hj2 : ixL n cs (nrmP c x.1.1.1) = j := hj
    rw [hj2] at hi hsu hadd
    have pw : 0 < 2 ^ j := Nat.two_pow_pos j
    have pw9 : 2 ^ j < 2 ^ 9 := Nat.pow_lt_pow_right (by decide) hi
    have fin : ∀ Q : KD, (Q (.int ((addB j x.1.2 : Nat) : Int))) → TL.ifM (fun Q => divM (.int (x.1.2 : Nat)) (.int ((2 ^ j : Nat) : Int)) fun r97 => modM r97 (.int 2) fun r98 => eqM r98 (.int 1) fun b99 => Q b99) (fun Q => Q (.int (x.1.2 : Nat))) (fun Q => addM (.int (x.1.2 : Nat)) (.int ((2 ^ j : Nat) : Int)) fun r100 => Q r100) Q := fun Q hQ => by
      unfold TL.ifM
      dsimp only
      rw [q_div]
      refine ⟨wide_div (b := 9) (by omega) (by rw [Int.natAbs_natCast]; exact pw9) (by decide) (by decide), ?_⟩
      rw [q_mod]
      refine ⟨by decide, ?_⟩
      rw [q_eq_ii]
      have eq : ((x.1.2 : Nat) : Int) / ((2 ^ j : Nat) : Int) % 2 = ((x.1.2 / 2 ^ j % 2 : Nat) : Int) := by omega
      rw [eq]
      unfold addB at hQ
      refine ⟨fun z => ?_, fun z => ?_⟩
      · have z := of_decide_eq_true z
        rw [if_pos (by omega)] at hQ
        exact hQ
      · have z := of_decide_eq_false z
        rw [if_neg (by omega)] at hQ
        rw [q_add_ii]
        have : ((x.1.2 : Nat) : Int) + ((2 ^ j : Nat) : Int) = ((x.1.2 + 2 ^ j : Nat) : Int) := by omega
        rw [this]; exact hQ
    refine fin _ ?_
    show inNM (dL L) (stS ((c, x.1.1.1), addB j x.1.2)) _
    rw [q_inN]
    generalize hs1 : (((c, x.1.1.1), addB j x.1.2) : SP) = s1 at *
    by_cases hm : s1 ∈ L.map (·.1)
    · obtain ⟨e1, he1, e2⟩ := List.mem_map.mp hm
      rw [← e2, dL_some I.nd he1]
      refine ⟨fun z => (by cases z), fun _ => ?_⟩
      exact hN L _ (bi_old I hx hsu hm) hx
    · rw [dL_none hm]
      refine ⟨fun _ => ?_, fun z => (by cases z)⟩
      rw [q_rowat hx, q_getN, dL_some I.nd (List.mem_of_getElem? hx)]
      dsimp only
      rw [q_add_ii]
      have e5 : (PyData.tuple [ppD (c, x.1.1.1), .int ((addB j x.1.2 : Nat) : Int)]) = stS s1 := by rw [← hs1]; rfl
      rw [e5, q_putNs]
      refine ⟨by unfold dL; rw [List.length_map]; omega, by unfold rL; rw [List.length_map]; omega, ?_⟩
      rw [putN_new (dL_none hm)]
      have e3 : dL L ++ [(kS s1, PyData.int ((x.2 : Nat) + 1 : Int))] = dL (L ++ [(s1, x.2 + 1)]) := by unfold dL; rw [List.map_append]; rfl
      have e4 : rL L ++ [stS s1] = rL (L ++ [(s1, x.2 + 1)]) := by unfold rL; rw [List.map_append]; rfl
      rw [e3, e4]
      exact hN _ _ (bi_new I hx hsu hm) (by rw [List.getElem?_append_left ha]; exact hx)
end
section
variable {n : Int} {T : Tr}
abbrev WS4 := PyData × (List (PySem.NestedKey × PyData)) × (List PyData) × PyData
def whlB (n : Int) (cs : List (Int × Int)) (s : WS4) (N44 B45 : WS4 → Prop) : Prop := match s with
  | (l_bit46, l_far47, l_row48, l_at49) => lenM (.list l_row48) fun r58 =>
  ltM l_at49 r58 fun b59 =>
  (b59 = true → (ixM (.list l_row48) l_at49 fun r61 =>
  un2 r61 fun l_here62 l_mask63 =>
  itM (.tuple [(.str "even"), (.str "odd")]) fun xs65 =>
  TL.forM (fun l_way76 s N77 B78 => wayB n cs (dB (linesOf n cs)) l_here62 l_mask63 l_at49 l_way76 s N77) (fun (s : PyData × (List (PySem.NestedKey × PyData)) × (List PyData)) =>
  match s with
  | (l_bit66, l_far67, l_row68) => addM l_at49 (.int 1) fun r75 =>
  N44 (l_bit66, l_far67, l_row68, r75)) xs65 (l_bit46, l_far47, l_row48))) ∧ (b59 = false → B45 (l_bit46, l_far47, l_row48, l_at49))
theorem i_while {cs : List (Int × Int)} (hp : IsPlan n cs) (h6 : n ≤ 6) {tb : TB} (hc : chkT n cs tb = true) {s0 : SP} (h0 : SOk n cs s0) {Ke : WS4 → Prop} (hK : ∀ (L : List (SP × Nat)) (b : PyData), BI (suS n cs) s0 L L.length [] → Ke (b, dL L, rL L, .int (L.length : Nat))) :
    ∀ (k : Nat) (L : List (SP × Nat)) (a : Nat) (b : PyData), BI (suS n cs) s0 L a [] → a ≤ L.length → 24576 - a ≤ k → ∃ m, whileM (whlB n cs) Ke m (b, dL L, rL L, .int (a : Nat)) := by
  have rlen : ∀ L : List (SP × Nat), (rL L).length = L.length := fun L => by unfold rL; rw [List.length_map]
  have stop : ∀ (L : List (SP × Nat)) (b : PyData) N, BI (suS n cs) s0 L L.length [] → whlB n cs (b, dL L, rL L, .int (L.length : Nat)) N Ke := fun L b N I => by
    unfold whlB
    dsimp only
    rw [q_len_l, q_lt, rlen]
    refine ⟨fun z => ?_, fun _ => hK L b I⟩
    have z := of_decide_eq_true z
    omega
  intro k
  induction k with
  | zero =>
    intro L a b I ha hk
    have := (bi_size hp h6 hc h0 I).1
    have e : a = L.length := by omega
    subst e
    exact ⟨1, stop L b _ I⟩
  | succ k ih =>
    intro L a b I ha hk
    have hsz := (bi_size hp h6 hc h0 I).1
    by_cases e : a = L.length
    · subst e
      exact ⟨1, stop L b _ I⟩
    · have hlt : a < L.length := by omega
      have hx : L[a]? = some L[a] := List.getElem?_eq_getElem hlt
      generalize hxx : L[a] = x at hx
      -- the fuel of all that may come behind
      have all : ∃ m, ∀ (M : List (SP × Nat)) (b' : PyData), BI (suS n cs) s0 M (a + 1) [] → a + 1 ≤ M.length → whileM (whlB n cs) Ke m (b', dL M, rL M, .int ((a + 1 : Nat) : Int)) := by
        refine ⟨24577, fun M b' J hM => ?_⟩
        have up : ∀ (d : Nat) (M : List (SP × Nat)) (c : Nat) (b' : PyData), BI (suS n cs) s0 M c [] → c ≤ M.length → 24576 ≤ c + d → ∀ f, d + 1 ≤ f → whileM (whlB n cs) Ke f (b', dL M, rL M, .int (c : Nat)) := by
          intro d
          induction d with
          | zero =>
            intro M c b' J hc' hd f hf
            have := (bi_size hp h6 hc h0 J).1
            have e : c = M.length := by omega
            subst e
            obtain ⟨f, rfl⟩ : ∃ g, f = g + 1 := ⟨f - 1, by omega⟩
            exact stop M b' _ J
          | succ d ihd =>
            intro M c b' J hc' hd f hf
            obtain ⟨f, rfl⟩ : ∃ g, f = g + 1 := ⟨f - 1, by omega⟩
            by_cases e : c = M.length
            · subst e; exact stop M b' _ J
            · have hy : M[c]? = some M[c] := List.getElem?_eq_getElem (by omega)
              rw [q_while_s]
              unfold whlB
              dsimp only
              rw [q_len_l, q_lt, rlen, decide_eq_true (by omega : ((c : Nat) : Int) < ((M.length : Nat) : Int))]
              refine ⟨fun _ => ?_, fun z => (by cases z)⟩
              rw [q_rowat hy]
              show un2 (.tuple [ppD M[c].1.1, .int (M[c].1.2 : Nat)]) _
              rw [q_un2, q_it_t, for_cons0]
              refine i_way hp h6 hc h0 J hy true _ fun M2 b2 J2 hy2 => ?_
              rw [for_cons0]
              refine i_way hp h6 hc h0 J2 hy2 false _ fun M3 b3 J3 hy3 => ?_
              rw [for_nil0]
              dsimp only
              rw [q_add_ii]
              have hl := (List.getElem?_eq_some_iff.mp hy3).1
              exact ihd M3 (c + 1) b3 (bi_next J3 fun w => by cases w <;> simp) (by omega) (by omega) f (by omega)
        exact up 24576 M (a + 1) b' J hM (by omega) 24577 (Nat.le_refl _)
      obtain ⟨m, hm⟩ := all
      refine ⟨m + 1, ?_⟩
      rw [q_while_s]
      unfold whlB
      dsimp only
      rw [q_len_l, q_lt, rlen, decide_eq_true (by omega : ((a : Nat) : Int) < ((L.length : Nat) : Int))]
      refine ⟨fun _ => ?_, fun z => (by cases z)⟩
      rw [q_rowat hx]
      show un2 (.tuple [ppD x.1.1, .int (x.1.2 : Nat)]) _
      rw [q_un2, q_it_t, for_cons0]
      refine i_way hp h6 hc h0 I hx true _ fun M2 b2 J2 hy2 => ?_
      rw [for_cons0]
      refine i_way hp h6 hc h0 J2 hy2 false _ fun M3 b3 J3 hy3 => ?_
      rw [for_nil0]
      dsimp only
      rw [q_add_ii]
      have hl := (List.getElem?_eq_some_iff.mp hy3).1
      exact hm M3 b3 (bi_next J3 fun w => by cases w <;> simp) (by omega)
end
theorem e_law_k29 (ns : List Int) (h : ns.length ≤ 63) : f_law_k29 (.list (ns.map .int)) (fun r => r = .bool true) (fun _ => False) := by
  have hsl := sizeLine_eq
  unfold f_law_k29
  rw [e__law_plan (by decide) (by decide)]
  intro n h3 h6 l hl
  obtain ⟨T, hT, rfl⟩ := hl.tr (by omega)
  have hp := plT_ok h3 (by omega) hT
  obtain ⟨tb, hc⟩ := tab_ex h3 h6 hT
  have lok := lines_ok hp
  have llen := lines_len hp
  rw [e__law_tied hp]
  refine i__law_spot hp fun p hm => ?_
  have ht : tieB n (plT n T) p.1 p.2 = true := decide_eq_true hm
  rw [e__law_all_lines hp, q_it_l]
  refine forM_inv (linesOf n (plT n T)) ppD (fun i s => s = (dB ((linesOf n (plT n T)).take i), PyData.int ((2 ^ i : Nat) : Int))) (fun i q hq s hs N hN => ?_) (fun s hs => ?_) _ rfl
  · subst hs
    have hi := (List.getElem?_eq_some_iff.mp hq).1
    dsimp only
    have hnot : q ∉ (linesOf n (plT n T)).take i := fun z => by
      have e2 := (List.getElem?_eq_some_iff.mp hq).2
      obtain ⟨j, hj, e⟩ := List.getElem_of_mem z
      rw [List.length_take] at hj
      rw [List.getElem_take, ← e2] at e
      have i1 := List.Nodup.idxOf_getElem lok.nd j (by omega)
      have i2 := List.Nodup.idxOf_getElem lok.nd i hi
      rw [e, i2] at i1
      omega
    rw [q_putT]
    refine ⟨by unfold dB; rw [List.length_mapIdx, List.length_take]; omega, ?_⟩
    rw [put_new (dB_none hnot), q_mul]
    refine ⟨.inl (.inl (by decide)), hN _ ?_⟩
    rw [List.take_add_one, hq]
    show _ = (dB ((linesOf n (plT n T)).take i ++ [q]), _)
    rw [dB_snoc, List.length_take, Nat.min_eq_left (Nat.le_of_lt hi)]
    refine Prod.ext rfl ?_
    show PyData.int _ = PyData.int _
    rw [Nat.pow_succ]
    congr 1
    omega
  · subst hs
    dsimp only
    rw [List.take_length, dB_keys, q_it_l]
    rw [q_lc_map (linesOf n (plT n T)) ppD (fun q => PyData.int ((2 ^ (linesOf n (plT n T)).idxOf q : Nat) : Int)) fun q hq k s => by
      rw [q_getT, dB_some lok.nd hq]]
    rw [List.nil_append]
    have es : ((linesOf n (plT n T)).map fun q => PyData.int ((2 ^ (linesOf n (plT n T)).idxOf q : Nat) : Int)) = ((List.range (linesOf n (plT n T)).length).map fun (j : Nat) => ((2 ^ j : Nat) : Int)).map .int := by
      rw [List.map_map]
      refine List.ext_getElem? fun i => ?_
      rw [List.getElem?_map, List.getElem?_map]
      by_cases hi : i < (linesOf n (plT n T)).length
      · rw [List.getElem?_eq_getElem hi, List.getElem?_range hi]
        show some (PyData.int ((2 ^ (linesOf n (plT n T)).idxOf ((linesOf n (plT n T))[i]) : Nat) : Int)) = _
        rw [List.Nodup.idxOf_getElem lok.nd _ hi]; rfl
      · rw [List.getElem?_eq_none (by omega), List.getElem?_eq_none (by rw [List.length_range]; omega)]; rfl
    rw [es, q_sum, sumP, p_ix_pp0, p_ix_pp1, e__law_pair, q_getT, dB_some lok.nd (line_of hp ht)]
    dsimp only
    have h0 : SOk n (plT n T) (p, 2 ^ ixL n (plT n T) (nrmP p.1 p.2)) := ⟨ht, (pc_one _ (ix_lt hp hc ht)).2⟩
    obtain ⟨⟨P, f1, f2⟩, f3⟩ := fewest hp hc h3 h6 ht
    have ek : (linesOf n (plT n T)).length = (2 * n - 3).toNat := by omega
    rw [ek]
    show dispNM [(stS (p, 2 ^ ixL n (plT n T) (nrmP p.1 p.2)), .int 0)] _
    generalize hs0 : ((p, 2 ^ ixL n (plT n T) (nrmP p.1 p.2)) : SP) = s0 at *
    have eD : ∀ Q : List (NestedKey × PyData) → Prop, dispNM [(stS s0, .int 0)] Q = Q (dL [(s0, 0)]) := fun Q => rfl
    rw [eD]
    have e0 : (PyData.tuple [ppD p, .int ((2 ^ (linesOf n (plT n T)).idxOf (nrmP p.1 p.2) : Nat) : Int)]) = stS s0 := by rw [← hs0]; rfl
    rw [e0]
    show ∃ m, whileM (whlB n (plT n T)) _ m (_, dL [(s0, 0)], rL [(s0, 0)], .int ((0 : Nat) : Int))
    refine i_while hp h6 hc h0 (fun L b I => ?_) 24576 [(s0, 0)] 0 _ bi_start (by simp) (by omega)
    dsimp only
    obtain ⟨t0, t1, u0, u1, hne⟩ := tie_lt hp ht
    obtain ⟨L1, L2, g1, g2⟩ := tou_ex h3 (by omega) hT ht
    have l1 := g1.len hp
    have l2 := g2.len hp
    obtain ⟨d1, d2, d3, d4⟩ := mod_diff hp t0 t1 u0 u1 hne
    show f_tour (plD n (plT n T)) (ppD (p.1, p.2)) _ _
    refine i_tour h3 (by omega) hT ht g1 g2 ?_
    rw [q_len_l, q_sub]
    show getdNM (dL L) (stS (p, 2 ^ (2 * n - 3).toNat - 1)) _ _
    rw [q_getdN]
    obtain ⟨e, he, e1, e2⟩ := bi_done I _ P _ rfl f2
    obtain ⟨P2, w1, w2⟩ := I.wk e he
    rw [e1] at w2
    have := f3 P2 w2
    rw [← e1, dL_some I.nd he]
    show f__law_alike _ (.int (e.2 : Nat)) _ _
    have hlen : ((((L1 ++ L2).map stD).length : Nat) : Int) = (e.2 : Nat) := by
      rw [List.length_map, List.length_append]
      omega
    rw [hlen, e__law_alike (by rfl)]
end Tx
namespace Tx
open PySem PySem.Spec PyProof.Rows L2 TL
section
variable {P : Program} {w : World} {K : PySem.W.Frag} {mg : Str → Option Value} {base : Heap} {f : Addr} {fd : FuncData} {k : Nat}
abbrev FnP (K : PySem.W.Frag) (x : Str) (st : Stmt) (f : Addr) (fd : FuncData) : Prop := FunD K x x (defArgs st) (defBody st) (defScope st) [] [] f fd
theorem ok_o__law_bag (F : FnP K "_law_bag" s__law_bag f fd) (hm : mg "_law_bag" = some (.ref f)) (hb : Binds K fd ["_law_script"] []) (m_len : mg "len" = none) (m_abs : mg "abs" = none) (m_int : mg "int" = none) :
    Has P w K mg base (k + 1) "_law_bag" ["_law_script"] o__law_bag := by
  refine fn_has F hm sc__law_bag hb rfl ?_
  rintro cdv A outer s H E g args Φ Ψ hr hp hM hl ⟨ns, rfl, hn, hΦ⟩
  have hcut : cut (ns.map PyData.int) none (some 63) = ns.map .int := cut_le _ _ (by decide) (by simp; omega)
  refine ws_cons (w1_setLc 1 (own := [("_law_one", 2)]) rfl sc__law_bag.nd (pi_list (peI _)) (blkOk_by (by rfl)) (fun _ _ _ _ _ => (pg_name (i := 2) sc__law_bag.nd rfl (by first | exact Or.inl rfl | exact Or.inr rfl))) (by decide) (nt_lcL (tgd_name 2) rfl ?_))
  refine we_of_wn ?_
  refine wn_sliceL ?_
  refine we_n 0 ?_
  refine ⟨_, rfl, ?_⟩
  refine wp_none ?_
  refine wp_e ?_
  refine we_int ?_
  refine ⟨_, rfl, ?_⟩
  refine ⟨rfl, _, fun i acc => acc = (ns.take i).map fun c => .int (absI c), rfl, rfl, fun i x hx => ⟨_, rfl, rfl, ?_⟩, fun acc ha => ?_⟩
  · intro acc ha g1 s1 H1 C1 cl1 fp1
    rw [hcut] at hx
    obtain ⟨n, rfl, hn2⟩ := ints_get hx
    refine ⟨fun _ s1 H1 C1 cl1 fp1 => ?_, fun z => by cases z⟩
    refine we_abs m_abs ?_
    refine we_n 2 ?_
    refine ⟨_, rfl, ?_⟩
    refine ⟨rfl, ?_⟩
    subst ha
    exact tk_succ (fun c => .int (absI c)) hn2
  · subst ha
    rw [hcut, List.length_map, List.take_length]
    have em : (ns.map fun c => PyData.int (absI c)) = (ns.map absI).map .int := by simp
    rw [em]
    refine ws_cons (w1_set 3 sc__law_bag.nd ?_)
    refine we_add ?_
    refine we_int ?_
    refine we_len m_len ?_
    refine we_n 1 ?_
    refine .lst ?_
    refine .int ?_
    refine ⟨rfl, ?_⟩
    refine ws_cons (w1_forL hp rfl (pg_name (i := 2) sc__law_bag.nd rfl (by first | exact Or.inl rfl | exact Or.inr rfl)) (tgd_name 2) ?_)
    refine we_of_wn ?_
    refine wn_sliceL ?_
    refine we_n 0 ?_
    refine ⟨_, rfl, ?_⟩
    refine wp_none ?_
    refine wp_e ?_
    refine we_int ?_
    refine ⟨_, rfl, ?_⟩
    refine ⟨rfl, _, fun i e => ∃ (x : Sl) (t : Int), 0 ≤ t ∧ t < 2147483629 ∧ e = [.d (.list (ns.map .int)), .d (.list ((ns.map absI).map .int)), x, .d (.int t)], rfl, ⟨.un, _, ?_, ?_, rfl⟩, ?_, ?_⟩
    · omega
    · simp; omega
    · rintro i x hx _ ⟨x2, t, t0, t1, rfl⟩
      rw [hcut] at hx
      obtain ⟨n, rfl, hn2⟩ := ints_get hx
      refine ⟨_, rfl, rfl, ?_⟩
      refine ws_cons (w1_set 3 sc__law_bag.nd ?_)
      refine we_mod ?_
      refine we_add ?_
      refine we_add ?_
      refine we_mul ?_
      refine we_n 3 ?_
      refine we_int ?_
      refine ⟨?_, by unfold L2.CMul; omega⟩
      refine we_abs m_abs ?_
      refine we_n 2 ?_
      refine ⟨_, rfl, ?_⟩
      refine .int ?_
      refine we_mul ?_
      refine we_int ?_
      refine we_intof m_int ?_
      refine we_cp (op_ltA hr) ?_
      refine we_n 2 ?_
      refine we_int ?_
      refine ⟨_, cp_lt, ?_⟩
      refine .bool ?_
      refine ⟨?_, by unfold L2.CMul; omega⟩
      refine .int ?_
      refine we_int ?_
      refine ⟨?_, by decide⟩
      refine ⟨rfl, ?_⟩
      refine ws_nil ?_
      exact ⟨_, _, Int.emod_nonneg _ (by decide), Int.emod_lt_of_pos _ (by decide), rfl⟩
    · rintro _ ⟨x2, t, t0, t1, rfl⟩
      refine ws_cons (w1_retN ?_)
      refine wn_list ?_
      refine wa_d ?_
      refine we_n 1 ?_
      refine ⟨rfl, ?_⟩
      refine wa_d ?_
      refine we_int ?_
      refine ⟨rfl, ?_⟩
      refine wa_d ?_
      refine we_int ?_
      refine ⟨rfl, ?_⟩
      refine wa_d ?_
      refine we_n 3 ?_
      refine ⟨rfl, ?_⟩
      refine wa_nil ?_
      refine ⟨_, rfl, szOk rfl, ?_⟩
      refine ⟨_, hΦ _ ⟨ns.map absI, 0, 0, t, rfl, fun c hc => ?_, by decide, by decide, t0, t1⟩, trivial, rfl, rfl⟩
      obtain ⟨z, _, rfl⟩ := List.mem_map.mp hc
      exact absI_nn z
theorem ok_o__law_pull (F : FnP K "_law_pull" s__law_pull f fd) (hm : mg "_law_pull" = some (.ref f)) (hb : Binds K fd ["_law_bag_here", "_law_many"] []) (m_len : mg "len" = none) :
    Has P w K mg base (k + 1) "_law_pull" ["_law_bag_here", "_law_many"] o__law_pull := by
  refine fn_has F hm sc__law_pull hb rfl ?_
  rintro cdv A outer s H E g args Φ Ψ hr hp hM hl ⟨b, many, rfl, m0, m1, hΦ⟩
  have hd : ∀ i, CDivW i many := fun i => wide_div m0 m1 (by decide) (by decide)
  refine ws_open 0 rfl fun cells i z t hc i0 z0 t0 t1 => ?_
  have bag : ∀ z' : Int, 0 ≤ z' → BagD [.list (cells.map .int), .int (i + 1), .int z', .int t] := fun z' h => ⟨cells, i + 1, z', t, rfl, hc, by omega, h, t0, t1⟩
  refine ws_cons (w1_if ?_)
  refine wt_cp (op_ltA hr) ?_
  refine we_ix ?_
  refine we_nl 0 ?_
  refine we_int ?_
  refine ix_lst (by decide) rfl ?_
  refine we_int ?_
  refine ⟨_, cp_lt, ?_⟩
  refine ⟨fun b1 => ?_, fun b1 => ?_⟩
  · -- then
    refine ws_cons (w1_augix 0 rfl ?_)
    refine we_int ?_
    refine ⟨1, 1, _, rfl, rfl, rfl, ?_⟩
    refine we_int ?_
    refine ⟨_, rfl, ?_⟩
    refine ws_cons (w1_set 2 sc__law_pull.nd ?_)
    refine we_ix ?_
    refine we_nl 0 ?_
    refine we_int ?_
    refine ix_lst (by decide) rfl ?_
    refine ⟨rfl, ?_⟩
    refine ws_mid (fun e => ∃ y : Int, 0 ≤ y ∧ e = [.ol b [.list (cells.map .int), .int (i + 1), .int z, .int t], .d (.int many), .d (.int y), .un, .un]) (w1_if ?_) ?_
    · refine wt_cp op_le ?_
      refine we_ix ?_
      refine we_nl 0 ?_
      refine we_int ?_
      refine ix_lst (by decide) rfl ?_
      refine we_len m_len ?_
      refine we_ix ?_
      refine we_nl 0 ?_
      refine we_int ?_
      refine ix_lst (by decide) rfl ?_
      refine .lst ?_
      refine ⟨_, cp_le, ?_⟩
      refine ⟨fun b2 => ?_, fun b2 => ?_⟩
      · -- then
        have b2 := of_decide_eq_true b2
        rw [List.length_map] at b2
        refine ws_cons (w1_set 2 sc__law_pull.nd ?_)
        refine we_ix ?_
        refine we_ix ?_
        refine we_nl 0 ?_
        refine we_int ?_
        refine ix_lst (by decide) rfl ?_
        refine we_sub ?_
        refine we_ix ?_
        refine we_nl 0 ?_
        refine we_int ?_
        refine ix_lst (by decide) rfl ?_
        refine we_int ?_
        refine ⟨?_, trivial⟩
        refine ix_ints (by omega) (by omega) fun n hn => ?_
        have n0 := hc n hn
        refine ⟨rfl, ?_⟩
        refine ws_cons (w1_if ?_)
        refine wt_cp op_ge ?_
        refine we_n 2 ?_
        refine we_pow ?_
        refine we_int ?_
        refine we_int ?_
        refine ⟨?_, by unfold L2.CPow; decide⟩
        refine ⟨_, cp_ge, ?_⟩
        refine ⟨fun b3 => ?_, fun b3 => ?_⟩
        · -- then
          refine ws_cons (w1_setix 0 rfl ?_)
          refine we_div ?_
          refine we_n 2 ?_
          refine we_n 1 ?_
          refine ⟨?_, hd _⟩
          refine ⟨rfl, ?_⟩
          refine we_int ?_
          refine ⟨2, 2, rfl, rfl, ?_⟩
          refine ws_cons (w1_ret ?_)
          refine we_mod ?_
          refine we_n 2 ?_
          refine we_n 1 ?_
          refine ⟨?_, m0⟩
          refine ⟨rfl, ?_⟩
          exact ⟨_, hΦ _ (Int.emod_nonneg _ (by omega)) (Int.emod_lt_of_pos _ m0), trivial, ⟨rfl, bag _ (Int.ediv_nonneg n0 (by omega)), rfl⟩, rfl, rfl⟩
        · -- else
          refine ws_nil (ws_nil ?_)
          exact ⟨n, n0, rfl⟩
      · -- else
        refine ws_nil ?_
        exact ⟨i + 1, by omega, rfl⟩
    rintro _ ⟨y, y0, rfl⟩
    refine ws_cons (w1_set 3 sc__law_pull.nd ?_)
    refine we_mod ?_
    refine we_add ?_
    refine we_add ?_
    refine we_n 2 ?_
    refine we_mul ?_
    refine we_ix ?_
    refine we_nl 0 ?_
    refine we_int ?_
    refine ix_lst (by decide) rfl ?_
    refine we_int ?_
    refine ⟨?_, by unfold L2.CMul; omega⟩
    refine .int ?_
    refine we_mul ?_
    refine we_ix ?_
    refine we_nl 0 ?_
    refine we_int ?_
    refine ix_lst (by decide) rfl ?_
    refine we_int ?_
    refine ⟨?_, by unfold L2.CMul; omega⟩
    refine .int ?_
    refine we_int ?_
    refine ⟨?_, by decide⟩
    refine ⟨rfl, ?_⟩
    generalize (y + t * 31 + (i + 1) * 69061) = y1
    refine ws_cons (w1_set 3 sc__law_pull.nd ?_)
    refine we_mod ?_
    refine we_add ?_
    refine we_mul ?_
    refine we_n 3 ?_
    refine we_n 3 ?_
    have y2 := Int.emod_nonneg y1 (b := 2147483629) (by decide)
    have y3 := Int.emod_lt_of_pos y1 (b := 2147483629) (by decide)
    refine ⟨?_, by unfold L2.CMul; omega⟩
    refine we_int ?_
    refine .int ?_
    refine we_int ?_
    refine ⟨?_, by decide⟩
    refine ⟨rfl, ?_⟩
    generalize (y1 % 2147483629 * (y1 % 2147483629) + 40961) = y4
    refine ws_cons (w1_ret ?_)
    refine we_mod ?_
    refine we_div ?_
    refine we_mod ?_
    refine we_add ?_
    refine we_mul ?_
    refine we_n 3 ?_
    refine we_n 3 ?_
    have y5 := Int.emod_nonneg y4 (b := 2147483587) (by decide)
    have y6 := Int.emod_lt_of_pos y4 (b := 2147483587) (by decide)
    refine ⟨?_, by unfold L2.CMul; omega⟩
    refine we_ix ?_
    refine we_nl 0 ?_
    refine we_int ?_
    refine ix_lst (by decide) rfl ?_
    refine .int ?_
    refine we_int ?_
    refine ⟨?_, by decide⟩
    refine we_int ?_
    refine ⟨?_, cdiv_small _ (by decide) (by decide)⟩
    refine we_n 1 ?_
    refine ⟨?_, m0⟩
    refine ⟨rfl, ?_⟩
    exact ⟨_, hΦ _ (Int.emod_nonneg _ (by omega)) (Int.emod_lt_of_pos _ m0), trivial, ⟨rfl, bag z z0, rfl⟩, rfl, rfl⟩
  · -- else
    refine ws_nil ?_
    refine ws_cons (w1_set 4 sc__law_pull.nd ?_)
    refine we_mod ?_
    refine we_ix ?_
    refine we_nl 0 ?_
    refine we_int ?_
    refine ix_lst (by decide) rfl ?_
    refine we_n 1 ?_
    refine ⟨?_, m0⟩
    refine ⟨rfl, ?_⟩
    refine ws_cons (w1_setix 0 rfl ?_)
    refine we_div ?_
    refine we_ix ?_
    refine we_nl 0 ?_
    refine we_int ?_
    refine ix_lst (by decide) rfl ?_
    refine we_n 1 ?_
    refine ⟨?_, hd _⟩
    refine ⟨rfl, ?_⟩
    refine we_int ?_
    refine ⟨2, 2, rfl, rfl, ?_⟩
    refine ws_cons (w1_ret ?_)
    refine we_n 4 ?_
    refine ⟨rfl, ?_⟩
    exact ⟨_, hΦ _ (Int.emod_nonneg _ (by omega)) (Int.emod_lt_of_pos _ m0), trivial, ⟨rfl, ⟨cells, i, z / many, t, rfl, hc, i0, Int.ediv_nonneg z0 (by omega), t0, t1⟩, rfl⟩, rfl, rfl⟩
theorem ok__law_pull (h : Has P w K mg base k "_law_pull" ["_law_bag_here", "_law_many"] o__law_pull) : Has P w K mg base k "_law_pull" ["_law_bag_here", "_law_many"] c__law_pull := h.imp fun args Φ Ψ ⟨b, m, Kf, Ef, e, hf, h1, h2⟩ => by
  subst e
  cases m with
  | int m => exact ⟨b, m, rfl, hf.1.1, hf.1.2, fun r r0 r1 => h1 _ (hf.2 r r0 r1)⟩
  | _ => exact (show False from hf).elim
theorem ok_o__law_cut_arc (F : FnP K "_law_cut_arc" s__law_cut_arc f fd) (hm : mg "_law_cut_arc" = some (.ref f)) (hb : Binds K fd ["_law_bag_here", "_law_start", "_law_end", "_law_found"] []) (ho__law_pull : Has P w K mg base 1 "_law_pull" ["_law_bag_here", "_law_many"] o__law_pull) (k0 : Nat) :
    ∀ N : Nat, Has P w K mg base (k0 + N + 2) "_law_cut_arc" ["_law_bag_here", "_law_start", "_law_end", "_law_found"] (o__law_cut_arc N)
  | 0 => by
    refine fn_has F hm sc__law_cut_arc hb rfl ?_
    rintro cdv A outer s H E g args Φ Ψ hr hp hM hl ⟨b, st, en, fa, ds, rfl, h1, h2, _⟩
    omega
  | N + 1 => by
    have ih := ok_o__law_cut_arc F hm hb ho__law_pull k0 N
    refine fn_has F hm sc__law_cut_arc hb rfl ?_
    rintro cdv A outer s H E g args Φ Ψ hr hp hM hl ⟨b, st, en, fa, ds, rfl, h1, h2, h3, hΦ⟩
    have hsl := sizeLine_eq
    refine ws_cons (w1_if ?_)
    refine wt_cp op_gt ?_
    refine we_sub ?_
    refine we_n 2 ?_
    refine we_n 1 ?_
    refine ⟨?_, trivial⟩
    refine we_int ?_
    refine ⟨_, cp_gt, ?_⟩
    refine ⟨fun b1 => ?_, fun b1 => ?_⟩
    · -- then
      have b1 := of_decide_eq_true b1
      refine ws_cons (w1_set 4 sc__law_cut_arc.nd ?_)
      refine we_sub ?_
      refine we_sub ?_
      refine we_n 2 ?_
      refine we_n 1 ?_
      refine ⟨?_, trivial⟩
      refine we_int ?_
      refine ⟨?_, trivial⟩
      refine ⟨rfl, ?_⟩
      refine ws_cons (w1_set 5 sc__law_cut_arc.nd ?_)
      refine we_call ho__law_pull hr ?_
      refine wa_s 0 ?_
      refine wa_d ?_
      refine we_int ?_
      refine ⟨rfl, ?_⟩
      refine wa_nil ?_
      refine ⟨rfl, b, _, rfl, by decide, nb (by decide), fun wy y0 y1 => ⟨rfl, _, rfl, ?_⟩⟩
      refine ⟨rfl, ?_⟩
      refine ws_cons (w1_set 6 sc__law_cut_arc.nd ?_)
      refine we_add ?_
      refine we_add ?_
      refine we_n 1 ?_
      refine we_int ?_
      refine .int ?_
      refine we_ix ?_
      refine we_list ?_
      refine wa_d ?_
      refine we_call ho__law_pull hr ?_
      refine wa_s 0 ?_
      refine wa_d ?_
      refine we_n 4 ?_
      refine ⟨rfl, ?_⟩
      refine wa_nil ?_
      have hw : (en - st - 1).natAbs < 2 ^ 120 := by omega
      refine ⟨rfl, b, _, rfl, by omega, nb hw, fun r r0 r1 => ⟨rfl, _, rfl, ?_⟩⟩
      refine ⟨rfl, ?_⟩
      refine wa_d ?_
      refine we_int ?_
      refine ⟨rfl, ?_⟩
      refine wa_d ?_
      refine we_sub ?_
      refine we_n 4 ?_
      refine we_int ?_
      refine ⟨?_, trivial⟩
      refine ⟨rfl, ?_⟩
      refine wa_d ?_
      refine we_div ?_
      refine we_n 4 ?_
      refine we_int ?_
      refine ⟨?_, cdiv_small _ (by decide) (by decide)⟩
      refine ⟨rfl, ?_⟩
      refine wa_d ?_
      refine we_call ho__law_pull hr ?_
      refine wa_s 0 ?_
      refine wa_d ?_
      refine we_n 4 ?_
      refine ⟨rfl, ?_⟩
      refine wa_nil ?_
      refine ⟨rfl, b, _, rfl, by omega, nb hw, fun r' r0' r1' => ⟨rfl, _, rfl, ?_⟩⟩
      refine ⟨rfl, ?_⟩
      refine wa_nil ?_
      refine ⟨_, rfl, szOk rfl, ?_⟩
      refine we_n 5 ?_
      refine ix_mem 5 y0 (by omega) fun x hx => ?_
      obtain ⟨v, rfl, v0, v1⟩ : ∃ v : Int, x = .int v ∧ 0 ≤ v ∧ v < en - st - 1 := by
        simp at hx
        rcases hx with rfl | rfl | rfl | rfl | rfl
        · exact ⟨_, rfl, r0, r1⟩
        · exact ⟨_, rfl, by omega, by omega⟩
        · exact ⟨_, rfl, by omega, by omega⟩
        · exact ⟨_, rfl, by omega, by omega⟩
        · exact ⟨_, rfl, r0', r1'⟩
      refine .int ?_
      refine ⟨rfl, ?_⟩
      obtain ⟨m, hm1⟩ : ∃ m : Int, st + 1 + v = m := ⟨_, rfl⟩
      rw [hm1]
      have m1 : st < m := by omega
      have m2 : m < en := by omega
      refine ws_cons (w1_append 3 rfl ?_)
      refine we_tuple ?_
      refine wa_d ?_
      refine we_n 1 ?_
      refine ⟨rfl, ?_⟩
      refine wa_d ?_
      refine we_n 6 ?_
      refine ⟨rfl, ?_⟩
      refine wa_nil ?_
      refine ⟨_, rfl, szOk rfl, ?_⟩
      refine ⟨rfl, by omega, ?_⟩
      refine ws_cons (w1_append 3 rfl ?_)
      refine we_tuple ?_
      refine wa_d ?_
      refine we_n 6 ?_
      refine ⟨rfl, ?_⟩
      refine wa_d ?_
      refine we_n 2 ?_
      refine ⟨rfl, ?_⟩
      refine wa_nil ?_
      refine ⟨_, rfl, szOk rfl, ?_⟩
      refine ⟨rfl, by simp; omega, ?_⟩
      refine ws_cons (w1_callM ih hr ?_)
      refine wa_s 0 ?_
      refine wa_d ?_
      refine we_n 1 ?_
      refine ⟨rfl, ?_⟩
      refine wa_d ?_
      refine we_n 6 ?_
      refine ⟨rfl, ?_⟩
      refine wa_s 3 ?_
      refine wa_nil ?_
      refine ⟨rfl, b, st, m, fa, _, rfl, m1, by omega, by simp; omega, fun la ha => ⟨rfl, ?_⟩⟩
      have hla := ha.len m1
      refine ws_cons (w1_callM ih hr ?_)
      refine wa_s 0 ?_
      refine wa_d ?_
      refine we_n 6 ?_
      refine ⟨rfl, ?_⟩
      refine wa_d ?_
      refine we_n 2 ?_
      refine ⟨rfl, ?_⟩
      refine wa_s 3 ?_
      refine wa_nil ?_
      refine ⟨rfl, b, m, en, fa, _, rfl, m2, by omega, by simp; omega, fun lb hb2 => ⟨rfl, ?_⟩⟩
      refine ws_nil ?_
      refine ws_cons (w1_retA 3 rfl (by intro z; cases z) ?_)
      have hq := hΦ _ (Arcs.node m1 m2 ha hb2)
      refine ⟨_, hq, ⟨ltB rfl, fun s' h => by cases h; intro z; cases z⟩, ⟨rfl, rfl⟩, rfl, rfl, ⟨rfl, ?_⟩, rfl⟩
      simp [ppD]
    · -- else
      have b1 := of_decide_eq_false b1
      refine ws_nil ?_
      refine ws_cons (w1_retA 3 rfl (by intro z; cases z) ?_)
      have hq := hΦ _ (Arcs.leaf (by omega))
      refine ⟨_, hq, ⟨ltB rfl, fun s' h => by cases h; intro z; cases z⟩, ⟨rfl, rfl⟩, rfl, rfl, ⟨rfl, ?_⟩, rfl⟩
      simp
theorem ok__law_pair (F : FnP K "_law_pair" s__law_pair f fd) (hm : mg "_law_pair" = some (.ref f)) (hb : Binds K fd ["_law_one", "_law_other"] []) (m_min : mg "min" = none) (m_max : mg "max" = none) :
    Has P w K mg base (k + 1) "_law_pair" ["_law_one", "_law_other"] c__law_pair := by
  refine fn_has F hm sc__law_pair hb rfl ?_
  rintro cdv A outer s H E g args Φ Ψ hr hp hM hl ⟨l_one, l_other, Kf, Ef, rfl, h, hK, hE⟩
  unfold f__law_pair at h
  refine ws_env (env' := [.d l_one, .d l_other]) rfl ?_
  refine ws_cons (w1_ret ?_)
  refine we_tuple ?_
  refine wa_d ?_
  refine we_min2A m_min rfl ?_
  refine we_n 0 ?_
  refine we_n 1 ?_
  refine min2_m h fun r1 h => ?_
  refine ⟨rfl, ?_⟩
  refine wa_d ?_
  refine we_max2A m_max rfl ?_
  refine we_n 0 ?_
  refine we_n 1 ?_
  refine max2_m h fun r2 h => ?_
  refine ⟨rfl, ?_⟩
  refine wa_nil ?_
  refine ⟨_, rfl, szOk rfl, ?_⟩
  exact ⟨rfl, _, hK _ h, trivial, rfl, rfl, rfl⟩
theorem ok_o__law_pair (F : FnP K "_law_pair" s__law_pair f fd) (hm : mg "_law_pair" = some (.ref f)) (hb : Binds K fd ["_law_one", "_law_other"] []) (m_min : mg "min" = none) (m_max : mg "max" = none) :
    Has P w K mg base (k + 1) "_law_pair" ["_law_one", "_law_other"] o__law_pair := by
  refine fn_has F hm sc__law_pair hb rfl ?_
  rintro cdv A outer s H E g args Φ Ψ hr hp hM hl ⟨i, j, rfl, hΦ⟩
  refine ws_cons (w1_ret ?_)
  refine we_tuple ?_
  refine wa_d ?_
  refine we_min2 m_min rfl ?_
  refine we_n 0 ?_
  refine we_n 1 ?_
  refine ⟨i, j, rfl, rfl, rfl, ?_⟩
  refine wa_d ?_
  refine we_max2 m_max rfl ?_
  refine we_n 0 ?_
  refine we_n 1 ?_
  refine ⟨i, j, rfl, rfl, rfl, ?_⟩
  refine wa_nil ?_
  refine ⟨_, rfl, szOk rfl, rfl, ?_⟩
  exact ⟨_, hΦ, trivial, rfl, rfl, rfl⟩
theorem ok_o__law_drawn_plan (F : FnP K "_law_drawn_plan" s__law_drawn_plan f fd) (hm : mg "_law_drawn_plan" = some (.ref f)) (hb : Binds K fd ["_law_bag_here", "_law_faces"] []) (m_tuple : mg "tuple" = none) (ho__law_cut_arc : Has P w K mg base k "_law_cut_arc" ["_law_bag_here", "_law_start", "_law_end", "_law_found"] (o__law_cut_arc 64)) (m_sorted : mg "sorted" = none) (ho__law_pair : Has P w K mg base k "_law_pair" ["_law_one", "_law_other"] o__law_pair) :
    Has P w K mg base (k + 1) "_law_drawn_plan" ["_law_bag_here", "_law_faces"] o__law_drawn_plan := by
  refine fn_has F hm sc__law_drawn_plan hb rfl ?_
  rintro cdv A outer s H E g args Φ Ψ hr hp hM hl ⟨b, n, rfl, n3, n40, hΦ⟩
  refine ws_cons (w1_setLc 2 (own := [("_law_low", 3), ("_law_high", 4)]) rfl sc__law_drawn_plan.nd (pi_list (peI _)) (blkOk_by (by rfl)) (fun _ _ _ _ _ => (pg_tup rfl (pgs_cons (pg_name (i := 3) sc__law_drawn_plan.nd rfl (by first | exact Or.inl rfl | exact Or.inr rfl)) (pgs_cons (pg_name (i := 4) sc__law_drawn_plan.nd rfl (by first | exact Or.inl rfl | exact Or.inr rfl)) pgs_nil)))) (by decide) (nt_lcL (tgd_tup (tgds_cons (tgd_name 3) (tgds_cons (tgd_name 4) tgds_nil)) rfl) rfl ?_))
  refine we_of_wn ?_
  refine wn_callN ho__law_cut_arc hr ?_
  refine wan_s 0 ?_
  refine wan_d ?_
  refine we_int ?_
  refine ⟨rfl, ?_⟩
  refine wan_d ?_
  refine we_n 1 ?_
  refine ⟨rfl, ?_⟩
  refine wan_l ?_
  refine ⟨rfl, by decide, fun q => ⟨b, 1, n, q, [], rfl, by omega, by omega, by simp; omega, fun l hl => ⟨_, rfl, rfl, ?_⟩⟩⟩
  rw [List.nil_append]
  refine ⟨rfl, _, fun i acc => acc = ((l.take i).filter wide).map ppD, rfl, rfl, fun i x hx => ?_, fun acc ha => ?_⟩
  · obtain ⟨p, hp1, rfl⟩ := map_get hx
    refine ⟨_, rfl, rfl, ?_⟩
    intro acc ha g1 s1 H1 C1 cl1 fp1
    subst ha
    show WT _ _ _ _ _ _
    refine wt_cp op_gt ?_
    refine we_sub ?_
    refine we_n 4 ?_
    refine we_n 3 ?_
    refine ⟨?_, trivial⟩
    refine we_int ?_
    refine ⟨_, cp_gt, ?_⟩
    refine ⟨fun b s1 H1 C1 cl1 fp1 => ?_, fun b => tkf_f ppD hp1 b⟩
    refine we_tuple ?_
    refine wa_d ?_
    refine we_n 3 ?_
    refine ⟨rfl, ?_⟩
    refine wa_d ?_
    refine we_n 4 ?_
    refine ⟨rfl, ?_⟩
    refine wa_nil ?_
    refine ⟨_, rfl, szOk rfl, ?_⟩
    exact ⟨rfl, tkf_t ppD hp1 b⟩
  · subst ha
    rw [List.length_map, List.take_length]
    obtain ⟨ws, hws⟩ : ∃ ws, l.filter wide = ws := ⟨_, rfl⟩
    rw [hws]
    refine ws_cons (w1_ret ?_)
    refine we_tuple ?_
    refine wa_d ?_
    refine we_n 1 ?_
    refine ⟨rfl, ?_⟩
    refine wa_d ?_
    refine we_tupof m_tuple ?_
    refine we_of_wn ?_
    refine wn_sorted m_sorted hr ?_
    refine we_of_wn ?_
    refine wn_lcL (own := [("_law_low", 3), ("_law_high", 4)]) rfl sc__law_drawn_plan.nd (blkOk_by (by rfl)) (fun _ _ _ _ _ => (pg_tup rfl (pgs_cons (pg_name (i := 3) sc__law_drawn_plan.nd rfl (by first | exact Or.inl rfl | exact Or.inr rfl)) (pgs_cons (pg_name (i := 4) sc__law_drawn_plan.nd rfl (by first | exact Or.inl rfl | exact Or.inr rfl)) pgs_nil)))) (tgd_tup (tgds_cons (tgd_name 3) (tgds_cons (tgd_name 4) tgds_nil)) rfl) (by decide) rfl ?_
    refine we_n 2 ?_
    refine ⟨rfl, _, fun i acc => acc = (ws.take i).map fun p => ppD (nrm n p), rfl, rfl, fun i x hx => ?_, fun acc ha => ?_⟩
    · obtain ⟨p, hp1, rfl⟩ := map_get hx
      refine ⟨_, rfl, rfl, ?_⟩
      intro acc ha g1 s1 H1 C1 cl1 fp1
      refine ⟨fun _ s1 H1 C1 cl1 fp1 => ?_, fun z => by cases z⟩
      refine we_call ho__law_pair hr ?_
      refine wa_d ?_
      refine we_n 3 ?_
      refine ⟨rfl, ?_⟩
      refine wa_d ?_
      refine we_mod ?_
      refine we_n 4 ?_
      refine we_n 1 ?_
      refine ⟨?_, by omega⟩
      refine ⟨rfl, ?_⟩
      refine wa_nil ?_
      refine ⟨rfl, p.1, p.2 % n, rfl, rfl, _, rfl, ?_⟩
      refine ⟨rfl, ?_⟩
      subst ha
      exact tk_succ (fun p => ppD (nrm n p)) hp1
    · subst ha
      rw [List.length_map, List.take_length]
      have em : (ws.map fun p => ppD (nrm n p)) = (ws.map (nrm n)).map ppD := by simp
      rw [em]
      refine ⟨_, rfl, pairs_alike _, pairs_sortable _, pairs_depth _, ?_⟩
      refine .lst ?_
      refine ⟨rfl, ?_⟩
      refine wa_nil ?_
      refine ⟨_, rfl, szOk rfl, ?_⟩
      rw [srt_pp]
      have hq := hΦ l hl
      unfold planOf at hq
      rw [hws] at hq
      exact ⟨rfl, _, hq, trivial, ⟨rfl, rfl⟩, rfl, rfl⟩
theorem ok__law_drawn_plan (h : Has P w K mg base k "_law_drawn_plan" ["_law_bag_here", "_law_faces"] o__law_drawn_plan) : Has P w K mg base k "_law_drawn_plan" ["_law_bag_here", "_law_faces"] c__law_drawn_plan := h.imp fun args Φ Ψ ⟨b, m, Kf, Ef, e, hf, h1, h2⟩ => by
  subst e
  cases m with
  | int m => exact ⟨b, m, rfl, hf.1.1, hf.1.2, fun l hl => h1 _ (hf.2 l hl)⟩
  | _ => exact (show False from hf).elim
theorem ok__law_plan (F : FnP K "_law_plan" s__law_plan f fd) (hm : mg "_law_plan" = some (.ref f)) (hb : Binds K fd ["_law_bag_here", "_law_most"] []) (h__law_pull : Has P w K mg base k "_law_pull" ["_law_bag_here", "_law_many"] c__law_pull) (h__law_drawn_plan : Has P w K mg base k "_law_drawn_plan" ["_law_bag_here", "_law_faces"] c__law_drawn_plan) :
    Has P w K mg base (k + 1) "_law_plan" ["_law_bag_here", "_law_most"] c__law_plan := by
  refine fn_has F hm sc__law_plan hb rfl ?_
  rintro cdv A outer s H E g args Φ Ψ hr hp hM hl ⟨a_l_bag_here, l_most, Kf, Ef, rfl, h, hK, hE⟩
  unfold f__law_plan at h
  refine ws_env (env' := [.bg a_l_bag_here, .d l_most, .un]) rfl ?_
  refine ws_cons (w1_set 2 sc__law_plan.nd ?_)
  refine we_add ?_
  refine we_int ?_
  refine we_call h__law_pull hr ?_
  refine wa_s 0 ?_
  refine wa_d ?_
  refine we_sub ?_
  refine we_n 1 ?_
  refine we_int ?_
  refine sub_sh h fun r1 h => ?_
  refine ⟨rfl, ?_⟩
  refine wa_nil ?_
  refine ⟨rfl, _, _, _, _, rfl, h, fun r2 h => ⟨rfl, _, rfl, ?_⟩, fun c hc => ⟨rfl, ⟨_, hE _ hc, ⟨rfl, rfl⟩, rfl, rfl⟩⟩⟩
  refine add_sh h fun r3 h => ?_
  refine ⟨rfl, ?_⟩
  refine ws_env (env' := [.bg a_l_bag_here, .d l_most, .d r3]) rfl ?_
  refine ws_cons (w1_ret ?_)
  refine we_call h__law_drawn_plan hr ?_
  refine wa_s 0 ?_
  refine wa_d ?_
  refine we_n 2 ?_
  refine ⟨rfl, ?_⟩
  refine wa_nil ?_
  refine ⟨rfl, _, _, _, _, rfl, h, fun r4 h => ⟨rfl, _, rfl, ?_⟩, fun c hc => ⟨rfl, ⟨_, hE _ hc, ⟨rfl, rfl⟩, rfl, rfl⟩⟩⟩
  exact ⟨rfl, _, hK _ h, trivial, ⟨rfl, rfl⟩, rfl, rfl⟩
theorem ok__law_all_lines (F : FnP K "_law_all_lines" s__law_all_lines f fd) (hm : mg "_law_all_lines" = some (.ref f)) (hb : Binds K fd ["_law_plan_here"] []) (m_range : mg "range" = none) (m_sorted : mg "sorted" = none) (m_list : mg "list" = none) :
    Has P w K mg base (k + 1) "_law_all_lines" ["_law_plan_here"] c__law_all_lines := by
  refine fn_has F hm sc__law_all_lines hb rfl ?_
  rintro cdv A outer s H E g args Φ Ψ hr hp hM hl ⟨l_plan_here, Kf, Ef, rfl, h, hK, hE⟩
  unfold f__law_all_lines at h
  refine ws_env (env' := [.d l_plan_here, .un, .un, .un, .un]) rfl ?_
  refine ws_cons (w1_unpack (pg_tup rfl (pgs_cons (pg_name (i := 1) sc__law_all_lines.nd rfl (by first | exact Or.inl rfl | exact Or.inr rfl)) (pgs_cons (pg_name (i := 2) sc__law_all_lines.nd rfl (by first | exact Or.inl rfl | exact Or.inr rfl)) pgs_nil))) (tgd_tup (tgds_cons (tgd_name 1) (tgds_cons (tgd_name 2) tgds_nil)) rfl) ?_)
  refine we_n 0 ?_
  obtain ⟨l_faces1, l_cuts2, he3, h⟩ := un2_sh h
  refine ⟨rfl, [(1, l_faces1), (2, l_cuts2)], (by rw [he3]; rfl), rfl, ?_⟩
  refine ws_env (env' := [.d l_plan_here, .d l_faces1, .d l_cuts2, .un, .un]) rfl ?_
  refine ws_cons (w1_set 3 sc__law_all_lines.nd ?_)
  refine we_add ?_
  refine we_of_wn ?_
  refine wn_lc (own := [("_law_low", 4)]) rfl sc__law_all_lines.nd (blkOk_by (by rfl)) (fun _ _ _ _ _ => (pg_name (i := 4) sc__law_all_lines.nd rfl (by first | exact Or.inl rfl | exact Or.inr rfl))) (tgd_name 4) (by decide) rfl ?_
  refine wi_r1 m_range ?_
  refine we_sub ?_
  refine we_n 1 ?_
  refine we_int ?_
  refine sub_sh h fun r5 h => ?_
  refine rng_sh h fun xs4 h => ?_
  refine lcS h (fun l_low6 kp sk h => ?_) fun l7 h => ?_
  · refine ⟨[(4, l_low6)], rfl, rfl, fun g' s1 H1 C1 cl1 fp1 => ?_⟩
    refine ⟨fun _ s1 H1 C1 cl1 fp1 => ?_, fun z => by cases z⟩
    refine we_tuple ?_
    refine wa_d ?_
    refine we_n 4 ?_
    refine ⟨rfl, ?_⟩
    refine wa_d ?_
    refine we_add ?_
    refine we_n 4 ?_
    refine we_int ?_
    refine add_sh h fun r8 h => ?_
    refine ⟨rfl, ?_⟩
    refine wa_nil ?_
    refine ⟨_, rfl, szOk rfl, ?_⟩
    exact ⟨rfl, h⟩
  refine we_list ?_
  refine wa_d ?_
  refine we_tuple ?_
  refine wa_d ?_
  refine we_int ?_
  refine ⟨rfl, ?_⟩
  refine wa_d ?_
  refine we_sub ?_
  refine we_n 1 ?_
  refine we_int ?_
  refine sub_sh h fun r9 h => ?_
  refine ⟨rfl, ?_⟩
  refine wa_nil ?_
  refine ⟨_, rfl, szOk rfl, ?_⟩
  refine ⟨rfl, ?_⟩
  refine wa_nil ?_
  refine ⟨_, rfl, szOk rfl, ?_⟩
  refine add_sh h fun r10 h => ?_
  refine ⟨rfl, ?_⟩
  refine ws_env (env' := [.d l_plan_here, .d l_faces1, .d l_cuts2, .d r10, .un]) rfl ?_
  refine ws_cons (w1_retN ?_)
  refine wn_sortedA m_sorted hr ?_
  refine we_add ?_
  refine we_n 3 ?_
  refine we_of_wn ?_
  refine wn_listof m_list ?_
  refine we_n 2 ?_
  refine list_sh h fun l11 h => ?_
  refine add_sh h fun r12 h => ?_
  refine sort_m h fun l13 h => ?_
  exact ⟨_, hK _ h, trivial, rfl, rfl⟩
theorem ok__law_tied (F : FnP K "_law_tied" s__law_tied f fd) (hm : mg "_law_tied" = some (.ref f)) (hb : Binds K fd ["_law_plan_here"] []) (h__law_all_lines : Has P w K mg base k "_law_all_lines" ["_law_plan_here"] c__law_all_lines) :
    Has P w K mg base (k + 1) "_law_tied" ["_law_plan_here"] c__law_tied := by
  refine fn_has F hm sc__law_tied hb rfl ?_
  rintro cdv A outer s H E g args Φ Ψ hr hp hM hl ⟨l_plan_here, Kf, Ef, rfl, h, hK, hE⟩
  unfold f__law_tied at h
  refine ws_env (env' := [.d l_plan_here, .un, .un, .un]) rfl ?_
  refine ws_cons (w1_newT 1 sc__law_tied.nd fun a1 n_a1 => ?_)
  refine ws_env (env' := [.d l_plan_here, .dt a1 [], .un, .un]) rfl ?_
  refine ws_cons (w1_for hp rfl (pg_tup rfl (pgs_cons (pg_name (i := 2) sc__law_tied.nd rfl (by first | exact Or.inl rfl | exact Or.inr rfl)) (pgs_cons (pg_name (i := 3) sc__law_tied.nd rfl (by first | exact Or.inl rfl | exact Or.inr rfl)) pgs_nil))) (tgd_tup (tgds_cons (tgd_name 2) (tgds_cons (tgd_name 3) tgds_nil)) rfl) ?_)
  refine wi_d ?_
  refine we_call h__law_all_lines hr ?_
  refine wa_d ?_
  refine we_n 0 ?_
  refine ⟨rfl, ?_⟩
  refine wa_nil ?_
  refine ⟨rfl, _, _, _, rfl, h, fun r3 h => ⟨rfl, _, rfl, ?_⟩, fun c hc => ⟨rfl, ⟨_, hE _ hc, rfl, rfl⟩⟩⟩
  refine ⟨rfl, it_sh h fun xs2 h => ?_⟩
  refine forS h (fun (s : (List (List Key × PyData))) (u : {a : Addr // a ∉ g.M} × Sl × Sl) => [.d l_plan_here, .dt u.1.1 s, u.2.1, u.2.2]) (⟨a1, n_a1⟩, (.un), (.un)) rfl ?_ ?_
  · rintro l_held4 ⟨⟨a5, n_a5⟩, w6, w7⟩ h
    refine ws_env (env' := [.d l_plan_here, .dt a5 l_held4, w6, w7]) rfl ?_
    exact ws_cons (w1_retT 1 rfl n_a5 ⟨_, hK _ h, trivial, rfl, rfl⟩)
  · rintro hend p8 l_held11 ⟨⟨a12, n_a12⟩, w13, w14⟩ N9 h
    obtain ⟨l_low15, l_high16, he17, h⟩ := un2_sh h
    refine ⟨[(2, l_low15), (3, l_high16)], (by rw [he17]; rfl), rfl, ?_⟩
    refine ws_env (env' := [.d l_plan_here, .dt a12 l_held11, .d l_low15, .d l_high16]) rfl ?_
    refine ws_cons (w1_storeTB 1 hr ?_)
    refine we_bool ?_
    refine ⟨rfl, ?_⟩
    refine we_tuple ?_
    refine wa_d ?_
    refine we_n 2 ?_
    refine ⟨rfl, ?_⟩
    refine wa_d ?_
    refine we_n 3 ?_
    refine ⟨rfl, ?_⟩
    refine wa_nil ?_
    refine ⟨_, rfl, szOk rfl, ?_⟩
    refine ⟨rfl, putT_m h fun kv18 h => ?_⟩
    refine ws_env (env' := [.d l_plan_here, .dt a12 kv18, .d l_low15, .d l_high16]) rfl ?_
    refine ws_cons (w1_storeTB 1 hr ?_)
    refine we_bool ?_
    refine ⟨rfl, ?_⟩
    refine we_tuple ?_
    refine wa_d ?_
    refine we_n 3 ?_
    refine ⟨rfl, ?_⟩
    refine wa_d ?_
    refine we_n 2 ?_
    refine ⟨rfl, ?_⟩
    refine wa_nil ?_
    refine ⟨_, rfl, szOk rfl, ?_⟩
    refine ⟨rfl, putT_m h fun kv19 h => ?_⟩
    refine ws_env (env' := [.d l_plan_here, .dt a12 kv19, .d l_low15, .d l_high16]) rfl ?_
    exact ws_nil ⟨kv19, (⟨a12, n_a12⟩, (.d l_low15), (.d l_high16)), h, rfl⟩
theorem ok__law_spots (F : FnP K "_law_spots" s__law_spots f fd) (hm : mg "_law_spots" = some (.ref f)) (hb : Binds K fd ["_law_plan_here"] []) (m_sorted : mg "sorted" = none) (m_list : mg "list" = none) (h__law_tied : Has P w K mg base k "_law_tied" ["_law_plan_here"] c__law_tied) :
    Has P w K mg base (k + 1) "_law_spots" ["_law_plan_here"] c__law_spots := by
  refine fn_has F hm sc__law_spots hb rfl ?_
  rintro cdv A outer s H E g args Φ Ψ hr hp hM hl ⟨l_plan_here, Kf, Ef, rfl, h, hK, hE⟩
  unfold f__law_spots at h
  refine ws_env (env' := [.d l_plan_here]) rfl ?_
  refine ws_cons (w1_retN ?_)
  refine wn_sortedA m_sorted hr ?_
  refine we_of_wn ?_
  refine wn_listT m_list rfl ?_
  refine wd_call h__law_tied hr ?_
  refine wa_d ?_
  refine we_n 0 ?_
  refine ⟨rfl, ?_⟩
  refine wa_nil ?_
  refine ⟨rfl, _, _, _, rfl, h, fun r1 h => ⟨rfl, _, rfl, ?_⟩, fun c hc => ⟨rfl, ⟨_, hE _ hc, rfl, rfl⟩⟩⟩
  refine sort_m h fun l2 h => ?_
  exact ⟨_, hK _ h, trivial, rfl, rfl⟩
theorem ok__law_spot (F : FnP K "_law_spot" s__law_spot f fd) (hm : mg "_law_spot" = some (.ref f)) (hb : Binds K fd ["_law_bag_here", "_law_plan_here"] []) (h__law_spots : Has P w K mg base k "_law_spots" ["_law_plan_here"] c__law_spots) (h__law_pull : Has P w K mg base k "_law_pull" ["_law_bag_here", "_law_many"] c__law_pull) (m_len : mg "len" = none) :
    Has P w K mg base (k + 1) "_law_spot" ["_law_bag_here", "_law_plan_here"] c__law_spot := by
  refine fn_has F hm sc__law_spot hb rfl ?_
  rintro cdv A outer s H E g args Φ Ψ hr hp hM hl ⟨a_l_bag_here, l_plan_here, Kf, Ef, rfl, h, hK, hE⟩
  unfold f__law_spot at h
  refine ws_env (env' := [.bg a_l_bag_here, .d l_plan_here, .un]) rfl ?_
  refine ws_cons (w1_set 2 sc__law_spot.nd ?_)
  refine we_call h__law_spots hr ?_
  refine wa_d ?_
  refine we_n 1 ?_
  refine ⟨rfl, ?_⟩
  refine wa_nil ?_
  refine ⟨rfl, _, _, _, rfl, h, fun r1 h => ⟨rfl, _, rfl, ?_⟩, fun c hc => ⟨rfl, ⟨_, hE _ hc, ⟨rfl, rfl⟩, rfl, rfl⟩⟩⟩
  refine ⟨rfl, ?_⟩
  refine ws_env (env' := [.bg a_l_bag_here, .d l_plan_here, .d (.list r1)]) rfl ?_
  refine ws_cons (w1_ret ?_)
  refine we_ix ?_
  refine we_n 2 ?_
  refine we_call h__law_pull hr ?_
  refine wa_s 0 ?_
  refine wa_d ?_
  refine we_len m_len ?_
  refine we_n 2 ?_
  refine len_sh h fun r2 h => ?_
  refine ⟨rfl, ?_⟩
  refine wa_nil ?_
  refine ⟨rfl, _, _, _, _, rfl, h, fun r3 h => ⟨rfl, _, rfl, ?_⟩, fun c hc => ⟨rfl, ⟨_, hE _ hc, ⟨rfl, rfl⟩, rfl, rfl⟩⟩⟩
  refine ix_sh h fun r4 h => ?_
  exact ⟨rfl, _, hK _ h, trivial, ⟨rfl, rfl⟩, rfl, rfl⟩
theorem ok__law_whole (F : FnP K "_law_whole" s__law_whole f fd) (hm : mg "_law_whole" = some (.ref f)) (hb : Binds K fd ["_law_found"] []) (m_isinstance : mg "isinstance" = none) (m_int : mg "int" = none) (m_bool : mg "bool" = none) :
    Has P w K mg base (k + 1) "_law_whole" ["_law_found"] c__law_whole := by
  refine fn_has F hm sc__law_whole hb rfl ?_
  rintro cdv A outer s H E g args Φ Ψ hr hp hM hl ⟨l_found, Kf, Ef, rfl, h, hK, hE⟩
  unfold f__law_whole at h
  refine ws_env (env' := [.d l_found]) rfl ?_
  refine ws_cons (w1_ret ?_)
  refine we_andS h (fun Q h => ?_) (fun Q h => ?_) fun b1 h => ?_
  · refine we_isi "int" m_isinstance m_int ?_
    refine we_n 0 ?_
    refine ⟨_, rfl, ?_⟩
    exact h
  · refine we_one ?_
    refine we_not ?_
    refine we_isi "bool" m_isinstance m_bool ?_
    refine we_n 0 ?_
    refine ⟨_, rfl, ?_⟩
    refine ⟨_, rfl, ?_⟩
    exact h
  exact ⟨rfl, _, hK _ h, trivial, rfl, rfl⟩
theorem ok_o__law_whole (F : FnP K "_law_whole" s__law_whole f fd) (hm : mg "_law_whole" = some (.ref f)) (hb : Binds K fd ["_law_found"] []) (m_isinstance : mg "isinstance" = none) (m_int : mg "int" = none) (m_bool : mg "bool" = none) :
    Has P w K mg base (k + 1) "_law_whole" ["_law_found"] o__law_whole := by
  refine fn_has F hm sc__law_whole hb rfl ?_
  rintro cdv A outer s H E g args Φ Ψ hr hp hM hl ⟨d, rfl, hΦ⟩
  refine ws_cons (w1_ret ?_)
  refine we_and ?_
  refine we_isi "int" m_isinstance m_int ?_
  refine we_n 0 ?_
  refine ⟨_, rfl, fun b1 => ?_, fun b1 => by rw [b1] at hΦ; exact ⟨rfl, _, hΦ, trivial, rfl, rfl⟩⟩
  rw [b1, Bool.true_and] at hΦ
  refine we_one ?_
  refine we_not ?_
  refine we_isi "bool" m_isinstance m_bool ?_
  refine we_n 0 ?_
  refine ⟨_, rfl, ?_⟩
  exact ⟨rfl, _, hΦ, trivial, rfl, rfl⟩
theorem ok_o__law_alike (F : FnP K "_law_alike" s__law_alike f fd) (hm : mg "_law_alike" = some (.ref f)) (hb : Binds K fd ["_law_found", "_law_due"] []) (m_isinstance : mg "isinstance" = none) (m_bool : mg "bool" = none) (m_int : mg "int" = none) (m_str : mg "str" = none) (m_all : mg "all" = none) (ho__law_whole : Has P w K mg base 1 "_law_whole" ["_law_found"] o__law_whole) (m_list : mg "list" = none) (m_tuple : mg "tuple" = none) (m_len : mg "len" = none) (m_range : mg "range" = none) (k0 : Nat) :
    ∀ N : Nat, Has P w K mg base (k0 + N + 2) "_law_alike" ["_law_found", "_law_due"] (o__law_alike N) := by
  intro N
  induction N with
  | zero => ?_
  | succ N ih => ?_
  all_goals
    refine fn_has F hm sc__law_alike hb rfl ?_
    rintro cdv A outer s H E g args Φ Ψ hr hp hM hl ⟨x, rfl, hok, hΦ⟩
    have ret : ∀ b : Bool, b = true → ∀ x2 : Sl, (endOf [.d x, .d x] Φ Ψ).rt (.rd (.bool b)) [.d x, .d x, x2] := fun b h x2 => by rw [h]; exact ⟨_, hΦ, trivial, rfl, rfl, rfl⟩
    cases x with
    | dict kvs => cases hok
    | none =>
      refine ws_cons (w1_if ?_)
      refine wt_cp op_isN ?_
      refine we_n 1 ?_
      refine we_none ?_
      refine ⟨_, cp_isN, fun _ => ?_, fun b => (by cases b)⟩
      refine ws_cons (w1_ret ?_)
      refine we_cp op_isN ?_
      refine we_n 0 ?_
      refine we_none ?_
      exact ⟨_, cp_isN, rfl, ret _ rfl _⟩
    | bool v =>
      refine ws_cons (w1_if ?_)
      refine wt_cp op_isN ?_
      refine we_n 1 ?_
      refine we_none ?_
      refine ⟨_, cp_isN, fun b => (by cases b), fun _ => ws_nil ?_⟩
      refine ws_cons (w1_if ?_)
      refine wt_e ?_
      refine we_isi "bool" m_isinstance m_bool ?_
      refine we_n 1 ?_
      refine ⟨_, rfl, ?_⟩
      rw [ti_bool_bool]
      refine ⟨fun _ => ?_, fun b => (by cases b)⟩
      refine ws_cons (w1_ret ?_)
      refine we_and ?_
      refine we_isi "bool" m_isinstance m_bool ?_
      refine we_n 0 ?_
      rw [ti_bool_bool]
      refine ⟨_, rfl, fun _ => ?_, fun b => (by cases b)⟩
      refine we_one ?_
      refine we_cp (op_eqA hr) ?_
      refine we_n 0 ?_
      refine we_n 1 ?_
      exact ⟨_, cp_eqB, rfl, ret _ (decide_eq_true rfl) _⟩
    | int v =>
      refine ws_cons (w1_if ?_)
      refine wt_cp op_isN ?_
      refine we_n 1 ?_
      refine we_none ?_
      refine ⟨_, cp_isN, fun b => (by cases b), fun _ => ws_nil ?_⟩
      refine ws_cons (w1_if ?_)
      refine wt_e ?_
      refine we_isi "bool" m_isinstance m_bool ?_
      refine we_n 1 ?_
      refine ⟨_, rfl, ?_⟩
      rw [ti_int_bool]
      refine ⟨fun b => (by cases b), fun _ => ws_nil ?_⟩
      refine ws_cons (w1_if ?_)
      refine wt_e ?_
      refine we_isi "int" m_isinstance m_int ?_
      refine we_n 1 ?_
      refine ⟨_, rfl, ?_⟩
      rw [ti_int_int]
      refine ⟨fun _ => ?_, fun b => (by cases b)⟩
      refine ws_cons (w1_ret ?_)
      refine we_and ?_
      refine we_call ho__law_whole hr ?_
      refine wa_d ?_
      refine we_n 0 ?_
      refine ⟨rfl, ?_⟩
      refine wa_nil ?_
      refine ⟨rfl, _, rfl, rfl, _, rfl, ?_⟩
      rw [ti_int_int, ti_int_bool]
      refine ⟨_, rfl, fun _ => ?_, fun b => (by cases b)⟩
      refine we_one ?_
      refine we_cp (op_eqA hr) ?_
      refine we_n 0 ?_
      refine we_n 1 ?_
      exact ⟨_, cp_eqI, rfl, ret _ (decide_eq_true rfl) _⟩
    | str v =>
      refine ws_cons (w1_if ?_)
      refine wt_cp op_isN ?_
      refine we_n 1 ?_
      refine we_none ?_
      refine ⟨_, cp_isN, fun b => (by cases b), fun _ => ws_nil ?_⟩
      refine ws_cons (w1_if ?_)
      refine wt_e ?_
      refine we_isi "bool" m_isinstance m_bool ?_
      refine we_n 1 ?_
      refine ⟨_, rfl, ?_⟩
      rw [ti_str_bool]
      refine ⟨fun b => (by cases b), fun _ => ws_nil ?_⟩
      refine ws_cons (w1_if ?_)
      refine wt_e ?_
      refine we_isi "int" m_isinstance m_int ?_
      refine we_n 1 ?_
      refine ⟨_, rfl, ?_⟩
      rw [ti_str_int]
      refine ⟨fun b => (by cases b), fun _ => ws_nil ?_⟩
      refine ws_cons (w1_if ?_)
      refine wt_e ?_
      refine we_isi "str" m_isinstance m_str ?_
      refine we_n 1 ?_
      refine ⟨_, rfl, ?_⟩
      rw [ti_str_str]
      refine ⟨fun _ => ?_, fun b => (by cases b)⟩
      refine ws_cons (w1_ret ?_)
      refine we_and ?_
      refine we_isi "str" m_isinstance m_str ?_
      refine we_n 0 ?_
      rw [ti_str_str]
      refine ⟨_, rfl, fun _ => ?_, fun b => (by cases b)⟩
      refine we_one ?_
      refine we_cp (op_eqA hr) ?_
      refine we_n 0 ?_
      refine we_n 1 ?_
      exact ⟨_, cp_eqS, rfl, ret _ (decide_eq_true rfl) _⟩
    | list v =>
      first
        | (cases hok; done)
        | skip
          refine ws_cons (w1_if ?_)
          refine wt_cp op_isN ?_
          refine we_n 1 ?_
          refine we_none ?_
          refine ⟨_, cp_isN, fun b => (by cases b), fun _ => ws_nil ?_⟩
          refine ws_cons (w1_if ?_)
          refine wt_e ?_
          refine we_isi "bool" m_isinstance m_bool ?_
          refine we_n 1 ?_
          refine ⟨_, rfl, ?_⟩
          rw [ti_list_bool]
          refine ⟨fun b => (by cases b), fun _ => ws_nil ?_⟩
          refine ws_cons (w1_if ?_)
          refine wt_e ?_
          refine we_isi "int" m_isinstance m_int ?_
          refine we_n 1 ?_
          refine ⟨_, rfl, ?_⟩
          rw [ti_list_int]
          refine ⟨fun b => (by cases b), fun _ => ws_nil ?_⟩
          refine ws_cons (w1_if ?_)
          refine wt_e ?_
          refine we_isi "str" m_isinstance m_str ?_
          refine we_n 1 ?_
          refine ⟨_, rfl, ?_⟩
          rw [ti_list_str]
          refine ⟨fun b => (by cases b), fun _ => ws_nil ?_⟩
          refine ws_cons (w1_if ?_)
          refine wt_ww ?_
          refine ww_or ?_
          refine wt_cp (op_neA hr) ?_
          refine we_isi "list" m_isinstance m_list ?_
          refine we_n 1 ?_
          refine we_isi "list" m_isinstance m_list ?_
          refine we_n 0 ?_
          refine ⟨_, cp_neB, ?_⟩
          rw [ne_b]
          refine ⟨fun b => (by cases b), fun _ => ?_⟩
          refine ww_or1 ?_
          refine wt_cp (op_neA hr) ?_
          refine we_isi "tuple" m_isinstance m_tuple ?_
          refine we_n 1 ?_
          refine we_isi "tuple" m_isinstance m_tuple ?_
          refine we_n 0 ?_
          refine ⟨_, cp_neB, ?_⟩
          rw [ne_b]
          refine ⟨fun b => (by cases b), fun _ => ws_nil ?_⟩
          refine ws_cons (w1_if ?_)
          refine wt_ww ?_
          refine ww_or ?_
          refine wt_not ?_
          refine wt_e ?_
          refine we_isiLT m_isinstance m_list m_tuple ?_
          refine we_n 0 ?_
          refine ⟨_, rfl, ?_⟩
          rw [ti_list_list, ti_list_tuple]
          refine ⟨fun b => (by cases b), fun _ => ?_⟩
          refine ww_or1 ?_
          refine wt_cp (op_neA hr) ?_
          refine we_len m_len ?_
          refine we_n 0 ?_
          refine .lst ?_
          refine we_len m_len ?_
          refine we_n 1 ?_
          refine .lst ?_
          refine ⟨_, cp_neI, ?_⟩
          rw [decide_eq_true rfl]
          refine ⟨fun b => (by cases b), fun _ => ws_nil ?_⟩
          have hok1 := Bool.and_eq_true_iff.mp hok
          have hsz := of_decide_eq_true hok1.1
          refine ws_cons (w1_ret ?_)
          refine we_all m_all rfl ?_
          refine we_of_wn ?_
          refine wn_lcR1 m_range (own := [("_law_at", 2)]) rfl sc__law_alike.nd (blkOk_by (by rfl)) (fun _ _ _ _ _ => (pg_name (i := 2) sc__law_alike.nd rfl (by first | exact Or.inl rfl | exact Or.inr rfl))) (tgd_name 2) (by decide) rfl ?_
          refine we_len m_len ?_
          refine we_n 1 ?_
          refine .lst ?_
          refine ⟨_, fun i acc => acc = (List.replicate i true).map .bool, rfl, by omega, rfl, fun i hi => ⟨_, rfl, rfl, ?_⟩, fun acc ha => ?_⟩
          · intro acc ha g1 s1 H1 C1 cl1 fp1
            refine ⟨fun _ s1 H1 C1 cl1 fp1 => ?_, fun z => by cases z⟩
            have hi2 : i < v.length := by omega
            refine we_call ih hr ?_
            refine wa_d ?_
            refine we_ix ?_
            refine we_n 0 ?_
            refine we_n 2 ?_
            refine ix_lst (x := v[i]) (by omega) (by simp [hi2]) ?_
            refine ⟨rfl, ?_⟩
            refine wa_d ?_
            refine we_ix ?_
            refine we_n 1 ?_
            refine we_n 2 ?_
            refine ix_lst (x := v[i]) (by omega) (by simp [hi2]) ?_
            refine ⟨rfl, ?_⟩
            refine wa_nil ?_
            refine ⟨rfl, v[i], rfl, List.all_eq_true.mp hok1.2 _ (List.getElem_mem hi2), rfl, _, rfl, ?_⟩
            refine ⟨rfl, ?_⟩
            subst ha
            show _ = _
            rw [List.replicate_succ', List.map_append]
            rfl
          · subst ha
            refine ⟨List.replicate v.length true, by simp, ?_⟩
            exact ⟨rfl, ret _ (by simp) _⟩
    | tuple v =>
      first
        | (cases hok; done)
        | skip
          refine ws_cons (w1_if ?_)
          refine wt_cp op_isN ?_
          refine we_n 1 ?_
          refine we_none ?_
          refine ⟨_, cp_isN, fun b => (by cases b), fun _ => ws_nil ?_⟩
          refine ws_cons (w1_if ?_)
          refine wt_e ?_
          refine we_isi "bool" m_isinstance m_bool ?_
          refine we_n 1 ?_
          refine ⟨_, rfl, ?_⟩
          rw [ti_tuple_bool]
          refine ⟨fun b => (by cases b), fun _ => ws_nil ?_⟩
          refine ws_cons (w1_if ?_)
          refine wt_e ?_
          refine we_isi "int" m_isinstance m_int ?_
          refine we_n 1 ?_
          refine ⟨_, rfl, ?_⟩
          rw [ti_tuple_int]
          refine ⟨fun b => (by cases b), fun _ => ws_nil ?_⟩
          refine ws_cons (w1_if ?_)
          refine wt_e ?_
          refine we_isi "str" m_isinstance m_str ?_
          refine we_n 1 ?_
          refine ⟨_, rfl, ?_⟩
          rw [ti_tuple_str]
          refine ⟨fun b => (by cases b), fun _ => ws_nil ?_⟩
          refine ws_cons (w1_if ?_)
          refine wt_ww ?_
          refine ww_or ?_
          refine wt_cp (op_neA hr) ?_
          refine we_isi "list" m_isinstance m_list ?_
          refine we_n 1 ?_
          refine we_isi "list" m_isinstance m_list ?_
          refine we_n 0 ?_
          refine ⟨_, cp_neB, ?_⟩
          rw [ne_b]
          refine ⟨fun b => (by cases b), fun _ => ?_⟩
          refine ww_or1 ?_
          refine wt_cp (op_neA hr) ?_
          refine we_isi "tuple" m_isinstance m_tuple ?_
          refine we_n 1 ?_
          refine we_isi "tuple" m_isinstance m_tuple ?_
          refine we_n 0 ?_
          refine ⟨_, cp_neB, ?_⟩
          rw [ne_b]
          refine ⟨fun b => (by cases b), fun _ => ws_nil ?_⟩
          refine ws_cons (w1_if ?_)
          refine wt_ww ?_
          refine ww_or ?_
          refine wt_not ?_
          refine wt_e ?_
          refine we_isiLT m_isinstance m_list m_tuple ?_
          refine we_n 0 ?_
          refine ⟨_, rfl, ?_⟩
          rw [ti_tuple_list, ti_tuple_tuple]
          refine ⟨fun b => (by cases b), fun _ => ?_⟩
          refine ww_or1 ?_
          refine wt_cp (op_neA hr) ?_
          refine we_len m_len ?_
          refine we_n 0 ?_
          refine .tup ?_
          refine we_len m_len ?_
          refine we_n 1 ?_
          refine .tup ?_
          refine ⟨_, cp_neI, ?_⟩
          rw [decide_eq_true rfl]
          refine ⟨fun b => (by cases b), fun _ => ws_nil ?_⟩
          have hok1 := Bool.and_eq_true_iff.mp hok
          have hsz := of_decide_eq_true hok1.1
          refine ws_cons (w1_ret ?_)
          refine we_all m_all rfl ?_
          refine we_of_wn ?_
          refine wn_lcR1 m_range (own := [("_law_at", 2)]) rfl sc__law_alike.nd (blkOk_by (by rfl)) (fun _ _ _ _ _ => (pg_name (i := 2) sc__law_alike.nd rfl (by first | exact Or.inl rfl | exact Or.inr rfl))) (tgd_name 2) (by decide) rfl ?_
          refine we_len m_len ?_
          refine we_n 1 ?_
          refine .tup ?_
          refine ⟨_, fun i acc => acc = (List.replicate i true).map .bool, rfl, by omega, rfl, fun i hi => ⟨_, rfl, rfl, ?_⟩, fun acc ha => ?_⟩
          · intro acc ha g1 s1 H1 C1 cl1 fp1
            refine ⟨fun _ s1 H1 C1 cl1 fp1 => ?_, fun z => by cases z⟩
            have hi2 : i < v.length := by omega
            refine we_call ih hr ?_
            refine wa_d ?_
            refine we_ix ?_
            refine we_n 0 ?_
            refine we_n 2 ?_
            refine ix_tup (x := v[i]) (by omega) (by simp [hi2]) ?_
            refine ⟨rfl, ?_⟩
            refine wa_d ?_
            refine we_ix ?_
            refine we_n 1 ?_
            refine we_n 2 ?_
            refine ix_tup (x := v[i]) (by omega) (by simp [hi2]) ?_
            refine ⟨rfl, ?_⟩
            refine wa_nil ?_
            refine ⟨rfl, v[i], rfl, List.all_eq_true.mp hok1.2 _ (List.getElem_mem hi2), rfl, _, rfl, ?_⟩
            refine ⟨rfl, ?_⟩
            subst ha
            show _ = _
            rw [List.replicate_succ', List.map_append]
            rfl
          · subst ha
            refine ⟨List.replicate v.length true, by simp, ?_⟩
            exact ⟨rfl, ret _ (by simp) _⟩
theorem ok__law_alike (h : Has P w K mg base k "_law_alike" ["_law_found", "_law_due"] (o__law_alike 8)) : Has P w K mg base k "_law_alike" ["_law_found", "_law_due"] c__law_alike := h.imp fun args Φ Ψ ⟨x, y, Kf, Ef, e, hf, h1, h2⟩ => by
  subst e
  obtain ⟨rfl, hx, hk⟩ := hf
  exact ⟨x, rfl, hx, h1 _ hk⟩
theorem ok__law_going (F : FnP K "_law_going" s__law_going f fd) (hm : mg "_law_going" = some (.ref f)) (hb : Binds K fd ["_law_faces", "_law_start", "_law_end"] [])  :
    Has P w K mg base (k + 1) "_law_going" ["_law_faces", "_law_start", "_law_end"] c__law_going := by
  refine fn_has F hm sc__law_going hb rfl ?_
  rintro cdv A outer s H E g args Φ Ψ hr hp hM hl ⟨l_faces, l_start, l_end, Kf, Ef, rfl, h, hK, hE⟩
  unfold f__law_going at h
  refine ws_env (env' := [.d l_faces, .d l_start, .d l_end, .un, .un]) rfl ?_
  refine ws_cons (w1_setN 3 sc__law_going.nd ?_)
  refine wn_list ?_
  refine wa_nil ?_
  refine ⟨_, rfl, szOk rfl, ?_⟩
  intro a1 n_a1
  refine ws_env (env' := [.d l_faces, .d l_start, .d l_end, .ol a1 [], .un]) rfl ?_
  refine ws_cons (w1_set 4 sc__law_going.nd ?_)
  refine we_mod ?_
  refine we_add ?_
  refine we_n 1 ?_
  refine we_int ?_
  refine add_sh h fun r2 h => ?_
  refine we_n 0 ?_
  refine mod_sh h fun r3 h => ?_
  refine ⟨rfl, ?_⟩
  refine ws_env (env' := [.d l_faces, .d l_start, .d l_end, .ol a1 [], .d r3]) rfl ?_
  refine ws_cons (whileS h hp (fun (s : (List PyData) × PyData) (u : {a : Addr // a ∉ g.M}) => [.d l_faces, .d l_start, .d l_end, .ol u.1 s.1, .d s.2]) ⟨a1, n_a1⟩ rfl ?_ ?_)
  · rintro ⟨l_found4, l_here5⟩ ⟨a6, n_a6⟩ h
    refine ws_env (env' := [.d l_faces, .d l_start, .d l_end, .ol a6 l_found4, .d l_here5]) rfl ?_
    exact ws_cons (w1_retO 3 rfl n_a6 ⟨_, hK _ h, trivial, rfl, rfl, rfl, rfl⟩)
  · rintro hend ⟨l_found9, l_here10⟩ ⟨a11, n_a11⟩ N7 h
    refine wt_cp (op_neA hr) ?_
    refine we_n 4 ?_
    refine we_n 2 ?_
    refine ne_sh h fun b12 h => ?_
    refine ⟨fun e13 => ?_, fun e13 => hend (l_found9, l_here10) ⟨a11, n_a11⟩ (h.2 e13)⟩
    replace h := h.1 e13
    refine ws_env (env' := [.d l_faces, .d l_start, .d l_end, .ol a11 l_found9, .d l_here10]) rfl ?_
    refine ws_cons (w1_append 3 rfl ?_)
    refine we_n 4 ?_
    obtain ⟨hl14, h⟩ := h
    refine ⟨rfl, hl14, ?_⟩
    refine ws_env (env' := [.d l_faces, .d l_start, .d l_end, .ol a11 (l_found9 ++ ([l_here10] : List PyData)), .d l_here10]) rfl ?_
    refine ws_cons (w1_set 4 sc__law_going.nd ?_)
    refine we_mod ?_
    refine we_add ?_
    refine we_n 4 ?_
    refine we_int ?_
    refine add_sh h fun r15 h => ?_
    refine we_n 0 ?_
    refine mod_sh h fun r16 h => ?_
    refine ⟨rfl, ?_⟩
    refine ws_env (env' := [.d l_faces, .d l_start, .d l_end, .ol a11 (l_found9 ++ ([l_here10] : List PyData)), .d r16]) rfl ?_
    exact ws_nil ⟨((l_found9 ++ ([l_here10] : List PyData)), r16), ⟨a11, n_a11⟩, h, rfl⟩
theorem ok__law_third (F : FnP K "_law_third" s__law_third f fd) (hm : mg "_law_third" = some (.ref f)) (hb : Binds K fd ["_law_plan_here", "_law_held", "_law_spot_here", "_law_way"] []) (h__law_going : Has P w K mg base k "_law_going" ["_law_faces", "_law_start", "_law_end"] c__law_going) :
    Has P w K mg base (k + 1) "_law_third" ["_law_plan_here", "_law_held", "_law_spot_here", "_law_way"] c__law_third := by
  refine fn_has F hm sc__law_third hb rfl ?_
  rintro cdv A outer s H E g args Φ Ψ hr hp hM hl ⟨l_plan_here, l_held, l_spot_here, l_way, Kf, Ef, rfl, h, hK, hE⟩
  unfold f__law_third at h
  refine ws_env (env' := [.d l_plan_here, .d l_held, .d l_spot_here, .d l_way, .un, .un, .un]) rfl ?_
  refine ws_cons (w1_unpack (pg_tup rfl (pgs_cons (pg_name (i := 4) sc__law_third.nd rfl (by first | exact Or.inl rfl | exact Or.inr rfl)) (pgs_cons (pg_name (i := 5) sc__law_third.nd rfl (by first | exact Or.inl rfl | exact Or.inr rfl)) pgs_nil))) (tgd_tup (tgds_cons (tgd_name 4) (tgds_cons (tgd_name 5) tgds_nil)) rfl) ?_)
  refine we_n 2 ?_
  obtain ⟨l_top1, l_under2, he3, h⟩ := un2_sh h
  refine ⟨rfl, [(4, l_top1), (5, l_under2)], (by rw [he3]; rfl), rfl, ?_⟩
  refine ws_env (env' := [.d l_plan_here, .d l_held, .d l_spot_here, .d l_way, .d l_top1, .d l_under2, .un]) rfl ?_
  refine ws_joinS h (fun (s : PyData × PyData) (u : Unit) => [.d l_plan_here, .d l_held, .d l_spot_here, .d l_way, .d s.1, .d s.2, .un]) (fun Q h => ?_) ?_
  · refine w1_if ?_
    refine wt_cp (op_eqA hr) ?_
    refine we_n 3 ?_
    refine we_str ?_
    refine eq_sh h fun b4 h => ?_
    obtain ⟨h5, h6⟩ := h
    refine ⟨fun e7 => ?_, fun e7 => ?_⟩
    · replace h := h5 e7
      refine ws_cons (w1_par2 4 5 rfl sc__law_third.nd rfl rfl (by decide) ?_)
      refine wa_d ?_
      refine we_n 5 ?_
      refine ⟨rfl, ?_⟩
      refine wa_d ?_
      refine we_n 4 ?_
      refine ⟨rfl, ?_⟩
      refine wa_nil ?_
      obtain ⟨l_top8, l_under9, he10, h⟩ := un2_sh h
      refine ⟨l_top8, l_under9, congrArg some (PyData.tuple.inj he10), ?_⟩
      refine ws_env (env' := [.d l_plan_here, .d l_held, .d l_spot_here, .d l_way, .d l_top8, .d l_under9, .un]) rfl ?_
      exact ws_nil ⟨(l_top8, l_under9), (), h, rfl⟩
    · replace h := h6 e7
      exact ws_nil ⟨(l_top1, l_under2), (), h, rfl⟩
  · rintro ⟨l_top11, l_under12⟩ _ h
    refine ws_env (env' := [.d l_plan_here, .d l_held, .d l_spot_here, .d l_way, .d l_top11, .d l_under12, .un]) rfl ?_
    refine ws_cons (w1_for hp rfl (pg_name (i := 6) sc__law_third.nd rfl (by first | exact Or.inl rfl | exact Or.inr rfl)) (tgd_name 6) ?_)
    refine wi_d ?_
    refine we_call h__law_going hr ?_
    refine wa_d ?_
    refine we_ix ?_
    refine we_n 0 ?_
    refine we_int ?_
    refine ix_sh h fun r14 h => ?_
    refine ⟨rfl, ?_⟩
    refine wa_d ?_
    refine we_n 4 ?_
    refine ⟨rfl, ?_⟩
    refine wa_d ?_
    refine we_n 5 ?_
    refine ⟨rfl, ?_⟩
    refine wa_nil ?_
    refine ⟨rfl, _, _, _, _, _, rfl, h, fun r15 h => ⟨rfl, _, rfl, ?_⟩, fun c hc => ⟨rfl, ⟨_, hE _ hc, rfl, rfl, rfl, rfl, rfl⟩⟩⟩
    refine ⟨rfl, it_sh h fun xs13 h => ?_⟩
    refine forS h (fun (s : Unit) (u : Sl) => [.d l_plan_here, .d l_held, .d l_spot_here, .d l_way, .d l_top11, .d l_under12, u]) (.un) rfl ?_ ?_
    · rintro _ w16 h
      refine ws_env (env' := [.d l_plan_here, .d l_held, .d l_spot_here, .d l_way, .d l_top11, .d l_under12, w16]) rfl ?_
      refine ws_cons (w1_ret ?_)
      refine we_none ?_
      exact ⟨rfl, _, hK _ h, trivial, rfl, rfl, rfl, rfl, rfl⟩
    · rintro hend l_corner17 _ w20 N18 h
      refine ⟨[(6, l_corner17)], rfl, rfl, ?_⟩
      refine ws_env (env' := [.d l_plan_here, .d l_held, .d l_spot_here, .d l_way, .d l_top11, .d l_under12, .d l_corner17]) rfl ?_
      refine ws_cons (w1_if ?_)
      refine wt_ww ?_
      refine ww_andS h (fun Q h => ?_) (fun Q h => ?_) fun b21 h => ?_
      · refine wt_inD hr ?_
        refine we_tuple ?_
        refine wa_d ?_
        refine we_n 6 ?_
        refine ⟨rfl, ?_⟩
        refine wa_d ?_
        refine we_n 4 ?_
        refine ⟨rfl, ?_⟩
        refine wa_nil ?_
        refine ⟨_, rfl, szOk rfl, ?_⟩
        refine ⟨rfl, ?_⟩
        refine we_n 1 ?_
        refine ⟨rfl, inD_s h fun b22 h => ?_⟩
        exact h
      · refine ww_and1 ?_
        refine wt_inD hr ?_
        refine we_tuple ?_
        refine wa_d ?_
        refine we_n 6 ?_
        refine ⟨rfl, ?_⟩
        refine wa_d ?_
        refine we_n 5 ?_
        refine ⟨rfl, ?_⟩
        refine wa_nil ?_
        refine ⟨_, rfl, szOk rfl, ?_⟩
        refine ⟨rfl, ?_⟩
        refine we_n 1 ?_
        refine ⟨rfl, inD_s h fun b23 h => ?_⟩
        exact h
      obtain ⟨h24, h25⟩ := h
      refine ⟨fun e26 => ?_, fun e26 => ?_⟩
      · replace h := h24 e26
        refine ws_cons (w1_ret ?_)
        refine we_n 6 ?_
        exact ⟨rfl, _, hK _ h, trivial, rfl, rfl, rfl, rfl, rfl⟩
      · replace h := h25 e26
        refine ws_nil ?_
        exact ws_nil ⟨(), (.d l_corner17), h, rfl⟩
theorem ok__law_moved (F : FnP K "_law_moved" s__law_moved f fd) (hm : mg "_law_moved" = some (.ref f)) (hb : Binds K fd ["_law_plan_here", "_law_held", "_law_spot_here", "_law_word", "_law_way"] []) (h__law_third : Has P w K mg base k "_law_third" ["_law_plan_here", "_law_held", "_law_spot_here", "_law_way"] c__law_third) :
    Has P w K mg base (k + 1) "_law_moved" ["_law_plan_here", "_law_held", "_law_spot_here", "_law_word", "_law_way"] c__law_moved := by
  refine fn_has F hm sc__law_moved hb rfl ?_
  rintro cdv A outer s H E g args Φ Ψ hr hp hM hl ⟨l_plan_here, l_held, l_spot_here, l_word, l_way, Kf, Ef, rfl, h, hK, hE⟩
  unfold f__law_moved at h
  refine ws_env (env' := [.d l_plan_here, .d l_held, .d l_spot_here, .d l_word, .d l_way, .un]) rfl ?_
  refine ws_cons (w1_set 5 sc__law_moved.nd ?_)
  refine we_call h__law_third hr ?_
  refine wa_d ?_
  refine we_n 0 ?_
  refine ⟨rfl, ?_⟩
  refine wa_d ?_
  refine we_n 1 ?_
  refine ⟨rfl, ?_⟩
  refine wa_d ?_
  refine we_n 2 ?_
  refine ⟨rfl, ?_⟩
  refine wa_d ?_
  refine we_n 4 ?_
  refine ⟨rfl, ?_⟩
  refine wa_nil ?_
  refine ⟨rfl, _, _, _, _, _, _, rfl, h, fun r1 h => ⟨rfl, _, rfl, ?_⟩, fun c hc => ⟨rfl, ⟨_, hE _ hc, rfl, rfl, rfl, rfl, rfl, rfl⟩⟩⟩
  refine ⟨rfl, ?_⟩
  refine ws_env (env' := [.d l_plan_here, .d l_held, .d l_spot_here, .d l_word, .d l_way, .d r1]) rfl ?_
  refine ws_cons (w1_if ?_)
  refine wt_cp op_isN ?_
  refine we_n 5 ?_
  refine we_none ?_
  refine isN_sh ?_
  obtain ⟨h2, h3⟩ := h
  refine ⟨fun e4 => ?_, fun e4 => ?_⟩
  · replace h := h2 e4
    refine ws_cons (w1_ret ?_)
    refine we_none ?_
    exact ⟨rfl, _, hK _ h, trivial, rfl, rfl, rfl, rfl, rfl, rfl⟩
  · replace h := h3 e4
    refine ws_nil ?_
    refine ws_cons (w1_if ?_)
    refine wt_cp (op_eqA hr) ?_
    refine we_n 3 ?_
    refine we_str ?_
    refine eq_sh h fun b5 h => ?_
    obtain ⟨h6, h7⟩ := h
    refine ⟨fun e8 => ?_, fun e8 => ?_⟩
    · replace h := h6 e8
      refine ws_cons (w1_ret ?_)
      refine we_tuple ?_
      refine wa_d ?_
      refine we_n 5 ?_
      refine ⟨rfl, ?_⟩
      refine wa_d ?_
      refine we_ix ?_
      refine we_n 2 ?_
      refine we_int ?_
      refine ix_sh h fun r9 h => ?_
      refine ⟨rfl, ?_⟩
      refine wa_nil ?_
      refine ⟨_, rfl, szOk rfl, ?_⟩
      exact ⟨rfl, _, hK _ h, trivial, rfl, rfl, rfl, rfl, rfl, rfl⟩
    · replace h := h7 e8
      refine ws_nil ?_
      refine ws_cons (w1_ret ?_)
      refine we_tuple ?_
      refine wa_d ?_
      refine we_ix ?_
      refine we_n 2 ?_
      refine we_int ?_
      refine ix_sh h fun r10 h => ?_
      refine ⟨rfl, ?_⟩
      refine wa_d ?_
      refine we_n 5 ?_
      refine ⟨rfl, ?_⟩
      refine wa_nil ?_
      refine ⟨_, rfl, szOk rfl, ?_⟩
      exact ⟨rfl, _, hK _ h, trivial, rfl, rfl, rfl, rfl, rfl, rfl⟩
theorem ok_is_cut (F : FnP K "is_cut" s_is_cut f fd) (hm : mg "is_cut" = some (.ref f)) (hb : Binds K fd ["faces", "cut"] [])  :
    Has P w K mg base (k + 1) "is_cut" ["faces", "cut"] c_is_cut := by
  refine fn_has F hm sc_is_cut hb rfl ?_
  rintro cdv A outer s H E g args Φ Ψ hr hp hM hl ⟨faces, cut, Kf, Ef, rfl, h, hK, hE⟩
  unfold f_is_cut at h
  refine ws_env (env' := [.d faces, .d cut, .un, .un]) rfl ?_
  refine ws_cons (w1_unpack (pg_tup rfl (pgs_cons (pg_name (i := 2) sc_is_cut.nd rfl (by first | exact Or.inl rfl | exact Or.inr rfl)) (pgs_cons (pg_name (i := 3) sc_is_cut.nd rfl (by first | exact Or.inl rfl | exact Or.inr rfl)) pgs_nil))) (tgd_tup (tgds_cons (tgd_name 2) (tgds_cons (tgd_name 3) tgds_nil)) rfl) ?_)
  refine we_n 1 ?_
  obtain ⟨low1, high2, he3, h⟩ := un2_sh h
  refine ⟨rfl, [(2, low1), (3, high2)], (by rw [he3]; rfl), rfl, ?_⟩
  refine ws_env (env' := [.d faces, .d cut, .d low1, .d high2]) rfl ?_
  refine ws_cons (w1_ret ?_)
  refine we_andS h (fun Q h => ?_) (fun Q h => ?_) fun b4 h => ?_
  · refine we_cp (op_leA hr) ?_
    refine we_int ?_
    refine we_n 2 ?_
    refine le_sh h fun b5 h => ?_
    refine ⟨_, rfl, ?_⟩
    exact h
  · refine we_andS h (fun Q h => ?_) (fun Q h => ?_) fun b6 h => ?_
    · refine we_ch (op_ltA hr) (op_ltA hr) ?_
      refine we_add ?_
      refine we_n 2 ?_
      refine we_int ?_
      refine add_sh h fun r7 h => ?_
      refine we_n 3 ?_
      refine ch_sh2 h (fun Q h => lt_sh h fun _ h => h) (fun Q h => ?_) fun b8 h => ?_
      · refine we_n 0 ?_
        exact lt_sh h fun _ h => h
      refine ⟨_, rfl, ?_⟩
      exact h
    · refine we_one ?_
      refine we_cp (op_neA hr) ?_
      refine we_tuple ?_
      refine wa_d ?_
      refine we_n 2 ?_
      refine ⟨rfl, ?_⟩
      refine wa_d ?_
      refine we_n 3 ?_
      refine ⟨rfl, ?_⟩
      refine wa_nil ?_
      refine ⟨_, rfl, szOk rfl, ?_⟩
      refine we_tuple ?_
      refine wa_d ?_
      refine we_int ?_
      refine ⟨rfl, ?_⟩
      refine wa_d ?_
      refine we_sub ?_
      refine we_n 0 ?_
      refine we_int ?_
      refine sub_sh h fun r10 h => ?_
      refine ⟨rfl, ?_⟩
      refine wa_nil ?_
      refine ⟨_, rfl, szOk rfl, ?_⟩
      refine ne_sh h fun b11 h => ?_
      refine ⟨_, rfl, ?_⟩
      exact h
    exact ⟨_, rfl, h⟩
  exact ⟨rfl, _, hK _ h, trivial, rfl, rfl, rfl⟩
theorem ok_crossing (F : FnP K "crossing" s_crossing f fd) (hm : mg "crossing" = some (.ref f)) (hb : Binds K fd ["one", "other"] []) (m_len : mg "len" = none) :
    Has P w K mg base (k + 1) "crossing" ["one", "other"] c_crossing := by
  refine fn_has F hm sc_crossing hb rfl ?_
  rintro cdv A outer s H E g args Φ Ψ hr hp hM hl ⟨one, other, Kf, Ef, rfl, h, hK, hE⟩
  unfold f_crossing at h
  refine ws_env (env' := [.d one, .d other, .un, .un, .un, .un]) rfl ?_
  refine ws_cons (w1_unpack (pg_tup rfl (pgs_cons (pg_name (i := 2) sc_crossing.nd rfl (by first | exact Or.inl rfl | exact Or.inr rfl)) (pgs_cons (pg_name (i := 3) sc_crossing.nd rfl (by first | exact Or.inl rfl | exact Or.inr rfl)) pgs_nil))) (tgd_tup (tgds_cons (tgd_name 2) (tgds_cons (tgd_name 3) tgds_nil)) rfl) ?_)
  refine we_n 0 ?_
  obtain ⟨low1, high2, he3, h⟩ := un2_sh h
  refine ⟨rfl, [(2, low1), (3, high2)], (by rw [he3]; rfl), rfl, ?_⟩
  refine ws_env (env' := [.d one, .d other, .d low1, .d high2, .un, .un]) rfl ?_
  refine ws_cons (w1_setLc 4 (own := [("corner", 5)]) rfl sc_crossing.nd piS (blkOk_by (by rfl)) (fun _ _ _ _ _ => (pg_name (i := 5) sc_crossing.nd rfl (by first | exact Or.inl rfl | exact Or.inr rfl))) (by decide) (nt_lc (tgd_name 5) rfl ?_))
  refine wi_d ?_
  refine we_n 1 ?_
  refine ⟨rfl, it_sh h fun xs4 h => ?_⟩
  refine lcS h (fun corner5 kp sk h => ?_) fun l6 h => ?_
  · refine ⟨[(5, corner5)], rfl, rfl, fun g' s1 H1 C1 cl1 fp1 => ?_⟩
    show WT _ _ _ _ _ _
    refine wt_ww ?_
    refine ww_andS h (fun Q h => ?_) (fun Q h => ?_) fun b7 h => ?_
    · refine wt_cp (op_neA hr) ?_
      refine we_n 5 ?_
      refine we_n 2 ?_
      refine ne_sh h fun b8 h => ?_
      exact h
    · refine ww_and1 ?_
      refine wt_cp (op_neA hr) ?_
      refine we_n 5 ?_
      refine we_n 3 ?_
      refine ne_sh h fun b9 h => ?_
      exact h
    refine ⟨fun e s1 H1 C1 cl1 fp1 => ?_, h.2⟩
    replace h := h.1 e
    refine we_ch (op_ltA hr) (op_ltA hr) ?_
    refine we_n 2 ?_
    refine we_n 5 ?_
    refine ch_sh2 h (fun Q h => lt_sh h fun _ h => h) (fun Q h => ?_) fun b10 h => ?_
    · refine we_n 3 ?_
      exact lt_sh h fun _ h => h
    exact ⟨rfl, h⟩
  refine ws_env (env' := [.d one, .d other, .d low1, .d high2, .d (.list l6), .un]) rfl ?_
  refine ws_cons (w1_ret ?_)
  refine we_andS h (fun Q h => ?_) (fun Q h => ?_) fun b12 h => ?_
  · refine we_cp (op_eqA hr) ?_
    refine we_len m_len ?_
    refine we_n 4 ?_
    refine len_sh h fun r13 h => ?_
    refine we_int ?_
    refine eq_sh h fun b14 h => ?_
    refine ⟨_, rfl, ?_⟩
    exact h
  · refine we_one ?_
    refine we_cp (op_neA hr) ?_
    refine we_ix ?_
    refine we_n 4 ?_
    refine we_int ?_
    refine ix_sh h fun r15 h => ?_
    refine we_ix ?_
    refine we_n 4 ?_
    refine we_int ?_
    refine ix_sh h fun r16 h => ?_
    refine ne_sh h fun b17 h => ?_
    refine ⟨_, rfl, ?_⟩
    exact h
  exact ⟨rfl, _, hK _ h, trivial, rfl, rfl, rfl⟩
theorem ok_is_plan (F : FnP K "is_plan" s_is_plan f fd) (hm : mg "is_plan" = some (.ref f)) (hb : Binds K fd ["plan"] []) (g_LEAST : ∃ t, mg "LEAST" = some (.int 3 t)) (g_MOST : ∃ t, mg "MOST" = some (.int 40 t)) (m_len : mg "len" = none) (m_all : mg "all" = none) (h_is_cut : Has P w K mg base k "is_cut" ["faces", "cut"] c_is_cut) (m_range : mg "range" = none) (m_enumerate : mg "enumerate" = none) (m_any : mg "any" = none) (h_crossing : Has P w K mg base k "crossing" ["one", "other"] c_crossing) :
    Has P w K mg base (k + 1) "is_plan" ["plan"] c_is_plan := by
  refine fn_has F hm sc_is_plan hb rfl ?_
  rintro cdv A outer s H E g args Φ Ψ hr hp hM hl ⟨plan, Kf, Ef, rfl, h, hK, hE⟩
  unfold f_is_plan at h
  refine ws_env (env' := [.d plan, .un, .un, .un, .un, .un]) rfl ?_
  refine ws_cons (w1_unpack (pg_tup rfl (pgs_cons (pg_name (i := 1) sc_is_plan.nd rfl (by first | exact Or.inl rfl | exact Or.inr rfl)) (pgs_cons (pg_name (i := 2) sc_is_plan.nd rfl (by first | exact Or.inl rfl | exact Or.inr rfl)) pgs_nil))) (tgd_tup (tgds_cons (tgd_name 1) (tgds_cons (tgd_name 2) tgds_nil)) rfl) ?_)
  refine we_n 0 ?_
  obtain ⟨faces1, cuts2, he3, h⟩ := un2_sh h
  refine ⟨rfl, [(1, faces1), (2, cuts2)], (by rw [he3]; rfl), rfl, ?_⟩
  refine ws_env (env' := [.d plan, .d faces1, .d cuts2, .un, .un, .un]) rfl ?_
  refine ws_cons (w1_if ?_)
  refine wt_ww ?_
  refine ww_orS h (fun Q h => ?_) (fun Q h => ?_) fun b4 h => ?_
  · refine wt_not ?_
    refine wt_ch (op_leA hr) (op_leA hr) ?_
    refine we_gint g_LEAST ?_
    refine we_n 1 ?_
    refine ch_sh2 h (fun Q h => le_sh h fun _ h => h) (fun Q h => ?_) fun b5 h => ?_
    · refine we_gint g_MOST ?_
      exact le_sh h fun _ h => h
    exact h
  · refine ww_or1 ?_
    refine wt_cp (op_neA hr) ?_
    refine we_len m_len ?_
    refine we_n 2 ?_
    refine len_sh h fun r7 h => ?_
    refine we_sub ?_
    refine we_n 1 ?_
    refine we_int ?_
    refine sub_sh h fun r8 h => ?_
    refine ne_sh h fun b9 h => ?_
    exact h
  obtain ⟨h10, h11⟩ := h
  refine ⟨fun e12 => ?_, fun e12 => ?_⟩
  · replace h := h10 e12
    refine ws_cons (w1_ret ?_)
    refine we_bool ?_
    exact ⟨rfl, _, hK _ h, trivial, rfl, rfl⟩
  · replace h := h11 e12
    refine ws_nil ?_
    refine ws_cons (w1_if ?_)
    refine wt_not ?_
    refine wt_e ?_
    refine we_allA m_all rfl ?_
    refine we_of_wn ?_
    refine wn_lc (own := [("cut", 3)]) rfl sc_is_plan.nd (blkOk_by (by rfl)) (fun _ _ _ _ _ => (pg_name (i := 3) sc_is_plan.nd rfl (by first | exact Or.inl rfl | exact Or.inr rfl))) (tgd_name 3) (by decide) rfl ?_
    refine wi_d ?_
    refine we_n 2 ?_
    refine ⟨rfl, it_sh h fun xs13 h => ?_⟩
    refine lcS h (fun cut14 kp sk h => ?_) fun l15 h => ?_
    · refine ⟨[(3, cut14)], rfl, rfl, fun g' s1 H1 C1 cl1 fp1 => ?_⟩
      refine ⟨fun _ s1 H1 C1 cl1 fp1 => ?_, fun z => by cases z⟩
      refine we_call h_is_cut hr ?_
      refine wa_d ?_
      refine we_n 1 ?_
      refine ⟨rfl, ?_⟩
      refine wa_d ?_
      refine we_n 3 ?_
      refine ⟨rfl, ?_⟩
      refine wa_nil ?_
      refine ⟨rfl, _, _, _, _, rfl, h, fun r16 h => ⟨rfl, _, rfl, ?_⟩, fun c hc => ⟨rfl, hc.elim⟩⟩
      exact ⟨rfl, h⟩
    refine all_m h fun r17 h => ?_
    refine bool_sh h fun b18 h => ?_
    obtain ⟨h19, h20⟩ := h
    refine ⟨fun e21 => ?_, fun e21 => ?_⟩
    · replace h := h19 e21
      refine ws_cons (w1_ret ?_)
      refine we_bool ?_
      exact ⟨rfl, _, hK _ h, trivial, rfl, rfl⟩
    · replace h := h20 e21
      refine ws_nil ?_
      refine ws_cons (w1_for hp rfl (pg_name (i := 4) sc_is_plan.nd rfl (by first | exact Or.inl rfl | exact Or.inr rfl)) (tgd_name 4) ?_)
      refine wi_r2 m_range ?_
      refine we_int ?_
      refine we_len m_len ?_
      refine we_n 2 ?_
      refine len_sh h fun r23 h => ?_
      refine rng_sh h fun xs22 h => ?_
      refine forS h (fun (s : Unit) (u : Sl) => [.d plan, .d faces1, .d cuts2, .un, u, .un]) (.un) rfl ?_ ?_
      · rintro _ w24 h
        refine ws_env (env' := [.d plan, .d faces1, .d cuts2, .un, w24, .un]) rfl ?_
        refine ws_cons (w1_for hp rfl (pg_tup rfl (pgs_cons (pg_name (i := 4) sc_is_plan.nd rfl (by first | exact Or.inl rfl | exact Or.inr rfl)) (pgs_cons (pg_name (i := 3) sc_is_plan.nd rfl (by first | exact Or.inl rfl | exact Or.inr rfl)) pgs_nil))) (tgd_tup (tgds_cons (tgd_name 4) (tgds_cons (tgd_name 3) tgds_nil)) rfl) ?_)
        refine wi_en m_enumerate ?_
        refine we_n 2 ?_
        refine ⟨rfl, enu_sh h fun xs25 h => ?_⟩
        refine forS h (fun (s : Unit) (u : Sl × Sl) => [.d plan, .d faces1, .d cuts2, u.2, u.1, .un]) ((w24), (.un)) rfl ?_ ?_
        · rintro _ ⟨w26, w27⟩ h
          refine ws_env (env' := [.d plan, .d faces1, .d cuts2, w27, w26, .un]) rfl ?_
          refine ws_cons (w1_ret ?_)
          refine we_bool ?_
          exact ⟨rfl, _, hK _ h, trivial, rfl, rfl⟩
        · rintro hend p28 _ ⟨w31, w32⟩ N29 h
          obtain ⟨at_33, cut34, he35, h⟩ := un2_sh h
          refine ⟨[(4, at_33), (3, cut34)], (by rw [he35]; rfl), rfl, ?_⟩
          refine ws_env (env' := [.d plan, .d faces1, .d cuts2, .d cut34, .d at_33, .un]) rfl ?_
          refine ws_cons (w1_if ?_)
          refine wt_e ?_
          refine we_anyA m_any rfl ?_
          refine we_of_wn ?_
          refine wn_lc (own := [("other", 5)]) rfl sc_is_plan.nd (blkOk_by (by rfl)) (fun _ _ _ _ _ => (pg_name (i := 5) sc_is_plan.nd rfl (by first | exact Or.inl rfl | exact Or.inr rfl))) (tgd_name 5) (by decide) rfl ?_
          refine wi_d ?_
          refine we_slA ?_
          refine we_n 2 ?_
          refine ⟨rfl, ?_⟩
          refine wp_none ?_
          refine wp_e ?_
          refine we_n 4 ?_
          refine into_sh h fun i37 h => ?_
          refine sl_sh h fun r38 h => ?_
          refine ⟨rfl, it_sh h fun xs36 h => ?_⟩
          refine lcS h (fun other39 kp sk h => ?_) fun l40 h => ?_
          · refine ⟨[(5, other39)], rfl, rfl, fun g' s1 H1 C1 cl1 fp1 => ?_⟩
            refine ⟨fun _ s1 H1 C1 cl1 fp1 => ?_, fun z => by cases z⟩
            refine we_call h_crossing hr ?_
            refine wa_d ?_
            refine we_n 3 ?_
            refine ⟨rfl, ?_⟩
            refine wa_d ?_
            refine we_n 5 ?_
            refine ⟨rfl, ?_⟩
            refine wa_nil ?_
            refine ⟨rfl, _, _, _, _, rfl, h, fun r41 h => ⟨rfl, _, rfl, ?_⟩, fun c hc => ⟨rfl, hc.elim⟩⟩
            exact ⟨rfl, h⟩
          refine any_m h fun r42 h => ?_
          refine bool_sh h fun b43 h => ?_
          obtain ⟨h44, h45⟩ := h
          refine ⟨fun e46 => ?_, fun e46 => ?_⟩
          · replace h := h44 e46
            refine ws_cons (w1_ret ?_)
            refine we_bool ?_
            exact ⟨rfl, _, hK _ h, trivial, rfl, rfl⟩
          · replace h := h45 e46
            refine ws_nil ?_
            exact ws_nil ⟨(), ((.d at_33), (.d cut34)), h, rfl⟩
      · rintro hend at_47 _ w50 N48 h
        refine ⟨[(4, at_47)], rfl, rfl, ?_⟩
        refine ws_env (env' := [.d plan, .d faces1, .d cuts2, .un, .d at_47, .un]) rfl ?_
        refine ws_cons (w1_if ?_)
        refine wt_not ?_
        refine wt_cp (op_ltA hr) ?_
        refine we_ix ?_
        refine we_n 2 ?_
        refine we_sub ?_
        refine we_n 4 ?_
        refine we_int ?_
        refine sub_sh h fun r51 h => ?_
        refine ix_sh h fun r52 h => ?_
        refine we_ix ?_
        refine we_n 2 ?_
        refine we_n 4 ?_
        refine ix_sh h fun r53 h => ?_
        refine lt_sh h fun b54 h => ?_
        obtain ⟨h55, h56⟩ := h
        refine ⟨fun e57 => ?_, fun e57 => ?_⟩
        · replace h := h55 e57
          refine ws_cons (w1_ret ?_)
          refine we_bool ?_
          exact ⟨rfl, _, hK _ h, trivial, rfl, rfl⟩
        · replace h := h56 e57
          refine ws_nil ?_
          exact ws_nil ⟨(), (.d at_47), h, rfl⟩
theorem ok_need_plan (F : FnP K "need_plan" s_need_plan f fd) (hm : mg "need_plan" = some (.ref f)) (hb : Binds K fd ["plan"] []) (h_is_plan : Has P w K mg base k "is_plan" ["plan"] c_is_plan) (x_BadPlan : ExK K mg "BadPlan") :
    Has P w K mg base (k + 1) "need_plan" ["plan"] c_need_plan := by
  refine fn_has F hm sc_need_plan hb rfl ?_
  rintro cdv A outer s H E g args Φ Ψ hr hp hM hl ⟨plan, Kf, Ef, rfl, h, hK, hE⟩
  unfold f_need_plan at h
  refine ws_env (env' := [.d plan]) rfl ?_
  refine ws_cons (w1_if ?_)
  refine wt_not ?_
  refine wt_e ?_
  refine we_call h_is_plan hr ?_
  refine wa_d ?_
  refine we_n 0 ?_
  refine ⟨rfl, ?_⟩
  refine wa_nil ?_
  refine ⟨rfl, _, _, _, rfl, h, fun r1 h => ⟨rfl, _, rfl, ?_⟩, fun c hc => ⟨rfl, ⟨_, hE _ hc, rfl, rfl⟩⟩⟩
  refine bool_sh h fun b2 h => ?_
  obtain ⟨h3, h4⟩ := h
  refine ⟨fun e5 => ?_, fun e5 => ?_⟩
  · replace h := h3 e5
    exact ws_cons (w1_raise rfl x_BadPlan ⟨_, hE _ h, rfl, rfl⟩)
  · replace h := h4 e5
    refine ws_nil ?_
    exact ws_nil ⟨_, hK _ h, rfl, rfl⟩
theorem ok_pair_of (F : FnP K "pair_of" s_pair_of f fd) (hm : mg "pair_of" = some (.ref f)) (hb : Binds K fd ["one", "other"] []) (m_min : mg "min" = none) (m_max : mg "max" = none) :
    Has P w K mg base (k + 1) "pair_of" ["one", "other"] c_pair_of := by
  refine fn_has F hm sc_pair_of hb rfl ?_
  rintro cdv A outer s H E g args Φ Ψ hr hp hM hl ⟨one, other, Kf, Ef, rfl, h, hK, hE⟩
  unfold f_pair_of at h
  refine ws_env (env' := [.d one, .d other]) rfl ?_
  refine ws_cons (w1_ret ?_)
  refine we_tuple ?_
  refine wa_d ?_
  refine we_min2A m_min rfl ?_
  refine we_n 0 ?_
  refine we_n 1 ?_
  refine min2_m h fun r1 h => ?_
  refine ⟨rfl, ?_⟩
  refine wa_d ?_
  refine we_max2A m_max rfl ?_
  refine we_n 0 ?_
  refine we_n 1 ?_
  refine max2_m h fun r2 h => ?_
  refine ⟨rfl, ?_⟩
  refine wa_nil ?_
  refine ⟨_, rfl, szOk rfl, ?_⟩
  exact ⟨rfl, _, hK _ h, trivial, rfl, rfl, rfl⟩
theorem ok_follows (F : FnP K "follows" s_follows f fd) (hm : mg "follows" = some (.ref f)) (hb : Binds K fd ["faces", "face"] [])  :
    Has P w K mg base (k + 1) "follows" ["faces", "face"] c_follows := by
  refine fn_has F hm sc_follows hb rfl ?_
  rintro cdv A outer s H E g args Φ Ψ hr hp hM hl ⟨faces, face, Kf, Ef, rfl, h, hK, hE⟩
  unfold f_follows at h
  refine ws_env (env' := [.d faces, .d face]) rfl ?_
  refine ws_cons (w1_ret ?_)
  refine we_mod ?_
  refine we_add ?_
  refine we_n 1 ?_
  refine we_int ?_
  refine add_sh h fun r1 h => ?_
  refine we_n 0 ?_
  refine mod_sh h fun r2 h => ?_
  exact ⟨rfl, _, hK _ h, trivial, rfl, rfl, rfl⟩
theorem ok_all_lines (F : FnP K "all_lines" s_all_lines f fd) (hm : mg "all_lines" = some (.ref f)) (hb : Binds K fd ["plan"] []) (m_sorted : mg "sorted" = none) (m_range : mg "range" = none) (h_pair_of : Has P w K mg base k "pair_of" ["one", "other"] c_pair_of) (h_follows : Has P w K mg base k "follows" ["faces", "face"] c_follows) (m_list : mg "list" = none) :
    Has P w K mg base (k + 1) "all_lines" ["plan"] c_all_lines := by
  refine fn_has F hm sc_all_lines hb rfl ?_
  rintro cdv A outer s H E g args Φ Ψ hr hp hM hl ⟨plan, Kf, Ef, rfl, h, hK, hE⟩
  unfold f_all_lines at h
  refine ws_env (env' := [.d plan, .un, .un, .un]) rfl ?_
  refine ws_cons (w1_unpack (pg_tup rfl (pgs_cons (pg_name (i := 1) sc_all_lines.nd rfl (by first | exact Or.inl rfl | exact Or.inr rfl)) (pgs_cons (pg_name (i := 2) sc_all_lines.nd rfl (by first | exact Or.inl rfl | exact Or.inr rfl)) pgs_nil))) (tgd_tup (tgds_cons (tgd_name 1) (tgds_cons (tgd_name 2) tgds_nil)) rfl) ?_)
  refine we_n 0 ?_
  obtain ⟨faces1, cuts2, he3, h⟩ := un2_sh h
  refine ⟨rfl, [(1, faces1), (2, cuts2)], (by rw [he3]; rfl), rfl, ?_⟩
  refine ws_env (env' := [.d plan, .d faces1, .d cuts2, .un]) rfl ?_
  refine ws_cons (w1_retN ?_)
  refine wn_sortedA m_sorted hr ?_
  refine we_add ?_
  refine we_of_wn ?_
  refine wn_lc (own := [("face", 3)]) rfl sc_all_lines.nd (blkOk_by (by rfl)) (fun _ _ _ _ _ => (pg_name (i := 3) sc_all_lines.nd rfl (by first | exact Or.inl rfl | exact Or.inr rfl))) (tgd_name 3) (by decide) rfl ?_
  refine wi_r1 m_range ?_
  refine we_n 1 ?_
  refine rng_sh h fun xs4 h => ?_
  refine lcS h (fun face5 kp sk h => ?_) fun l6 h => ?_
  · refine ⟨[(3, face5)], rfl, rfl, fun g' s1 H1 C1 cl1 fp1 => ?_⟩
    refine ⟨fun _ s1 H1 C1 cl1 fp1 => ?_, fun z => by cases z⟩
    refine we_call h_pair_of hr ?_
    refine wa_d ?_
    refine we_n 3 ?_
    refine ⟨rfl, ?_⟩
    refine wa_d ?_
    refine we_call h_follows hr ?_
    refine wa_d ?_
    refine we_n 1 ?_
    refine ⟨rfl, ?_⟩
    refine wa_d ?_
    refine we_n 3 ?_
    refine ⟨rfl, ?_⟩
    refine wa_nil ?_
    refine ⟨rfl, _, _, _, _, rfl, h, fun r7 h => ⟨rfl, _, rfl, ?_⟩, fun c hc => ⟨rfl, hc.elim⟩⟩
    refine ⟨rfl, ?_⟩
    refine wa_nil ?_
    refine ⟨rfl, _, _, _, _, rfl, h, fun r8 h => ⟨rfl, _, rfl, ?_⟩, fun c hc => ⟨rfl, hc.elim⟩⟩
    exact ⟨rfl, h⟩
  refine we_of_wn ?_
  refine wn_listof m_list ?_
  refine we_n 2 ?_
  refine list_sh h fun l9 h => ?_
  refine add_sh h fun r10 h => ?_
  refine sort_m h fun l11 h => ?_
  exact ⟨_, hK _ h, trivial, rfl, rfl⟩
theorem ok_need_place (F : FnP K "need_place" s_need_place f fd) (hm : mg "need_place" = some (.ref f)) (hb : Binds K fd ["plan", "place"] []) (h_need_plan : Has P w K mg base k "need_plan" ["plan"] c_need_plan) (h_pair_of : Has P w K mg base k "pair_of" ["one", "other"] c_pair_of) (h_all_lines : Has P w K mg base k "all_lines" ["plan"] c_all_lines) (x_BadPlace : ExK K mg "BadPlace") :
    Has P w K mg base (k + 1) "need_place" ["plan", "place"] c_need_place := by
  refine fn_has F hm sc_need_place hb rfl ?_
  rintro cdv A outer s H E g args Φ Ψ hr hp hM hl ⟨plan, place, Kf, Ef, rfl, h, hK, hE⟩
  unfold f_need_place at h
  refine ws_env (env' := [.d plan, .d place, .un, .un]) rfl ?_
  refine ws_cons (w1_expr ?_)
  refine we_call h_need_plan hr ?_
  refine wa_d ?_
  refine we_n 0 ?_
  refine ⟨rfl, ?_⟩
  refine wa_nil ?_
  refine ⟨rfl, _, _, _, rfl, h, fun r1 h => ⟨rfl, _, rfl, ?_⟩, fun c hc => ⟨rfl, ⟨_, hE _ hc, rfl, rfl, rfl⟩⟩⟩
  refine ws_cons (w1_unpack (pg_tup rfl (pgs_cons (pg_name (i := 2) sc_need_place.nd rfl (by first | exact Or.inl rfl | exact Or.inr rfl)) (pgs_cons (pg_name (i := 3) sc_need_place.nd rfl (by first | exact Or.inl rfl | exact Or.inr rfl)) pgs_nil))) (tgd_tup (tgds_cons (tgd_name 2) (tgds_cons (tgd_name 3) tgds_nil)) rfl) ?_)
  refine we_n 1 ?_
  obtain ⟨top2, under3, he4, h⟩ := un2_sh h
  refine ⟨rfl, [(2, top2), (3, under3)], (by rw [he4]; rfl), rfl, ?_⟩
  refine ws_env (env' := [.d plan, .d place, .d top2, .d under3]) rfl ?_
  refine ws_cons (w1_if ?_)
  refine wt_ww ?_
  refine ww_orS h (fun Q h => ?_) (fun Q h => ?_) fun b5 h => ?_
  · refine wt_not ?_
    refine wt_ch (op_leA hr) (op_ltA hr) ?_
    refine we_int ?_
    refine we_n 2 ?_
    refine ch_sh2 h (fun Q h => le_sh h fun _ h => h) (fun Q h => ?_) fun b6 h => ?_
    · refine we_ix ?_
      refine we_n 0 ?_
      refine we_int ?_
      refine ix_sh h fun r8 h => ?_
      exact lt_sh h fun _ h => h
    exact h
  · refine ww_orS h (fun Q h => ?_) (fun Q h => ?_) fun b9 h => ?_
    · refine wt_not ?_
      refine wt_ch (op_leA hr) (op_ltA hr) ?_
      refine we_int ?_
      refine we_n 3 ?_
      refine ch_sh2 h (fun Q h => le_sh h fun _ h => h) (fun Q h => ?_) fun b10 h => ?_
      · refine we_ix ?_
        refine we_n 0 ?_
        refine we_int ?_
        refine ix_sh h fun r12 h => ?_
        exact lt_sh h fun _ h => h
      exact h
    · refine ww_or1 ?_
      refine wt_cp (op_notInA hr) ?_
      refine we_call h_pair_of hr ?_
      refine wa_d ?_
      refine we_n 2 ?_
      refine ⟨rfl, ?_⟩
      refine wa_d ?_
      refine we_n 3 ?_
      refine ⟨rfl, ?_⟩
      refine wa_nil ?_
      refine ⟨rfl, _, _, _, _, rfl, h, fun r13 h => ⟨rfl, _, rfl, ?_⟩, fun c hc => ⟨rfl, ⟨_, hE _ hc, rfl, rfl, rfl⟩⟩⟩
      refine we_call h_all_lines hr ?_
      refine wa_d ?_
      refine we_n 0 ?_
      refine ⟨rfl, ?_⟩
      refine wa_nil ?_
      refine ⟨rfl, _, _, _, rfl, h, fun r14 h => ⟨rfl, _, rfl, ?_⟩, fun c hc => ⟨rfl, ⟨_, hE _ hc, rfl, rfl, rfl⟩⟩⟩
      refine notIn_sh h fun b15 h => ?_
      exact h
    exact h
  obtain ⟨h16, h17⟩ := h
  refine ⟨fun e18 => ?_, fun e18 => ?_⟩
  · replace h := h16 e18
    exact ws_cons (w1_raise rfl x_BadPlace ⟨_, hE _ h, rfl, rfl, rfl⟩)
  · replace h := h17 e18
    refine ws_nil ?_
    exact ws_nil ⟨_, hK _ h, rfl, rfl, rfl⟩
theorem ok_between (F : FnP K "between" s_between f fd) (hm : mg "between" = some (.ref f)) (hb : Binds K fd ["faces", "start", "corner", "end"] [])  :
    Has P w K mg base (k + 1) "between" ["faces", "start", "corner", "end"] c_between := by
  refine fn_has F hm sc_between hb rfl ?_
  rintro cdv A outer s H E g args Φ Ψ hr hp hM hl ⟨faces, start, corner, end_, Kf, Ef, rfl, h, hK, hE⟩
  unfold f_between at h
  refine ws_env (env' := [.d faces, .d start, .d corner, .d end_]) rfl ?_
  refine ws_cons (w1_ret ?_)
  refine we_ch (op_ltA hr) (op_ltA hr) ?_
  refine we_int ?_
  refine we_mod ?_
  refine we_sub ?_
  refine we_n 2 ?_
  refine we_n 1 ?_
  refine sub_sh h fun r1 h => ?_
  refine we_n 0 ?_
  refine mod_sh h fun r2 h => ?_
  refine ch_sh2 h (fun Q h => lt_sh h fun _ h => h) (fun Q h => ?_) fun b3 h => ?_
  · refine we_mod ?_
    refine we_sub ?_
    refine we_n 3 ?_
    refine we_n 1 ?_
    refine sub_sh h fun r5 h => ?_
    refine we_n 0 ?_
    refine mod_sh h fun r6 h => ?_
    exact lt_sh h fun _ h => h
  exact ⟨rfl, _, hK _ h, trivial, rfl, rfl, rfl, rfl, rfl⟩
theorem ok_third_corner (F : FnP K "third_corner" s_third_corner f fd) (hm : mg "third_corner" = some (.ref f)) (hb : Binds K fd ["plan", "near", "place", "way"] []) (h_between : Has P w K mg base k "between" ["faces", "start", "corner", "end"] c_between) :
    Has P w K mg base (k + 1) "third_corner" ["plan", "near", "place", "way"] c_third_corner := by
  refine fn_has F hm sc_third_corner hb rfl ?_
  rintro cdv A outer s H E g args Φ Ψ hr hp hM hl ⟨plan, near, place, way, Kf, Ef, rfl, h, hK, hE⟩
  unfold f_third_corner at h
  refine ws_env (env' := [.d plan, .d near, .d place, .d way, .un, .un, .un, .un, .un]) rfl ?_
  refine ws_cons (w1_unpack (pg_tup rfl (pgs_cons (pg_name (i := 4) sc_third_corner.nd rfl (by first | exact Or.inl rfl | exact Or.inr rfl)) (pgs_cons (pg_name (i := 5) sc_third_corner.nd rfl (by first | exact Or.inl rfl | exact Or.inr rfl)) pgs_nil))) (tgd_tup (tgds_cons (tgd_name 4) (tgds_cons (tgd_name 5) tgds_nil)) rfl) ?_)
  refine we_n 2 ?_
  obtain ⟨top1, under2, he3, h⟩ := un2_sh h
  refine ⟨rfl, [(4, top1), (5, under2)], (by rw [he3]; rfl), rfl, ?_⟩
  refine ws_env (env' := [.d plan, .d near, .d place, .d way, .d top1, .d under2, .un, .un, .un]) rfl ?_
  refine ws_cons (w1_unpack (pg_tup rfl (pgs_cons (pg_name (i := 6) sc_third_corner.nd rfl (by first | exact Or.inl rfl | exact Or.inr rfl)) (pgs_cons (pg_name (i := 7) sc_third_corner.nd rfl (by first | exact Or.inl rfl | exact Or.inr rfl)) pgs_nil))) (tgd_tup (tgds_cons (tgd_name 6) (tgds_cons (tgd_name 7) tgds_nil)) rfl) ?_)
  refine we_ifS h (fun Q h => ?_) (fun Q h => ?_) (fun Q h => ?_) fun r4 h => ?_
  · refine wt_cp (op_eqA hr) ?_
    refine we_n 3 ?_
    refine we_str ?_
    refine eq_sh h fun b5 h => ?_
    exact h
  · refine we_tuple ?_
    refine wa_d ?_
    refine we_n 4 ?_
    refine ⟨rfl, ?_⟩
    refine wa_d ?_
    refine we_n 5 ?_
    refine ⟨rfl, ?_⟩
    refine wa_nil ?_
    refine ⟨_, rfl, szOk rfl, ?_⟩
    exact ⟨rfl, h⟩
  · refine we_tuple ?_
    refine wa_d ?_
    refine we_n 5 ?_
    refine ⟨rfl, ?_⟩
    refine wa_d ?_
    refine we_n 4 ?_
    refine ⟨rfl, ?_⟩
    refine wa_nil ?_
    refine ⟨_, rfl, szOk rfl, ?_⟩
    exact ⟨rfl, h⟩
  obtain ⟨start6, end_7, he8, h⟩ := un2_sh h
  refine ⟨rfl, [(6, start6), (7, end_7)], (by rw [he8]; rfl), rfl, ?_⟩
  refine ws_env (env' := [.d plan, .d near, .d place, .d way, .d top1, .d under2, .d start6, .d end_7, .un]) rfl ?_
  refine ws_cons (w1_for hp rfl (pg_name (i := 8) sc_third_corner.nd rfl (by first | exact Or.inl rfl | exact Or.inr rfl)) (tgd_name 8) ?_)
  refine wi_d ?_
  refine we_ix ?_
  refine we_n 1 ?_
  refine we_n 4 ?_
  refine ix_sh h fun r10 h => ?_
  refine ⟨rfl, it_sh h fun xs9 h => ?_⟩
  refine forS h (fun (s : Unit) (u : Sl) => [.d plan, .d near, .d place, .d way, .d top1, .d under2, .d start6, .d end_7, u]) (.un) rfl ?_ ?_
  · rintro _ w11 h
    refine ws_env (env' := [.d plan, .d near, .d place, .d way, .d top1, .d under2, .d start6, .d end_7, w11]) rfl ?_
    refine ws_cons (w1_ret ?_)
    refine we_none ?_
    exact ⟨rfl, _, hK _ h, trivial, rfl, rfl, rfl, rfl, rfl⟩
  · rintro hend corner12 _ w15 N13 h
    refine ⟨[(8, corner12)], rfl, rfl, ?_⟩
    refine ws_env (env' := [.d plan, .d near, .d place, .d way, .d top1, .d under2, .d start6, .d end_7, .d corner12]) rfl ?_
    refine ws_cons (w1_if ?_)
    refine wt_ww ?_
    refine ww_andS h (fun Q h => ?_) (fun Q h => ?_) fun b16 h => ?_
    · refine wt_cp (op_inA hr) ?_
      refine we_n 8 ?_
      refine we_ix ?_
      refine we_n 1 ?_
      refine we_n 5 ?_
      refine ix_sh h fun r17 h => ?_
      refine in_sh h fun b18 h => ?_
      exact h
    · refine ww_and1 ?_
      refine wt_e ?_
      refine we_call h_between hr ?_
      refine wa_d ?_
      refine we_ix ?_
      refine we_n 0 ?_
      refine we_int ?_
      refine ix_sh h fun r19 h => ?_
      refine ⟨rfl, ?_⟩
      refine wa_d ?_
      refine we_n 6 ?_
      refine ⟨rfl, ?_⟩
      refine wa_d ?_
      refine we_n 8 ?_
      refine ⟨rfl, ?_⟩
      refine wa_d ?_
      refine we_n 7 ?_
      refine ⟨rfl, ?_⟩
      refine wa_nil ?_
      refine ⟨rfl, _, _, _, _, _, _, rfl, h, fun r20 h => ⟨rfl, _, rfl, ?_⟩, fun c hc => ⟨rfl, ⟨_, hE _ hc, rfl, rfl, rfl, rfl, rfl⟩⟩⟩
      refine bool_sh h fun b21 h => ?_
      exact h
    obtain ⟨h22, h23⟩ := h
    refine ⟨fun e24 => ?_, fun e24 => ?_⟩
    · replace h := h22 e24
      refine ws_cons (w1_ret ?_)
      refine we_n 8 ?_
      exact ⟨rfl, _, hK _ h, trivial, rfl, rfl, rfl, rfl, rfl⟩
    · replace h := h23 e24
      refine ws_nil ?_
      exact ws_nil ⟨(), (.d corner12), h, rfl⟩
theorem ok_tour_by (F : FnP K "tour_by" s_tour_by f fd) (hm : mg "tour_by" = some (.ref f)) (hb : Binds K fd ["plan", "near", "place", "seen"] []) (g_WAYS : GTup K mg "WAYS" [.str "even", .str "odd"]) (h_third_corner : Has P w K mg base k "third_corner" ["plan", "near", "place", "way"] c_third_corner) (m_tuple : mg "tuple" = none) (m_sorted : mg "sorted" = none) (m_range : mg "range" = none) :
    ∀ n : Nat, Has P w K mg base (k + n + 1) "tour_by" ["plan", "near", "place", "seen"] (c_tour_by n)
  | 0 => by
    refine fn_has F hm sc_tour_by hb rfl ?_
    rintro cdv A outer s H E g args Φ Ψ hr hp hM hl ⟨plan, near, place, a_seen, seen, Kf, rfl, h, hK⟩
    exact (show False from h).elim
  | n + 1 => by
    have h_tour_by := ok_tour_by F hm hb g_WAYS h_third_corner m_tuple m_sorted m_range n
    refine fn_has F hm sc_tour_by hb rfl ?_
    rintro cdv A outer s H E g args Φ Ψ hr hp hM hl ⟨plan, near, place, a_seen, seen, Kf, rfl, h, hK⟩
    have h : f_tour_by_s (f_tour_by n) plan near place seen Kf := h
    unfold f_tour_by_s at h
    refine ws_env (env' := [.d plan, .d near, .d place, .dt a_seen seen, .un, .un, .un, .un, .un, .un]) rfl ?_
    refine ws_cons (w1_setN 4 sc_tour_by.nd ?_)
    refine wn_list ?_
    refine wa_nil ?_
    refine ⟨_, rfl, szOk rfl, ?_⟩
    intro a1 n_a1
    refine ws_env (env' := [.d plan, .d near, .d place, .dt a_seen seen, .ol a1 [], .un, .un, .un, .un, .un]) rfl ?_
    refine ws_cons (w1_for hp rfl (pg_name (i := 5) sc_tour_by.nd rfl (by first | exact Or.inl rfl | exact Or.inr rfl)) (tgd_name 5) ?_)
    refine wi_g g_WAYS ?_
    refine forS h (fun (s : (List (List Key × PyData)) × (List PyData)) (u : Sl × Sl × Sl × Sl × {a : Addr // a ∉ g.M} × Sl) => [.d plan, .d near, .d place, .dt a_seen s.1, .ol u.2.2.2.2.1.1 s.2, u.2.2.2.2.2, u.1, u.2.1, u.2.2.1, u.2.2.2.1]) ((.un), (.un), (.un), (.un), ⟨a1, n_a1⟩, (.un)) rfl ?_ ?_
    · rintro ⟨seen2, found3⟩ ⟨w4, w5, w6, w7, ⟨a8, n_a8⟩, w9⟩ h
      refine ws_env (env' := [.d plan, .d near, .d place, .dt a_seen seen2, .ol a8 found3, w9, w4, w5, w6, w7]) rfl ?_
      exact ws_cons (w1_retO 4 rfl n_a8 ⟨_, hK _ _ h, trivial, rfl, rfl, rfl, ⟨rfl, rfl⟩, rfl⟩)
    · rintro hend way10 ⟨seen13, found14⟩ ⟨w15, w16, w17, w18, ⟨a19, n_a19⟩, w20⟩ N11 h
      refine ⟨[(5, way10)], rfl, rfl, ?_⟩
      refine ws_env (env' := [.d plan, .d near, .d place, .dt a_seen seen13, .ol a19 found14, .d way10, w15, w16, w17, w18]) rfl ?_
      refine ws_cons (w1_set 6 sc_tour_by.nd ?_)
      refine we_call h_third_corner hr ?_
      refine wa_d ?_
      refine we_n 0 ?_
      refine ⟨rfl, ?_⟩
      refine wa_d ?_
      refine we_n 1 ?_
      refine ⟨rfl, ?_⟩
      refine wa_d ?_
      refine we_n 2 ?_
      refine ⟨rfl, ?_⟩
      refine wa_d ?_
      refine we_n 5 ?_
      refine ⟨rfl, ?_⟩
      refine wa_nil ?_
      refine ⟨rfl, _, _, _, _, _, _, rfl, h, fun r21 h => ⟨rfl, _, rfl, ?_⟩, fun c hc => ⟨rfl, hc.elim⟩⟩
      refine ⟨rfl, ?_⟩
      refine ws_env (env' := [.d plan, .d near, .d place, .dt a_seen seen13, .ol a19 found14, .d way10, .d r21, w16, w17, w18]) rfl ?_
      refine ws_cons (w1_if ?_)
      refine wt_cp op_notN ?_
      refine we_n 6 ?_
      refine we_none ?_
      refine notN_sh ?_
      obtain ⟨h22, h23⟩ := h
      refine ⟨fun e24 => ?_, fun e24 => ?_⟩
      · replace h := h22 e24
        refine ws_cons (w1_set 7 sc_tour_by.nd ?_)
        refine we_tupof m_tuple ?_
        refine we_of_wn ?_
        refine wn_sortedA m_sorted hr ?_
        refine we_list ?_
        refine wa_d ?_
        refine we_ix ?_
        refine we_n 2 ?_
        refine we_int ?_
        refine ix_sh h fun r25 h => ?_
        refine ⟨rfl, ?_⟩
        refine wa_d ?_
        refine we_ix ?_
        refine we_n 2 ?_
        refine we_int ?_
        refine ix_sh h fun r26 h => ?_
        refine ⟨rfl, ?_⟩
        refine wa_d ?_
        refine we_n 6 ?_
        refine ⟨rfl, ?_⟩
        refine wa_nil ?_
        refine ⟨_, rfl, szOk rfl, ?_⟩
        refine sort_m h fun l27 h => ?_
        refine tup_sh h fun r28 h => ?_
        refine ⟨rfl, ?_⟩
        refine ws_env (env' := [.d plan, .d near, .d place, .dt a_seen seen13, .ol a19 found14, .d way10, .d r21, .d r28, w17, w18]) rfl ?_
        refine ws_cons (w1_if ?_)
        refine wt_notInTA 3 hr ?_
        refine we_n 7 ?_
        refine ⟨rfl, inT_m h fun b29 h => ?_⟩
        obtain ⟨h30, h31⟩ := h
        refine ⟨fun e32 => ?_, fun e32 => ?_⟩
        · replace h := h30 e32
          refine ws_cons (w1_storeTB 3 hr ?_)
          refine we_bool ?_
          refine ⟨rfl, ?_⟩
          refine we_n 7 ?_
          refine ⟨rfl, putT_m h fun kv33 h => ?_⟩
          refine ws_env (env' := [.d plan, .d near, .d place, .dt a_seen kv33, .ol a19 found14, .d way10, .d r21, .d r28, w17, w18]) rfl ?_
          refine ws_cons (w1_set 8 sc_tour_by.nd ?_)
          refine we_n 2 ?_
          refine ⟨rfl, ?_⟩
          refine ws_env (env' := [.d plan, .d near, .d place, .dt a_seen kv33, .ol a19 found14, .d way10, .d r21, .d r28, .d place, w18]) rfl ?_
          refine ws_cons (w1_for hp rfl (pg_name (i := 9) sc_tour_by.nd rfl (by first | exact Or.inl rfl | exact Or.inr rfl)) (tgd_name 9) ?_)
          refine wi_r1 m_range ?_
          refine we_int ?_
          refine rng_sh h fun xs34 h => ?_
          refine forS h (fun (s : (List PyData) × PyData × (List (List Key × PyData))) (u : {a : Addr // a ∉ g.M} × Sl) => [.d plan, .d near, .d place, .dt a_seen s.2.2, .ol u.1.1 s.1, .d way10, .d r21, .d r28, .d s.2.1, u.2]) (⟨a19, n_a19⟩, (w18)) rfl ?_ ?_
          · rintro ⟨found35, here36, seen37⟩ ⟨⟨a38, n_a38⟩, w39⟩ h
            refine ws_env (env' := [.d plan, .d near, .d place, .dt a_seen seen37, .ol a38 found35, .d way10, .d r21, .d r28, .d here36, w39]) rfl ?_
            refine ws_nil ?_
            refine ws_nil ?_
            exact ws_nil ⟨(seen37, found35), ((.d r21), (.d r28), (.d here36), (w39), ⟨a38, n_a38⟩, (.d way10)), h, rfl⟩
          · rintro hend turn40 ⟨found43, here44, seen45⟩ ⟨⟨a46, n_a46⟩, w47⟩ N41 h
            refine ⟨[(9, turn40)], rfl, rfl, ?_⟩
            refine ws_env (env' := [.d plan, .d near, .d place, .dt a_seen seen45, .ol a46 found43, .d way10, .d r21, .d r28, .d here44, .d turn40]) rfl ?_
            refine ws_cons (w1_append 4 rfl ?_)
            refine we_tuple ?_
            refine wa_d ?_
            refine we_str ?_
            refine ⟨rfl, ?_⟩
            refine wa_d ?_
            refine we_n 5 ?_
            refine ⟨rfl, ?_⟩
            refine wa_nil ?_
            refine ⟨_, rfl, szOk rfl, ?_⟩
            obtain ⟨hl48, h⟩ := h
            refine ⟨rfl, hl48, ?_⟩
            refine ws_env (env' := [.d plan, .d near, .d place, .dt a_seen seen45, .ol a46 (found43 ++ ([(.tuple [(.str "pinch"), way10])] : List PyData)), .d way10, .d r21, .d r28, .d here44, .d turn40]) rfl ?_
            refine ws_cons (w1_set 8 sc_tour_by.nd ?_)
            refine we_tuple ?_
            refine wa_d ?_
            refine we_call h_third_corner hr ?_
            refine wa_d ?_
            refine we_n 0 ?_
            refine ⟨rfl, ?_⟩
            refine wa_d ?_
            refine we_n 1 ?_
            refine ⟨rfl, ?_⟩
            refine wa_d ?_
            refine we_n 8 ?_
            refine ⟨rfl, ?_⟩
            refine wa_d ?_
            refine we_n 5 ?_
            refine ⟨rfl, ?_⟩
            refine wa_nil ?_
            refine ⟨rfl, _, _, _, _, _, _, rfl, h, fun r49 h => ⟨rfl, _, rfl, ?_⟩, fun c hc => ⟨rfl, hc.elim⟩⟩
            refine ⟨rfl, ?_⟩
            refine wa_d ?_
            refine we_ix ?_
            refine we_n 8 ?_
            refine we_int ?_
            refine ix_sh h fun r50 h => ?_
            refine ⟨rfl, ?_⟩
            refine wa_nil ?_
            refine ⟨_, rfl, szOk rfl, ?_⟩
            refine ⟨rfl, ?_⟩
            refine ws_env (env' := [.d plan, .d near, .d place, .dt a_seen seen45, .ol a46 (found43 ++ ([(.tuple [(.str "pinch"), way10])] : List PyData)), .d way10, .d r21, .d r28, .d (.tuple [r49, r50]), .d turn40]) rfl ?_
            refine ws_cons (w1_if ?_)
            refine wt_cp (op_ltA hr) ?_
            refine we_n 9 ?_
            refine we_int ?_
            refine lt_sh h fun b51 h => ?_
            obtain ⟨h52, h53⟩ := h
            refine ⟨fun e54 => ?_, fun e54 => ?_⟩
            · replace h := h52 e54
              refine ws_cons (w1_catM 4 rfl sc_tour_by.nd h_tour_by hr ?_)
              refine wa_d ?_
              refine we_n 0 ?_
              refine ⟨rfl, ?_⟩
              refine wa_d ?_
              refine we_n 1 ?_
              refine ⟨rfl, ?_⟩
              refine wa_d ?_
              refine we_n 8 ?_
              refine ⟨rfl, ?_⟩
              refine wa_s 3 ?_
              refine wa_nil ?_
              refine ⟨rfl, rfl, _, _, _, _, _, _, rfl, h, fun l55 kv56 h => ?_⟩
              obtain ⟨hl57, h⟩ := h
              refine ⟨rfl, _, rfl, hl57, fun a58 n_a58 => ?_⟩
              refine ws_env (env' := [.d plan, .d near, .d place, .dt a_seen kv56, .ol a58 ((found43 ++ ([(.tuple [(.str "pinch"), way10])] : List PyData)) ++ l55), .d way10, .d r21, .d r28, .d (.tuple [r49, r50]), .d turn40]) rfl ?_
              refine ws_nil ?_
              exact ws_nil ⟨(((found43 ++ ([(.tuple [(.str "pinch"), way10])] : List PyData)) ++ l55), (.tuple [r49, r50]), kv56), (⟨a58, n_a58⟩, (.d turn40)), h, rfl⟩
            · replace h := h53 e54
              refine ws_nil ?_
              exact ws_nil ⟨((found43 ++ ([(.tuple [(.str "pinch"), way10])] : List PyData)), (.tuple [r49, r50]), seen45), (⟨a46, n_a46⟩, (.d turn40)), h, rfl⟩
        · replace h := h31 e32
          refine ws_nil ?_
          refine ws_nil ?_
          exact ws_nil ⟨(seen13, found14), ((.d r21), (.d r28), (w17), (w18), ⟨a19, n_a19⟩, (.d way10)), h, rfl⟩
      · replace h := h23 e24
        refine ws_nil ?_
        exact ws_nil ⟨(seen13, found14), ((.d r21), (w16), (w17), (w18), ⟨a19, n_a19⟩, (.d way10)), h, rfl⟩
theorem ok_neighbours (F : FnP K "neighbours" s_neighbours f fd) (hm : mg "neighbours" = some (.ref f)) (hb : Binds K fd ["plan"] []) (m_range : mg "range" = none) (h_all_lines : Has P w K mg base k "all_lines" ["plan"] c_all_lines) (m_sorted : mg "sorted" = none) :
    Has P w K mg base (k + 1) "neighbours" ["plan"] c_neighbours := by
  refine fn_has F hm sc_neighbours hb rfl ?_
  rintro cdv A outer s H E g args Φ Ψ hr hp hM hl ⟨plan, Kf, Ef, rfl, h, hK, hE⟩
  unfold f_neighbours at h
  refine ws_env (env' := [.d plan, .un, .un, .un, .un, .un, .un, .un]) rfl ?_
  refine ws_cons (w1_unpack (pg_tup rfl (pgs_cons (pg_name (i := 1) sc_neighbours.nd rfl (by first | exact Or.inl rfl | exact Or.inr rfl)) (pgs_cons (pg_name (i := 2) sc_neighbours.nd rfl (by first | exact Or.inl rfl | exact Or.inr rfl)) pgs_nil))) (tgd_tup (tgds_cons (tgd_name 1) (tgds_cons (tgd_name 2) tgds_nil)) rfl) ?_)
  refine we_n 0 ?_
  obtain ⟨faces1, cuts2, he3, h⟩ := un2_sh h
  refine ⟨rfl, [(1, faces1), (2, cuts2)], (by rw [he3]; rfl), rfl, ?_⟩
  refine ws_env (env' := [.d plan, .d faces1, .d cuts2, .un, .un, .un, .un, .un]) rfl ?_
  refine ws_cons (w1_newOOc 3 (own := [("face", 4)]) rfl sc_neighbours.nd (blkOk_by (by rfl)) (fun _ _ _ _ _ => (pg_name (i := 4) sc_neighbours.nd rfl (by first | exact Or.inl rfl | exact Or.inr rfl))) (tgd_name 4) rfl ?_)
  refine wi_r1 m_range ?_
  refine we_n 1 ?_
  refine rng_sh h fun xs4 h => ?_
  refine ⟨fun x _ => ⟨_, rfl, rfl⟩, fun a5 as6 n_a5 hl7 => ?_⟩
  have hl8 : as6.length = (List.replicate xs4.length ([] : List PyData)).length := by rw [hl7, List.length_replicate]
  refine ws_env (env' := [.d plan, .d faces1, .d cuts2, ooS a5 as6 (List.replicate xs4.length ([] : List PyData)), .un, .un, .un, .un]) rfl ?_
  refine ws_cons (w1_for hp rfl (pg_tup rfl (pgs_cons (pg_name (i := 5) sc_neighbours.nd rfl (by first | exact Or.inl rfl | exact Or.inr rfl)) (pgs_cons (pg_name (i := 6) sc_neighbours.nd rfl (by first | exact Or.inl rfl | exact Or.inr rfl)) pgs_nil))) (tgd_tup (tgds_cons (tgd_name 5) (tgds_cons (tgd_name 6) tgds_nil)) rfl) ?_)
  refine wi_d ?_
  refine we_call h_all_lines hr ?_
  refine wa_d ?_
  refine we_n 0 ?_
  refine ⟨rfl, ?_⟩
  refine wa_nil ?_
  refine ⟨rfl, _, _, _, rfl, h, fun r10 h => ⟨rfl, _, rfl, ?_⟩, fun c hc => ⟨rfl, ⟨_, hE _ hc, rfl, rfl⟩⟩⟩
  refine ⟨rfl, it_sh h fun xs9 h => ?_⟩
  refine forSC h (fun (s : (List (List PyData))) (u : Sl × Sl) => [.d plan, .d faces1, .d cuts2, ooS a5 as6 s, .un, u.1, u.2, .un]) (fun (s : (List (List PyData))) (u : Sl × Sl) => as6.length = s.length) ((.un), (.un)) rfl hl8 ?_ ?_
  · rintro found11 ⟨w12, w13⟩ hc h
    refine ws_env (env' := [.d plan, .d faces1, .d cuts2, ooS a5 as6 found11, .un, w12, w13, .un]) rfl ?_
    refine ws_cons (w1_retN ?_)
    refine wn_lc (own := [("face", 4)]) rfl sc_neighbours.nd (blkOk_by (by rfl)) (fun _ _ _ _ _ => (pg_name (i := 4) sc_neighbours.nd rfl (by first | exact Or.inl rfl | exact Or.inr rfl))) (tgd_name 4) (by decide) rfl ?_
    refine wi_r1 m_range ?_
    refine we_n 1 ?_
    refine rng_sh h fun xs14 h => ?_
    refine lcS h (fun face15 kp sk h => ?_) fun l16 h => ?_
    · refine ⟨[(4, face15)], rfl, rfl, fun g' s1 H1 C1 cl1 fp1 => ?_⟩
      refine ⟨fun _ s1 H1 C1 cl1 fp1 => ?_, fun z => by cases z⟩
      refine we_of_wn ?_
      refine wn_lc (own := [("step", 7)]) rfl sc_neighbours.nd (blkOk_by (by rfl)) (fun _ _ _ _ _ => (pg_name (i := 7) sc_neighbours.nd rfl (by first | exact Or.inl rfl | exact Or.inr rfl))) (tgd_name 7) (by decide) rfl ?_
      refine wi_d ?_
      refine we_of_wn ?_
      refine wn_sortedA m_sorted hr ?_
      refine we_ixOO 3 hc ?_
      refine we_n 4 ?_
      refine row_m h fun l18 h => ?_
      refine sort_m h fun l19 h => ?_
      refine ⟨rfl, it_sh h fun xs17 h => ?_⟩
      refine lcS h (fun step20 kp sk h => ?_) fun l21 h => ?_
      · refine ⟨[(7, step20)], rfl, rfl, fun g' s1 H1 C1 cl1 fp1 => ?_⟩
        refine ⟨fun _ s1 H1 C1 cl1 fp1 => ?_, fun z => by cases z⟩
        refine we_mod ?_
        refine we_add ?_
        refine we_n 4 ?_
        refine we_n 7 ?_
        refine add_sh h fun r22 h => ?_
        refine we_n 1 ?_
        refine mod_sh h fun r23 h => ?_
        exact ⟨rfl, h⟩
      exact ⟨rfl, h⟩
    exact ⟨_, hK _ h, trivial, rfl, rfl⟩
  · rintro hend p24 found27 ⟨w28, w29⟩ N25 hc h
    obtain ⟨low30, high31, he32, h⟩ := un2_sh h
    refine ⟨[(5, low30), (6, high31)], (by rw [he32]; rfl), rfl, ?_⟩
    refine ws_env (env' := [.d plan, .d faces1, .d cuts2, ooS a5 as6 found27, .un, .d low30, .d high31, .un]) rfl ?_
    refine ws_cons (w1_appendOO 3 hc ?_)
    refine we_n 5 ?_
    refine row_m h fun l33 h => ?_
    refine we_mod ?_
    refine we_sub ?_
    refine we_n 6 ?_
    refine we_n 5 ?_
    refine sub_sh h fun r34 h => ?_
    refine we_n 1 ?_
    refine mod_sh h fun r35 h => ?_
    refine ⟨rfl, rowApp_m h fun rows36 hq37 h => ?_⟩
    have hl38 : as6.length = rows36.length := by rw [hq37]; exact hc
    refine ws_env (env' := [.d plan, .d faces1, .d cuts2, ooS a5 as6 rows36, .un, .d low30, .d high31, .un]) rfl ?_
    refine ws_cons (w1_appendOO 3 hl38 ?_)
    refine we_n 6 ?_
    refine row_m h fun l39 h => ?_
    refine we_mod ?_
    refine we_sub ?_
    refine we_n 5 ?_
    refine we_n 6 ?_
    refine sub_sh h fun r40 h => ?_
    refine we_n 1 ?_
    refine mod_sh h fun r41 h => ?_
    refine ⟨rfl, rowApp_m h fun rows42 hq43 h => ?_⟩
    have hl44 : as6.length = rows42.length := by rw [hq43]; exact hl38
    refine ws_env (env' := [.d plan, .d faces1, .d cuts2, ooS a5 as6 rows42, .un, .d low30, .d high31, .un]) rfl ?_
    exact ws_nil ⟨rows42, ((.d low30), (.d high31)), h, hl44, rfl⟩
theorem ok_tour (F : FnP K "tour" s_tour f fd) (hm : mg "tour" = some (.ref f)) (hb : Binds K fd ["plan", "place"] []) (h_need_place : Has P w K mg base k "need_place" ["plan", "place"] c_need_place) (h_tour_by : Has P w K mg base k "tour_by" ["plan", "near", "place", "seen"] (c_tour_by 64)) (h_neighbours : Has P w K mg base k "neighbours" ["plan"] c_neighbours) :
    Has P w K mg base (k + 1) "tour" ["plan", "place"] c_tour := by
  refine fn_has F hm sc_tour hb rfl ?_
  rintro cdv A outer s H E g args Φ Ψ hr hp hM hl ⟨plan, place, Kf, Ef, rfl, h, hK, hE⟩
  unfold f_tour at h
  refine ws_env (env' := [.d plan, .d place]) rfl ?_
  refine ws_cons (w1_expr ?_)
  refine we_call h_need_place hr ?_
  refine wa_d ?_
  refine we_n 0 ?_
  refine ⟨rfl, ?_⟩
  refine wa_d ?_
  refine we_n 1 ?_
  refine ⟨rfl, ?_⟩
  refine wa_nil ?_
  refine ⟨rfl, _, _, _, _, rfl, h, fun r1 h => ⟨rfl, _, rfl, ?_⟩, fun c hc => ⟨rfl, ⟨_, hE _ hc, rfl, rfl, rfl⟩⟩⟩
  refine ws_cons (w1_retN ?_)
  refine wn_callD h_tour_by hr ?_
  refine wad_d ?_
  refine we_n 0 ?_
  refine ⟨rfl, ?_⟩
  refine wad_d ?_
  refine we_call h_neighbours hr ?_
  refine wa_d ?_
  refine we_n 0 ?_
  refine ⟨rfl, ?_⟩
  refine wa_nil ?_
  refine ⟨rfl, _, _, _, rfl, h, fun r2 h => ⟨rfl, _, rfl, ?_⟩, fun c hc => ⟨rfl, ⟨_, hE _ hc, rfl, rfl, rfl⟩⟩⟩
  refine ⟨rfl, ?_⟩
  refine wad_d ?_
  refine we_n 1 ?_
  refine ⟨rfl, ?_⟩
  refine wad_t ?_
  refine ⟨rfl, by decide, fun q => ⟨_, _, _, _, _, _, rfl, h, fun l3 s4 h => ⟨_, _, rfl, rfl, ?_⟩⟩⟩
  exact ⟨_, hK _ h, trivial, rfl, rfl, rfl⟩
theorem ok_law (F : FnP K "law" s_law f fd) (ho__law_bag : Has P w K mg base k "_law_bag" ["_law_script"] o__law_bag) (h__law_plan : Has P w K mg base k "_law_plan" ["_law_bag_here", "_law_most"] c__law_plan) (h__law_tied : Has P w K mg base k "_law_tied" ["_law_plan_here"] c__law_tied) (h__law_spot : Has P w K mg base k "_law_spot" ["_law_bag_here", "_law_plan_here"] c__law_spot) (h__law_all_lines : Has P w K mg base k "_law_all_lines" ["_law_plan_here"] c__law_all_lines) (m_sum : mg "sum" = none) (m_list : mg "list" = none) (h__law_pair : Has P w K mg base k "_law_pair" ["_law_one", "_law_other"] c__law_pair) (h__law_alike : Has P w K mg base k "_law_alike" ["_law_found", "_law_due"] c__law_alike) (m_len : mg "len" = none) (h_tour : Has P w K mg base k "tour" ["plan", "place"] c_tour) (h__law_moved : Has P w K mg base k "_law_moved" ["_law_plan_here", "_law_held", "_law_spot_here", "_law_word", "_law_way"] c__law_moved) :
    FnOk P w K mg base (L2.CX P w) (k + 1) f fd ["_law_script"] (spOf K 1 cLaw) := by
  refine fn_ok (ps := ["_law_script"]) F sc_law rfl ?_
  rintro cdv A outer s H E g args Φ Ψ hr hp hM hl ⟨ns, rfl, hns, hΦ⟩
  have h := e_law_k29 ns hns
  unfold f_law_k29 at h
  have hK : ∀ r, r = PyData.bool true → Φ (.rd r) [.d (.list (ns.map .int))] := fun r e => e ▸ hΦ
  have hE : ∀ c, False → Ψ c [.d (.list (ns.map .int))] := fun c h => h.elim
  refine ws_env (env' := [.d (.list (ns.map .int)), .un, .un, .un, .un, .un, .un, .un, .un, .un, .un, .un, .un, .un, .un, .un, .un, .un]) rfl ?_
  refine ws_cons (w1_setN 1 sc_law.nd ?_)
  refine wn_call ho__law_bag hr ?_
  refine wa_d ?_
  refine we_n 0 ?_
  refine ⟨rfl, ?_⟩
  refine wa_nil ?_
  refine ⟨rfl, ns, rfl, hns, fun ds hds => ⟨rfl, ds, rfl, ?_⟩⟩
  intro a_bag n_bag
  refine ws_close 1 rfl hds ?_
  refine ws_env (env' := [.d (.list (ns.map .int)), .bg a_bag, .un, .un, .un, .un, .un, .un, .un, .un, .un, .un, .un, .un, .un, .un, .un, .un]) rfl ?_
  refine ws_cons (w1_set 2 sc_law.nd ?_)
  refine we_call h__law_plan hr ?_
  refine wa_s 1 ?_
  refine wa_d ?_
  refine we_int ?_
  refine ⟨rfl, ?_⟩
  refine wa_nil ?_
  refine ⟨rfl, _, _, _, _, rfl, h, fun r1 h => ⟨rfl, _, rfl, ?_⟩, fun c hc => ⟨rfl, ⟨_, hE _ hc, rfl, rfl⟩⟩⟩
  refine ⟨rfl, ?_⟩
  refine ws_env (env' := [.d (.list (ns.map .int)), .bg a_bag, .d r1, .un, .un, .un, .un, .un, .un, .un, .un, .un, .un, .un, .un, .un, .un, .un]) rfl ?_
  refine ws_cons (w1_setT 3 sc_law.nd ?_)
  refine wd_call h__law_tied hr ?_
  refine wa_d ?_
  refine we_n 2 ?_
  refine ⟨rfl, ?_⟩
  refine wa_nil ?_
  refine ⟨rfl, _, _, _, rfl, h, fun r3 h => ⟨rfl, _, rfl, ?_⟩, fun c hc => ⟨rfl, ⟨_, hE _ hc, rfl, rfl⟩⟩⟩
  intro a2 n_a2
  refine ws_env (env' := [.d (.list (ns.map .int)), .bg a_bag, .d r1, .dt a2 r3, .un, .un, .un, .un, .un, .un, .un, .un, .un, .un, .un, .un, .un, .un]) rfl ?_
  refine ws_cons (w1_set 4 sc_law.nd ?_)
  refine we_call h__law_spot hr ?_
  refine wa_s 1 ?_
  refine wa_d ?_
  refine we_n 2 ?_
  refine ⟨rfl, ?_⟩
  refine wa_nil ?_
  refine ⟨rfl, _, _, _, _, rfl, h, fun r4 h => ⟨rfl, _, rfl, ?_⟩, fun c hc => ⟨rfl, ⟨_, hE _ hc, rfl, rfl⟩⟩⟩
  refine ⟨rfl, ?_⟩
  refine ws_env (env' := [.d (.list (ns.map .int)), .bg a_bag, .d r1, .dt a2 r3, .d r4, .un, .un, .un, .un, .un, .un, .un, .un, .un, .un, .un, .un, .un]) rfl ?_
  refine ws_cons (w1_newT 5 sc_law.nd fun a5 n_a5 => ?_)
  refine ws_env (env' := [.d (.list (ns.map .int)), .bg a_bag, .d r1, .dt a2 r3, .d r4, .dt a5 [], .un, .un, .un, .un, .un, .un, .un, .un, .un, .un, .un, .un]) rfl ?_
  refine ws_cons (w1_set 6 sc_law.nd ?_)
  refine we_int ?_
  refine ⟨rfl, ?_⟩
  refine ws_env (env' := [.d (.list (ns.map .int)), .bg a_bag, .d r1, .dt a2 r3, .d r4, .dt a5 [], .d (.int 1), .un, .un, .un, .un, .un, .un, .un, .un, .un, .un, .un]) rfl ?_
  refine ws_cons (w1_for hp rfl (pg_name (i := 7) sc_law.nd rfl (by first | exact Or.inl rfl | exact Or.inr rfl)) (tgd_name 7) ?_)
  refine wi_d ?_
  refine we_call h__law_all_lines hr ?_
  refine wa_d ?_
  refine we_n 2 ?_
  refine ⟨rfl, ?_⟩
  refine wa_nil ?_
  refine ⟨rfl, _, _, _, rfl, h, fun r7 h => ⟨rfl, _, rfl, ?_⟩, fun c hc => ⟨rfl, ⟨_, hE _ hc, rfl, rfl⟩⟩⟩
  refine ⟨rfl, it_sh h fun xs6 h => ?_⟩
  refine forS h (fun (s : (List (List Key × PyData)) × PyData) (u : {a : Addr // a ∉ g.M} × Sl) => [.d (.list (ns.map .int)), .bg a_bag, .d r1, .dt a2 r3, .d r4, .dt u.1.1 s.1, .d s.2, u.2, .un, .un, .un, .un, .un, .un, .un, .un, .un, .un]) (⟨a5, n_a5⟩, (.un)) rfl ?_ ?_
  · rintro ⟨l_bits8, l_bit9⟩ ⟨⟨a10, n_a10⟩, w11⟩ h
    refine ws_env (env' := [.d (.list (ns.map .int)), .bg a_bag, .d r1, .dt a2 r3, .d r4, .dt a10 l_bits8, .d l_bit9, w11, .un, .un, .un, .un, .un, .un, .un, .un, .un, .un]) rfl ?_
    refine ws_forget 7 ?_
    refine ws_env (env' := [.d (.list (ns.map .int)), .bg a_bag, .d r1, .dt a2 r3, .d r4, .dt a10 l_bits8, .d l_bit9, .un, .un, .un, .un, .un, .un, .un, .un, .un, .un, .un]) rfl ?_
    refine ws_cons (w1_set 8 sc_law.nd ?_)
    refine we_sumA m_sum rfl ?_
    refine we_of_wn ?_
    refine wn_lc (own := [("_law_line", 7)]) rfl sc_law.nd (blkOk_by (by rfl)) (fun _ _ _ _ _ => (pg_name (i := 7) sc_law.nd rfl (by first | exact Or.inl rfl | exact Or.inr rfl))) (tgd_name 7) (by decide) rfl ?_
    refine wi_d ?_
    refine we_of_wn ?_
    refine wn_listTv 5 m_list rfl ?_
    refine ⟨rfl, it_sh h fun xs12 h => ?_⟩
    refine lcS h (fun l_line13 kp sk h => ?_) fun l14 h => ?_
    · refine ⟨[(7, l_line13)], rfl, rfl, fun g' s1 H1 C1 cl1 fp1 => ?_⟩
      refine ⟨fun _ s1 H1 C1 cl1 fp1 => ?_, fun z => by cases z⟩
      refine we_getT 5 hr rfl ?_
      refine we_n 7 ?_
      refine ⟨rfl, getT_s h fun r15 h => ?_⟩
      exact ⟨rfl, h⟩
    refine sum_m h fun r16 h => ?_
    refine ⟨rfl, ?_⟩
    refine ws_env (env' := [.d (.list (ns.map .int)), .bg a_bag, .d r1, .dt a2 r3, .d r4, .dt a10 l_bits8, .d l_bit9, .un, .d r16, .un, .un, .un, .un, .un, .un, .un, .un, .un]) rfl ?_
    refine ws_cons (w1_set 9 sc_law.nd ?_)
    refine we_tuple ?_
    refine wa_d ?_
    refine we_n 4 ?_
    refine ⟨rfl, ?_⟩
    refine wa_d ?_
    refine we_getT 5 hr rfl ?_
    refine we_call h__law_pair hr ?_
    refine wa_d ?_
    refine we_ix ?_
    refine we_n 4 ?_
    refine we_int ?_
    refine ix_sh h fun r17 h => ?_
    refine ⟨rfl, ?_⟩
    refine wa_d ?_
    refine we_ix ?_
    refine we_n 4 ?_
    refine we_int ?_
    refine ix_sh h fun r18 h => ?_
    refine ⟨rfl, ?_⟩
    refine wa_nil ?_
    refine ⟨rfl, _, _, _, _, rfl, h, fun r19 h => ⟨rfl, _, rfl, ?_⟩, fun c hc => ⟨rfl, ⟨_, hE _ hc, rfl, rfl⟩⟩⟩
    refine ⟨rfl, getT_s h fun r20 h => ?_⟩
    refine ⟨rfl, ?_⟩
    refine wa_nil ?_
    refine ⟨_, rfl, szOk rfl, ?_⟩
    refine ⟨rfl, ?_⟩
    refine ws_env (env' := [.d (.list (ns.map .int)), .bg a_bag, .d r1, .dt a2 r3, .d r4, .dt a10 l_bits8, .d l_bit9, .un, .d r16, .d (.tuple [r4, r20]), .un, .un, .un, .un, .un, .un, .un, .un]) rfl ?_
    refine ws_cons (w1_setO 10 sc_law.nd (wo_dispN hr (fun g24 => ?_)))
    refine wps_cons ?_
    refine we_n 9 ?_
    refine ⟨rfl, ?_⟩
    refine we_int ?_
    refine ⟨rfl, ?_⟩
    refine wps_nil ?_
    refine dispN_m h fun m25 h => ?_
    intro s21 hn22 nM23
    refine ws_env (env' := [.d (.list (ns.map .int)), .bg a_bag, .d r1, .dt a2 r3, .d r4, .dt a10 l_bits8, .d l_bit9, .un, .d r16, .d (.tuple [r4, r20]), s21, .un, .un, .un, .un, .un, .un, .un]) rfl ?_
    refine ws_cons (w1_setN 11 sc_law.nd ?_)
    refine wn_list ?_
    refine wa_d ?_
    refine we_n 9 ?_
    refine ⟨rfl, ?_⟩
    refine wa_nil ?_
    refine ⟨_, rfl, szOk rfl, ?_⟩
    intro a26 n_a26
    refine ws_env (env' := [.d (.list (ns.map .int)), .bg a_bag, .d r1, .dt a2 r3, .d r4, .dt a10 l_bits8, .d l_bit9, .un, .d r16, .d (.tuple [r4, r20]), s21, .ol a26 [(.tuple [r4, r20])], .un, .un, .un, .un, .un, .un]) rfl ?_
    refine ws_cons (w1_set 12 sc_law.nd ?_)
    refine we_int ?_
    refine ⟨rfl, ?_⟩
    refine ws_env (env' := [.d (.list (ns.map .int)), .bg a_bag, .d r1, .dt a2 r3, .d r4, .dt a10 l_bits8, .d l_bit9, .un, .d r16, .d (.tuple [r4, r20]), s21, .ol a26 [(.tuple [r4, r20])], .d (.int 0), .un, .un, .un, .un, .un]) rfl ?_
    refine ws_freezeT 3 n_a2 ?_
    refine ws_env (env' := [.d (.list (ns.map .int)), .bg a_bag, .d r1, .d (dTd r3), .d r4, .dt a10 l_bits8, .d l_bit9, .un, .d r16, .d (.tuple [r4, r20]), s21, .ol a26 [(.tuple [r4, r20])], .d (.int 0), .un, .un, .un, .un, .un]) rfl ?_
    refine ws_cons (whileSC h hp (fun (s : PyData × (List (PySem.NestedKey × PyData)) × (List PyData) × PyData) (u : Sl × Sl × Sl × Sl × Sl × {s : Sl // ∀ b ∈ s.fp, b ∉ g.M} × {a : Addr // a ∉ g.M}) => [.d (.list (ns.map .int)), .bg a_bag, .d r1, .d (dTd r3), .d r4, .dt a10 l_bits8, .d s.1, .un, .d r16, .d (.tuple [r4, r20]), u.2.2.2.2.2.1.1, .ol u.2.2.2.2.2.2.1 s.2.2.1, .d s.2.2.2, u.1, u.2.1, u.2.2.1, u.2.2.2.1, u.2.2.2.2.1]) (fun (s : PyData × (List (PySem.NestedKey × PyData)) × (List PyData) × PyData) (u : Sl × Sl × Sl × Sl × Sl × {s : Sl // ∀ b ∈ s.fp, b ∉ g.M} × {a : Addr // a ∉ g.M}) => IsDN P w s.2.1 u.2.2.2.2.2.1.1) ((.un), (.un), (.un), (.un), (.un), ⟨s21, nM23⟩, ⟨a26, n_a26⟩) rfl hn22 ?_ ?_)
    · rintro ⟨l_bit27, l_far28, l_row29, l_at30⟩ ⟨w31, w32, w33, w34, w35, ⟨s36, nM37⟩, ⟨a38, n_a38⟩⟩ hc h
      refine ws_env (env' := [.d (.list (ns.map .int)), .bg a_bag, .d r1, .d (dTd r3), .d r4, .dt a10 l_bits8, .d l_bit27, .un, .d r16, .d (.tuple [r4, r20]), s36, .ol a38 l_row29, .d l_at30, w31, w32, w33, w34, w35]) rfl ?_
      refine ws_cons (w1_ret ?_)
      refine we_call h__law_alike hr ?_
      refine wa_d ?_
      refine we_len m_len ?_
      refine we_call h_tour hr ?_
      refine wa_d ?_
      refine we_n 2 ?_
      refine ⟨rfl, ?_⟩
      refine wa_d ?_
      refine we_n 4 ?_
      refine ⟨rfl, ?_⟩
      refine wa_nil ?_
      refine ⟨rfl, _, _, _, _, rfl, h, fun r39 h => ⟨rfl, _, rfl, ?_⟩, fun c hc => ⟨rfl, ⟨_, hE _ hc, rfl, rfl⟩⟩⟩
      refine len_sh h fun r40 h => ?_
      refine ⟨rfl, ?_⟩
      refine wa_d ?_
      refine we_getdN 10 hc hr ?_
      refine we_tuple ?_
      refine wa_d ?_
      refine we_n 4 ?_
      refine ⟨rfl, ?_⟩
      refine wa_d ?_
      refine we_n 8 ?_
      refine ⟨rfl, ?_⟩
      refine wa_nil ?_
      refine ⟨_, rfl, szOk rfl, ?_⟩
      refine ⟨rfl, ?_⟩
      refine we_sub ?_
      refine we_int ?_
      refine we_int ?_
      refine sub_sh h fun r41 h => ?_
      refine ⟨rfl, getdN_m h fun r42 h => ?_⟩
      refine ⟨rfl, ?_⟩
      refine wa_nil ?_
      refine ⟨rfl, _, _, _, _, rfl, h, fun r43 h => ⟨rfl, _, rfl, ?_⟩, fun c hc => ⟨rfl, ⟨_, hE _ hc, rfl, rfl⟩⟩⟩
      exact ⟨rfl, _, hK _ h, trivial, rfl, rfl⟩
    · rintro hend ⟨l_bit46, l_far47, l_row48, l_at49⟩ ⟨w50, w51, w52, w53, w54, ⟨s55, nM56⟩, ⟨a57, n_a57⟩⟩ N44 hc h
      refine wt_cp (op_ltA hr) ?_
      refine we_n 12 ?_
      refine we_len m_len ?_
      refine we_nl 11 ?_
      refine len_sh h fun r58 h => ?_
      refine lt_sh h fun b59 h => ?_
      refine ⟨fun e60 => ?_, fun e60 => hend (l_bit46, l_far47, l_row48, l_at49) ((w50), (w51), (w52), (w53), (w54), ⟨s55, nM56⟩, ⟨a57, n_a57⟩) hc (h.2 e60)⟩
      replace h := h.1 e60
      refine ws_env (env' := [.d (.list (ns.map .int)), .bg a_bag, .d r1, .d (dTd r3), .d r4, .dt a10 l_bits8, .d l_bit46, .un, .d r16, .d (.tuple [r4, r20]), s55, .ol a57 l_row48, .d l_at49, w50, w51, w52, w53, w54]) rfl ?_
      refine ws_cons (w1_unpack (pg_tup rfl (pgs_cons (pg_name (i := 13) sc_law.nd rfl (by first | exact Or.inl rfl | exact Or.inr rfl)) (pgs_cons (pg_name (i := 14) sc_law.nd rfl (by first | exact Or.inl rfl | exact Or.inr rfl)) pgs_nil))) (tgd_tup (tgds_cons (tgd_name 13) (tgds_cons (tgd_name 14) tgds_nil)) rfl) ?_)
      refine we_ix ?_
      refine we_nl 11 ?_
      refine we_n 12 ?_
      refine ix_sh h fun r61 h => ?_
      obtain ⟨l_here62, l_mask63, he64, h⟩ := un2_sh h
      refine ⟨rfl, [(13, l_here62), (14, l_mask63)], (by rw [he64]; rfl), rfl, ?_⟩
      refine ws_env (env' := [.d (.list (ns.map .int)), .bg a_bag, .d r1, .d (dTd r3), .d r4, .dt a10 l_bits8, .d l_bit46, .un, .d r16, .d (.tuple [r4, r20]), s55, .ol a57 l_row48, .d l_at49, .d l_here62, .d l_mask63, w52, w53, w54]) rfl ?_
      refine ws_cons (w1_for hp rfl (pg_name (i := 15) sc_law.nd rfl (by first | exact Or.inl rfl | exact Or.inr rfl)) (tgd_name 15) ?_)
      refine wi_d ?_
      refine we_tuple ?_
      refine wa_d ?_
      refine we_str ?_
      refine ⟨rfl, ?_⟩
      refine wa_d ?_
      refine we_str ?_
      refine ⟨rfl, ?_⟩
      refine wa_nil ?_
      refine ⟨_, rfl, szOk rfl, ?_⟩
      refine ⟨rfl, it_sh h fun xs65 h => ?_⟩
      refine forSC h (fun (s : PyData × (List (PySem.NestedKey × PyData)) × (List PyData)) (u : Sl × Sl × {s : Sl // ∀ b ∈ s.fp, b ∉ g.M} × {a : Addr // a ∉ g.M} × Sl) => [.d (.list (ns.map .int)), .bg a_bag, .d r1, .d (dTd r3), .d r4, .dt a10 l_bits8, .d s.1, .un, .d r16, .d (.tuple [r4, r20]), u.2.2.1.1, .ol u.2.2.2.1.1 s.2.2, .d l_at49, .d l_here62, .d l_mask63, u.2.2.2.2, u.1, u.2.1]) (fun (s : PyData × (List (PySem.NestedKey × PyData)) × (List PyData)) (u : Sl × Sl × {s : Sl // ∀ b ∈ s.fp, b ∉ g.M} × {a : Addr // a ∉ g.M} × Sl) => IsDN P w s.2.1 u.2.2.1.1) ((w53), (w54), ⟨s55, nM56⟩, ⟨a57, n_a57⟩, (w52)) rfl hc ?_ ?_
      · rintro ⟨l_bit66, l_far67, l_row68⟩ ⟨w69, w70, ⟨s71, nM72⟩, ⟨a73, n_a73⟩, w74⟩ hc h
        refine ws_env (env' := [.d (.list (ns.map .int)), .bg a_bag, .d r1, .d (dTd r3), .d r4, .dt a10 l_bits8, .d l_bit66, .un, .d r16, .d (.tuple [r4, r20]), s71, .ol a73 l_row68, .d l_at49, .d l_here62, .d l_mask63, w74, w69, w70]) rfl ?_
        refine ws_cons (w1_set 12 sc_law.nd ?_)
        refine we_add ?_
        refine we_n 12 ?_
        refine we_int ?_
        refine add_sh h fun r75 h => ?_
        refine ⟨rfl, ?_⟩
        refine ws_env (env' := [.d (.list (ns.map .int)), .bg a_bag, .d r1, .d (dTd r3), .d r4, .dt a10 l_bits8, .d l_bit66, .un, .d r16, .d (.tuple [r4, r20]), s71, .ol a73 l_row68, .d r75, .d l_here62, .d l_mask63, w74, w69, w70]) rfl ?_
        exact ws_nil ⟨(l_bit66, l_far67, l_row68, r75), ((.d l_here62), (.d l_mask63), (w74), (w69), (w70), ⟨s71, nM72⟩, ⟨a73, n_a73⟩), h, hc, rfl⟩
      · rintro hend l_way76 ⟨l_bit79, l_far80, l_row81⟩ ⟨w82, w83, ⟨s84, nM85⟩, ⟨a86, n_a86⟩, w87⟩ N77 hc h
        refine ⟨[(15, l_way76)], rfl, rfl, ?_⟩
        refine ws_env (env' := [.d (.list (ns.map .int)), .bg a_bag, .d r1, .d (dTd r3), .d r4, .dt a10 l_bits8, .d l_bit79, .un, .d r16, .d (.tuple [r4, r20]), s84, .ol a86 l_row81, .d l_at49, .d l_here62, .d l_mask63, .d l_way76, w82, w83]) rfl ?_
        refine ws_cons (w1_set 16 sc_law.nd ?_)
        refine we_call h__law_moved hr ?_
        refine wa_d ?_
        refine we_n 2 ?_
        refine ⟨rfl, ?_⟩
        refine wa_d ?_
        refine we_n 3 ?_
        refine ⟨rfl, ?_⟩
        refine wa_d ?_
        refine we_n 13 ?_
        refine ⟨rfl, ?_⟩
        refine wa_d ?_
        refine we_str ?_
        refine ⟨rfl, ?_⟩
        refine wa_d ?_
        refine we_n 15 ?_
        refine ⟨rfl, ?_⟩
        refine wa_nil ?_
        refine ⟨rfl, _, _, _, _, _, _, _, rfl, h, fun r88 h => ⟨rfl, _, rfl, ?_⟩, fun c hc => ⟨rfl, ⟨_, hE _ hc, rfl, rfl⟩⟩⟩
        refine ⟨rfl, ?_⟩
        refine ws_env (env' := [.d (.list (ns.map .int)), .bg a_bag, .d r1, .d (dTd r3), .d r4, .dt a10 l_bits8, .d l_bit79, .un, .d r16, .d (.tuple [r4, r20]), s84, .ol a86 l_row81, .d l_at49, .d l_here62, .d l_mask63, .d l_way76, .d r88, w83]) rfl ?_
        refine ws_cons (w1_if ?_)
        refine wt_cp op_notN ?_
        refine we_n 16 ?_
        refine we_none ?_
        refine notN_sh ?_
        obtain ⟨h89, h90⟩ := h
        refine ⟨fun e91 => ?_, fun e91 => ?_⟩
        · replace h := h89 e91
          refine ws_cons (w1_set 6 sc_law.nd ?_)
          refine we_getT 5 hr rfl ?_
          refine we_call h__law_pair hr ?_
          refine wa_d ?_
          refine we_ix ?_
          refine we_n 16 ?_
          refine we_int ?_
          refine ix_sh h fun r92 h => ?_
          refine ⟨rfl, ?_⟩
          refine wa_d ?_
          refine we_ix ?_
          refine we_n 16 ?_
          refine we_int ?_
          refine ix_sh h fun r93 h => ?_
          refine ⟨rfl, ?_⟩
          refine wa_nil ?_
          refine ⟨rfl, _, _, _, _, rfl, h, fun r94 h => ⟨rfl, _, rfl, ?_⟩, fun c hc => ⟨rfl, ⟨_, hE _ hc, rfl, rfl⟩⟩⟩
          refine ⟨rfl, getT_s h fun r95 h => ?_⟩
          refine ⟨rfl, ?_⟩
          refine ws_env (env' := [.d (.list (ns.map .int)), .bg a_bag, .d r1, .d (dTd r3), .d r4, .dt a10 l_bits8, .d r95, .un, .d r16, .d (.tuple [r4, r20]), s84, .ol a86 l_row81, .d l_at49, .d l_here62, .d l_mask63, .d l_way76, .d r88, w83]) rfl ?_
          refine ws_cons (w1_set 17 sc_law.nd ?_)
          refine we_tuple ?_
          refine wa_d ?_
          refine we_n 16 ?_
          refine ⟨rfl, ?_⟩
          refine wa_d ?_
          refine we_ifS h (fun Q h => ?_) (fun Q h => ?_) (fun Q h => ?_) fun r96 h => ?_
          · refine wt_cp (op_eqA hr) ?_
            refine we_mod ?_
            refine we_div ?_
            refine we_n 14 ?_
            refine we_n 6 ?_
            refine div_sh h fun r97 h => ?_
            refine we_int ?_
            refine mod_sh h fun r98 h => ?_
            refine we_int ?_
            refine eq_sh h fun b99 h => ?_
            exact h
          · refine we_n 14 ?_
            exact ⟨rfl, h⟩
          · refine we_add ?_
            refine we_n 14 ?_
            refine we_n 6 ?_
            refine add_sh h fun r100 h => ?_
            exact ⟨rfl, h⟩
          refine ⟨rfl, ?_⟩
          refine wa_nil ?_
          refine ⟨_, rfl, szOk rfl, ?_⟩
          refine ⟨rfl, ?_⟩
          refine ws_env (env' := [.d (.list (ns.map .int)), .bg a_bag, .d r1, .d (dTd r3), .d r4, .dt a10 l_bits8, .d r95, .un, .d r16, .d (.tuple [r4, r20]), s84, .ol a86 l_row81, .d l_at49, .d l_here62, .d l_mask63, .d l_way76, .d r88, .d (.tuple [r88, r96])]) rfl ?_
          refine ws_cons (w1_if ?_)
          refine wt_notInN 10 hc hr ?_
          refine we_n 17 ?_
          refine ⟨rfl, inN_m h fun b101 h => ?_⟩
          obtain ⟨h102, h103⟩ := h
          refine ⟨fun e104 => ?_, fun e104 => ?_⟩
          · replace h := h102 e104
            refine ws_cons (w1_storeN 10 hc nM85 hr ?_)
            refine we_add ?_
            refine we_getN 10 hc hr ?_
            refine we_ix ?_
            refine we_nl 11 ?_
            refine we_n 12 ?_
            refine ix_sh h fun r105 h => ?_
            refine ⟨rfl, getN_m h fun r106 h => ?_⟩
            refine we_int ?_
            refine add_sh h fun r107 h => ?_
            refine ⟨rfl, ?_⟩
            refine we_n 17 ?_
            refine ⟨rfl, putN_m h fun kv108 h => ?_⟩
            intro s109 hn110 nM111
            refine ws_env (env' := [.d (.list (ns.map .int)), .bg a_bag, .d r1, .d (dTd r3), .d r4, .dt a10 l_bits8, .d r95, .un, .d r16, .d (.tuple [r4, r20]), s109, .ol a86 l_row81, .d l_at49, .d l_here62, .d l_mask63, .d l_way76, .d r88, .d (.tuple [r88, r96])]) rfl ?_
            refine ws_cons (w1_append 11 rfl ?_)
            refine we_n 17 ?_
            obtain ⟨hl112, h⟩ := h
            refine ⟨rfl, hl112, ?_⟩
            refine ws_env (env' := [.d (.list (ns.map .int)), .bg a_bag, .d r1, .d (dTd r3), .d r4, .dt a10 l_bits8, .d r95, .un, .d r16, .d (.tuple [r4, r20]), s109, .ol a86 (l_row81 ++ ([(.tuple [r88, r96])] : List PyData)), .d l_at49, .d l_here62, .d l_mask63, .d l_way76, .d r88, .d (.tuple [r88, r96])]) rfl ?_
            refine ws_nil ?_
            refine ws_nil ?_
            exact ws_nil ⟨(r95, kv108, (l_row81 ++ ([(.tuple [r88, r96])] : List PyData))), ((.d r88), (.d (.tuple [r88, r96])), ⟨s109, nM111⟩, ⟨a86, n_a86⟩, (.d l_way76)), h, hn110, rfl⟩
          · replace h := h103 e104
            refine ws_nil ?_
            refine ws_nil ?_
            exact ws_nil ⟨(r95, l_far80, l_row81), ((.d r88), (.d (.tuple [r88, r96])), ⟨s84, nM85⟩, ⟨a86, n_a86⟩, (.d l_way76)), h, hc, rfl⟩
        · replace h := h90 e91
          refine ws_nil ?_
          exact ws_nil ⟨(l_bit79, l_far80, l_row81), ((.d r88), (w83), ⟨s84, nM85⟩, ⟨a86, n_a86⟩, (.d l_way76)), h, hc, rfl⟩
  · rintro hend l_line113 ⟨l_bits116, l_bit117⟩ ⟨⟨a118, n_a118⟩, w119⟩ N114 h
    refine ⟨[(7, l_line113)], rfl, rfl, ?_⟩
    refine ws_env (env' := [.d (.list (ns.map .int)), .bg a_bag, .d r1, .dt a2 r3, .d r4, .dt a118 l_bits116, .d l_bit117, .d l_line113, .un, .un, .un, .un, .un, .un, .un, .un, .un, .un]) rfl ?_
    refine ws_cons (w1_storeTB 5 hr ?_)
    refine we_n 6 ?_
    refine ⟨rfl, ?_⟩
    refine we_n 7 ?_
    refine ⟨rfl, putT_m h fun kv120 h => ?_⟩
    refine ws_env (env' := [.d (.list (ns.map .int)), .bg a_bag, .d r1, .dt a2 r3, .d r4, .dt a118 kv120, .d l_bit117, .d l_line113, .un, .un, .un, .un, .un, .un, .un, .un, .un, .un]) rfl ?_
    refine ws_cons (w1_set 6 sc_law.nd ?_)
    refine we_mulA ?_
    refine we_int ?_
    refine we_n 6 ?_
    refine mul_sh h fun r121 h => ?_
    refine ⟨rfl, ?_⟩
    refine ws_env (env' := [.d (.list (ns.map .int)), .bg a_bag, .d r1, .dt a2 r3, .d r4, .dt a118 kv120, .d r121, .d l_line113, .un, .un, .un, .un, .un, .un, .un, .un, .un, .un]) rfl ?_
    exact ws_nil ⟨(kv120, r121), (⟨a118, n_a118⟩, (.d l_line113)), h, rfl⟩
end
end Tx
namespace Tx
open Hd PySem PySem.Spec PyProof.Rows L2 TL
set_option maxRecDepth 100000
theorem facts {P : Program} {w : World} {K0 K : PySem.W.Frag} (hK : K = markK tf K0) {h : Heap} {mg : Str → Option Value} {f : Addr} (X0 : K0.In h) (G : h.Ns mainGlobals mg) (hfa : mg ("law" : Str) = some (.ref f)) (sl : SaysL xf fa fn tf h K0) :
    ∃ fd : FuncData, (∀ (s : Shared) (v : Value), BindsTo s fd ⟨[v], []⟩ [("_law_script", v)]) ∧ ∀ base : Heap, K.In base → base.Ns mainGlobals mg → (∀ p ∈ csOf tf K0, LamX.TabB base mg p.1 p.2) → FnOk P w K mg base (L2.CX P w) 69 f fd ["_law_script"] (spOf K 1 cLaw) := by
  have X : K.In h := by rw [hK]; exact sl.kin X0
  have c : SaysX xf fa fn K := by rw [hK]; exact sl.x
  obtain ⟨fd_crossing, F_crossing⟩ := c.d.def_ 0 (d := d_crossing) rfl
  obtain ⟨fd_is_cut, F_is_cut⟩ := c.d.def_ 1 (d := d_is_cut) rfl
  obtain ⟨fd_is_plan, F_is_plan⟩ := c.d.def_ 2 (d := d_is_plan) rfl
  obtain ⟨fd_need_plan, F_need_plan⟩ := c.d.def_ 3 (d := d_need_plan) rfl
  obtain ⟨fd_follows, F_follows⟩ := c.d.def_ 4 (d := d_follows) rfl
  obtain ⟨fd_pair_of, F_pair_of⟩ := c.d.def_ 5 (d := d_pair_of) rfl
  obtain ⟨fd_all_lines, F_all_lines⟩ := c.d.def_ 6 (d := d_all_lines) rfl
  obtain ⟨fd_neighbours, F_neighbours⟩ := c.d.def_ 7 (d := d_neighbours) rfl
  obtain ⟨fd_need_place, F_need_place⟩ := c.d.def_ 8 (d := d_need_place) rfl
  obtain ⟨fd_between, F_between⟩ := c.d.def_ 9 (d := d_between) rfl
  obtain ⟨fd_third_corner, F_third_corner⟩ := c.d.def_ 10 (d := d_third_corner) rfl
  obtain ⟨fd_tour_by, F_tour_by⟩ := c.d.def_ 11 (d := d_tour_by) rfl
  obtain ⟨fd_tour, F_tour⟩ := c.d.def_ 12 (d := d_tour) rfl
  obtain ⟨fd__law_alike, F__law_alike⟩ := c.d.def_ 13 (d := d__law_alike) rfl
  obtain ⟨fd__law_all_lines, F__law_all_lines⟩ := c.d.def_ 14 (d := d__law_all_lines) rfl
  obtain ⟨fd__law_bag, F__law_bag⟩ := c.d.def_ 15 (d := d__law_bag) rfl
  obtain ⟨fd__law_cut_arc, F__law_cut_arc⟩ := c.d.def_ 16 (d := d__law_cut_arc) rfl
  obtain ⟨fd__law_drawn_plan, F__law_drawn_plan⟩ := c.d.def_ 17 (d := d__law_drawn_plan) rfl
  obtain ⟨fd__law_going, F__law_going⟩ := c.d.def_ 18 (d := d__law_going) rfl
  obtain ⟨fd__law_moved, F__law_moved⟩ := c.d.def_ 19 (d := d__law_moved) rfl
  obtain ⟨fd__law_pair, F__law_pair⟩ := c.d.def_ 20 (d := d__law_pair) rfl
  obtain ⟨fd__law_plan, F__law_plan⟩ := c.d.def_ 21 (d := d__law_plan) rfl
  obtain ⟨fd__law_pull, F__law_pull⟩ := c.d.def_ 22 (d := d__law_pull) rfl
  obtain ⟨fd__law_spot, F__law_spot⟩ := c.d.def_ 23 (d := d__law_spot) rfl
  obtain ⟨fd__law_spots, F__law_spots⟩ := c.d.def_ 24 (d := d__law_spots) rfl
  obtain ⟨fd__law_third, F__law_third⟩ := c.d.def_ 25 (d := d__law_third) rfl
  obtain ⟨fd__law_tied, F__law_tied⟩ := c.d.def_ 26 (d := d__law_tied) rfl
  obtain ⟨fd__law_whole, F__law_whole⟩ := c.d.def_ 27 (d := d__law_whole) rfl
  obtain ⟨fd_law, F_law⟩ := c.d.def_ 28 (d := d_law) rfl
  have e := hfa.symm.trans (He.glo_ok X G (c.d.fact 28 (f := .glo "law") rfl))
  cases e
  have bl := FunD.bindsA (ps := ["_law_script"]) F_law fun _ _ _ _ _ _ us hl => match us, hl with | [_], _ => rfl
  refine ⟨fd_law, fun s v => bl s [v] rfl, fun base _ _ hB => ?_⟩
  have h_o__law_bag := ok_o__law_bag (P := P) (w := w) (K := K) (mg := mg) (base := base) (k := 0) F__law_bag (He.glo_ok X G (c.d.fact 15 (f := .glo "_law_bag") rfl)) (F__law_bag.bindsN fun _ _ _ _ _ _ us hl => match us, hl with | [_], _ => rfl) (He.free_ok X G (c.d.fact 39 (f := .free "len") rfl)) (He.free_ok X G (c.d.fact 32 (f := .free "abs") rfl)) (He.free_ok X G (c.d.fact 37 (f := .free "int") rfl))
  have h_o__law_pull := ok_o__law_pull (P := P) (w := w) (K := K) (mg := mg) (base := base) (k := 0) F__law_pull (He.glo_ok X G (c.d.fact 22 (f := .glo "_law_pull") rfl)) (F__law_pull.bindsN fun _ _ _ _ _ _ us hl => match us, hl with | [_, _], _ => rfl) (He.free_ok X G (c.d.fact 39 (f := .free "len") rfl))
  have h__law_pull := ok__law_pull (P := P) (w := w) (K := K) (mg := mg) (base := base) (k := 1) (h_o__law_pull.mono (by decide))
  have h_o__law_cut_arc := ok_o__law_cut_arc (P := P) (w := w) (K := K) (mg := mg) (base := base) F__law_cut_arc (He.glo_ok X G (c.d.fact 16 (f := .glo "_law_cut_arc") rfl)) (F__law_cut_arc.bindsN fun _ _ _ _ _ _ us hl => match us, hl with | [_, _, _, _], _ => rfl) (h_o__law_pull.mono (by decide)) 0 64
  have h__law_pair := ok__law_pair (P := P) (w := w) (K := K) (mg := mg) (base := base) (k := 0) F__law_pair (He.glo_ok X G (c.d.fact 20 (f := .glo "_law_pair") rfl)) (F__law_pair.bindsN fun _ _ _ _ _ _ us hl => match us, hl with | [_, _], _ => rfl) (He.free_ok X G (c.d.fact 42 (f := .free "min") rfl)) (He.free_ok X G (c.d.fact 41 (f := .free "max") rfl))
  have h_o__law_pair := ok_o__law_pair (P := P) (w := w) (K := K) (mg := mg) (base := base) (k := 0) F__law_pair (He.glo_ok X G (c.d.fact 20 (f := .glo "_law_pair") rfl)) (F__law_pair.bindsN fun _ _ _ _ _ _ us hl => match us, hl with | [_, _], _ => rfl) (He.free_ok X G (c.d.fact 42 (f := .free "min") rfl)) (He.free_ok X G (c.d.fact 41 (f := .free "max") rfl))
  have h_o__law_drawn_plan := ok_o__law_drawn_plan (P := P) (w := w) (K := K) (mg := mg) (base := base) (k := 66) F__law_drawn_plan (He.glo_ok X G (c.d.fact 17 (f := .glo "_law_drawn_plan") rfl)) (F__law_drawn_plan.bindsN fun _ _ _ _ _ _ us hl => match us, hl with | [_, _], _ => rfl) (He.free_ok X G (c.d.fact 47 (f := .free "tuple") rfl)) (h_o__law_cut_arc.mono (by decide)) (He.free_ok X G (c.d.fact 44 (f := .free "sorted") rfl)) (h_o__law_pair.mono (by decide))
  have h__law_drawn_plan := ok__law_drawn_plan (P := P) (w := w) (K := K) (mg := mg) (base := base) (k := 67) (h_o__law_drawn_plan.mono (by decide))
  have h__law_plan := ok__law_plan (P := P) (w := w) (K := K) (mg := mg) (base := base) (k := 67) F__law_plan (He.glo_ok X G (c.d.fact 21 (f := .glo "_law_plan") rfl)) (F__law_plan.bindsN fun _ _ _ _ _ _ us hl => match us, hl with | [_, _], _ => rfl) (h__law_pull.mono (by decide)) (h__law_drawn_plan.mono (by decide))
  have h__law_all_lines := ok__law_all_lines (P := P) (w := w) (K := K) (mg := mg) (base := base) (k := 0) F__law_all_lines (He.glo_ok X G (c.d.fact 14 (f := .glo "_law_all_lines") rfl)) (F__law_all_lines.bindsN fun _ _ _ _ _ _ us hl => match us, hl with | [_], _ => rfl) (He.free_ok X G (c.d.fact 43 (f := .free "range") rfl)) (He.free_ok X G (c.d.fact 44 (f := .free "sorted") rfl)) (He.free_ok X G (c.d.fact 40 (f := .free "list") rfl))
  have h__law_tied := ok__law_tied (P := P) (w := w) (K := K) (mg := mg) (base := base) (k := 1) F__law_tied (He.glo_ok X G (c.d.fact 26 (f := .glo "_law_tied") rfl)) (F__law_tied.bindsN fun _ _ _ _ _ _ us hl => match us, hl with | [_], _ => rfl) (h__law_all_lines.mono (by decide))
  have h__law_spots := ok__law_spots (P := P) (w := w) (K := K) (mg := mg) (base := base) (k := 2) F__law_spots (He.glo_ok X G (c.d.fact 24 (f := .glo "_law_spots") rfl)) (F__law_spots.bindsN fun _ _ _ _ _ _ us hl => match us, hl with | [_], _ => rfl) (He.free_ok X G (c.d.fact 44 (f := .free "sorted") rfl)) (He.free_ok X G (c.d.fact 40 (f := .free "list") rfl)) (h__law_tied.mono (by decide))
  have h__law_spot := ok__law_spot (P := P) (w := w) (K := K) (mg := mg) (base := base) (k := 3) F__law_spot (He.glo_ok X G (c.d.fact 23 (f := .glo "_law_spot") rfl)) (F__law_spot.bindsN fun _ _ _ _ _ _ us hl => match us, hl with | [_, _], _ => rfl) (h__law_spots.mono (by decide)) (h__law_pull.mono (by decide)) (He.free_ok X G (c.d.fact 39 (f := .free "len") rfl))
  have h__law_whole := ok__law_whole (P := P) (w := w) (K := K) (mg := mg) (base := base) (k := 0) F__law_whole (He.glo_ok X G (c.d.fact 27 (f := .glo "_law_whole") rfl)) (F__law_whole.bindsN fun _ _ _ _ _ _ us hl => match us, hl with | [_], _ => rfl) (He.free_ok X G (c.d.fact 38 (f := .free "isinstance") rfl)) (He.free_ok X G (c.d.fact 37 (f := .free "int") rfl)) (He.free_ok X G (c.d.fact 35 (f := .free "bool") rfl))
  have h_o__law_whole := ok_o__law_whole (P := P) (w := w) (K := K) (mg := mg) (base := base) (k := 0) F__law_whole (He.glo_ok X G (c.d.fact 27 (f := .glo "_law_whole") rfl)) (F__law_whole.bindsN fun _ _ _ _ _ _ us hl => match us, hl with | [_], _ => rfl) (He.free_ok X G (c.d.fact 38 (f := .free "isinstance") rfl)) (He.free_ok X G (c.d.fact 37 (f := .free "int") rfl)) (He.free_ok X G (c.d.fact 35 (f := .free "bool") rfl))
  have h_o__law_alike := ok_o__law_alike (P := P) (w := w) (K := K) (mg := mg) (base := base) F__law_alike (He.glo_ok X G (c.d.fact 13 (f := .glo "_law_alike") rfl)) (F__law_alike.bindsN fun _ _ _ _ _ _ us hl => match us, hl with | [_, _], _ => rfl) (He.free_ok X G (c.d.fact 38 (f := .free "isinstance") rfl)) (He.free_ok X G (c.d.fact 35 (f := .free "bool") rfl)) (He.free_ok X G (c.d.fact 37 (f := .free "int") rfl)) (He.free_ok X G (c.d.fact 45 (f := .free "str") rfl)) (He.free_ok X G (c.d.fact 33 (f := .free "all") rfl)) (h_o__law_whole.mono (by decide)) (He.free_ok X G (c.d.fact 40 (f := .free "list") rfl)) (He.free_ok X G (c.d.fact 47 (f := .free "tuple") rfl)) (He.free_ok X G (c.d.fact 39 (f := .free "len") rfl)) (He.free_ok X G (c.d.fact 43 (f := .free "range") rfl)) 0 8
  have h__law_alike := ok__law_alike (P := P) (w := w) (K := K) (mg := mg) (base := base) (k := 10) (h_o__law_alike.mono (by decide))
  have h__law_going := ok__law_going (P := P) (w := w) (K := K) (mg := mg) (base := base) (k := 0) F__law_going (He.glo_ok X G (c.d.fact 18 (f := .glo "_law_going") rfl)) (F__law_going.bindsN fun _ _ _ _ _ _ us hl => match us, hl with | [_, _, _], _ => rfl)
  have h__law_third := ok__law_third (P := P) (w := w) (K := K) (mg := mg) (base := base) (k := 1) F__law_third (He.glo_ok X G (c.d.fact 25 (f := .glo "_law_third") rfl)) (F__law_third.bindsN fun _ _ _ _ _ _ us hl => match us, hl with | [_, _, _, _], _ => rfl) (h__law_going.mono (by decide))
  have h__law_moved := ok__law_moved (P := P) (w := w) (K := K) (mg := mg) (base := base) (k := 2) F__law_moved (He.glo_ok X G (c.d.fact 19 (f := .glo "_law_moved") rfl)) (F__law_moved.bindsN fun _ _ _ _ _ _ us hl => match us, hl with | [_, _, _, _, _], _ => rfl) (h__law_third.mono (by decide))
  have h_is_cut := ok_is_cut (P := P) (w := w) (K := K) (mg := mg) (base := base) (k := 0) F_is_cut (He.glo_ok X G (c.d.fact 1 (f := .glo "is_cut") rfl)) (F_is_cut.bindsN fun _ _ _ _ _ _ us hl => match us, hl with | [_, _], _ => rfl)
  have h_crossing := ok_crossing (P := P) (w := w) (K := K) (mg := mg) (base := base) (k := 0) F_crossing (He.glo_ok X G (c.d.fact 0 (f := .glo "crossing") rfl)) (F_crossing.bindsN fun _ _ _ _ _ _ us hl => match us, hl with | [_, _], _ => rfl) (He.free_ok X G (c.d.fact 39 (f := .free "len") rfl))
  have h_is_plan := ok_is_plan (P := P) (w := w) (K := K) (mg := mg) (base := base) (k := 1) F_is_plan (He.glo_ok X G (c.d.fact 2 (f := .glo "is_plan") rfl)) (F_is_plan.bindsN fun _ _ _ _ _ _ us hl => match us, hl with | [_], _ => rfl) (He.int_ok X G (c.d.fact 48 (f := .int "LEAST" 3) rfl)) (He.int_ok X G (c.d.fact 49 (f := .int "MOST" 40) rfl)) (He.free_ok X G (c.d.fact 39 (f := .free "len") rfl)) (He.free_ok X G (c.d.fact 33 (f := .free "all") rfl)) (h_is_cut.mono (by decide)) (He.free_ok X G (c.d.fact 43 (f := .free "range") rfl)) (He.free_ok X G (c.d.fact 36 (f := .free "enumerate") rfl)) (He.free_ok X G (c.d.fact 34 (f := .free "any") rfl)) (h_crossing.mono (by decide))
  have h_need_plan := ok_need_plan (P := P) (w := w) (K := K) (mg := mg) (base := base) (k := 2) F_need_plan (He.glo_ok X G (c.d.fact 3 (f := .glo "need_plan") rfl)) (F_need_plan.bindsN fun _ _ _ _ _ _ us hl => match us, hl with | [_], _ => rfl) (h_is_plan.mono (by decide)) (exk_of (He.glo_ok X G (c.d.fact 30 (f := .glo "BadPlan") rfl)) (He.exc_ok (c.d.fact 52 (f := .exc "BadPlan") rfl)))
  have h_pair_of := ok_pair_of (P := P) (w := w) (K := K) (mg := mg) (base := base) (k := 0) F_pair_of (He.glo_ok X G (c.d.fact 5 (f := .glo "pair_of") rfl)) (F_pair_of.bindsN fun _ _ _ _ _ _ us hl => match us, hl with | [_, _], _ => rfl) (He.free_ok X G (c.d.fact 42 (f := .free "min") rfl)) (He.free_ok X G (c.d.fact 41 (f := .free "max") rfl))
  have h_follows := ok_follows (P := P) (w := w) (K := K) (mg := mg) (base := base) (k := 0) F_follows (He.glo_ok X G (c.d.fact 4 (f := .glo "follows") rfl)) (F_follows.bindsN fun _ _ _ _ _ _ us hl => match us, hl with | [_, _], _ => rfl)
  have h_all_lines := ok_all_lines (P := P) (w := w) (K := K) (mg := mg) (base := base) (k := 1) F_all_lines (He.glo_ok X G (c.d.fact 6 (f := .glo "all_lines") rfl)) (F_all_lines.bindsN fun _ _ _ _ _ _ us hl => match us, hl with | [_], _ => rfl) (He.free_ok X G (c.d.fact 44 (f := .free "sorted") rfl)) (He.free_ok X G (c.d.fact 43 (f := .free "range") rfl)) (h_pair_of.mono (by decide)) (h_follows.mono (by decide)) (He.free_ok X G (c.d.fact 40 (f := .free "list") rfl))
  have h_need_place := ok_need_place (P := P) (w := w) (K := K) (mg := mg) (base := base) (k := 3) F_need_place (He.glo_ok X G (c.d.fact 8 (f := .glo "need_place") rfl)) (F_need_place.bindsN fun _ _ _ _ _ _ us hl => match us, hl with | [_, _], _ => rfl) (h_need_plan.mono (by decide)) (h_pair_of.mono (by decide)) (h_all_lines.mono (by decide)) (exk_of (He.glo_ok X G (c.d.fact 31 (f := .glo "BadPlace") rfl)) (He.exc_ok (c.d.fact 53 (f := .exc "BadPlace") rfl)))
  have h_between := ok_between (P := P) (w := w) (K := K) (mg := mg) (base := base) (k := 0) F_between (He.glo_ok X G (c.d.fact 9 (f := .glo "between") rfl)) (F_between.bindsN fun _ _ _ _ _ _ us hl => match us, hl with | [_, _, _, _], _ => rfl)
  have h_third_corner := ok_third_corner (P := P) (w := w) (K := K) (mg := mg) (base := base) (k := 1) F_third_corner (He.glo_ok X G (c.d.fact 10 (f := .glo "third_corner") rfl)) (F_third_corner.bindsN fun _ _ _ _ _ _ us hl => match us, hl with | [_, _, _, _], _ => rfl) (h_between.mono (by decide))
  have h_tour_by := ok_tour_by (P := P) (w := w) (K := K) (mg := mg) (base := base) (k := 2) F_tour_by (He.glo_ok X G (c.d.fact 11 (f := .glo "tour_by") rfl)) (F_tour_by.bindsN fun _ _ _ _ _ _ us hl => match us, hl with | [_, _, _, _], _ => rfl) (gtup_ok X G (c.d.fact 50 (f := .glo "WAYS") rfl) (c.xf 0)) (h_third_corner.mono (by decide)) (He.free_ok X G (c.d.fact 47 (f := .free "tuple") rfl)) (He.free_ok X G (c.d.fact 44 (f := .free "sorted") rfl)) (He.free_ok X G (c.d.fact 43 (f := .free "range") rfl)) 64
  have h_neighbours := ok_neighbours (P := P) (w := w) (K := K) (mg := mg) (base := base) (k := 2) F_neighbours (He.glo_ok X G (c.d.fact 7 (f := .glo "neighbours") rfl)) (F_neighbours.bindsN fun _ _ _ _ _ _ us hl => match us, hl with | [_], _ => rfl) (He.free_ok X G (c.d.fact 43 (f := .free "range") rfl)) (h_all_lines.mono (by decide)) (He.free_ok X G (c.d.fact 44 (f := .free "sorted") rfl))
  have h_tour := ok_tour (P := P) (w := w) (K := K) (mg := mg) (base := base) (k := 67) F_tour (He.glo_ok X G (c.d.fact 12 (f := .glo "tour") rfl)) (F_tour.bindsN fun _ _ _ _ _ _ us hl => match us, hl with | [_, _], _ => rfl) (h_need_place.mono (by decide)) (h_tour_by.mono (by decide)) (h_neighbours.mono (by decide))
  exact ok_law (P := P) (w := w) (K := K) (mg := mg) (base := base) (k := 68) F_law (h_o__law_bag.mono (by decide)) (h__law_plan.mono (by decide)) (h__law_tied.mono (by decide)) (h__law_spot.mono (by decide)) (h__law_all_lines.mono (by decide)) (He.free_ok X G (c.d.fact 46 (f := .free "sum") rfl)) (He.free_ok X G (c.d.fact 40 (f := .free "list") rfl)) (h__law_pair.mono (by decide)) (h__law_alike.mono (by decide)) (He.free_ok X G (c.d.fact 39 (f := .free "len") rfl)) (h_tour.mono (by decide)) (h__law_moved.mono (by decide))
end Tx
open PySem PySem.W PySem.Calls PyProof.Rows
theorem PySem.Challenge.cw_pinchfold_k29_whole_no_shorter_tour_holds : PySem.Challenge.rw_pinchfold_k29_whole_no_shorter_tour.Holds := by
  w_on; o_law
  refine HandSHeadRun.head_any (r := OpenLaw.row PySem.Challenge.rw_pinchfold_k29_whole_no_shorter_tour) (q := view (OpenLaw.row PySem.Challenge.rw_pinchfold_k29_whole_no_shorter_tour).prog [39]) (H := Tx.Hd.hk) (ob := Tx.Hd.ob) (M := 6000) (loose := Tx.Hd.loose) (d := HandSHeadRun.topDef (OpenLaw.row PySem.Challenge.rw_pinchfold_k29_whole_no_shorter_tour).prog 39) (kwd := []) Tx.Hd.ob_eq
    (by kernel_rfl) (fun s => by kernel_rfl) Tx.Hd.run (by kernel_rfl) (by kernel_rfl) (by kernel_rfl) (by rfl) (by first | assumption | decide +kernel) (by decide +kernel) ⟨rfl, rfl, rfl, rfl, rfl, by decide +kernel⟩ ?hw ?hc
  case hw => w_witness2
  case hc =>
    refine TL.walk_xT (l := PySem.Challenge.rw_pinchfold_k29_whole_no_shorter_tour) (m := 63) (j := 69) (x := "_law_script") rfl (by decide) (by kernel_rfl) ⟨rfl, by decide, by decide⟩ ?_
    intro w mg fa h Y G hmg0
    obtain ⟨K0, KX, c⟩ := Y
    have hmg : mg ("law" : PySem.Str) = some (.ref fa) := by
      have e : (HandSHeadRun.topDef (OpenLaw.row PySem.Challenge.rw_pinchfold_k29_whole_no_shorter_tour).prog 39).name = ("law" : PySem.Str) := by kernel_rfl
      rw [← e]
      exact hmg0
    exact ⟨_, c.kin KX, TL.lawAt c KX (Tx.facts (P := (PySem.Challenge.rw_pinchfold_k29_whole_no_shorter_tour).prog) (w := w) rfl KX G hmg c)⟩
