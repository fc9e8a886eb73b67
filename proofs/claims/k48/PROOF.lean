import PyProof.Rows.All
import Wide.All
import OpenK.AllK
import Wide.FinOn
import HandS.Base
import HandS.Call
import HandS.List
import HandS.Exc
import HandS.ExcOwn
import HandS.Defaults
import HandS.HeadHook1
import HandS.HeadHook2
import HandS.Lambda
import HandS.Deep
import HandS.Wide
import HandS.TupAny
import HandS.SortInts
import KE.SortData
import HandS.Comp
import HandS.TryMany
import HandS.TryOnly
import HandS.HeadEnd
import HandS.Words
import HandS.WordsExc
import HandS.EndBits
import HandS.Iter
import HandS.Walk
import KE.GoesEnum
import KE.GoesMore
import HandS.IsInst
import HandS.Text
import HandS.Dict
import HandS.Conv
import HandS.Style
import HandS.TupLe
import PyProof.StrOps2
import HandS.FStr
import HandS.RaiseMore
import HandS.TupSets
import HandS.HeadHook4
import HandS.HeadWalk
import KE.KDictDisplayH
import HandS.TupLen
import KE.DataMinMax
import HandS.MakeKwOnly
import HandS.More
import HandS.DictTup
import KE.KDictCopyH
import KE.KeyNested
import KE.KDictKeyed
import KE.GoesZip
import HandS.Zip
import HandS.HeadHook3
import HandS.ExcInit
import HandS.ExcField
import HandS.ReplaceLit
import PyProof.DictUpdate
import PyProof.ReprRoads
import KE.IntTextLaws
import PyProof.ReprLen
import PyProof.Rows.ReprOcc
import PyProof.P3Eq
import KE.KStateDown
import Lean
import HandS.Head0
import HandS.Head1
import HandS.Head2
import PySem.Challenge.RW_pinchfold_k48_watches_refused_and_taken
set_option Elab.async false
set_option linter.all false
set_option maxRecDepth 100000
set_option maxHeartbeats 4000000
namespace TL
open PySem PySem.Spec PyProof.Rows L2
abbrev Frag := PySem.W.Frag
abbrev SS := L2.St
def Ex (H H' : Hp) : Prop := ∀ a o, H a = some o → H' a = some o
theorem Ex.refl (H : Hp) : Ex H H := fun _ _ h => h
theorem Ex.trans {H H1 H2 : Hp} (a : Ex H H1) (b : Ex H1 H2) : Ex H H2 := fun x o h => b x o (a x o h)
theorem Ex.new {H : Hp} {p : Addr} {o : HO} (h : H p = none) : Ex H (upd H p o) := fun a u e => by
  rw [upd_ne (ne_of_none e h)]; exact e
theorem Ex.mut {H H' : Hp} {p : Addr} {o : HO} (e : Ex H H') (h : H p = none) : Ex H (upd H' p o) := fun a u ha => by
  rw [upd_ne (ne_of_none ha h)]; exact e a u ha
theorem Ex.none {H H' : Hp} (e : Ex H H') {a : Addr} (h : H' a = none) : H a = none := by
  cases q : H a with
  | none => rfl
  | some o => rw [e a o q] at h; cases h
theorem ex_rd {H H' : Hp} {a : Addr} {u : HO} (e : Ex H H') (h : Rd H a u) : Rd H' a u := by
  rcases h with h | ⟨o, h⟩
  · exact .inl (e a _ h)
  · exact .inr ⟨o, e a _ h⟩
theorem ex_l {K : Frag} {H H' : Hp} {a : Addr} {xs : List V} (e : Ex H H') (h : SqL K H a xs) : SqL K H' a xs := by
  rcases h with h | h
  · exact .inl (ex_rd e h)
  · exact .inr h
theorem ex_t {K : Frag} {H H' : Hp} {a : Addr} {xs : List V} (e : Ex H H') (h : SqT K H a xs) : SqT K H' a xs := by
  rcases h with h | h
  · exact .inl (ex_rd e h)
  · exact .inr h
def kD : Key → PyData
  | .inl i => .int i
  | .inr s => .str s
def kitTys : List String := ["NoneType", "bool", "int", "str", "list", "tuple", "dict"]
/-- a class of the program's own that is none of the kit's types -/
structure InsK (K : Frag) (n : Str) : Prop where
  cls : Cls K (He.ga K n)
  c1 : PySem.W.findIn K (.ref (He.ga K n)) (Str.ofString "__class__") = some (some (.builtin "object.__class__"))
  c2 : PySem.W.specialIn K (.builtin "object.__class__") (Str.ofString "__get__") = some (some (.builtin "getset_descriptor.__get__"))
  c3 : PySem.W.takesIn K (.builtin "object.__class__") = some true
  c4 : PySem.W.mroIn K (He.ga K n) (.type "object") = some true
  kit : ∀ T ∈ kitTys, PySem.W.kitOne K (.ref (He.ga K n)) (.type T) = some false
/-- the one tuple of the module that becomes data -/
abbrev startD : PyData := .tuple [.int 0, .int 1, .int 0]
abbrev startV : List V := [.int 0, .int 1, .int 0]
mutual
inductive Dq (K : Frag) (H : Hp) : V → PyData → Prop
  | non : Dq K H .non .none
  | bl (b : Bool) : Dq K H (.bl b) (.bool b)
  | int (i : Int) : Dq K H (.int i) (.int i)
  | str (x : Str) : Dq K H (.str x) (.str x)
  | lst {a : Addr} {xs : List V} {ds : List PyData} : SqL K H a xs → DqAll K H xs ds → Dq K H (.ref a) (.list ds)
  | tup {a : Addr} {xs : List V} {ds : List PyData} : H a = some (.tup xs) → DqAll K H xs ds → Dq K H (.ref a) (.tuple ds)
  | ktup {a : Addr} : (∀ H, SqT K H a startV) → Dq K H (.ref a) startD
  | dct {a : Addr} {vs : List (List Key × V)} {kvs : List (PyData × PyData)} : H a = some (.dT vs) → DqT K H vs kvs → Dq K H (.ref a) (.dict ((.none, .none) :: kvs))
  | dck {a : Addr} {vs : List (Key × V)} {kvs : List (PyData × PyData)} : H a = some (.dK vs) → DqK K H vs kvs → Dq K H (.ref a) (.dict kvs)
  | ins {a dx : Addr} {n : Str} {vs : List (Str × V)} {kvs : List (PyData × PyData)} : InsK K n → H a = some (.ins (He.ga K n) dx vs) → DqF K H vs kvs → Dq K H (.ref a) (.dict ((.bool true, .str n) :: kvs))
inductive DqAll (K : Frag) (H : Hp) : List V → List PyData → Prop
  | nil : DqAll K H [] []
  | cons {v : V} {vs : List V} {d : PyData} {ds : List PyData} : Dq K H v d → DqAll K H vs ds → DqAll K H (v :: vs) (d :: ds)
inductive DqT (K : Frag) (H : Hp) : List (List Key × V) → List (PyData × PyData) → Prop
  | nil : DqT K H [] []
  | cons {k : List Key} {v : V} {vs : List (List Key × V)} {d : PyData} {ds : List (PyData × PyData)} : Dq K H v d → DqT K H vs ds → DqT K H ((k, v) :: vs) ((.tuple (k.map kD), d) :: ds)
inductive DqK (K : Frag) (H : Hp) : List (Key × V) → List (PyData × PyData) → Prop
  | nil : DqK K H [] []
  | cons {k : Key} {v : V} {vs : List (Key × V)} {d : PyData} {ds : List (PyData × PyData)} : Dq K H v d → DqK K H vs ds → DqK K H ((k, v) :: vs) ((kD k, d) :: ds)
inductive DqF (K : Frag) (H : Hp) : List (Str × V) → List (PyData × PyData) → Prop
  | nil : DqF K H [] []
  | cons {k : Str} {v : V} {vs : List (Str × V)} {d : PyData} {ds : List (PyData × PyData)} : Dq K H v d → DqF K H vs ds → DqF K H ((k, v) :: vs) ((.str k, d) :: ds)
end
section
variable {K : Frag} {H H' : Hp}
mutual
theorem dp_mono (e : Ex H H') : ∀ (d : PyData) (v : V), Dq K H v d → Dq K H' v d
  | _, _, .non => .non
  | _, _, .bl b => .bl b
  | _, _, .int i => .int i
  | _, _, .str x => .str x
  | _, _, .lst hs ha => .lst (ex_l e hs) (dpa_mono e _ _ ha)
  | _, _, .tup hs ha => .tup (e _ _ hs) (dpa_mono e _ _ ha)
  | _, _, .ktup hs => .ktup hs
  | _, _, .dct hs ha => .dct (e _ _ hs) (dqt_mono e _ _ ha)
  | _, _, .dck hs ha => .dck (e _ _ hs) (dqk_mono e _ _ ha)
  | _, _, .ins hk hs ha => .ins hk (e _ _ hs) (dqf_mono e _ _ ha)
theorem dpa_mono (e : Ex H H') : ∀ (ds : List PyData) (vs : List V), DqAll K H vs ds → DqAll K H' vs ds
  | _, _, .nil => .nil
  | _, _, .cons h1 h2 => .cons (dp_mono e _ _ h1) (dpa_mono e _ _ h2)
theorem dqt_mono (e : Ex H H') : ∀ (ds : List (PyData × PyData)) (vs : List (List Key × V)), DqT K H vs ds → DqT K H' vs ds
  | _, _, .nil => .nil
  | _, _, .cons h1 h2 => .cons (dp_mono e _ _ h1) (dqt_mono e _ _ h2)
theorem dqk_mono (e : Ex H H') : ∀ (ds : List (PyData × PyData)) (vs : List (Key × V)), DqK K H vs ds → DqK K H' vs ds
  | _, _, .nil => .nil
  | _, _, .cons h1 h2 => .cons (dp_mono e _ _ h1) (dqk_mono e _ _ h2)
theorem dqf_mono (e : Ex H H') : ∀ (ds : List (PyData × PyData)) (vs : List (Str × V)), DqF K H vs ds → DqF K H' vs ds
  | _, _, .nil => .nil
  | _, _, .cons h1 h2 => .cons (dp_mono e _ _ h1) (dqf_mono e _ _ h2)
end
mutual
theorem dq_dp : ∀ (d : PyData) (v : V), d.canLay0 = true → Dq K H v d → Dp K H v d
  | .none, _, _, h => by cases h; exact .non
  | .bool b, _, _, h => by cases h; exact .bl b
  | .int i, _, _, h => by cases h; exact .int i
  | .str x, _, _, h => by cases h; exact .str x
  | .list ds, _, c, h => by
    cases h with
    | lst hs ha => exact .lst hs (dqa_dpa ds _ (by simpa [PyData.canLay0] using c) ha)
  | .tuple ds, _, c, h => by
    cases h with
    | tup hs ha => exact .tup (SqT.of hs) (dqa_dpa ds _ (by simpa [PyData.canLay0] using c) ha)
    | ktup hs => exact .tup (hs H) (.cons (.int 0) (.cons (.int 1) (.cons (.int 0) .nil)))
  | .dict _, _, c, _ => nomatch c
theorem dqa_dpa : ∀ (ds : List PyData) (vs : List V), PyData.canLayAll0 ds = true → DqAll K H vs ds → DpAll K H vs ds
  | [], _, _, h => by cases h; exact .nil
  | d :: ds, _, c, h => by
    have c' : d.canLay0 = true ∧ PyData.canLayAll0 ds = true := by simpa [PyData.canLayAll0] using c
    cases h with
    | cons h1 h2 => exact .cons (dq_dp d _ c'.1 h1) (dqa_dpa ds _ c'.2 h2)
end
theorem shp_lay {d : PyData} (h : SeqAt.shaped d = true) : d.canLay0 = true := (Bool.and_eq_true_iff.mp h).1
theorem dp_int {v : V} {i : Int} (h : Dq K H v (.int i)) : v = .int i := by cases h; rfl
theorem dp_str {v : V} {i : Str} (h : Dq K H v (.str i)) : v = .str i := by cases h; rfl
theorem dp_bl {v : V} {i : Bool} (h : Dq K H v (.bool i)) : v = .bl i := by cases h; rfl
theorem dp_non {v : V} (h : Dq K H v .none) : v = .non := by cases h; rfl
theorem dp_lst {v : V} {ds : List PyData} (h : Dq K H v (.list ds)) : ∃ a xs, v = .ref a ∧ SqL K H a xs ∧ DqAll K H xs ds := by
  cases h with
  | lst hs ha => exact ⟨_, _, rfl, hs, ha⟩
theorem dp_tup {v : V} {ds : List PyData} (h : Dq K H v (.tuple ds)) : ∃ a xs, v = .ref a ∧ SqT K H a xs ∧ DqAll K H xs ds := by
  cases h with
  | tup hs ha => exact ⟨_, _, rfl, SqT.of hs, ha⟩
  | ktup hs => exact ⟨_, _, rfl, hs H, .cons (.int 0) (.cons (.int 1) (.cons (.int 0) .nil))⟩
theorem dpa_len : ∀ {vs : List V} {ds : List PyData}, DqAll K H vs ds → vs.length = ds.length
  | _, [], h => by cases h; rfl
  | _, _ :: _, h => by
    cases h with
    | cons h1 h2 => exact congrArg Nat.succ (dpa_len h2)
theorem dpa_get : ∀ {ds : List PyData} {vs : List V} {i : Nat} {d : PyData}, DqAll K H vs ds → ds[i]? = some d → ∃ v, vs[i]? = some v ∧ Dq K H v d
  | [], _, _, _, _, e => by simp at e
  | x :: ds, _, 0, d, h, e => by
    cases h with
    | cons h1 h2 =>
      have e' : x = d := Option.some.inj e
      subst e'
      exact ⟨_, rfl, h1⟩
  | x :: ds, _, i + 1, d, h, e => by
    cases h with
    | cons h1 h2 => exact dpa_get (i := i) h2 e
theorem dpa_of : ∀ {ds : List PyData} {vs : List V} {i : Nat} {v : V}, DqAll K H vs ds → vs[i]? = some v → ∃ d, ds[i]? = some d ∧ Dq K H v d
  | [], _, _, _, h, e => by cases h; simp at e
  | x :: ds, _, 0, v, h, e => by
    cases h with
    | cons h1 h2 =>
      have e' := Option.some.inj e
      subst e'
      exact ⟨_, rfl, h1⟩
  | x :: ds, _, i + 1, d, h, e => by
    cases h with
    | cons h1 h2 => exact dpa_of (i := i) h2 e
theorem dpa_app : ∀ {ds es : List PyData} {vs ws : List V}, DqAll K H vs ds → DqAll K H ws es → DqAll K H (vs ++ ws) (ds ++ es)
  | [], _, _, _, h, g => by cases h; exact g
  | _ :: _, _, _, _, h, g => by
    cases h with
    | cons h1 h2 => exact .cons h1 (dpa_app h2 g)
theorem dpa_one {v : V} {d : PyData} (h : Dq K H v d) : DqAll K H [v] [d] := .cons h .nil
theorem dpa_set : ∀ {ds : List PyData} {vs : List V} (i : Nat) {v : V} {d : PyData}, DqAll K H vs ds → Dq K H v d → DqAll K H (vs.set i v) (ds.set i d)
  | [], _, _, _, _, h, _ => by cases h; exact .nil
  | _ :: _, _, 0, _, _, h, g => by
    cases h with
    | cons h1 h2 => exact .cons g h2
  | _ :: _, _, i + 1, _, _, h, g => by
    cases h with
    | cons h1 h2 => exact .cons h1 (dpa_set i h2 g)
theorem dpa_take : ∀ (n : Nat) {ds : List PyData} {vs : List V}, DqAll K H vs ds → DqAll K H (vs.take n) (ds.take n)
  | 0, _, _, _ => .nil
  | _ + 1, [], _, h => by cases h; exact .nil
  | n + 1, _ :: _, _, h => by
    cases h with
    | cons h1 h2 => exact .cons h1 (dpa_take n h2)
theorem dpa_drop : ∀ (n : Nat) {ds : List PyData} {vs : List V}, DqAll K H vs ds → DqAll K H (vs.drop n) (ds.drop n)
  | 0, _, _, h => h
  | _ + 1, [], _, h => by cases h; exact .nil
  | n + 1, _ :: _, _, h => by
    cases h with
    | cons h1 h2 => exact dpa_drop n h2
theorem dpa_ints : ∀ (ns : List Int), DqAll K H (ns.map V.int) (ns.map PyData.int)
  | [] => .nil
  | n :: ns => .cons (.int n) (dpa_ints ns)
theorem dpa_ints_eq : ∀ {ns : List Int} {vs : List V}, DqAll K H vs (ns.map PyData.int) → vs = ns.map V.int
  | [], _, h => by
    have h' : DqAll K H _ [] := h
    cases h'; rfl
  | n :: ns, _, h => by
    have h' : DqAll K H _ (.int n :: ns.map PyData.int) := h
    cases h' with
    | cons h1 h2 => rw [dp_int h1, dpa_ints_eq h2]; rfl
end
structure Lam where
  q : Str
  ps : Arguments
  bd : Expr
  sc : Scope
  cl : List (Str × Addr)
abbrev Lam.ob (l : Lam) (c : Addr) (pm ct : Value) : Obj := PySem.W.kla_obj "<lambda>" l.q l.ps l.bd l.sc l.cl pm c ct
def LamO (f : Addr) (l : Lam) (c : Addr) : HO := .ext fun h => ∃ pm ct, h.get? f = some (l.ob c pm ct)
def IsLam (F : Hp) (v : V) (l : Lam) : Prop := ∃ f c, v = .ref f ∧ F f = some (LamO f l c) ∧ F c = some (LamX.CodeO c l.q)
def LamsAre (F : Hp) : List V → List Lam → Prop
  | [], [] => True
  | v :: vs, l :: ls => IsLam F v l ∧ LamsAre F vs ls
  | _, _ => False
theorem IsLam.mono {F F' : Hp} {v : V} {l : Lam} (h : IsLam F v l) (e : Ex F F') : IsLam F' v l := by
  obtain ⟨f, c, h1, h2, h3⟩ := h
  exact ⟨f, c, h1, e _ _ h2, e _ _ h3⟩
theorem LamsAre.mono {F F' : Hp} (e : Ex F F') : ∀ {vs : List V} {ls : List Lam}, LamsAre F vs ls → LamsAre F' vs ls
  | [], [], _ => trivial
  | _ :: _, _ :: _, ⟨h1, h2⟩ => ⟨h1.mono e, h2.mono e⟩
/-- a bag of draws -/
def BagD (ds : List PyData) : Prop := ∃ (cells : List Int) (i s t : Int), ds = [.list (cells.map .int), .int i, .int s, .int t] ∧ (∀ c ∈ cells, 0 ≤ c) ∧ 0 ≤ i ∧ 0 ≤ s ∧ 0 ≤ t ∧ t < 2147483629
def notbl : HO → Bool
  | .tbl _ => false
  | _ => true
structure OwT where
  id : Addr
  fp : List Addr
  ok : Frag → Hp → Hp → V → Prop
  isr : ∀ {K : Frag} {F H : Hp} {v : V}, ok K F H v → v = .ref id
  mono : ∀ {K : Frag} {F F' H H' : Hp} {v : V}, Ex F F' → (∀ a ∈ fp, ∀ u, H a = some u → H' a = some u) → ok K F H v → ok K F' H' v
  there : ∀ {K : Frag} {F H : Hp} {v : V}, ok K F H v → ∀ a ∈ fp, ∃ u, H a = some u ∧ notbl u = true
  /-- the lists in it -/
  rows : List (Addr × List PyData)
  held : ∀ {K : Frag} {F H : Hp} {v : V}, ok K F H v → ∀ r ∈ rows, ∃ vs, H r.1 = some (.lst vs) ∧ DqAll K F vs r.2
inductive Sl where
  | un
  | d (x : PyData)
  | ol (a : Addr) (ds : List PyData)
  | bg (b : Addr)
  | v (x : V)
  | dt (a : Addr) (kvs : List (List Key × PyData))
  | dk (a : Addr) (kvs : List (Key × PyData))
  | oo (a : Addr) (rows : List (Addr × List PyData))
  | fv (l : Lam)
  | fl (ls : List Lam)
  | ow (t : OwT)
def Sl.fp : Sl → List Addr
  | .ol a _ => [a]
  | .bg a => [a]
  | .dt a _ => [a]
  | .dk a _ => [a]
  | .oo a rows => a :: rows.map (·.1)
  | .ow t => t.fp
  | _ => []
def KVp {κ : Type} (K : Frag) (F : Hp) : List (κ × V) → List (κ × PyData) → Prop := Paired fun p q => p.1 = q.1 ∧ Dq K F p.2 q.2
def SlOk (K : Frag) (F H : Hp) (o : Option V) : Sl → Prop
  | .un => True
  | .d x => ∃ v, o = some v ∧ Dq K F v x
  | .ol a ds => o = some (.ref a) ∧ ∃ vs, H a = some (.lst vs) ∧ DqAll K F vs ds
  | .bg a => o = some (.ref a) ∧ ∃ ds vs, BagD ds ∧ H a = some (.lst vs) ∧ DqAll K F vs ds
  | .v x => o = some x
  | .dt a kvs => o = some (.ref a) ∧ ∃ kvs', H a = some (.dT kvs') ∧ KVp K F kvs' kvs
  | .dk a kvs => o = some (.ref a) ∧ ∃ kvs', H a = some (.dK kvs') ∧ KVp K F kvs' kvs
  | .fv l => ∃ v, o = some v ∧ IsLam F v l
  | .fl ls => ∃ a vs, o = some (.ref a) ∧ F a = some (.lst vs) ∧ LamsAre F vs ls
  | .ow t => ∃ v, o = some v ∧ t.ok K F H v
  | .oo a rows => o = some (.ref a) ∧ H a = some (.lst (rows.map fun r => .ref r.1)) ∧ (a :: rows.map (·.1)).Nodup ∧ ∀ r ∈ rows, ∃ vs, H r.1 = some (.lst vs) ∧ DqAll K F vs r.2
def Own (env : List Sl) (a : Addr) : Prop := ∃ (i : Nat) (s : Sl), env[i]? = some s ∧ a ∈ s.fp
theorem paired_imp {α β : Type} {R S : α → β → Prop} : ∀ {xs : List α} {ys : List β}, Paired R xs ys → (∀ a b, R a b → S a b) → Paired S xs ys
  | _, _, .nil, _ => .nil
  | _, _, .cons r t, f => .cons (f _ _ r) (paired_imp t f)
theorem kvp_mono {κ : Type} {K : Frag} {F F' : Hp} (e : Ex F F') {a : List (κ × V)} {b : List (κ × PyData)} (h : KVp K F a b) : KVp K F' a b :=
  paired_imp h fun _ _ z => ⟨z.1, dp_mono e _ _ z.2⟩
theorem slok_mono {K : Frag} {F F' H H' : Hp} {o : Option V} {s : Sl} (e : Ex F F') (k : ∀ a ∈ s.fp, ∀ u, H a = some u → H' a = some u) (h : SlOk K F H o s) : SlOk K F' H' o s := by
  cases s with
  | un => trivial
  | d x => obtain ⟨v, h1, h2⟩ := h; exact ⟨v, h1, dp_mono e _ _ h2⟩
  | ol a ds => obtain ⟨h1, vs, h2, h3⟩ := h; exact ⟨h1, vs, k a (by simp [Sl.fp]) _ h2, dpa_mono e _ _ h3⟩
  | bg a => obtain ⟨h1, ds, vs, h4, h2, h3⟩ := h; exact ⟨h1, ds, vs, h4, k a (by simp [Sl.fp]) _ h2, dpa_mono e _ _ h3⟩
  | v x => exact h
  | dt a kvs => obtain ⟨h1, vs, h2, h3⟩ := h; exact ⟨h1, vs, k a (by simp [Sl.fp]) _ h2, kvp_mono e h3⟩
  | dk a kvs => obtain ⟨h1, vs, h2, h3⟩ := h; exact ⟨h1, vs, k a (by simp [Sl.fp]) _ h2, kvp_mono e h3⟩
  | fv l => obtain ⟨v, h1, h2⟩ := h; exact ⟨v, h1, h2.mono e⟩
  | fl ls => obtain ⟨a, vs, h1, h2, h3⟩ := h; exact ⟨a, vs, h1, e _ _ h2, h3.mono e⟩
  | ow t => obtain ⟨v, h1, h2⟩ := h; exact ⟨v, h1, t.mono e k h2⟩
  | oo a rows =>
    obtain ⟨h1, h2, h3, h4⟩ := h
    refine ⟨h1, k a (by simp [Sl.fp]) _ h2, h3, fun r hr => ?_⟩
    obtain ⟨vs, q1, q2⟩ := h4 r hr
    exact ⟨vs, k r.1 (List.mem_cons_of_mem _ (List.mem_map_of_mem hr)) _ q1, dpa_mono e _ _ q2⟩
theorem slok_there {K : Frag} {F H : Hp} {o : Option V} {s : Sl} (h : SlOk K F H o s) {a : Addr} (ha : a ∈ s.fp) : H a ≠ none := by
  cases s with
  | un => cases ha
  | ow t => obtain ⟨v, _, h2⟩ := h; obtain ⟨u, h3, _⟩ := t.there h2 a ha; rw [h3]; intro z; cases z
  | fv l => cases ha
  | fl l => cases ha
  | d x => cases ha
  | v x => cases ha
  | ol b ds => obtain ⟨_, vs, h2, _⟩ := h; have e : a = b := by simpa [Sl.fp] using ha
               subst e; rw [h2]; intro z; cases z
  | bg b => obtain ⟨_, ds, vs, _, h2, _⟩ := h; have e : a = b := by simpa [Sl.fp] using ha
            subst e; rw [h2]; intro z; cases z
  | dt b ds => obtain ⟨_, vs, h2, _⟩ := h; have e : a = b := by simpa [Sl.fp] using ha
               subst e; rw [h2]; intro z; cases z
  | dk b ds => obtain ⟨_, vs, h2, _⟩ := h; have e : a = b := by simpa [Sl.fp] using ha
               subst e; rw [h2]; intro z; cases z
  | oo b rows =>
    obtain ⟨_, h2, _, h4⟩ := h
    have ha : a = b ∨ a ∈ rows.map (·.1) := List.mem_cons.mp ha
    rcases ha with rfl | ha
    · rw [h2]; intro z; cases z
    · obtain ⟨r, hr, rfl⟩ := List.mem_map.mp ha
      obtain ⟨vs, q1, _⟩ := h4 r hr
      rw [q1]; intro z; cases z
/-- what stood at a def's entry: the frozen part, the heap, the objects that may be changed -/
structure G where
  F0 : Hp
  H0 : Hp
  M : List Addr
def markOf (q : Addr × Obj) : Option (Addr × Str) := match q.2.data with
  | .fields vs => match vs.toList with
    | [.str m _, .ref P, .str n _] => if m = ("lam!" : Str) then some (P, n) else none
    | _ => none
  | _ => none
def tabsK (K : Frag) : List (Addr × Str) := K.filterMap markOf
def ntb (o : HO) : Prop := ∀ ps, o ≠ .tbl ps
def TabF (F H : Hp) (P : Addr) (q : Str) : Prop := ∃ ps : Array Value, H P = some (.tbl ps) ∧ TriplesOk ps.toList ∧ ∀ (pos : Pos) (cv : Value), codeAmong pos ps.toList = some cv → ∃ c, cv = .ref c ∧ F c = some (LamX.CodeO c q)
structure TkOk (K : Frag) (F H : Hp) : Prop where
  fn : ∀ a ps, F a ≠ some (.tbl ps)
  tb : ∀ p ∈ tabsK K, TabF F H p.1 p.2
structure Sk (K : Frag) (F H : Hp) (σ : SS) (env : List Sl) : Prop where
  len : σ.length = env.length
  sl : ∀ (i : Nat) (s : Sl), env[i]? = some s → SlOk K F H (σ[i]?.getD none) s
  nd : ∀ (i j : Nat) (s t : Sl) (a : Addr), env[i]? = some s → env[j]? = some t → a ∈ s.fp → a ∈ t.fp → i = j
  fr : ∀ a, Own env a → F a = none
  ex : Ex F H
  tf : ∀ (a : Addr) (vs : List V), H a = some (.tup vs) → F a = some (.tup vs)
  tk : TkOk K F H
structure GtOk (K : Frag) (g : G) (H : Hp) : Prop where
  g7 : ∀ a ps, g.H0 a = some (.tbl ps) → H a ≠ none
  g8 : ∀ p ∈ tabsK K, g.H0 p.1 ≠ none
structure St (K : Frag) (g : G) (F H : Hp) (σ : SS) (env : List Sl) : Prop extends Sk K F H σ env where
  g1 : ∀ a o, g.H0 a = some o → a ∉ g.M → ntb o → H a = some o
  g2 : ∀ a, Own env a → g.H0 a = none ∨ a ∈ g.M
  g3 : Ex g.F0 F
  g4 : ∀ a, F a ≠ none → g.F0 a ≠ none ∨ g.H0 a = none
  g5 : ∀ a ∈ g.M, H a ≠ none
  g6 : ∀ a ∈ g.M, g.H0 a ≠ none
  gt : GtOk K g H
section
variable {K : Frag} {g : G} {F F' H H' : Hp} {σ : SS} {env : List Sl} {p : Addr} {o : HO}
theorem TabF.mono {P : Addr} {q : Str} (t : TabF F H P q) (e : Ex F F') (h : ∀ u, H P = some u → H' P = some u) : TabF F' H' P q := by
  obtain ⟨ps, h1, h2, h3⟩ := t
  exact ⟨ps, h _ h1, h2, fun pos cv hc => by obtain ⟨c, e1, e2⟩ := h3 pos cv hc; exact ⟨c, e1, e _ _ e2⟩⟩
theorem TkOk.grow (t : TkOk K F H) (e : Ex H H') : TkOk K F H' := ⟨t.fn, fun p hp => (t.tb p hp).mono (Ex.refl F) fun u q => e _ u q⟩
theorem TkOk.put {p' : Addr} (t : TkOk K F H) (h : ∀ p ∈ tabsK K, p.1 ≠ p') : TkOk K F (upd H p' o) := ⟨t.fn, fun p hp => (t.tb p hp).mono (Ex.refl F) fun u q => by rw [upd_ne (h p hp)]; exact q⟩
theorem TkOk.ne (t : TkOk K F H) {a : Addr} (h : ∀ ps, H a ≠ some (.tbl ps)) : ∀ p ∈ tabsK K, p.1 ≠ a := fun p hp z => by
  obtain ⟨ps, h1, _⟩ := t.tb p hp
  exact h ps (z ▸ h1)
theorem slok_ntb {o : Option V} {s : Sl} (h : SlOk K F H o s) {a : Addr} (ha : a ∈ s.fp) : ∀ ps, H a ≠ some (.tbl ps) := by
  cases s with
  | un => cases ha
  | ow t => obtain ⟨v, _, h2⟩ := h; obtain ⟨u, h3, h4⟩ := t.there h2 a ha; rw [h3]; intro ps z; cases z; cases h4
  | fv l => cases ha
  | fl l => cases ha
  | d x => cases ha
  | v x => cases ha
  | ol b ds => obtain ⟨_, vs, h2, _⟩ := h; have e : a = b := by simpa [Sl.fp] using ha
               subst e; rw [h2]; intro _ z; cases z
  | bg b => obtain ⟨_, ds, vs, _, h2, _⟩ := h; have e : a = b := by simpa [Sl.fp] using ha
            subst e; rw [h2]; intro _ z; cases z
  | dt b ds => obtain ⟨_, vs, h2, _⟩ := h; have e : a = b := by simpa [Sl.fp] using ha
               subst e; rw [h2]; intro _ z; cases z
  | dk b ds => obtain ⟨_, vs, h2, _⟩ := h; have e : a = b := by simpa [Sl.fp] using ha
               subst e; rw [h2]; intro _ z; cases z
  | oo b rows =>
    obtain ⟨_, h2, _, h4⟩ := h
    have ha : a = b ∨ a ∈ rows.map (·.1) := List.mem_cons.mp ha
    rcases ha with rfl | ha
    · rw [h2]; intro _ z; cases z
    · obtain ⟨r, hr, rfl⟩ := List.mem_map.mp ha
      obtain ⟨vs, q1, _⟩ := h4 r hr
      rw [q1]; intro _ z; cases z
theorem Sk.ntb (st : Sk K F H σ env) {a : Addr} (h : Own env a) : ∀ ps, H a ≠ some (.tbl ps) := by
  obtain ⟨i, s, h1, h2⟩ := h
  exact slok_ntb (st.sl i s h1) h2
theorem GtOk.grow (t : GtOk K g H) (e : ∀ a, H' a = none → H a = none) : GtOk K g H' := ⟨fun a ps h z => t.g7 a ps h (e a z), t.g8⟩
theorem Sk.there (st : Sk K F H σ env) {a : Addr} (h : Own env a) : H a ≠ none := by
  obtain ⟨i, s, h1, h2⟩ := h
  exact slok_there (st.sl i s h1) h2
theorem Sk.notown (st : Sk K F H σ env) (h : H p = none) : ¬ Own env p := fun z => st.there z h
/-- the heap grows -/
theorem Sk.grow (st : Sk K F H σ env) (e : Ex H H') (t : ∀ (a : Addr) (vs : List V), H' a = some (.tup vs) → H a = some (.tup vs)) : Sk K F H' σ env :=
  ⟨st.len, fun i s h => slok_mono (Ex.refl F) (fun a _ u q => e a u q) (st.sl i s h), st.nd, st.fr, st.ex.trans e, fun a vs h => st.tf a vs (t a vs h), st.tk.grow e⟩
theorem St.grow (st : St K g F H σ env) (e : Ex H H') (t : ∀ (a : Addr) (vs : List V), H' a = some (.tup vs) → H a = some (.tup vs)) : St K g F H' σ env :=
  { st.toSk.grow e t with g1 := fun a o h m n => e a o (st.g1 a o h m n), gt := st.gt.grow fun a z => e.none z, g2 := st.g2, g3 := st.g3, g4 := st.g4, g5 := fun a m z => st.g5 a m (e.none z), g6 := st.g6 }
theorem St.alloc (st : St K g F H σ env) (h : H p = none) (ht : ∀ vs, o ≠ .tup vs := by intro _ z; cases z) : St K g F (upd H p o) σ env := st.grow (Ex.new h) fun a vs q => by
  by_cases e : a = p
  · subst e; rw [upd_same] at q; exact absurd (Option.some.inj q) (ht vs)
  · rw [upd_ne e] at q; exact q
/-- frozen part and heap grow by what is fresh -/
theorem St.h0 (st : St K g F H σ env) (h : H p = none) : g.H0 p = none := by
  cases q : g.H0 p with
  | none => rfl
  | some u =>
    by_cases m : p ∈ g.M
    · exact absurd h (st.g5 p m)
    · have hn : TL.ntb u := fun ps z => st.gt.g7 p ps (by rw [q, z]) h
      rw [st.g1 p u q m hn] at h; cases h
theorem Sk.freeze (st : Sk K F H σ env) (h : H p = some o) (hF : F p = none) (hn : ¬ Own env p) (hb : TL.ntb o := by intro _ z; cases z) : Sk K (upd F p o) H σ env where
  len := st.len
  sl := fun i s e => slok_mono (Ex.new hF) (fun a _ u q => q) (st.sl i s e)
  nd := st.nd
  fr := fun a ha => by
    have hne : a ≠ p := fun z => hn (z ▸ ha)
    rw [upd_ne hne]; exact st.fr a ha
  ex := fun a u q => by
    by_cases hp : a = p
    · subst hp; rw [upd_same] at q; cases q; exact h
    · rw [upd_ne hp] at q; exact st.ex a u q
  tf := fun a vs q => by
    by_cases hp : a = p
    · subst hp; rw [h] at q; cases q; exact upd_same
    · rw [upd_ne hp]; exact st.tf a vs q
  tk := ⟨fun a ps q => by
    by_cases hp : a = p
    · subst hp; rw [upd_same] at q; exact hb ps (Option.some.inj q)
    · rw [upd_ne hp] at q; exact st.tk.fn a ps q, fun r hr => (st.tk.tb r hr).mono (Ex.new hF) fun _ q => q⟩
theorem St.freeze (st : St K g F H σ env) (h : H p = some o) (hF : F p = none) (hn : ¬ Own env p) (h0 : g.H0 p = none) (hb : TL.ntb o := by intro _ z; cases z) : St K g (upd F p o) H σ env :=
  { st.toSk.freeze h hF hn hb with
    gt := st.gt,
    g1 := st.g1, g2 := st.g2, g3 := st.g3.trans (Ex.new hF), g5 := st.g5, g6 := st.g6,
    g4 := fun a ha => by
      by_cases hp : a = p
      · subst hp; exact .inr h0
      · rw [upd_ne hp] at ha; exact st.g4 a ha }
theorem St.allocF (st : St K g F H σ env) (h : H p = none) (hb : TL.ntb o := by intro _ z; cases z) : St K g (upd F p o) (upd H p o) σ env where
  len := st.len
  sl := fun i s e => slok_mono (Ex.new (st.ex.none h)) (fun a _ u q => Ex.new h a u q) (st.sl i s e)
  nd := st.nd
  fr := fun a ha => by
    have hne : a ≠ p := fun z => st.toSk.notown h (z ▸ ha)
    rw [upd_ne hne]; exact st.fr a ha
  ex := fun a u q => by
    by_cases e : a = p
    · subst e; rw [upd_same] at q; rw [upd_same]; exact q
    · rw [upd_ne e] at q; rw [upd_ne e]; exact st.ex a u q
  tf := fun a vs q => by
    by_cases e : a = p
    · subst e; rw [upd_same] at q; rw [upd_same]; exact q
    · rw [upd_ne e] at q; rw [upd_ne e]; exact st.tf a vs q
  tk := ⟨fun a ps q => by
    by_cases hp : a = p
    · subst hp; rw [upd_same] at q; exact hb ps (Option.some.inj q)
    · rw [upd_ne hp] at q; exact st.tk.fn a ps q, fun r hr => (st.tk.tb r hr).mono (Ex.new (st.ex.none h)) fun u q => Ex.new h _ u q⟩
  gt := st.gt.grow fun a z => by
    by_cases e : a = p
    · subst e; exact h
    · rw [upd_ne e] at z; exact z
  g1 := fun a u q m n => by
    have hne : a ≠ p := fun z => by subst z; have := st.g1 a u q m n; rw [h] at this; cases this
    rw [upd_ne hne]; exact st.g1 a u q m n
  g2 := st.g2
  g3 := st.g3.trans (Ex.new (st.ex.none h))
  g4 := fun a ha => by
    by_cases e : a = p
    · subst e; exact .inr (st.h0 h)
    · rw [upd_ne e] at ha; exact st.g4 a ha
  g5 := fun a m z => by
    by_cases e : a = p
    · subst e; rw [upd_same] at z; cases z
    · rw [upd_ne e] at z; exact st.g5 a m z
  g6 := st.g6
theorem getD_set {σ : SS} {i j : Nat} {v : V} (hl : i < σ.length) : ((σ.set i (some v))[j]?.getD none) = if i = j then some v else (σ[j]?.getD none) := by
  rw [List.getElem?_set]
  by_cases h : i = j
  · subst h; rw [if_pos rfl, if_pos rfl, if_pos hl]; rfl
  · rw [if_neg h, if_neg h]
theorem set_get {env : List Sl} {i j : Nat} {s t : Sl} (h : (env.set i s)[j]? = some t) : (i = j ∧ t = s) ∨ (i ≠ j ∧ env[j]? = some t) := by
  rw [List.getElem?_set] at h
  by_cases e : i = j
  · subst e
    rw [if_pos rfl] at h
    split at h
    · exact .inl ⟨rfl, (Option.some.inj h).symm⟩
    · cases h
  · rw [if_neg e] at h; exact .inr ⟨e, h⟩
theorem own_set {i : Nat} {s : Sl} {a : Addr} (h : Own (env.set i s) a) : a ∈ s.fp ∨ Own env a := by
  obtain ⟨j, t, h1, h2⟩ := h
  rcases set_get h1 with ⟨_, rfl⟩ | ⟨_, h1⟩
  · exact .inl h2
  · exact .inr ⟨j, t, h1, h2⟩
/-- a slot is stored: s is a new description, its footprint new or the slot's own -/
theorem Sk.set {i : Nat} {v : V} {s : Sl} (st : Sk K F H σ env) (hi : i < env.length) (h : SlOk K F H (some v) s) (hfr : ∀ a ∈ s.fp, F a = none)
    (hn : ∀ a ∈ s.fp, ∀ (j : Nat) (t : Sl), j ≠ i → env[j]? = some t → a ∉ t.fp) : Sk K F H (σ.set i (some v)) (env.set i s) where
  len := by rw [List.length_set, List.length_set]; exact st.len
  sl := fun j t e => by
    rw [getD_set (by rw [st.len]; exact hi)]
    rcases set_get e with ⟨rfl, rfl⟩ | ⟨ne, e⟩
    · rw [if_pos rfl]; exact h
    · rw [if_neg ne]; exact st.sl j t e
  nd := fun j k t u a ej ek ht hu => by
    rcases set_get ej with ⟨rfl, rfl⟩ | ⟨ne, ej2⟩
    · rcases set_get ek with ⟨rfl, rfl⟩ | ⟨ne2, ek⟩
      · rfl
      · exact absurd hu (hn a ht k u (Ne.symm ne2) ek)
    · rcases set_get ek with ⟨rfl, rfl⟩ | ⟨ne2, ek⟩
      · exact absurd ht (hn a hu j t (Ne.symm ne) ej2)
      · exact st.nd j k t u a ej2 ek ht hu
  fr := fun a ha => by
    rcases own_set ha with h1 | h1
    · exact hfr a h1
    · exact st.fr a h1
  ex := st.ex
  tf := st.tf
  tk := st.tk
theorem St.set {i : Nat} {v : V} {s : Sl} (st : St K g F H σ env) (hi : i < env.length) (h : SlOk K F H (some v) s) (hfr : ∀ a ∈ s.fp, F a = none)
    (hn : ∀ a ∈ s.fp, ∀ (j : Nat) (t : Sl), j ≠ i → env[j]? = some t → a ∉ t.fp) (hg : ∀ a ∈ s.fp, g.H0 a = none ∨ a ∈ g.M) : St K g F H (σ.set i (some v)) (env.set i s) :=
  { st.toSk.set hi h hfr hn with
    g1 := st.g1, gt := st.gt, g3 := st.g3, g4 := st.g4, g5 := st.g5, g6 := st.g6,
    g2 := fun a ha => by
      rcases own_set ha with h1 | h1
      · exact hg a h1
      · exact st.g2 a h1 }
theorem St.setD {i : Nat} {v : V} {x : PyData} (st : St K g F H σ env) (hi : i < env.length) (h : Dq K F v x) : St K g F H (σ.set i (some v)) (env.set i (.d x)) :=
  st.set hi ⟨v, rfl, h⟩ (fun _ h => by cases h) (fun _ h => by cases h) (fun _ h => by cases h)
theorem St.setL {i : Nat} {a : Addr} {vs : List V} {ds : List PyData} (st : St K g F H σ env) (hi : i < env.length) (hH : H a = some (.lst vs)) (hd : DqAll K F vs ds) (hF : F a = none) (hn : ¬ Own env a) (h0 : g.H0 a = none) :
    St K g F H (σ.set i (some (.ref a))) (env.set i (.ol a ds)) := by
  have one : ∀ b ∈ (Sl.ol a ds).fp, b = a := fun b hb => by simpa [Sl.fp] using hb
  exact st.set (s := .ol a ds) hi ⟨rfl, vs, hH, hd⟩ (fun b hb => by rw [one b hb]; exact hF) (fun b hb j t _ e ht => hn ⟨j, t, e, by rw [← one b hb]; exact ht⟩) (fun b hb => by rw [one b hb]; exact .inl h0)
/-- an object of a slot is changed in place -/
theorem St.write {i : Nat} {a : Addr} {s s' : Sl} {o' : HO} (st : St K g F H σ env) (hs : env[i]? = some s) (ha : s.fp = [a]) (ha' : s'.fp = [a]) (h : SlOk K F (upd H a o') (σ[i]?.getD none) s') (ht : ∀ vs, o' ≠ .tup vs := by intro _ z; cases z) : St K g F (upd H a o') σ (env.set i s') := by
  have own : Own env a := ⟨i, s, hs, by rw [ha]; simp⟩
  have hF : F a = none := st.fr a own
  have hi : i < env.length := (List.getElem?_eq_some_iff.mp hs).1
  have sub : ∀ b, Own (env.set i s') b → Own env b := fun b hb => by
    rcases own_set hb with h1 | h1
    · rw [ha'] at h1
      have e : b = a := by simpa using h1
      rw [e]; exact own
    · exact h1
  have oth : ∀ (j : Nat) (t : Sl), i ≠ j → env[j]? = some t → a ∉ t.fp := fun j t ne e ht => ne (st.nd i j s t a hs e (by rw [ha]; simp) ht)
  refine { len := by rw [List.length_set]; exact st.len, sl := fun j t e => ?_, nd := fun j k t u b ej ek ht hu => ?_, fr := fun b hb => st.fr b (sub b hb), ex := st.ex.mut hF, tf := fun b vs q => by
             by_cases e : b = a
             · subst e; rw [upd_same] at q; exact absurd (Option.some.inj q) (ht vs)
             · rw [upd_ne e] at q; exact st.tf b vs q, tk := st.tk.put (st.tk.ne (st.toSk.ntb own)), gt := st.gt.grow fun b z => by
             by_cases e : b = a
             · subst e; rw [upd_same] at z; cases z
             · rw [upd_ne e] at z; exact z, g1 := fun b u q m n => ?_, g2 := fun b hb => st.g2 b (sub b hb), g3 := st.g3, g4 := st.g4, g5 := fun b m z => ?_, g6 := st.g6 }
  · rcases set_get e with ⟨rfl, rfl⟩ | ⟨ne, e⟩
    · exact h
    · refine slok_mono (Ex.refl F) (fun b hb u q => ?_) (st.sl j t e)
      have hne : b ≠ a := fun z => oth j t ne e (z ▸ hb)
      rw [upd_ne hne]; exact q
  · rcases set_get ej with ⟨rfl, rfl⟩ | ⟨ne, ej2⟩
    · rcases set_get ek with ⟨rfl, rfl⟩ | ⟨ne2, ek⟩
      · rfl
      · rw [ha'] at ht
        have e : b = a := by simpa using ht
        exact absurd (e ▸ hu) (oth k u ne2 ek)
    · rcases set_get ek with ⟨rfl, rfl⟩ | ⟨ne2, ek⟩
      · rw [ha'] at hu
        have e : b = a := by simpa using hu
        exact absurd (e ▸ ht) (oth j t ne ej2)
      · exact st.nd j k t u b ej2 ek ht hu
  · have hne : b ≠ a := fun z => by
      subst z
      rcases st.g2 b own with h1 | h1
      · rw [h1] at q; cases q
      · exact m h1
    rw [upd_ne hne]; exact st.g1 b u q m n
  · by_cases hb : b = a
    · subst hb; rw [upd_same] at z; cases z
    · rw [upd_ne hb] at z; exact st.g5 b m z
/-- a slot's description is weakened -/
theorem St.weak {i : Nat} {s s' : Sl} (st : St K g F H σ env) (hs : env[i]? = some s) (hfp : ∀ a ∈ s'.fp, a ∈ s.fp) (h : SlOk K F H (σ[i]?.getD none) s → SlOk K F H (σ[i]?.getD none) s') : St K g F H σ (env.set i s') := by
  have sub : ∀ b, Own (env.set i s') b → Own env b := fun b hb => by
    rcases own_set hb with h1 | h1
    · exact ⟨i, s, hs, hfp b h1⟩
    · exact h1
  refine { len := by rw [List.length_set]; exact st.len, sl := fun j t e => ?_, nd := fun j k t u b ej ek ht hu => ?_, fr := fun b hb => st.fr b (sub b hb), ex := st.ex, tf := st.tf, tk := st.tk, gt := st.gt,
           g1 := st.g1, g2 := fun b hb => st.g2 b (sub b hb), g3 := st.g3, g4 := st.g4, g5 := st.g5, g6 := st.g6 }
  · rcases set_get e with ⟨rfl, rfl⟩ | ⟨ne, e⟩
    · exact h (st.sl i s hs)
    · exact st.sl j t e
  · rcases set_get ej with ⟨rfl, rfl⟩ | ⟨ne, ej2⟩
    · rcases set_get ek with ⟨rfl, rfl⟩ | ⟨ne2, ek⟩
      · rfl
      · exact st.nd i k s u b hs ek (hfp b ht) hu
    · rcases set_get ek with ⟨rfl, rfl⟩ | ⟨ne2, ek⟩
      · exact st.nd j i t s b ej2 hs ht (hfp b hu)
      · exact st.nd j k t u b ej2 ek ht hu
end
end TL
namespace TL
open PySem PySem.Spec PyProof.Rows L2
inductive Exc where
  | own (n : Str)
  | ownF (n : Str) (fs : List (Str × PyData))
/-- the value of an atom -/
def atV : PyData → Option V
  | .none => some .non
  | .bool b => some (.bl b)
  | .int i => some (.int i)
  | .str s => some (.str s)
  | _ => none
/-- an exception's own dict holds the fields -/
def XfOk (fs : List (Str × PyData)) (xs : List (Str × V)) : Prop := ∀ f d, fs.lookup f = some d → ∃ v, atV d = some v ∧ xs.lookup f = some v
def ExcW (K : Frag) (W : WX) (σ : SS) (H : Hp) : Exc → Prop
  | .own n => W (.ref (He.ga K n)) none σ H
  | .ownF n fs => ∀ d xs, H d = some (.xd xs) → XfOk fs xs → W (.ref (He.ga K n)) (some d) σ H
structure SemE (X : Cx) (e : Expr) (σ : SS) (H : Hp) (Q : VK) : Prop where
  run : ∀ (pins : List (Addr × Obj)) (s : Shared), Inv X pins σ H s → wpAny (model X.prog X.w) X.A (eval e X.env) (EP X pins σ Q) X.xe s
def semE (X : Cx) (e : Expr) : TE := fun σ H Q => SemE X e σ H Q
structure SemT (X : Cx) (e : Expr) (σ : SS) (H : Hp) (Q : Bool → Hp → Prop) : Prop where
  run : ∀ (pins : List (Addr × Obj)) (s : Shared), Inv X pins σ H s → wpAny (model X.prog X.w) X.A (isTrue e X.env (eval e X.env)) (TP X pins σ Q) X.xe s
def semT (X : Cx) (e : Expr) : TT := fun σ H Q => SemT X e σ H Q
structure SemS (X : Cx) (st : List Stmt) (D : Ends) (σ : SS) (H : Hp) : Prop where
  run : ∀ (pins : List (Addr × Obj)) (s : Shared), Inv X pins σ H s → wpAny (model X.prog X.w) X.A (execs st X.env) (SP X pins D) X.xe s
def semS (X : Cx) (st : List Stmt) : TS := fun D σ H => SemS X st D σ H
section
variable {X : Cx}
theorem peS (e : Expr) : PE X e (semE X e) := ⟨fun pins s _ _ _ I h => h.run pins s I⟩
theorem ptS (e : Expr) : PT X e (semT X e) := ⟨fun pins s _ _ _ I h => h.run pins s I⟩
theorem pssS (st : List Stmt) : PSs X st (semS X st) := ⟨fun pins s _ _ _ I h => h.run pins s I⟩
theorem semE_of {e : Expr} {t : TE} (h : PE X e t) {σ : SS} {H : Hp} {Q : VK} (q : t σ H Q) : semE X e σ H Q := ⟨fun pins s I => h.run pins s σ H Q I q⟩
theorem semT_of {e : Expr} {t : TT} (h : PT X e t) {σ : SS} {H : Hp} {Q : Bool → Hp → Prop} (q : t σ H Q) : semT X e σ H Q := ⟨fun pins s I => h.run pins s σ H Q I q⟩
theorem semS_of {st : List Stmt} {t : TS} (h : PSs X st t) {D : Ends} {σ : SS} {H : Hp} (q : t D σ H) : semS X st D σ H := ⟨fun pins s I => h.run pins s σ H D I q⟩
end
def Hld (env : List Sl) (a : Addr) (ds : List PyData) : Prop := (∃ i : Nat, env[i]? = some (Sl.ol a ds)) ∨ (∃ (i : Nat) (b : Addr) (rows : List (Addr × List PyData)), env[i]? = some (Sl.oo b rows) ∧ (a, ds) ∈ rows) ∨ ∃ (i : Nat) (t : OwT), env[i]? = some (Sl.ow t) ∧ (a, ds) ∈ t.rows
/-- how a value is known: z: by the frozen part; else it is an object that a slot holds -/
def Rd (K : Frag) (F : Hp) (env : List Sl) (z : Bool) (v : V) (d : PyData) : Prop :=
  match z with
  | true => Dq K F v d
  | false => ∃ a ds, Hld env a ds ∧ v = .ref a ∧ d = .list ds
def HX (X : Cx) (g : G) (env : List Sl) (Ψ : Exc → Prop) (W : WX) (σ : SS) : Prop := ∀ c F' H', Ψ c → St X.K g F' H' σ env → ExcW X.K W σ H' c
def WE (X : Cx) (g : G) (e : Expr) (env : List Sl) (Φ : PyData → Bool → Prop) (Ψ : Exc → Prop) : Prop :=
  ∀ (W : WX), Takes X W → ∀ (σ : SS) (F H : Hp), St X.K g F H σ env → HX X g env Ψ W σ →
    ∀ Q : VK, (∀ d z v F' H', Φ d z → St X.K g F' H' σ env → Ex F F' → Rd X.K F' env z v d → Q v H') → semE X e σ H Q
/-- a test -/
def WT (X : Cx) (g : G) (e : Expr) (env : List Sl) (Φ : Bool → Prop) (Ψ : Exc → Prop) : Prop :=
  ∀ (W : WX), Takes X W → ∀ (σ : SS) (F H : Hp), St X.K g F H σ env → HX X g env Ψ W σ →
    ∀ Q : Bool → Hp → Prop, (∀ b F' H', Φ b → St X.K g F' H' σ env → Ex F F' → Q b H') → semT X e σ H Q
/-- a new list, no slot's -/
def NewL (K : Frag) (g : G) (F H : Hp) (env : List Sl) (v : V) (ds : List PyData) : Prop :=
  ∃ p vs, v = .ref p ∧ H p = some (.lst vs) ∧ DqAll K F vs ds ∧ F p = none ∧ ¬ Own env p ∧ g.H0 p = none
def WN (X : Cx) (g : G) (e : Expr) (env : List Sl) (Φ : List PyData → Prop) (Ψ : Exc → Prop) : Prop :=
  ∀ (W : WX), Takes X W → ∀ (σ : SS) (F H : Hp), St X.K g F H σ env → HX X g env Ψ W σ →
    ∀ Q : VK, (∀ ds v F' H', Φ ds → St X.K g F' H' σ env → Ex F F' → NewL X.K g F' H' env v ds → Q v H') → semE X e σ H Q
/-- arguments: data, or a slot handed on -/
inductive Ar where
  | d (x : PyData)
  | s (i : Nat)
def ArOk (K : Frag) (F : Hp) (σ : SS) (v : V) : Ar → Prop
  | .d x => Dq K F v x
  | .s i => σ[i]? = some (some v)
def ArAll (K : Frag) (F : Hp) (σ : SS) : List V → List Ar → Prop
  | [], [] => True
  | v :: vs, a :: as => ArOk K F σ v a ∧ ArAll K F σ vs as
  | _, _ => False
section
variable {X : Cx} {g : G} {env : List Sl} {Ψ : Exc → Prop} {pos : Pos} {a b c e : Expr} {K : Frag} {F F' H : Hp} {σ : SS}
theorem rd_mono {z : Bool} {v : V} {d : PyData} (e : Ex F F') (h : Rd K F env z v d) : Rd K F' env z v d := by
  cases z with
  | true => exact dp_mono e _ _ h
  | false => exact h
theorem hld_at {a : Addr} {ds : List PyData} (st : Sk K F H σ env) (h : Hld env a ds) : ∃ vs, H a = some (.lst vs) ∧ DqAll K F vs ds := by
  rcases h with ⟨i, hi⟩ | ⟨i, b, rows, hi, hm⟩ | ⟨i, t, hi, hm⟩
  · exact (st.sl i _ hi).2
  · exact (st.sl i _ hi).2.2.2 _ hm
  · obtain ⟨v, _, h⟩ := st.sl i _ hi
    exact t.held h _ hm
/-- as it stands now -/
theorem rd_now {z : Bool} {v : V} {d : PyData} (st : Sk K F H σ env) (h : Rd K F env z v d) : Dq K H v d := by
  cases z with
  | true => exact dp_mono st.ex _ _ h
  | false =>
    obtain ⟨a, ds, hi, rfl, rfl⟩ := h
    obtain ⟨vs, h2, h3⟩ := hld_at st hi
    exact .lst (SqL.of h2) (dpa_mono st.ex _ _ h3)
theorem rd_nowP {z : Bool} {v : V} {d : PyData} (st : Sk K F H σ env) (h : Rd K F env z v d) (c : SeqAt.shaped d = true) : Dp K H v d := dq_dp _ _ (shp_lay c) (rd_now st h)
/-- a list: where it stands, its items by the frozen part -/
theorem rd_lst {z : Bool} {v : V} {ds : List PyData} (st : Sk K F H σ env) (h : Rd K F env z v (.list ds)) : ∃ a vs, v = .ref a ∧ SqL K H a vs ∧ DqAll K F vs ds := by
  cases z with
  | true =>
    obtain ⟨a, xs, rfl, h2, h3⟩ := dp_lst h
    exact ⟨a, xs, rfl, ex_l st.ex h2, h3⟩
  | false =>
    obtain ⟨a, ds', hi, rfl, e⟩ := h
    injection e with e
    subst e
    obtain ⟨vs, h2, h3⟩ := hld_at st hi
    exact ⟨a, vs, rfl, SqL.of h2, h3⟩
theorem rd_tup {z : Bool} {v : V} {ds : List PyData} (st : Sk K F H σ env) (h : Rd K F env z v (.tuple ds)) : ∃ a vs, v = .ref a ∧ SqT K H a vs ∧ DqAll K F vs ds := by
  cases z with
  | true =>
    obtain ⟨a, xs, rfl, h2, h3⟩ := dp_tup h
    exact ⟨a, xs, rfl, ex_t st.ex h2, h3⟩
  | false => obtain ⟨_, _, _, _, e⟩ := h; cases e
theorem rd_int {z : Bool} {v : V} {i : Int} (h : Rd K F env z v (.int i)) : v = .int i := by
  cases z with
  | true => exact dp_int h
  | false => obtain ⟨_, _, _, _, e⟩ := h; cases e
theorem rd_str {z : Bool} {v : V} {i : Str} (h : Rd K F env z v (.str i)) : v = .str i := by
  cases z with
  | true => exact dp_str h
  | false => obtain ⟨_, _, _, _, e⟩ := h; cases e
theorem rd_bl {z : Bool} {v : V} {i : Bool} (h : Rd K F env z v (.bool i)) : v = .bl i := by
  cases z with
  | true => exact dp_bl h
  | false => obtain ⟨_, _, _, _, e⟩ := h; cases e
theorem rd_non {z : Bool} {v : V} (h : Rd K F env z v .none) : v = .non := by
  cases z with
  | true => exact dp_non h
  | false => obtain ⟨_, _, _, _, e⟩ := h; cases e
theorem WE.mono {Φ Φ' : PyData → Bool → Prop} (h : WE X g e env Φ Ψ) (k : ∀ d z, Φ d z → Φ' d z) : WE X g e env Φ' Ψ :=
  fun W tk σ F H st hx Q hQ => h W tk σ F H st hx Q fun d z v F' H' p => hQ d z v F' H' (k d z p)
/-- a two-place operation on data -/
def DOp (K : Frag) (g : G) (env : List Sl) (r : R2) (d1 : PyData) (z1 : Bool) (d2 : PyData) (z2 : Bool) (Φ : PyData → Bool → Prop) : Prop :=
  ∀ (σ : SS) (F H : Hp) (v1 v2 : V), St K g F H σ env → Rd K F env z1 v1 d1 → Rd K F env z2 v2 d2 →
    ∀ Q : VK, (∀ d z v F' H', Φ d z → St K g F' H' σ env → Ex F F' → Rd K F' env z v d → Q v H') → r v1 v2 H Q
theorem we_op {Φ : PyData → Bool → Prop} {R : PyData → Bool → PyData → Bool → Prop} {r : R2} (hop : PE X e (tOp r (semE X a) (semE X b)))
    (hr : ∀ d1 z1 d2 z2, R d1 z1 d2 z2 → DOp X.K g env r d1 z1 d2 z2 Φ)
    (h : WE X g a env (fun d1 z1 => WE X g b env (fun d2 z2 => R d1 z1 d2 z2) Ψ) Ψ) : WE X g e env Φ Ψ := by
  intro W tk σ F H st hx Q hQ
  refine semE_of hop ?_
  refine h W tk σ F H st hx _ fun d1 z1 v1 F1 H1 h1 st1 e1 r1 => ?_
  refine h1 W tk σ F1 H1 st1 hx _ fun d2 z2 v2 F2 H2 h2 st2 e2 r2 => ?_
  exact hr _ _ _ _ h2 σ F2 H2 v1 v2 st2 (rd_mono e2 r1) r2 Q fun d z v F' H' hp s3 e3 r3 => hQ d z v F' H' hp s3 ((e1.trans e2).trans e3) r3
theorem wt_op {Φ : Bool → Prop} {R : PyData → Bool → PyData → Bool → Prop} {r : R2} (hop : PT X e (tTest (tOp r (semE X a) (semE X b))))
    (hr : ∀ d1 z1 d2 z2, R d1 z1 d2 z2 → DOp X.K g env r d1 z1 d2 z2 (fun d _ => ∃ k, d = .bool k ∧ Φ k))
    (h : WE X g a env (fun d1 z1 => WE X g b env (fun d2 z2 => R d1 z1 d2 z2) Ψ) Ψ) : WT X g e env Φ Ψ := by
  intro W tk σ F H st hx Q hQ
  refine semT_of hop ?_
  refine h W tk σ F H st hx _ fun d1 z1 v1 F1 H1 h1 st1 e1 r1 => ?_
  refine h1 W tk σ F1 H1 st1 hx _ fun d2 z2 v2 F2 H2 h2 st2 e2 r2 => ?_
  refine hr _ _ _ _ h2 σ F2 H2 v1 v2 st2 (rd_mono e2 r1) r2 _ fun d z v F' H' ⟨k, hd, hp⟩ s3 e3 r3 => ?_
  subst hd
  exact ⟨k, rd_bl r3, hQ k F' H' hp s3 ((e1.trans e2).trans e3)⟩
def DUn (K : Frag) (g : G) (env : List Sl) (r : V → Hp → VK → Prop) (d1 : PyData) (z1 : Bool) (Φ : PyData → Bool → Prop) : Prop :=
  ∀ (σ : SS) (F H : Hp) (v1 : V), St K g F H σ env → Rd K F env z1 v1 d1 →
    ∀ Q : VK, (∀ d z v F' H', Φ d z → St K g F' H' σ env → Ex F F' → Rd K F' env z v d → Q v H') → r v1 H Q
theorem we_un1 {Φ : PyData → Bool → Prop} {R : PyData → Bool → Prop} {r : V → Hp → VK → Prop} (hop : PE X e (tUn r (semE X a)))
    (hr : ∀ d1 z1, R d1 z1 → DUn X.K g env r d1 z1 Φ) (h : WE X g a env R Ψ) : WE X g e env Φ Ψ := by
  intro W tk σ F H st hx Q hQ
  refine semE_of hop ?_
  refine h W tk σ F H st hx _ fun d1 z1 v1 F1 H1 h1 st1 e1 r1 => ?_
  exact hr _ _ h1 σ F1 H1 v1 st1 r1 Q fun d z v F' H' hp s3 e3 r3 => hQ d z v F' H' hp s3 (e1.trans e3) r3
theorem dop_of {r : R2} {d1 d2 d : PyData} {z1 z2 z : Bool} {Φ : PyData → Bool → Prop} (hp : Φ d z)
    (h : ∀ (σ : SS) (F H : Hp) (v1 v2 : V) (Q : VK), St K g F H σ env → Rd K F env z1 v1 d1 → Rd K F env z2 v2 d2 → (∀ v, Rd K F env z v d → Q v H) → r v1 v2 H Q) : DOp K g env r d1 z1 d2 z2 Φ :=
  fun σ F H v1 v2 st r1 r2 Q hQ => h σ F H v1 v2 Q st r1 r2 fun v rv => hQ d z v F H hp st (Ex.refl F) rv
theorem dop_l {r r' : R2} {d1 d2 : PyData} {z1 z2 : Bool} {Φ : PyData → Bool → Prop} (h : DOp K g env r d1 z1 d2 z2 Φ) : DOp K g env (fun x y H Q => r x y H Q ∨ r' x y H Q) d1 z1 d2 z2 Φ :=
  fun σ F H v1 v2 st r1 r2 Q hQ => .inl (h σ F H v1 v2 st r1 r2 Q hQ)
theorem dop_r {r r' : R2} {d1 d2 : PyData} {z1 z2 : Bool} {Φ : PyData → Bool → Prop} (h : DOp K g env r' d1 z1 d2 z2 Φ) : DOp K g env (fun x y H Q => r x y H Q ∨ r' x y H Q) d1 z1 d2 z2 Φ :=
  fun σ F H v1 v2 st r1 r2 Q hQ => .inr (h σ F H v1 v2 st r1 r2 Q hQ)
/-- a new object, frozen at once -/
theorem put_lst {p : Addr} {vs : List V} {ds : List PyData} {Φ : PyData → Bool → Prop} {Q : VK} (st : St K g F H σ env) (hn : H p = none) (hd : DqAll K F vs ds) (hp : Φ (.list ds) true)
    (hQ : ∀ d z v F' H', Φ d z → St K g F' H' σ env → Ex F F' → Rd K F' env z v d → Q v H') : Q (.ref p) (upd H p (.lst vs)) := by
  have hF : F p = none := st.ex.none hn
  exact hQ (.list ds) true (.ref p) (upd F p (.lst vs)) _ hp (st.allocF hn) (Ex.new hF) (.lst (SqL.of upd_same) (dpa_mono (Ex.new hF) _ _ hd))
theorem put_tup {p : Addr} {vs : List V} {ds : List PyData} {Φ : PyData → Bool → Prop} {Q : VK} (st : St K g F H σ env) (hn : H p = none) (hd : DqAll K F vs ds) (hp : Φ (.tuple ds) true)
    (hQ : ∀ d z v F' H', Φ d z → St K g F' H' σ env → Ex F F' → Rd K F' env z v d → Q v H') : Q (.ref p) (upd H p (.tup vs)) := by
  have hF : F p = none := st.ex.none hn
  exact hQ (.tuple ds) true (.ref p) (upd F p (.tup vs)) _ hp (st.allocF hn) (Ex.new hF) (.tup upd_same (dpa_mono (Ex.new hF) _ _ hd))
theorem put_new {p : Addr} {vs : List V} {ds : List PyData} {Φ : List PyData → Prop} {Q : VK} (st : St K g F H σ env) (hn : H p = none) (hd : DqAll K F vs ds) (hp : Φ ds)
    (hQ : ∀ ds v F' H', Φ ds → St K g F' H' σ env → Ex F F' → NewL K g F' H' env v ds → Q v H') : Q (.ref p) (upd H p (.lst vs)) :=
  hQ ds (.ref p) F _ hp (st.alloc hn) (Ex.refl F) ⟨p, vs, rfl, upd_same, hd, st.ex.none hn, st.toSk.notown hn, st.h0 hn⟩
theorem we_of_wn {Φ : PyData → Bool → Prop} (h : WN X g e env (fun ds => Φ (.list ds) true) Ψ) : WE X g e env Φ Ψ := fun W tk σ F H st hx Q hQ =>
  h W tk σ F H st hx Q fun ds v F' H' hp st' e' ⟨p, vs, hv, h1, h2, h3, h4, h5⟩ => by
    subst hv
    have e2 := Ex.new (o := .lst vs) h3
    exact hQ (.list ds) true (.ref p) (upd F' p (.lst vs)) H' hp (st'.freeze h1 h3 h4 h5) (e'.trans e2) (.lst (SqL.of upd_same) (dpa_mono e2 _ _ h2))
section
variable {Φ : PyData → Bool → Prop}
theorem we_int {i : Int} {j : Nat} (h : Φ (.int i) true) : WE X g (.Constant (.int i) j pos) env Φ Ψ :=
  fun W tk σ F H st hx Q hQ => semE_of pe_int (hQ _ true _ F H h st (Ex.refl F) (.int i))
theorem we_str {i : Str} {j : Nat} (h : Φ (.str i) true) : WE X g (.Constant (.str i) j pos) env Φ Ψ :=
  fun W tk σ F H st hx Q hQ => semE_of pe_str (hQ _ true _ F H h st (Ex.refl F) (.str i))
theorem we_bool {i : Bool} {j : Nat} (h : Φ (.bool i) true) : WE X g (.Constant (.bool i) j pos) env Φ Ψ :=
  fun W tk σ F H st hx Q hQ => semE_of pe_bl (hQ _ true _ F H h st (Ex.refl F) (.bl i))
theorem we_none {j : Nat} (h : Φ .none true) : WE X g (.Constant .none j pos) env Φ Ψ :=
  fun W tk σ F H st hx Q hQ => semE_of pe_non (hQ _ true _ F H h st (Ex.refl F) .non)
theorem getD_some {σ : SS} {i : Nat} {v : V} (h : σ[i]?.getD none = some v) : σ[i]? = some (some v) := by
  cases e : σ[i]? with
  | none => rw [e] at h; cases h
  | some o => rw [e] at h; exact congrArg some h
/-- a name that holds data -/
theorem we_n (i : Nat) {d : PyData} {x : Str} (h : Φ d true) (he : env[i]? = some (.d d) := by rfl) (hN : X.N[i]? = some x := by rfl)
    (hv : Vis X.env.scope x := by first | exact Or.inl rfl | exact Or.inr (Or.inl rfl) | exact Or.inr (Or.inr rfl)) (hd : (x == ("__debug__" : Str)) = false := by decide)
    (hcd : (x == ("__classdict__" : Str)) = false := by decide) : WE X g (.Name x pos) env Φ Ψ := fun W tk σ F H st hx Q hQ => by
  obtain ⟨v, h1, h2⟩ := st.sl i _ he
  exact semE_of (pe_var hN hv hd hcd) ⟨v, getD_some h1, hQ d true v F H h st (Ex.refl F) h2⟩
/-- a name that holds a list of one's own -/
theorem we_nl (i : Nat) {al : Addr} {ds : List PyData} {x : Str} (h : Φ (.list ds) false) (he : env[i]? = some (.ol al ds) := by rfl) (hN : X.N[i]? = some x := by rfl)
    (hv : Vis X.env.scope x := by first | exact Or.inl rfl | exact Or.inr (Or.inl rfl) | exact Or.inr (Or.inr rfl)) (hd : (x == ("__debug__" : Str)) = false := by decide)
    (hcd : (x == ("__classdict__" : Str)) = false := by decide) : WE X g (.Name x pos) env Φ Ψ := fun W tk σ F H st hx Q hQ => by
  obtain ⟨h1, h2⟩ := st.sl i _ he
  exact semE_of (pe_var hN hv hd hcd) ⟨_, getD_some h1, hQ _ false _ F H h st (Ex.refl F) ⟨al, ds, .inl ⟨i, he⟩, rfl, rfl⟩⟩
/-- a module's int, a module's text -/
theorem we_gint {n : Int} {x : Str} (hm : ∃ t, X.mg x = some (.int n t)) (h : Φ (.int n) true) (hg : Gl X x := by rfl) (hd : (x == ("__debug__" : Str)) = false := by decide) : WE X g (.Name x pos) env Φ Ψ :=
  fun W tk σ F H st hx Q hQ => by
    obtain ⟨t, ht⟩ := hm
    exact semE_of (pe_glob hg ht (v := .int n) ⟨t, rfl⟩ hd) (hQ _ true _ F H h st (Ex.refl F) (.int n))
end
end
end TL
namespace TL
open PySem PySem.Spec PyProof.Rows L2
section
variable {X : Cx} {g : G} {env : List Sl} {Ψ : Exc → Prop} {pos : Pos} {a b c e : Expr} {K : Frag} {F F' H : Hp} {σ : SS}
def rCatL (K : Frag) : R2 := fun x y H Q => ∃ l b xs zs, x = .ref l ∧ y = .ref b ∧ SqL K H l xs ∧ SqL K H b zs ∧ xs.length + zs.length ≤ sizeLine ∧ ∀ p, H p = none → Q (.ref p) (upd H p (.lst (xs ++ zs)))
theorem op_catL : OpR X (binaryOp .Add) (rCatL X.K) := by
  intro pins s σ H x y v u Q I rx ry h
  obtain ⟨l, b, xs, zs, rfl, rfl, hH, hB, hz, q⟩ := h
  cases rx
  cases ry
  obtain ⟨vs, r, ⟨⟨cls, dd, data, sl⟩, n, ho, hc, hdn, hd⟩, hl⟩ := I.list hH
  obtain ⟨ws, r2, ⟨⟨cls2, dd2, data2, sl2⟩, n2, ho2, hc2, hdn2, hd2⟩, hl2⟩ := I.list hB
  simp only at hc hd hc2 hd2
  subst hc hd hc2 hd2
  have e1 := r.length
  have e2 := r2.length
  have e : vs.toArray ++ ws.toArray = (vs ++ ws).toArray := by simp
  refine concat_meets ⟨_, ho, rfl⟩ ⟨_, ho2, rfl⟩ noFill_list_add seq_list_add PySem.F.slot_list_add PySem.F.entry_list_add (PySem.F.args_list_add_2 _ _) (list_addW l b vs.toArray ws.toArray n n2 dd dd2 sl sl2 (by simp only [List.size_toArray]; omega)) ⟨ho, ho2, ?_⟩
  rw [e]
  exact ⟨.ref _, _, I.lnew (t' := s.toks) (r.append r2) (by rw [List.length_append]; omega), rfl, q _ I.fresh⟩
theorem dop_I0 {f : Int → Int → V} {i j : Int} {z1 z2 : Bool} {Φ : PyData → Bool → Prop} {d : PyData} (h : Φ d true) (hf : ∀ F, Dq K F (f i j) d) : DOp K g env (rI0 f) (.int i) z1 (.int j) z2 Φ :=
  dop_of h fun σ F H v1 v2 Q st r1 r2 q => ⟨i, j, rd_int r1, rd_int r2, q _ (hf F)⟩
theorem dop_I {C : Int → Int → Prop} {f : Int → Int → V} {i j : Int} {z1 z2 : Bool} {Φ : PyData → Bool → Prop} {d : PyData} (hc : C i j) (h : Φ d true) (hf : ∀ F, Dq K F (f i j) d) : DOp K g env (rI C f) (.int i) z1 (.int j) z2 Φ :=
  dop_of h fun σ F H v1 v2 Q st r1 r2 q => ⟨i, j, rd_int r1, rd_int r2, hc, q _ (hf F)⟩
inductive AddP (Φ : PyData → Bool → Prop) : PyData → Bool → PyData → Bool → Prop
  | int {i j : Int} {z1 z2 : Bool} : Φ (.int (i + j)) true → AddP Φ (.int i) z1 (.int j) z2
  | str {i j : Str} {z1 z2 : Bool} : Φ (.str (i ++ j)) true → i.length + j.length ≤ sizeLine → AddP Φ (.str i) z1 (.str j) z2
  | lst {xs ys : List PyData} {z1 z2 : Bool} : Φ (.list (xs ++ ys)) true → xs.length + ys.length ≤ sizeLine → AddP Φ (.list xs) z1 (.list ys) z2
  | tup {xs ys : List PyData} {z1 z2 : Bool} : Φ (.tuple (xs ++ ys)) true → xs.length + ys.length ≤ sizeLine → AddP Φ (.tuple xs) z1 (.tuple ys) z2
abbrev rAddS : R2 := fun x y H Q => ∃ i j, x = .str i ∧ y = .str j ∧ i.length + j.length ≤ sizeLine ∧ Q (.str (i ++ j)) H
abbrev rAddA (K : Frag) : R2 := fun x y H Q => (rI0 fun i j => .int (i + j)) x y H Q ∨ (fun x y H Q => rAddS x y H Q ∨ (fun x y H Q => rCatL K x y H Q ∨ rCatA K x y H Q) x y H Q) x y H Q
theorem op_addA : OpR X (binaryOp .Add) (rAddA X.K) := op_add.or (op_add_str.or (op_catL.or op_catA))
theorem dop_add {Φ : PyData → Bool → Prop} {d1 d2 : PyData} {z1 z2 : Bool} (h : AddP Φ d1 z1 d2 z2) : DOp K g env (rAddA K) d1 z1 d2 z2 Φ := by
  cases h with
  | int h => exact dop_l (dop_I0 h fun F => .int _)
  | str h hl => exact dop_r (dop_l (dop_of h fun σ F H v1 v2 Q st r1 r2 q => ⟨_, _, rd_str r1, rd_str r2, hl, q _ (.str _)⟩))
  | lst h hl =>
    refine dop_r (dop_r (dop_l fun σ F H v1 v2 st r1 r2 Q hQ => ?_))
    obtain ⟨a1, vs1, rfl, s1, p1⟩ := rd_lst st.toSk r1
    obtain ⟨a2, vs2, rfl, s2, p2⟩ := rd_lst st.toSk r2
    exact ⟨a1, a2, vs1, vs2, rfl, rfl, s1, s2, by rw [dpa_len p1, dpa_len p2]; exact hl, fun p hp => put_lst st hp (dpa_app p1 p2) h hQ⟩
  | tup h hl =>
    refine dop_r (dop_r (dop_r fun σ F H v1 v2 st r1 r2 Q hQ => ?_))
    obtain ⟨a1, vs1, rfl, s1, p1⟩ := rd_tup st.toSk r1
    obtain ⟨a2, vs2, rfl, s2, p2⟩ := rd_tup st.toSk r2
    refine ⟨a1, a2, vs1, vs2, rfl, rfl, s1, s2, by rw [dpa_len p1, dpa_len p2]; exact hl, fun e => ?_, fun _ e => ?_, fun _ _ p hp => put_tup st hp (dpa_app p1 p2) h hQ⟩
    · subst e
      cases p1
      rw [List.nil_append] at h
      refine hQ _ z2 _ F H ?_ st (Ex.refl F) r2
      cases z2 with
      | true => exact h
      | false => obtain ⟨_, _, _, _, e⟩ := r2; cases e
    subst e
    cases p2
    rw [List.append_nil] at h
    refine hQ _ z1 _ F H ?_ st (Ex.refl F) r1
    cases z1 with
    | true => exact h
    | false => obtain ⟨_, _, _, _, e⟩ := r1; cases e
section
variable {Φ : PyData → Bool → Prop}
theorem we_add (h : WE X g a env (fun d1 z1 => WE X g b env (fun d2 z2 => AddP Φ d1 z1 d2 z2) Ψ) Ψ) : WE X g (.BinOp a .Add b pos) env Φ Ψ :=
  we_op (pe_op op_addA (peS a) (peS b)) (fun _ _ _ _ => dop_add) h
inductive IntP (C : Int → Int → Prop) (f : Int → Int → Int) (Φ : PyData → Bool → Prop) : PyData → Bool → PyData → Bool → Prop
  | mk {i j : Int} {z1 z2 : Bool} : Φ (.int (f i j)) true → C i j → IntP C f Φ (.int i) z1 (.int j) z2
theorem we_sub (h : WE X g a env (fun d1 z1 => WE X g b env (fun d2 z2 => IntP (fun _ _ => True) (fun i j => i - j) Φ d1 z1 d2 z2) Ψ) Ψ) : WE X g (.BinOp a .Sub b pos) env Φ Ψ :=
  we_op (pe_op op_sub (peS a) (peS b)) (fun _ _ _ _ ⟨h, _⟩ => dop_I0 h fun F => .int _) h
theorem we_mul (h : WE X g a env (fun d1 z1 => WE X g b env (fun d2 z2 => IntP CMul (fun i j => i * j) Φ d1 z1 d2 z2) Ψ) Ψ) : WE X g (.BinOp a .Mult b pos) env Φ Ψ :=
  we_op (pe_op op_mul (peS a) (peS b)) (fun _ _ _ _ ⟨h, hc⟩ => dop_I hc h fun F => .int _) h
theorem we_div (h : WE X g a env (fun d1 z1 => WE X g b env (fun d2 z2 => IntP CDivW (fun i j => i / j) Φ d1 z1 d2 z2) Ψ) Ψ) : WE X g (.BinOp a .FloorDiv b pos) env Φ Ψ :=
  we_op (pe_op op_fdivW (peS a) (peS b)) (fun _ _ _ _ ⟨h, hc⟩ => dop_I hc h fun F => .int _) h
theorem we_mod (h : WE X g a env (fun d1 z1 => WE X g b env (fun d2 z2 => IntP (fun _ j => 0 < j) (fun i j => i % j) Φ d1 z1 d2 z2) Ψ) Ψ) : WE X g (.BinOp a .Mod b pos) env Φ Ψ :=
  we_op (pe_op op_mod (peS a) (peS b)) (fun _ _ _ _ ⟨h, hc⟩ => dop_I hc h fun F => .int _) h
theorem we_pow (h : WE X g a env (fun d1 z1 => WE X g b env (fun d2 z2 => IntP CPow (fun i j => i ^ j.toNat) Φ d1 z1 d2 z2) Ψ) Ψ) : WE X g (.BinOp a .Pow b pos) env Φ Ψ :=
  we_op (pe_op op_pow (peS a) (peS b)) (fun _ _ _ _ ⟨h, hc⟩ => dop_I hc h fun F => .int _) h
theorem cdiv_small {j : Int} (i : Int) (h : 0 < j) (h2 : j < 4611686018427387904) : CDivW i j := wide_div h (b := 62) (by omega) (by decide) (by decide)
theorem we_neg (h : WE X g a env (fun d1 z1 => ∃ i, d1 = .int i ∧ Φ (.int (-i)) true) Ψ) : WE X g (.UnaryOp .USub a pos) env Φ Ψ :=
  we_un1 (pe_un un_neg (peS a)) (fun d1 z1 ⟨i, hi, hp⟩ σ F H v1 st r1 Q hQ => ⟨i, by subst hi; exact rd_int r1, hQ _ true _ F H hp st (Ex.refl F) (.int _)⟩) h
end
def CP (K : Frag) (g : G) (env : List Sl) (r : R2) (d1 : PyData) (z1 : Bool) (d2 : PyData) (z2 : Bool) (k : Bool) : Prop :=
  ∀ (σ : SS) (F H : Hp) (v1 v2 : V), St K g F H σ env → Rd K F env z1 v1 d1 → Rd K F env z2 v2 d2 → ∀ Q : VK, Q (.bl k) H → r v1 v2 H Q
theorem cp_l {r r' : R2} {d1 d2 : PyData} {z1 z2 k : Bool} (h : CP K g env r d1 z1 d2 z2 k) : CP K g env (fun x y H Q => r x y H Q ∨ r' x y H Q) d1 z1 d2 z2 k := fun σ F H v1 v2 st r1 r2 Q q => .inl (h σ F H v1 v2 st r1 r2 Q q)
theorem cp_r {r r' : R2} {d1 d2 : PyData} {z1 z2 k : Bool} (h : CP K g env r' d1 z1 d2 z2 k) : CP K g env (fun x y H Q => r x y H Q ∨ r' x y H Q) d1 z1 d2 z2 k := fun σ F H v1 v2 st r1 r2 Q q => .inr (h σ F H v1 v2 st r1 r2 Q q)
theorem we_cp {Φ : PyData → Bool → Prop} {op : CmpOp} {r : R2} (ho : OpR X (compareOp op) r) (h : WE X g a env (fun d1 z1 => WE X g b env (fun d2 z2 => ∃ k, CP X.K g env r d1 z1 d2 z2 k ∧ Φ (.bool k) true) Ψ) Ψ)
    (hm : behindInMarks op b = false := by first | exact nomark _ | rfl) : WE X g (.Compare a [op] [b] pos) env Φ Ψ :=
  we_op (pe_cmpR ho (peS a) (peS b) hm) (fun _ _ _ _ ⟨k, hc, hp⟩ σ F H v1 v2 st r1 r2 Q hQ => hc σ F H v1 v2 st r1 r2 Q (hQ _ true _ F H hp st (Ex.refl F) (.bl k))) h
theorem wt_cp {Φ : Bool → Prop} {op : CmpOp} {r : R2} (ho : OpR X (compareOp op) r) (h : WE X g a env (fun d1 z1 => WE X g b env (fun d2 z2 => ∃ k, CP X.K g env r d1 z1 d2 z2 k ∧ Φ k) Ψ) Ψ)
    (hm : behindInMarks op b = false := by first | exact nomark _ | rfl) : WT X g (.Compare a [op] [b] pos) env Φ Ψ :=
  wt_op (pt_cmpR ho (peS a) (peS b) hm) (fun _ _ _ _ ⟨k, hc, hp⟩ σ F H v1 v2 st r1 r2 Q hQ => hc σ F H v1 v2 st r1 r2 Q (hQ (.bool k) true _ F H ⟨k, rfl, hp⟩ st (Ex.refl F) (.bl k))) h
/-- a op b op' c -/
theorem chain_run {r r' : R2} {C : Bool → Prop} (h : WE X g a env (fun d1 z1 => WE X g b env (fun d2 z2 => ∃ k, CP X.K g env r d1 z1 d2 z2 k ∧ (k = true → WE X g c env (fun d3 z3 => ∃ k', CP X.K g env r' d2 z2 d3 z3 k' ∧ C k') Ψ) ∧ (k = false → C false)) Ψ) Ψ)
    {W : WX} (tk : Takes X W) {F H : Hp} (st : St X.K g F H σ env) (hx : HX X g env Ψ W σ) {Q : VK} (hQ : ∀ k F' H', C k → St X.K g F' H' σ env → Ex F F' → Q (.bl k) H') : tChain r r' (semE X a) (semE X b) (semE X c) σ H Q := by
  refine h W tk σ F H st hx _ fun d1 z1 v1 F1 H1 h1 st1 e1 r1 => ?_
  refine h1 W tk σ F1 H1 st1 hx _ fun d2 z2 v2 F2 H2 h2 st2 e2 r2 => ?_
  obtain ⟨k, hc, ht, hf⟩ := h2
  refine hc σ F2 H2 v1 v2 st2 (rd_mono e2 r1) r2 _ ⟨k, rfl, ?_⟩
  cases k with
  | true =>
    rw [if_pos rfl]
    refine ht rfl W tk σ F2 H2 st2 hx _ fun d3 z3 v3 F3 H3 h3 st3 e3 r3 => ?_
    obtain ⟨k', hc', hp⟩ := h3
    exact hc' σ F3 H3 v2 v3 st3 (rd_mono e3 r2) r3 Q (hQ k' F3 H3 hp st3 ((e1.trans e2).trans e3))
  | false =>
    rw [if_neg Bool.false_ne_true]
    exact hQ false F2 H2 (hf rfl) st2 (e1.trans e2)
theorem we_ch {Φ : PyData → Bool → Prop} {op op' : CmpOp} {r r' : R2} (ho : OpR X (compareOp op) r) (ho' : OpR X (compareOp op') r')
    (h : WE X g a env (fun d1 z1 => WE X g b env (fun d2 z2 => ∃ k, CP X.K g env r d1 z1 d2 z2 k ∧ (k = true → WE X g c env (fun d3 z3 => ∃ k', CP X.K g env r' d2 z2 d3 z3 k' ∧ Φ (.bool k') true) Ψ) ∧ (k = false → Φ (.bool false) true)) Ψ) Ψ)
    (hm : lastMarks [op, op'] [b, c] = false := by with_unfolding_all rfl) : WE X g (.Compare a [op, op'] [b, c] pos) env Φ Ψ := fun W tk σ F H st hx Q hQ =>
  semE_of (pe_chain ho ho' (peS a) (peS b) (peS c) hm) (chain_run (C := fun k => Φ (.bool k) true) h tk st hx fun k F' H' hp s e => hQ _ true _ F' H' hp s e (.bl k))
theorem wt_ch {Φ : Bool → Prop} {op op' : CmpOp} {r r' : R2} (ho : OpR X (compareOp op) r) (ho' : OpR X (compareOp op') r')
    (h : WE X g a env (fun d1 z1 => WE X g b env (fun d2 z2 => ∃ k, CP X.K g env r d1 z1 d2 z2 k ∧ (k = true → WE X g c env (fun d3 z3 => ∃ k', CP X.K g env r' d2 z2 d3 z3 k' ∧ Φ k') Ψ) ∧ (k = false → Φ false)) Ψ) Ψ)
    (hm : lastMarks [op, op'] [b, c] = false := by with_unfolding_all rfl) : WT X g (.Compare a [op, op'] [b, c] pos) env Φ Ψ := fun W tk σ F H st hx Q hQ =>
  semT_of (pt_chain ho ho' (peS a) (peS b) (peS c) hm) (chain_run h tk st hx fun k F' H' hp s e => ⟨k, rfl, hQ k F' H' hp s e⟩)
/-- the operators' rules, by what they take -/
abbrev rLtA (K : Frag) : R2 := fun x y H Q => (rI0 fun i j => .bl (decide (i < j))) x y H Q ∨ rLtT K x y H Q
theorem op_ltA {k : Nat} (hr : Room k X.A) : OpR X (compareOp .Lt) (rLtA X.K) := op_lt.or (op_ltT hr.units0)
abbrev rEqA (K : Frag) : R2 := fun x y H Q => rEq x y H Q ∨ rEqD K x y H Q
theorem op_eqA {k : Nat} (hr : Room k X.A) : OpR X (compareOp .Eq) (rEqA X.K) := op_eq.or (op_eqD hr.units)
abbrev rNeA (K : Frag) : R2 := fun x y H Q => rNe x y H Q ∨ rNeD K x y H Q
theorem op_neA {k : Nat} (hr : Room k X.A) : OpR X (compareOp .NotEq) (rNeA X.K) := op_ne.or (op_neD hr.units)
theorem units65 {k : Nat} {A : Around} (hr : Room k A) : A.units + 65 < cLine := by have := hr.un; omega
abbrev rInS : R2 := fun x y H Q => ∃ i j, x = .str i ∧ y = .str j ∧ Q (.bl (!(Builtin.Str.occurrences j i 0 j.length 1).isEmpty)) H
abbrev rNotInS : R2 := fun x y H Q => ∃ i j, x = .str i ∧ y = .str j ∧ Q (.bl (!(!(Builtin.Str.occurrences j i 0 j.length 1).isEmpty))) H
def rInTD (K : Frag) : R2 := fun x y H Q => ∃ d ds, Dp K H x d ∧ Dp K H y (.tuple ds) ∧ SeqAt.shaped d = true ∧ SeqAt.shaped (.tuple ds) = true ∧ Q (.bl (ds.any fun z => PyData.eqv z d)) H
def rNotInTD (K : Frag) : R2 := fun x y H Q => ∃ d ds, Dp K H x d ∧ Dp K H y (.tuple ds) ∧ SeqAt.shaped d = true ∧ SeqAt.shaped (.tuple ds) = true ∧ Q (.bl (!ds.any fun z => PyData.eqv z d)) H
theorem op_inTD (hu : X.A.units + 65 < cLine) : OpR X (compareOp .In) (rInTD X.K) := by
  intro pins s σ H x y v u Q I rx ry h
  obtain ⟨d, ds, hd, he, sd, se, q⟩ := h
  obtain ⟨as, r1⟩ := Dp.reads I d x v hd rx
  obtain ⟨bs, r2⟩ := Dp.reads I (.tuple ds) y u he ry
  exact SeqAt.in_tuple_reads r2 r1 (SeqAt.canLay_of_shaped se) (SeqAt.canLay_of_shaped sd) (room_in_shaped sd hu) ⟨.bl _, H, I, rfl, q⟩
theorem op_notInTD (hu : X.A.units + 65 < cLine) : OpR X (compareOp .NotIn) (rNotInTD X.K) := by
  intro pins s σ H x y v u Q I rx ry h
  obtain ⟨d, ds, hd, he, sd, se, q⟩ := h
  obtain ⟨as, r1⟩ := Dp.reads I d x v hd rx
  obtain ⟨bs, r2⟩ := Dp.reads I (.tuple ds) y u he ry
  exact SeqAt.notIn_tuple_reads r2 r1 (SeqAt.canLay_of_shaped se) (SeqAt.canLay_of_shaped sd) (room_in_shaped sd hu) ⟨.bl _, H, I, rfl, q⟩
abbrev rInA (K : Frag) : R2 := fun x y H Q => rIn K false x y H Q ∨ (fun x y H Q => rInD K x y H Q ∨ (fun x y H Q => rInS x y H Q ∨ rInTD K x y H Q) x y H Q) x y H Q
abbrev rNotInA (K : Frag) : R2 := fun x y H Q => rIn K true x y H Q ∨ (fun x y H Q => rNotInD K x y H Q ∨ (fun x y H Q => rNotInS x y H Q ∨ rNotInTD K x y H Q) x y H Q) x y H Q
theorem op_inA {k : Nat} (hr : Room k X.A) : OpR X (compareOp .In) (rInA X.K) := op_in_seq.or ((op_inD (units65 hr)).or (op_in_str.or (op_inTD (units65 hr))))
theorem op_notInA {k : Nat} (hr : Room k X.A) : OpR X (compareOp .NotIn) (rNotInA X.K) := op_notIn_seq.or ((op_notInD (units65 hr)).or (op_notin_str.or (op_notInTD (units65 hr))))
abbrev rIsN : R2 := fun x y H Q => y = .non ∧ Q (.bl (decide (x = .non))) H
abbrev rNotN : R2 := fun x y H Q => y = .non ∧ Q (.bl (!decide (x = .non))) H
section
variable {z1 z2 : Bool} {i j : Int} {s t : Str} {d1 d2 : PyData}
theorem cp_I0 {f : Int → Int → Bool} : CP K g env (rI0 fun i j => .bl (f i j)) (.int i) z1 (.int j) z2 (f i j) := fun σ F H v1 v2 st r1 r2 Q q => ⟨i, j, rd_int r1, rd_int r2, q⟩
theorem cp_lt : CP K g env (rLtA K) (.int i) z1 (.int j) z2 (decide (i < j)) := cp_l cp_I0
theorem cp_ltT {ns ms : List Int} : CP K g env (rLtA K) (.tuple (ns.map .int)) z1 (.tuple (ms.map .int)) z2 (HT.lexLt ns ms) := cp_r fun σ F H v1 v2 st r1 r2 Q q => by
  obtain ⟨a1, vs1, rfl, s1, p1⟩ := rd_tup st.toSk r1
  obtain ⟨a2, vs2, rfl, s2, p2⟩ := rd_tup st.toSk r2
  rw [dpa_ints_eq p1] at s1
  rw [dpa_ints_eq p2] at s2
  exact ⟨a1, a2, ns, ms, rfl, rfl, s1, s2, q⟩
theorem cp_le : CP K g env (rI0 fun i j => .bl (decide (i ≤ j))) (.int i) z1 (.int j) z2 (decide (i ≤ j)) := cp_I0
theorem cp_gt : CP K g env (rI0 fun i j => .bl (decide (j < i))) (.int i) z1 (.int j) z2 (decide (j < i)) := cp_I0 (f := fun i j => decide (j < i))
theorem cp_ge : CP K g env (rI0 fun i j => .bl (decide (j ≤ i))) (.int i) z1 (.int j) z2 (decide (j ≤ i)) := cp_I0 (f := fun i j => decide (j ≤ i))
theorem vint_dec : decide (V.int i = V.int j) = decide (i = j) := by
  by_cases h : i = j
  · subst h; simp
  · rw [decide_eq_false h, decide_eq_false fun z => h (V.int.inj z)]
theorem vstr_dec : decide (V.str s = V.str t) = decide (s = t) := by
  by_cases h : s = t
  · subst h; simp
  · rw [decide_eq_false h, decide_eq_false fun z => h (V.str.inj z)]
theorem vbl_dec {k l : Bool} : decide (V.bl k = V.bl l) = decide (k = l) := by
  by_cases h : k = l
  · subst h; simp
  · rw [decide_eq_false h, decide_eq_false fun z => h (V.bl.inj z)]
theorem cp_eqI : CP K g env (rEqA K) (.int i) z1 (.int j) z2 (decide (i = j)) := cp_l fun σ F H v1 v2 st r1 r2 Q q => by
  rw [rd_int r1, rd_int r2]; exact ⟨rfl, by rw [vint_dec]; exact q⟩
theorem cp_eqS : CP K g env (rEqA K) (.str s) z1 (.str t) z2 (decide (s = t)) := cp_l fun σ F H v1 v2 st r1 r2 Q q => by
  rw [rd_str r1, rd_str r2]; exact ⟨rfl, by rw [vstr_dec]; exact q⟩
theorem cp_eqB {k l : Bool} : CP K g env (rEqA K) (.bool k) z1 (.bool l) z2 (decide (k = l)) := cp_l fun σ F H v1 v2 st r1 r2 Q q => by
  rw [rd_bl r1, rd_bl r2]; exact ⟨rfl, by rw [vbl_dec]; exact q⟩
theorem cp_eqD (h1 : SeqAt.shaped d1 = true) (h2 : SeqAt.shaped d2 = true) : CP K g env (rEqA K) d1 z1 d2 z2 (PyData.eqv d1 d2) := cp_r fun σ F H v1 v2 st r1 r2 Q q => ⟨d1, d2, rd_nowP st.toSk r1 h1, rd_nowP st.toSk r2 h2, h1, h2, q⟩
theorem cp_neI : CP K g env (rNeA K) (.int i) z1 (.int j) z2 (!decide (i = j)) := cp_l fun σ F H v1 v2 st r1 r2 Q q => by
  rw [rd_int r1, rd_int r2]; exact ⟨rfl, by rw [vint_dec]; exact q⟩
theorem cp_neS : CP K g env (rNeA K) (.str s) z1 (.str t) z2 (!decide (s = t)) := cp_l fun σ F H v1 v2 st r1 r2 Q q => by
  rw [rd_str r1, rd_str r2]; exact ⟨rfl, by rw [vstr_dec]; exact q⟩
theorem cp_neB {k l : Bool} : CP K g env (rNeA K) (.bool k) z1 (.bool l) z2 (!decide (k = l)) := cp_l fun σ F H v1 v2 st r1 r2 Q q => by
  rw [rd_bl r1, rd_bl r2]; exact ⟨rfl, by rw [vbl_dec]; exact q⟩
theorem cp_neD (h1 : SeqAt.shaped d1 = true) (h2 : SeqAt.shaped d2 = true) : CP K g env (rNeA K) d1 z1 d2 z2 (!PyData.eqv d1 d2) := cp_r fun σ F H v1 v2 st r1 r2 Q q => ⟨d1, d2, rd_nowP st.toSk r1 h1, rd_nowP st.toSk r2 h2, h1, h2, q⟩
/-- x is None -/
def isNone : PyData → Bool
  | .none => true
  | _ => false
theorem dp_isnone {v : V} {d : PyData} (h : Dq K H v d) : decide (v = .non) = isNone d := by
  cases h <;> first | rfl | exact decide_eq_false (fun z => by cases z)
theorem cp_isN : CP K g env rIsN d1 z1 .none z2 (isNone d1) := fun σ F H v1 v2 st r1 r2 Q q => ⟨rd_non r2, by rw [dp_isnone (rd_now st.toSk r1)]; exact q⟩
theorem cp_notN : CP K g env rNotN d1 z1 .none z2 (!isNone d1) := fun σ F H v1 v2 st r1 r2 Q q => ⟨rd_non r2, by rw [dp_isnone (rd_now st.toSk r1)]; exact q⟩
/-- flat things in a list or tuple -/
def fl : PyData → Option V
  | .int i => some (.int i)
  | .str s => some (.str s)
  | .none => some .non
  | _ => none
theorem fl_dp {v x : V} {d : PyData} (h : Dq K H v d) (e : fl d = some x) : v = x := by
  cases h <;> first | exact Option.some.inj e | cases e
theorem fl_flat {x : V} {d : PyData} (e : fl d = some x) : flatV x = true := by
  cases d <;> first | (have e' := Option.some.inj e; subst e'; rfl) | cases e
theorem eqV_int : eqV (.int i) (.int j) = decide (i = j) := by
  show (i == j) = _
  rw [Bool.beq_eq_decide_eq]
/-- an int in a list of ints -/
theorem inV_ints : ∀ (ns : List Int) (i : Int), inV (.int i) (ns.map V.int) = decide (i ∈ ns)
  | [], i => rfl
  | n :: ns, i => by
    have ih := inV_ints ns i
    show (eqV (.int n) (.int i) || inV (.int i) (ns.map V.int)) = _
    rw [ih, eqV_int]
    by_cases h : i = n
    · subst h; simp
    · simp [h, Ne.symm h]
/-- texts in a tuple, a list of texts -/
theorem eqV_str : eqV (.str s) (.str t) = decide (s = t) := by
  show (s == t) = _
  rw [Bool.beq_eq_decide_eq]
theorem inV_strs : ∀ (ns : List Str) (i : Str), inV (.str i) (ns.map V.str) = decide (i ∈ ns)
  | [], i => rfl
  | n :: ns, i => by
    have ih := inV_strs ns i
    show (eqV (.str n) (.str i) || inV (.str i) (ns.map V.str)) = _
    rw [ih, eqV_str]
    by_cases h : i = n
    · subst h; simp
    · simp [h, Ne.symm h]
/-- data in a list -/
theorem cp_inD {ds : List PyData} (h1 : SeqAt.shaped d1 = true) (h2 : SeqAt.shaped (.list ds) = true) : CP K g env (rInA K) d1 z1 (.list ds) z2 (ds.any fun z => PyData.eqv z d1) :=
  cp_r (cp_l fun σ F H v1 v2 st r1 r2 Q q => ⟨d1, ds, rd_nowP st.toSk r1 h1, rd_nowP st.toSk r2 h2, h1, h2, q⟩)
theorem cp_notInD {ds : List PyData} (h1 : SeqAt.shaped d1 = true) (h2 : SeqAt.shaped (.list ds) = true) : CP K g env (rNotInA K) d1 z1 (.list ds) z2 (!ds.any fun z => PyData.eqv z d1) :=
  cp_r (cp_l fun σ F H v1 v2 st r1 r2 Q q => ⟨d1, ds, rd_nowP st.toSk r1 h1, rd_nowP st.toSk r2 h2, h1, h2, q⟩)
theorem cp_inS : CP K g env (rInA K) (.str s) z1 (.str t) z2 (!(Builtin.Str.occurrences t s 0 t.length 1).isEmpty) := cp_r (cp_r (cp_l fun σ F H v1 v2 st r1 r2 Q q => ⟨s, t, rd_str r1, rd_str r2, q⟩))
theorem cp_notInS : CP K g env (rNotInA K) (.str s) z1 (.str t) z2 (!(!(Builtin.Str.occurrences t s 0 t.length 1).isEmpty)) := cp_r (cp_r (cp_l fun σ F H v1 v2 st r1 r2 Q q => ⟨s, t, rd_str r1, rd_str r2, q⟩))
theorem cp_inTD {ds : List PyData} (h1 : SeqAt.shaped d1 = true) (h2 : SeqAt.shaped (.tuple ds) = true) : CP K g env (rInA K) d1 z1 (.tuple ds) z2 (ds.any fun z => PyData.eqv z d1) :=
  cp_r (cp_r (cp_r fun σ F H v1 v2 st r1 r2 Q q => ⟨d1, ds, rd_nowP st.toSk r1 h1, rd_nowP st.toSk r2 h2, h1, h2, q⟩))
theorem cp_notInTD {ds : List PyData} (h1 : SeqAt.shaped d1 = true) (h2 : SeqAt.shaped (.tuple ds) = true) : CP K g env (rNotInA K) d1 z1 (.tuple ds) z2 (!ds.any fun z => PyData.eqv z d1) :=
  cp_r (cp_r (cp_r fun σ F H v1 v2 st r1 r2 Q q => ⟨d1, ds, rd_nowP st.toSk r1 h1, rd_nowP st.toSk r2 h2, h1, h2, q⟩))
end
section
variable {Φ : Bool → Prop}
theorem WT.mono {Φ' : Bool → Prop} (h : WT X g e env Φ Ψ) (k : ∀ d, Φ d → Φ' d) : WT X g e env Φ' Ψ :=
  fun W tk σ F H st hx Q hQ => h W tk σ F H st hx Q fun d F' H' p => hQ d F' H' (k d p)
theorem wt_e (h : WE X g e env (fun d _ => ∃ k, d = .bool k ∧ Φ k) Ψ) (he : ∀ whole, isTrue e X.env whole = (do let v ← whole; standAt e.pos; holding [v] (truthy v)) := by intro _; rfl) : WT X g e env Φ Ψ := fun W tk σ F H st hx Q hQ => by
  refine semT_of (pt_val (peS e) he) ?_
  refine h W tk σ F H st hx _ fun d z v F' H' ⟨k, hd, hp⟩ s' e' r' => ?_
  subst hd
  exact ⟨k, rd_bl r', hQ k F' H' hp s' e'⟩
theorem wt_not (h : WT X g a env (fun k => Φ (!k)) Ψ) : WT X g (.UnaryOp .Not a pos) env Φ Ψ := fun W tk σ F H st hx Q hQ =>
  semT_of (pt_not (ptS a)) (h W tk σ F H st hx _ fun k F' H' hp s' e' => hQ _ F' H' hp s' e')
theorem we_not {Φ : PyData → Bool → Prop} (h : WE X g a env (fun d _ => ∃ k, d = .bool k ∧ Φ (.bool !k) true) Ψ) : WE X g (.UnaryOp .Not a pos) env Φ Ψ := fun W tk σ F H st hx Q hQ =>
  semE_of (pe_not (peS a)) (h W tk σ F H st hx _ fun d z v F' H' ⟨k, hd, hp⟩ s' e' r' => by
    subst hd
    exact ⟨k, rd_bl r', hQ _ true _ F' H' hp s' e' (.bl _)⟩)
/-- semantic reading of an and/or whatever its whole is -/
structure SemW (X : Cx) (e : Expr) (σ : SS) (H : Hp) (Q : Bool → Hp → Prop) : Prop where
  run : ∀ (whole : Sem Value) (pins : List (Addr × Obj)) (s : Shared), Inv X pins σ H s → wpAny (model X.prog X.w) X.A (isTrue e X.env whole) (TP X pins σ Q) X.xe s
def semW (X : Cx) (e : Expr) : TT := fun σ H Q => SemW X e σ H Q
theorem pwW (e : Expr) : PW X e (semW X e) := ⟨fun whole pins s σ H Q I q => q.run whole pins s I⟩
theorem semW_of {e : Expr} {t : TT} (h : PW X e t) {σ : SS} {H : Hp} {Q : Bool → Hp → Prop} (q : t σ H Q) : semW X e σ H Q := ⟨fun whole pins s I => h.run whole pins s σ H Q I q⟩
/-- a test, whatever its whole is -/
def WW (X : Cx) (g : G) (e : Expr) (env : List Sl) (Φ : Bool → Prop) (Ψ : Exc → Prop) : Prop :=
  ∀ (W : WX), Takes X W → ∀ (σ : SS) (F H : Hp), St X.K g F H σ env → HX X g env Ψ W σ →
    ∀ Q : Bool → Hp → Prop, (∀ b F' H', Φ b → St X.K g F' H' σ env → Ex F F' → Q b H') → semW X e σ H Q
theorem wt_ww (h : WW X g e env Φ Ψ) : WT X g e env Φ Ψ := fun W tk σ F H st hx Q hQ => semT_of (pwW e).pt (h W tk σ F H st hx Q hQ)
theorem ww_and {rest : List Expr} (h : WT X g a env (fun k => (k = true → WW X g (.BoolOp .And (b :: rest) pos) env Φ Ψ) ∧ (k = false → Φ false)) Ψ) : WW X g (.BoolOp .And (a :: b :: rest) pos) env Φ Ψ := fun W tk σ F H st hx Q hQ => by
  refine semW_of (pw_and (ptS a) (pwW _)) ?_
  refine h W tk σ F H st hx _ fun k F' H' ⟨ht, hf⟩ s' e' => ?_
  cases k with
  | true => rw [if_pos rfl]; exact ht rfl W tk σ F' H' s' hx Q fun k F2 H2 hp s2 e2 => hQ k F2 H2 hp s2 (e'.trans e2)
  | false => rw [if_neg Bool.false_ne_true]; exact hQ false F' H' (hf rfl) s' e'
theorem ww_or {rest : List Expr} (h : WT X g a env (fun k => (k = true → Φ true) ∧ (k = false → WW X g (.BoolOp .Or (b :: rest) pos) env Φ Ψ)) Ψ) : WW X g (.BoolOp .Or (a :: b :: rest) pos) env Φ Ψ := fun W tk σ F H st hx Q hQ => by
  refine semW_of (pw_or (ptS a) (pwW _)) ?_
  refine h W tk σ F H st hx _ fun k F' H' ⟨ht, hf⟩ s' e' => ?_
  cases k with
  | true => rw [if_pos rfl]; exact hQ true F' H' (ht rfl) s' e'
  | false => rw [if_neg Bool.false_ne_true]; exact hf rfl W tk σ F' H' s' hx Q fun k F2 H2 hp s2 e2 => hQ k F2 H2 hp s2 (e'.trans e2)
theorem ww_and1 (h : WT X g a env Φ Ψ) : WW X g (.BoolOp .And [a] pos) env Φ Ψ := fun W tk σ F H st hx Q hQ => semW_of (pw_and1 (ptS a)) (h W tk σ F H st hx Q hQ)
theorem ww_or1 (h : WT X g a env Φ Ψ) : WW X g (.BoolOp .Or [a] pos) env Φ Ψ := fun W tk σ F H st hx Q hQ => semW_of (pw_or1 (ptS a)) (h W tk σ F H st hx Q hQ)
end
section
variable {Φ : PyData → Bool → Prop}
/-- as values (truths) -/
theorem we_one {op : BoolOp} (h : WE X g a env Φ Ψ) : WE X g (.BoolOp op [a] pos) env Φ Ψ := fun W tk σ F H st hx Q hQ => semE_of (pe_one (peS a)) (h W tk σ F H st hx Q hQ)
theorem we_and {rest : List Expr} (h : WE X g a env (fun d _ => ∃ k, d = .bool k ∧ (k = true → WE X g (.BoolOp .And (b :: rest) pos) env Φ Ψ) ∧ (k = false → Φ (.bool false) true)) Ψ) : WE X g (.BoolOp .And (a :: b :: rest) pos) env Φ Ψ := fun W tk σ F H st hx Q hQ => by
  refine semE_of (pe_and (peS a) (peS _)) ?_
  refine h W tk σ F H st hx _ fun d z v F' H' ⟨k, hd, ht, hf⟩ s' e' r' => ?_
  subst hd
  refine ⟨k, rd_bl r', ?_⟩
  cases k with
  | true => rw [if_pos rfl]; exact ht rfl W tk σ F' H' s' hx Q fun d z v F2 H2 hp s2 e2 => hQ d z v F2 H2 hp s2 (e'.trans e2)
  | false => rw [if_neg Bool.false_ne_true]; exact hQ _ true _ F' H' (hf rfl) s' e' (.bl false)
theorem we_if (h : WT X g c env (fun k => (k = true → WE X g a env Φ Ψ) ∧ (k = false → WE X g b env Φ Ψ)) Ψ) : WE X g (.IfExp c a b pos) env Φ Ψ := fun W tk σ F H st hx Q hQ => by
  refine semE_of (pe_ifExp (ptS c) (peS a) (peS b)) ?_
  refine h W tk σ F H st hx _ fun k F' H' ⟨ht, hf⟩ s' e' => ?_
  cases k with
  | true => rw [if_pos rfl]; exact ht rfl W tk σ F' H' s' hx Q fun d z v F2 H2 hp s2 e2 => hQ d z v F2 H2 hp s2 (e'.trans e2)
  | false => rw [if_neg Bool.false_ne_true]; exact hf rfl W tk σ F' H' s' hx Q fun d z v F2 H2 hp s2 e2 => hQ d z v F2 H2 hp s2 (e'.trans e2)
end
inductive IxP (Φ : PyData → Bool → Prop) : PyData → Bool → PyData → Bool → Prop
  | lst {xs : List PyData} {i : Int} {x : PyData} {z1 z2 : Bool} : Φ x true → atI xs i = some x → IxP Φ (.list xs) z1 (.int i) z2
  | tup {xs : List PyData} {i : Int} {x : PyData} {z1 z2 : Bool} : Φ x true → atI xs i = some x → IxP Φ (.tuple xs) z1 (.int i) z2
  | str {s : Str} {i : Int} {c : Nat} {z1 z2 : Bool} : Φ (.str ⟨#[c]⟩) true → s.length ≤ sizeLine → atI s.cps.toList i = some c → IxP Φ (.str s) z1 (.int i) z2
theorem dpa_at {ds : List PyData} {vs : List V} {i : Int} {d : PyData} (h : DqAll K H vs ds) (e : atI ds i = some d) : ∃ v, atI vs i = some v ∧ Dq K H v d := by
  unfold atI at e ⊢
  rw [dpa_len h]
  cases q : ixN ds.length i with
  | none => rw [q] at e; cases e
  | some j =>
    rw [q] at e
    obtain ⟨v, h1, h2⟩ := dpa_get h (show ds[j]? = some d from e)
    exact ⟨v, h1, h2⟩
theorem dop_ix {Φ : PyData → Bool → Prop} {d1 d2 : PyData} {z1 z2 : Bool} (h : IxP Φ d1 z1 d2 z2) : DOp K g env (rIx K) d1 z1 d2 z2 Φ := by
  cases h with
  | lst hp ha =>
    refine dop_l fun σ F H v1 v2 st r1 r2 Q hQ => ?_
    obtain ⟨a1, vs1, rfl, s1, p1⟩ := rd_lst st.toSk r1
    obtain ⟨v, e1, e2⟩ := dpa_at p1 ha
    exact ⟨a1, vs1, _, v, rfl, rd_int r2, s1, e1, hQ _ true _ F H hp st (Ex.refl F) e2⟩
  | tup hp ha =>
    refine dop_r (dop_l fun σ F H v1 v2 st r1 r2 Q hQ => ?_)
    obtain ⟨a1, vs1, rfl, s1, p1⟩ := rd_tup st.toSk r1
    obtain ⟨v, e1, e2⟩ := dpa_at p1 ha
    exact ⟨a1, vs1, _, v, rfl, rd_int r2, s1, e1, hQ _ true _ F H hp st (Ex.refl F) e2⟩
  | str hp hl ha => exact dop_r (dop_r fun σ F H v1 v2 st r1 r2 Q hQ => ⟨_, _, _, rd_str r1, rd_int r2, hl, ha, hQ _ true _ F H hp st (Ex.refl F) (.str _)⟩)
theorem we_ix {Φ : PyData → Bool → Prop} (h : WE X g a env (fun d1 z1 => WE X g b env (fun d2 z2 => IxP Φ d1 z1 d2 z2) Ψ) Ψ) (hs : PlainIx b := by exact fun _ _ => rfl) : WE X g (.Subscript a b pos) env Φ Ψ :=
  we_op (pe_ix ix_seq (peS a) (peS b) hs) (fun _ _ _ _ => dop_ix) h
end
end TL
namespace TL
open PySem PySem.Spec PyProof.Rows L2
inductive PR where
  | rd (d : PyData)
  | nl (ds : List PyData)
  | ar (i : Nat)
  | nt (kvs : List (List Key × PyData))
  | nk (kvs : List (Key × PyData))
  | sl (C : Sl → Prop)
abbrev CT := List Sl → (PR → List Sl → Prop) → (Exc → List Sl → Prop) → Prop
def Step (F H : Hp) (args : List Sl) (F' H' : Hp) : Prop :=
  Ex F F' ∧ (∀ a o, H a = some o → ¬ Own args a → ntb o → H' a = some o) ∧ (∀ a, F' a ≠ none → F a ≠ none ∨ H a = none) ∧ ∀ a, H a ≠ none → H' a ≠ none
def PrOk (K : Frag) (vs : List V) (H F' H' : Hp) (args' : List Sl) (v : V) : PR → Prop
  | .rd d => Dq K F' v d
  | .nl ds => ∃ p xs, v = .ref p ∧ H' p = some (.lst xs) ∧ DqAll K F' xs ds ∧ F' p = none ∧ H p = none ∧ ¬ Own args' p
  | .ar i => vs[i]? = some v
  | .nt kvs => ∃ p xs, v = .ref p ∧ H' p = some (.dT xs) ∧ KVp K F' xs kvs ∧ F' p = none ∧ H p = none ∧ ¬ Own args' p
  | .nk kvs => ∃ p xs, v = .ref p ∧ H' p = some (.dK xs) ∧ KVp K F' xs kvs ∧ F' p = none ∧ H p = none ∧ ¬ Own args' p
  | .sl C => ∃ s, C s ∧ SlOk K F' H' (some v) s ∧ ∀ p ∈ s.fp, F' p = none ∧ H p = none ∧ ¬ Own args' p
def ExcE (K : Frag) (E : XK) (H : Hp) : Exc → Prop
  | .own n => E (.ref (He.ga K n)) none H
  | .ownF n fs => ∀ d xs, H d = some (.xd xs) → XfOk fs xs → E (.ref (He.ga K n)) (some d) H
def spOf (K : Frag) (n : Nat) (S : CT) : Sp := fun vs H Q E => vs.length = n ∧ ∃ F args Φ Ψ, S args Φ Ψ ∧ Sk K F H (vs.map some) args ∧
  (∀ r v args' F' H', Φ r args' → Sk K F' H' (vs.map some) args' → Step F H args F' H' → (∀ a, Own args' a → Own args a ∨ H a = none) → PrOk K vs H F' H' args' v r → Q v H') ∧
  (∀ c args' F' H', Ψ c args' → Sk K F' H' (vs.map some) args' → Step F H args F' H' → (∀ a, Own args' a → Own args a ∨ H a = none) → ExcE K E H' c)
structure Has (P : Program) (w : World) (K : Frag) (mg : Str → Option Value) (base : Heap) (k : Nat) (x : Str) (ps : List Str) (S : CT) : Prop where
  ex : ∃ f fd, mg x = some (.ref f) ∧ PySem.W.keepIn K (.ref f) = true ∧ Binds K fd ps [] ∧ FnOk P w K mg base (L2.CX P w) k f fd ps (spOf K ps.length S)
structure SemA (X : Cx) (es : List Expr) (σ : SS) (H : Hp) (Q : List V → Hp → Prop) : Prop where
  run : ∀ (pos : Pos) (pins : List (Addr × Obj)) (s : Shared), Inv X pins σ H s → wpAny (model X.prog X.w) X.A (spliced (backTo pos (starEach es X.env))) (AP X pins σ Q) X.xe s
def semA (X : Cx) (es : List Expr) : TA := fun σ H Q => SemA X es σ H Q
theorem paS {X : Cx} (es : List Expr) : PA X es (semA X es) := ⟨fun pos pins s σ H Q I h => h.run pos pins s I⟩
theorem semA_of {X : Cx} {es : List Expr} {t : TA} (h : PA X es t) {σ : SS} {H : Hp} {Q : List V → Hp → Prop} (q : t σ H Q) : semA X es σ H Q := ⟨fun pos pins s I => h.run pos pins s σ H Q I q⟩
def WAs (X : Cx) (g : G) (es : List Expr) (env : List Sl) (Φ : List Ar → Prop) (Ψ : Exc → Prop) : Prop :=
  ∀ (W : WX), Takes X W → ∀ (σ : SS) (F H : Hp), St X.K g F H σ env → HX X g env Ψ W σ →
    ∀ Q : List V → Hp → Prop, (∀ as vs F' H', Φ as → St X.K g F' H' σ env → Ex F F' → ArAll X.K F' σ vs as → Q vs H') → semA X es σ H Q
section
variable {X : Cx} {g : G} {env : List Sl} {Ψ : Exc → Prop} {pos p : Pos} {a b c e : Expr} {es : List Expr} {K : Frag} {F F' H H' : Hp} {σ : SS}
section
variable {Φ : List Ar → Prop}
theorem wa_nil (h : Φ []) : WAs X g [] env Φ Ψ := fun W tk σ F H st hx Q hQ => semA_of pa_nil (hQ [] [] F H h st (Ex.refl F) trivial)
/-- an argument that is data -/
theorem wa_d (he : WE X g e env (fun d z => z = true ∧ WAs X g es env (fun as => Φ (.d d :: as)) Ψ) Ψ) (hs : starEach (e :: es) X.env = (false, eval e X.env) :: starEach es X.env := by rfl) : WAs X g (e :: es) env Φ Ψ := fun W tk σ F H st hx Q hQ => by
  refine semA_of (pa_cons (peS e) (paS es) hs) ?_
  refine he W tk σ F H st hx _ fun d z v F1 H1 ⟨hz, hp⟩ s1 e1 r1 => ?_
  subst hz
  exact hp W tk σ F1 H1 s1 hx _ fun as vs F2 H2 hp2 s2 e2 r2 => hQ (.d d :: as) (v :: vs) F2 H2 hp2 s2 (e1.trans e2) ⟨dp_mono e2 _ _ r1, r2⟩
/-- an object that a slot holds -/
theorem wa_s (i : Nat) {x : Str} {s : Sl} (h : WAs X g es env (fun as => Φ (.s i :: as)) Ψ) (he : env[i]? = some s := by rfl) (hne : s.fp ≠ [] := by (intro h; cases h)) (hN : X.N[i]? = some x := by rfl)
    (hv : Vis X.env.scope x := by first | exact Or.inl rfl | exact Or.inr (Or.inl rfl) | exact Or.inr (Or.inr rfl)) (hd : (x == ("__debug__" : Str)) = false := by decide)
    (hcd : (x == ("__classdict__" : Str)) = false := by decide) (hs : starEach ((.Name x pos) :: es) X.env = (false, eval (.Name x pos) X.env) :: starEach es X.env := by rfl) : WAs X g (.Name x pos :: es) env Φ Ψ := fun W tk σ F H st hx Q hQ => by
  refine semA_of (pa_cons (pe_var hN hv hd hcd) (paS es) hs) ?_
  have q := st.sl i s he
  obtain ⟨v, hv⟩ : ∃ v, σ[i]?.getD none = some v := by
    cases s with
    | un => exact absurd rfl hne
    | d x => exact absurd rfl hne
    | v x => exact ⟨_, q⟩
    | ol a ds => exact ⟨_, q.1⟩
    | bg a => exact ⟨_, q.1⟩
    | dt a ds => exact ⟨_, q.1⟩
    | dk a ds => exact ⟨_, q.1⟩
    | fv l => exact absurd rfl hne
    | fl l => exact absurd rfl hne
    | oo a ds => exact ⟨_, q.1⟩
    | ow t => exact ⟨q.choose, q.choose_spec.1⟩
  exact ⟨v, getD_some hv, h W tk σ F H st hx _ fun as vs F2 H2 hp2 s2 e2 r2 => hQ (.s i :: as) (v :: vs) F2 H2 hp2 s2 e2 ⟨getD_some hv, r2⟩⟩
end
def datas : List Ar → Option (List PyData)
  | [] => some []
  | .d x :: r => (datas r).map (x :: ·)
  | .s _ :: _ => none
theorem dpa_datas : ∀ {as : List Ar} {ds : List PyData} {vs : List V}, datas as = some ds → ArAll K F σ vs as → DqAll K F vs ds
  | [], _, [], h, _ => by cases h; exact .nil
  | .d x :: r, _, _ :: _, h, ⟨h1, h2⟩ => by
    obtain ⟨ds, e1, e2⟩ := Option.map_eq_some_iff.mp (show (datas r).map (x :: ·) = some _ from h)
    subst e2
    exact .cons h1 (dpa_datas e1 h2)
  | .s _ :: _, _, _, h, _ => by cases h
theorem wn_list {Φ : List PyData → Prop} (h : WAs X g es env (fun as => ∃ ds, datas as = some ds ∧ ds.length ≤ sizeLine ∧ Φ ds) Ψ) : WN X g (.List es pos) env Φ Ψ := fun W tk σ F H st hx Q hQ => by
  refine semE_of (pe_lst (paS es)) ?_
  refine h W tk σ F H st hx _ fun as vs F1 H1 ⟨ds, e1, hl, hp⟩ s1 ex1 r1 => ?_
  have hd := dpa_datas e1 r1
  refine ⟨by rw [dpa_len hd]; exact hl, fun p hn => ?_⟩
  exact put_new s1 hn hd hp fun ds v F' H' hp s e r => hQ ds v F' H' hp s (ex1.trans e) r
theorem we_list {Φ : PyData → Bool → Prop} (h : WAs X g es env (fun as => ∃ ds, datas as = some ds ∧ ds.length ≤ sizeLine ∧ Φ (.list ds) true) Ψ) : WE X g (.List es pos) env Φ Ψ := we_of_wn (wn_list h)
theorem we_tuple {x1 : Nat} {Φ : PyData → Bool → Prop} (h : WAs X g es env (fun as => ∃ ds, datas as = some ds ∧ ds.length ≤ sizeLine ∧ Φ (.tuple ds) true) Ψ) : WE X g (.Tuple es x1 pos) env Φ Ψ := fun W tk σ F H st hx Q hQ => by
  refine semE_of (pe_tup (paS es)) ?_
  refine h W tk σ F H st hx _ fun as vs F1 H1 ⟨ds, e1, hl, hp⟩ s1 ex1 r1 => ?_
  have hd := dpa_datas e1 r1
  refine ⟨by rw [dpa_len hd]; exact hl, fun p hn => ?_⟩
  exact put_tup s1 hn hd hp fun d z v F' H' hp s e r => hQ d z v F' H' hp s (ex1.trans e) r
def slOf (env : List Sl) : Ar → Sl
  | .d x => .d x
  | .s i => env[i]?.getD .un
def arIx : List Ar → List Nat
  | [] => []
  | .s i :: r => i :: arIx r
  | .d _ :: r => arIx r
theorem arall_len : ∀ {vs : List V} {as : List Ar}, ArAll K F σ vs as → vs.length = as.length
  | [], [], _ => rfl
  | _ :: _, _ :: _, ⟨_, h⟩ => congrArg Nat.succ (arall_len h)
  | [], _ :: _, h => h.elim
  | _ :: _, [], h => h.elim
theorem arall_get : ∀ {vs : List V} {as : List Ar} {j : Nat} {a : Ar}, ArAll K F σ vs as → as[j]? = some a → ∃ v, vs[j]? = some v ∧ ArOk K F σ v a
  | [], [], j, a, _, h => by simp at h
  | v :: vs, x :: as, 0, a, ⟨h1, _⟩, h => by
    have e := Option.some.inj h
    subst e
    exact ⟨v, rfl, h1⟩
  | v :: vs, x :: as, j + 1, a, ⟨_, h2⟩, h => arall_get (j := j) h2 h
  | [], _ :: _, _, _, h, _ => h.elim
  | _ :: _, [], _, _, h, _ => h.elim
theorem arix_mem : ∀ {as : List Ar} {j i : Nat}, as[j]? = some (.s i) → i ∈ arIx as
  | .s k :: r, 0, i, h => by
    have e := Option.some.inj h
    injection e with e
    subst e
    exact List.mem_cons_self ..
  | .d x :: r, 0, i, h => by have e := Option.some.inj h; cases e
  | .s k :: r, j + 1, i, h => List.mem_cons_of_mem _ (arix_mem (as := r) (j := j) h)
  | .d x :: r, j + 1, i, h => arix_mem (as := r) (j := j) h
  | [], _, _, h => by simp at h
/-- the same slot is not handed on twice -/
theorem arix_inj : ∀ {as : List Ar} {j k i : Nat}, (arIx as).Nodup → as[j]? = some (.s i) → as[k]? = some (.s i) → j = k
  | [], _, _, _, _, h, _ => by simp at h
  | _ :: _, 0, 0, _, _, _, _ => rfl
  | .s l :: r, 0, k + 1, i, nd, h1, h2 => by
    have e := Option.some.inj h1
    injection e with e
    subst e
    exact absurd (arix_mem (as := r) (j := k) h2) (List.nodup_cons.mp nd).1
  | .s l :: r, j + 1, 0, i, nd, h1, h2 => by
    have e := Option.some.inj h2
    injection e with e
    subst e
    exact absurd (arix_mem (as := r) (j := j) h1) (List.nodup_cons.mp nd).1
  | .d l :: r, 0, k + 1, i, nd, h1, h2 => by have e := Option.some.inj h1; cases e
  | .d l :: r, j + 1, 0, i, nd, h1, h2 => by have e := Option.some.inj h2; cases e
  | .s l :: r, j + 1, k + 1, i, nd, h1, h2 => congrArg Nat.succ (arix_inj (as := r) (List.nodup_cons.mp nd).2 h1 h2)
  | .d l :: r, j + 1, k + 1, i, nd, h1, h2 => congrArg Nat.succ (arix_inj (as := r) nd h1 h2)
theorem map_get {α β : Type} {f : α → β} {l : List α} {j : Nat} {y : β} (h : (l.map f)[j]? = some y) : ∃ x, l[j]? = some x ∧ f x = y := by
  rw [List.getElem?_map] at h
  exact Option.map_eq_some_iff.mp h
theorem vmap_get {vs : List V} {j : Nat} {v : V} (h : vs[j]? = some v) : ((vs.map some)[j]?.getD none : Option V) = some v := by
  rw [List.getElem?_map, h]; rfl
/-- what the callee is handed -/
theorem Sk.callee {as : List Ar} {vs : List V} (st : Sk K F H σ env) (ha : ArAll K F σ vs as) (nd : (arIx as).Nodup) (hs : ∀ i ∈ arIx as, i < env.length) : Sk K F H (vs.map some) (as.map (slOf env)) where
  len := by rw [List.length_map, List.length_map]; exact arall_len ha
  sl := fun j s e => by
    obtain ⟨a, ea, es⟩ := map_get e
    obtain ⟨v, ev, hv⟩ := arall_get ha ea
    rw [vmap_get ev]
    cases a with
    | d x => rw [← es]; exact ⟨v, rfl, hv⟩
    | s i =>
      have hi := hs i (arix_mem ea)
      have q := st.sl i _ (List.getElem?_eq_getElem hi)
      have hv' : σ[i]? = some (some v) := hv
      rw [hv'] at q
      have e2 : s = env[i] := by rw [← es]; show env[i]?.getD .un = _; rw [List.getElem?_eq_getElem hi]; rfl
      rw [e2]; exact q
  nd := fun j k s t a ej ek h1 h2 => by
    obtain ⟨x, ex, rfl⟩ := map_get ej
    obtain ⟨y, ey, rfl⟩ := map_get ek
    cases x with
    | d z => cases h1
    | s i =>
      cases y with
      | d z => cases h2
      | s l =>
        have hi := hs i (arix_mem ex)
        have hl := hs l (arix_mem ey)
        have e1 : slOf env (.s i) = env[i] := by show env[i]?.getD .un = _; rw [List.getElem?_eq_getElem hi]; rfl
        have e2 : slOf env (.s l) = env[l] := by show env[l]?.getD .un = _; rw [List.getElem?_eq_getElem hl]; rfl
        rw [e1] at h1
        rw [e2] at h2
        have e := st.nd i l _ _ a (List.getElem?_eq_getElem hi) (List.getElem?_eq_getElem hl) h1 h2
        subst e
        exact arix_inj nd ex ey
  fr := fun a ⟨j, s, e, h1⟩ => by
    obtain ⟨x, ex, rfl⟩ := map_get e
    cases x with
    | d z => cases h1
    | s i =>
      have hi := hs i (arix_mem ex)
      have e1 : slOf env (.s i) = env[i] := by show env[i]?.getD .un = _; rw [List.getElem?_eq_getElem hi]; rfl
      exact st.fr a ⟨i, env[i], List.getElem?_eq_getElem hi, by rw [← e1]; exact h1⟩
  ex := st.ex
  tf := st.tf
  tk := st.tk
theorem own_args {as : List Ar} {a : Addr} (h : Own (as.map (slOf env)) a) : ∃ (j i : Nat) (s : Sl), as[j]? = some (.s i) ∧ env[i]? = some s ∧ a ∈ s.fp := by
  obtain ⟨j, s, e, h1⟩ := h
  obtain ⟨x, ex, rfl⟩ := map_get e
  cases x with
  | d z => cases h1
  | s i =>
    cases q : env[i]? with
    | none => have e1 : slOf env (.s i) = .un := by show env[i]?.getD .un = _; rw [q]; rfl
              rw [e1] at h1; cases h1
    | some s => have e1 : slOf env (.s i) = s := by show env[i]?.getD .un = _; rw [q]; rfl
                rw [e1] at h1; exact ⟨j, i, s, ex, q, h1⟩
/-- behind a call: the slots that were handed on are as the callee left them -/
theorem St.called {as : List Ar} {vs : List V} {args' env' : List Sl} (st : St K g F H σ env) (ha : ArAll K F σ vs as) (sk : Sk K F' H' (vs.map some) args') (hst : Step F H (as.map (slOf env)) F' H')
    (hl : env'.length = env.length) (hk : ∀ (i : Nat) (s : Sl), i ∉ arIx as → env'[i]? = some s → env[i]? = some s) (hp : ∀ (j i : Nat) (s : Sl), as[j]? = some (Ar.s i) → env'[i]? = some s → args'[j]? = some s)
    (hsub : ∀ (i : Nat) (s s' : Sl), env[i]? = some s → env'[i]? = some s' → ∀ a ∈ s'.fp, a ∈ s.fp ∨ H a = none) : St K g F' H' σ env' := by
  obtain ⟨e1, e2, e3, e4⟩ := hst
  have sub : ∀ a, Own env' a → Own env a ∨ H a = none := fun a ⟨i, s', h1, h2⟩ => by
    have hi : i < env.length := by rw [← hl]; exact (List.getElem?_eq_some_iff.mp h1).1
    rcases hsub i _ s' (List.getElem?_eq_getElem hi) h1 a h2 with q | q
    · exact .inl ⟨i, env[i], List.getElem?_eq_getElem hi, q⟩
    · exact .inr q
  have ownA : ∀ a, Own (as.map (slOf env)) a → Own env a := fun a h => by
    obtain ⟨j, i, s, _, h2, h3⟩ := own_args h
    exact ⟨i, s, h2, h3⟩
  have ixs : ∀ (i : Nat), i ∈ arIx as → ∃ j : Nat, as[j]? = some (Ar.s i) := fun i h => by
    clear hp hk ownA e2 ha
    induction as with
    | nil => cases h
    | cons x r ih =>
      cases x with
      | d z => obtain ⟨j, hj⟩ := ih h; exact ⟨j + 1, hj⟩
      | s l =>
        rcases List.mem_cons.mp (show i ∈ l :: arIx r from h) with e | h
        · subst e; exact ⟨0, rfl⟩
        · obtain ⟨j, hj⟩ := ih h; exact ⟨j + 1, hj⟩
  refine { len := by rw [hl]; exact st.len, sl := fun i s e => ?_, nd := fun i j s t a ei ej h1 h2 => ?_, fr := fun a h => ?_, ex := sk.ex, tf := sk.tf, tk := sk.tk, gt := st.gt.grow (fun a z => by
      cases q : H a with
      | none => rfl
      | some u => exact absurd z (e4 a (by rw [q]; intro y; cases y))), g1 := fun a o h m n => ?_, g2 := fun a h => (sub a h).elim (st.g2 a) fun z => .inl (st.h0 z), g3 := st.g3.trans e1, g4 := fun a h => ?_, g5 := fun a m z => ?_, g6 := st.g6 }
  · by_cases hi : i ∈ arIx as
    · obtain ⟨j, hj⟩ := ixs i hi
      have q := sk.sl j s (hp j i s hj e)
      obtain ⟨v, ev, hv⟩ := arall_get ha hj
      rw [vmap_get ev] at q
      have hv' : σ[i]? = some (some v) := hv
      rw [hv']; exact q
    · have e' := hk i s hi e
      refine slok_mono e1 (fun a h u q => e2 a u q (fun z => ?_) fun ps y => slok_ntb (st.sl i s e') h ps (by rw [q, y])) (st.sl i s e')
      obtain ⟨j, l, t, h3, h4, h5⟩ := own_args z
      have el := st.nd i l s t a e' h4 h h5
      subst el
      exact hi (arix_mem h3)
  · have hi : i < env.length := by rw [← hl]; exact (List.getElem?_eq_some_iff.mp ei).1
    have hj : j < env.length := by rw [← hl]; exact (List.getElem?_eq_some_iff.mp ej).1
    by_cases mi : i ∈ arIx as
    · by_cases mj : j ∈ arIx as
      · obtain ⟨p, hp1⟩ := ixs i mi
        obtain ⟨q, hq1⟩ := ixs j mj
        have e := sk.nd p q s t a (hp p i s hp1 ei) (hp q j t hq1 ej) h1 h2
        subst e
        rw [hp1] at hq1
        injection hq1 with z
        injection z
      · have ej' := hk j t mj ej
        rcases hsub i _ s (List.getElem?_eq_getElem hi) ei a h1 with z | z
        · exact st.nd i j _ t a (List.getElem?_eq_getElem hi) ej' z h2
        · exact absurd z (st.there ⟨j, t, ej', h2⟩)
    · have ei' := hk i s mi ei
      rcases hsub j _ t (List.getElem?_eq_getElem hj) ej a h2 with z | z
      · exact st.nd i j s _ a ei' (List.getElem?_eq_getElem hj) h1 z
      · exact absurd z (st.there ⟨i, s, ei', h1⟩)
  · obtain ⟨i, s, h1, h2⟩ := h
    by_cases mi : i ∈ arIx as
    · obtain ⟨p, hp1⟩ := ixs i mi
      exact sk.fr a ⟨p, s, hp p i s hp1 h1, h2⟩
    · have ho : Own env a := ⟨i, s, hk i s mi h1, h2⟩
      cases q : F' a with
      | none => rfl
      | some u =>
        rcases e3 a (by rw [q]; intro z; cases z) with z | z
        · exact absurd (st.fr a ho) z
        · exact absurd z (st.there ho)
  · refine e2 a o (st.g1 a o h m n) (fun z => ?_) n
    rcases st.g2 a (ownA a z) with q | q
    · rw [q] at h; cases h
    · exact m q
  · rcases e3 a h with z | z
    · exact st.g4 a z
    · exact .inr (st.h0 z)
  · exact e4 a (st.g5 a m) z
end
end TL
namespace TL
open PySem PySem.Spec PyProof.Rows L2
section
variable {X : Cx} {g : G} {env : List Sl} {Ψ : Exc → Prop} {pos p : Pos} {a b c e : Expr} {es : List Expr} {K : Frag} {F F' H H' : Hp} {σ : SS}
def PRd : PR → PyData → Prop
  | .rd d, d' => d' = d
  | .nl ds, d' => d' = .list ds
  | .ar _, _ => False
  | .nt _, _ => False
  | .nk _, _ => False
  | .sl _, _ => False
def natNd : List Nat → Bool
  | [] => true
  | x :: r => (r.all fun y => !Nat.beq x y) && natNd r
def callOk (as : List Ar) (m n : Nat) : Bool := Nat.beq as.length m && natNd (arIx as) && (arIx as).all fun i => Nat.blt i n
theorem natNd_ok : ∀ {l : List Nat}, natNd l = true → l.Nodup
  | [], _ => List.nodup_nil
  | x :: r, h => by
    have h' : (r.all fun y => !Nat.beq x y) = true ∧ natNd r = true := Bool.and_eq_true_iff.mp h
    refine List.nodup_cons.mpr ⟨fun hm => ?_, natNd_ok h'.2⟩
    have q := List.all_eq_true.mp h'.1 x hm
    rw [Nat.beq_refl] at q
    cases q
theorem callOk_ok {as : List Ar} {m n : Nat} (h : callOk as m n = true) : as.length = m ∧ (arIx as).Nodup ∧ ∀ i ∈ arIx as, i < n := by
  have h1 : (Nat.beq as.length m && natNd (arIx as)) = true ∧ ((arIx as).all fun i => Nat.blt i n) = true := Bool.and_eq_true_iff.mp h
  have h2 := Bool.and_eq_true_iff.mp h1.1
  refine ⟨Nat.eq_of_beq_eq_true h2.1, natNd_ok h2.2, fun i hi => ?_⟩
  have q := List.all_eq_true.mp h1.2 i hi
  exact Nat.le_of_ble_eq_true q
theorem st_same {as : List Ar} {vs : List V} {args' : List Sl} (st : St K g F H σ env) (ha : ArAll K F σ vs as) (sk : Sk K F' H' (vs.map some) args') (hst : Step F H (as.map (slOf env)) F' H') (e : args' = as.map (slOf env)) : St K g F' H' σ env := by
  subst e
  refine st.called ha sk hst rfl (fun _ _ _ h => h) (fun j i s h1 h2 => ?_) (fun i s s' h1 h2 a h3 => ?_)
  · rw [List.getElem?_map, h1]
    show some (env[i]?.getD .un) = some s
    rw [h2]; rfl
  · rw [h1] at h2; cases h2; exact .inl h3
/-- a def is called; what it was handed stays as it is described -/
theorem call_run {j k : Nat} {x : Str} {ps : List Str} {S : CT} {Φ : PR → Prop} (hf : Has X.prog X.w X.K X.mg X.base j x ps S) (hr : Room k X.A)
    (h : WAs X g (e :: es) env (fun as => callOk as ps.length env.length = true ∧ S (as.map (slOf env)) (fun r args' => args' = as.map (slOf env) ∧ Φ r) (fun c args' => args' = as.map (slOf env) ∧ Ψ c)) Ψ)
    (hj : j ≤ k) (hg : Gl X x) (hdb : (x == ("__debug__" : Str)) = false)
    (he : starEach (e :: es) X.env = (false, eval e X.env) :: starEach es X.env) (hpl : (backTo pos (starEach es X.env)).any (·.1) = false)
    {W : WX} (tk : Takes X W) (st : St X.K g F H σ env) (hx : HX X g env Ψ W σ) {Q : VK}
    (hQ : ∀ r vs v F1 H1 F' H' args', Φ r → St X.K g F' H' σ env → Ex F F' → St X.K g F1 H1 σ env → PrOk X.K vs H1 F' H' args' v r → Q v H') : semE X (.Call (.Name x p) (e :: es) [] pos) σ H Q := by
  obtain ⟨f, fd, hm, hk, hb, F0⟩ := hf.ex
  refine semE_of (pe_callS F0 (hr.mono hj) hg hm hk hb (fun σ => passAt tk σ) (paS (e :: es)) hdb he hpl) ?_
  refine h W tk σ F H st hx _ fun as vs F1 H1 ⟨hok, hS⟩ s1 e1 ra => ?_
  obtain ⟨h1, h2, h3⟩ := callOk_ok hok
  refine ⟨by rw [arall_len ra, h1], F1, as.map (slOf env), _, _, hS, s1.toSk.callee ra h2 h3, fun r v args' F' H' ⟨ea, hp⟩ sk hst _ pr => ?_, fun c args' F' H' ⟨ea, hp⟩ sk hst _ => ?_⟩
  · exact hQ r vs v F1 H1 F' H' args' hp (st_same s1 ra sk hst ea) (e1.trans hst.1) s1 pr
  · have := hx c F' H' hp (st_same s1 ra sk hst ea)
    cases c <;> exact this
theorem we_call {j k : Nat} {x : Str} {ps : List Str} {S : CT} {Φ : PyData → Bool → Prop} (hf : Has X.prog X.w X.K X.mg X.base j x ps S) (hr : Room k X.A)
    (h : WAs X g (e :: es) env (fun as => callOk as ps.length env.length = true ∧ S (as.map (slOf env)) (fun r args' => args' = as.map (slOf env) ∧ ∃ d, PRd r d ∧ Φ d true) (fun c args' => args' = as.map (slOf env) ∧ Ψ c)) Ψ)
    (hj : j ≤ k := by omega) (hg : Gl X x := by rfl) (hdb : (x == ("__debug__" : Str)) = false := by decide)
    (he : starEach (e :: es) X.env = (false, eval e X.env) :: starEach es X.env := by rfl) (hpl : (backTo pos (starEach es X.env)).any (·.1) = false := by rfl) : WE X g (.Call (.Name x p) (e :: es) [] pos) env Φ Ψ := fun W tk σ F H st hx Q hQ => by
  refine call_run (Φ := fun r => ∃ d, PRd r d ∧ Φ d true) hf hr h hj hg hdb he hpl tk st hx fun r vs v F1 H1 F' H' args' ⟨d, hd, hp⟩ s' e' s1 pr => ?_
  cases r with
  | rd d0 => subst hd; exact hQ _ true v F' H' hp s' e' pr
  | nl ds =>
    subst hd
    obtain ⟨q, xs, rfl, h1, h2, h3, h4, h5⟩ := pr
    have e2 := Ex.new (o := .lst xs) h3
    exact hQ (.list ds) true (.ref q) (upd F' q (.lst xs)) H' hp (s'.freeze h1 h3 (fun z => s1.there z h4) (s1.h0 h4)) (e'.trans e2) (.lst (SqL.of upd_same) (dpa_mono e2 _ _ h2))
  | ar i => exact hd.elim
  | nt _ => exact hd.elim
  | nk _ => exact hd.elim
  | sl _ => exact hd.elim
theorem wn_call {j k : Nat} {x : Str} {ps : List Str} {S : CT} {Φ : List PyData → Prop} (hf : Has X.prog X.w X.K X.mg X.base j x ps S) (hr : Room k X.A)
    (h : WAs X g (e :: es) env (fun as => callOk as ps.length env.length = true ∧ S (as.map (slOf env)) (fun r args' => args' = as.map (slOf env) ∧ ∃ ds, r = .nl ds ∧ Φ ds) (fun c args' => args' = as.map (slOf env) ∧ Ψ c)) Ψ)
    (hj : j ≤ k := by omega) (hg : Gl X x := by rfl) (hdb : (x == ("__debug__" : Str)) = false := by decide)
    (he : starEach (e :: es) X.env = (false, eval e X.env) :: starEach es X.env := by rfl) (hpl : (backTo pos (starEach es X.env)).any (·.1) = false := by rfl) : WN X g (.Call (.Name x p) (e :: es) [] pos) env Φ Ψ := fun W tk σ F H st hx Q hQ => by
  refine call_run (Φ := fun r => ∃ ds, r = .nl ds ∧ Φ ds) hf hr h hj hg hdb he hpl tk st hx fun r vs v F1 H1 F' H' args' ⟨ds, hd, hp⟩ s' e' s1 pr => ?_
  subst hd
  obtain ⟨q, xs, rfl, h1, h2, h3, h4, h5⟩ := pr
  exact hQ ds (.ref q) F' H' hp s' e' ⟨q, xs, rfl, h1, h2, h3, fun z => s1.there z h4, s1.h0 h4⟩
theorem we_b1 {Φ : PyData → Bool → Prop} {R : PyData → Bool → Prop} {x : Str} {id : String} {r : List V → Hp → VK → Prop} (hc : CallR X (.builtin id) r) (hm : X.mg x = none) (hv : bootBuiltins x = some (.builtin id))
    (hr : ∀ d1 z1, R d1 z1 → DUn X.K g env (fun v => r [v]) d1 z1 Φ) (h : WE X g a env R Ψ) (hg : Gl X x := by rfl) (hn : x ≠ "__name__" := by decide) (hdb : (x == ("__debug__" : Str)) = false := by decide)
    (he : starEach [a] X.env = (false, eval a X.env) :: starEach [] X.env := by rfl) (hpl : (backTo pos (starEach ([] : List Expr) X.env)).any (·.1) = false := by rfl) : WE X g (.Call (.Name x p) [a] [] pos) env Φ Ψ := fun W tk σ F H st hx Q hQ => by
  refine semE_of (pe_callB hc hg hm hv (pa_cons (peS a) pa_nil he) hn hdb he hpl) ?_
  refine h W tk σ F H st hx _ fun d1 z1 v1 F1 H1 h1 st1 e1 r1 => ?_
  exact hr _ _ h1 σ F1 H1 v1 st1 r1 Q fun d z v F' H' hp s3 e3 r3 => hQ d z v F' H' hp s3 (e1.trans e3) r3
theorem we_t1 {Φ : PyData → Bool → Prop} {R : PyData → Bool → Prop} {x : Str} {id : String} {r : List V → Hp → VK → Prop} (hc : CallR X (.type id) r) (hm : X.mg x = none) (hv : bootBuiltins x = some (.type id))
    (hr : ∀ d1 z1, R d1 z1 → DUn X.K g env (fun v => r [v]) d1 z1 Φ) (h : WE X g a env R Ψ) (hg : Gl X x := by rfl) (hn : x ≠ "__name__" := by decide) (hdb : (x == ("__debug__" : Str)) = false := by decide)
    (he : starEach [a] X.env = (false, eval a X.env) :: starEach [] X.env := by rfl) (hpl : (backTo pos (starEach ([] : List Expr) X.env)).any (·.1) = false := by rfl) : WE X g (.Call (.Name x p) [a] [] pos) env Φ Ψ := fun W tk σ F H st hx Q hQ => by
  refine semE_of (pe_callTy hc hg hm hv (pa_cons (peS a) pa_nil he) hn hdb he hpl) ?_
  refine h W tk σ F H st hx _ fun d1 z1 v1 F1 H1 h1 st1 e1 r1 => ?_
  exact hr _ _ h1 σ F1 H1 v1 st1 r1 Q fun d z v F' H' hp s3 e3 r3 => hQ d z v F' H' hp s3 (e1.trans e3) r3
section
variable {Φ : PyData → Bool → Prop}
inductive LenP (Φ : PyData → Bool → Prop) : PyData → Bool → Prop
  | lst {xs : List PyData} {z : Bool} : Φ (.int xs.length) true → LenP Φ (.list xs) z
  | tup {xs : List PyData} {z : Bool} : Φ (.int xs.length) true → LenP Φ (.tuple xs) z
  | str {s : Str} {z : Bool} : Φ (.int s.length) true → s.length ≤ sizeLine → LenP Φ (.str s) z
theorem we_len (hm : X.mg "len" = none) (h : WE X g a env (LenP Φ) Ψ) (hg : Gl X "len" := by rfl) (he : starEach [a] X.env = (false, eval a X.env) :: starEach [] X.env := by rfl) : WE X g (.Call (.Name "len" p) [a] [] pos) env Φ Ψ :=
  we_b1 call_len hm PySem.boot_len (fun d1 z1 q σ F H v1 st r1 Q hQ => by
    cases q with
    | @lst xs z q =>
      obtain ⟨a1, vs1, rfl, s1, p1⟩ := rd_lst st.toSk r1
      exact ⟨_, xs.length, rfl, .inl ⟨_, s1, (dpa_len p1).symm⟩, hQ _ true _ F H q st (Ex.refl F) (.int _)⟩
    | @tup xs z q =>
      obtain ⟨a1, vs1, rfl, s1, p1⟩ := rd_tup st.toSk r1
      exact ⟨_, xs.length, rfl, .inr ⟨_, s1, (dpa_len p1).symm⟩, hQ _ true _ F H q st (Ex.refl F) (.int _)⟩
    | @str s z q hl => exact ⟨_, s.length, rfl, by rw [rd_str r1]; exact ⟨hl, rfl⟩, hQ _ true _ F H q st (Ex.refl F) (.int _)⟩) h hg (he := he)
theorem we_abs (hm : X.mg "abs" = none) (h : WE X g a env (fun d _ => ∃ i, d = .int i ∧ Φ (.int (if i < 0 then -i else i)) true) Ψ) (hg : Gl X "abs" := by rfl) (he : starEach [a] X.env = (false, eval a X.env) :: starEach [] X.env := by rfl) : WE X g (.Call (.Name "abs" p) [a] [] pos) env Φ Ψ :=
  we_b1 call_abs hm (by decide +kernel) (fun d1 z1 ⟨i, e, q⟩ σ F H v1 st r1 Q hQ => by
    subst e
    exact ⟨i, by rw [rd_int r1], hQ _ true _ F H q st (Ex.refl F) (.int _)⟩) h hg (he := he)
theorem we_sum (hm : X.mg "sum" = none) (hc : X.calm = true) (h : WE X g a env (fun d _ => ∃ ns : List Int, d = .list (ns.map .int) ∧ Φ (.int ns.sum) true) Ψ) (hg : Gl X "sum" := by rfl) (he : starEach [a] X.env = (false, eval a X.env) :: starEach [] X.env := by rfl) : WE X g (.Call (.Name "sum" p) [a] [] pos) env Φ Ψ :=
  we_b1 (cr_sum hc) hm (by decide +kernel) (fun d1 z1 ⟨ns, e, q⟩ σ F H v1 st r1 Q hQ => by
    subst e
    obtain ⟨a1, vs1, rfl, s1, p1⟩ := rd_lst st.toSk r1
    rw [dpa_ints_eq p1] at s1
    exact ⟨a1, ns, rfl, s1, hQ _ true _ F H q st (Ex.refl F) (.int _)⟩) h hg (he := he)
theorem dpa_bools_eq : ∀ {ns : List Bool} {vs : List V}, DqAll K H vs (ns.map PyData.bool) → vs = ns.map V.bl
  | [], _, h => by
    have h' : DqAll K H _ [] := h
    cases h'; rfl
  | n :: ns, _, h => by
    have h' : DqAll K H _ (.bool n :: ns.map PyData.bool) := h
    cases h' with
    | cons h1 h2 => rw [dp_bl h1, dpa_bools_eq h2]; rfl
theorem we_all (hm : X.mg "all" = none) (hc : X.calm = true) (h : WE X g a env (fun d _ => ∃ ns : List Bool, d = .list (ns.map .bool) ∧ Φ (.bool (ns.all id)) true) Ψ) (hg : Gl X "all" := by rfl) (he : starEach [a] X.env = (false, eval a X.env) :: starEach [] X.env := by rfl) : WE X g (.Call (.Name "all" p) [a] [] pos) env Φ Ψ :=
  we_b1 (cr_all hc) hm (by decide +kernel) (fun d1 z1 ⟨ns, e, q⟩ σ F H v1 st r1 Q hQ => by
    subst e
    obtain ⟨a1, vs1, rfl, s1, p1⟩ := rd_lst st.toSk r1
    rw [dpa_bools_eq p1] at s1
    exact ⟨a1, ns, rfl, s1, hQ _ true _ F H q st (Ex.refl F) (.bl _)⟩) h hg (he := he)
inductive IntOfP (Φ : PyData → Bool → Prop) : PyData → Bool → Prop
  | int {i : Int} {z : Bool} : Φ (.int i) true → IntOfP Φ (.int i) z
  | bool {k : Bool} {z : Bool} : Φ (.int (if k then 1 else 0)) true → IntOfP Φ (.bool k) z
theorem we_intof (hm : X.mg "int" = none) (h : WE X g a env (IntOfP Φ) Ψ) (hg : Gl X "int" := by rfl) (he : starEach [a] X.env = (false, eval a X.env) :: starEach [] X.env := by rfl) : WE X g (.Call (.Name "int" p) [a] [] pos) env Φ Ψ :=
  we_t1 call_int1 hm (by decide +kernel) (fun d1 z1 q σ F H v1 st r1 Q hQ => by
    cases q with
    | @int i z q => exact .inl ⟨i, by rw [rd_int r1], hQ _ true _ F H q st (Ex.refl F) (.int _)⟩
    | @bool k z q => exact .inr ⟨k, by rw [rd_bl r1], hQ _ true _ F H q st (Ex.refl F) (.int _)⟩) h hg (he := he)
inductive TupP (Φ : PyData → Bool → Prop) : PyData → Bool → Prop
  | lst {xs : List PyData} {z : Bool} : Φ (.tuple xs) true → TupP Φ (.list xs) z
  | tup {xs : List PyData} : Φ (.tuple xs) true → TupP Φ (.tuple xs) true
theorem we_tupof (hm : X.mg "tuple" = none) (h : WE X g a env (TupP Φ) Ψ) (hg : Gl X "tuple" := by rfl) (he : starEach [a] X.env = (false, eval a X.env) :: starEach [] X.env := by rfl) : WE X g (.Call (.Name "tuple" p) [a] [] pos) env Φ Ψ :=
  we_t1 call_tuple_of hm (by decide +kernel) (fun d1 z1 q σ F H v1 st r1 Q hQ => by
    cases q with
    | @lst xs z q =>
      obtain ⟨a1, vs1, rfl, s1, p1⟩ := rd_lst st.toSk r1
      exact ⟨a1, vs1, rfl, .inl ⟨s1, fun l hl => put_tup st hl p1 q hQ⟩⟩
    | @tup xs q =>
      obtain ⟨a1, vs1, rfl, s1, p1⟩ := rd_tup st.toSk r1
      exact ⟨a1, vs1, rfl, .inr ⟨s1, hQ _ true _ F H q st (Ex.refl F) r1⟩⟩) h hg (he := he)
end
def DNew (K : Frag) (g : G) (env : List Sl) (r : V → Hp → VK → Prop) (d1 : PyData) (z1 : Bool) (Φ : List PyData → Prop) : Prop :=
  ∀ (σ : SS) (F H : Hp) (v1 : V), St K g F H σ env → Rd K F env z1 v1 d1 →
    ∀ Q : VK, (∀ ds v F' H', Φ ds → St K g F' H' σ env → Ex F F' → NewL K g F' H' env v ds → Q v H') → r v1 H Q
theorem wn_b1 {Φ : List PyData → Prop} {R : PyData → Bool → Prop} {x : Str} {id : String} {r : List V → Hp → VK → Prop} (hc : CallR X (.builtin id) r) (hm : X.mg x = none) (hv : bootBuiltins x = some (.builtin id))
    (hr : ∀ d1 z1, R d1 z1 → DNew X.K g env (fun v => r [v]) d1 z1 Φ) (h : WE X g a env R Ψ) (hg : Gl X x := by rfl) (hn : x ≠ "__name__" := by decide) (hdb : (x == ("__debug__" : Str)) = false := by decide)
    (he : starEach [a] X.env = (false, eval a X.env) :: starEach [] X.env := by rfl) (hpl : (backTo pos (starEach ([] : List Expr) X.env)).any (·.1) = false := by rfl) : WN X g (.Call (.Name x p) [a] [] pos) env Φ Ψ := fun W tk σ F H st hx Q hQ => by
  refine semE_of (pe_callB hc hg hm hv (pa_cons (peS a) pa_nil he) hn hdb he hpl) ?_
  refine h W tk σ F H st hx _ fun d1 z1 v1 F1 H1 h1 st1 e1 r1 => ?_
  exact hr _ _ h1 σ F1 H1 v1 st1 r1 Q fun ds v F' H' hp s3 e3 r3 => hQ ds v F' H' hp s3 (e1.trans e3) r3
theorem wn_t1 {Φ : List PyData → Prop} {R : PyData → Bool → Prop} {x : Str} {id : String} {r : List V → Hp → VK → Prop} (hc : CallR X (.type id) r) (hm : X.mg x = none) (hv : bootBuiltins x = some (.type id))
    (hr : ∀ d1 z1, R d1 z1 → DNew X.K g env (fun v => r [v]) d1 z1 Φ) (h : WE X g a env R Ψ) (hg : Gl X x := by rfl) (hn : x ≠ "__name__" := by decide) (hdb : (x == ("__debug__" : Str)) = false := by decide)
    (he : starEach [a] X.env = (false, eval a X.env) :: starEach [] X.env := by rfl) (hpl : (backTo pos (starEach ([] : List Expr) X.env)).any (·.1) = false := by rfl) : WN X g (.Call (.Name x p) [a] [] pos) env Φ Ψ := fun W tk σ F H st hx Q hQ => by
  refine semE_of (pe_callTy hc hg hm hv (pa_cons (peS a) pa_nil he) hn hdb he hpl) ?_
  refine h W tk σ F H st hx _ fun d1 z1 v1 F1 H1 h1 st1 e1 r1 => ?_
  exact hr _ _ h1 σ F1 H1 v1 st1 r1 Q fun ds v F' H' hp s3 e3 r3 => hQ ds v F' H' hp s3 (e1.trans e3) r3
inductive LstP (Φ : List PyData → Prop) : PyData → Bool → Prop
  | lst {xs : List PyData} {z : Bool} : Φ xs → LstP Φ (.list xs) z
  | tup {xs : List PyData} {z : Bool} : Φ xs → LstP Φ (.tuple xs) z
theorem wn_listof {Φ : List PyData → Prop} (hm : X.mg "list" = none) (h : WE X g a env (LstP Φ) Ψ) (hg : Gl X "list" := by rfl) (he : starEach [a] X.env = (false, eval a X.env) :: starEach [] X.env := by rfl) : WN X g (.Call (.Name "list" p) [a] [] pos) env Φ Ψ :=
  wn_t1 call_list_of hm (by decide +kernel) (fun d1 z1 q σ F H v1 st r1 Q hQ => by
    cases q with
    | @lst xs z q =>
      obtain ⟨a1, vs1, rfl, s1, p1⟩ := rd_lst st.toSk r1
      exact ⟨a1, vs1, rfl, .inl s1, fun l hl => put_new st hl p1 q hQ⟩
    | @tup xs z q =>
      obtain ⟨a1, vs1, rfl, s1, p1⟩ := rd_tup st.toSk r1
      exact ⟨a1, vs1, rfl, .inr s1, fun l hl => put_new st hl p1 q hQ⟩) h hg (he := he)
/-- sorted(xs), any data that can be put in order -/
def rSortD (K : Frag) : List V → Hp → VK → Prop := fun vs H Q => ∃ (a : Addr) (xs : List V) (ds : List PyData) (F : Hp), vs = [V.ref a] ∧ SqL K H a xs ∧ DqAll K F xs ds ∧ Ex F H ∧ PySem.W.AllAlike ds ∧ PySem.W.Sortable ds ∧ (∀ d ∈ ds, SeqAt.shaped d = true) ∧
  ∀ (ys : List V) (p : Addr), DqAll K F ys (ds.mergeSort (PySem.W.dataLe false id)) → H p = none → Q (.ref p) (upd H p (.lst ys))
theorem each_of {X : Cx} {pins : List (Addr × Obj)} {s : Shared} {F : Hp} (I : Inv X pins σ H s) (e : Ex F H) : ∀ {ds : List PyData} {xs : List V} {its : List Value}, (∀ d ∈ ds, SeqAt.shaped d = true) → Vals xs its → DqAll X.K F xs ds →
    PySem.W.EachIs (fun u d => ∃ x : V, RelV x u ∧ Dq X.K F x d) its ds ∧ PySem.W.EachIs (fun u d => ∃ as, Reads s.heap u (id d) as) its ds
  | [], _, _, _, r, h => by
    cases h
    cases r
    exact ⟨.nil, .nil⟩
  | d :: ds, _, _, c, r, h => by
    cases h with
    | cons h1 h2 =>
      cases r with
      | cons r1 r2 =>
        obtain ⟨q1, q2⟩ := each_of I e (fun b hb => c b (List.mem_cons_of_mem _ hb)) r2 h2
        exact ⟨.cons ⟨_, r1, h1⟩ q1, .cons (Dp.reads I d _ _ (dq_dp _ _ (shp_lay (c d (List.mem_cons_self ..))) (dp_mono e _ _ h1)) r1) q2⟩
theorem each_back {F : Hp} : ∀ {ds : List PyData} {out : List Value}, PySem.W.EachIs (fun u d => ∃ x : V, RelV x u ∧ Dq K F x d) out ds → ∃ ys, Vals ys out ∧ DqAll K F ys ds
  | _, _, .nil => ⟨[], .nil, .nil⟩
  | _, _, .cons ⟨x, h1, h2⟩ t => by
    obtain ⟨ys, q1, q2⟩ := each_back t
    exact ⟨x :: ys, .cons h1 q1, .cons h2 q2⟩
theorem cr_sortD {k : Nat} (hr : Room k X.A) : CallR X (.builtin "sorted") (rSortD X.K) := by
  intro pins s σ H vs us Q I r h
  obtain ⟨a, xs, ds, F, rfl, hs, hd, eF, hal, hk, hdp, q⟩ := h
  obtain ⟨its, rv, hl, hz⟩ := I.list hs
  rw [Vals.ref1 r]
  obtain ⟨q1, q2⟩ := each_of I eF hdp rv hd
  have hids : ds.map id = ds := List.map_id ds
  have hu := hr.un
  refine PySem.W.sorted_data (enc := id) hl.isList q1 q2 (by rw [hids]; exact hal) (by rw [hids]; exact hk) (by rw [← dpa_len hd]; exact hz) (fun b hb => by have : b.depth ≤ 64 := of_decide_eq_true (Bool.and_eq_true_iff.mp (hdp b hb)).2; show X.A.units + 2 + b.depth < cLine; omega) fun out h1 h2 => ?_
  obtain ⟨ys, k1, k2⟩ := each_back h2
  obtain ⟨ep, he'⟩ := PyProof.Rows.sortedAll_at s.heap its out.toArray
  have hlen : ys.length ≤ sizeLine := by rw [k1.length, h1, ← dpa_len hd]; exact hz
  exact ⟨.ref _, upd H (s.heap.objs.size + 1) (.lst ys), I.laid (t' := s.toks) (fun _ _ => PyProof.Rows.sortedAll_old) (Nat.le_succ _) ⟨hlen, out, ep, k1, he'⟩, rfl, q _ _ k2 (I.hok.fresh (Nat.le_succ _))⟩
/-- the list in order -/
def srt (ds : List PyData) : List PyData := ds.mergeSort (PySem.W.dataLe false id)
theorem wn_sorted {k : Nat} {Φ : List PyData → Prop} (hm : X.mg "sorted" = none) (hr : Room k X.A) (h : WE X g a env (fun d _ => ∃ ds, d = .list ds ∧ PySem.W.AllAlike ds ∧ PySem.W.Sortable ds ∧ (∀ d ∈ ds, SeqAt.shaped d = true) ∧ Φ (srt ds)) Ψ) (hg : Gl X "sorted" := by rfl) (he : starEach [a] X.env = (false, eval a X.env) :: starEach [] X.env := by rfl) : WN X g (.Call (.Name "sorted" p) [a] [] pos) env Φ Ψ :=
  wn_b1 (cr_sortD hr) hm (by decide +kernel) (fun d1 z1 ⟨ds, e, h1, h2, h3, q⟩ σ F H v1 st r1 Q hQ => by
    subst e
    obtain ⟨a1, vs1, rfl, s1, p1⟩ := rd_lst st.toSk r1
    exact ⟨a1, vs1, ds, F, rfl, s1, p1, st.ex, h1, h2, h3, fun ys p hy hn => put_new st hn hy q hQ⟩) h hg (he := he)
theorem we_b2 {Φ : PyData → Bool → Prop} {R : PyData → Bool → PyData → Bool → Prop} {x : Str} {id : String} {r : List V → Hp → VK → Prop} (hc : CallR X (.builtin id) r) (hm : X.mg x = none) (hv : bootBuiltins x = some (.builtin id))
    (hr : ∀ d1 z1 d2 z2, R d1 z1 d2 z2 → DOp X.K g env (fun v w => r [v, w]) d1 z1 d2 z2 Φ) (h : WE X g a env (fun d1 z1 => WE X g b env (fun d2 z2 => R d1 z1 d2 z2) Ψ) Ψ) (hg : Gl X x := by rfl) (hn : x ≠ "__name__" := by decide) (hdb : (x == ("__debug__" : Str)) = false := by decide)
    (he : starEach [a, b] X.env = (false, eval a X.env) :: starEach [b] X.env := by rfl) (he2 : starEach [b] X.env = (false, eval b X.env) :: starEach [] X.env := by rfl) (hpl : (backTo pos (starEach [b] X.env)).any (·.1) = false := by rfl) : WE X g (.Call (.Name x p) [a, b] [] pos) env Φ Ψ := fun W tk σ F H st hx Q hQ => by
  refine semE_of (pe_callB hc hg hm hv (pa_cons (peS a) (pa_cons (peS b) pa_nil he2) he) hn hdb he hpl) ?_
  refine h W tk σ F H st hx _ fun d1 z1 v1 F1 H1 h1 st1 e1 r1 => ?_
  refine h1 W tk σ F1 H1 st1 hx _ fun d2 z2 v2 F2 H2 h2 st2 e2 r2 => ?_
  exact hr _ _ _ _ h2 σ F2 H2 v1 v2 st2 (rd_mono e2 r1) r2 Q fun d z v F' H' hp s3 e3 r3 => hQ d z v F' H' hp s3 ((e1.trans e2).trans e3) r3
theorem we_min2 {Φ : PyData → Bool → Prop} (hm : X.mg "min" = none) (hc : X.calm = true) (h : WE X g a env (fun d1 z1 => WE X g b env (fun d2 z2 => ∃ i j, d1 = .int i ∧ d2 = .int j ∧ Φ (.int (if j < i then j else i)) true) Ψ) Ψ) (hg : Gl X "min" := by rfl) (he : starEach [a, b] X.env = (false, eval a X.env) :: starEach [b] X.env := by rfl) (he2 : starEach [b] X.env = (false, eval b X.env) :: starEach [] X.env := by rfl) (hpl : (backTo pos (starEach [b] X.env)).any (·.1) = false := by rfl) : WE X g (.Call (.Name "min" p) [a, b] [] pos) env Φ Ψ :=
  we_b2 (call_min2 hc) hm (by decide +kernel) (fun d1 z1 d2 z2 ⟨i, j, e1, e2, q⟩ => by
    subst e1 e2
    exact dop_of q fun σ F H v1 v2 Q st r1 r2 k => ⟨i, j, by rw [rd_int r1, rd_int r2], k _ (.int _)⟩) h hg (he := he) (he2 := he2) (hpl := hpl)
theorem we_max2 {Φ : PyData → Bool → Prop} (hm : X.mg "max" = none) (hc : X.calm = true) (h : WE X g a env (fun d1 z1 => WE X g b env (fun d2 z2 => ∃ i j, d1 = .int i ∧ d2 = .int j ∧ Φ (.int (if j > i then j else i)) true) Ψ) Ψ) (hg : Gl X "max" := by rfl) (he : starEach [a, b] X.env = (false, eval a X.env) :: starEach [b] X.env := by rfl) (he2 : starEach [b] X.env = (false, eval b X.env) :: starEach [] X.env := by rfl) (hpl : (backTo pos (starEach [b] X.env)).any (·.1) = false := by rfl) : WE X g (.Call (.Name "max" p) [a, b] [] pos) env Φ Ψ :=
  we_b2 (call_max2 hc) hm (by decide +kernel) (fun d1 z1 d2 z2 ⟨i, j, e1, e2, q⟩ => by
    subst e1 e2
    exact dop_of q fun σ F H v1 v2 Q st r1 r2 k => ⟨i, j, by rw [rd_int r1, rd_int r2], k _ (.int _)⟩) h hg (he := he) (he2 := he2) (hpl := hpl)
def WP (X : Cx) (g : G) (e : Option Expr) (env : List Sl) (Φ : Option Int → Prop) (Ψ : Exc → Prop) : Prop := match e with
  | none => Φ none
  | some e => WE X g e env (fun d _ => ∃ i, d = .int i ∧ Φ (some i)) Ψ
def semO (X : Cx) : Option Expr → TO
  | none => tNoPart
  | some e => tPart (semE X e)
theorem poS : ∀ e : Option Expr, PO X e (semO X e)
  | none => po_none
  | some e => po_some (peS e)
theorem wp_run {o : Option Expr} {Φ : Option Int → Prop} (h : WP X g o env Φ Ψ) {W : WX} (tk : Takes X W) (st : St X.K g F H σ env) (hx : HX X g env Ψ W σ) {Q : Option Int → Hp → Prop}
    (hQ : ∀ i F' H', Φ i → St X.K g F' H' σ env → Ex F F' → Q i H') : semO X o σ H Q := by
  cases o with
  | none => exact hQ none F H h st (Ex.refl F)
  | some e =>
    refine h W tk σ F H st hx _ fun d z v F' H' ⟨i, hd, hp⟩ s' e' r' => ?_
    subst hd
    exact ⟨i, rd_int r', hQ (some i) F' H' hp s' e'⟩
/-- the items of xs[lo:hi] -/
def cut {α : Type} (xs : List α) (lo hi : Option Int) : List α := (xs.drop (HT.sIx xs.length 0 lo)).take (HT.sIx xs.length xs.length hi - HT.sIx xs.length 0 lo)
theorem dpa_cut {ds : List PyData} {vs : List V} (h : DqAll K H vs ds) (lo hi : Option Int) : DqAll K H (cutV vs lo hi) (cut ds lo hi) := by
  unfold cutV cut
  rw [dpa_len h]
  exact dpa_take _ (dpa_drop _ h)
theorem wn_sliceL {lo hi : Option Expr} {p2 : Pos} {Φ : List PyData → Prop} (h : WE X g a env (fun d1 _ => ∃ xs, d1 = .list xs ∧ WP X g lo env (fun l => WP X g hi env (fun u => Φ (cut xs l u)) Ψ) Ψ) Ψ) : WN X g (.Subscript a (.Slice lo hi none p2) pos) env Φ Ψ := fun W tk σ F H st hx Q hQ => by
  refine semE_of (pe_slice sl_list (peS a) (poS lo) (poS hi)) ?_
  refine h W tk σ F H st hx _ fun d1 z1 v1 F1 H1 ⟨xs, hd, h1⟩ st1 e1 r1 => ?_
  subst hd
  refine wp_run h1 tk st1 hx fun l F2 H2 h2 st2 e2 => wp_run h2 tk st2 hx fun u F3 H3 h3 st3 e3 => ?_
  obtain ⟨a1, vs1, rfl, s1, p1⟩ := rd_lst st3.toSk (rd_mono (e2.trans e3) r1)
  exact ⟨a1, vs1, rfl, s1, fun p hp => put_new st3 hp (dpa_cut p1 l u) h3 fun ds v F' H' hp s e r => hQ ds v F' H' hp s (((e1.trans e2).trans e3).trans e) r⟩
end
end TL
namespace TL
open PySem PySem.Spec PyProof.Rows L2
def fps (env : List Sl) : List Addr := env.flatMap Sl.fp
theorem own_fps {env : List Sl} {a : Addr} : Own env a ↔ a ∈ fps env := by
  unfold fps
  rw [List.mem_flatMap]
  constructor
  · rintro ⟨i, s, h1, h2⟩
    exact ⟨s, List.mem_of_getElem? h1, h2⟩
  · rintro ⟨s, h1, h2⟩
    obtain ⟨i, hi⟩ := List.getElem?_of_mem h1
    exact ⟨i, s, hi, h2⟩
section
variable {X : Cx} {g : G} {env env' : List Sl} {Ψ : Exc → Prop} {pos p : Pos} {a b c e : Expr} {es : List Expr} {K : Frag} {F F' H H' : Hp} {σ σ' : SS}
theorem Sk.base (st : Sk K F H σ env) : St K ⟨F, H, fps env⟩ F H σ env :=
  { st with g1 := fun _ _ h _ _ => h, gt := ⟨fun a ps h => (by show H a ≠ none; rw [show H a = _ from h]; intro z; cases z), fun p hp z => (by obtain ⟨ps, h1, _⟩ := st.tk.tb p hp; have z : H p.1 = none := z; rw [h1] at z; cases z)⟩, g2 := fun a h => .inr (own_fps.mp h), g3 := Ex.refl F, g4 := fun a h => .inl h, g5 := fun a h => st.there (own_fps.mpr h), g6 := fun a h => st.there (own_fps.mpr h) }
theorem St.rebase (st : St K g F H σ env) (st' : St K ⟨F, H, fps env⟩ F' H' σ' env') (sub : ∀ a, Own env' a → Own env a) : St K g F' H' σ' env' :=
  { st'.toSk with
    g1 := fun a o h m n => st'.g1 a o (st.g1 a o h m n) (fun z => by
      rcases st.g2 a (own_fps.mpr z) with q | q
      · rw [q] at h; cases h
      · exact m q) n
    gt := st.gt.grow fun a z => by
      cases q : H a with
      | none => rfl
      | some u =>
        by_cases hm : a ∈ fps env
        · exact absurd z (st'.g5 a hm)
        · by_cases ht : ∃ ps, u = .tbl ps
          · obtain ⟨ps, rfl⟩ := ht; exact absurd z (st'.gt.g7 a ps q)
          · rw [st'.g1 a u q hm fun ps y => ht ⟨ps, y⟩] at z; cases z
    g2 := fun a h => st.g2 a (sub a h)
    g3 := st.g3.trans st'.g3
    g4 := fun a h => by
      rcases st'.g4 a h with q | q
      · exact st.g4 a q
      · exact .inr (st.h0 q)
    g5 := fun a m z => by
      by_cases h : a ∈ fps env
      · exact st'.g5 a h z
      · cases q : H a with
        | none => exact st.g5 a m q
        | some u =>
          by_cases ht : ∃ ps, u = .tbl ps
          · obtain ⟨ps, rfl⟩ := ht; exact st'.gt.g7 a ps q z
          · rw [st'.g1 a u q h fun ps y => ht ⟨ps, y⟩] at z; cases z
    g6 := st.g6 }
def putsE (env : List Sl) : List (Nat × PyData) → List Sl
  | [] => env
  | (i, d) :: r => putsE (env.set i (.d d)) r
def putsV (σ : SS) : List (Nat × V) → SS
  | [] => σ
  | (i, v) :: r => putsV (σ.set i (some v)) r
def SetsP (K : Frag) (F : Hp) : List (Nat × V) → List (Nat × PyData) → Prop
  | [], [] => True
  | (i, v) :: r, (j, d) :: l => i = j ∧ Dq K F v d ∧ SetsP K F r l
  | _, _ => False
theorem setsP_app : ∀ {r r' : List (Nat × V)} {l l' : List (Nat × PyData)}, SetsP K F r l → SetsP K F r' l' → SetsP K F (r ++ r') (l ++ l')
  | [], _, [], _, _, h => h
  | _ :: _, _, _ :: _, _, ⟨h1, h2, h3⟩, h => ⟨h1, h2, setsP_app h3 h⟩
  | [], _, _ :: _, _, h, _ => h.elim
  | _ :: _, _, [], _, h, _ => h.elim
theorem putsV_app (σ : SS) : ∀ (r r' : List (Nat × V)), putsV σ (r ++ r') = putsV (putsV σ r) r'
  | [], _ => rfl
  | (i, v) :: r, r' => putsV_app (σ.set i (some v)) r r'
theorem putsE_len : ∀ (l : List (Nat × PyData)) (env : List Sl), (putsE env l).length = env.length
  | [], _ => rfl
  | (i, d) :: r, env => by rw [putsE, putsE_len r, List.length_set]
theorem St.sets : ∀ {r : List (Nat × V)} {l : List (Nat × PyData)} {σ : SS} {env : List Sl}, St K g F H σ env → SetsP K F r l → (∀ q ∈ l, q.1 < env.length) → St K g F H (putsV σ r) (putsE env l)
  | [], [], _, _, st, _, _ => st
  | (i, v) :: r, (j, d) :: l, σ, env, st, ⟨h1, h2, h3⟩, hl => by
    have h1' : i = j := h1
    subst h1'
    have s2 : St K g F H (σ.set i (some v)) (env.set i (.d d)) := st.setD (hl (i, d) (List.mem_cons_self ..)) h2
    exact St.sets (r := r) (l := l) s2 h3 fun q hq => by rw [List.length_set]; exact hl q (List.mem_cons_of_mem _ hq)
  | [], _ :: _, _, _, _, h, _ => h.elim
  | _ :: _, [], _, _, _, h, _ => h.elim
theorem setsP_idx {vs : List Nat} : ∀ {r : List (Nat × V)} {l : List (Nat × PyData)}, SetsP K F r l → (∀ q ∈ l, q.1 ∈ vs) → ∀ q ∈ r, q.1 ∈ vs
  | [], _, _, _, q, hq => by cases hq
  | a :: r, b :: l, ⟨h1, _, h3⟩, hl, q, hq => by
    rcases List.mem_cons.mp hq with z | z
    · rw [z, show a.1 = b.1 from h1]; exact hl b (List.mem_cons_self ..)
    · exact setsP_idx h3 (fun q hq => hl q (List.mem_cons_of_mem _ hq)) q z
  | _ :: _, [], h, _, _, _ => h.elim
theorem putsV_len : ∀ (r : List (Nat × V)) (σ : SS), (putsV σ r).length = σ.length
  | [], _ => rfl
  | (i, v) :: r, σ => by rw [putsV, putsV_len r, List.length_set]
theorem putsV_get {i : Nat} : ∀ {r : List (Nat × V)} {σ : SS}, (∀ q ∈ r, q.1 ≠ i) → (putsV σ r)[i]? = σ[i]?
  | [], _, _ => rfl
  | (j, v) :: r, σ, h => by
    rw [putsV, putsV_get fun q hq => h q (List.mem_cons_of_mem _ hq), List.getElem?_set, if_neg (h (j, v) (List.mem_cons_self ..))]
theorem putsE_get {i : Nat} : ∀ {r : List (Nat × PyData)} {env : List Sl}, (∀ q ∈ r, q.1 ≠ i) → (putsE env r)[i]? = env[i]?
  | [], _, _ => rfl
  | (j, v) :: r, env, h => by
    rw [putsE, putsE_get fun q hq => h q (List.mem_cons_of_mem _ hq), List.getElem?_set, if_neg (h (j, v) (List.mem_cons_self ..))]
/-- a new object that no slot holds is changed -/
theorem St.untracked {D : Addr} {o' : HO} (st : St K g F H σ env) (hF : F D = none) (hn : ¬ Own env D) (h0 : g.H0 D = none) (ht : ∀ vs, o' ≠ .tup vs := by intro _ z; cases z) : St K g F (upd H D o') σ env where
  len := st.len
  sl := fun i s e => slok_mono (Ex.refl F) (fun a ha u q => by
    have hne : a ≠ D := fun z => hn ⟨i, s, e, z ▸ ha⟩
    rw [upd_ne hne]; exact q) (st.sl i s e)
  nd := st.nd
  fr := st.fr
  ex := st.ex.mut hF
  tf := fun a vs q => by
    by_cases e : a = D
    · subst e; rw [upd_same] at q; exact absurd (Option.some.inj q) (ht vs)
    · rw [upd_ne e] at q; exact st.tf a vs q
  tk := st.tk.put fun p hp z => st.gt.g8 p hp (by rw [z]; exact h0)
  gt := st.gt.grow fun a z => by
    by_cases e : a = D
    · subst e; rw [upd_same] at z; cases z
    · rw [upd_ne e] at z; exact z
  g1 := fun a o h m n => by
    have hne : a ≠ D := fun z => by rw [z, h0] at h; cases h
    rw [upd_ne hne]; exact st.g1 a o h m n
  g2 := st.g2
  g3 := st.g3
  g4 := st.g4
  g5 := fun a m z => by
    by_cases hb : a = D
    · subst hb; rw [upd_same] at z; cases z
    · rw [upd_ne hb] at z; exact st.g5 a m z
  g6 := st.g6
/-- what a target does with data -/
def TGd (K : Frag) (t : TG) (A : PyData → Option (List (Nat × PyData))) : Prop :=
  ∀ (x : PyData) (l : List (Nat × PyData)) (σ : SS) (F H : Hp) (v : V) (Q : SS → Hp → Prop), A x = some l → Ex F H → Dq K F v x → (∀ r, SetsP K F r l → Q (putsV σ r) H) → t v σ H Q
theorem tgd_name (j : Nat) : TGd K (gName j) (fun x => some [(j, x)]) := fun x l σ F H v Q e eF hd h => by
  have e' := Option.some.inj e
  subst e'
  exact h [(j, v)] ⟨rfl, hd, trivial⟩
def tgs : List (PyData → Option (List (Nat × PyData))) → List PyData → Option (List (Nat × PyData))
  | [], [] => some []
  | A :: As, x :: xs => match A x, tgs As xs with
    | some l, some r => some (l ++ r)
    | _, _ => none
  | _, _ => none
def TGds (K : Frag) (t : TGs) (As : List (PyData → Option (List (Nat × PyData)))) : Prop :=
  ∀ (xs : List PyData) (l : List (Nat × PyData)) (σ : SS) (F H : Hp) (vs : List V) (Q : SS → Hp → Prop), tgs As xs = some l → Ex F H → DqAll K F vs xs → (∀ r, SetsP K F r l → Q (putsV σ r) H) → t vs σ H Q
theorem tgds_nil : TGds K gNil [] := fun xs l σ F H vs Q e eF hd h => by
  cases xs with
  | nil =>
    cases hd
    have e' := Option.some.inj e
    subst e'
    exact ⟨rfl, h [] trivial⟩
  | cons x r => cases e
theorem tgds_cons {t : TG} {u : TGs} {A : PyData → Option (List (Nat × PyData))} {As : List (PyData → Option (List (Nat × PyData)))} (h1 : TGd K t A) (h2 : TGds K u As) : TGds K (gCons t u) (A :: As) := fun xs l σ F H vs Q e eF hd h => by
  cases xs with
  | nil => cases e
  | cons x r =>
    cases hd with
    | @cons v vs d ds hd1 hd2 =>
      have e0 : (match A x, tgs As r with | some l, some r => some (l ++ r) | _, _ => none) = some l := e
      cases q1 : A x with
      | none => rw [q1] at e0; cases e0
      | some l1 =>
        cases q2 : tgs As r with
        | none => rw [q1, q2] at e0; cases e0
        | some l2 =>
          rw [q1, q2] at e0
          have e' := Option.some.inj e0
          subst e'
          refine ⟨v, vs, rfl, h1 x l1 σ F H v _ q1 eF hd1 fun r1 s1 => h2 r l2 _ F H vs Q q2 eF hd2 fun r2 s2 => ?_⟩
          rw [← putsV_app]
          exact h (r1 ++ r2) (setsP_app s1 s2)
def tgTup (As : List (PyData → Option (List (Nat × PyData)))) : PyData → Option (List (Nat × PyData))
  | .tuple xs => tgs As xs
  | _ => none
theorem tgs_len : ∀ {As : List (PyData → Option (List (Nat × PyData)))} {xs : List PyData} {l : List (Nat × PyData)}, tgs As xs = some l → xs.length = As.length
  | [], [], _, _ => rfl
  | A :: As, x :: xs, l, e => by
    have e0 : (match A x, tgs As xs with | some l, some r => some (l ++ r) | _, _ => none) = some l := e
    cases q2 : tgs As xs with
    | none => rw [q2] at e0; cases q1 : A x <;> rw [q1] at e0 <;> cases e0
    | some l2 => exact congrArg Nat.succ (tgs_len q2)
  | [], _ :: _, _, e => by cases e
  | _ :: _, [], _, e => by cases e
theorem tgd_tup {u : TGs} {n : Nat} {As : List (PyData → Option (List (Nat × PyData)))} (h : TGds K u As) (hn : As.length = n) : TGd K (gTup K n u) (tgTup As) := fun x l σ F H v Q e eF hd hQ => by
  cases x with
  | tuple xs =>
    obtain ⟨a, vs, rfl, h1, h2⟩ := dp_tup hd
    exact ⟨a, vs, rfl, ex_t eF h1, by rw [dpa_len h2, tgs_len e, hn], h xs l σ F H vs Q e eF h2 hQ⟩
  | _ => cases e
def wipeE (env : List Sl) : List Nat → List Sl
  | [] => env
  | v :: vs => (wipeE env vs).set v .un
def wipeOk (env : List Sl) (vs : List Nat) : Bool := vs.all fun i => match env[i]? with
  | some s => s.fp.isEmpty
  | none => true
theorem wipeE_len (env : List Sl) : ∀ vs : List Nat, (wipeE env vs).length = env.length
  | [] => rfl
  | v :: vs => by rw [wipeE, List.length_set, wipeE_len env vs]
theorem wipe_get (σ : SS) (i : Nat) : ∀ vs : List Nat, (wipe σ vs)[i]? = if i ∈ vs then (σ[i]?.map fun _ => none) else σ[i]?
  | [] => by rw [if_neg (by simp)]; rfl
  | v :: vs => by
    show ((wipe σ vs).set v none)[i]? = _
    rw [List.getElem?_set]
    by_cases h : v = i
    · subst h
      rw [if_pos rfl, if_pos (List.mem_cons_self ..), wipe_length]
      by_cases hl : v < σ.length
      · rw [if_pos hl, List.getElem?_eq_getElem hl]; rfl
      · rw [if_neg hl, List.getElem?_eq_none (by omega)]; rfl
    · rw [if_neg h, wipe_get σ i vs]
      by_cases hm : i ∈ vs
      · rw [if_pos hm, if_pos (List.mem_cons_of_mem _ hm)]
      · rw [if_neg hm, if_neg fun z => by
          rcases List.mem_cons.mp z with z | z
          · exact h z.symm
          · exact hm z]
theorem wipeE_get (env : List Sl) (i : Nat) : ∀ vs : List Nat, (wipeE env vs)[i]? = if i ∈ vs then (env[i]?.map fun _ => .un) else env[i]?
  | [] => by rw [if_neg (by simp)]; rfl
  | v :: vs => by
    show ((wipeE env vs).set v .un)[i]? = _
    rw [List.getElem?_set]
    by_cases h : v = i
    · subst h
      rw [if_pos rfl, if_pos (List.mem_cons_self ..), wipeE_len]
      by_cases hl : v < env.length
      · rw [if_pos hl, List.getElem?_eq_getElem hl]; rfl
      · rw [if_neg hl, List.getElem?_eq_none (by omega)]; rfl
    · rw [if_neg h, wipeE_get env i vs]
      by_cases hm : i ∈ vs
      · rw [if_pos hm, if_pos (List.mem_cons_of_mem _ hm)]
      · rw [if_neg hm, if_neg fun z => by
          rcases List.mem_cons.mp z with z | z
          · exact h z.symm
          · exact hm z]
theorem wipe_set {σ : SS} {i : Nat} {x : Option V} {vs : List Nat} (hi : i ∈ vs) : wipe (σ.set i x) vs = wipe σ vs := by
  apply List.ext_getElem?
  intro j
  rw [wipe_get, wipe_get]
  by_cases h : j ∈ vs
  · rw [if_pos h, if_pos h, List.getElem?_set]
    by_cases e : i = j
    · subst e
      rw [if_pos rfl]
      by_cases hl : i < σ.length
      · rw [if_pos hl, List.getElem?_eq_getElem hl]; rfl
      · rw [if_neg hl, List.getElem?_eq_none (by omega)]
    · rw [if_neg e]
  · rw [if_neg h, if_neg h, List.getElem?_set, if_neg (fun z : i = j => h (by rw [← z]; exact hi))]
theorem wipe_wipe (σ : SS) (vs : List Nat) : wipe (wipe σ vs) vs = wipe σ vs := by
  apply List.ext_getElem?
  intro j
  rw [wipe_get, wipe_get]
  by_cases h : j ∈ vs
  · rw [if_pos h, if_pos h, Option.map_map]; rfl
  · rw [if_neg h, if_neg h]
theorem wipe_putsV {vs : List Nat} : ∀ {r : List (Nat × V)} {σ : SS}, (∀ q ∈ r, q.1 ∈ vs) → wipe (putsV σ r) vs = wipe σ vs
  | [], _, _ => rfl
  | (i, v) :: r, σ, h => by
    rw [putsV, wipe_putsV fun q hq => h q (List.mem_cons_of_mem _ hq)]
    exact wipe_set (h _ (List.mem_cons_self ..))
theorem own_wipe {vs : List Nat} {a : Addr} (h : Own (wipeE env vs) a) : Own env a := by
  obtain ⟨i, s, h1, h2⟩ := h
  rw [wipeE_get] at h1
  by_cases hm : i ∈ vs
  · rw [if_pos hm] at h1
    obtain ⟨t, _, e⟩ := Option.map_eq_some_iff.mp h1
    subst e
    cases h2
  · rw [if_neg hm] at h1
    exact ⟨i, s, h1, h2⟩
theorem own_wipe' {vs : List Nat} (ok : wipeOk env vs = true) {a : Addr} (h : Own env a) : Own (wipeE env vs) a := by
  obtain ⟨i, s, h1, h2⟩ := h
  refine ⟨i, s, ?_, h2⟩
  rw [wipeE_get]
  by_cases hm : i ∈ vs
  · have q := List.all_eq_true.mp ok i hm
    rw [h1] at q
    have q' : s.fp.isEmpty = true := q
    cases hs : s.fp with
    | nil => rw [hs] at h2; cases h2
    | cons x r => rw [hs] at q'; cases q'
  · rw [if_neg hm]; exact h1
/-- into a block -/
theorem St.wiped (st : St K g F H σ env) (vs : List Nat) : St K g F H (wipe σ vs) (wipeE env vs) where
  len := by rw [wipe_length, wipeE_len]; exact st.len
  sl := fun i s e => by
    rw [wipeE_get] at e
    by_cases hm : i ∈ vs
    · rw [if_pos hm] at e
      obtain ⟨t, _, e⟩ := Option.map_eq_some_iff.mp e
      subst e
      trivial
    · rw [if_neg hm] at e
      rw [wipe_get, if_neg hm]
      exact st.sl i s e
  nd := fun i j s t a ei ej h1 h2 => by
    rw [wipeE_get] at ei ej
    by_cases hi : i ∈ vs
    · rw [if_pos hi] at ei
      obtain ⟨_, _, e⟩ := Option.map_eq_some_iff.mp ei
      subst e
      cases h1
    · by_cases hj : j ∈ vs
      · rw [if_pos hj] at ej
        obtain ⟨_, _, e⟩ := Option.map_eq_some_iff.mp ej
        subst e
        cases h2
      · rw [if_neg hi] at ei
        rw [if_neg hj] at ej
        exact st.nd i j s t a ei ej h1 h2
  fr := fun a h => st.fr a (own_wipe h)
  ex := st.ex
  tf := st.tf
  tk := st.tk
  gt := st.gt
  g1 := st.g1
  g2 := fun a h => st.g2 a (own_wipe h)
  g3 := st.g3
  g4 := st.g4
  g5 := st.g5
  g6 := st.g6
/-- out of a block -/
theorem St.unwiped {vs : List Nat} (st : St K g F H σ env) (ok : wipeOk env vs = true) (st' : St K g F' H' (wipe σ vs) (wipeE env vs)) (e : Ex F F') : St K g F' H' σ env where
  len := st.len
  sl := fun i s e1 => by
    by_cases hm : i ∈ vs
    · have q := List.all_eq_true.mp ok i hm
      rw [e1] at q
      have q' : s.fp.isEmpty = true := q
      refine slok_mono e (fun a ha => ?_) (st.sl i s e1)
      cases hs : s.fp with
      | nil => rw [hs] at ha; cases ha
      | cons x r => rw [hs] at q'; cases q'
    · have q := st'.sl i s (by rw [wipeE_get, if_neg hm]; exact e1)
      rw [wipe_get, if_neg hm] at q
      exact q
  nd := st.nd
  fr := fun a h => st'.fr a (own_wipe' ok h)
  ex := st'.ex
  tf := st'.tf
  tk := st'.tk
  gt := st'.gt
  g1 := st'.g1
  g2 := fun a h => st.g2 a h
  g3 := st'.g3
  g4 := st'.g4
  g5 := st'.g5
  g6 := st'.g6
abbrev BX (X : Cx) (scope : Scope) (s : Shared) (H : Hp) (C : Addr) (cl : List (Str × Addr)) (fp : List Addr) : Cx := X.blk s H scope (compEnvC scope cl C X.env) fp
def semEB (X : Cx) (scope : Scope) (e : Expr) : TE := fun σ H Q => ∀ s H0 C cl fp, semE (BX X scope s H0 C cl fp) e σ H Q
def semTB (X : Cx) (scope : Scope) : List Expr → TT
  | [] => tYes
  | c :: _ => fun σ H Q => ∀ s H0 C cl fp, semT (BX X scope s H0 C cl fp) c σ H Q
/-- the tests of a clause: none or one -/
def WTs (X : Cx) (g : G) (ifs : List Expr) (env : List Sl) (Φ : Bool → Prop) : Prop := match ifs with
  | [] => Φ true
  | c :: _ => WT X g c env Φ (fun _ => False)
theorem takesB {scope : Scope} {s : Shared} {H0 : Hp} {C : Addr} {cl : List (Str × Addr)} {fp : List Addr} : Takes (BX X scope s H0 C cl fp) (fun _ _ _ _ => False) := fun _ _ x => by
  obtain ⟨_, _, _, _, _, _, _, _, _, _, _, _, _, _, _, _, z⟩ := x
  exact z.elim
theorem hxF {W : WX} : HX X g env (fun _ => False) W σ := fun _ _ _ h => h.elim
/-- the state within a comprehension -/
def LJ (K : Frag) (g : G) (F1 : Hp) (σ : SS) (env : List Sl) (Pv : Nat → List PyData → Prop) (D : Addr) (i : Nat) (H : Hp) : Prop :=
  ∃ F acc avs, St K g F H σ env ∧ Ex F1 F ∧ H D = some (.lst avs) ∧ DqAll K F avs acc ∧ F D = none ∧ ¬ Own env D ∧ g.H0 D = none ∧ Pv i acc ∧ acc.length ≤ i
theorem lc_turn {scope : Scope} {ifs : List Expr} {elt : Expr} {t : TG} {A : PyData → Option (List (Nat × PyData))} {F1 : Hp} {vs : List Nat} {Pv : Nat → List PyData → Prop} {D : Addr} {i : Nat} {x : PyData} {v : V} {l : List (Nat × PyData)}
    (htd : TGd X.K t A) (hA : A x = some l) (hl : ∀ q ∈ l, q.1 ∈ vs ∧ q.1 < env.length) (hsz : i < sizeLine) (hv : Dq X.K F1 v x) (hJ : LJ X.K g F1 (wipe σ vs) (wipeE env vs) Pv D i H)
    (hb : ∀ acc, Pv i acc → ∀ (g' : G) s H0 C cl fp, WTs (BX X scope s H0 C cl fp) g' ifs (putsE (wipeE env vs) l) (fun b => (b = true → ∀ s H0 C cl fp, WE (BX X scope s H0 C cl fp) g' elt (putsE (wipeE env vs) l) (fun y z => z = true ∧ Pv (i + 1) (acc ++ [y])) (fun _ => False)) ∧ (b = false → Pv (i + 1) acc))) :
    t v (wipe σ vs) H fun σ2 H2 => wipe σ2 vs = wipe σ vs ∧ semTB X scope ifs σ2 H2 fun b H3 =>
      if b = true then semEB X scope elt σ2 H3 fun y H4 => ∃ acc, H4 D = some (.lst acc) ∧ acc.length < sizeLine ∧ LJ X.K g F1 (wipe σ vs) (wipeE env vs) Pv D (i + 1) (upd H4 D (.lst (acc ++ [y]))) else LJ X.K g F1 (wipe σ vs) (wipeE env vs) Pv D (i + 1) H3 := by
  obtain ⟨F, acc, avs, st, eF, hD, hd, fD, oD, gD, hp, hlen⟩ := hJ
  refine htd x l (wipe σ vs) F H v _ hA st.ex (dp_mono eF _ _ hv) fun r sr => ?_
  have hidx : ∀ q ∈ r, q.1 ∈ vs := setsP_idx sr fun q hq => (hl q hq).1
  refine ⟨by rw [wipe_putsV hidx]; exact wipe_wipe σ vs, ?_⟩
  -- the state within the turn, over a ground of its own
  have st1 : St X.K ⟨F, H, fps (wipeE env vs)⟩ F H (putsV (wipe σ vs) r) (putsE (wipeE env vs) l) := St.sets st.toSk.base sr fun q hq => by rw [wipeE_len]; exact (hl q hq).2
  have back : ∀ {F' H'}, St X.K ⟨F, H, fps (wipeE env vs)⟩ F' H' (putsV (wipe σ vs) r) (putsE (wipeE env vs) l) → Ex F F' → St X.K ⟨F, H, fps (wipeE env vs)⟩ F' H' (wipe σ vs) (wipeE env vs) := fun {F' H'} s' e' =>
    { len := by rw [wipe_length, wipeE_len]; have := s'.len; rw [putsE_len, wipeE_len] at this; rw [← this, putsV_len, wipe_length]
      sl := fun k s e => by
        by_cases hm : k ∈ vs
        · rw [wipeE_get, if_pos hm] at e
          obtain ⟨_, _, e⟩ := Option.map_eq_some_iff.mp e
          subst e
          trivial
        · have e2 : (putsE (wipeE env vs) l)[k]? = some s := by rw [putsE_get (i := k) fun q hq (z : q.1 = k) => hm (by rw [← z]; exact (hl q hq).1)]; exact e
          have q := s'.sl k s e2
          rw [putsV_get (i := k) fun q hq (z : q.1 = k) => hm (by rw [← z]; exact hidx q hq)] at q
          exact q
      nd := st.nd
      fr := fun a h => by
        obtain ⟨k, s, h1, h2⟩ := h
        by_cases hm : k ∈ vs
        · rw [wipeE_get, if_pos hm] at h1
          obtain ⟨_, _, e⟩ := Option.map_eq_some_iff.mp h1
          subst e
          cases h2
        · exact s'.fr a ⟨k, s, by rw [putsE_get (i := k) fun q hq (z : q.1 = k) => hm (by rw [← z]; exact (hl q hq).1)]; exact h1, h2⟩
      ex := s'.ex
      tf := s'.tf
      tk := s'.tk
      gt := s'.gt
      g1 := s'.g1
      g2 := fun a h => .inr (own_fps.mp h)
      g3 := s'.g3
      g4 := s'.g4
      g5 := s'.g5
      g6 := s'.g6 }
  have keepD : ∀ {F' H'}, St X.K ⟨F, H, fps (wipeE env vs)⟩ F' H' (putsV (wipe σ vs) r) (putsE (wipeE env vs) l) → H' D = some (.lst avs) ∧ F' D = none := fun {F' H'} s' => by
    refine ⟨s'.g1 D _ hD (fun z => oD (own_fps.mpr z)) (fun _ z => by cases z), ?_⟩
    cases q : F' D with
    | none => rfl
    | some u =>
      rcases s'.g4 D (by rw [q]; intro z; cases z) with z | z
      · exact absurd fD z
      · have z' : H D = none := z
        rw [hD] at z'; cases z'
  have tests : ∀ (Q : Bool → Hp → Prop), (∀ b F' H', ((b = true → ∀ s H0 C cl fp, WE (BX X scope s H0 C cl fp) ⟨F, H, fps (wipeE env vs)⟩ elt (putsE (wipeE env vs) l) (fun y z => z = true ∧ Pv (i + 1) (acc ++ [y])) (fun _ => False)) ∧ (b = false → Pv (i + 1) acc)) →
      St X.K ⟨F, H, fps (wipeE env vs)⟩ F' H' (putsV (wipe σ vs) r) (putsE (wipeE env vs) l) → Ex F F' → Q b H') → semTB X scope ifs (putsV (wipe σ vs) r) H Q := fun Q hQ => by
    cases ifs with
    | nil =>
      exact hQ true F H ⟨fun _ s H0 C cl fp => (hb acc hp _ (X.s_0) H0 C cl fp).1 rfl s H0 C cl fp, fun z => by cases z⟩ st1 (Ex.refl F)
    | cons c cs =>
      intro s H0 C cl fp
      refine hb acc hp _ s H0 C cl fp _ takesB _ F H st1 hxF Q fun b F' H' hbb s' e' => hQ b F' H' hbb s' e'
  refine tests _ fun b F' H' ⟨h1, h2⟩ s' e' => ?_
  cases b with
  | true =>
    rw [if_pos rfl]
    intro s H0 C cl fp
    refine h1 rfl s H0 C cl fp _ takesB _ F' H' s' hxF _ fun y z w F2 H2 ⟨hz, hp2⟩ s2 e2 rd => ?_
    subst hz
    obtain ⟨hD2, fD2⟩ := keepD s2
    refine ⟨avs, hD2, by rw [dpa_len hd]; omega, F2, acc ++ [y], avs ++ [w], ?_, eF.trans (e'.trans e2), upd_same, ?_, fD2, oD, gD, hp2, by rw [List.length_append, List.length_singleton]; omega⟩
    · have s3 := st.rebase (back s2 (e'.trans e2)) fun a h => h
      exact s3.untracked fD2 oD gD
    · exact dpa_app (dpa_mono (e'.trans e2) _ _ hd) (dpa_one rd)
  | false =>
    rw [if_neg Bool.false_ne_true]
    obtain ⟨hD2, fD2⟩ := keepD s'
    exact ⟨F', acc, avs, st.rebase (back s' e') fun a h => h, eF.trans e', hD2, dpa_mono e' _ _ hd, fD2, oD, gD, h2 rfl, by omega⟩
/-- the state is one of the model's too -/
def tI (X : Cx) (t : TE) : TE := fun σ H Q => t σ H fun v H' => (∃ pins s, Inv X pins σ H' s) → Q v H'
theorem peI (e : Expr) : PE X e (tI X (semE X e)) := ⟨fun pins s σ H Q I h => thn (h.run pins s I) fun u s' ⟨v, H', I', r, q⟩ => ⟨v, H', I', r, q ⟨pins, s', I'⟩⟩⟩
theorem ptsB {scope : Scope} {ifs : List Expr} (h1 : ifs.length ≤ 1) (s : Shared) (H0 : Hp) (C : Addr) (cl : List (Str × Addr)) (fp : List Addr) : PTs (BX X scope s H0 C cl fp) ifs (semTB X scope ifs) := by
  match ifs, h1 with
  | [], _ => exact pts_nil
  | [c], _ => exact pts_one ⟨fun pins s2 σ H Q I h => (h s H0 C cl fp).run pins s2 I⟩
theorem peB {scope : Scope} {e : Expr} (s : Shared) (H0 : Hp) (C : Addr) (cl : List (Str × Addr)) (fp : List Addr) : PE (BX X scope s H0 C cl fp) e (semEB X scope e) := ⟨fun pins s2 σ H Q I h => (h s H0 C cl fp).run pins s2 I⟩
/-- one turn's wish -/
def LT (X : Cx) (env : List Sl) (scope : Scope) (ifs : List Expr) (elt : Expr) (vs : List Nat) (A : PyData → Option (List (Nat × PyData))) (Pv : Nat → List PyData → Prop) (i : Nat) (x : PyData) : Prop :=
  ∃ l, A x = some l ∧ (l.all fun q => vs.elem q.1 && Nat.blt q.1 env.length) = true ∧ ∀ acc, Pv i acc → ∀ (g' : G) s H0 C cl fp, WTs (BX X scope s H0 C cl fp) g' ifs (putsE (wipeE env vs) l) (fun b =>
    (b = true → ∀ s H0 C cl fp, WE (BX X scope s H0 C cl fp) g' elt (putsE (wipeE env vs) l) (fun y z => z = true ∧ Pv (i + 1) (acc ++ [y])) (fun _ => False)) ∧ (b = false → Pv (i + 1) acc))
theorem lt_idx {vs : List Nat} {l : List (Nat × PyData)} {n : Nat} (h : (l.all fun q => vs.elem q.1 && Nat.blt q.1 n) = true) : ∀ q ∈ l, q.1 ∈ vs ∧ q.1 < n := fun q hq => by
  have h1 := Bool.and_eq_true_iff.mp (List.all_eq_true.mp h q hq)
  exact ⟨List.elem_iff.mp h1.1, Nat.le_of_ble_eq_true h1.2⟩
def WNt (X : Cx) (g : G) (t : TE) (env : List Sl) (Φ : List PyData → Prop) (Ψ : Exc → Prop) : Prop :=
  ∀ (W : WX), Takes X W → ∀ (σ : SS) (F H : Hp), St X.K g F H σ env → HX X g env Ψ W σ →
    ∀ Q : VK, (∀ ds v F' H', Φ ds → St X.K g F' H' σ env → Ex F F' → NewL X.K g F' H' env v ds → Q v H') → t σ H Q
section
variable {tg iter elt : Expr} {ifs : List Expr} {scope : Scope} {own : List (Str × Nat)} {t : TG} {A : PyData → Option (List (Nat × PyData))} {Φ : List PyData → Prop}
/-- [elt for tg in a list] -/
theorem nt_lcL (htd : TGd X.K t A) (hwo : wipeOk env (own.map (·.2)) = true)
    (hi : WE X g iter env (fun d z => z = true ∧ ∃ (xs : List PyData) (Pv : Nat → List PyData → Prop), d = .list xs ∧ Pv 0 [] ∧ (∀ i x, xs[i]? = some x → LT X env scope ifs elt (own.map (·.2)) A Pv i x) ∧ ∀ acc, Pv xs.length acc → Φ acc) Ψ) : WNt X g (tLc (iList X.K (tI X (semE X iter))) t (semTB X scope ifs) (semEB X scope elt) (own.map (·.2))) env Φ Ψ := fun W tk σ F H st hx Q hQ => by
  refine hi W tk σ F H st hx _ fun d z v F1 H1 ⟨hz, xs, Pv, hd, p0, pt, pe⟩ s1 e1 rd inv => ?_
  subst hz hd
  obtain ⟨a, vs, rfl, hsq, hda⟩ := dp_lst rd
  obtain ⟨pins, sh, I⟩ := inv
  have hlen : vs.length ≤ sizeLine := by
    obtain ⟨_, _, _, hz⟩ := I.list (ex_l s1.ex hsq)
    exact hz
  refine ⟨a, rfl, ⟨vs, ex_l s1.ex hsq⟩, fun D hD => ?_⟩
  have st2 : St X.K g F1 (upd H1 D (.lst [])) (wipe σ (own.map (·.2))) (wipeE env (own.map (·.2))) := (s1.alloc hD).wiped _
  refine lc_list (xs := vs) (LJ X.K g F1 (wipe σ (own.map (·.2))) (wipeE env (own.map (·.2))) Pv D) ⟨F1, [], [], st2, Ex.refl F1, upd_same, .nil, s1.ex.none hD, fun z => s1.there (own_wipe z) hD, s1.h0 hD, p0, Nat.le_refl 0⟩ (fun i H2 _ ⟨F2, _, _, s3, e3, _⟩ => ex_l s3.ex (ex_l e3 hsq)) (fun i x H2 hx2 hJ => ?_) (fun H2 ⟨F2, acc, avs, s3, e3, hD3, hd3, fD, oD, gD, hp, _⟩ => ?_)
  · obtain ⟨d, hd1, hd2⟩ := dpa_of hda hx2
    obtain ⟨l, hA, hl, hb⟩ := pt i d hd1
    exact lc_turn htd hA (lt_idx hl) (by have := (List.getElem?_eq_some_iff.mp hx2).1; omega) hd2 hJ hb
  · rw [dpa_len hda] at hp
    exact hQ acc (.ref D) F2 H2 (pe acc hp) (s1.unwiped hwo s3 e3) (e1.trans e3) ⟨D, avs, rfl, hD3, hd3, fD, fun z => s1.there z hD, gD⟩
/-- .. over range(n) -/
theorem nt_lcR1 (htd : TGd X.K t A) (hwo : wipeOk env (own.map (·.2)) = true)
    (hi : WE X g a env (fun d z => ∃ (n : Int) (Pv : Nat → List PyData → Prop), d = .int n ∧ (-1000000 ≤ n ∧ n ≤ 16777216) ∧ Pv 0 [] ∧ (∀ i : Nat, (i : Int) < n → LT X env scope ifs elt (own.map (·.2)) A Pv i (.int i)) ∧ ∀ acc, Pv n.toNat acc → Φ acc) Ψ) : WNt X g (tLc (iRng1 (tCons (semE X a) tNil)) t (semTB X scope ifs) (semEB X scope elt) (own.map (·.2))) env Φ Ψ := fun W tk σ F H st hx Q hQ => by
  have hsl := sizeLine_eq
  refine hi W tk σ F H st hx _ fun d z v F1 H1 ⟨n, Pv, hd, hn, p0, pt, pe⟩ s1 e1 rd => ?_
  subst hd
  rw [rd_int rd]
  refine ⟨n, rfl, by omega, by omega, fun D hD => ?_⟩
  have st2 : St X.K g F1 (upd H1 D (.lst [])) (wipe σ (own.map (·.2))) (wipeE env (own.map (·.2))) := (s1.alloc hD).wiped _
  refine lc_range (lo := 0) (n := n.toNat) (LJ X.K g F1 (wipe σ (own.map (·.2))) (wipeE env (own.map (·.2))) Pv D) ⟨F1, [], [], st2, Ex.refl F1, upd_same, .nil, s1.ex.none hD, fun z => s1.there (own_wipe z) hD, s1.h0 hD, p0, Nat.le_refl 0⟩ (fun i H2 hi2 hJ => ?_) (fun H2 ⟨F2, acc, avs, s3, e3, hD3, hd3, fD, oD, gD, hp, _⟩ => ?_)
  · obtain ⟨l, hA, hl, hb⟩ := pt i (by omega)
    rw [Int.zero_add]
    exact lc_turn htd hA (lt_idx hl) (by omega) (.int _) hJ hb
  · exact hQ acc (.ref D) F2 H2 (pe acc hp) (s1.unwiped hwo s3 e3) (e1.trans e3) ⟨D, avs, rfl, hD3, hd3, fD, fun z => s1.there z hD, gD⟩
theorem wn_lcR1 {p1 p2 : Pos} (hm : X.mg "range" = none) (hc : X.calm = true) (hN : X.N.Nodup) (ok : BlkOk X.N X.env.scope scope own) (hpg : ∀ s H C cl fp, PG (BX X scope s H C cl fp) tg t) (htd : TGd X.K t A) (h1 : ifs.length ≤ 1) (hwo : wipeOk env (own.map (·.2)) = true)
    (hi : WE X g a env (fun d z => ∃ (n : Int) (Pv : Nat → List PyData → Prop), d = .int n ∧ (-1000000 ≤ n ∧ n ≤ 16777216) ∧ Pv 0 [] ∧ (∀ i : Nat, (i : Int) < n → LT X env scope ifs elt (own.map (·.2)) A Pv i (.int i)) ∧ ∀ acc, Pv n.toNat acc → Φ acc) Ψ)
    (hs : ∀ x, foldedSetIterable (.Call (.Name "range" p1) [a] [] p2) X.env x = pure x := by intro _; rfl) (hg : Gl X "range" := by rfl) (he : starEach [a] X.env = [(false, eval a X.env)] := by rfl) :
    WN X g (.ListComp elt [⟨tg, .Call (.Name "range" p1) [a] [] p2, ifs, 0⟩] scope pos) env Φ Ψ := fun W tk σ F H st hx Q hQ =>
  semE_of (pe_lc hc hN (pi_range1 hg hm (pa_cons (peS a) pa_nil (by rw [he]; rfl)) he) ok hpg (ptsB h1) peB hs) (nt_lcR1 htd hwo hi W tk σ F H st hx Q hQ)
end
end
end TL
namespace TL
open PySem PySem.Spec PyProof.Rows L2
/-- a new dict, no slot's; its keys tuples, atoms -/
def NewT (K : Frag) (g : G) (F H : Hp) (env : List Sl) (v : V) (kvs : List (List Key × PyData)) : Prop :=
  ∃ p xs, v = .ref p ∧ H p = some (.dT xs) ∧ KVp K F xs kvs ∧ F p = none ∧ ¬ Own env p ∧ g.H0 p = none
def NewK (K : Frag) (g : G) (F H : Hp) (env : List Sl) (v : V) (kvs : List (Key × PyData)) : Prop :=
  ∃ p xs, v = .ref p ∧ H p = some (.dK xs) ∧ KVp K F xs kvs ∧ F p = none ∧ ¬ Own env p ∧ g.H0 p = none
/-- what is wanted behind a statement -/
structure Po where
  nx : List Sl → Prop
  rt : PR → List Sl → Prop
  bk : List Sl → Prop := fun _ => False
  ct : List Sl → Prop := fun _ => False
  ex : Exc → List Sl → Prop
/-- the same, another end -/
abbrev Po.thn (P : Po) (q : List Sl → Prop) : Po := ⟨q, P.rt, P.bk, P.ct, P.ex⟩
abbrev Po.turn (P : Po) (q : List Sl → Prop) : Po := ⟨q, P.rt, P.nx, q, P.ex⟩
abbrev Po.exn (P : Po) (q : Exc → List Sl → Prop) : Po := ⟨P.nx, P.rt, P.bk, P.ct, q⟩
def RtOk (K : Frag) (g : G) (v : V) (σ' : SS) (F' H' : Hp) (env' : List Sl) : PR → Prop
  | .rd d => Dq K F' v d
  | .nl ds => NewL K g F' H' env' v ds
  | .ar i => σ'[i]? = some (some v) ∧ ∃ s, env'[i]? = some s ∧ s.fp ≠ []
  | .nt kvs => NewT K g F' H' env' v kvs
  | .nk kvs => NewK K g F' H' env' v kvs
  | .sl C => ∃ s, C s ∧ SlOk K F' H' (some v) s ∧ ∀ p ∈ s.fp, F' p = none ∧ ¬ Own env' p ∧ g.H0 p = none
structure DOk (X : Cx) (g : G) (F : Hp) (P : Po) (D : Ends) : Prop where
  nx : ∀ env' σ' F' H', P.nx env' → St X.K g F' H' σ' env' → Ex F F' → D.nx σ' H'
  rt : ∀ r v env' σ' F' H', P.rt r env' → St X.K g F' H' σ' env' → RtOk X.K g v σ' F' H' env' r → D.rt v H'
  bk : ∀ env' σ' F' H', P.bk env' → St X.K g F' H' σ' env' → Ex F F' → D.bk σ' H'
  ct : ∀ env' σ' F' H', P.ct env' → St X.K g F' H' σ' env' → Ex F F' → D.ct σ' H'
def XOk (X : Cx) (g : G) (P : Po) (W : WX) : Prop := ∀ c env' σ' F' H', P.ex c env' → St X.K g F' H' σ' env' → ExcW X.K W σ' H' c
structure SemP (X : Cx) (st : Stmt) (D : Ends) (σ : SS) (H : Hp) : Prop where
  run : ∀ (pins : List (Addr × Obj)) (s : Shared), Inv X pins σ H s → wpAny (model X.prog X.w) X.A (exec st X.env) (SP X pins D) X.xe s
def semP (X : Cx) (st : Stmt) : TS := fun D σ H => SemP X st D σ H
def WS (X : Cx) (g : G) (sts : List Stmt) (env : List Sl) (P : Po) : Prop :=
  ∀ (W : WX), Takes X W → XOk X g P W → ∀ (σ : SS) (F H : Hp), St X.K g F H σ env → ∀ D : Ends, DOk X g F P D → semS X sts D σ H
def W1 (X : Cx) (g : G) (st : Stmt) (env : List Sl) (P : Po) : Prop :=
  ∀ (W : WX), Takes X W → XOk X g P W → ∀ (σ : SS) (F H : Hp), St X.K g F H σ env → ∀ D : Ends, DOk X g F P D → semP X st D σ H
section
variable {X : Cx} {g : G} {env env' : List Sl} {P : Po} {pos p : Pos} {a b c e : Expr} {es : List Expr} {st : Stmt} {rest body orelse : List Stmt} {K : Frag} {F F' H H' : Hp} {σ σ' : SS} {D : Ends} {W : WX}
theorem psP (st : Stmt) : PS X st (semP X st) := ⟨fun pins s _ _ _ I h => h.run pins s I⟩
theorem semP_of {t : TS} (h : PS X st t) (q : t D σ H) : semP X st D σ H := ⟨fun pins s I => h.run pins s σ H D I q⟩
theorem DOk.mono (h : DOk X g F P D) (e : Ex F F') : DOk X g F' P D :=
  ⟨fun a b c d h1 h2 h3 => h.nx a b c d h1 h2 (e.trans h3), h.rt, fun a b c d h1 h2 h3 => h.bk a b c d h1 h2 (e.trans h3), fun a b c d h1 h2 h3 => h.ct a b c d h1 h2 (e.trans h3)⟩
theorem XOk.hx (h : XOk X g P W) (env : List Sl) (σ : SS) : HX X g env (fun c => P.ex c env) W σ := fun c F' H' hc s => h c env σ F' H' hc s
theorem ws_nil (h : P.nx env) : WS X g [] env P := fun W tk hx σ F H st D hD => semS_of pss_nil (hD.nx env σ F H h st (Ex.refl F))
theorem ws_cons (h : W1 X g st env (P.thn fun env' => WS X g rest env' P)) : WS X g (st :: rest) env P := fun W tk hx σ F H s0 D hD => by
  refine semS_of (pss_cons (psP st) (pssS rest)) ?_
  refine h W tk hx σ F H s0 _ ⟨fun env' σ' F' H' hw s' e' => ?_, hD.rt, hD.bk, hD.ct⟩
  exact hw W tk hx σ' F' H' s' D (hD.mono e')
theorem WS.mono {P' : Po} (h : WS X g rest env P) (h1 : ∀ e, P.nx e → P'.nx e) (h2 : ∀ r e, P.rt r e → P'.rt r e) (h3 : ∀ e, P.bk e → P'.bk e) (h4 : ∀ e, P.ct e → P'.ct e) (h5 : ∀ c e, P.ex c e → P'.ex c e) : WS X g rest env P' :=
  fun W tk hx σ F H st D hD => h W tk (fun c e σ' F' H' hc => hx c e σ' F' H' (h5 c e hc)) σ F H st D
    ⟨fun e σ' F' H' q => hD.nx e σ' F' H' (h1 e q), fun r v e σ' F' H' q => hD.rt r v e σ' F' H' (h2 r e q), fun e σ' F' H' q => hD.bk e σ' F' H' (h3 e q), fun e σ' F' H' q => hD.ct e σ' F' H' (h4 e q)⟩
theorem ltB {n m : Nat} (h : Nat.blt n m = true) : n < m := Nat.le_of_ble_eq_true h
/-- x = e -/
theorem w1_set (i : Nat) {x : Str} {pos' : Pos} (hN : X.N.Nodup) (h : WE X g e env (fun d z => z = true ∧ P.nx (env.set i (.d d))) (fun c => P.ex c env)) (hi : X.N[i]? = some x := by rfl) (hx : Loc X.env.scope x := by first | exact Or.inl rfl | exact Or.inr rfl) (hl : Nat.blt i env.length = true := by rfl)
    (hs : swapsWith e (some (.Name x pos')) pos.line X.env = pure false := by rfl) (hf : X.fn x = true ∨ X.env.scope.names.lookup x = some .local := by first | exact .inl rfl | exact .inr rfl) : W1 X g (.Assign [.Name x pos'] e pos) env P := fun W tk hx2 σ F H s0 D hD => by
  refine semP_of (ps_set hN hi hx (peS e) hs hf) ?_
  refine h W tk σ F H s0 (hx2.hx env σ) _ fun d z v F' H' ⟨hz, hp⟩ s' e' r' => ?_
  subst hz
  exact hD.nx _ _ F' H' hp (s'.setD (ltB hl) r') e'
/-- x = e, a new list that x alone holds -/
theorem w1_setN (i : Nat) {x : Str} {pos' : Pos} (hN : X.N.Nodup) (h : WN X g e env (fun ds => ∀ a, a ∉ g.M → P.nx (env.set i (.ol a ds))) (fun c => P.ex c env)) (hi : X.N[i]? = some x := by rfl) (hx : Loc X.env.scope x := by first | exact Or.inl rfl | exact Or.inr rfl) (hl : Nat.blt i env.length = true := by rfl)
    (hs : swapsWith e (some (.Name x pos')) pos.line X.env = pure false := by rfl) (hf : X.fn x = true ∨ X.env.scope.names.lookup x = some .local := by first | exact .inl rfl | exact .inr rfl) : W1 X g (.Assign [.Name x pos'] e pos) env P := fun W tk hx2 σ F H s0 D hD => by
  refine semP_of (ps_set hN hi hx (peS e) hs hf) ?_
  refine h W tk σ F H s0 (hx2.hx env σ) _ fun ds v F' H' hp s' e' ⟨q, vs, hv, h1, h2, h3, h4, h5⟩ => ?_
  subst hv
  exact hD.nx _ _ F' H' (hp q fun m => s'.g6 q m h5) (s'.setL (ltB hl) h1 h2 h3 h4 h5) e'
/-- x = [..] on one line -/
theorem w1_setLc (i : Nat) {y : Str} {py : Pos} {elt tg iter : Expr} {ifs : List Expr} {scope : Scope} {own : List (Str × Nat)} {wi : TI} {t : TG} (hc : X.calm = true) (hN : X.N.Nodup) (hi : PI X tg iter wi) (ok : BlkOk X.N X.env.scope scope own) (hpg : ∀ s H C cl fp, PG (BX X scope s H C cl fp) tg t) (h1 : ifs.length ≤ 1)
    (h : WNt X g (tLc wi t (semTB X scope ifs) (semEB X scope elt) (own.map (·.2))) env (fun ds => P.nx (env.set i (.d (.list ds)))) (fun c => P.ex c env))
    (hy : X.N[i]? = some y := by rfl) (hyl : X.env.scope.names.lookup y = some .local := by rfl) (hl : Nat.blt i env.length = true := by rfl)
    (hsw : swapsWith (.ListComp elt [⟨tg, iter, ifs, 0⟩] scope pos) (some (.Name y py)) p.line X.env = pure true := by exact sw_true rfl rfl rfl (by decide +kernel)) (hs : ∀ x, foldedSetIterable iter X.env x = pure x := by intro _; rfl) :
    W1 X g (.Assign [.Name y py] (.ListComp elt [⟨tg, iter, ifs, 0⟩] scope pos) p) env P := fun W tk hx2 σ F H s0 D hD => by
  refine semP_of (ps_setLc hc hN hy hyl hsw hi ok hpg (ptsB h1) peB hs) ?_
  refine h W tk σ F H s0 (hx2.hx env σ) _ fun ds v F' H' hp s' e' ⟨q, vs, hv, h1, h2, h3, h4, h5⟩ => ?_
  subst hv
  have e2 := Ex.new (o := .lst vs) h3
  exact hD.nx _ _ _ H' hp ((s'.freeze h1 h3 h4 h5).setD (ltB hl) (.lst (SqL.of upd_same) (dpa_mono e2 _ _ h2))) (e'.trans e2)
/-- a, b, .. = e -/
theorem w1_unpack {tg : Expr} {t : TG} {A : PyData → Option (List (Nat × PyData))} (hpg : PG X tg t) (htd : TGd X.K t A)
    (h : WE X g e env (fun d z => z = true ∧ ∃ l, A d = some l ∧ (l.all fun q => Nat.blt q.1 env.length) = true ∧ P.nx (putsE env l)) (fun c => P.ex c env))
    (hs : swapsWithSole [tg] e pos.line X.env = pure false := by rfl) (hw : swappedStores [tg] e X.env = pure none := by rfl) (h1 : (assignEach [tg] X.env).map (·.2) = [assign tg X.env] := by rfl) : W1 X g (.Assign [tg] e pos) env P := fun W tk hx2 σ F H s0 D hD => by
  refine semP_of (ps_asg (peS e) hpg hs hw h1) ?_
  refine h W tk σ F H s0 (hx2.hx env σ) _ fun d z v F' H' ⟨hz, l, hA, hl, hp⟩ s' e' r' => ?_
  subst hz
  refine htd d l σ F' H' v _ hA s'.ex r' fun r sr => ?_
  exact hD.nx _ _ F' H' hp (s'.sets sr fun q hq => ltB (List.all_eq_true.mp hl q hq)) e'
/-- e -/
theorem w1_expr (h : WE X g e env (fun _ _ => P.nx env) (fun c => P.ex c env)) (hs : swapsWith e none pos.line X.env = pure false := by rfl) : W1 X g (.Expr e pos) env P := fun W tk hx2 σ F H s0 D hD =>
  semP_of (ps_expr (peS e) hs) (h W tk σ F H s0 (hx2.hx env σ) _ fun d z v F' H' hp s' e' r' => hD.nx _ _ F' H' hp s' e')
/-- return e -/
theorem w1_ret (h : WE X g e env (fun d z => z = true ∧ P.rt (.rd d) env) (fun c => P.ex c env)) : W1 X g (.Return (some e) pos) env P := fun W tk hx2 σ F H s0 D hD =>
  semP_of (ps_ret (peS e)) (h W tk σ F H s0 (hx2.hx env σ) _ fun d z v F' H' ⟨hz, hp⟩ s' e' r' => by
    subst hz
    exact hD.rt _ v env σ F' H' hp s' r')
theorem w1_retN (h : WN X g e env (fun ds => P.rt (.nl ds) env) (fun c => P.ex c env)) : W1 X g (.Return (some e) pos) env P := fun W tk hx2 σ F H s0 D hD =>
  semP_of (ps_ret (peS e)) (h W tk σ F H s0 (hx2.hx env σ) _ fun ds v F' H' hp s' e' r' => hD.rt _ v env σ F' H' hp s' r')
/-- return x, x a list made here -/
theorem w1_retO (i : Nat) {x : Str} {q : Pos} {al : Addr} {ds : List PyData} (he : env[i]? = some (.ol al ds)) (ha : al ∉ g.M) (h : P.rt (.nl ds) (env.set i .un)) (hN : X.N[i]? = some x := by rfl)
    (hv : Vis X.env.scope x := by first | exact Or.inl rfl | exact Or.inr (Or.inl rfl) | exact Or.inr (Or.inr rfl)) (hd : (x == ("__debug__" : Str)) = false := by decide)
    (hcd : (x == ("__classdict__" : Str)) = false := by decide) : W1 X g (.Return (some (.Name x q)) pos) env P := fun W tk hx2 σ F H s0 D hD => by
  refine semP_of (ps_ret (pe_var hN hv hd hcd)) ?_
  obtain ⟨h1, vs, h2, h3⟩ := s0.sl i _ he
  have own : Own env al := ⟨i, _, he, by simp [Sl.fp]⟩
  refine ⟨_, getD_some h1, hD.rt _ _ _ σ F H h (s0.weak he (fun _ h => by cases h) fun _ => trivial) ⟨al, vs, rfl, h2, h3, s0.fr al own, fun z => ?_, ?_⟩⟩
  · obtain ⟨j, t, ej, ht⟩ := z
    rcases set_get ej with ⟨_, rfl⟩ | ⟨ne, ej⟩
    · cases ht
    · exact ne (s0.nd i j _ t al he ej (by simp [Sl.fp]) ht)
  · rcases s0.g2 al own with z | z
    · exact z
    · exact absurd z ha
theorem w1_if (h : WT X g c env (fun k => (k = true → WS X g body env P) ∧ (k = false → WS X g orelse env P)) (fun c => P.ex c env)) : W1 X g (.If c body orelse pos) env P := fun W tk hx2 σ F H s0 D hD => by
  refine semP_of (ps_if (ptS c) (pssS body) (pssS orelse)) ?_
  refine h W tk σ F H s0 (hx2.hx env σ) _ fun k F' H' ⟨h1, h2⟩ s' e' => ?_
  cases k with
  | true => rw [if_pos rfl]; exact h1 rfl W tk hx2 σ F' H' s' D (hD.mono e')
  | false => rw [if_neg Bool.false_ne_true]; exact h2 rfl W tk hx2 σ F' H' s' D (hD.mono e')
/-- what a raise of an own class leans on -/
structure ExK (K : Frag) (mg : Str → Option Value) (x : Str) : Prop where
  gC : mg x = some (.ref (He.ga K x))
  ex : PySem.W.excIn K (He.ga K x) He.veBase "ValueError.__new__" = true
  kp : PySem.W.keepIn K (.ref (He.ga K x)) = true
  sb : PySem.W.subIn K (.ref (He.ga K x)) (.type "BaseException") = some true
  ty : PySem.W.typeIn K (.ref (He.ga K x)) = some (.type "type")
/-- raise X('..') -/
theorem w1_raise {x m : Str} {j : Nat} {p p2 q : Pos} (hc : X.calm = true) (k : ExK X.K X.mg x) (h : P.ex (.own x) env) (hg : Gl X x := by rfl) (hdb : (x == ("__debug__" : Str)) = false := by decide) : W1 X g (.Raise (some (.Call (.Name x p) [.Constant (.str m) j p2] [] q)) none pos) env P := fun W tk hx2 σ F H s0 D hD =>
  semP_of (ps_raise hc tk (pmk_own PySem.F.excBase_ValueError k.ex k.gC k.kp (raises_own k.sb k.ty) hg hdb)) (hx2 (.own x) env σ F H h s0)
/-- x.append(e) -/
theorem w1_append (i : Nat) {x : Str} {q apos cpos : Pos} {al : Addr} {ds : List PyData} (he : env[i]? = some (.ol al ds)) (h : WE X g e env (fun d z => z = true ∧ ds.length < sizeLine ∧ P.nx (env.set i (.ol al (ds ++ [d])))) (fun c => P.ex c env)) (hN : X.N[i]? = some x := by rfl)
    (hv : Vis X.env.scope x := by first | exact Or.inl rfl | exact Or.inr (Or.inl rfl) | exact Or.inr (Or.inr rfl)) (hd : (x == ("__debug__" : Str)) = false := by decide)
    (hcd : (x == ("__classdict__" : Str)) = false := by decide)
    (hbase : attributeBase (.Name x q) "append" X.env (eval (.Name x q) X.env) = eval (.Name x q) X.env := by rfl)
    (hfew : ((backTo cpos (starEach [e] X.env)).all (fun x => !x.1) && (backToKw cpos (keywordEach [] X.env)).all (fun x => x.1.isSome)
      && decide ([e].length + ([] : List Keyword).length + (if ([] : List Keyword).isEmpty then 0 else 1) < 30)) = true := by rfl)
    (hline : (apos.endLine == cpos.line) = true := by rfl) (hs1 : starEach [e] X.env = (false, eval e X.env) :: starEach [] X.env := by rfl) (hplain : (backTo cpos (starEach ([] : List Expr) X.env)).any (·.1) = false := by rfl)
    (hs : swapsWith (.Call (.Attribute (.Name x q) "append" apos) [e] [] cpos) none pos.line X.env = pure false := by rfl) :
    W1 X g (.Expr (.Call (.Attribute (.Name x q) "append" apos) [e] [] cpos) pos) env P := fun W tk hx2 σ F H s0 D hD => by
  refine semP_of (ps_expr (pe_bm PySem.F.plainAttrs_list PySem.F.slot_list_append PySem.F.type_list_append mt_append (pe_var hN hv hd hcd) (pa_cons (peS e) pa_nil hs1) hbase hfew hline hs1 hplain) hs) ?_
  obtain ⟨h1, vs, h2, h3⟩ := s0.sl i _ he
  refine ⟨_, getD_some h1, .inl ⟨rfl, vs, SqL.of h2⟩, ?_⟩
  refine h W tk σ F H s0 (hx2.hx env σ) _ fun d z v F' H' ⟨hz, hl, hp⟩ s' e' r' => ?_
  subst hz
  obtain ⟨h1', vs', h2', h3'⟩ := s'.sl i _ he
  refine ⟨al, vs', v, rfl, rfl, h2', by rw [dpa_len h3']; exact hl, ?_⟩
  exact hD.nx _ _ F' _ hp (s'.write he rfl rfl ⟨h1', vs' ++ [v], upd_same, dpa_app h3' (dpa_one r')⟩) e'
/-- x[k] = e -/
theorem w1_setix (i : Nat) {x : Str} {ix : Expr} {q tpos : Pos} {al : Addr} {ds : List PyData} (he : env[i]? = some (.ol al ds)) (h : WE X g e env (fun d z => z = true ∧ WE X g ix env (fun k _ => ∃ n j, k = .int n ∧ ixN ds.length n = some j ∧ P.nx (env.set i (.ol al (ds.set j d)))) (fun c => P.ex c env)) (fun c => P.ex c env)) (hN : X.N[i]? = some x := by rfl)
    (hv : Vis X.env.scope x := by first | exact Or.inl rfl | exact Or.inr (Or.inl rfl) | exact Or.inr (Or.inr rfl)) (hd : (x == ("__debug__" : Str)) = false := by decide)
    (hcd : (x == ("__classdict__" : Str)) = false := by decide)
    (ha : ∀ v, assign (.Subscript (.Name x q) ix tpos) X.env v = (do
      let ov ← holding [v] (eval (.Name x q) X.env)
      let iv ← holding [v, ov] (eval ix X.env)
      standAt tpos
      holding [v, ov, iv] (setItem ov iv v)
      release [v, ov, iv] []) := by intro _; rfl)
    (hs : swapsWithSole [.Subscript (.Name x q) ix tpos] e pos.line X.env = pure false := by rfl) (hw : swappedStores [.Subscript (.Name x q) ix tpos] e X.env = pure none := by rfl)
    (h1 : (assignEach [.Subscript (.Name x q) ix tpos] X.env).map (·.2) = [assign (.Subscript (.Name x q) ix tpos) X.env] := by rfl) : W1 X g (.Assign [.Subscript (.Name x q) ix tpos] e pos) env P := fun W tk hx2 σ F H s0 D hD => by
  refine semP_of (ps_asg (peS e) (pg_sub (pe_var hN hv hd hcd) (peS ix) set_list ha) hs hw h1) ?_
  refine h W tk σ F H s0 (hx2.hx env σ) _ fun d z v F1 H1 ⟨hz, hp⟩ s1 e1 r1 => ?_
  subst hz
  obtain ⟨h1, vs, h2, h3⟩ := s1.sl i _ he
  refine ⟨_, getD_some h1, ?_⟩
  refine hp W tk σ F1 H1 s1 (hx2.hx env σ) _ fun k z2 w F2 H2 ⟨n, j, hk, hj, hp2⟩ s2 e2 r2 => ?_
  subst hk
  obtain ⟨h1', vs', h2', h3'⟩ := s2.sl i _ he
  refine ⟨al, vs', n, j, rfl, rd_int r2, h2', by rw [dpa_len h3']; exact hj, ?_⟩
  exact hD.nx _ _ F2 _ hp2 (s2.write he rfl rfl ⟨h1', vs'.set j v, upd_same, dpa_set j h3' (dp_mono e2 _ _ r1)⟩) (e1.trans e2)
/-- x[k] read, for an augmented store -/
def rGetL : V → V → Hp → VK → Prop := fun o i H Q => ∃ p xs k v, o = .ref p ∧ i = .int k ∧ H p = some (.lst xs) ∧ atI xs k = some v ∧ Q v H
theorem get_list : PGet X rGetL := fun pins s σ H o i ov iv Q I ro ri ⟨p, xs, k, v, ho, hi, hH, ha, q⟩ => by
  subst ho hi
  cases ro
  obtain ⟨t, rfl⟩ := ri
  obtain ⟨its, r, pl, hz⟩ := I.list (SqL.of hH)
  obtain ⟨j, h1, h2, h3, h4, h5⟩ := atI_get ha
  obtain ⟨w, ew, rw'⟩ := r.get h2
  have hl := r.length
  have hn := line63
  have fin : EP X pins σ Q w s := ⟨v, H, I, rw', q⟩
  by_cases h0 : 0 ≤ k
  · have hj : k.toNat = j := by
      rw [seqIndex_of h0 h5] at h1
      exact Option.some.inj h1
    exact wpAny_getItem_list pl.isList h0 (by omega) (by rw [hj]; simpa using ew) fin
  · have hj : (k + (its.toArray.size : Int)).toNat = j := by
      rw [seqIndex_neg (by omega) h4] at h1
      rw [List.size_toArray, ← hl]
      exact Option.some.inj h1
    exact wpAny_getItem_list_neg pl.isList (by omega) (by rw [List.size_toArray]; omega) (by omega) (by rw [hj]; simpa using ew) fin
/-- x[k] += e, ints -/
theorem w1_augix (i : Nat) {x : Str} {ix : Expr} {q tpos : Pos} {al : Addr} {ds : List PyData} (he : env[i]? = some (.ol al ds))
    (h : WE X g ix env (fun k _ => ∃ n j u, k = .int n ∧ ixN ds.length n = some j ∧ ds[j]? = some (.int u) ∧ WE X g e env (fun d _ => ∃ m, d = .int m ∧ P.nx (env.set i (.ol al (ds.set j (.int (u + m)))))) (fun c => P.ex c env)) (fun c => P.ex c env)) (hN : X.N[i]? = some x := by rfl)
    (hv : Vis X.env.scope x := by first | exact Or.inl rfl | exact Or.inr (Or.inl rfl) | exact Or.inr (Or.inr rfl)) (hd : (x == ("__debug__" : Str)) = false := by decide)
    (hcd : (x == ("__classdict__" : Str)) = false := by decide)
    (ha : ∀ ov iv new, augStore ix ov iv new = (do holding [new, ov, iv] (setItem ov iv new); release [new, ov, iv] []; pure .next) := by intros; rfl) : W1 X g (.AugAssign (.Subscript (.Name x q) ix tpos) .Add e pos) env P := fun W tk hx2 σ F H s0 D hD => by
  refine semP_of (ps_augS (pe_var hN hv hd hcd) (peS ix) get_list (peS e) ip_add set_list ha) ?_
  obtain ⟨h1, vs, h2, h3⟩ := s0.sl i _ he
  refine ⟨_, getD_some h1, ?_⟩
  refine h W tk σ F H s0 (hx2.hx env σ) _ fun k z1 w F1 H1 ⟨n, j, u, hk, hj, hu, hp⟩ s1 e1 r1 => ?_
  subst hk
  obtain ⟨h1', vs', h2', h3'⟩ := s1.sl i _ he
  obtain ⟨v0, hv0, hdv⟩ := dpa_get h3' hu
  have hat : atI vs' n = some v0 := by
    unfold atI
    rw [dpa_len h3', hj]
    exact hv0
  refine ⟨al, vs', n, v0, rfl, rd_int r1, h2', hat, ?_⟩
  refine hp W tk σ F1 H1 s1 (hx2.hx env σ) _ fun d z2 w2 F2 H2 ⟨m, hm, hp2⟩ s2 e2 r2 => ?_
  subst hm
  obtain ⟨h1'', vs'', h2'', h3''⟩ := s2.sl i _ he
  refine ⟨u, m, dp_int hdv, rd_int r2, al, vs'', n, j, rfl, rd_int r1, h2'', by rw [dpa_len h3'']; exact hj, ?_⟩
  exact hD.nx _ _ F2 _ hp2 (s2.write he rfl rfl ⟨h1'', vs''.set j (.int (u + m)), upd_same, dpa_set j h3'' (.int _)⟩) (e1.trans e2)
/-- x += e, x -= e, ints -/
theorem w1_add (i : Nat) {x : Str} {pos' : Pos} {u : Int} (hN : X.N.Nodup) (he : env[i]? = some (.d (.int u))) (h : WE X g e env (fun d _ => ∃ m, d = .int m ∧ P.nx (env.set i (.d (.int (u + m))))) (fun c => P.ex c env)) (hi : X.N[i]? = some x := by rfl) (hx : Loc X.env.scope x := by first | exact Or.inl rfl | exact Or.inr rfl)
    (hf : X.fn x = true ∨ X.env.scope.names.lookup x = some .local := by first | exact .inl rfl | exact .inr rfl) : W1 X g (.AugAssign (.Name x pos') .Add e pos) env P := fun W tk hx2 σ F H s0 D hD => by
  refine semP_of (ps_aug hN hi hx (peS e) ip_add hf) ?_
  obtain ⟨v, h1, h2⟩ := s0.sl i _ he
  refine ⟨v, getD_some h1, ?_⟩
  refine h W tk σ F H s0 (hx2.hx env σ) _ fun d z w F1 H1 ⟨m, hm, hp⟩ s1 e1 r1 => ?_
  subst hm
  exact ⟨u, m, dp_int h2, rd_int r1, hD.nx _ _ F1 H1 hp (s1.setD (List.getElem?_eq_some_iff.mp he).1 (.int _)) e1⟩
theorem w1_sub (i : Nat) {x : Str} {pos' : Pos} {u : Int} (hN : X.N.Nodup) (he : env[i]? = some (.d (.int u))) (h : WE X g e env (fun d _ => ∃ m, d = .int m ∧ P.nx (env.set i (.d (.int (u - m))))) (fun c => P.ex c env)) (hi : X.N[i]? = some x := by rfl) (hx : Loc X.env.scope x := by first | exact Or.inl rfl | exact Or.inr rfl)
    (hf : X.fn x = true ∨ X.env.scope.names.lookup x = some .local := by first | exact .inl rfl | exact .inr rfl) : W1 X g (.AugAssign (.Name x pos') .Sub e pos) env P := fun W tk hx2 σ F H s0 D hD => by
  refine semP_of (ps_aug hN hi hx (peS e) ip_sub hf) ?_
  obtain ⟨v, h1, h2⟩ := s0.sl i _ he
  refine ⟨v, getD_some h1, ?_⟩
  refine h W tk σ F H s0 (hx2.hx env σ) _ fun d z w F1 H1 ⟨m, hm, hp⟩ s1 e1 r1 => ?_
  subst hm
  exact ⟨u, m, dp_int h2, rd_int r1, hD.nx _ _ F1 H1 hp (s1.setD (List.getElem?_eq_some_iff.mp he).1 (.int _)) e1⟩
/-- the state between turns -/
def FJ (K : Frag) (g : G) (F1 : Hp) (Pv : Nat → List Sl → Prop) (i : Nat) (σ : SS) (H : Hp) : Prop := ∃ F env', St K g F H σ env' ∧ Ex F1 F ∧ Pv i env'
section
variable {tg iter : Expr} {t : TG} {A : PyData → Option (List (Nat × PyData))}
/-- one turn -/
def FT (X : Cx) (g : G) (body : List Stmt) (A : PyData → Option (List (Nat × PyData))) (P : Po) (Pv : Nat → List Sl → Prop) (i : Nat) (x : PyData) : Prop :=
  ∀ env', Pv i env' → ∃ l, A x = some l ∧ (l.all fun q => Nat.blt q.1 env'.length) = true ∧ WS X g body (putsE env' l) (P.turn (Pv (i + 1)))
theorem for_turn {F1 : Hp} {Pv : Nat → List Sl → Prop} {i : Nat} {x : PyData} {v : V} (tk : Takes X W) (hx2 : XOk X g P W) (hD : DOk X g F1 P D) (htd : TGd X.K t A) (hv : Dq X.K F1 v x) (hJ : FJ X.K g F1 Pv i σ H) (h : FT X g body A P Pv i x) :
    t v σ H fun σ2 H2 => semS X body { D with nx := FJ X.K g F1 Pv (i + 1), ct := FJ X.K g F1 Pv (i + 1), bk := D.nx } σ2 H2 := by
  obtain ⟨F, env', s1, e1, hp⟩ := hJ
  obtain ⟨l, hA, hl, hw⟩ := h env' hp
  refine htd x l σ F H v _ hA s1.ex (dp_mono e1 _ _ hv) fun r sr => ?_
  have s2 := s1.sets sr fun q hq => ltB (List.all_eq_true.mp hl q hq)
  exact hw W tk hx2 _ F H s2 _ ⟨fun e2 σ' F' H' q s' ex => ⟨F', e2, s', e1.trans ex, q⟩, hD.rt, fun e2 σ' F' H' q s' ex => hD.nx e2 σ' F' H' q s' (e1.trans ex), fun e2 σ' F' H' q s' ex => ⟨F', e2, s', e1.trans ex, q⟩⟩
theorem w1_forL (hp : PassesOwn (model X.prog X.w) X.A X.env X.xe) (hc : X.calm = true) (hpg : PG X tg t) (htd : TGd X.K t A)
    (hi : WE X g iter env (fun d z => z = true ∧ ∃ (xs : List PyData) (Pv : Nat → List Sl → Prop), d = .list xs ∧ Pv 0 env ∧ (∀ i x, xs[i]? = some x → FT X g body A P Pv i x) ∧ ∀ e, Pv xs.length e → P.nx e) (fun c => P.ex c env))
    (hs : ∀ x, foldedSetIterable iter X.env x = pure x := by intro _; rfl) : W1 X g (.For tg iter body [] pos) env P := fun W tk hx2 σ F H s0 D hD => by
  refine semP_of (ps_for hp hc (pi_list (peS iter)) hpg (pssS body) hs) ?_
  refine hi W tk σ F H s0 (hx2.hx env σ) _ fun d z v F1 H1 ⟨hz, xs, Pv, hd, p0, pt, pe⟩ s1 e1 rd => ?_
  subst hz hd
  obtain ⟨a, vs, rfl, hsq, hda⟩ := dp_lst rd
  refine ⟨a, rfl, ⟨vs, ex_l s1.ex hsq⟩, ?_⟩
  refine for_list (xs := vs) (FJ X.K g F1 Pv) ⟨F1, env, s1, Ex.refl F1, p0⟩ (fun i σ' H' _ ⟨F2, e2, s2, ex2, _⟩ => ex_l s2.ex (ex_l ex2 hsq)) (fun i x σ' H' hx hJ => ?_) (fun σ' H' ⟨F2, e2, s2, ex2, hp2⟩ => ?_)
  · obtain ⟨d, hd1, hd2⟩ := dpa_of hda hx
    exact for_turn tk hx2 (hD.mono e1) htd hd2 hJ (pt i d hd1)
  · rw [dpa_len hda] at hp2
    exact hD.nx e2 σ' F2 H' (pe e2 hp2) s2 (e1.trans ex2)
end
/-- while: a word with a number that falls -/
theorem w1_while (hp : PassesOwn (model X.prog X.w) X.A X.env X.xe) (Pv : Nat → List Sl → Prop) (m0 : Nat) (h0 : Pv m0 env)
    (h : ∀ m env', Pv m env' → WT X g c env' (fun k => (k = true → WS X g body env' (P.turn fun e => ∃ m', m' < m ∧ Pv m' e)) ∧ (k = false → P.nx env')) (fun c => P.ex c env')) : W1 X g (.While c body [] pos) env P := fun W tk hx2 σ F H s0 D hD => by
  refine semP_of (ps_while hp (ptS c) (pssS body)) ?_
  refine ⟨fun m σ' H' => FJ X.K g F (fun _ e => Pv m e) 0 σ' H', ⟨m0, F, env, s0, Ex.refl F, h0⟩, fun m σ' H' ⟨F1, e1, s1, ex1, hp1⟩ => ?_⟩
  refine h m e1 hp1 W tk σ' F1 H' s1 (hx2.hx e1 σ') _ fun k F2 H2 ⟨ht, hf⟩ s2 ex2 => ?_
  cases k with
  | true =>
    rw [if_pos rfl]
    refine ⟨fun σ3 H3 => ∃ m', m' < m ∧ FJ X.K g F (fun _ e => Pv m' e) 0 σ3 H3, fun σ3 H3 ⟨m', hm, q⟩ => ⟨m', hm, q⟩, ?_⟩
    exact ht rfl W tk hx2 σ' F2 H2 s2 _ ⟨fun e3 σ3 F3 H3 ⟨m', hm, q⟩ s3 ex3 => ⟨m', hm, F3, e3, s3, (ex1.trans ex2).trans ex3, q⟩, hD.rt, fun e3 σ3 F3 H3 q s3 ex3 => hD.nx e3 σ3 F3 H3 q s3 ((ex1.trans ex2).trans ex3), fun e3 σ3 F3 H3 ⟨m', hm, q⟩ s3 ex3 => ⟨m', hm, F3, e3, s3, (ex1.trans ex2).trans ex3, q⟩⟩
  | false =>
    rw [if_neg Bool.false_ne_true]
    exact hD.nx e1 σ' F2 H2 (hf rfl) s2 (ex1.trans ex2)
end
end TL
namespace TL
open PySem PySem.Spec PyProof.Rows L2
def BackS : Sl → Sl → Sl → Prop
  | .un, _, s' => s' = .un
  | .d x, _, s' => s' = .d x
  | .v x, _, s' => s' = .v x
  | .ol a _, .ol b ds', s' => b = a ∧ s' = .ol a ds'
  | .bg a, .bg b, s' => b = a ∧ s' = .bg a
  | .bg a, .ol b ds, s' => b = a ∧ BagD ds ∧ s' = .bg a
  | .dt a _, .dt b kvs, s' => b = a ∧ s' = .dt a kvs
  | .dk a _, .dk b kvs, s' => b = a ∧ s' = .dk a kvs
  | .ow t, .ow u, s' => u.id = t.id ∧ s' = .ow u
  | _, _, _ => False
def Back : List Sl → List Sl → List Sl → Prop
  | [], _, r => r = []
  | s :: r, e :: env, s' :: r' => BackS s e s' ∧ Back r env r'
  | _, _, _ => False
theorem backS_sub {s e s' : Sl} (h : BackS s e s') : ∀ a ∈ s'.fp, a ∈ e.fp := by
  cases s with
  | un => rw [show s' = _ from h]; intro a z; cases z
  | d x => rw [show s' = _ from h]; intro a z; cases z
  | v x => rw [show s' = _ from h]; intro a z; cases z
  | ol a ds => cases e <;> first | exact h.elim | (obtain ⟨rfl, rfl⟩ := h; exact fun _ z => z)
  | bg a => cases e <;> first | exact h.elim | (obtain ⟨rfl, rfl⟩ := h; exact fun _ z => z) | (obtain ⟨rfl, _, rfl⟩ := h; exact fun _ z => z)
  | dt a ds => cases e <;> first | exact h.elim | (obtain ⟨rfl, rfl⟩ := h; exact fun _ z => z)
  | dk a ds => cases e <;> first | exact h.elim | (obtain ⟨rfl, rfl⟩ := h; exact fun _ z => z)
  | oo a ds => cases e <;> exact h.elim
  | fv l => cases e <;> exact h.elim
  | fl l => cases e <;> exact h.elim
  | ow t => cases e <;> first | exact h.elim | (obtain ⟨_, rfl⟩ := h; exact fun _ z => z)
theorem backS_val {K : Frag} {F F' H H' : Hp} {o o' : Option V} {s e s' : Sl} (h : BackS s e s') (hne : e.fp ≠ []) (hs : s'.fp ≠ []) (h0 : SlOk K F H o s) (h1 : SlOk K F' H' o' e) : o = o' := by
  cases s with
  | un => rw [show s' = _ from h] at hs; exact absurd rfl hs
  | d x => rw [show s' = _ from h] at hs; exact absurd rfl hs
  | v x => rw [show s' = _ from h] at hs; exact absurd rfl hs
  | ol a ds => cases e <;> first | exact h.elim | exact h0.1.trans (by rw [h1.1, h.1])
  | bg a => cases e <;> first | exact h.elim | exact h0.1.trans (by rw [h1.1, h.1])
  | dt a ds => cases e <;> first | exact h.elim | exact h0.1.trans (by rw [h1.1, h.1])
  | dk a ds => cases e <;> first | exact h.elim | exact h0.1.trans (by rw [h1.1, h.1])
  | oo a ds => cases e <;> exact h.elim
  | fv l => cases e <;> exact h.elim
  | fl l => cases e <;> exact h.elim
  | ow t => cases e <;> first
      | exact h.elim
      | (obtain ⟨v, q1, q2⟩ := h0; obtain ⟨w, q3, q4⟩ := h1; rw [q1, q3, t.isr q2, OwT.isr _ q4, h.1])
theorem back_len : ∀ {args env args' : List Sl}, Back args env args' → args'.length = args.length
  | [], _, _, h => by rw [show _ = [] from h]
  | s :: r, e :: env, s' :: r', h => congrArg Nat.succ (back_len h.2)
  | _ :: _, [], _, h => h.elim
  | _ :: _, _ :: _, [], h => h.elim
theorem back_get : ∀ {args env args' : List Sl} {i : Nat} {s' : Sl}, Back args env args' → args'[i]? = some s' → ∃ s e, args[i]? = some s ∧ env[i]? = some e ∧ BackS s e s'
  | [], _, _, i, s', h, e => by rw [show _ = [] from h] at e; simp at e
  | s :: r, e :: env, t :: r', 0, s', h, q => by
    have e' := Option.some.inj q
    subst e'
    exact ⟨s, e, rfl, rfl, h.1⟩
  | s :: r, e :: env, t :: r', i + 1, s', h, q => back_get (i := i) h.2 q
  | _ :: _, [], _, _, _, h, _ => h.elim
  | _ :: _, _ :: _, [], _, _, h, _ => h.elim
theorem slok_back {K : Frag} {F F' H H' : Hp} {o o' : Option V} {s e s' : Sl} (h : BackS s e s') (e0 : Ex F F') (h0 : SlOk K F H o s) (h1 : SlOk K F' H' o' e) : SlOk K F' H' o s' := by
  cases s with
  | un => rw [show s' = .un from h]; trivial
  | d x => rw [show s' = .d x from h]; obtain ⟨v, q1, q2⟩ := h0; exact ⟨v, q1, dp_mono e0 _ _ q2⟩
  | v x => rw [show s' = .v x from h]; exact h0
  | ol a ds =>
    cases e <;> first
      | exact h.elim
      | (obtain ⟨rfl, rfl⟩ := h; exact ⟨h0.1, h1.2⟩)
  | bg a =>
    cases e <;> first
      | exact h.elim
      | (obtain ⟨rfl, rfl⟩ := h; exact ⟨h0.1, h1.2⟩)
      | (obtain ⟨rfl, hb, rfl⟩ := h; obtain ⟨_, vs, q1, q2⟩ := h1; exact ⟨h0.1, _, vs, hb, q1, q2⟩)
  | dt a ds =>
    cases e <;> first
      | exact h.elim
      | (obtain ⟨rfl, rfl⟩ := h; exact ⟨h0.1, h1.2⟩)
  | dk a ds =>
    cases e <;> first
      | exact h.elim
      | (obtain ⟨rfl, rfl⟩ := h; exact ⟨h0.1, h1.2⟩)
  | oo a ds => cases e <;> exact h.elim
  | fv l => cases e <;> exact h.elim
  | fl l => cases e <;> exact h.elim
  | ow t =>
    cases e <;> first
      | exact h.elim
      | (obtain ⟨hi, rfl⟩ := h
         obtain ⟨v, q1, q2⟩ := h0
         obtain ⟨w, q3, q4⟩ := h1
         have e1 := t.isr q2
         have e2 := OwT.isr _ q4
         rw [hi, ← e1] at e2
         subst e2
         exact ⟨w, q1, q4⟩)
def prIx (args args' : List Sl) : PR → Prop
  | .ar i => i < args.length ∧ ∀ s', args'[i]? = some s' → s'.fp ≠ []
  | _ => True
/-- what a body is to reach -/
def endOf (args : List Sl) (Φ : PR → List Sl → Prop) (Ψ : Exc → List Sl → Prop) : Po where
  nx := fun env' => ∃ args', Φ (.rd .none) args' ∧ Back args env' args'
  rt := fun r env' => ∃ args', Φ r args' ∧ prIx args args' r ∧ Back args env' args'
  ex := fun c env' => ∃ args', Ψ c args' ∧ Back args env' args'
theorem pad_get {args : List Sl} {n i : Nat} {s : Sl} (h : (args ++ List.replicate n .un)[i]? = some s) : args[i]? = some s ∨ s = .un := by
  by_cases hi : i < args.length
  · rw [List.getElem?_append_left hi] at h; exact .inl h
  · rw [List.getElem?_append_right (by omega)] at h
    rw [List.getElem?_replicate] at h
    split at h
    · exact .inr (Option.some.inj h).symm
    · cases h
theorem Sk.pad {K : Frag} {F H : Hp} {vs : List V} {args : List Sl} {N : List Str} (sk : Sk K F H (vs.map some) args) (hl : vs.length ≤ N.length) : Sk K F H (L2.start N vs) (args ++ List.replicate (N.length - vs.length) .un) := by
  have hlen : args.length = vs.length := by have := sk.len; rw [List.length_map] at this; exact this.symm
  have ow : ∀ a, Own (args ++ List.replicate (N.length - vs.length) .un) a → Own args a := fun a ⟨i, s, h1, h2⟩ => by
    rcases pad_get h1 with q | q
    · exact ⟨i, s, q, h2⟩
    · subst q; cases h2
  refine ⟨by unfold L2.start; simp only [List.length_append, List.length_map, List.length_replicate]; omega, fun i s h => ?_, fun i j s t a h1 h2 h3 h4 => ?_, fun a h => sk.fr a (ow a h), sk.ex, sk.tf, sk.tk⟩
  · rcases pad_get h with q | q
    · have hi : i < (vs.map some).length := by rw [List.length_map, ← hlen]; exact (List.getElem?_eq_some_iff.mp q).1
      have e : (L2.start N vs)[i]? = (vs.map some)[i]? := by unfold L2.start; rw [List.getElem?_append_left hi]
      rw [e]; exact sk.sl i s q
    · subst q; trivial
  · rcases pad_get h1 with q | q
    · rcases pad_get h2 with q2 | q2
      · exact sk.nd i j s t a q q2 h3 h4
      · subst q2; cases h4
    · subst q; cases h3
section
variable {P : Program} {w : World} {K : Frag} {mg : Str → Option Value} {base : Heap} {f : Addr} {fd : FuncData} {N ps : List Str} {k : Nat} {S : CT}
theorem fn_okL {m x : Str} {st : Stmt} {dvs : List V} {kws : List (Str × V)} (F : FunD K m x (defArgs st) (defBody st) (defScope st) dvs kws f fd) (sc : FnScope N ps (defScope st)) (hln : Nat.ble ps.length N.length = true)
    (body : ∀ (cdv : Value) (A : Around) (outer : List Env) (s : Shared) (H : Hp) (E : XK) (g : G) (args : List Sl) (Φ : PR → List Sl → Prop) (Ψ : Exc → List Sl → Prop),
      Room k (cxOf (L2.CX P w) P w K mg base N x (defScope st) f cdv A outer s H E).A →
      PassesOwn (model P w) (cxOf (L2.CX P w) P w K mg base N x (defScope st) f cdv A outer s H E).A (cxOf (L2.CX P w) P w K mg base N x (defScope st) f cdv A outer s H E).env (cxOf (L2.CX P w) P w K mg base N x (defScope st) f cdv A outer s H E).xe →
      g.M = fps args → args.length = ps.length → S args Φ Ψ →
      fd.code = cdv → WS (cxOf (L2.CX P w) P w K mg base N x (defScope st) f cdv A outer s H E) g (defBody st) (args ++ List.replicate (N.length - ps.length) .un) (endOf args Φ Ψ)) : FnOk P w K mg base (L2.CX P w) (k + 1) f fd ps (spOf K ps.length S) := by
  obtain ⟨oc, od, dV, kV, doc, pm, an, cdv, ct, osl, rfl, lk, hcd, _, _⟩ := F.ex
  refine fn_of lk hcd sc (fun vs H Q E h => h.1) fun A outer s H vs Q E hr h => ?_
  obtain ⟨hvl, F0, args, Φ, Ψ, hS, sk, hret, hexc⟩ := h
  have hal : args.length = ps.length := by have := sk.len; rw [List.length_map] at this; omega
  have hln' : ps.length ≤ N.length := Nat.le_of_ble_eq_true hln
  refine ⟨semS _ _, pssS _, ?_⟩
  have skp := sk.pad (N := N) (by omega)
  rw [hvl] at skp
  have fpe : ∀ a, a ∈ fps args ↔ Own args a := fun a => own_fps.symm
  have st0 : St K ⟨F0, H, fps args⟩ F0 H (L2.start N vs) (args ++ List.replicate (N.length - ps.length) .un) :=
    { skp with
      gt := ⟨fun a ps h => (by show H a ≠ none; rw [show H a = _ from h]; intro z; cases z), fun p hp z => (by obtain ⟨ps, h1, _⟩ := sk.tk.tb p hp; have z : H p.1 = none := z; rw [h1] at z; cases z)⟩
      g1 := fun _ _ h _ _ => h, g3 := Ex.refl F0, g4 := fun a h => .inl h
      g2 := fun a ⟨i, s, h1, h2⟩ => by
        rcases pad_get h1 with q | q
        · exact .inr ((fpe a).mpr ⟨i, s, q, h2⟩)
        · subst q; cases h2
      g5 := fun a h => sk.there ((fpe a).mp h)
      g6 := fun a h => sk.there ((fpe a).mp h) }
  -- what holds at every end
  have fin : ∀ {F' H' : Hp} {σ' : SS} {env' args' : List Sl}, St K ⟨F0, H, fps args⟩ F' H' σ' env' → Back args env' args' →
      Sk K F' H' (vs.map some) args' ∧ Step F0 H args F' H' ∧ (∀ a, Own args' a → Own args a ∨ H a = none) ∧ ∀ a, Own args' a → Own env' a := fun {F' H' σ' env' args'} s' hbk => by
    have sub : ∀ a, Own args' a → (Own args a ∨ H a = none) ∧ Own env' a := fun a ⟨i, t, h1, h2⟩ => by
      obtain ⟨s, e, q1, q2, q3⟩ := back_get hbk h1
      have oe : Own env' a := ⟨i, e, q2, backS_sub q3 a h2⟩
      refine ⟨?_, oe⟩
      rcases s'.g2 a oe with z | z
      · exact .inr z
      · exact .inl ((fpe a).mp z)
    refine ⟨⟨by rw [List.length_map, back_len hbk]; omega, fun i t h => ?_, fun i j s t a h1 h2 h3 h4 => ?_, fun a h => s'.fr a (sub a h).2, s'.ex, s'.tf, s'.tk⟩, ⟨s'.g3, fun a o h hn n => s'.g1 a o h (fun m => hn ((fpe a).mp m)) n, fun a h => s'.g4 a h, fun a h => ?_⟩, fun a h => (sub a h).1, fun a h => (sub a h).2⟩
    · obtain ⟨s, e, q1, q2, q3⟩ := back_get hbk h
      exact slok_back q3 s'.g3 (sk.sl i s q1) (s'.sl i e q2)
    · obtain ⟨s1, e1, _, q2, q3⟩ := back_get hbk h1
      obtain ⟨s2, e2, _, q5, q6⟩ := back_get hbk h2
      exact s'.nd i j e1 e2 a q2 q5 (backS_sub q3 a h3) (backS_sub q6 a h4)
    · intro z
      by_cases m : a ∈ fps args
      · exact s'.g5 a m z
      · cases q : H a with
        | none => exact h q
        | some u =>
          by_cases ht : ∃ ps, u = .tbl ps
          · obtain ⟨ps, rfl⟩ := ht; exact s'.gt.g7 a ps q z
          · rw [s'.g1 a u q m fun ps y => ht ⟨ps, y⟩] at z; cases z
  have hb0 := body cdv A outer s H E ⟨F0, H, fps args⟩ args Φ Ψ hr (passes_of rfl) rfl hal hS rfl
  refine hb0 (fun cls d _ H => E cls d H) (takes_of rfl rfl rfl rfl) (fun c env' σ' F' H' ⟨args', hp, hbk⟩ s' => ?_) (L2.start N vs) F0 H st0 _ ⟨fun env' σ' F' H' ⟨args', hp, hbk⟩ s' e' => ?_, fun r v env' σ' F' H' ⟨args', hp, hix, hbk⟩ s' ro => ?_, fun _ _ _ _ h => h.elim, fun _ _ _ _ h => h.elim⟩
  · obtain ⟨h1, h2, h3, h4⟩ := fin s' hbk
    have := hexc c args' F' H' hp h1 h2 h3
    cases c <;> exact this
  · obtain ⟨h1, h2, h3, h4⟩ := fin s' hbk
    exact hret (.rd .none) .non args' F' H' hp h1 h2 h3 .non
  · obtain ⟨h1, h2, h3, h4⟩ := fin s' hbk
    refine hret r v args' F' H' hp h1 h2 h3 ?_
    cases r with
    | rd d => exact ro
    | nl ds =>
      obtain ⟨p, xs, q1, q2, q3, q4, q5, q6⟩ := ro
      exact ⟨p, xs, q1, q2, q3, q4, q6, fun z => q5 (h4 p z)⟩
    | nt ds =>
      obtain ⟨p, xs, q1, q2, q3, q4, q5, q6⟩ := ro
      exact ⟨p, xs, q1, q2, q3, q4, q6, fun z => q5 (h4 p z)⟩
    | nk ds =>
      obtain ⟨p, xs, q1, q2, q3, q4, q5, q6⟩ := ro
      exact ⟨p, xs, q1, q2, q3, q4, q6, fun z => q5 (h4 p z)⟩
    | sl C =>
      obtain ⟨t, c1, c2, c3⟩ := ro
      exact ⟨t, c1, c2, fun p hp => by obtain ⟨y1, y2, y3⟩ := c3 p hp; exact ⟨y1, y3, fun z => y2 (h4 p z)⟩⟩
    | ar i =>
      obtain ⟨q1, e, q2, q3⟩ := ro
      obtain ⟨hi, hown⟩ : i < args.length ∧ ∀ s', args'[i]? = some s' → s'.fp ≠ [] := hix
      have hi' : i < args'.length := by rw [back_len hbk]; exact hi
      obtain ⟨s0, e0, q4, q5, q6⟩ := back_get hbk (List.getElem?_eq_getElem hi')
      rw [q2] at q5
      have q5' := Option.some.inj q5
      subst q5'
      have k2 := s'.sl i e q2
      rw [q1] at k2
      show vs[i]? = some v
      have hv : i < vs.length := by omega
      have k1 := sk.sl i s0 q4
      have ev : ((vs.map some)[i]?.getD none : Option V) = some vs[i] := vmap_get (List.getElem?_eq_getElem hv)
      rw [ev] at k1
      have z := backS_val q6 q3 (hown _ (List.getElem?_eq_getElem hi')) k1 k2
      rw [List.getElem?_eq_getElem hv]
      exact z
theorem fn_ok {m x : Str} {st : Stmt} {dvs : List V} {kws : List (Str × V)} (F : FunD K m x (defArgs st) (defBody st) (defScope st) dvs kws f fd) (sc : FnScope N ps (defScope st)) (hln : Nat.ble ps.length N.length = true)
    (body : ∀ (cdv : Value) (A : Around) (outer : List Env) (s : Shared) (H : Hp) (E : XK) (g : G) (args : List Sl) (Φ : PR → List Sl → Prop) (Ψ : Exc → List Sl → Prop),
      Room k (cxOf (L2.CX P w) P w K mg base N x (defScope st) f cdv A outer s H E).A →
      PassesOwn (model P w) (cxOf (L2.CX P w) P w K mg base N x (defScope st) f cdv A outer s H E).A (cxOf (L2.CX P w) P w K mg base N x (defScope st) f cdv A outer s H E).env (cxOf (L2.CX P w) P w K mg base N x (defScope st) f cdv A outer s H E).xe →
      g.M = fps args → args.length = ps.length → S args Φ Ψ →
      WS (cxOf (L2.CX P w) P w K mg base N x (defScope st) f cdv A outer s H E) g (defBody st) (args ++ List.replicate (N.length - ps.length) .un) (endOf args Φ Ψ)) : FnOk P w K mg base (L2.CX P w) (k + 1) f fd ps (spOf K ps.length S) :=
  fn_okL F sc hln fun cdv A outer s H E g args Φ Ψ h1 h2 h3 h4 h5 _ => body cdv A outer s H E g args Φ Ψ h1 h2 h3 h4 h5
theorem fn_has {x : Str} {st : Stmt} {dvs : List V} {kws : List (Str × V)} (F : FunD K x x (defArgs st) (defBody st) (defScope st) dvs kws f fd) (hm : mg x = some (.ref f)) (sc : FnScope N ps (defScope st)) (hb : Binds K fd ps []) (hln : Nat.ble ps.length N.length = true)
    (body : ∀ (cdv : Value) (A : Around) (outer : List Env) (s : Shared) (H : Hp) (E : XK) (g : G) (args : List Sl) (Φ : PR → List Sl → Prop) (Ψ : Exc → List Sl → Prop),
      Room k (cxOf (L2.CX P w) P w K mg base N x (defScope st) f cdv A outer s H E).A →
      PassesOwn (model P w) (cxOf (L2.CX P w) P w K mg base N x (defScope st) f cdv A outer s H E).A (cxOf (L2.CX P w) P w K mg base N x (defScope st) f cdv A outer s H E).env (cxOf (L2.CX P w) P w K mg base N x (defScope st) f cdv A outer s H E).xe →
      g.M = fps args → args.length = ps.length → S args Φ Ψ →
      WS (cxOf (L2.CX P w) P w K mg base N x (defScope st) f cdv A outer s H E) g (defBody st) (args ++ List.replicate (N.length - ps.length) .un) (endOf args Φ Ψ)) : Has P w K mg base (k + 1) x ps S := ⟨f, fd, hm, F.kp, hb, fn_ok F sc hln body⟩
end
def ExM (K : Frag) : Exc → Str → Option Bool
  | .own m, n => PySem.W.exmOne K (.ref (He.ga K m)) (.ref (He.ga K n))
  | .ownF m _, n => PySem.W.exmOne K (.ref (He.ga K m)) (.ref (He.ga K n))
/-- what the clauses do with an exception -/
def TryH (X : Cx) (g : G) (P : Po) : List (Str × List Stmt) → Exc → List Sl → Prop
  | [], c, env' => P.ex c env'
  | (n, suite) :: r, c, env' => ∃ b, ExM X.K c n = some b ∧ (b = true → ∀ (a : Addr) (q : Addr × Obj) (pn : List (Addr × Obj)), WS (X.suite a (q :: pn)) g suite env' (P.exn fun _ _ => False)) ∧ (b = false → TryH X g P r c env')
inductive HdR (X : Cx) : List ExceptHandler → List (Str × List Stmt) → Prop
  | nil : HdR X [] []
  | cons {x : Str} {b₀ : Stmt} {suite : List Stmt} {np pos' : Pos} {hds : List ExceptHandler} {l : List (Str × List Stmt)} (hc : Names X x (.ref (He.ga X.K x))) (r : HdR X hds l) :
      HdR X (.ExceptHandler (some (.Name x np)) none (b₀ :: suite) pos' :: hds) ((x, b₀ :: suite) :: l)
section
variable {X : Cx} {g : G} {env env' : List Sl} {P : Po} {pos p : Pos} {body : List Stmt} {F F' H H' : Hp} {σ σ' : SS} {D : Ends} {W : WX}
def tsOf (X : Cx) (suite : List Stmt) (a : Addr) (cls : Value) (d : Option Addr) : TS := fun D σ H => ∀ (oe : Obj) (pn : List (Addr × Obj)), semS (X.suite a ((a, oe) :: pn)) suite D σ H
def hdL (X : Cx) : List (Str × List Stmt) → List (Value × (Addr → Value → Option Addr → TS))
  | [] => []
  | (n, suite) :: r => (.ref (He.ga X.K n), tsOf X suite) :: hdL X r
theorem hdr_ok : ∀ {hds : List ExceptHandler} {l : List (Str × List Stmt)}, HdR X hds l → HdsOk X hds (hdL X l)
  | _, _, .nil => .nil
  | _, _, .cons hc r => .cons hc (fun a oe cls d pn _ _ => ⟨fun pins s σ H D I h => (h oe pn).run pins s I⟩) (hdr_ok r)
theorem tryh_run {F1 : Hp} (hx2 : XOk X g P W) (hD : DOk X g F1 P D) : ∀ {l : List (Str × List Stmt)} {c : Exc} {env' : List Sl} {σ' : SS} {F' H' : Hp}, TryH X g P l c env' → St X.K g F' H' σ' env' → Ex F1 F' → ExcW X.K (wMany X.K W D (hdL X l)) σ' H' c
  | [], c, env', σ', F', H', h, s', e' => by
    have := hx2 c env' σ' F' H' h s'
    cases c <;> exact this
  | (n, suite) :: r, c, env', σ', F', H', ⟨b, h1, h2, h3⟩, s', e' => by
    have fin : b = true → ∀ (a : Addr) (oe : Obj) (pn : List (Addr × Obj)), semS (X.suite a ((a, oe) :: pn)) suite D σ' H' := fun hb a oe pn => by
      refine h2 hb a (a, oe) pn (fun _ _ _ _ => False) (fun _ _ x => by obtain ⟨_, _, _, _, _, _, _, _, _, _, _, _, _, _, _, _, z⟩ := x; exact z.elim) (fun _ _ _ _ _ z => z.elim) σ' F' H' s' D ?_
      exact ⟨fun e2 σ2 F2 H2 q s2 ex2 => hD.nx e2 σ2 F2 H2 q s2 (e'.trans ex2), hD.rt, fun e2 σ2 F2 H2 q s2 ex2 => hD.bk e2 σ2 F2 H2 q s2 (e'.trans ex2), fun e2 σ2 F2 H2 q s2 ex2 => hD.ct e2 σ2 F2 H2 q s2 (e'.trans ex2)⟩
    cases c with
    | own m => exact ⟨b, h1, fun hb a ha oe pn => fin hb a oe pn, fun hb => tryh_run hx2 hD (h3 hb) s' e'⟩
    | ownF m fs => exact fun d xs hd hf => ⟨b, h1, fun hb a ha oe pn => fin hb a oe pn, fun hb => (show ExcW X.K (wMany X.K W D (hdL X r)) σ' H' (.ownF m fs) from tryh_run hx2 hD (h3 hb) s' e') d xs hd hf⟩
theorem St.at {K : Frag} (st : St K g F H σ env) : St K { g with F0 := F } F H σ env :=
  { st.toSk with gt := ⟨st.gt.g7, st.gt.g8⟩, g1 := st.g1, g2 := st.g2, g3 := Ex.refl F, g4 := fun a h => .inl h, g5 := st.g5, g6 := st.g6 }
theorem St.ofAt {K : Frag} (st : St K g F H σ env) (s' : St K { g with F0 := F } F' H' σ' env') : St K g F' H' σ' env' :=
  { s'.toSk with gt := ⟨s'.gt.g7, s'.gt.g8⟩, g1 := s'.g1, g2 := s'.g2, g3 := st.g3.trans s'.g3, g5 := s'.g5, g6 := s'.g6
                 g4 := fun a h => by
                   rcases s'.g4 a h with q | q
                   · exact st.g4 a q
                   · exact .inr q }
/-- try: body, several clauses -/
theorem w1_try {h₀ : ExceptHandler} {hds : List ExceptHandler} {l : List (Str × List Stmt)} (hr : HdR X (h₀ :: hds) l)
    (h : ∀ (pn : List (Addr × Obj)) (xe : Value → Shared → Prop) (F : Hp), PassesOwn (model X.prog X.w) X.A X.env xe → WS (X.tr pn xe) { g with F0 := F } body env (P.exn (TryH X g P l)))
    (hs : X.stack = X.env :: X.outer := by rfl) (hf : X.env.frame = some X.env.locals := by rfl) : W1 X g (.Try body (h₀ :: hds) [] [] pos) env P := fun W tk hx2 σ F H s0 D hD => by
  refine semP_of (ps_try_many (tb := fun W' => fun D' σ' H' => ∀ (pn : List (Addr × Obj)) (xe : Value → Shared → Prop), Takes (X.tr pn xe) W' → PassesOwn (model X.prog X.w) X.A X.env xe → semS (X.tr pn xe) body D' σ' H') hs hf tk
    (fun W' pn xe tk' po => ⟨fun pins s σ H D I h => (h pn xe tk' po).run pins s I⟩) (hdr_ok hr)) ?_
  intro pn xe tk' po
  refine h pn xe F po _ tk' (fun c env' σ' F' H' hc s' => ?_) σ F H s0.at D ⟨fun e σ' F' H' q s' ex => hD.nx e σ' F' H' q (s0.ofAt s') ex, fun r v e σ' F' H' q s' ro => hD.rt r v e σ' F' H' q (s0.ofAt s') ?_, fun e σ' F' H' q s' ex => hD.bk e σ' F' H' q (s0.ofAt s') ex, fun e σ' F' H' q s' ex => hD.ct e σ' F' H' q (s0.ofAt s') ex⟩
  · exact tryh_run hx2 hD hc (s0.ofAt s') s'.g3
  · cases r <;> exact ro
end
def cLaw : CT := fun args Φ Ψ => ∃ ns : List Int, args = [.d (.list (ns.map .int))] ∧ ns.length ≤ 63 ∧ Φ (.rd (.bool true)) args
def noTb (H : Hp) : Hp := fun b => match H b with
  | some (.tbl _) => none
  | o => o
theorem noTb_of {H : Hp} {b : Addr} {u : HO} (h : H b = some u) (n : ntb u) : noTb H b = some u := by
  unfold noTb
  split
  · rename_i ps e; rw [h] at e; exact absurd (Option.some.inj e) (n ps)
  · exact h
theorem noTb_to {H : Hp} {b : Addr} {u : HO} (h : noTb H b = some u) : H b = some u ∧ ntb u := by
  unfold noTb at h
  split at h
  · cases h
  · rename_i e
    exact ⟨h, fun ps z => e ps (by rw [h, z])⟩
theorem noTb_sql {K : Frag} {H : Hp} {a : Addr} {xs : List V} (h : SqL K H a xs) : SqL K (noTb H) a xs := by
  rcases h with (h | ⟨o, h⟩) | h
  · exact .inl (.inl (noTb_of h fun _ z => by cases z))
  · exact .inl (.inr ⟨o, noTb_of h fun _ z => by cases z⟩)
  · exact .inr h
theorem law_sp {K : Frag} {H : Hp} {a : Addr} {ns : List Int} (hl : ns.length ≤ 63) (hT : ∀ p ∈ tabsK K, H p.1 = some (.tbl #[])) (hS : SqL K H a (ns.map V.int)) : spOf K 1 cLaw [.ref a] H (fun v _ => v = .bl true) (fun _ _ _ => False) := by
  refine ⟨rfl, noTb H, [.d (.list (ns.map .int))], fun r args' => r = .rd (.bool true), fun _ _ => False, ⟨ns, rfl, hl, rfl⟩, ⟨rfl, fun i s h => ?_, fun i j s t b h1 h2 h3 h4 => ?_, fun b ⟨i, s, h1, h2⟩ => ?_, fun b u z => (noTb_to z).1, fun b vs h => noTb_of h (fun _ z => by cases z), ⟨fun b ps z => (noTb_to z).2 ps rfl, fun p hp => ⟨#[], hT p hp, trivial, fun pos cv hc => ?_⟩⟩⟩, fun r v args' F' H' hp _ _ _ pr => ?_, fun c _ _ _ hp _ _ _ => hp.elim⟩
  · match i, h with
    | 0, h =>
      have e := Option.some.inj h
      subst e
      exact ⟨.ref a, rfl, .lst (noTb_sql hS) (dpa_ints ns)⟩
    | i + 1, h => simp at h
  · match i, h1 with
    | 0, h1 =>
      have e := Option.some.inj h1
      subst e
      cases h3
    | i + 1, h => simp at h
  · match i, h1 with
    | 0, h1 =>
      have e := Option.some.inj h1
      subst e
      cases h2
    | i + 1, h => simp at h
  · have z : codeAmong pos [] = some cv := hc
    simp [codeAmong] at z
  · subst hp
    exact dp_bl pr
end TL
namespace TL
open PySem PySem.Spec PyProof.Rows L2
section
variable {X : Cx} {g : G} {env env' : List Sl} {Ψ : Exc → Prop} {P : Po} {pos p : Pos} {a b c e : Expr} {es : List Expr} {rest : List Stmt} {K : Frag} {F F' H H' : Hp} {σ σ' : SS}
/-- a statement, what holds behind it, the rest -/
theorem ws_mid {st : Stmt} (M : List Sl → Prop) (h1 : W1 X g st env (P.thn M)) (h2 : ∀ e, M e → WS X g rest e P) : WS X g (st :: rest) env P := fun W tk hx σ F H s0 D hD => by
  refine semS_of (pss_cons (psP st) (pssS rest)) ?_
  refine h1 W tk hx σ F H s0 _ ⟨fun env' σ' F' H' hw s' e' => ?_, hD.rt, hD.bk, hD.ct⟩
  exact h2 env' hw W tk hx σ' F' H' s' D (hD.mono e')
theorem ws_close (i : Nat) {al : Addr} {ds : List PyData} (he : env[i]? = some (.ol al ds)) (hb : BagD ds) (h : WS X g rest (env.set i (.bg al)) P) : WS X g rest env P := fun W tk hx σ F H st D hD =>
  h W tk hx σ F H (st.weak he (fun a m => m) fun ⟨h1, vs, h2, h3⟩ => ⟨h1, ds, vs, hb, h2, h3⟩) D hD
theorem ws_open (i : Nat) {al : Addr} (he : env[i]? = some (.bg al)) (h : ∀ (cells : List Int) (j s t : Int), (∀ c ∈ cells, (0 : Int) ≤ c) → 0 ≤ j → 0 ≤ s → 0 ≤ t → t < 2147483629 → WS X g rest (env.set i (.ol al [.list (cells.map .int), .int j, .int s, .int t])) P) : WS X g rest env P := fun W tk hx σ F H st D hD => by
  obtain ⟨h1, ds, vs, ⟨cells, j, s, t, rfl, q1, q2, q3, q4, q5⟩, h2, h3⟩ := st.sl i _ he
  exact h cells j s t q1 q2 q3 q4 q5 W tk hx σ F H (st.weak he (fun a m => m) fun _ => ⟨h1, vs, h2, h3⟩) D hD
end
theorem szOk {n m : Nat} (h : Nat.ble n m = true) : n ≤ m := Nat.le_of_ble_eq_true h
theorem nb {m : Int} (h : m.natAbs < 2 ^ 120) : m.natAbs < 2 ^ 8000 := Nat.lt_of_lt_of_le h (Nat.pow_le_pow_right (by decide) (by decide))
abbrev rg (m : Nat) (f : Nat → PyData) : List PyData := (List.range m).map f
theorem rg_len (m : Nat) (f : Nat → PyData) : (rg m f).length = m := by simp
theorem rg_succ (m : Nat) (f : Nat → PyData) : rg m f ++ [f m] = rg (m + 1) f := by simp [rg, List.range_succ]
theorem at_nat {α : Type} {xs : List α} {i : Int} {x : α} (h0 : 0 ≤ i) (h : xs[i.toNat]? = some x) : atI xs i = some x := by
  have hl := (List.getElem?_eq_some_iff.mp h).1
  unfold atI ixN
  rw [if_pos h0, if_pos (by omega)]
  exact h
theorem at_rg {m : Nat} {f : Nat → PyData} {i : Int} (h0 : 0 ≤ i) (h1 : i < m) : atI (rg m f) i = some (f i.toNat) := at_nat h0 (by
  have hl : i.toNat < m := by omega
  simp [rg, hl])
theorem at_ints {ns : List Int} {i : Int} (h0 : 0 ≤ i) (h1 : i < ns.length) : ∃ n, n ∈ ns ∧ ns[i.toNat]? = some n ∧ atI (ns.map PyData.int) i = some (.int n) := by
  have hl : i.toNat < ns.length := by omega
  refine ⟨ns[i.toNat], List.getElem_mem hl, by simp [hl], at_nat h0 (by simp [hl])⟩
theorem wp_none {X : Cx} {g : G} {env : List Sl} {Φ : Option Int → Prop} {Ψ : Exc → Prop} (h : Φ none) : WP X g none env Φ Ψ := h
theorem wp_e {X : Cx} {g : G} {env : List Sl} {e : Expr} {Φ : Option Int → Prop} {Ψ : Exc → Prop} (h : WE X g e env (fun d _ => ∃ i, d = .int i ∧ Φ (some i)) Ψ) : WP X g (some e) env Φ Ψ := h
theorem cut_le {α : Type} (xs : List α) (k : Int) (h0 : 0 ≤ k) (h : (xs.length : Int) ≤ k) : cut xs none (some k) = xs := by
  unfold cut HT.sIx
  have e : ¬ k < 0 := by omega
  simp only [e, if_false]
  rw [List.drop_zero, Nat.min_eq_right (by omega), Nat.sub_zero, List.take_length]
theorem ints_get {ns : List Int} {i : Nat} {x : PyData} (h : (ns.map PyData.int)[i]? = some x) : ∃ n, x = .int n ∧ ns[i]? = some n := by
  obtain ⟨n, h1, h2⟩ := map_get h
  exact ⟨n, h2.symm, h1⟩
theorem tk_succ {α : Type} {ns : List α} {i : Nat} {n : α} (f : α → PyData) (h : ns[i]? = some n) : (ns.take i).map f ++ [f n] = (ns.take (i + 1)).map f := by
  rw [List.take_succ, h]
  simp
def ppD (p : Int × Int) : PyData := .tuple [.int p.1, .int p.2]
theorem pairs_alike (ps : List (Int × Int)) : PySem.W.AllAlike (ps.map ppD) := fun d hd d' hd' => by
  obtain ⟨p, _, rfl⟩ := List.mem_map.mp hd
  obtain ⟨q, _, rfl⟩ := List.mem_map.mp hd'
  rfl
theorem pairs_sortable (ps : List (Int × Int)) : PySem.W.Sortable (ps.map ppD) := .inl fun d hd => by
  obtain ⟨p, _, rfl⟩ := List.mem_map.mp hd
  exact ⟨_, _, rfl⟩
theorem pairs_depth (ps : List (Int × Int)) : ∀ d ∈ ps.map ppD, SeqAt.shaped d = true := fun d hd => by
  obtain ⟨p, _, rfl⟩ := List.mem_map.mp hd
  rfl
section
variable {Φ : PyData → Bool → Prop} {m : Nat} {f : Nat → PyData} {k : Int} {z1 z2 : Bool}
theorem ix_lst (h0 : 0 ≤ k) {xs : List PyData} {x : PyData} (h : xs[k.toNat]? = some x) (hp : Φ x true) : IxP Φ (.list xs) z1 (.int k) z2 := .lst hp (at_nat h0 h)
theorem ix_tup (h0 : 0 ≤ k) {xs : List PyData} {x : PyData} (h : xs[k.toNat]? = some x) (hp : Φ x true) : IxP Φ (.tuple xs) z1 (.int k) z2 := .tup hp (at_nat h0 h)
/-- a power of literals -/
theorem powP {i j v : Int} (hv : i ^ j.toNat = v) (h : Φ (.int v) true) (hc : CPow i j) : IntP CPow (fun i j => i ^ j.toNat) Φ (.int i) z1 (.int j) z2 := ⟨by rw [hv]; exact h, hc⟩
theorem ix_ints (h0 : 0 ≤ k) {ns : List Int} (h1 : k < ns.length) (hp : ∀ n ∈ ns, Φ (.int n) true) : IxP Φ (.list (ns.map .int)) z1 (.int k) z2 := by
  obtain ⟨n, q1, _, q2⟩ := at_ints h0 h1
  exact .lst (hp n q1) q2
end
theorem exk_of {K : Frag} {mg : Str → Option Value} {x : Str} (g : mg x = some (.ref (He.ga K x))) (h : PySem.W.excIn K (He.ga K x) He.veBase "ValueError.__new__" = true ∧ PySem.W.keepIn K (.ref (He.ga K x)) = true ∧ PySem.W.subIn K (.ref (He.ga K x)) (.type "BaseException") = some true ∧ PySem.W.typeIn K (.ref (He.ga K x)) = some (.type "type")) : ExK K mg x := ⟨g, h.1, h.2.1, h.2.2.1, h.2.2.2⟩
theorem Has.mono {P : Program} {w : World} {K : Frag} {mg : Str → Option Value} {base : Heap} {j k : Nat} {x : Str} {ps : List Str} {S : CT} (h : Has P w K mg base j x ps S) (le : j ≤ k) : Has P w K mg base k x ps S := by
  obtain ⟨f, fd, h1, h2, h3, h4⟩ := h.ex
  exact ⟨f, fd, h1, h2, h3, h4.mono le⟩
end TL
namespace TL
open PySem PySem.Spec PyProof.Rows L2
section
variable {X : Cx} {g : G} {env env' : List Sl} {Ψ : Exc → Prop} {P : Po} {pos p p2 p3 : Pos} {a b c e : Expr} {es : List Expr} {rest body : List Stmt} {K : Frag} {F F' H H' : Hp} {σ σ' : SS}
def tyN : PyData → String
  | .none => "NoneType"
  | .bool _ => "bool"
  | .int _ => "int"
  | .str _ => "str"
  | .list _ => "list"
  | .tuple _ => "tuple"
  | .dict _ => "dict"
def isTyB (T : String) (d : PyData) : Bool := match d with
  | .dict ((.bool true, _) :: _) => false
  | d => (kitB (tyN d) T).getD false
def kitOk (T : String) : Bool := (kitTys.all fun t => (kitB t T).isSome) && kitTys.contains T
theorem kitB_some (T : String) (d : PyData) (h : kitOk T = true) : kitB (tyN d) T = some ((kitB (tyN d) T).getD false) := by
  have m : tyN d ∈ kitTys := by cases d <;> simp [tyN, kitTys]
  have q := List.all_eq_true.mp (Bool.and_eq_true_iff.mp h).1 _ m
  cases e : kitB (tyN d) T with
  | none => rw [e] at q; cases q
  | some r => rfl
theorem tyx_of {z : Bool} {v : V} {d : PyData} (st : Sk K F H σ env) (h : Rd K F env z v d) : ∃ t, TyX K H v t ∧ ∀ T, kitOk T = true → PySem.W.kitOne K t (.type T) = some (isTyB T d) := by
  have h := rd_now st h
  cases h with
  | non => exact ⟨_, .base .non, fun T hT => kit_ty (kitB_some T .none hT)⟩
  | bl b => exact ⟨_, .base (.bl b), fun T hT => kit_ty (kitB_some T (.bool b) hT)⟩
  | int i => exact ⟨_, .base (.int i), fun T hT => kit_ty (kitB_some T (.int i) hT)⟩
  | str s => exact ⟨_, .base (.str s), fun T hT => kit_ty (kitB_some T (.str s) hT)⟩
  | @lst a xs ds s _ =>
    rcases s with s | ⟨o, _, _, s, q, _⟩
    · rcases s with s | ⟨o, s⟩
      · exact ⟨_, .base (.lst s), fun T hT => kit_ty (kitB_some T (.list ds) hT)⟩
      · exact ⟨_, .base (.frz s), fun T hT => kit_ty (kitB_some T (.list ds) hT)⟩
    · exact ⟨_, .kList s q, fun T hT => kit_ty (kitB_some T (.list ds) hT)⟩
  | @tup a xs ds s _ => exact ⟨_, .base (.tup s), fun T hT => kit_ty (kitB_some T (.tuple ds) hT)⟩
  | @ktup a s =>
    rcases s H with s | ⟨o, _, _, s, q, _⟩
    · rcases s with s | ⟨o, s⟩
      · exact ⟨_, .base (.tup s), fun T hT => kit_ty (kitB_some T startD hT)⟩
      · exact ⟨_, .fTuple s, fun T hT => kit_ty (kitB_some T startD hT)⟩
    · exact ⟨_, .kTuple s q, fun T hT => kit_ty (kitB_some T startD hT)⟩
  | @dct a vs kvs s _ => exact ⟨_, .base (.dT s), fun T hT => kit_ty (kitB_some T (.dict ((.none, .none) :: kvs)) hT)⟩
  | @dck a vs kvs s hk =>
    refine ⟨_, .base (.dK s), fun T hT => ?_⟩
    have e : isTyB T (.dict kvs) = (kitB "dict" T).getD false := by
      cases hk with
      | nil => rfl
      | @cons k _ _ _ _ _ _ => cases k <;> rfl
    rw [e]
    exact kit_ty (kitB_some T (.dict kvs) hT)
  | ins hk s _ => exact ⟨_, .base (.ins s hk.cls hk.c1 hk.c2 hk.c3 hk.c4), fun T hT => hk.kit T (by simpa using (Bool.and_eq_true_iff.mp hT).2)⟩
theorem pa_ty {T : String} {y : Str} (hm : X.mg y = none) (hv : bootBuiltins y = some (.type T)) (hg : Gl X y) (hn : y ≠ "__name__" := by decide) (hd : (y == ("__debug__" : Str)) = false := by decide) : PE X (.Name y p) (tC (.ty T)) := pe_bltn hg hm hv rfl hn hd
theorem we_isi (T : String) {y : Str} {Φ : PyData → Bool → Prop} (hm : X.mg "isinstance" = none) (hy : X.mg y = none) (h : WE X g a env (fun d _ => Φ (.bool (isTyB T d)) true) Ψ) (hv : bootBuiltins y = some (.type T) := by decide +kernel) (hg2 : Gl X y := by rfl)
    (hk : kitOk T = true := by decide +kernel) (hn : y ≠ "__name__" := by decide) (hd : (y == ("__debug__" : Str)) = false := by decide) (hg : Gl X "isinstance" := by rfl)
    (he : starEach [a, .Name y p2] X.env = (false, eval a X.env) :: starEach [.Name y p2] X.env := by rfl) (he2 : starEach [.Name y p2] X.env = (false, eval (.Name y p2) X.env) :: starEach [] X.env := by rfl) (hpl : (backTo pos (starEach [.Name y p2] X.env)).any (·.1) = false := by rfl) :
    WE X g (.Call (.Name "isinstance" p) [a, .Name y p2] [] pos) env Φ Ψ := fun W tk σ F H st hx Q hQ => by
  refine semE_of (pe_callB call_isi hg hm boot_isinstance (pa_cons (peS a) (pa_cons (pa_ty hy hv hg2 hn hd) pa_nil he2) he) (by decide) (by decide) he hpl) ?_
  refine h W tk σ F H st hx _ fun d1 z1 v1 F1 H1 h1 st1 e1 r1 => ?_
  obtain ⟨t, y1, y2⟩ := tyx_of st1.toSk r1
  exact ⟨v1, .ty T, t, .type T, isTyB T d1, rfl, .ty T, y1, y2 T hk, hQ _ true _ F1 H1 h1 st1 e1 (.bl _)⟩
/-- isinstance(x, (list, tuple)) -/
theorem we_isiLT {Φ : PyData → Bool → Prop} {p4 : Pos} {x1 : Nat} (hm : X.mg "isinstance" = none) (hl : X.mg "list" = none) (ht : X.mg "tuple" = none) (h : WE X g a env (fun d _ => Φ (.bool (isTyB "list" d || isTyB "tuple" d)) true) Ψ)
    (hg : Gl X "isinstance" := by rfl) (hgl : Gl X "list" := by rfl) (hgt : Gl X "tuple" := by rfl)
    (he : starEach [a, .Tuple [.Name "list" p2, .Name "tuple" p3] x1 p4] X.env = (false, eval a X.env) :: starEach [.Tuple [.Name "list" p2, .Name "tuple" p3] x1 p4] X.env := by rfl)
    (he2 : starEach [.Tuple [.Name "list" p2, .Name "tuple" p3] x1 p4] X.env = (false, eval (.Tuple [.Name "list" p2, .Name "tuple" p3] x1 p4) X.env) :: starEach [] X.env := by rfl)
    (hpl : (backTo pos (starEach [.Tuple [.Name "list" p2, .Name "tuple" p3] x1 p4] X.env)).any (·.1) = false := by rfl)
    (he3 : starEach [.Name "list" p2, .Name "tuple" p3] X.env = (false, eval (.Name "list" p2) X.env) :: starEach [.Name "tuple" p3] X.env := by rfl) (he4 : starEach [.Name "tuple" p3] X.env = (false, eval (.Name "tuple" p3) X.env) :: starEach [] X.env := by rfl) :
    WE X g (.Call (.Name "isinstance" p) [a, .Tuple [.Name "list" p2, .Name "tuple" p3] x1 p4] [] pos) env Φ Ψ := fun W tk σ F H st hx Q hQ => by
  refine semE_of (pe_callB call_isiT hg hm boot_isinstance (pa_cons (peS a) (pa_cons (pe_tup (pa_cons (pa_ty (T := "list") hl (by decide +kernel) hgl) (pa_cons (pa_ty (T := "tuple") ht (by decide +kernel) hgt) pa_nil he4) he3)) pa_nil he2) he) (by decide) (by decide) he hpl) ?_
  refine h W tk σ F H st hx _ fun d1 z1 v1 F1 H1 h1 st1 e1 r1 => ?_
  refine ⟨by decide, fun tp hn => ?_⟩
  have st2 := st1.allocF (o := .tup [.ty "list", .ty "tuple"]) hn
  have hF : F1 tp = none := st1.ex.none hn
  obtain ⟨t, y1, y2⟩ := tyx_of st2.toSk (rd_mono (Ex.new hF) r1)
  refine ⟨v1, tp, [.ty "list", .ty "tuple"], t, [.type "list", .type "tuple"], isTyB "list" d1 || isTyB "tuple" d1, rfl, upd_same, .cons (.ty _) (.cons (.ty _) .nil), y1, ?_, hQ _ true _ _ _ h1 st2 (e1.trans (Ex.new hF)) (.bl _)⟩
  refine kitAny_cons (y2 "list" (by decide +kernel)) (fun q => ?_) fun q => by rw [q]; rfl
  rw [q, Bool.false_or]
  refine kitAny_cons (y2 "tuple" (by decide +kernel)) (fun q => ?_) fun q => q
  rw [q]
  rfl
theorem for_turn2 {t : TG} {A : PyData → Option (List (Nat × PyData))} {F1 F : Hp} {Pv : Nat → List Sl → Prop} {i : Nat} {x : PyData} {v : V} {D : Ends} {W : WX} (tk : Takes X W) (hx2 : XOk X g P W) (hD : DOk X g F1 P D) (htd : TGd X.K t A) (hv : Dq X.K F v x) (s1 : St X.K g F H σ env) (e1 : Ex F1 F) (hp : Pv i env) (h : FT X g body A P Pv i x) :
    t v σ H fun σ2 H2 => semS X body { D with nx := FJ X.K g F1 Pv (i + 1), ct := FJ X.K g F1 Pv (i + 1), bk := D.nx } σ2 H2 := by
  obtain ⟨l, hA, hl, hw⟩ := h env hp
  refine htd x l σ F H v _ hA s1.ex hv fun r sr => ?_
  have s2 := s1.sets sr fun q hq => ltB (List.all_eq_true.mp hl q hq)
  exact hw W tk hx2 _ F H s2 _ ⟨fun e2 σ' F' H' q s' ex => ⟨F', e2, s', e1.trans ex, q⟩, hD.rt, fun e2 σ' F' H' q s' ex => hD.nx e2 σ' F' H' q s' (e1.trans ex), fun e2 σ' F' H' q s' ex => ⟨F', e2, s', e1.trans ex, q⟩⟩
end
end TL
namespace TL
open PySem PySem.Spec PyProof.Rows L2
section
variable {X : Cx} {g : G} {env env' : List Sl} {Ψ : Exc → Prop} {P : Po} {pos p lp : Pos} {a b c e : Expr} {es : List Expr} {rest body : List Stmt} {K : Frag} {F F' H H' : Hp} {σ σ' : SS}
theorem snoc_get {α : Type} {l : List α} {x y : α} {i : Nat} (h : (l ++ [x])[i]? = some y) : l[i]? = some y ∨ (i = l.length ∧ y = x) := by
  by_cases hi : i < l.length
  · rw [List.getElem?_append_left hi] at h; exact .inl h
  · by_cases e : i = l.length
    · subst e
      rw [List.getElem?_append_right (Nat.le_refl _), Nat.sub_self] at h
      exact .inr ⟨rfl, (Option.some.inj h).symm⟩
    · rw [List.getElem?_append_right (by omega)] at h
      have := (List.getElem?_eq_some_iff.mp h).1
      simp at this
      omega
theorem own_snoc {q a : Addr} {ds : List PyData} (h : Own (env ++ [.ol q ds]) a) : Own env a ∨ a = q := by
  obtain ⟨i, s, h1, h2⟩ := h
  rcases snoc_get h1 with h3 | ⟨_, rfl⟩
  · exact .inl ⟨i, s, h3, h2⟩
  · exact .inr (by simpa [Sl.fp] using h2)
theorem Sk.snoc {q : Addr} {xs : List V} {ds : List PyData} (st : Sk K F H σ env) (h1 : H q = some (.lst xs)) (h2 : DqAll K F xs ds) (h3 : F q = none) (h4 : ¬ Own env q) : Sk K F H (σ ++ [some (.ref q)]) (env ++ [.ol q ds]) where
  len := by rw [List.length_append, List.length_append, st.len]; rfl
  sl := fun i s h => by
    rcases snoc_get h with h | ⟨rfl, rfl⟩
    · have hi : i < σ.length := by rw [st.len]; exact (List.getElem?_eq_some_iff.mp h).1
      rw [List.getElem?_append_left hi]
      exact st.sl i s h
    · rw [← st.len, List.getElem?_append_right (Nat.le_refl _), Nat.sub_self]
      exact ⟨rfl, xs, h1, h2⟩
  nd := fun i j s t a hi hj m1 m2 => by
    rcases snoc_get hi with hi | ⟨rfl, rfl⟩
    · rcases snoc_get hj with hj | ⟨rfl, rfl⟩
      · exact st.nd i j s t a hi hj m1 m2
      · have e : a = q := by simpa [Sl.fp] using m2
        exact absurd ⟨i, s, hi, e ▸ m1⟩ h4
    · rcases snoc_get hj with hj | ⟨rfl, rfl⟩
      · have e : a = q := by simpa [Sl.fp] using m1
        exact absurd ⟨j, t, hj, e ▸ m2⟩ h4
      · rfl
  fr := fun a h => by
    rcases own_snoc h with h | rfl
    · exact st.fr a h
    · exact h3
  ex := st.ex
  tf := st.tf
  tk := st.tk
theorem St.snoc {q : Addr} {xs : List V} {ds : List PyData} (st : St K g F H σ env) (h1 : H q = some (.lst xs)) (h2 : DqAll K F xs ds) (h3 : F q = none) (h4 : ¬ Own env q) (h5 : g.H0 q = none) : St K g F H (σ ++ [some (.ref q)]) (env ++ [.ol q ds]) :=
  { st.toSk.snoc h1 h2 h3 h4 with
    gt := st.gt, g1 := st.g1, g3 := st.g3, g4 := st.g4, g5 := st.g5, g6 := st.g6
    g2 := fun a h => by
      rcases own_snoc h with h | rfl
      · exact st.g2 a h
      · exact .inl h5 }
end
theorem ne_b (b : Bool) : (!decide (b = b)) = false := by simp
end TL
namespace TL
open PySem PySem.Spec PyProof.Rows L2
section
variable {κ : Type} [DecidableEq κ]
def putP (kvs : List (κ × PyData)) (k : κ) (d : PyData) : List (κ × PyData) := if (kvs.any fun kv => decide (kv.1 = k)) = true then kvs.map (fun kv => if kv.1 = k then (kv.1, d) else kv) else kvs ++ [(k, d)]
def valP (kvs : List (κ × PyData)) (k : κ) : Option PyData := (kvs.find? fun kv => decide (kv.1 = k)).map (·.2)
end
end TL
namespace TL
open PySem PySem.Spec PyProof.Rows L2
open Sem (wp)
def DGetS (K : Frag) (H : Hp) (a : Addr) (y : V) (r : Option V) : Prop :=
  DGet H a y r ∨ ∃ kvs k b, L2.Rd H a (.dT kvs) ∧ y = .ref b ∧ SqT K H b (k.map kV) ∧ r = valV kvs k
theorem DGetS.k {K : Frag} {H : Hp} {a : Addr} {kvs : List (Key × V)} {k : Key} (e : H a = some (.dK kvs)) : DGetS K H a (kV k) (valV kvs k) := .inl (DGet.k e)
theorem DGetS.t {K : Frag} {H : Hp} {a b : Addr} {kvs : List (List Key × V)} {k : List Key} (e : H a = some (.dT kvs)) (eb : SqT K H b (k.map kV)) : DGetS K H a (.ref b) (valV kvs k) := .inr ⟨kvs, k, b, .inl e, rfl, eb, rfl⟩
end TL
namespace TL
open PySem PySem.Spec PyProof.Rows L2
structure SemI (X : Cx) (tg iter : Expr) (σ : SS) (H : Hp) (R : It → Hp → Prop) : Prop where
  run : ∀ (pins : List (Addr × Obj)) (s : Shared), Inv X pins σ H s →
    wpAny (model X.prog X.w) X.A (eval iter X.env) (fun v s1 => wpAny (model X.prog X.w) X.A (pyIter v) (PIE X pins σ tg R) X.xe s1) X.xe s
def semI (X : Cx) (tg iter : Expr) : TI := fun σ H R => SemI X tg iter σ H R
def ItOk (K : Frag) (J : It) (xs : List PyData) (F : Hp) : Prop := ∃ (G : Hp → Prop) (Y : Nat → Hp → V → Hp → Prop), Walk J xs.length G Y ∧ (∀ H, Ex F H → G H) ∧
  ∀ i d, xs[i]? = some d → ∀ H v H', Y i H v H' → ∀ g F1 σ env, St K g F1 H σ env → Ex F F1 → ∃ F2, St K g F2 H' σ env ∧ Ex F1 F2 ∧ Dq K F2 v d ∧ Ex H H' ∧ ∀ a, F2 a ≠ none → F1 a ≠ none ∨ H a = none
def WI (X : Cx) (g : G) (tg iter : Expr) (env : List Sl) (Φ : List PyData → Prop) (Ψ : Exc → Prop) : Prop :=
  ∀ (W : WX), Takes X W → ∀ (σ : SS) (F H : Hp), St X.K g F H σ env → HX X g env Ψ W σ →
    ∀ R : It → Hp → Prop, (∀ xs J F' H', Φ xs → xs.length ≤ sizeLine → St X.K g F' H' σ env → Ex F F' → ItOk X.K J xs F' → R J H') → semI X tg iter σ H R
section
variable {X : Cx} {g : G} {env env' : List Sl} {Ψ : Exc → Prop} {P : Po} {pos p lp : Pos} {a b c e tg iter : Expr} {es : List Expr} {rest body : List Stmt} {K : Frag} {F F' H H' : Hp} {σ σ' : SS}
theorem piS : PI X tg iter (semI X tg iter) := ⟨fun pins s σ H R I h => h.run pins s I⟩
theorem semI_of {wi : TI} (h : PI X tg iter wi) {R : It → Hp → Prop} (q : wi σ H R) : semI X tg iter σ H R := ⟨fun pins s I => h.run pins s σ H R I q⟩
def iAny (K : Frag) (tl : TE) : TI := fun σ H R => tl σ H fun x H1 => (∃ a xs, x = .ref a ∧ SqL K H1 a xs ∧ (xs.length ≤ sizeLine → R (Itl K a) H1)) ∨ (∃ a xs, x = .ref a ∧ SqT K H1 a xs ∧ (xs.length ≤ sizeLine → R (Itt K a) H1)) ∨ ∃ z, x = .str z ∧ R (Its z) H1
theorem pi_any {l : Expr} {tl : TE} (hl : PE X l tl) : PI X tg l (iAny X.K tl) := by
  refine ⟨fun pins s σ H R I h => ?_⟩
  refine thn (hl.run pins s σ H _ I h) fun v s1 ⟨x, H1, I1, r1, q1⟩ => ?_
  rcases q1 with ⟨a, xs, e, hq, q⟩ | ⟨a, xs, e, hq, q⟩ | ⟨z, e, q⟩
  · subst e
    cases r1
    obtain ⟨its, rv, p, hz⟩ := I1.list hq
    refine wpAny_pyIter_list p.isList ?_
    refine ⟨s1.heap.objs.size, [s1.heap.objs.size], _, _, H1, rfl, I1.kept (t' := s1.toks) fun b o e => Heap.get?_push_of_some _ e, turn_list a _, ⟨_, Heap.get?_push_size _ rfl, rfl, rfl⟩, fun b hb => ?_, q hz⟩
    have e : b = s1.heap.objs.size := by simpa using hb
    subst e
    exact I1.fpOk (Nat.le_refl _) (I1.hok.fresh (Nat.le_refl _))
  · subst e
    cases r1
    obtain ⟨its, rv, p, hz⟩ := I1.tuple hq
    refine wpAny_pyIter_tuple (show s1.heap.IsTuple a its.toArray from p) ?_
    refine ⟨s1.heap.objs.size, [s1.heap.objs.size], _, _, H1, rfl, I1.kept (t' := s1.toks) fun b o e => Heap.get?_push_of_some _ e, turn_tuple a _, ⟨_, Heap.get?_push_size _ rfl, rfl, rfl⟩, fun b hb => ?_, q hz⟩
    have e : b = s1.heap.objs.size := by simpa using hb
    subst e
    exact I1.fpOk (Nat.le_refl _) (I1.hok.fresh (Nat.le_refl _))
  · subst e
    obtain ⟨t, rfl⟩ := r1
    cases ha : z.cps.all (· < 128)
    · exact wpAny_pyIter_wide ha (pi_one (tk := s1.toks) I1 _ (turn_str _ z t "str_iterator" (.inr rfl)) ⟨_, Heap.get?_push_size _ rfl, rfl, rfl⟩ q)
    · exact wpAny_pyIter_ascii ha (pi_one (tk := s1.toks) I1 _ (turn_str _ z t "str_ascii_iterator" (.inl rfl)) ⟨_, Heap.get?_push_size _ rfl, rfl, rfl⟩ q)
def sgn (c : Nat) : PyData := .str ⟨#[c]⟩
/-- the items of data -/
def itM : PyData → (List PyData → Prop) → Prop
  | .list xs, K => K xs
  | .tuple xs, K => K xs
  | .str s, K => s.cps.size ≤ sizeLine ∧ K (s.cps.toList.map sgn)
  | _, _ => False
theorem itok_at {xs : List PyData} {vs : List V} {J : It} {G : Hp → Prop} (w : Walk J vs.length G (YAt vs)) (hG : ∀ H, Ex F H → G H) (h : DqAll K F vs xs) : ItOk K J xs F := by
  refine ⟨G, YAt vs, by rw [← dpa_len h]; exact w, hG, fun i d hd H v H' ⟨y1, y2⟩ g F1 σ env st e1 => ?_⟩
  subst y1
  obtain ⟨v', h1, h2⟩ := dpa_get h hd
  rw [y2] at h1
  cases h1
  exact ⟨F1, st, Ex.refl F1, dp_mono e1 _ _ h2, Ex.refl _, fun a h => .inl h⟩
theorem itok_str {z : Str} : ItOk K (Its z) (z.cps.toList.map sgn) F := by
  refine ⟨_, _, by rw [List.length_map, Array.length_toList]; exact walk_str, fun _ _ => trivial, fun i d hd H v H' hy g F1 σ env st e1 => ?_⟩
  obtain ⟨y1, c, y2, y3⟩ := hy
  subst y1 y3
  obtain ⟨c', h1, rfl⟩ := map_get hd
  rw [Array.getElem?_toList, y2] at h1
  cases h1
  exact ⟨F1, st, Ex.refl F1, .str _, Ex.refl _, fun a h => .inl h⟩
theorem wi_d {Φ : List PyData → Prop} (h : WE X g iter env (fun d z => z = true ∧ itM d Φ) Ψ) : WI X g tg iter env Φ Ψ := fun W tk σ F H st hx R hR => by
  refine semI_of (pi_any (peS iter)) ?_
  refine h W tk σ F H st hx _ fun d z v F1 H1 ⟨hz, hi⟩ s1 e1 rd => ?_
  subst hz
  cases d with
  | list xs =>
    obtain ⟨a, vs, rfl, hsq, hda⟩ := dp_lst rd
    have hi : Φ xs := hi
    exact .inl ⟨a, vs, rfl, ex_l s1.ex hsq, fun hl => hR xs _ F1 H1 hi (by rw [← dpa_len hda]; exact hl) s1 e1 (itok_at walk_list (fun H eH => ex_l eH hsq) hda)⟩
  | tuple xs =>
    obtain ⟨a, vs, rfl, hsq, hda⟩ := dp_tup rd
    have hi : Φ xs := hi
    exact .inr (.inl ⟨a, vs, rfl, ex_t s1.ex hsq, fun hl => hR xs _ F1 H1 hi (by rw [← dpa_len hda]; exact hl) s1 e1 (itok_at walk_tup (fun H eH => ex_t eH hsq) hda)⟩)
  | str s =>
    obtain ⟨hl, hi⟩ : s.cps.size ≤ sizeLine ∧ Φ (s.cps.toList.map sgn) := hi
    have e := dp_str rd
    subst e
    exact .inr (.inr ⟨s, rfl, hR _ _ F1 H1 hi (by rw [List.length_map, Array.length_toList]; exact hl) s1 e1 itok_str⟩)
  | none => exact hi.elim
  | bool b => exact hi.elim
  | int i => exact hi.elim
  | dict k => exact hi.elim
def rangeL (lo hi : Int) : List PyData := (List.range (hi - lo).toNat).map fun i => .int (lo + (i : Nat))
theorem itok_rng {lo hi : Int} : ItOk K (Itr lo (hi - lo).toNat) (rangeL lo hi) F := by
  refine ⟨_, _, by unfold rangeL; rw [List.length_map, List.length_range]; exact walk_range, fun _ _ => trivial, fun i d hd H v H' hy g F1 σ env st e1 => ?_⟩
  obtain ⟨y1, y2⟩ := hy
  subst y1 y2
  obtain ⟨j, h1, rfl⟩ := map_get hd
  have hj := (List.getElem?_eq_some_iff.mp h1)
  have hj : i = j := by
    obtain ⟨h3, h4⟩ := hj
    simpa using h4
  subst hj
  exact ⟨F1, st, Ex.refl F1, .int _, Ex.refl _, fun a h => .inl h⟩
def rngM : PyData → PyData → (List PyData → Prop) → Prop
  | .int lo, .int hi, K => (-1000000 ≤ lo ∧ lo ≤ 1000000 ∧ -1000000 ≤ hi ∧ hi ≤ 1000000) ∧ K (rangeL lo hi)
  | _, _, _ => False
theorem range_len {lo hi : Int} (h : -1000000 ≤ lo ∧ lo ≤ 1000000 ∧ -1000000 ≤ hi ∧ hi ≤ 1000000) : (rangeL lo hi).length ≤ sizeLine := by
  unfold rangeL
  rw [List.length_map, List.length_range, sizeLine_eq]
  omega
theorem wi_r2 {Φ : List PyData → Prop} {p1 p2 : Pos} (hm : X.mg "range" = none) (h : WE X g a env (fun d1 _ => WE X g b env (fun d2 _ => rngM d1 d2 Φ) Ψ) Ψ) (hg : Gl X "range" := by rfl)
    (he : starEach [a, b] X.env = [(false, eval a X.env), (false, eval b X.env)] := by rfl) (he2 : starEach [b] X.env = [(false, eval b X.env)] := by rfl) : WI X g tg (.Call (.Name "range" p1) [a, b] [] p2) env Φ Ψ := fun W tk σ F H st hx R hR => by
  refine semI_of (pi_range2 hg hm (pa_cons (peS a) (pa_cons (peS b) pa_nil (by rw [he2]; rfl)) (by rw [he, he2])) he he2) ?_
  refine h W tk σ F H st hx _ fun d1 z1 v1 F1 H1 h1 s1 e1 r1 => ?_
  refine h1 W tk σ F1 H1 s1 hx _ fun d2 z2 v2 F2 H2 h2 s2 e2 r2 => ?_
  cases d1 with
  | int i =>
    cases d2 with
    | int j =>
      obtain ⟨hb, hi⟩ : (-1000000 ≤ i ∧ i ≤ 1000000 ∧ -1000000 ≤ j ∧ j ≤ 1000000) ∧ Φ (rangeL i j) := h2
      rw [rd_int r1, rd_int r2]
      exact ⟨i, j, rfl, by omega, hR _ _ F2 H2 hi (range_len hb) s2 (e1.trans e2) itok_rng⟩
    | _ => exact h2.elim
  | _ => cases d2 <;> exact h2.elim
theorem wi_r1 {Φ : List PyData → Prop} {p1 p2 : Pos} (hm : X.mg "range" = none) (h : WE X g a env (fun d1 _ => rngM (.int 0) d1 Φ) Ψ) (hg : Gl X "range" := by rfl)
    (he : starEach [a] X.env = [(false, eval a X.env)] := by rfl) : WI X g tg (.Call (.Name "range" p1) [a] [] p2) env Φ Ψ := fun W tk σ F H st hx R hR => by
  refine semI_of (pi_range1 hg hm (pa_cons (peS a) pa_nil (by rw [he]; rfl)) he) ?_
  refine h W tk σ F H st hx _ fun d2 z2 v2 F2 H2 h2 s2 e2 r2 => ?_
  cases d2 with
  | int j =>
    obtain ⟨hb, hi⟩ : (-1000000 ≤ (0 : Int) ∧ (0 : Int) ≤ 1000000 ∧ -1000000 ≤ j ∧ j ≤ 1000000) ∧ Φ (rangeL 0 j) := h2
    rw [rd_int r2]
    have := itok_rng (K := X.K) (F := F2) (lo := 0) (hi := j)
    rw [Int.sub_zero] at this
    exact ⟨j, rfl, by omega, by omega, hR _ _ F2 H2 hi (range_len hb) s2 e2 this⟩
  | _ => exact h2.elim
def enumL (xs : List PyData) : List PyData := xs.mapIdx fun i x => .tuple [.int (i : Nat), x]
def enuM : PyData → (List PyData → Prop) → Prop
  | .list xs, K => K (enumL xs)
  | .tuple xs, K => K (enumL xs)
  | _, _ => False
theorem w1_for {t : TG} {A : PyData → Option (List (Nat × PyData))} (hp : PassesOwn (model X.prog X.w) X.A X.env X.xe) (hc : X.calm = true) (hpg : PG X tg t) (htd : TGd X.K t A)
    (hi : WI X g tg iter env (fun xs => ∃ Pv : Nat → List Sl → Prop, Pv 0 env ∧ (∀ i x, xs[i]? = some x → FT X g body A P Pv i x) ∧ ∀ e, Pv xs.length e → P.nx e) (fun c => P.ex c env))
    (hs : ∀ x, foldedSetIterable iter X.env x = pure x := by intro _; rfl) : W1 X g (.For tg iter body [] pos) env P := fun W tk hx2 σ F H s0 D hD => by
  refine semP_of (ps_for hp hc piS hpg (pssS body) hs) ?_
  refine hi W tk σ F H s0 (hx2.hx env σ) _ fun xs J F1 H1 ⟨Pv, p0, pt, pe⟩ hlen s1 e1 ⟨GG, Y, hw, hG, hy⟩ => ?_
  refine for_it hw (FJ X.K g F1 Pv) ⟨F1, env, s1, Ex.refl F1, p0⟩ (fun i σ' H' _ ⟨F2, e2, s2, ex2, _⟩ => hG _ (ex2.trans s2.ex)) (fun i x σ' H2 H3 hi2 hJ hY => ?_) (fun σ' H' ⟨F2, e2, s2, ex2, hp2⟩ => ?_)
  · obtain ⟨F2, e2, s2, ex2, hp2⟩ := hJ
    obtain ⟨d, hd⟩ : ∃ d, xs[i]? = some d := ⟨xs[i], by simp [hi2]⟩
    obtain ⟨F3, s3, ex3, hv, _, _⟩ := hy i d hd _ _ _ hY _ _ _ _ s2 ex2
    exact for_turn2 tk hx2 (hD.mono e1) htd hv s3 (ex2.trans ex3) hp2 (pt i d hd)
  · exact hD.nx e2 σ' F2 H' (pe e2 hp2) s2 (e1.trans ex2)
theorem lc_turn2 {scope : Scope} {ifs : List Expr} {elt : Expr} {t : TG} {A : PyData → Option (List (Nat × PyData))} {F1 : Hp} {vs : List Nat} {Pv : Nat → List PyData → Prop} {D : Addr} {i : Nat} {x : PyData} {v : V} {l : List (Nat × PyData)}
    (htd : TGd X.K t A) (hA : A x = some l) (hl : ∀ q ∈ l, q.1 ∈ vs ∧ q.1 < env.length) (hsz : i < sizeLine) {F : Hp} {acc : List PyData} {avs : List V} (st : St X.K g F H (wipe σ vs) (wipeE env vs)) (eF : Ex F1 F) (hv : Dq X.K F v x) (hD : H D = some (.lst avs)) (hd : DqAll X.K F avs acc) (fD : F D = none) (oD : ¬ Own (wipeE env vs) D) (gD : g.H0 D = none) (hp : Pv i acc) (hlen : acc.length ≤ i)
    (hb : ∀ (g' : G) s H0 C cl fp, WTs (BX X scope s H0 C cl fp) g' ifs (putsE (wipeE env vs) l) (fun b => (b = true → ∀ s H0 C cl fp, WE (BX X scope s H0 C cl fp) g' elt (putsE (wipeE env vs) l) (fun y z => z = true ∧ Pv (i + 1) (acc ++ [y])) (fun _ => False)) ∧ (b = false → Pv (i + 1) acc))) :
    t v (wipe σ vs) H fun σ2 H2 => wipe σ2 vs = wipe σ vs ∧ semTB X scope ifs σ2 H2 fun b H3 =>
      if b = true then semEB X scope elt σ2 H3 fun y H4 => ∃ acc, H4 D = some (.lst acc) ∧ acc.length < sizeLine ∧ LJ X.K g F1 (wipe σ vs) (wipeE env vs) Pv D (i + 1) (upd H4 D (.lst (acc ++ [y]))) else LJ X.K g F1 (wipe σ vs) (wipeE env vs) Pv D (i + 1) H3 := by
  refine htd x l (wipe σ vs) F H v _ hA st.ex hv fun r sr => ?_
  have hidx : ∀ q ∈ r, q.1 ∈ vs := setsP_idx sr fun q hq => (hl q hq).1
  refine ⟨by rw [wipe_putsV hidx]; exact wipe_wipe σ vs, ?_⟩
  -- the state within the turn, over a ground of its own
  have st1 : St X.K ⟨F, H, fps (wipeE env vs)⟩ F H (putsV (wipe σ vs) r) (putsE (wipeE env vs) l) := St.sets st.toSk.base sr fun q hq => by rw [wipeE_len]; exact (hl q hq).2
  have back : ∀ {F' H'}, St X.K ⟨F, H, fps (wipeE env vs)⟩ F' H' (putsV (wipe σ vs) r) (putsE (wipeE env vs) l) → Ex F F' → St X.K ⟨F, H, fps (wipeE env vs)⟩ F' H' (wipe σ vs) (wipeE env vs) := fun {F' H'} s' e' =>
    { len := by rw [wipe_length, wipeE_len]; have := s'.len; rw [putsE_len, wipeE_len] at this; rw [← this, putsV_len, wipe_length]
      sl := fun k s e => by
        by_cases hm : k ∈ vs
        · rw [wipeE_get, if_pos hm] at e
          obtain ⟨_, _, e⟩ := Option.map_eq_some_iff.mp e
          subst e
          trivial
        · have e2 : (putsE (wipeE env vs) l)[k]? = some s := by rw [putsE_get (i := k) fun q hq (z : q.1 = k) => hm (by rw [← z]; exact (hl q hq).1)]; exact e
          have q := s'.sl k s e2
          rw [putsV_get (i := k) fun q hq (z : q.1 = k) => hm (by rw [← z]; exact hidx q hq)] at q
          exact q
      nd := st.nd
      fr := fun a h => by
        obtain ⟨k, s, h1, h2⟩ := h
        by_cases hm : k ∈ vs
        · rw [wipeE_get, if_pos hm] at h1
          obtain ⟨_, _, e⟩ := Option.map_eq_some_iff.mp h1
          subst e
          cases h2
        · exact s'.fr a ⟨k, s, by rw [putsE_get (i := k) fun q hq (z : q.1 = k) => hm (by rw [← z]; exact (hl q hq).1)]; exact h1, h2⟩
      ex := s'.ex
      tf := s'.tf
      tk := s'.tk
      gt := s'.gt
      g1 := s'.g1
      g2 := fun a h => .inr (own_fps.mp h)
      g3 := s'.g3
      g4 := s'.g4
      g5 := s'.g5
      g6 := s'.g6 }
  have keepD : ∀ {F' H'}, St X.K ⟨F, H, fps (wipeE env vs)⟩ F' H' (putsV (wipe σ vs) r) (putsE (wipeE env vs) l) → H' D = some (.lst avs) ∧ F' D = none := fun {F' H'} s' => by
    refine ⟨s'.g1 D _ hD (fun z => oD (own_fps.mpr z)) (fun _ z => by cases z), ?_⟩
    cases q : F' D with
    | none => rfl
    | some u =>
      rcases s'.g4 D (by rw [q]; intro z; cases z) with z | z
      · exact absurd fD z
      · have z' : H D = none := z
        rw [hD] at z'; cases z'
  have tests : ∀ (Q : Bool → Hp → Prop), (∀ b F' H', ((b = true → ∀ s H0 C cl fp, WE (BX X scope s H0 C cl fp) ⟨F, H, fps (wipeE env vs)⟩ elt (putsE (wipeE env vs) l) (fun y z => z = true ∧ Pv (i + 1) (acc ++ [y])) (fun _ => False)) ∧ (b = false → Pv (i + 1) acc)) →
      St X.K ⟨F, H, fps (wipeE env vs)⟩ F' H' (putsV (wipe σ vs) r) (putsE (wipeE env vs) l) → Ex F F' → Q b H') → semTB X scope ifs (putsV (wipe σ vs) r) H Q := fun Q hQ => by
    cases ifs with
    | nil =>
      exact hQ true F H ⟨fun _ s H0 C cl fp => (hb _ (X.s_0) H0 C cl fp).1 rfl s H0 C cl fp, fun z => by cases z⟩ st1 (Ex.refl F)
    | cons c cs =>
      intro s H0 C cl fp
      refine hb _ s H0 C cl fp _ takesB _ F H st1 hxF Q fun b F' H' hbb s' e' => hQ b F' H' hbb s' e'
  refine tests _ fun b F' H' ⟨h1, h2⟩ s' e' => ?_
  cases b with
  | true =>
    rw [if_pos rfl]
    intro s H0 C cl fp
    refine h1 rfl s H0 C cl fp _ takesB _ F' H' s' hxF _ fun y z w F2 H2 ⟨hz, hp2⟩ s2 e2 rd => ?_
    subst hz
    obtain ⟨hD2, fD2⟩ := keepD s2
    refine ⟨avs, hD2, by rw [dpa_len hd]; omega, F2, acc ++ [y], avs ++ [w], ?_, eF.trans (e'.trans e2), upd_same, ?_, fD2, oD, gD, hp2, by rw [List.length_append, List.length_singleton]; omega⟩
    · have s3 := st.rebase (back s2 (e'.trans e2)) fun a h => h
      exact s3.untracked fD2 oD gD
    · exact dpa_app (dpa_mono (e'.trans e2) _ _ hd) (dpa_one rd)
  | false =>
    rw [if_neg Bool.false_ne_true]
    obtain ⟨hD2, fD2⟩ := keepD s'
    exact ⟨F', acc, avs, st.rebase (back s' e') fun a h => h, eF.trans e', hD2, dpa_mono e' _ _ hd, fD2, oD, gD, h2 rfl, by omega⟩
def LT2 (X : Cx) (env : List Sl) (scope : Scope) (ifs : List Expr) (elt : Expr) (vs : List Nat) (A : PyData → Option (List (Nat × PyData))) (Pv : Nat → List PyData → Prop) (i : Nat) (x : PyData) : Prop :=
  ∀ acc, Pv i acc → ∃ l, A x = some l ∧ (l.all fun q => vs.elem q.1 && Nat.blt q.1 env.length) = true ∧ ∀ (g' : G) s H0 C cl fp, WTs (BX X scope s H0 C cl fp) g' ifs (putsE (wipeE env vs) l) (fun b =>
    (b = true → ∀ s H0 C cl fp, WE (BX X scope s H0 C cl fp) g' elt (putsE (wipeE env vs) l) (fun y z => z = true ∧ Pv (i + 1) (acc ++ [y])) (fun _ => False)) ∧ (b = false → Pv (i + 1) acc))
section
variable {elt : Expr} {ifs : List Expr} {scope : Scope} {own : List (Str × Nat)} {t : TG} {A : PyData → Option (List (Nat × PyData))} {Φ : List PyData → Prop}
theorem nt_lc (htd : TGd X.K t A) (hwo : wipeOk env (own.map (·.2)) = true)
    (hi : WI X g tg iter env (fun xs => ∃ Pv : Nat → List PyData → Prop, Pv 0 [] ∧ (∀ i x, xs[i]? = some x → LT2 X env scope ifs elt (own.map (·.2)) A Pv i x) ∧ ∀ acc, Pv xs.length acc → Φ acc) Ψ) : WNt X g (tLc (semI X tg iter) t (semTB X scope ifs) (semEB X scope elt) (own.map (·.2))) env Φ Ψ := fun W tk σ F H st hx Q hQ => by
  refine hi W tk σ F H st hx _ fun xs J F1 H1 ⟨Pv, p0, pt, pe⟩ hlen s1 e1 ⟨GG, Y, hw, hG, hy⟩ => fun D hD => ?_
  have st2 : St X.K g F1 (upd H1 D (.lst [])) (wipe σ (own.map (·.2))) (wipeE env (own.map (·.2))) := (s1.alloc hD).wiped _
  refine lc_it hw (LJ X.K g F1 (wipe σ (own.map (·.2))) (wipeE env (own.map (·.2))) Pv D) ⟨F1, [], [], st2, Ex.refl F1, upd_same, .nil, s1.ex.none hD, fun z => s1.there (own_wipe z) hD, s1.h0 hD, p0, Nat.le_refl 0⟩ (fun i H2 _ ⟨F2, _, _, s3, e3, _⟩ => hG _ (e3.trans s3.ex)) (fun i x H2 H3 hi2 hJ hY => ?_) (fun H2 ⟨F2, acc, avs, s3, e3, hD3, hd3, fD, oD, gD, hp, _⟩ => ?_)
  · obtain ⟨F2, acc, avs, s3, e3, hD3, hd3, fD, oD, gD, hp, hl2⟩ := hJ
    obtain ⟨d, hd⟩ : ∃ d, xs[i]? = some d := ⟨xs[i], by simp [hi2]⟩
    obtain ⟨F3, s4, ex4, hv, exH, hF⟩ := hy i d hd _ _ _ hY _ _ _ _ s3 e3
    obtain ⟨l, hA, hl, hb⟩ := pt i d hd acc hp
    have fD3 : F3 D = none := by
      cases q : F3 D with
      | none => rfl
      | some u =>
        rcases hF D (by rw [q]; intro z; cases z) with z | z
        · exact absurd fD z
        · rw [hD3] at z; cases z
    exact lc_turn2 htd hA (lt_idx hl) (by omega) s4 (e3.trans ex4) hv (exH _ _ hD3) (dpa_mono ex4 _ _ hd3) fD3 oD gD hp hl2 hb
  · exact hQ acc (.ref D) F2 H2 (pe acc hp) (s1.unwiped hwo s3 e3) (e1.trans e3) ⟨D, avs, rfl, hD3, hd3, fD, fun z => s1.there z hD, gD⟩
theorem wn_lc (hc : X.calm = true) (hN : X.N.Nodup) (ok : BlkOk X.N X.env.scope scope own) (hpg : ∀ s H C cl fp, PG (BX X scope s H C cl fp) tg t) (htd : TGd X.K t A) (h1 : ifs.length ≤ 1) (hwo : wipeOk env (own.map (·.2)) = true)
    (hi : WI X g tg iter env (fun xs => ∃ Pv : Nat → List PyData → Prop, Pv 0 [] ∧ (∀ i x, xs[i]? = some x → LT2 X env scope ifs elt (own.map (·.2)) A Pv i x) ∧ ∀ acc, Pv xs.length acc → Φ acc) Ψ)
    (hs : ∀ x, foldedSetIterable iter X.env x = pure x := by intro _; rfl) : WN X g (.ListComp elt [⟨tg, iter, ifs, 0⟩] scope pos) env Φ Ψ := fun W tk σ F H st hx Q hQ =>
  semE_of (pe_lc hc hN piS ok hpg (ptsB h1) peB hs) (nt_lc htd hwo hi W tk σ F H st hx Q hQ)
end
end
end TL
namespace TL
open PySem PySem.Spec PyProof.Rows L2
abbrev KD := PyData → Prop
abbrev KL := List PyData → Prop
abbrev KB := Bool → Prop
abbrev KX := Exc → Prop
def addM : PyData → PyData → KD → Prop
  | .int i, .int j, K => K (.int (i + j))
  | .str i, .str j, K => i.length + j.length ≤ sizeLine ∧ K (.str (i ++ j))
  | .list xs, .list ys, K => xs.length + ys.length ≤ sizeLine ∧ K (.list (xs ++ ys))
  | .tuple xs, .tuple ys, K => xs.length + ys.length ≤ sizeLine ∧ K (.tuple (xs ++ ys))
  | _, _, _ => False
def addLM : PyData → PyData → KL → Prop
  | .list xs, .list ys, K => xs.length + ys.length ≤ sizeLine ∧ K (xs ++ ys)
  | _, _, _ => False
def subM : PyData → PyData → KD → Prop
  | .int i, .int j, K => K (.int (i - j))
  | _, _, _ => False
def mulM : PyData → PyData → KD → Prop
  | .int i, .int j, K => (CMul i j ∨ CMulW i j) ∧ K (.int (i * j))
  | _, _, _ => False
def divM : PyData → PyData → KD → Prop
  | .int i, .int j, K => CDivW i j ∧ K (.int (i / j))
  | _, _, _ => False
def modM : PyData → PyData → KD → Prop
  | .int i, .int j, K => 0 < j ∧ K (.int (i % j))
  | _, _, _ => False
def negM : PyData → KD → Prop
  | .int i, K => K (.int (-i))
  | _, _ => False
def boolM : PyData → KB → Prop
  | .bool b, K => K b
  | _, _ => False
def eqM : PyData → PyData → KB → Prop
  | .int i, .int j, K => K (decide (i = j))
  | .str i, .str j, K => K (decide (i = j))
  | .bool i, .bool j, K => K (decide (i = j))
  | x, y, K => SeqAt.shaped x = true ∧ SeqAt.shaped y = true ∧ K (PyData.eqv x y)
def neM : PyData → PyData → KB → Prop
  | .int i, .int j, K => K (!decide (i = j))
  | .str i, .str j, K => K (!decide (i = j))
  | .bool i, .bool j, K => K (!decide (i = j))
  | x, y, K => SeqAt.shaped x = true ∧ SeqAt.shaped y = true ∧ K (!PyData.eqv x y)
def intsOf : List PyData → Option (List Int)
  | [] => some []
  | .int i :: r => match intsOf r with
    | some l => some (i :: l)
    | none => none
  | _ :: _ => none
def ltM : PyData → PyData → KB → Prop
  | .int i, .int j, K => K (decide (i < j))
  | .tuple xs, .tuple ys, K => match intsOf xs, intsOf ys with
    | some ns, some ms => K (HT.lexLt ns ms)
    | _, _ => False
  | _, _, _ => False
def leTup (ns ms : List Int) : Bool := Ob.lexAt (fun j => decide (ns.getD j 0 = ms.getD j 0)) (fun j => decide (ns.getD j 0 ≤ ms.getD j 0)) (decide (ns.length ≤ ms.length)) 0 (min ns.length ms.length)
def leM : PyData → PyData → KB → Prop
  | .int i, .int j, K => K (decide (i ≤ j))
  | .tuple xs, .tuple ys, K => match intsOf xs, intsOf ys with
    | some ns, some ms => K (leTup ns ms)
    | _, _ => False
  | _, _, _ => False
def gtM : PyData → PyData → KB → Prop
  | .int i, .int j, K => K (decide (j < i))
  | _, _, _ => False
def geM : PyData → PyData → KB → Prop
  | .int i, .int j, K => K (decide (j ≤ i))
  | _, _, _ => False
def flAll : List PyData → Option (List V)
  | [] => some []
  | d :: r => match fl d, flAll r with
    | some v, some l => some (v :: l)
    | _, _ => none
def inLstM (x : PyData) (ds : List PyData) (K : KB) : Prop := match fl x, flAll ds with
  | some v, some vs => K (inV v vs)
  | _, _ => SeqAt.shaped x = true ∧ SeqAt.shaped (.list ds) = true ∧ K (ds.any fun z => PyData.eqv z x)
def inTupM (x : PyData) (ds : List PyData) (K : KB) : Prop := match fl x, flAll ds with
  | some v, some vs => K (inV v vs)
  | _, _ => False
def inTplM (x : PyData) (ds : List PyData) (K : KB) : Prop := match fl x, flAll ds with
  | some v, some vs => K (inV v vs)
  | _, _ => SeqAt.shaped x = true ∧ SeqAt.shaped (.tuple ds) = true ∧ K (ds.any fun z => PyData.eqv z x)
def inM (x : PyData) : PyData → KB → Prop
  | .list ds, K => inLstM x ds K
  | .tuple ds, K => inTplM x ds K
  | .str t, K => match x with
    | .str s => K (!(Builtin.Str.occurrences t s 0 t.length 1).isEmpty)
    | _ => False
  | _, _ => False
def notInM (x c : PyData) (K : KB) : Prop := inM x c fun b => K (!b)
def ixM : PyData → PyData → KD → Prop
  | .list xs, .int i, K => match atI xs i with
    | some y => K y
    | none => False
  | .tuple xs, .int i, K => match atI xs i with
    | some y => K y
    | none => False
  | .str s, .int i, K => s.length ≤ sizeLine ∧ match atI s.cps.toList i with
    | some c => K (sgn c)
    | none => False
  | _, _, _ => False
def intO : PyData → (Int → Prop) → Prop
  | .int i, K => K i
  | _, _ => False
def slM : PyData → Option Int → Option Int → KD → Prop
  | .list xs, lo, hi, K => K (.list (cut xs lo hi))
  | .tuple xs, lo, hi, K => K (.tuple (cut xs lo hi))
  | .str z, lo, hi, K => z.length ≤ sizeLine ∧ K (.str (cutS z lo hi))
  | _, _, _, _ => False
def slLM : PyData → Option Int → Option Int → KL → Prop
  | .list xs, lo, hi, K => K (cut xs lo hi)
  | _, _, _, _ => False
def revM : PyData → KL → Prop
  | .list xs, K => K xs.reverse
  | _, _ => False
def lenM : PyData → KD → Prop
  | .list xs, K => K (.int xs.length)
  | .tuple xs, K => K (.int xs.length)
  | .str s, K => s.length ≤ sizeLine ∧ K (.int s.length)
  | _, _ => False
def absM : PyData → KD → Prop
  | .int i, K => K (.int (if i < 0 then -i else i))
  | _, _ => False
def sumM : PyData → KD → Prop
  | .list xs, K => match intsOf xs with
    | some ns => K (.int ns.sum)
    | none => False
  | _, _ => False
def boolsOf : List PyData → Option (List Bool)
  | [] => some []
  | .bool i :: r => match boolsOf r with
    | some l => some (i :: l)
    | none => none
  | _ :: _ => none
def allM : PyData → KD → Prop
  | .list xs, K => match boolsOf xs with
    | some ns => K (.bool (ns.all id))
    | none => False
  | _, _ => False
def anyM : PyData → KD → Prop
  | .list xs, K => match boolsOf xs with
    | some ns => K (.bool (ns.any id))
    | none => False
  | _, _ => False
def intM : PyData → KD → Prop
  | .int i, K => K (.int i)
  | .bool b, K => K (.int (if b then 1 else 0))
  | _, _ => False
def tupM : PyData → KD → Prop
  | .list xs, K => K (.tuple xs)
  | .tuple xs, K => K (.tuple xs)
  | _, _ => False
def listM : PyData → KL → Prop
  | .list xs, K => K xs
  | .tuple xs, K => K xs
  | _, _ => False
def sortM : PyData → KL → Prop
  | .list ds, K => (PySem.W.AllAlike ds ∧ PySem.W.Sortable ds ∧ ∀ d ∈ ds, SeqAt.shaped d = true) ∧ K (srt ds)
  | _, _ => False
def min2M : PyData → PyData → KD → Prop
  | .int i, .int j, K => K (.int (if j < i then j else i))
  | _, _, _ => False
def max2M : PyData → PyData → KD → Prop
  | .int i, .int j, K => K (.int (if j > i then j else i))
  | _, _, _ => False
def andM (ma mb : KB → Prop) (K : KB) : Prop := ma fun b => (b = true → mb K) ∧ (b = false → K false)
def orM (ma mb : KB → Prop) (K : KB) : Prop := ma fun b => (b = true → K true) ∧ (b = false → mb K)
def ifM {α : Type} (mt : KB → Prop) (ma mb : (α → Prop) → Prop) (K : α → Prop) : Prop := mt fun b => (b = true → ma K) ∧ (b = false → mb K)
def un2 : PyData → (PyData → PyData → Prop) → Prop
  | .tuple [a, b], K => K a b
  | _, _ => False
def un3 : PyData → (PyData → PyData → PyData → Prop) → Prop
  | .tuple [a, b, c], K => K a b c
  | _, _ => False
def un4 : PyData → (PyData → PyData → PyData → PyData → Prop) → Prop
  | .tuple [a, b, c, d], K => K a b c d
  | _, _ => False
theorem un2_sh {d : PyData} {K} (h : un2 d K) : ∃ a b, d = .tuple [a, b] ∧ K a b := by
  unfold un2 at h
  split at h
  · exact ⟨_, _, rfl, h⟩
  · exact h.elim
theorem un3_sh {d : PyData} {K} (h : un3 d K) : ∃ a b c, d = .tuple [a, b, c] ∧ K a b c := by
  unfold un3 at h
  split at h
  · exact ⟨_, _, _, rfl, h⟩
  · exact h.elim
def forM {σ : Type} (bd : PyData → σ → (σ → Prop) → (σ → Prop) → Prop) (K : σ → Prop) : List PyData → σ → Prop
  | [], s => K s
  | x :: xs, s => bd x s (fun s' => forM bd K xs s') K
def whileM {σ : Type} (st : σ → (σ → Prop) → (σ → Prop) → Prop) (K : σ → Prop) : Nat → σ → Prop
  | 0, _ => False
  | n + 1, s => st s (fun s' => whileM st K n s') K
def lcM {β : Type} (bd : PyData → (β → Prop) → Prop → Prop) (K : List β → Prop) : List PyData → List β → Prop
  | [], acc => K acc
  | x :: xs, acc => bd x (fun y => lcM bd K xs (acc ++ [y])) (lcM bd K xs acc)
/-- ways that come together -/
def joinM {σ : Type} (bd : (σ → Prop) → Prop) (K : σ → Prop) : Prop := bd K
section
variable {X : Cx} {g : G} {env env' : List Sl} {Ψ : Exc → Prop} {P : Po} {pos p lp : Pos} {a b c e tg iter : Expr} {es : List Expr} {rest body : List Stmt} {K : Frag} {F F' H H' : Hp} {σ σ' : SS} {x y : PyData} {z1 z2 : Bool}
theorem ws_env {env' : List Sl} (h : env = env') (k : WS X g rest env' P) : WS X g rest env P := h ▸ k
section
variable {Q : KD} {Φ : PyData → Bool → Prop}
theorem add_sh (h : addM x y Q) (k : ∀ r, Q r → Φ r true) : AddP Φ x z1 y z2 := by
  unfold addM at h
  split at h
  · exact .int (k _ h)
  · exact .str (k _ h.2) h.1
  · exact .lst (k _ h.2) h.1
  · exact .tup (k _ h.2) h.1
  · exact h.elim
theorem sub_sh (h : subM x y Q) (k : ∀ r, Q r → Φ r true) : IntP (fun _ _ => True) (fun i j => i - j) Φ x z1 y z2 := by
  unfold subM at h
  split at h
  · exact ⟨k _ h, trivial⟩
  · exact h.elim
inductive MulP (Φ : PyData → Bool → Prop) : PyData → Bool → PyData → Bool → Prop
  | mk {i j : Int} {z1 z2 : Bool} : Φ (.int (i * j)) true → CMul i j ∨ CMulW i j → MulP Φ (.int i) z1 (.int j) z2
theorem we_mulA (h : WE X g a env (fun d1 z1 => WE X g b env (fun d2 z2 => MulP Φ d1 z1 d2 z2) Ψ) Ψ) : WE X g (.BinOp a .Mult b pos) env Φ Ψ :=
  we_op (pe_op (op_mul.or op_mulW) (peS a) (peS b)) (fun _ _ _ _ ⟨h, hc⟩ => by
    rcases hc with hc | hc
    · exact dop_l (dop_I hc h fun F => .int _)
    · exact dop_r (dop_I hc h fun F => .int _)) h
theorem mul_sh (h : mulM x y Q) (k : ∀ r, Q r → Φ r true) : MulP Φ x z1 y z2 := by
  unfold mulM at h
  split at h
  · exact ⟨k _ h.2, h.1⟩
  · exact h.elim
theorem div_sh (h : divM x y Q) (k : ∀ r, Q r → Φ r true) : IntP CDivW (fun i j => i / j) Φ x z1 y z2 := by
  unfold divM at h
  split at h
  · exact ⟨k _ h.2, h.1⟩
  · exact h.elim
theorem mod_sh (h : modM x y Q) (k : ∀ r, Q r → Φ r true) : IntP (fun _ j => 0 < j) (fun i j => i % j) Φ x z1 y z2 := by
  unfold modM at h
  split at h
  · exact ⟨k _ h.2, h.1⟩
  · exact h.elim
theorem ix_sh (h : ixM x y Q) (k : ∀ r, Q r → Φ r true) : IxP Φ x z1 y z2 := by
  unfold ixM at h
  split at h
  · split at h
    · rename_i e; exact .lst (k _ h) e
    · exact h.elim
  · split at h
    · rename_i e; exact .tup (k _ h) e
    · exact h.elim
  · obtain ⟨h1, h⟩ := h
    split at h
    · rename_i e; exact .str (k _ h) h1 e
    · exact h.elim
  · exact h.elim
theorem len_sh (h : lenM x Q) (k : ∀ r, Q r → Φ r true) : LenP Φ x z1 := by
  unfold lenM at h
  split at h
  · exact .lst (k _ h)
  · exact .tup (k _ h)
  · exact .str (k _ h.2) h.1
  · exact h.elim
theorem intsOf_eq : ∀ {xs : List PyData} {ns : List Int}, intsOf xs = some ns → xs = ns.map .int
  | [], _, h => by cases h; rfl
  | d :: r, ns, h => by
    cases d with
    | int i =>
      unfold intsOf at h
      split at h
      · rename_i l e; cases h; rw [intsOf_eq e]; rfl
      · cases h
    | _ => cases h
theorem ints_of (ns : List Int) : intsOf (ns.map .int) = some ns := by
  induction ns with
  | nil => rfl
  | cons n ns ih => show (match intsOf (ns.map .int) with | some l => some (n :: l) | none => none) = _; rw [ih]
theorem boolsOf_eq : ∀ {xs : List PyData} {ns : List Bool}, boolsOf xs = some ns → xs = ns.map .bool
  | [], _, h => by cases h; rfl
  | d :: r, ns, h => by
    cases d with
    | bool i =>
      unfold boolsOf at h
      split at h
      · rename_i l e; cases h; rw [boolsOf_eq e]; rfl
      · cases h
    | _ => cases h
theorem bools_of (ns : List Bool) : boolsOf (ns.map .bool) = some ns := by
  induction ns with
  | nil => rfl
  | cons n ns ih => show (match boolsOf (ns.map .bool) with | some l => some (n :: l) | none => none) = _; rw [ih]
theorem sum_sh (h : sumM x Q) (k : ∀ r, Q r → Φ r true) : ∃ ns : List Int, x = .list (ns.map .int) ∧ Φ (.int ns.sum) true := by
  unfold sumM at h
  split at h
  · split at h
    · rename_i e; exact ⟨_, by rw [intsOf_eq e], k _ h⟩
    · exact h.elim
  · exact h.elim
theorem all_sh (h : allM x Q) (k : ∀ r, Q r → Φ r true) : ∃ ns : List Bool, x = .list (ns.map .bool) ∧ Φ (.bool (ns.all id)) true := by
  unfold allM at h
  split at h
  · split at h
    · rename_i e; exact ⟨_, by rw [boolsOf_eq e], k _ h⟩
    · exact h.elim
  · exact h.elim
theorem tup_sh (h : tupM x Q) (k : ∀ r, Q r → Φ r true) (hz : z1 = true ∨ isTyB "tuple" x = false := by exact Or.inl rfl) : TupP Φ x z1 := by
  unfold tupM at h
  split at h
  · exact .lst (k _ h)
  · rcases hz with hz | hz
    · subst hz; exact .tup (k _ h)
    · rename_i xs
      have e : isTyB "tuple" (.tuple xs) = true := by show (L2.kitB "tuple" "tuple").getD false = true; decide +kernel
      rw [e] at hz; cases hz
  · exact h.elim
theorem min2_sh (h : min2M x y Q) (k : ∀ r, Q r → Φ r true) : ∃ i j, x = .int i ∧ y = .int j ∧ Φ (.int (if j < i then j else i)) true := by
  unfold min2M at h
  split at h
  · exact ⟨_, _, rfl, rfl, k _ h⟩
  · exact h.elim
theorem max2_sh (h : max2M x y Q) (k : ∀ r, Q r → Φ r true) : ∃ i j, x = .int i ∧ y = .int j ∧ Φ (.int (if j > i then j else i)) true := by
  unfold max2M at h
  split at h
  · exact ⟨_, _, rfl, rfl, k _ h⟩
  · exact h.elim
end
theorem bool_sh {Q : KB} {Φ : Bool → Prop} (h : boolM x Q) (k : ∀ r, Q r → Φ r) : ∃ b, x = .bool b ∧ Φ b := by
  unfold boolM at h
  split at h
  · exact ⟨_, rfl, k _ h⟩
  · exact h.elim
section
variable {Q : KL} {Φ : List PyData → Prop}
theorem addL_sh (h : addLM x y Q) (k : ∀ r, Q r → Φ r) : ∃ xs, x = .list xs ∧ ∃ ys, y = .list ys ∧ xs.length + ys.length ≤ sizeLine ∧ Φ (xs ++ ys) := by
  unfold addLM at h
  split at h
  · exact ⟨_, rfl, _, rfl, h.1, k _ h.2⟩
  · exact h.elim
theorem wn_addA (h : WE X g a env (fun d1 _ => WE X g b env (fun d2 _ => ∃ xs, d1 = .list xs ∧ ∃ ys, d2 = .list ys ∧ xs.length + ys.length ≤ sizeLine ∧ Φ (xs ++ ys)) Ψ) Ψ) : WN X g (.BinOp a .Add b pos) env Φ Ψ := fun W tk σ F H st hx Q hQ => by
  refine semE_of (pe_op op_catL (peS a) (peS b)) ?_
  refine h W tk σ F H st hx _ fun d1 z1 v1 F1 H1 h1 st1 e1 r1 => ?_
  refine h1 W tk σ F1 H1 st1 hx _ fun d2 z2 v2 F2 H2 ⟨xs, hx1, ys, hy1, hl, hp⟩ st2 e2 r2 => ?_
  subst hx1 hy1
  obtain ⟨a1, vs1, rfl, s1, p1⟩ := rd_lst st2.toSk (rd_mono e2 r1)
  obtain ⟨a2, vs2, rfl, s2, p2⟩ := rd_lst st2.toSk r2
  exact ⟨a1, a2, vs1, vs2, rfl, rfl, s1, s2, by rw [dpa_len p1, dpa_len p2]; exact hl, fun p hp' => put_new st2 hp' (dpa_app p1 p2) hp fun ds v F' H' q1 q2 q3 q4 => hQ ds v F' H' q1 q2 ((e1.trans e2).trans q3) q4⟩
theorem list_sh (h : listM x Q) (k : ∀ r, Q r → Φ r) : LstP Φ x z1 := by
  unfold listM at h
  split at h
  · exact .lst (k _ h)
  · exact .tup (k _ h)
  · exact h.elim
theorem sort_sh (h : sortM x Q) (k : ∀ r, Q r → Φ r) : ∃ ds, x = .list ds ∧ PySem.W.AllAlike ds ∧ PySem.W.Sortable ds ∧ (∀ d ∈ ds, SeqAt.shaped d = true) ∧ Φ (srt ds) := by
  unfold sortM at h
  split at h
  · exact ⟨_, rfl, h.1.1, h.1.2.1, h.1.2.2, k _ h.2⟩
  · exact h.elim
end
theorem into_sh {Q : Int → Prop} {Φ : Int → Prop} (h : intO x Q) (k : ∀ r, Q r → Φ r) : ∃ i, x = .int i ∧ Φ i := by
  unfold intO at h
  split at h
  · exact ⟨_, rfl, k _ h⟩
  · exact h.elim
section
variable {Q : KB} {Φ : KB}
theorem eq_sh (h : eqM x y Q) (k : ∀ b, Q b → Φ b) : ∃ b, CP K g env (rEqA K) x z1 y z2 b ∧ Φ b := by
  unfold eqM at h
  split at h
  · exact ⟨_, cp_eqI, k _ h⟩
  · exact ⟨_, cp_eqS, k _ h⟩
  · exact ⟨_, cp_eqB, k _ h⟩
  · exact ⟨_, cp_eqD h.1 h.2.1, k _ h.2.2⟩
theorem ne_sh (h : neM x y Q) (k : ∀ b, Q b → Φ b) : ∃ b, CP K g env (rNeA K) x z1 y z2 b ∧ Φ b := by
  unfold neM at h
  split at h
  · exact ⟨_, cp_neI, k _ h⟩
  · exact ⟨_, cp_neS, k _ h⟩
  · exact ⟨_, cp_neB, k _ h⟩
  · exact ⟨_, cp_neD h.1 h.2.1, k _ h.2.2⟩
theorem lt_sh (h : ltM x y Q) (k : ∀ b, Q b → Φ b) : ∃ b, CP K g env (rLtA K) x z1 y z2 b ∧ Φ b := by
  unfold ltM at h
  split at h
  · exact ⟨_, cp_lt, k _ h⟩
  · split at h
    · rename_i e1 e2
      rw [intsOf_eq e1, intsOf_eq e2]
      exact ⟨_, cp_ltT, k _ h⟩
    · exact h.elim
  · exact h.elim
abbrev rLeA (K : Frag) : R2 := fun x y H Q => (rI0 fun i j => .bl (decide (i ≤ j))) x y H Q ∨ rLeT K x y H Q
theorem op_leA {k : Nat} (hr : Room k X.A) : OpR X (compareOp .LtE) (rLeA X.K) := op_le.or (op_leT hr.units0)
theorem cp_leA {i j : Int} : CP K g env (rLeA K) (.int i) z1 (.int j) z2 (decide (i ≤ j)) := cp_l cp_le
theorem cp_leTA (ns ms : List Int) : CP K g env (rLeA K) (.tuple (ns.map .int)) z1 (.tuple (ms.map .int)) z2 (leTup ns ms) := cp_r fun σ F H v1 v2 st r1 r2 Q q => by
  obtain ⟨a1, vs1, rfl, s1, p1⟩ := rd_tup st.toSk r1
  obtain ⟨a2, vs2, rfl, s2, p2⟩ := rd_tup st.toSk r2
  rw [dpa_ints_eq p1] at s1
  rw [dpa_ints_eq p2] at s2
  exact ⟨a1, a2, ns, ms, rfl, rfl, s1, s2, q⟩
theorem le_sh (h : leM x y Q) (k : ∀ b, Q b → Φ b) : ∃ b, CP K g env (rLeA K) x z1 y z2 b ∧ Φ b := by
  unfold leM at h
  split at h
  · exact ⟨_, cp_leA, k _ h⟩
  · split at h
    · rename_i e1 e2
      rw [intsOf_eq e1, intsOf_eq e2]
      exact ⟨_, cp_leTA _ _, k _ h⟩
    · exact h.elim
  · exact h.elim
theorem gt_sh (h : gtM x y Q) (k : ∀ b, Q b → Φ b) : ∃ b, CP K g env (rI0 fun i j => .bl (decide (j < i))) x z1 y z2 b ∧ Φ b := by
  unfold gtM at h
  split at h
  · exact ⟨_, cp_gt, k _ h⟩
  · exact h.elim
theorem ge_sh (h : geM x y Q) (k : ∀ b, Q b → Φ b) : ∃ b, CP K g env (rI0 fun i j => .bl (decide (j ≤ i))) x z1 y z2 b ∧ Φ b := by
  unfold geM at h
  split at h
  · exact ⟨_, cp_ge, k _ h⟩
  · exact h.elim
theorem flAll_dp : ∀ {ds : List PyData} {vs xs : List V}, flAll ds = some xs → DqAll K F vs ds → vs = xs
  | [], _, _, h, q => by cases q; cases h; rfl
  | d :: r, _, _, h, q => by
    cases q with
    | cons q1 q2 =>
      unfold flAll at h
      split at h
      · rename_i e1 e2
        cases h
        rw [fl_dp q1 e1, flAll_dp e2 q2]
      · cases h
theorem flAll_flat : ∀ {ds : List PyData} {xs : List V}, flAll ds = some xs → xs.all flatV = true
  | [], _, h => by cases h; rfl
  | d :: r, _, h => by
    unfold flAll at h
    split at h
    · rename_i e1 e2
      cases h
      rw [List.all_cons, fl_flat e1, flAll_flat e2]; rfl
    · cases h
theorem in_sh (h : inM x y Q) (k : ∀ b, Q b → Φ b) : ∃ b, CP K g env (rInA K) x z1 y z2 b ∧ Φ b := by
  cases y with
  | list ds =>
    have h : inLstM x ds Q := h
    unfold inLstM at h
    split at h
    · rename_i v vs e1 e2
      refine ⟨_, cp_l fun σ F H v1 v2 st r1 r2 Q q => ?_, k _ h⟩
      obtain ⟨a2, vs2, rfl, s2, p2⟩ := rd_lst st.toSk r2
      have e3 := fl_dp (rd_now st.toSk r1) e1
      have e4 := flAll_dp e2 p2
      subst e3 e4
      exact ⟨a2, vs2, rfl, .inl s2, fl_flat e1, flAll_flat e2, q⟩
    · exact ⟨_, cp_inD h.1 h.2.1, k _ h.2.2⟩
  | tuple ds =>
    have h : inTplM x ds Q := h
    unfold inTplM at h
    split at h
    · rename_i v vs e1 e2
      refine ⟨_, cp_l fun σ F H v1 v2 st r1 r2 Q q => ?_, k _ h⟩
      obtain ⟨a2, vs2, rfl, s2, p2⟩ := rd_tup st.toSk r2
      have e3 := fl_dp (rd_now st.toSk r1) e1
      have e4 := flAll_dp e2 p2
      subst e3 e4
      exact ⟨a2, vs2, rfl, .inr s2, fl_flat e1, flAll_flat e2, q⟩
    · exact ⟨_, cp_inTD h.1 h.2.1, k _ h.2.2⟩
  | str t =>
    cases x with
    | str s => exact ⟨_, cp_inS, k _ h⟩
    | _ => exact (show False from h).elim
  | _ => exact (show False from h).elim
theorem notIn_sh (h : notInM x y Q) (k : ∀ b, Q b → Φ b) : ∃ b, CP K g env (rNotInA K) x z1 y z2 b ∧ Φ b := by
  cases y with
  | list ds =>
    have h : inLstM x ds (fun b => Q (!b)) := h
    unfold inLstM at h
    split at h
    · rename_i v vs e1 e2
      refine ⟨_, cp_l fun σ F H v1 v2 st r1 r2 Q q => ?_, k _ h⟩
      obtain ⟨a2, vs2, rfl, s2, p2⟩ := rd_lst st.toSk r2
      have e3 := fl_dp (rd_now st.toSk r1) e1
      have e4 := flAll_dp e2 p2
      subst e3 e4
      exact ⟨a2, vs2, rfl, .inl s2, fl_flat e1, flAll_flat e2, q⟩
    · exact ⟨_, cp_notInD h.1 h.2.1, k _ h.2.2⟩
  | tuple ds =>
    have h : inTplM x ds (fun b => Q (!b)) := h
    unfold inTplM at h
    split at h
    · rename_i v vs e1 e2
      refine ⟨_, cp_l fun σ F H v1 v2 st r1 r2 Q q => ?_, k _ h⟩
      obtain ⟨a2, vs2, rfl, s2, p2⟩ := rd_tup st.toSk r2
      have e3 := fl_dp (rd_now st.toSk r1) e1
      have e4 := flAll_dp e2 p2
      subst e3 e4
      exact ⟨a2, vs2, rfl, .inr s2, fl_flat e1, flAll_flat e2, q⟩
    · exact ⟨_, cp_notInTD h.1 h.2.1, k _ h.2.2⟩
  | str t =>
    cases x with
    | str s => exact ⟨_, cp_notInS, k _ h⟩
    | _ => exact (show False from h).elim
  | _ => exact (show False from h).elim
theorem isN_sh (k : Φ (isNone x)) : ∃ b, CP K g env rIsN x z1 .none z2 b ∧ Φ b := ⟨_, cp_isN, k⟩
theorem notN_sh (k : Φ (!isNone x)) : ∃ b, CP K g env rNotN x z1 .none z2 b ∧ Φ b := ⟨_, cp_notN, k⟩
end
section
variable {ma mb mt : KB → Prop} {Q : KB} {Φ : KB}
theorem WW.mono {Φ' : Bool → Prop} (h : WW X g e env Φ Ψ) (k : ∀ d, Φ d → Φ' d) : WW X g e env Φ' Ψ :=
  fun W tk σ F H st hx Q hQ => h W tk σ F H st hx Q fun b F' H' p => hQ b F' H' (k b p)
theorem ww_andS {re : List Expr} (h : andM ma mb Q) (ha : ∀ Q, ma Q → WT X g a env Q Ψ) (hb : ∀ Q, mb Q → WW X g (.BoolOp .And (b :: re) pos) env Q Ψ) (k : ∀ r, Q r → Φ r) : WW X g (.BoolOp .And (a :: b :: re) pos) env Φ Ψ :=
  ww_and ((ha _ h).mono fun r ⟨h1, h2⟩ => ⟨fun e => (hb _ (h1 e)).mono k, fun e => k _ (h2 e)⟩)
theorem we_andS {re : List Expr} {Φ : PyData → Bool → Prop} (h : andM ma mb Q) (ha : ∀ Q, ma Q → WE X g a env (fun d _ => ∃ k, d = .bool k ∧ Q k) Ψ) (hb : ∀ Q, mb Q → WE X g (.BoolOp .And (b :: re) pos) env (fun d _ => ∃ k, d = .bool k ∧ Q k) Ψ) (k : ∀ r, Q r → Φ (.bool r) true) : WE X g (.BoolOp .And (a :: b :: re) pos) env Φ Ψ :=
  we_and ((ha _ h).mono fun d z ⟨r, hd, h1, h2⟩ => ⟨r, hd, fun e => by
    intro W tk σ F H st hx Q' hQ'
    refine hb _ (h1 e) W tk σ F H st hx Q' fun d z v F' H' ⟨r2, hd2, h3⟩ s1 e1 r1 => ?_
    subst hd2
    have := rd_bl r1
    subst this
    exact hQ' _ true _ F' H' (k _ h3) s1 e1 (.bl _), fun e => k _ (h2 e)⟩)
theorem we_ifS {m1 m2 : KD → Prop} {Q : KD} {Φ : PyData → Bool → Prop} (h : ifM mt m1 m2 Q) (ht : ∀ Q, mt Q → WT X g c env Q Ψ) (h1 : ∀ Q, m1 Q → WE X g a env (fun d z => z = true ∧ Q d) Ψ) (h2 : ∀ Q, m2 Q → WE X g b env (fun d z => z = true ∧ Q d) Ψ) (k : ∀ d, Q d → Φ d true) : WE X g (.IfExp c a b pos) env Φ Ψ :=
  we_if ((ht _ h).mono fun r ⟨q1, q2⟩ => ⟨fun e => (h1 _ (q1 e)).mono fun d z ⟨hz, hd⟩ => hz ▸ k d hd, fun e => (h2 _ (q2 e)).mono fun d z ⟨hz, hd⟩ => hz ▸ k d hd⟩)
end
section
variable {t : TG} {A : PyData → Option (List (Nat × PyData))} {τ υ : Type}
theorem forS {bd : PyData → τ → (τ → Prop) → (τ → Prop) → Prop} {Q : τ → Prop} {xs : List PyData} {s0 : τ} (h : forM bd Q xs s0) (mk : τ → υ → List Sl) (u0 : υ) (h0 : env = mk s0 u0) (hend : ∀ s u, Q s → P.nx (mk s u))
    (hturn : (∀ s u, Q s → P.nx (mk s u)) → ∀ x s u (N : τ → Prop), bd x s N Q → ∃ l, A x = some l ∧ (l.all fun q => Nat.blt q.1 (mk s u).length) = true ∧ WS X g body (putsE (mk s u) l) (P.turn fun e => ∃ s' u', N s' ∧ e = mk s' u')) :
    ∃ Pv : Nat → List Sl → Prop, Pv 0 env ∧ (∀ i x, xs[i]? = some x → FT X g body A P Pv i x) ∧ ∀ e, Pv xs.length e → P.nx e := by
  refine ⟨fun i e => ∃ s u, forM bd Q (xs.drop i) s ∧ e = mk s u, ⟨s0, u0, h, h0⟩, fun i x hx e ⟨s, u, hf, he⟩ => ?_, fun e ⟨s, u, hf, he⟩ => ?_⟩
  · subst he
    have hi := (List.getElem?_eq_some_iff.mp hx).1
    have ed : xs.drop i = x :: xs.drop (i + 1) := by
      rw [List.drop_eq_getElem_cons hi]
      congr 1
      exact (List.getElem?_eq_some_iff.mp hx).2
    rw [ed] at hf
    obtain ⟨l, h1, h2, h3⟩ := hturn hend x s u _ hf
    exact ⟨l, h1, h2, h3⟩
  · subst he
    rw [List.drop_length] at hf
    exact hend s u hf
theorem whileS {st : τ → (τ → Prop) → (τ → Prop) → Prop} {Q : τ → Prop} {s0 : τ} (h : ∃ n, whileM st Q n s0) (hp : PassesOwn (model X.prog X.w) X.A X.env X.xe) (mk : τ → υ → List Sl) (u0 : υ) (h0 : env = mk s0 u0) (hend : ∀ s u, Q s → P.nx (mk s u))
    (hturn : (∀ s u, Q s → P.nx (mk s u)) → ∀ s u (N : τ → Prop), st s N Q → WT X g c (mk s u) (fun k => (k = true → WS X g body (mk s u) (P.turn fun e => ∃ s' u', N s' ∧ e = mk s' u')) ∧ (k = false → P.nx (mk s u))) (fun c => P.ex c (mk s u))) : W1 X g (.While c body [] pos) env P := by
  obtain ⟨n, h⟩ := h
  refine w1_while hp (fun m e => ∃ s u, whileM st Q m s ∧ e = mk s u) n ⟨s0, u0, h, h0⟩ fun m e ⟨s, u, hw, he⟩ => ?_
  subst he
  cases m with
  | zero => exact hw.elim
  | succ m =>
    refine (hturn hend s u _ hw).mono fun k ⟨h1, h2⟩ => ⟨fun e => ?_, h2⟩
    exact (h1 e).mono (fun e ⟨s', u', h3, h4⟩ => ⟨m, Nat.lt_succ_self _, s', u', h3, h4⟩) (fun _ _ h => h) (fun _ h => h) (fun e ⟨s', u', h3, h4⟩ => ⟨m, Nat.lt_succ_self _, s', u', h3, h4⟩) (fun _ _ h => h)
theorem lcS {bd : PyData → KD → Prop → Prop} {Q : KL} {xs : List PyData} {scope : Scope} {ifs : List Expr} {elt : Expr} {vs : List Nat} {Φ : List PyData → Prop} (h : lcM bd Q xs []) 
    (ht : ∀ x (kp : KD) (sk : Prop), bd x kp sk → ∃ l, A x = some l ∧ (l.all fun q => vs.elem q.1 && Nat.blt q.1 env.length) = true ∧ ∀ (g' : G) s H0 C cl fp, WTs (BX X scope s H0 C cl fp) g' ifs (putsE (wipeE env vs) l) (fun b =>
      (b = true → ∀ s H0 C cl fp, WE (BX X scope s H0 C cl fp) g' elt (putsE (wipeE env vs) l) (fun y z => z = true ∧ kp y) (fun _ => False)) ∧ (b = false → sk))) (k : ∀ acc, Q acc → Φ acc) :
    ∃ Pv : Nat → List PyData → Prop, Pv 0 [] ∧ (∀ i x, xs[i]? = some x → LT2 X env scope ifs elt vs A Pv i x) ∧ ∀ acc, Pv xs.length acc → Φ acc := by
  refine ⟨fun i acc => lcM bd Q (xs.drop i) acc, h, fun i x hx acc hq => ?_, fun acc hq => k acc (by
    have hq : lcM bd Q (xs.drop xs.length) acc := hq
    rw [List.drop_length] at hq; exact hq)⟩
  have hi := (List.getElem?_eq_some_iff.mp hx).1
  have ed : xs.drop i = x :: xs.drop (i + 1) := by
    rw [List.drop_eq_getElem_cons hi]
    congr 1
    exact (List.getElem?_eq_some_iff.mp hx).2
  have hq : lcM bd Q (xs.drop i) acc := hq
  rw [ed] at hq
  exact ht x _ _ hq
end
/-- behind ways that come together -/
theorem ws_joinS {τ υ : Type} {st : Stmt} {bd : (τ → Prop) → Prop} {Q : τ → Prop} (h : joinM bd Q) (mk : τ → υ → List Sl) (h1 : ∀ Q, bd Q → W1 X g st env (P.thn fun e => ∃ s u, Q s ∧ e = mk s u)) (h2 : ∀ s u, Q s → WS X g rest (mk s u) P) : WS X g (st :: rest) env P :=
  ws_mid (fun e => ∃ s u, Q s ∧ e = mk s u) (h1 Q h) fun e ⟨s, u, hq, he⟩ => he ▸ h2 s u hq
end
end TL
namespace TL
open PySem PySem.Spec PyProof.Rows L2
section
variable {X : Cx} {g : G} {env env' : List Sl} {Ψ : Exc → Prop} {P : Po} {pos p lp : Pos} {a b c e tg iter : Expr} {es : List Expr} {rest body : List Stmt} {K : Frag} {F F' H H' : Hp} {σ σ' : SS} {x y : PyData} {z1 z2 : Bool}
theorem into_ob {Q : Int → Prop} (h : intO x Q) : ∃ i, x = .int i ∧ Q i := into_sh h fun _ h => h
theorem rng_sh {lo hi : PyData} {Q Φ : KL} (h : rngM lo hi Q) (k : ∀ r, Q r → Φ r) : rngM lo hi Φ := by
  unfold rngM at *
  split at h
  · exact ⟨h.1, k _ h.2⟩
  · exact h.elim
theorem it_sh {Q Φ : KL} (h : itM x Q) (k : ∀ r, Q r → Φ r) : itM x Φ := by
  unfold itM at *
  split at h
  · exact k _ h
  · exact k _ h
  · exact ⟨h.1, k _ h.2⟩
  · exact h.elim
theorem ch_sh2 {ma mb : KB → Prop} {Q Φ : KB} {r r' : R2} (h : andM ma mb Q) (h1 : ∀ Q, ma Q → ∃ k, CP X.K g env r x z1 y z2 k ∧ Q k) (h2 : ∀ Q, mb Q → WE X g c env (fun d3 z3 => ∃ k', CP X.K g env r' y z2 d3 z3 k' ∧ Q k') Ψ) (k : ∀ b, Q b → Φ b) :
    ∃ k, CP X.K g env r x z1 y z2 k ∧ (k = true → WE X g c env (fun d3 z3 => ∃ k', CP X.K g env r' y z2 d3 z3 k' ∧ Φ k') Ψ) ∧ (k = false → Φ false) := by
  obtain ⟨b, hb, q1, q2⟩ := h1 _ h
  exact ⟨b, hb, fun e => (h2 _ (q1 e)).mono fun d z ⟨k', c1, c2⟩ => ⟨k', c1, k _ c2⟩, fun e => k _ (q2 e)⟩
theorem ws_freeze (i : Nat) {al : Addr} {ds : List PyData} (ha : al ∉ g.M) (h : WS X g rest (env.set i (.d (.list ds))) P) (he : env[i]? = some (.ol al ds) := by rfl) : WS X g rest env P := fun W tk hx2 σ F H st D hD => by
  obtain ⟨h1, vs, h2, h3⟩ := st.sl i _ he
  have own : Own env al := ⟨i, _, he, by simp [Sl.fp]⟩
  have hi := (List.getElem?_eq_some_iff.mp he).1
  have s1 := st.weak (s' := .un) he (fun _ h => by cases h) fun _ => trivial
  have no : ¬ Own (env.set i .un) al := fun z => by
    obtain ⟨j, t, ej, ht⟩ := z
    rcases set_get ej with ⟨_, rfl⟩ | ⟨ne, ej⟩
    · cases ht
    · exact ne (st.nd i j _ t al he ej (by simp [Sl.fp]) ht)
  have h0 : g.H0 al = none := by
    rcases st.g2 al own with z | z
    · exact z
    · exact absurd z ha
  have e2 := Ex.new (o := .lst vs) (st.fr al own)
  have s2 := s1.freeze h2 (st.fr al own) no h0
  have hσ : σ.set i (some (.ref al)) = σ := by
    have hl : i < σ.length := by rw [st.len]; exact hi
    have e := getD_some h1
    obtain ⟨_, e'⟩ := List.getElem?_eq_some_iff.mp e
    rw [← e']
    exact List.set_getElem_self hl
  have s3 := s2.setD (i := i) (v := .ref al) (x := .list ds) (by rw [List.length_set]; exact hi) (.lst (SqL.of upd_same) (dpa_mono e2 _ _ h3))
  rw [hσ, List.set_set] at s3
  exact h W tk hx2 σ _ H s3 D (hD.mono e2)
structure GTup (K : Frag) (mg : Str → Option Value) (x : Str) (ds : List PyData) : Prop where
  ex : ∃ a vs, mg x = some (.ref a) ∧ flAll ds = some vs ∧ ∀ H, SqT K H a vs
theorem inG_run {neg : Bool} {op : CmpOp} {xn : Str} {q : Pos} {ds : List PyData} {Φ : KB} (hop : OpR X (compareOp op) (rIn X.K neg)) (hm' : behindInMarks op (.Name xn q) = false) (hG : GTup X.K X.mg xn ds) (h : WE X g a env (fun d z => inTupM d ds fun b => Φ (if neg then !b else b)) Ψ) (hg : Gl X xn) (hd : (xn == ("__debug__" : Str)) = false) : WT X g (.Compare a [op] [.Name xn q] pos) env Φ Ψ := fun W tk σ F H st hx Q hQ => by
  obtain ⟨ad, vs, hm, hf, hs⟩ := hG.ex
  refine semT_of (pt_cmpR hop (peS a) (pe_glob hg hm (v := .ref ad) rfl hd) hm') ?_
  refine h W tk σ F H st hx _ fun d z v F1 H1 hp s1 e1 r1 => ?_
  unfold inTupM at hp
  rw [hf] at hp
  cases e2 : fl d with
  | none => rw [e2] at hp; exact hp.elim
  | some v' =>
    rw [e2] at hp
    have hv := fl_dp (rd_now s1.toSk r1) e2
    subst hv
    refine ⟨ad, vs, rfl, .inr (hs H1), fl_flat e2, flAll_flat hf, _, ?_, hQ _ F1 H1 hp s1 e1⟩
    cases neg <;> rfl
theorem wt_notInG {xn : Str} {q : Pos} {ds : List PyData} {Φ : KB} (hG : GTup X.K X.mg xn ds) (h : WE X g a env (fun d z => inTupM d ds fun b => Φ (!b)) Ψ) (hg : Gl X xn := by rfl) (hd : (xn == ("__debug__" : Str)) = false := by decide) (hm' : behindInMarks .NotIn (.Name xn q) = false := by first | exact nomark _ | rfl) : WT X g (.Compare a [.NotIn] [.Name xn q] pos) env Φ Ψ :=
  inG_run (neg := true) op_notIn_seq hm' hG h hg hd
theorem inG_sh {ds : List PyData} {Q Φ : KB} (h : inTupM x ds Q) (k : ∀ r, Q r → Φ r) : inTupM x ds Φ := by
  unfold inTupM at *
  split at h
  · exact k _ h
  · exact h.elim
end
theorem Has.imp {P : Program} {w : World} {K : Frag} {mg : Str → Option Value} {base : Heap} {j : Nat} {x : Str} {ps : List Str} {S S' : CT} (h : Has P w K mg base j x ps S) (i : ∀ args Φ Ψ, S' args Φ Ψ → S args Φ Ψ) : Has P w K mg base j x ps S' := by
  obtain ⟨f, fd, h1, h2, h3, h4⟩ := h.ex
  have up : ∀ vs H Q E, spOf K ps.length S' vs H Q E → spOf K ps.length S vs H Q E := fun vs H Q E ⟨q1, F, args, Φ, Ψ, q2, q3⟩ => ⟨q1, F, args, Φ, Ψ, i _ _ _ q2, q3⟩
  exact ⟨f, fd, h1, h2, h3, ⟨fun vs H Q E q => h4.len vs H Q E (up _ _ _ _ q), fun A outer s H args us vs Q E r e b v q => h4.run A outer s H args us vs Q E r e b v (up _ _ _ _ q)⟩⟩
theorem forM_inv {α τ : Type} {bd : PyData → τ → (τ → Prop) → (τ → Prop) → Prop} {K : τ → Prop} (L : List α) (d : α → PyData) (I : Nat → τ → Prop) (h : ∀ i a, L[i]? = some a → ∀ s, I i s → ∀ N : τ → Prop, (∀ s', I (i + 1) s' → N s') → bd (d a) s N K) (hK : ∀ s, I L.length s → K s) (s0 : τ) (h0 : I 0 s0) : forM bd K (L.map d) s0 := by
  have go : ∀ (M : List α) (i : Nat), (∀ j a, M[j]? = some a → L[i + j]? = some a) → i + M.length = L.length → ∀ s, I i s → forM bd K (M.map d) s := by
    intro M
    induction M with
    | nil => intro i _ hl s hs; exact hK s (by rw [← hl]; exact hs)
    | cons a M ih =>
      intro i hM hl s hs
      refine h i a (hM 0 a rfl) s hs _ fun s' hs' => ih (i + 1) (fun j b hj => ?_) (by simp only [List.length_cons] at hl; omega) s' hs'
      have := hM (j + 1) b hj
      rwa [show i + (j + 1) = i + 1 + j by omega] at this
  exact go L 0 (fun j a hj => by rwa [Nat.zero_add]) (by simp) s0 h0
end TL
namespace TL
open PySem PySem.Spec PyProof.Rows L2
section
variable {X : Cx} {g : G} {env env' : List Sl} {Ψ : Exc → Prop} {P : Po} {pos p lp : Pos} {a b c e tg iter : Expr} {es : List Expr} {rest body : List Stmt} {K : Frag} {F F' H H' : Hp} {σ σ' : SS} {x y : PyData} {z1 z2 : Bool} {Φ : PyData → Bool → Prop}
theorem sum_m {Q Q' : KD} (h : sumM x Q) (k : ∀ r, Q r → Q' r) : sumM x Q' := by
  unfold sumM at *
  split at h
  · split at h
    · exact k _ h
    · exact h.elim
  · exact h.elim
theorem all_m {Q Q' : KD} (h : allM x Q) (k : ∀ r, Q r → Q' r) : allM x Q' := by
  unfold allM at *
  split at h
  · split at h
    · exact k _ h
    · exact h.elim
  · exact h.elim
theorem min2_m {Q Q' : KD} (h : min2M x y Q) (k : ∀ r, Q r → Q' r) : min2M x y Q' := by
  unfold min2M at *
  split at h
  · exact k _ h
  · exact h.elim
theorem max2_m {Q Q' : KD} (h : max2M x y Q) (k : ∀ r, Q r → Q' r) : max2M x y Q' := by
  unfold max2M at *
  split at h
  · exact k _ h
  · exact h.elim
theorem sort_m {Q Q' : KL} (h : sortM x Q) (k : ∀ r, Q r → Q' r) : sortM x Q' := by
  unfold sortM at *
  split at h
  · exact ⟨h.1, k _ h.2⟩
  · exact h.elim
theorem addL_m {Q Q' : KL} (h : addLM x y Q) (k : ∀ r, Q r → Q' r) : addLM x y Q' := by
  unfold addLM at *
  split at h
  · exact ⟨h.1, k _ h.2⟩
  · exact h.elim
theorem we_sumA (hm : X.mg "sum" = none) (hc : X.calm = true) (h : WE X g a env (fun d _ => sumM d fun r => Φ r true) Ψ) (hg : Gl X "sum" := by rfl) (he : starEach [a] X.env = (false, eval a X.env) :: starEach [] X.env := by rfl) (hpl : (backTo pos (starEach ([] : List Expr) X.env)).any (·.1) = false := by rfl) : WE X g (.Call (.Name "sum" p) [a] [] pos) env Φ Ψ :=
  we_sum hm hc (h.mono fun d z h => sum_sh (Φ := Φ) h fun _ h => h) hg he
theorem we_allA (hm : X.mg "all" = none) (hc : X.calm = true) (h : WE X g a env (fun d _ => allM d fun r => Φ r true) Ψ) (hg : Gl X "all" := by rfl) (he : starEach [a] X.env = (false, eval a X.env) :: starEach [] X.env := by rfl) (hpl : (backTo pos (starEach ([] : List Expr) X.env)).any (·.1) = false := by rfl) : WE X g (.Call (.Name "all" p) [a] [] pos) env Φ Ψ :=
  we_all hm hc (h.mono fun d z h => all_sh (Φ := Φ) h fun _ h => h) hg he
theorem we_min2A (hm : X.mg "min" = none) (hc : X.calm = true) (h : WE X g a env (fun d1 _ => WE X g b env (fun d2 _ => min2M d1 d2 fun r => Φ r true) Ψ) Ψ) (hg : Gl X "min" := by rfl) (he : starEach [a, b] X.env = (false, eval a X.env) :: starEach [b] X.env := by rfl) (he2 : starEach [b] X.env = (false, eval b X.env) :: starEach [] X.env := by rfl) (hpl : (backTo pos (starEach [b] X.env)).any (·.1) = false := by rfl) : WE X g (.Call (.Name "min" p) [a, b] [] pos) env Φ Ψ :=
  we_min2 hm hc (h.mono fun d z h => h.mono fun d z h => min2_sh (Φ := Φ) h fun _ h => h) hg he he2 hpl
theorem we_max2A (hm : X.mg "max" = none) (hc : X.calm = true) (h : WE X g a env (fun d1 _ => WE X g b env (fun d2 _ => max2M d1 d2 fun r => Φ r true) Ψ) Ψ) (hg : Gl X "max" := by rfl) (he : starEach [a, b] X.env = (false, eval a X.env) :: starEach [b] X.env := by rfl) (he2 : starEach [b] X.env = (false, eval b X.env) :: starEach [] X.env := by rfl) (hpl : (backTo pos (starEach [b] X.env)).any (·.1) = false := by rfl) : WE X g (.Call (.Name "max" p) [a, b] [] pos) env Φ Ψ :=
  we_max2 hm hc (h.mono fun d z h => h.mono fun d z h => max2_sh (Φ := Φ) h fun _ h => h) hg he he2 hpl
theorem wn_sortedA {k : Nat} {Φ : List PyData → Prop} (hm : X.mg "sorted" = none) (hr : Room k X.A) (h : WE X g a env (fun d _ => sortM d Φ) Ψ) (hg : Gl X "sorted" := by rfl) (he : starEach [a] X.env = (false, eval a X.env) :: starEach [] X.env := by rfl) : WN X g (.Call (.Name "sorted" p) [a] [] pos) env Φ Ψ :=
  wn_sorted hm hr (h.mono fun d z h => sort_sh (Φ := Φ) h fun _ h => h) hg he
theorem wn_addB {Φ : List PyData → Prop} (h : WE X g a env (fun d1 _ => WE X g b env (fun d2 _ => addLM d1 d2 Φ) Ψ) Ψ) : WN X g (.BinOp a .Add b pos) env Φ Ψ :=
  wn_addA (h.mono fun d z h => h.mono fun d z h => addL_sh (Φ := Φ) h fun _ h => h)
end
end TL
namespace TL
open PySem PySem.Spec PyProof.Rows L2
section
variable {i j : Int} {s t : Str} {b c : Bool} {xs ys : List PyData} {x y z u : PyData} {K : KD} {KL' : KL} {KB' : KB} {E : KX}
theorem q_add_ii : addM (.int i) (.int j) K = K (.int (i + j)) := rfl
theorem q_add_ss : addM (.str s) (.str t) K = (s.length + t.length ≤ sizeLine ∧ K (.str (s ++ t))) := rfl
theorem q_add_ll : addM (.list xs) (.list ys) K = (xs.length + ys.length ≤ sizeLine ∧ K (.list (xs ++ ys))) := rfl
theorem q_add_tt : addM (.tuple xs) (.tuple ys) K = (xs.length + ys.length ≤ sizeLine ∧ K (.tuple (xs ++ ys))) := rfl
theorem q_addL : addLM (.list xs) (.list ys) KL' = (xs.length + ys.length ≤ sizeLine ∧ KL' (xs ++ ys)) := rfl
theorem q_sub : subM (.int i) (.int j) K = K (.int (i - j)) := rfl
theorem q_mul : mulM (.int i) (.int j) K = ((CMul i j ∨ CMulW i j) ∧ K (.int (i * j))) := rfl
theorem q_div : divM (.int i) (.int j) K = (CDivW i j ∧ K (.int (i / j))) := rfl
theorem q_mod : modM (.int i) (.int j) K = (0 < j ∧ K (.int (i % j))) := rfl
theorem q_neg : negM (.int i) K = K (.int (-i)) := rfl
theorem q_bool : boolM (.bool b) KB' = KB' b := rfl
theorem q_eq_ii : eqM (.int i) (.int j) KB' = KB' (decide (i = j)) := rfl
theorem q_eq_ss : eqM (.str s) (.str t) KB' = KB' (decide (s = t)) := rfl
theorem q_eq_bb : eqM (.bool b) (.bool c) KB' = KB' (decide (b = c)) := rfl
theorem q_ne_ii : neM (.int i) (.int j) KB' = KB' (!decide (i = j)) := rfl
theorem q_ne_ss : neM (.str s) (.str t) KB' = KB' (!decide (s = t)) := rfl
theorem q_ne_bb : neM (.bool b) (.bool c) KB' = KB' (!decide (b = c)) := rfl
theorem q_lt : ltM (.int i) (.int j) KB' = KB' (decide (i < j)) := rfl
theorem q_le : leM (.int i) (.int j) KB' = KB' (decide (i ≤ j)) := rfl
theorem q_gt : gtM (.int i) (.int j) KB' = KB' (decide (j < i)) := rfl
theorem q_ge : geM (.int i) (.int j) KB' = KB' (decide (j ≤ i)) := rfl
theorem q_un2 {K : PyData → PyData → Prop} : un2 (.tuple [x, y]) K = K x y := rfl
theorem q_un3 {K : PyData → PyData → PyData → Prop} : un3 (.tuple [x, y, z]) K = K x y z := rfl
theorem q_un4 {K : PyData → PyData → PyData → PyData → Prop} : un4 (.tuple [x, y, z, u]) K = K x y z u := rfl
theorem q_intO {K : Int → Prop} : intO (.int i) K = K i := rfl
theorem q_ix_t : ixM (.tuple xs) (.int i) K = (match atI xs i with
    | some y => K y
    | none => False) := rfl
theorem q_len_l : lenM (.list xs) K = K (.int xs.length) := rfl
theorem q_len_t : lenM (.tuple xs) K = K (.int xs.length) := rfl
theorem q_len_s : lenM (.str s) K = (s.length ≤ sizeLine ∧ K (.int s.length)) := rfl
theorem q_abs : absM (.int i) K = K (.int (if i < 0 then -i else i)) := rfl
theorem q_int_i : intM (.int i) K = K (.int i) := rfl
theorem q_int_b : intM (.bool b) K = K (.int (if b then 1 else 0)) := rfl
theorem q_tup_l : tupM (.list xs) K = K (.tuple xs) := rfl
theorem q_tup_t : tupM (.tuple xs) K = K (.tuple xs) := rfl
theorem q_list_l : listM (.list xs) KL' = KL' xs := rfl
theorem q_list_t : listM (.tuple xs) KL' = KL' xs := rfl
theorem q_min : min2M (.int i) (.int j) K = K (.int (if j < i then j else i)) := rfl
theorem q_max : max2M (.int i) (.int j) K = K (.int (if j > i then j else i)) := rfl
theorem q_it_l : itM (.list xs) KL' = KL' xs := rfl
theorem q_it_t : itM (.tuple xs) KL' = KL' xs := rfl
theorem q_rng : rngM (.int i) (.int j) KL' = ((-1000000 ≤ i ∧ i ≤ 1000000 ∧ -1000000 ≤ j ∧ j ≤ 1000000) ∧ KL' (rangeL i j)) := rfl
theorem q_enu_l : enuM (.list xs) KL' = KL' (enumL xs) := rfl
theorem q_enu_t : enuM (.tuple xs) KL' = KL' (enumL xs) := rfl
theorem q_rev : revM (.list xs) KL' = KL' xs.reverse := rfl
theorem q_sl_l {lo hi : Option Int} : slM (.list xs) lo hi K = K (.list (cut xs lo hi)) := rfl
theorem q_sl_t {lo hi : Option Int} : slM (.tuple xs) lo hi K = K (.tuple (cut xs lo hi)) := rfl
theorem q_sl_s {lo hi : Option Int} : slM (.str s) lo hi K = (s.length ≤ sizeLine ∧ K (.str (cutS s lo hi))) := rfl
theorem q_slL {lo hi : Option Int} : slLM (.list xs) lo hi KL' = KL' (cut xs lo hi) := rfl
theorem q_all (ns : List Bool) : allM (.list (ns.map .bool)) K = K (.bool (ns.all id)) := by
  show (match boolsOf (ns.map .bool) with | some ns => K (.bool (ns.all id)) | none => False) = _
  rw [bools_of]
theorem q_any (ns : List Bool) : anyM (.list (ns.map .bool)) K = K (.bool (ns.any id)) := by
  show (match boolsOf (ns.map .bool) with | some ns => K (.bool (ns.any id)) | none => False) = _
  rw [bools_of]
theorem q_sum (ns : List Int) : sumM (.list (ns.map .int)) K = K (.int ns.sum) := by
  show (match intsOf (ns.map .int) with | some ns => K (.int ns.sum) | none => False) = _
  rw [ints_of]
theorem q_sort_pp (L : List (Int × Int)) : sortM (.list (L.map ppD)) KL' = KL' (srt (L.map ppD)) := by
  unfold sortM
  exact propext ⟨fun h => h.2, fun h => ⟨⟨pairs_alike _, pairs_sortable _, pairs_depth _⟩, h⟩⟩
theorem q_and {b1 b2 : Bool} : andM (fun Q => Q b1) (fun Q => Q b2) KB' = KB' (b1 && b2) := by
  unfold andM; cases b1 <;> simp
theorem q_or {b1 b2 : Bool} : orM (fun Q => Q b1) (fun Q => Q b2) KB' = KB' (b1 || b2) := by
  unfold orM; cases b1 <;> simp
theorem q_and' {ma mb : KB → Prop} {b1 : Bool} (h : ∀ Q, ma Q = Q b1) {b2 : Bool} (h2 : b1 = true → ∀ Q, mb Q = Q b2) : andM ma mb KB' = KB' (b1 && b2) := by
  unfold andM; rw [h]; cases b1
  · simp
  · rw [h2 rfl]; simp
theorem q_ite {b : Bool} {A B : Prop} : ((b = true → A) ∧ (b = false → B)) = cond b A B := by cases b <;> simp
theorem q_join {σ : Type} {bd : (σ → Prop) → Prop} {K : σ → Prop} : joinM bd K = bd K := rfl
theorem q_lc_cons {β : Type} {bd : PyData → (β → Prop) → Prop → Prop} {K : List β → Prop} {acc : List β} : lcM bd K (x :: xs) acc = bd x (fun y => lcM bd K xs (acc ++ [y])) (lcM bd K xs acc) := rfl
theorem q_for_cons {σ : Type} {bd : PyData → σ → (σ → Prop) → (σ → Prop) → Prop} {K : σ → Prop} {s : σ} : forM bd K (x :: xs) s = bd x s (fun s' => forM bd K xs s') K := rfl
/-- a comprehension told at once -/
theorem q_lc_map {α β : Type} {bd : PyData → (β → Prop) → Prop → Prop} {K : List β → Prop} (L : List α) (d : α → PyData) (f : α → β) (h : ∀ a ∈ L, ∀ k s, bd (d a) k s = k (f a)) (acc : List β) : lcM bd K (L.map d) acc = K (acc ++ L.map f) := by
  induction L generalizing acc with
  | nil => rw [List.map_nil, List.map_nil, List.append_nil]; rfl
  | cons a L ih =>
    rw [List.map_cons, q_lc_cons, h a (by simp), ih fun b hb => h b (List.mem_cons_of_mem _ hb)]
    simp
/-- a loop whose states are known, one after the other -/
theorem q_for_seq {α τ : Type} {bd : PyData → τ → (τ → Prop) → (τ → Prop) → Prop} {K : τ → Prop} (L : List α) (d : α → PyData) (S : Nat → τ) (h : ∀ i a, L[i]? = some a → ∀ N : τ → Prop, bd (d a) (S i) N K = N (S (i + 1))) : forM bd K (L.map d) (S 0) = K (S L.length) := by
  have go : ∀ (M : List α) (i : Nat), (∀ j a, M[j]? = some a → L[i + j]? = some a) → i + M.length = L.length → forM bd K (M.map d) (S i) = K (S L.length) := by
    intro M
    induction M with
    | nil => intro i _ hl; rw [← hl]; rfl
    | cons a M ih =>
      intro i hM hl
      rw [List.map_cons, q_for_cons, h i a (hM 0 a rfl)]
      refine ih (i + 1) (fun j b hj => ?_) (by simp only [List.length_cons] at hl; omega)
      have := hM (j + 1) b hj
      rwa [show i + (j + 1) = i + 1 + j by omega] at this
  exact go L 0 (fun j a hj => by rwa [Nat.zero_add]) (by simp)
theorem range0 (n : Int) : rangeL 0 n = (List.range n.toNat).map fun (i : Nat) => PyData.int i := by unfold rangeL; simp
end
end TL
namespace TL
open PySem PySem.Spec PyProof.Rows L2 He
abbrev XF := PySem.W.Frag → Bool
def obsX (ex : List XF) (fa : List Fa) (fn : List DefD) (K : PySem.W.Frag) : AlD := ((obsD fa fn K).1 && ex.all fun e => e K, (obsD fa fn K).2)
def SaysX (ex : List XF) (fa : List Fa) (fn : List DefD) (K : PySem.W.Frag) : Prop := obsX ex fa fn K = valD fn
section
variable {ex : List XF} {fa : List Fa} {fn : List DefD} {K : PySem.W.Frag} {mg : Str → Option Value} {h : Heap}
theorem SaysX.d (c : SaysX ex fa fn K) : SaysD fa fn K := by
  have c1 : ((obsD fa fn K).1 && ex.all fun e => e K) = true := congrArg (fun z : AlD => z.1) c
  have c2 : (obsD fa fn K).2 = fn.map DefD.val := congrArg (fun z : AlD => z.2) c
  exact Prod.ext (ba c1).1 c2
theorem SaysX.xf (c : SaysX ex fa fn K) (i : Nat) {e : XF} (h : ex[i]? = some e := by rfl) : e K = true := by
  have c1 : ((obsD fa fn K).1 && ex.all fun e => e K) = true := congrArg (fun z : AlD => z.1) c
  exact List.all_eq_true.mp (ba c1).2 e (List.mem_of_getElem? h)
theorem gtup_ok (X : K.In h) (G : h.Ns mainGlobals mg) {x : Str} {vs : List Dv} {ds : List PyData} (c : (Fa.glo x).ok K = true) (t : tupB K x vs = true) (hd : flAll ds = some (vs.map (Dv.v K)) := by rfl) : GTup K mg x ds :=
  ⟨ga K x, _, glo_ok X G c, hd, fun H => tupB_ok t H⟩
end
end TL
namespace TL
open PySem PySem.Spec PyProof.Rows L2
abbrev ooS (a : Addr) (as : List Addr) (ds : List (List PyData)) : Sl := .oo a (as.zip ds)
def rowM (ds : List (List PyData)) : PyData → KL → Prop
  | .int n, K => match atI ds n with
    | some l => K l
    | none => False
  | _, _ => False
def rowAppM (ds : List (List PyData)) : PyData → PyData → (List (List PyData) → Prop) → Prop
  | .int n, y, K => match ixN ds.length n with
    | some j => match ds[j]? with
      | some l => l.length < sizeLine ∧ K (ds.set j (l ++ [y]))
      | none => False
    | none => False
  | _, _, _ => False
section
variable {X : Cx} {g : G} {env env' : List Sl} {Ψ : Exc → Prop} {P : Po} {pos p lp : Pos} {a b c e tg iter : Expr} {es : List Expr} {rest body : List Stmt} {K : Frag} {F F' H H' : Hp} {σ σ' : SS} {x y : PyData} {z1 z2 : Bool} {Φ : PyData → Bool → Prop}
theorem rowApp_m {ds : List (List PyData)} {Q Q' : List (List PyData) → Prop} (h : rowAppM ds x y Q) (k : ∀ r, r.length = ds.length → Q r → Q' r) : rowAppM ds x y Q' := by
  unfold rowAppM at *
  split at h
  · split at h
    · split at h
      · exact ⟨h.1, k _ (by rw [List.length_set]) h.2⟩
      · exact h.elim
    · exact h.elim
  · exact h.elim
theorem row_m {ds : List (List PyData)} {Q Q' : KL} (h : rowM ds x Q) (k : ∀ r, Q r → Q' r) : rowM ds x Q' := by
  unfold rowM at *
  split at h
  · split at h
    · exact k _ h
    · exact h.elim
  · exact h.elim
theorem row_ob {ds : List (List PyData)} {Q : KL} (h : rowM ds x Q) : ∃ n l, x = .int n ∧ atI ds n = some l ∧ Q l := by
  unfold rowM at h
  split at h
  · split at h
    · rename_i e; exact ⟨_, _, rfl, e, h⟩
    · exact h.elim
  · exact h.elim
/-- for, with a side word about state and objects -/
theorem forSC {A : PyData → Option (List (Nat × PyData))} {τ υ : Type} {bd : PyData → τ → (τ → Prop) → (τ → Prop) → Prop} {Q : τ → Prop} {xs : List PyData} {s0 : τ} (h : forM bd Q xs s0) (mk : τ → υ → List Sl) (C : τ → υ → Prop) (u0 : υ) (h0 : env = mk s0 u0) (c0 : C s0 u0) (hend : ∀ s u, C s u → Q s → P.nx (mk s u))
    (hturn : (∀ s u, C s u → Q s → P.nx (mk s u)) → ∀ x s u (N : τ → Prop), C s u → bd x s N Q → ∃ l, A x = some l ∧ (l.all fun q => Nat.blt q.1 (mk s u).length) = true ∧ WS X g body (putsE (mk s u) l) (P.turn fun e => ∃ s' u', N s' ∧ C s' u' ∧ e = mk s' u')) :
    ∃ Pv : Nat → List Sl → Prop, Pv 0 env ∧ (∀ i x, xs[i]? = some x → FT X g body A P Pv i x) ∧ ∀ e, Pv xs.length e → P.nx e := by
  refine ⟨fun i e => ∃ s u, forM bd Q (xs.drop i) s ∧ C s u ∧ e = mk s u, ⟨s0, u0, h, c0, h0⟩, fun i x hx e ⟨s, u, hf, hc, he⟩ => ?_, fun e ⟨s, u, hf, hc, he⟩ => ?_⟩
  · subst he
    have hi := (List.getElem?_eq_some_iff.mp hx).1
    have ed : xs.drop i = x :: xs.drop (i + 1) := by
      rw [List.drop_eq_getElem_cons hi]
      congr 1
      exact (List.getElem?_eq_some_iff.mp hx).2
    rw [ed] at hf
    obtain ⟨l, h1, h2, h3⟩ := hturn hend x s u _ hc hf
    exact ⟨l, h1, h2, h3⟩
  · subst he
    rw [List.drop_length] at hf
    exact hend s u hc hf
/-- x[k], a row -/
theorem we_ixOO (i : Nat) {al : Addr} {as : List Addr} {ds : List (List PyData)} {xn : Str} {q : Pos} (hl : as.length = ds.length) (h : WE X g a env (fun d _ => rowM ds d fun l => Φ (.list l) false) Ψ) (he : env[i]? = some (ooS al as ds) := by rfl) (hN : X.N[i]? = some xn := by rfl)
    (hv : Vis X.env.scope xn := by first | exact Or.inl rfl | exact Or.inr (Or.inl rfl) | exact Or.inr (Or.inr rfl)) (hd : (xn == ("__debug__" : Str)) = false := by decide)
    (hcd : (xn == ("__classdict__" : Str)) = false := by decide) (hs : PlainIx a := by exact fun _ _ => rfl) : WE X g (.Subscript (.Name xn q) a pos) env Φ Ψ := fun W tk σ F H st hx Q hQ => by
  refine semE_of (pe_ix ix_list (pe_var hN hv hd hcd) (peS a) hs) ?_
  obtain ⟨h1, _⟩ := st.sl i _ he
  refine ⟨_, getD_some h1, ?_⟩
  refine h W tk σ F H st hx _ fun d z v F1 H1 hr s1 e1 r1 => ?_
  have hr : rowM ds d fun l => Φ (.list l) false := hr
  obtain ⟨n, l, rfl, hat, hr⟩ := row_ob hr
  obtain ⟨_, h2, h3, h4⟩ := s1.sl i _ he
  obtain ⟨j, hj, hjl⟩ : ∃ j, ixN ds.length n = some j ∧ ds[j]? = some l := by
    unfold atI at hat
    obtain ⟨j, h5, h6⟩ := Option.bind_eq_some_iff.mp hat
    exact ⟨j, h5, h6⟩
  obtain ⟨hj1, hj2⟩ := List.getElem?_eq_some_iff.mp hjl
  have hz : (as.zip ds)[j]? = some (as[j]'(by omega), l) := by
    rw [List.getElem?_eq_getElem (by rw [List.length_zip]; omega), List.getElem_zip, hj2]
  have hat2 : atI ((as.zip ds).map fun r => V.ref r.1) n = some (.ref (as[j]'(by omega))) := by
    have e1 : ((as.zip ds).map fun r => V.ref r.1).length = ds.length := by rw [List.length_map, List.length_zip]; omega
    unfold atI
    rw [e1, hj]
    show ((as.zip ds).map fun r => V.ref r.1)[j]? = _
    rw [List.getElem?_map, hz]; rfl
  exact ⟨al, _, n, _, rfl, rd_int r1, SqL.of h2, hat2, hQ _ false _ F1 H1 hr s1 e1 ⟨_, l, .inr (.inl ⟨i, al, _, he, List.mem_of_getElem? hz⟩), rfl, rfl⟩⟩
/-- an object of a slot, one of several, is changed in place -/
theorem St.writeIn {i : Nat} {q : Addr} {s s' : Sl} {o' : HO} (st : St K g F H σ env) (hs : env[i]? = some s) (ha : q ∈ s.fp) (ha' : s'.fp = s.fp) (h : SlOk K F (upd H q o') (σ[i]?.getD none) s') (ht : ∀ vs, o' ≠ .tup vs := by intro _ z; cases z) : St K g F (upd H q o') σ (env.set i s') := by
  have own : Own env q := ⟨i, s, hs, ha⟩
  have hF : F q = none := st.fr q own
  have sub : ∀ b, Own (env.set i s') b → Own env b := fun b hb => by
    rcases own_set hb with h1 | h1
    · rw [ha'] at h1; exact ⟨i, s, hs, h1⟩
    · exact h1
  have oth : ∀ (j : Nat) (t : Sl), i ≠ j → env[j]? = some t → q ∉ t.fp := fun j t ne e ht => ne (st.nd i j s t q hs e ha ht)
  refine { len := by rw [List.length_set]; exact st.len, sl := fun j t e => ?_, nd := fun j k t u b ej ek ht hu => ?_, fr := fun b hb => st.fr b (sub b hb), ex := st.ex.mut hF, tf := fun b vs z => by
             by_cases e : b = q
             · subst e; rw [upd_same] at z; exact absurd (Option.some.inj z) (ht vs)
             · rw [upd_ne e] at z; exact st.tf b vs z, tk := st.tk.put (st.tk.ne (st.toSk.ntb own)), gt := st.gt.grow (fun b z => by
             by_cases e : b = q
             · subst e; rw [upd_same] at z; cases z
             · rw [upd_ne e] at z; exact z), g1 := fun b u z m n => ?_, g2 := fun b hb => st.g2 b (sub b hb), g3 := st.g3, g4 := st.g4, g5 := fun b m z => ?_, g6 := st.g6 }
  · rcases set_get e with ⟨rfl, rfl⟩ | ⟨ne, e⟩
    · exact h
    · refine slok_mono (Ex.refl F) (fun b hb u z => ?_) (st.sl j t e)
      have hne : b ≠ q := fun z => oth j t ne e (z ▸ hb)
      rw [upd_ne hne]; exact z
  · rcases set_get ej with ⟨rfl, rfl⟩ | ⟨ne, ej2⟩
    · rcases set_get ek with ⟨rfl, rfl⟩ | ⟨ne2, ek⟩
      · rfl
      · rw [ha'] at ht; exact st.nd _ k s u b hs ek ht hu
    · rcases set_get ek with ⟨rfl, rfl⟩ | ⟨ne2, ek⟩
      · rw [ha'] at hu; exact st.nd j _ t s b ej2 hs ht hu
      · exact st.nd j k t u b ej2 ek ht hu
  · have hne : b ≠ q := fun e => by
      subst e
      rcases st.g2 b own with h1 | h1
      · rw [h1] at z; cases z
      · exact m h1
    rw [upd_ne hne]; exact st.g1 b u z m n
  · by_cases hb : b = q
    · subst hb; rw [upd_same] at z; cases z
    · rw [upd_ne hb] at z; exact st.g5 b m z
theorem zip_set {α β : Type} : ∀ {as : List α} {bs : List β} {j : Nat} {y : β}, (as.zip (bs.set j y)).map Prod.fst = (as.zip bs).map Prod.fst
  | [], _, _, _ => rfl
  | _ :: _, [], _, _ => rfl
  | a :: as, b :: bs, 0, y => rfl
  | a :: as, b :: bs, j + 1, y => by
    show a :: (as.zip (bs.set j y)).map Prod.fst = a :: (as.zip bs).map Prod.fst
    rw [zip_set]
/-- x[k].append(e) -/
theorem w1_appendOO (i : Nat) {al : Addr} {as : List Addr} {ds : List (List PyData)} {xn : Str} {q apos cpos spos : Pos} (hl : as.length = ds.length)
    (h : WE X g a env (fun kd _ => rowM ds kd fun _ => WE X g e env (fun d z => z = true ∧ rowAppM ds kd d fun r => P.nx (env.set i (ooS al as r))) (fun c => P.ex c env)) (fun c => P.ex c env)) (he : env[i]? = some (ooS al as ds) := by rfl) (hN : X.N[i]? = some xn := by rfl)
    (hv : Vis X.env.scope xn := by first | exact Or.inl rfl | exact Or.inr (Or.inl rfl) | exact Or.inr (Or.inr rfl)) (hd : (xn == ("__debug__" : Str)) = false := by decide)
    (hcd : (xn == ("__classdict__" : Str)) = false := by decide) (hpx : PlainIx a := by exact fun _ _ => rfl)
    (hbase : attributeBase (.Subscript (.Name xn q) a spos) "append" X.env (eval (.Subscript (.Name xn q) a spos) X.env) = eval (.Subscript (.Name xn q) a spos) X.env := by rfl)
    (hfew : ((backTo cpos (starEach [e] X.env)).all (fun x => !x.1) && (backToKw cpos (keywordEach [] X.env)).all (fun x => x.1.isSome)
      && decide ([e].length + ([] : List Keyword).length + (if ([] : List Keyword).isEmpty then 0 else 1) < 30)) = true := by rfl)
    (hline : (apos.endLine == cpos.line) = true := by rfl) (hs1 : starEach [e] X.env = (false, eval e X.env) :: starEach [] X.env := by rfl) (hplain : (backTo cpos (starEach ([] : List Expr) X.env)).any (·.1) = false := by rfl)
    (hs : swapsWith (.Call (.Attribute (.Subscript (.Name xn q) a spos) "append" apos) [e] [] cpos) none pos.line X.env = pure false := by rfl) :
    W1 X g (.Expr (.Call (.Attribute (.Subscript (.Name xn q) a spos) "append" apos) [e] [] cpos) pos) env P := fun W tk hx2 σ F H s0 D hD => by
  refine semP_of (ps_expr (pe_bm PySem.F.plainAttrs_list PySem.F.slot_list_append PySem.F.type_list_append mt_append (pe_ix ix_list (pe_var hN hv hd hcd) (peS a) hpx) (pa_cons (peS e) pa_nil hs1) hbase hfew hline hs1 hplain) hs) ?_
  obtain ⟨h1, _⟩ := s0.sl i _ he
  refine ⟨_, getD_some h1, ?_⟩
  refine h W tk σ F H s0 (hx2.hx env σ) _ fun kd z v F1 H1 hr s1 e1 r1 => ?_
  have hr : rowM ds kd fun _ => WE X g e env (fun d z => z = true ∧ rowAppM ds kd d fun r => P.nx (env.set i (ooS al as r))) (fun c => P.ex c env) := hr
  obtain ⟨n, l, rfl, hat, hr⟩ := row_ob hr
  obtain ⟨j, hj, hjl⟩ : ∃ j, ixN ds.length n = some j ∧ ds[j]? = some l := by
    unfold atI at hat
    obtain ⟨j, h5, h6⟩ := Option.bind_eq_some_iff.mp hat
    exact ⟨j, h5, h6⟩
  obtain ⟨hj1, hj2⟩ := List.getElem?_eq_some_iff.mp hjl
  have hz : (as.zip ds)[j]? = some (as[j]'(by omega), l) := by
    rw [List.getElem?_eq_getElem (by rw [List.length_zip]; omega), List.getElem_zip, hj2]
  have hat2 : atI ((as.zip ds).map fun r => V.ref r.1) n = some (.ref (as[j]'(by omega))) := by
    have e1 : ((as.zip ds).map fun r => V.ref r.1).length = ds.length := by rw [List.length_map, List.length_zip]; omega
    unfold atI
    rw [e1, hj]
    show ((as.zip ds).map fun r => V.ref r.1)[j]? = _
    rw [List.getElem?_map, hz]; rfl
  obtain ⟨_, h2, h3, h4⟩ := s1.sl i _ he
  refine ⟨al, _, n, _, rfl, rd_int r1, SqL.of h2, hat2, ?_⟩
  obtain ⟨vs, h5, _⟩ := h4 _ (List.mem_of_getElem? hz)
  refine ⟨.inl ⟨rfl, vs, SqL.of h5⟩, ?_⟩
  refine hr W tk σ F1 H1 s1 (hx2.hx env σ) _ fun d z w F2 H2 ⟨hz2, hp⟩ s2 e2 r2 => ?_
  subst hz2
  unfold rowAppM at hp
  simp only [hj, hjl] at hp
  obtain ⟨hlen, hp⟩ := hp
  obtain ⟨q1, q2, q3, q4⟩ := s2.sl i _ he
  obtain ⟨us, q5, q6⟩ := q4 _ (List.mem_of_getElem? hz)
  refine ⟨_, us, w, rfl, rfl, q5, by rw [dpa_len q6]; exact hlen, ?_⟩
  have hmem : as[j]'(by omega) ∈ (as.zip ds).map (·.1) := List.mem_map.mpr ⟨_, List.mem_of_getElem? hz, rfl⟩
  have fpe : (ooS al as (ds.set j (l ++ [d]))).fp = (ooS al as ds).fp := by
    show al :: (as.zip (ds.set j (l ++ [d]))).map Prod.fst = al :: (as.zip ds).map Prod.fst
    rw [zip_set]
  have nd := List.nodup_cons.mp q3
  have hne : as[j]'(by omega) ≠ al := fun z => nd.1 (z ▸ hmem)
  refine hD.nx _ _ F2 _ hp (s2.writeIn he (List.mem_cons_of_mem _ hmem) fpe ?_) (e1.trans e2)
  refine ⟨q1, ?_, ?_, fun r hr => ?_⟩
  · rw [upd_ne (Ne.symm hne), q2]
    congr 2
    have : ∀ L : List (Addr × List PyData), (L.map fun r => V.ref r.1) = (L.map Prod.fst).map V.ref := fun L => by rw [List.map_map]; rfl
    rw [this, this, zip_set]
  · show (al :: (as.zip (ds.set j (l ++ [d]))).map Prod.fst).Nodup
    rw [zip_set]; exact q3
  · obtain ⟨k, hk⟩ := List.mem_iff_getElem?.mp hr
    have hk2 := List.getElem?_zip_eq_some.mp hk
    by_cases ek : k = j
    · subst ek
      have ea : as[k]'(by omega) = r.1 := by
        have := hk2.1
        rw [List.getElem?_eq_getElem (by omega)] at this
        exact Option.some.inj this
      have ed : r.2 = l ++ [d] := by
        have := hk2.2
        rw [List.getElem?_set_self hj1] at this
        exact (Option.some.inj this).symm
      rw [← ea, ed, upd_same]
      exact ⟨us ++ [w], rfl, dpa_app q6 (dpa_one r2)⟩
    · have hr2 : r ∈ as.zip ds := by
        refine List.mem_of_getElem? (i := k) (List.getElem?_zip_eq_some.mpr ⟨hk2.1, ?_⟩)
        have := hk2.2
        rwa [List.getElem?_set_ne (Ne.symm ek)] at this
      obtain ⟨us', z1, z2⟩ := q4 _ hr2
      have hne2 : r.1 ≠ as[j]'(by omega) := fun z => by
        have hlt : k < as.length := (List.getElem?_eq_some_iff.mp hk2.1).1
        have hnd : ((as.zip ds).map Prod.fst).Nodup := nd.2
        have hk3 : ((as.zip ds).map Prod.fst)[k]? = some r.1 := by
          rw [List.getElem?_map, List.getElem?_zip_eq_some.mpr ⟨hk2.1, by have := hk2.2; rwa [List.getElem?_set_ne (Ne.symm ek)] at this⟩]; rfl
        have hj3 : ((as.zip ds).map Prod.fst)[j]? = some r.1 := by
          rw [List.getElem?_map, hz, z]; rfl
        obtain ⟨i1, i2⟩ := List.getElem?_eq_some_iff.mp hk3
        obtain ⟨i3, i4⟩ := List.getElem?_eq_some_iff.mp hj3
        exact ek ((List.getElem_inj hnd).mp (i2.trans i4.symm))
      exact ⟨us', by rw [upd_ne hne2]; exact z1, z2⟩
/-- name = [[] for .. in ..] -/
def LJo (K : Frag) (g : G) (F1 : Hp) (σ : SS) (env : List Sl) (D : Addr) (i : Nat) (H : Hp) : Prop :=
  ∃ F as, St K g F H σ env ∧ Ex F1 F ∧ H D = some (.lst (as.map .ref)) ∧ F D = none ∧ ¬ Own env D ∧ g.H0 D = none ∧ (D :: as).Nodup ∧ as.length = i ∧ ∀ b ∈ as, H b = some (.lst []) ∧ F b = none ∧ ¬ Own env b ∧ g.H0 b = none
theorem w1_newOOc (i : Nat) {y : Str} {py elp : Pos} {scope : Scope} {own : List (Str × Nat)} {t : TG} {A : PyData → Option (List (Nat × PyData))} (hc : X.calm = true) (hN : X.N.Nodup) (ok : BlkOk X.N X.env.scope scope own) (hpg : ∀ s H C cl fp, PG (BX X scope s H C cl fp) tg t) (htd : TGd X.K t A) (hwo : wipeOk env (own.map (·.2)) = true)
    (h : WI X g tg iter env (fun xs => (∀ x ∈ xs, ∃ l, A x = some l ∧ (l.all fun q => (own.map (·.2)).elem q.1 && Nat.blt q.1 env.length) = true) ∧ ∀ q as, q ∉ g.M → as.length = xs.length → P.nx (env.set i (ooS q as (List.replicate xs.length [])))) (fun c => P.ex c env))
    (hy : X.N[i]? = some y := by rfl) (hx : Loc X.env.scope y := by first | exact Or.inl rfl | exact Or.inr rfl) (hl : Nat.blt i env.length = true := by rfl)
    (hsw : swapsWith (.ListComp (.List [] elp) [⟨tg, iter, [], 0⟩] scope pos) (some (.Name y py)) p.line X.env = pure false := by rfl) (hf : X.fn y = true ∨ X.env.scope.names.lookup y = some .local := by first | exact .inl rfl | exact .inr rfl) (hs : ∀ x, foldedSetIterable iter X.env x = pure x := by intro _; rfl) :
    W1 X g (.Assign [.Name y py] (.ListComp (.List [] elp) [⟨tg, iter, [], 0⟩] scope pos) p) env P := fun W tk hx2 σ F H s0 D hD => by
  refine semP_of (ps_set hN hy hx (pe_lc hc hN piS ok hpg (ptsB (by decide)) peB hs) hsw hf) ?_
  refine h W tk σ F H s0 (hx2.hx env σ) _ fun xs J F1 H1 ⟨hA, hp⟩ hlen s1 e1 ⟨GG, Y, hw, hG, hyy⟩ => fun D' hD' => ?_
  have st2 : St X.K g F1 (upd H1 D' (.lst [])) (wipe σ (own.map (·.2))) (wipeE env (own.map (·.2))) := (s1.alloc hD').wiped _
  refine lc_it hw (LJo X.K g F1 (wipe σ (own.map (·.2))) (wipeE env (own.map (·.2))) D') ⟨F1, [], st2, Ex.refl F1, upd_same, s1.ex.none hD', fun z => s1.there (own_wipe z) hD', s1.h0 hD', by simp, rfl, fun b hb => by cases hb⟩ (fun i H2 _ ⟨F2, _, s3, e3, _⟩ => hG _ (e3.trans s3.ex)) (fun i x H2 H3 hi2 hJ hY => ?_) (fun H2 ⟨F2, as, s3, e3, q1, q2, q3, q4, q5, q6, q7⟩ => ?_)
  · obtain ⟨F2, as, s3, e3, q1, q2, q3, q4, q5, q6, q7⟩ := hJ
    obtain ⟨d, hd⟩ : ∃ d, xs[i]? = some d := ⟨xs[i], by simp [hi2]⟩
    obtain ⟨F3, s4, ex4, hv, exH, hF⟩ := hyy i d hd _ _ _ hY _ _ _ _ s3 e3
    obtain ⟨l, hAl, hl2⟩ := hA d (List.mem_of_getElem? hd)
    have keep : ∀ b o, H2 b = some o → F2 b = none → F3 b = none := fun b o h1 h2 => by
      cases z : F3 b with
      | none => rfl
      | some u =>
        rcases hF b (by rw [z]; intro z; cases z) with w | w
        · exact absurd h2 w
        · rw [h1] at w; cases w
    refine htd d l (wipe σ (own.map (·.2))) F3 H3 x _ hAl s4.ex hv fun r sr => ?_
    have hidx : ∀ q ∈ r, q.1 ∈ own.map (·.2) := setsP_idx sr fun q hq => (lt_idx hl2 q hq).1
    refine ⟨by rw [wipe_putsV hidx]; exact wipe_wipe σ _, ?_⟩
    unfold semTB tYes
    dsimp only
    rw [if_pos rfl]
    intro sh H0 C cl fp
    refine semE_of (pe_lst pa_nil) ?_
    refine ⟨Nat.zero_le _, fun b hb => ?_⟩
    have nD : b ≠ D' := fun z => by subst z; rw [exH _ _ q1] at hb; cases hb
    have nas : b ∉ as := fun z => by rw [exH _ _ (q7 b z).1] at hb; cases hb
    have s5 := s4.alloc (o := .lst []) hb
    refine ⟨as.map .ref, by rw [upd_ne (Ne.symm nD)]; exact exH _ _ q1, by rw [List.length_map]; omega, F3, as ++ [b], ?_, e3.trans ex4, by rw [upd_same, List.map_append]; rfl, keep D' _ q1 q2, q3, q4, ?_, by rw [List.length_append, List.length_singleton, q6], fun c hc => ?_⟩
    · exact s5.untracked (keep D' _ q1 q2) q3 q4
    · rw [← List.cons_append, List.nodup_append]
      refine ⟨q5, by simp, fun c hc e he => ?_⟩
      have he : e = b := by simpa using he
      subst he
      rcases List.mem_cons.mp hc with rfl | hc
      · exact Ne.symm nD
      · exact fun z => nas (z ▸ hc)
    · rcases List.mem_append.mp hc with hc | hc
      · obtain ⟨z1, z2, z3, z4⟩ := q7 c hc
        have h1 : c ≠ D' := fun z => (List.nodup_cons.mp q5).1 (z ▸ hc)
        have h2 : c ≠ b := fun z => nas (z ▸ hc)
        exact ⟨by rw [upd_ne h1, upd_ne h2]; exact exH _ _ z1, keep c _ z1 z2, z3, z4⟩
      · have hc : c = b := by simpa using hc
        subst hc
        exact ⟨by rw [upd_ne nD, upd_same], s4.ex.none hb, fun z => s4.there z hb, s4.h0 hb⟩
  · have s5 := s1.unwiped hwo s3 e3
    have no : ∀ b, ¬ Own (wipeE env (own.map (·.2))) b → ¬ Own env b := fun b h z => h (own_wipe' hwo z)
    have hzf : ∀ n, as.length = n → (as.zip (List.replicate n ([] : List PyData))).map Prod.fst = as := fun n hn => by
      rw [List.map_fst_zip]; rw [List.length_replicate]; omega
    refine hD.nx _ _ F2 H2 (hp D' as (fun m => s1.g6 D' m q4) q6) (s5.set (ltB hl) ?_ ?_ ?_ ?_) (e1.trans e3)
    · refine ⟨rfl, ?_, ?_, fun r hr => ?_⟩
      · rw [q1]
        congr 2
        have : ∀ L : List (Addr × List PyData), (L.map fun r => V.ref r.1) = (L.map Prod.fst).map V.ref := fun L => by rw [List.map_map]; rfl
        rw [this, hzf _ q6]
      · show (D' :: (as.zip (List.replicate xs.length [])).map Prod.fst).Nodup
        rw [hzf _ q6]; exact q5
      · obtain ⟨m1, m2⟩ := List.of_mem_zip (a := r.1) (b := r.2) hr
        rw [(List.mem_replicate.mp m2).2]
        exact ⟨[], (q7 _ m1).1, .nil⟩
    all_goals
      intro b hb
      have hb : b = D' ∨ b ∈ as := by
        have hb : b ∈ D' :: (as.zip (List.replicate xs.length [])).map Prod.fst := hb
        rw [hzf _ q6] at hb
        exact List.mem_cons.mp hb
    · rcases hb with rfl | hb
      · exact q2
      · exact (q7 b hb).2.1
    · intro j u hj hu hbu
      rcases hb with rfl | hb
      · exact no _ q3 ⟨j, u, hu, hbu⟩
      · exact no _ (q7 b hb).2.2.1 ⟨j, u, hu, hbu⟩
    · rcases hb with rfl | hb
      · exact .inl q4
      · exact .inl (q7 b hb).2.2.2
end
end TL
namespace TL
open PySem PySem.Spec PyProof.Rows L2
def isE (m n : Str) : Bool := decide (m = n) || decide (n = "PinchError")
def hdC : List (Str × Prop) → Str → Prop → Prop
  | [], _, K => K
  | (n, H) :: r, m, K => (isE m n = true → H) ∧ (isE m n = false → hdC r m K)
def hdM (kn : List Str) (hs : List (Str × Prop)) (E : Exc → Prop) : Exc → Prop
  | .own m => m ∈ kn ∧ hdC hs m (E (.own m))
  | .ownF _ _ => False
def tryM (bd : (Exc → Prop) → Prop) (kn : List Str) (hs : List (Str × Prop)) (E : Exc → Prop) : Prop := bd (hdM kn hs E)
theorem exm_nil {K : Frag} {n : Str} : ∀ m ∈ ([] : List Str), ExM K (.own m) n = some (isE m n) := fun _ h => by cases h
theorem exm_cons {K : Frag} {n a : Str} {l : List Str} {b : Bool} (h : ExM K (.own a) n = some b) (r : ∀ m ∈ l, ExM K (.own m) n = some (isE m n)) (e : isE a n = b := by rfl) : ∀ m ∈ a :: l, ExM K (.own m) n = some (isE m n) := fun m hm => by
  rcases List.mem_cons.mp hm with rfl | hm
  · rw [h, e]
  · exact r m hm
section
variable {X : Cx} {g : G} {env : List Sl} {P : Po} {pos : Pos} {body : List Stmt}
theorem w1_tryS {h₀ : ExceptHandler} {hds : List ExceptHandler} {l : List (Str × List Stmt)} {bd : (Exc → Prop) → Prop} {kn : List Str} {hs : List (Str × Prop)} {E : Exc → Prop} (hm : tryM bd kn hs E) (hr : HdR X (h₀ :: hds) l)
    (hH : ∀ m, m ∈ kn → hdC hs m (E (.own m)) → TryH X g P l (.own m) env)
    (hb : bd (hdM kn hs E) → ∀ (pn : List (Addr × Obj)) (xe : Value → Shared → Prop) (F : Hp), PassesOwn (model X.prog X.w) X.A X.env xe → WS (X.tr pn xe) { g with F0 := F } body env (P.exn fun c e => hdM kn hs E c ∧ e = env))
    (hst : X.stack = X.env :: X.outer := by rfl) (hf : X.env.frame = some X.env.locals := by rfl) : W1 X g (.Try body (h₀ :: hds) [] [] pos) env P := by
  refine w1_try hr (fun pn xe F hp => ?_) hst hf
  refine (hb hm pn xe F hp).mono (fun _ q => q) (fun _ _ q => q) (fun _ q => q) (fun _ q => q) fun c e ⟨h1, h2⟩ => ?_
  subst h2
  cases c with
  | own m => exact hH m h1.1 h1.2
  | ownF m fs => exact (show False from h1).elim
end
end TL
namespace TL
open PySem PySem.Spec PyProof.Rows L2
section
variable {X : Cx} {g : G} {env env' : List Sl} {Ψ : Exc → Prop} {P : Po} {pos p lp : Pos} {a b c e o tg iter : Expr} {es : List Expr} {rest body : List Stmt} {K : Frag} {F F' H H' : Hp} {σ σ' : SS} {x y : PyData} {z1 z2 : Bool} {k0 : Nat} {al : Addr} {xn : Str}
def popM (ds : List PyData) (K : List PyData → PyData → Prop) : Prop := ∃ ds' d, ds = ds' ++ [d] ∧ K ds' d
theorem q_pop {ds : List PyData} {d : PyData} {K : List PyData → PyData → Prop} : popM (ds ++ [d]) K = K ds d := by
  refine propext ⟨fun ⟨ds', d', e, h⟩ => ?_, fun h => ⟨ds, d, rfl, h⟩⟩
  obtain ⟨e1, e2⟩ := List.append_inj' e rfl
  cases e2
  rw [e1]; exact h
theorem dpa_snoc {ds : List PyData} {d : PyData} {vs : List V} (h : DqAll K F vs (ds ++ [d])) : ∃ us u, vs = us ++ [u] ∧ DqAll K F us ds ∧ Dq K F u d := by
  induction ds generalizing vs with
  | nil =>
    have h' : DqAll K F vs [d] := h
    cases h' with
    | cons h1 h2 => cases h2; exact ⟨[], _, rfl, .nil, h1⟩
  | cons x ds ih =>
    have h' : DqAll K F vs (x :: (ds ++ [d])) := h
    cases h' with
    | cons h1 h2 =>
      obtain ⟨us, u, e, q1, q2⟩ := ih h2
      exact ⟨_ :: us, u, by rw [e]; rfl, .cons h1 q1, q2⟩
end
end TL
namespace TL
open PySem PySem.Spec PyProof.Rows L2
section
variable {X : Cx} {g : G} {env env' : List Sl} {Ψ : Exc → Prop} {P : Po} {pos p lp : Pos} {a b c e f o tg iter : Expr} {es : List Expr} {rest body : List Stmt} {K : Frag} {F F' H H' : Hp} {σ σ' : SS} {x y : PyData} {z1 z2 : Bool} {k0 : Nat} {al : Addr} {xn : Str} {apos : Pos}
theorem rng_map (lo hi : Int) : rangeL lo hi = (List.range (hi - lo).toNat).map fun (i : Nat) => PyData.int (lo + (i : Nat)) := rfl
end
end TL
namespace TL
open PySem PySem.Spec PyProof.Rows L2
section
variable {X : Cx} {g : G} {env env' : List Sl} {Ψ : Exc → Prop} {P : Po} {pos p lp : Pos} {a b c e f o tg iter : Expr} {es : List Expr} {rest body : List Stmt} {K : Frag} {F F' H H' : Hp} {σ σ' : SS} {x y : PyData} {z1 z2 : Bool} {k0 : Nat} {al : Addr} {xn : Str} {apos : Pos}
/-- each row once -/
def dd : List (List Int) → List (List Int)
  | [] => []
  | a :: l => if a ∈ l then dd l else a :: dd l
end
end TL
namespace TL
open PySem PySem.Spec PyProof.Rows L2 LamX
theorem lamO_ntb {f c : Addr} {l : Lam} : ntb (LamO f l c) := fun _ z => by unfold LamO at z; cases z
theorem codeO_ntb {c : Addr} {q : Str} : ntb (CodeO c q) := fun _ z => by unfold CodeO at z; cases z
/-- the heap behind the making: as it was, or the table is longer by a new code object -/
inductive LmRes (H : Hp) (P : Addr) (ps : Array Value) (q : Str) (c : Addr) : Hp → Prop
  | hit (pos : Pos) : codeAmong pos ps.toList = some (.ref c) → LmRes H P ps q c H
  | new (more : Array Value) : H c = none → c ≠ P → TriplesOk (ps ++ more).toList → (∀ (pos : Pos) (cv : Value), codeAmong pos (ps ++ more).toList = some cv → codeAmong pos ps.toList = some cv ∨ cv = .ref c) →
      LmRes H P ps q c (upd (upd H P (.tbl (ps ++ more))) c (CodeO c q))
theorem upd_comm {H : Hp} {a b : Addr} {x y : HO} (h : a ≠ b) : upd (upd H a x) b y = upd (upd H b y) a x := by
  funext c
  by_cases h1 : c = b
  · subst h1; rw [upd_same, upd_ne (Ne.symm h), upd_same]
  · by_cases h2 : c = a
    · subst h2; rw [upd_ne h1, upd_same, upd_same]
    · rw [upd_ne h1, upd_ne h2, upd_ne h2, upd_ne h1]
section
variable {K : Frag} {g : G} {env : List Sl} {F H H1 : Hp} {σ : SS} {P : Addr} {ps ps' : Array Value} {q : Str}
theorem St.tabw (st : St K g F H σ env) (hP : H P = some (.tbl ps)) (ht : TriplesOk ps'.toList) (hc : ∀ q, (P, q) ∈ tabsK K → ∀ (pos : Pos) (cv : Value), codeAmong pos ps'.toList = some cv → ∃ c, cv = .ref c ∧ F c = some (CodeO c q)) : St K g F (upd H P (.tbl ps')) σ env where
  len := st.len
  sl := fun i s e => slok_mono (Ex.refl F) (fun a ha u z => by
    have ne : a ≠ P := fun y => slok_ntb (st.sl i s e) ha ps (y ▸ hP)
    rw [upd_ne ne]; exact z) (st.sl i s e)
  nd := st.nd
  fr := st.fr
  ex := fun a u z => by
    by_cases y : a = P
    · subst y
      have z2 := st.ex a u z
      rw [hP] at z2; cases z2
      exact absurd z (st.tk.fn a ps)
    · rw [upd_ne y]; exact st.ex a u z
  tf := fun a vs z => by
    by_cases y : a = P
    · subst y; rw [upd_same] at z; cases z
    · rw [upd_ne y] at z; exact st.tf a vs z
  tk := ⟨st.tk.fn, fun p hp => by
    by_cases y : p.1 = P
    · obtain ⟨p1, p2⟩ := p
      have y : p1 = P := y
      subst y
      exact ⟨ps', upd_same, ht, hc p2 hp⟩
    · exact (st.tk.tb p hp).mono (Ex.refl F) fun u z => by rw [upd_ne y]; exact z⟩
  gt := st.gt.grow fun a z => by
    by_cases y : a = P
    · subst y; rw [upd_same] at z; cases z
    · rw [upd_ne y] at z; exact z
  g1 := fun a o z m n => by
    have z2 := st.g1 a o z m n
    have ne : a ≠ P := fun y => by
      subst y; rw [hP] at z2; exact n ps (Option.some.inj z2).symm
    rw [upd_ne ne]; exact z2
  g2 := st.g2
  g3 := st.g3
  g4 := st.g4
  g5 := fun a m z => by
    by_cases y : a = P
    · subst y; rw [upd_same] at z; cases z
    · rw [upd_ne y] at z; exact st.g5 a m z
  g6 := st.g6
theorem St.lam {l : Lam} {f c : Addr} (st : St K g F H σ env) (r : LmRes H P ps l.q c H1) (hP : H P = some (.tbl ps)) (hk : ∀ (pos : Pos) (cv : Value), codeAmong pos ps.toList = some cv → ∃ c, cv = .ref c ∧ F c = some (CodeO c l.q)) (hu : ∀ p ∈ tabsK K, p.1 = P → p.2 = l.q) (hn : H1 f = none) :
    ∃ F1, St K g F1 (upd H1 f (LamO f l c)) σ env ∧ Ex F F1 ∧ IsLam F1 (.ref f) l := by
  cases r with
  | hit pos hc =>
    obtain ⟨c0, e0, e1⟩ := hk pos _ hc
    cases e0
    have e := Ex.new (o := LamO f l c) (st.ex.none hn)
    exact ⟨upd F f (LamO f l c), st.allocF hn lamO_ntb, e, f, c, rfl, upd_same, e _ _ e1⟩
  | new more hc hcP ht hco =>
    rw [upd_comm (Ne.symm hcP)] at hn ⊢
    have hF := st.ex.none hc
    have e1 := Ex.new (o := CodeO c l.q) hF
    have s1 := st.allocF (o := CodeO c l.q) hc codeO_ntb
    have s2 : St K g (upd F c (CodeO c l.q)) (upd (upd H c (CodeO c l.q)) P (.tbl (ps ++ more))) σ env := s1.tabw (P := P) (ps := ps) (by rw [upd_ne (Ne.symm hcP)]; exact hP) ht fun q hq pos cv hcv => by
      have eq := hu (P, q) hq rfl
      have eq : q = l.q := eq
      subst eq
      rcases hco pos cv hcv with z | z
      · obtain ⟨c0, z1, z2⟩ := hk pos cv z
        exact ⟨c0, z1, e1 _ _ z2⟩
      · exact ⟨c, z, upd_same⟩
    have e2 := Ex.new (o := LamO f l c) (s2.ex.none hn)
    exact ⟨_, s2.allocF hn lamO_ntb, e1.trans e2, f, c, rfl, upd_same, e2 _ _ upd_same⟩
end
end TL
namespace TL
open PySem PySem.Spec PyProof.Rows L2 He LamX
abbrev LamD : Type := Defn × Str
def markObj (P : Addr) (q : Str) : Obj := { cls := .none, data := .fields #[.str "lam!" 0, .ref P, .str q 0] }
def markK (tf : List LamD) (K : Frag) : Frag := K ++ tf.map fun p => ((cT K p.1).1, markObj (cT K p.1).2 p.2)
def lamB (g : Addr → Option Obj) (tf : List LamD) (K : Frag) : Bool :=
  (tf.all fun p => PySem.W.codeHdIn K (cT K p.1).1 (cT K p.1).2 && (match g (cT K p.1).2 with
    | some o => emptyTab o
    | none => false)) && (decide (tabsK (markK tf K) = tf.map fun p => ((cT K p.1).2, p.2)) && decide ((tf.map fun p => (cT K p.1).2).Nodup))
abbrev AlL : Type := AlD × Bool
def obsL (ex : List XF) (fa : List Fa) (fn : List DefD) (tf : List LamD) (g : Addr → Option Obj) (K : Frag) : AlL := (obsX ex fa fn (markK tf K), lamB g tf K)
def obsLG (n : Nat) (ex : List XF) (fa : List Fa) (fn : List DefD) (tf : List LamD) (g : Addr → Option Obj) : AlL := obsL ex fa fn tf g (frT g (asD g n))
structure SaysL (ex : List XF) (fa : List Fa) (fn : List DefD) (tf : List LamD) (h : Heap) (K0 : Frag) : Prop where
  x : SaysX ex fa fn (markK tf K0)
  hd : ∀ p ∈ tf, PySem.W.codeHdIn K0 (cT K0 p.1).1 (cT K0 p.1).2 = true
  out : ∀ p ∈ tf, K0.lookup (cT K0 p.1).2 = none
  empty : ∀ p ∈ tf, h.get? (cT K0 p.1).2 = some { cls := .none, data := .fields #[] }
  tabs : tabsK (markK tf K0) = tf.map fun p => ((cT K0 p.1).2, p.2)
  nd : (tf.map fun p => (cT K0 p.1).2).Nodup
theorem saysL_of {n : Nat} {ex : List XF} {fa : List Fa} {fn : List DefD} {tf : List LamD} {h : Heap} (e : obsLG n ex fa fn tf h.get? = (valD fn, true)) : SaysL ex fa fn tf h (frT h.get? (asD h.get? n)) := by
  have e1 : obsX ex fa fn (markK tf (frT h.get? (asD h.get? n))) = valD fn := congrArg (fun z : AlL => z.1) e
  have e2 : lamB h.get? tf (frT h.get? (asD h.get? n)) = true := congrArg (fun z : AlL => z.2) e
  obtain ⟨h1, h2⟩ := ba e2
  obtain ⟨h3, h4⟩ := ba h2
  have key : ∀ p ∈ tf, PySem.W.codeHdIn (frT h.get? (asD h.get? n)) (cT (frT h.get? (asD h.get? n)) p.1).1 (cT (frT h.get? (asD h.get? n)) p.1).2 = true ∧ ∃ o, h.get? (cT (frT h.get? (asD h.get? n)) p.1).2 = some o ∧ emptyTab o = true := fun p hp => by
    obtain ⟨k1, k2⟩ := ba (List.all_eq_true.mp h1 p hp)
    refine ⟨k1, ?_⟩
    cases q : h.get? (cT (frT h.get? (asD h.get? n)) p.1).2 with
    | none => rw [q] at k2; cases k2
    | some o => rw [q] at k2; exact ⟨o, rfl, k2⟩
  exact ⟨e1, fun p hp => (key p hp).1, fun p hp => by
    obtain ⟨_, o, q, z⟩ := key p hp
    exact frT_none q z, fun p hp => by
    obtain ⟨_, o, q, z⟩ := key p hp
    rw [q, emptyTab_eq z], of_decide_eq_true h3, of_decide_eq_true h4⟩
def hookL (n : Nat) (ex : List XF) (fa : List Fa) (fn : List DefD) (tf : List LamD) : PySem.W.Hook where
  α := AlL
  obs := fun s => obsLG n ex fa fn tf s.heap.get?
  val := fun _ => (valD fn, true)
  says := fun _ h => ∃ K0 : Frag, K0.In h ∧ SaysL ex fa fn tf h K0
  of := fun _ _ e => ⟨_, frT_in, saysL_of e⟩
  keeps := fun _ _ _ ⟨K0, hK, c⟩ k => ⟨K0, PySem.W.Frag.In.keeps hK k, ⟨c.x, c.hd, c.out, fun p hp => k _ _ (c.empty p hp), c.tabs, c.nd⟩⟩
theorem obsLG_eq {n : Nat} {ex : List XF} {fa : List Fa} {fn : List DefD} {tf : List LamD} {g : Addr → Option Obj} {s : Shared} (h : ∀ a, g a = s.heap.get? a) : obsLG n ex fa fn tf g = (hookL n ex fa fn tf).obs s := by
  have e : g = s.heap.get? := funext h
  rw [e] <;> rfl
theorem lookup_app {a : Addr} : ∀ {K M : Frag}, (K ++ M).lookup a = match K.lookup a with | some o => some o | none => M.lookup a
  | [], _ => rfl
  | (b, o) :: r, M => by
    show (match a == b with | true => some o | false => (r ++ M).lookup a) = match (match a == b with | true => some o | false => r.lookup a) with | some o => some o | none => M.lookup a
    cases a == b with
    | true => rfl
    | false => exact lookup_app (K := r) (M := M)
theorem codeHd_some {K : Frag} {c P : Addr} (h : PySem.W.codeHdIn K c P = true) : ∃ o, K.lookup c = some o := by
  unfold PySem.W.codeHdIn at h
  cases q : K.lookup c with
  | none => rw [q] at h; cases h
  | some o => exact ⟨o, rfl⟩
section
variable {ex : List XF} {fa : List Fa} {fn : List DefD} {tf : List LamD} {h : Heap} {K0 : Frag}
theorem SaysL.marks (c : SaysL ex fa fn tf h K0) {a : Addr} {o : Obj} (e : (tf.map fun p => ((cT K0 p.1).1, markObj (cT K0 p.1).2 p.2)).lookup a = some o) : ∃ o, K0.lookup a = some o := by
  obtain ⟨p, hp, ep⟩ := List.mem_map.mp (He.lookup_mem e)
  have e1 : (cT K0 p.1).1 = a := congrArg Prod.fst ep
  rw [← e1]
  exact codeHd_some (c.hd p hp)
theorem SaysL.look (c : SaysL ex fa fn tf h K0) (a : Addr) : (markK tf K0).lookup a = K0.lookup a := by
  unfold markK
  rw [lookup_app]
  cases q : K0.lookup a with
  | some o => rfl
  | none =>
    cases z : (tf.map fun p => ((cT K0 p.1).1, markObj (cT K0 p.1).2 p.2)).lookup a with
    | none => rfl
    | some o =>
      obtain ⟨o', e⟩ := c.marks z
      rw [q] at e; cases e
theorem SaysL.kin (c : SaysL ex fa fn tf h K0) (k : K0.In h) : (markK tf K0).In h := fun a o e => k a o (by rw [← c.look a]; exact e)
end
section
variable {ex : List XF} {fa : List Fa} {fn : List DefD} {tf : List LamD} {h base : Heap} {K0 : Frag} {mg : Str → Option Value}
/-- the code objects and tables of the defs that make lambdas -/
def csOf (tf : List LamD) (K0 : Frag) : List (Addr × Addr) := tf.map fun p => cT K0 p.1
end
/-- the end, with tables -/
theorem walk_xT {l : PySem.W.OpenLaw} {m j : Nat} {q : Program} {lo : List Str} {XP : (Str → Option Value) → Heap → Prop} {YP : World → Heap → Prop} {d : DefRec} {x : Str} (h1 : l.most = some m) (h2 : m ≤ sizeLine) (h3 : d.params.defaults = []) (h4 : Room j callerA)
    (h : ∀ (u : World) (mg : Str → Option Value) (a : Addr) (hp : Heap), YP u hp → hp.Ns mainGlobals mg → mg d.name = some (.ref a) → ∃ K : Frag, K.In hp ∧ LawAtS l u K (L2.CX l.prog u) j m x mg a hp) :
    PySem.W.WalkO q lo XP YP l.row.toRowW d [] (fun f vs => PySem.call f vs) :=
  walk_ofTsE h1 h2 h3 h4 h fun w H s e s' z => by
    obtain ⟨_, _, _, _, _, _, _, _, _, _, _, _, z⟩ := z
    exact z
theorem lawAt {l : PySem.W.OpenLaw} {u : World} {j : Nat} {x : Str} {mg : Str → Option Value} {a : Addr} {hp : Heap} {ex : List XF} {fa : List Fa} {fn : List DefD} {tf : List LamD} {K0 : Frag} (c : SaysL ex fa fn tf hp K0) (k : K0.In hp)
    (h : ∃ fd : FuncData, (∀ (s : Shared) (y : Value), BindsTo s fd ⟨[y], []⟩ [(x, y)]) ∧ ∀ base : Heap, (markK tf K0).In base → base.Ns mainGlobals mg → (∀ p ∈ csOf tf K0, TabB base mg p.1 p.2) → FnOk l.prog u (markK tf K0) mg base (L2.CX l.prog u) j a fd [x] (spOf (markK tf K0) 1 cLaw)) :
    LawAtS l u (markK tf K0) (L2.CX l.prog u) j 63 x mg a hp := by
  obtain ⟨fd, hb, hF⟩ := h
  have mem : ∀ p ∈ csOf tf K0, ∃ r ∈ tf, cT K0 r.1 = p := fun p hp => by
    obtain ⟨r, hr, e⟩ := List.mem_map.mp hp
    exact ⟨r, hr, e⟩
  refine ⟨fd, csOf tf K0, _, fun p hp => ?_, fun p hp => ?_, fun p hp => ?_, hb, fun H b ns hl _ hT hS => law_sp hl (fun p hp => ?_) hS, hF⟩
  · obtain ⟨r, hr, rfl⟩ := mem p hp; exact c.empty r hr
  · obtain ⟨r, hr, rfl⟩ := mem p hp; rw [c.look]; exact c.out r hr
  · obtain ⟨r, hr, rfl⟩ := mem p hp; exact PySem.W.codeHd_of_K k (c.hd r hr)
  · rw [c.tabs] at hp
    obtain ⟨r, hr, rfl⟩ := List.mem_map.mp hp
    exact hT _ (List.mem_map.mpr ⟨r, hr, rfl⟩)
end TL
namespace TL
open PySem PySem.Spec PyProof.Rows L2 LamX
section
variable {X : Cx} {g : G} {env : List Sl} {Ψ : Exc → Prop} {Φ : PyData → Bool → Prop} {P : Po} {pos lp apos : Pos} {k : Nat} {ps : Arguments} {bd : Expr} {sc : Scope} {c T : Addr} {es : List Expr} {a : Expr}
inductive LmAll (N : Lam → Prop) : List Lam → List Prop → Prop
  | nil : LmAll N [] []
  | cons {l : Lam} {R : Prop} {ls : List Lam} {Rs : List Prop} (h : R → N l) (t : LmAll N ls Rs) : LmAll N (l :: ls) (R :: Rs)
theorem LmAll.len {N : Lam → Prop} : ∀ {ls : List Lam} {Rs : List Prop}, LmAll N ls Rs → ls.length = Rs.length
  | _, _, .nil => rfl
  | _, _, .cons _ t => congrArg Nat.succ t.len
theorem LmAll.get {N : Lam → Prop} : ∀ {ls : List Lam} {Rs : List Prop} {n : Nat} {l : Lam}, LmAll N ls Rs → ls[n]? = some l → Rs[n]?.getD False → N l
  | _, _, 0, _, .cons h _, e, r => by
    have e := Option.some.inj e
    subst e
    exact h r
  | _, _, n + 1, _, .cons _ t, e, r => t.get (n := n) e r
  | _, _, _, _, .nil, e, _ => by simp at e
end
end TL
namespace TL
open PySem PySem.Spec PyProof.Rows L2
open Classical in
noncomputable def cutS (F : Hp) (S : Addr → Prop) : Hp := fun b => if S b then none else F b
section
variable {X : Cx} {g : G} {env env' : List Sl} {Ψ : Exc → Prop} {P : Po} {pos p lp : Pos} {a b c e tg iter : Expr} {es : List Expr} {rest body : List Stmt} {K : Frag} {F F' H H' : Hp} {σ σ' : SS} {x y : PyData} {z1 z2 : Bool} {S : Addr → Prop}
/-- one row is written -/
theorem row_write {i j : Nat} {al ar : Addr} {as : List Addr} {ds : List (List PyData)} {l l' : List PyData} {us' : List V} (s2 : St K g F H σ env) (he : env[i]? = some (ooS al as ds)) (hl : as.length = ds.length) (hz : (as.zip ds)[j]? = some (ar, l))
    (q1 : σ[i]?.getD none = some (.ref al)) (q2 : H al = some (.lst ((as.zip ds).map fun r => V.ref r.1))) (q3 : (al :: (as.zip ds).map Prod.fst).Nodup) (q4 : ∀ r ∈ as.zip ds, ∃ vs, H r.1 = some (.lst vs) ∧ DqAll K F vs r.2) (hd : DqAll K F us' l') :
    St K g F (upd H ar (.lst us')) σ (env.set i (ooS al as (ds.set j l'))) := by
  have hj1 : j < ds.length := by
    have := (List.getElem?_eq_some_iff.mp hz).1
    rw [List.length_zip] at this; omega
  have hmem : ar ∈ (as.zip ds).map (·.1) := List.mem_map.mpr ⟨_, List.mem_of_getElem? hz, rfl⟩
  have fpe : (ooS al as (ds.set j l')).fp = (ooS al as ds).fp := by
    show al :: (as.zip (ds.set j l')).map Prod.fst = al :: (as.zip ds).map Prod.fst
    rw [zip_set]
  have nd := List.nodup_cons.mp q3
  have hne : ar ≠ al := fun z => nd.1 (z ▸ hmem)
  have haj : as[j]? = some ar := (List.getElem?_zip_eq_some.mp hz).1
  refine s2.writeIn he (List.mem_cons_of_mem _ hmem) fpe ?_
  refine ⟨q1, ?_, ?_, fun r hr => ?_⟩
  · rw [upd_ne (Ne.symm hne), q2]
    congr 2
    have : ∀ L : List (Addr × List PyData), (L.map fun r => V.ref r.1) = (L.map Prod.fst).map V.ref := fun L => by rw [List.map_map]; rfl
    rw [this, this, zip_set]
  · show (al :: (as.zip (ds.set j l')).map Prod.fst).Nodup
    rw [zip_set]; exact q3
  · obtain ⟨k, hk⟩ := List.mem_iff_getElem?.mp hr
    have hk2 := List.getElem?_zip_eq_some.mp hk
    by_cases ek : k = j
    · subst ek
      have ea : ar = r.1 := by
        have := hk2.1
        rw [haj] at this
        exact Option.some.inj this
      have ed : r.2 = l' := by
        have := hk2.2
        rw [List.getElem?_set_self hj1] at this
        exact (Option.some.inj this).symm
      rw [← ea, ed, upd_same]
      exact ⟨us', rfl, hd⟩
    · have hr2 : r ∈ as.zip ds := by
        refine List.mem_of_getElem? (i := k) (List.getElem?_zip_eq_some.mpr ⟨hk2.1, ?_⟩)
        have := hk2.2
        rwa [List.getElem?_set_ne (Ne.symm ek)] at this
      obtain ⟨us', z1, z2⟩ := q4 _ hr2
      have hne2 : r.1 ≠ ar := fun z => by
        have hnd : ((as.zip ds).map Prod.fst).Nodup := nd.2
        have hk3 : ((as.zip ds).map Prod.fst)[k]? = some r.1 := by
          rw [List.getElem?_map, List.getElem?_zip_eq_some.mpr ⟨hk2.1, by have := hk2.2; rwa [List.getElem?_set_ne (Ne.symm ek)] at this⟩]; rfl
        have hj3 : ((as.zip ds).map Prod.fst)[j]? = some r.1 := by
          rw [List.getElem?_map, hz, z]; rfl
        obtain ⟨i1, i2⟩ := List.getElem?_eq_some_iff.mp hk3
        obtain ⟨i3, i4⟩ := List.getElem?_eq_some_iff.mp hj3
        exact ek ((List.getElem_inj hnd).mp (i2.trans i4.symm))
      exact ⟨us', by rw [upd_ne hne2]; exact z1, z2⟩
end
end TL
namespace TL
open PySem PySem.Spec PyProof.Rows L2
def NewS (K : Frag) (g : G) (F H : Hp) (env : List Sl) (v : V) (s : Sl) : Prop := SlOk K F H (some v) s ∧ ∀ p ∈ s.fp, F p = none ∧ ¬ Own env p ∧ g.H0 p = none
def WO (X : Cx) (g : G) (e : Expr) (env : List Sl) (Φ : Sl → Prop) (Ψ : Exc → Prop) : Prop :=
  ∀ (W : WX), Takes X W → ∀ (σ : SS) (F H : Hp), St X.K g F H σ env → HX X g env Ψ W σ →
    ∀ Q : VK, (∀ s v F' H', Φ s → St X.K g F' H' σ env → Ex F F' → NewS X.K g F' H' env v s → Q v H') → semE X e σ H Q
section
variable {X : Cx} {g : G} {env env' : List Sl} {Ψ : Exc → Prop} {P : Po} {pos p lp : Pos} {a b c e e1 e2 : Expr} {es : List Expr} {rest body : List Stmt} {K : Frag} {F F' F1 F2 H H' H1 H2 : Hp} {σ σ' : SS} {s : Sl} {v : V} {x : PyData}
theorem WO.mono {Φ Φ' : Sl → Prop} (h : WO X g e env Φ Ψ) (k : ∀ s, Φ s → Φ' s) : WO X g e env Φ' Ψ :=
  fun W tk σ F H st hx Q hQ => h W tk σ F H st hx Q fun s v F' H' p => hQ s v F' H' (k s p)
theorem St.setS {i : Nat} (st : St K g F H σ env) (hi : i < env.length) (n : NewS K g F H env v s) : St K g F H (σ.set i (some v)) (env.set i s) :=
  st.set hi n.1 (fun b hb => (n.2 b hb).1) (fun b hb j t _ e ht => (n.2 b hb).2.1 ⟨j, t, e, ht⟩) (fun b hb => .inl (n.2 b hb).2.2)
/-- x = e, a new owned thing -/
theorem w1_setO (i : Nat) {x : Str} {pos' : Pos} (hN : X.N.Nodup) (h : WO X g e env (fun s => (∀ b ∈ s.fp, b ∉ g.M) → P.nx (env.set i s)) (fun c => P.ex c env)) (hi : X.N[i]? = some x := by rfl) (hx : Loc X.env.scope x := by first | exact Or.inl rfl | exact Or.inr rfl) (hl : Nat.blt i env.length = true := by rfl)
    (hs : swapsWith e (some (.Name x pos')) pos.line X.env = pure false := by rfl) (hf : X.fn x = true ∨ X.env.scope.names.lookup x = some .local := by first | exact .inl rfl | exact .inr rfl) : W1 X g (.Assign [.Name x pos'] e pos) env P := fun W tk hx2 σ F H s0 D hD => by
  refine semP_of (ps_set hN hi hx (peS e) hs hf) ?_
  refine h W tk σ F H s0 (hx2.hx env σ) _ fun s v F' H' hp s' e' n => ?_
  exact hD.nx _ _ F' H' (hp fun b hb m => s'.g6 b m (n.2 b hb).2.2) (s'.setS (ltB hl) n) e'
theorem slok_val {o : Option V} (h : SlOk K F H o s) (hne : s ≠ .un) : ∃ v, o = some v := by
  cases s with
  | un => exact absurd rfl hne
  | d x => exact ⟨_, h.choose_spec.1⟩
  | v x => exact ⟨_, h⟩
  | ol a ds => exact ⟨_, h.1⟩
  | bg a => exact ⟨_, h.1⟩
  | dt a ds => exact ⟨_, h.1⟩
  | dk a ds => exact ⟨_, h.1⟩
  | fv l => exact ⟨_, h.choose_spec.1⟩
  | fl l => obtain ⟨a, vs, h, _⟩ := h; exact ⟨_, h⟩
  | oo a ds => exact ⟨_, h.1⟩
  | ow t => exact ⟨_, h.choose_spec.1⟩
/-- return x, an owned thing of this def -/
theorem w1_retS (i : Nat) {x : Str} {q : Pos} {C : Sl → Prop} (hc : C s) (hne : s ≠ .un) (hm : ∀ b ∈ s.fp, b ∉ g.M) (h : P.rt (.sl C) (env.set i .un)) (he : env[i]? = some s := by rfl) (hN : X.N[i]? = some x := by rfl)
    (hv : Vis X.env.scope x := by first | exact Or.inl rfl | exact Or.inr (Or.inl rfl) | exact Or.inr (Or.inr rfl)) (hd : (x == ("__debug__" : Str)) = false := by decide)
    (hcd : (x == ("__classdict__" : Str)) = false := by decide) : W1 X g (.Return (some (.Name x q)) pos) env P := fun W tk hx2 σ F H s0 D hD => by
  refine semP_of (ps_ret (pe_var hN hv hd hcd)) ?_
  have h0 := s0.sl i s he
  obtain ⟨v, hv⟩ := slok_val h0 hne
  refine ⟨v, getD_some hv, hD.rt _ v _ σ F H h (s0.weak he (fun _ h => by cases h) fun _ => trivial) ⟨s, hc, by rw [← hv]; exact h0, fun b hb => ⟨s0.fr b ⟨i, s, he, hb⟩, fun ⟨j, t, ej, ht⟩ => ?_, ?_⟩⟩⟩
  · rcases set_get ej with ⟨_, rfl⟩ | ⟨ne, ej⟩
    · cases ht
    · exact ne (s0.nd i j _ t b he ej hb ht)
  · rcases s0.g2 b ⟨i, s, he, hb⟩ with z | z
    · exact z
    · exact absurd z (hm b hb)
end
end TL
namespace TL
open PySem PySem.Spec PyProof.Rows L2
def otT (a : Addr) (as : List Addr) (ds : List (List PyData)) : OwT where
  id := a
  fp := (as.zip ds).map (·.1)
  ok := fun K F H v => v = .ref a ∧ F a = some (.tup ((as.zip ds).map fun r => .ref r.1)) ∧ ((as.zip ds).map (·.1)).Nodup ∧ ∀ r ∈ as.zip ds, ∃ vs, H r.1 = some (.lst vs) ∧ DqAll K F vs r.2
  isr := fun h => h.1
  mono := fun {K F F' H H' v} e k h => by
    obtain ⟨h1, h2, h3, h4⟩ := h
    refine ⟨h1, e _ _ h2, h3, fun r hr => ?_⟩
    obtain ⟨vs, q1, q2⟩ := h4 r hr
    exact ⟨vs, k r.1 (List.mem_map_of_mem hr) _ q1, dpa_mono e _ _ q2⟩
  there := fun {K F H v} h b hb => by
    obtain ⟨r, hr, rfl⟩ := List.mem_map.mp hb
    obtain ⟨vs, q1, _⟩ := h.2.2.2 r hr
    exact ⟨_, q1, rfl⟩
  rows := as.zip ds
  held := fun {K F H v} h r hr => h.2.2.2 r hr
def IsNest (x : PyData) (s : Sl) : Prop := (∃ ds al as, x = .list (ds.map .list) ∧ s = ooS al as ds ∧ as.length = ds.length) ∨ ∃ ds a as, x = .tuple (ds.map .list) ∧ s = .ow (otT a as ds) ∧ as.length = ds.length
def nestRow : PyData → PyData → KL → Prop
  | .list xs, .int n, K => match atI xs n with
    | some (.list l) => K l
    | _ => False
  | .tuple xs, .int n, K => match atI xs n with
    | some (.list l) => K l
    | _ => False
  | _, _, _ => False
def nestSet (f : List PyData → List PyData) : PyData → PyData → KD → Prop
  | .list xs, .int n, K => match ixN xs.length n with
    | some j => match xs[j]? with
      | some (.list l) => K (.list (xs.set j (.list (f l))))
      | _ => False
    | none => False
  | .tuple xs, .int n, K => match ixN xs.length n with
    | some j => match xs[j]? with
      | some (.list l) => K (.tuple (xs.set j (.list (f l))))
      | _ => False
    | none => False
  | _, _, _ => False
section
variable {X : Cx} {g : G} {env env' : List Sl} {Ψ : Exc → Prop} {P : Po} {pos p lp : Pos} {a b c e e1 e2 : Expr} {es : List Expr} {rest body : List Stmt} {K : Frag} {F F' F1 F2 H H' H1 H2 : Hp} {σ σ' : SS} {s : Sl} {v : V} {x kd : PyData}
theorem IsNest.ne (h : IsNest x s) : s ≠ .un := by
  rcases h with ⟨_, _, _, _, rfl, _⟩ | ⟨_, _, _, _, rfl, _⟩ <;> (intro z; cases z)
theorem nestSet_m {f : List PyData → List PyData} {Q Q' : KD} (h : nestSet f x kd Q) (k : ∀ r, Q r → Q' r) : nestSet f x kd Q' := by
  unfold nestSet at *
  split at h <;> first
    | exact h.elim
    | (split at h <;> first | exact h.elim | (split at h <;> first | exact h.elim | exact k _ h))
theorem nestRow_m {Q Q' : KL} (h : nestRow x kd Q) (k : ∀ r, Q r → Q' r) : nestRow x kd Q' := by
  unfold nestRow at *
  split at h <;> first
    | exact h.elim
    | (split at h <;> first | exact h.elim | exact k _ h)
theorem nestRow_int {Q : KL} (h : nestRow x kd Q) : ∃ n, kd = .int n := by
  unfold nestRow at h
  split at h <;> first
    | exact h.elim
    | exact ⟨_, rfl⟩
theorem map_list_inj : ∀ {l : List (List PyData)} {j : Nat} {y : List PyData}, (l.map PyData.list)[j]? = some (.list y) → l[j]? = some y
  | l, j, y, h => by
    rw [List.getElem?_map] at h
    obtain ⟨z, h1, h2⟩ := Option.map_eq_some_iff.mp h
    injection h2 with h2
    rw [h1, h2]
theorem zmap : ∀ L : List (Addr × List PyData), (L.map fun r => V.ref r.1) = (L.map Prod.fst).map V.ref := fun L => by rw [List.map_map]; rfl
theorem atI_j {α : Type} {l : List α} {n : Int} {y : α} (h : atI l n = some y) : ∃ j, ixN l.length n = some j ∧ l[j]? = some y := by
  unfold atI at h
  obtain ⟨j, h5, h6⟩ := Option.bind_eq_some_iff.mp h
  exact ⟨j, h5, h6⟩
theorem rowZ {as : List Addr} {ds : List (List PyData)} {j : Nat} {l : List PyData} (hl : as.length = ds.length) (h : ds[j]? = some l) : ∃ q, (as.zip ds)[j]? = some (q, l) ∧ as[j]? = some q := by
  obtain ⟨hj1, hj2⟩ := List.getElem?_eq_some_iff.mp h
  exact ⟨as[j]'(by omega), by rw [List.getElem?_eq_getElem (by rw [List.length_zip]; omega), List.getElem_zip, hj2], List.getElem?_eq_getElem (by omega)⟩
/-- a row: where it stands, and what comes of writing it -/
theorem nest_row {n : Int} {Q : KL} (hs : IsNest x s) (hr : nestRow x (.int n) Q) :
    ∃ (al q : Addr) (l : List PyData), Q l ∧ ∀ {K : Frag} {g : G} {F H : Hp} {σ : SS} {env : List Sl} {i : Nat}, St K g F H σ env → env[i]? = some s → ∃ items us, σ[i]?.getD none = some (.ref al) ∧ (SqL K H al items ∨ SqT K H al items) ∧ atI items n = some (.ref q) ∧ H q = some (.lst us) ∧ DqAll K F us l ∧
      ∀ (f : List PyData → List PyData) (us' : List V) (R : PyData → Prop), DqAll K F us' (f l) → nestSet f x (.int n) R → ∃ x' s', R x' ∧ IsNest x' s' ∧ s'.fp = s.fp ∧ St K g F (upd H q (.lst us')) σ (env.set i s') := by
  rcases hs with ⟨ds, al, as, rfl, rfl, hl⟩ | ⟨ds, a, as, rfl, rfl, hl⟩
  · unfold nestRow at hr
    dsimp only at hr
    split at hr
    · rename_i l hat
      obtain ⟨j, hj, hjl⟩ := atI_j hat
      rw [List.length_map] at hj
      have hjl := map_list_inj hjl
      obtain ⟨q, hz, hq⟩ := rowZ hl hjl
      refine ⟨al, q, l, hr, fun {K g F H σ env i} st he => ?_⟩
      obtain ⟨h1, h2, h3, h4⟩ := st.sl i _ he
      obtain ⟨us, q5, q6⟩ := h4 _ (List.mem_of_getElem? hz)
      have hat2 : atI ((as.zip ds).map fun r => V.ref r.1) n = some (.ref q) := by
        unfold atI
        rw [List.length_map, List.length_zip, hl, Nat.min_self, hj]
        show ((as.zip ds).map fun r => V.ref r.1)[j]? = _
        rw [List.getElem?_map, hz]; rfl
      refine ⟨_, us, h1, .inl (SqL.of h2), hat2, q5, q6, fun f us' R hd hR => ?_⟩
      unfold nestSet at hR
      simp only [List.length_map, hj, List.getElem?_map, hjl, Option.map_some] at hR
      refine ⟨_, ooS al as (ds.set j (f l)), hR, .inl ⟨ds.set j (f l), al, as, by rw [List.map_set], rfl, by rw [List.length_set, hl]⟩, ?_, row_write st he hl hz h1 h2 h3 h4 hd⟩
      show al :: (as.zip (ds.set j (f l))).map Prod.fst = al :: (as.zip ds).map Prod.fst
      rw [zip_set]
    · exact hr.elim
  · unfold nestRow at hr
    dsimp only at hr
    split at hr
    · rename_i l hat
      obtain ⟨j, hj, hjl⟩ := atI_j hat
      rw [List.length_map] at hj
      have hjl := map_list_inj hjl
      obtain ⟨q, hz, hq⟩ := rowZ hl hjl
      refine ⟨a, q, l, hr, fun {K g F H σ env i} st he => ?_⟩
      obtain ⟨v, h1, rfl, h2, h3, h4⟩ := st.sl i _ he
      obtain ⟨us, q5, q6⟩ := h4 _ (List.mem_of_getElem? hz)
      have hat2 : atI ((as.zip ds).map fun r => V.ref r.1) n = some (.ref q) := by
        unfold atI
        rw [List.length_map, List.length_zip, hl, Nat.min_self, hj]
        show ((as.zip ds).map fun r => V.ref r.1)[j]? = _
        rw [List.getElem?_map, hz]; rfl
      refine ⟨_, us, h1, .inr (SqT.of (st.ex _ _ h2)), hat2, q5, q6, fun f us' R hd hR => ?_⟩
      unfold nestSet at hR
      simp only [List.length_map, hj, List.getElem?_map, hjl, Option.map_some] at hR
      have fpe : (Sl.ow (otT a as (ds.set j (f l)))).fp = (Sl.ow (otT a as ds)).fp := by
        show (as.zip (ds.set j (f l))).map Prod.fst = (as.zip ds).map Prod.fst
        rw [zip_set]
      refine ⟨_, .ow (otT a as (ds.set j (f l))), hR, .inr ⟨ds.set j (f l), a, as, by rw [List.map_set], rfl, by rw [List.length_set, hl]⟩, fpe, ?_⟩
      have hj1 : j < ds.length := (List.getElem?_eq_some_iff.mp hjl).1
      refine st.writeIn he (List.mem_map.mpr ⟨_, List.mem_of_getElem? hz, rfl⟩) fpe ⟨.ref a, h1, rfl, ?_, ?_, fun r hr => ?_⟩
      · rw [h2, zmap, zmap, zip_set]
      · rw [zip_set]; exact h3
      · obtain ⟨k, hk⟩ := List.mem_iff_getElem?.mp hr
        have hk2 := List.getElem?_zip_eq_some.mp hk
        by_cases ek : k = j
        · subst ek
          have ea : q = r.1 := by
            have := hk2.1
            rw [hq] at this
            exact Option.some.inj this
          have ed : r.2 = f l := by
            have := hk2.2
            rw [List.getElem?_set_self hj1] at this
            exact (Option.some.inj this).symm
          rw [← ea, ed, upd_same]
          exact ⟨us', rfl, hd⟩
        · have hk3 : (as.zip ds)[k]? = some r := List.getElem?_zip_eq_some.mpr ⟨hk2.1, by have := hk2.2; rwa [List.getElem?_set_ne (Ne.symm ek)] at this⟩
          obtain ⟨us2, z1, z2⟩ := h4 _ (List.mem_of_getElem? hk3)
          have hne2 : r.1 ≠ q := fun z => by
            have a1 : ((as.zip ds).map Prod.fst)[k]? = some r.1 := by rw [List.getElem?_map, hk3]; rfl
            have a2 : ((as.zip ds).map Prod.fst)[j]? = some r.1 := by rw [List.getElem?_map, hz, z]; rfl
            obtain ⟨i1, i2⟩ := List.getElem?_eq_some_iff.mp a1
            obtain ⟨i3, i4⟩ := List.getElem?_eq_some_iff.mp a2
            exact ek ((List.getElem_inj h3).mp (i2.trans i4.symm))
          exact ⟨us2, by rw [upd_ne hne2]; exact z1, z2⟩
    · exact hr.elim
theorem rix_seq {v1 v2 w : V} {al : Addr} {items : List V} {n : Int} {Q : VK} (h1 : v1 = .ref al) (h2 : v2 = .int n) (h3 : SqL K H al items ∨ SqT K H al items) (h4 : atI items n = some w) (h5 : Q w H) : rIx K v1 v2 H Q := by
  rcases h3 with h3 | h3
  · exact .inl ⟨al, items, n, w, h1, h2, h3, h4, h5⟩
  · exact .inr (.inl ⟨al, items, n, w, h1, h2, h3, h4, h5⟩)
/-- x[k].append(e) -/
theorem w1_appN (i : Nat) {xn : Str} {q apos cpos spos : Pos} (hn : IsNest x s) (nM : ∀ b ∈ s.fp, b ∉ g.M)
    (h : WE X g a env (fun kd _ => nestRow x kd fun l => WE X g e env (fun d z => z = true ∧ l.length < sizeLine ∧ nestSet (fun l => l ++ [d]) x kd fun x' => ∀ s', IsNest x' s' → (∀ b ∈ s'.fp, b ∉ g.M) → P.nx (env.set i s')) (fun c => P.ex c env)) (fun c => P.ex c env)) (he : env[i]? = some s := by rfl) (hN : X.N[i]? = some xn := by rfl)
    (hv : Vis X.env.scope xn := by first | exact Or.inl rfl | exact Or.inr (Or.inl rfl) | exact Or.inr (Or.inr rfl)) (hd : (xn == ("__debug__" : Str)) = false := by decide)
    (hcd : (xn == ("__classdict__" : Str)) = false := by decide) (hpx : PlainIx a := by exact fun _ _ => rfl)
    (hbase : attributeBase (.Subscript (.Name xn q) a spos) "append" X.env (eval (.Subscript (.Name xn q) a spos) X.env) = eval (.Subscript (.Name xn q) a spos) X.env := by rfl)
    (hfew : ((backTo cpos (starEach [e] X.env)).all (fun x => !x.1) && (backToKw cpos (keywordEach [] X.env)).all (fun x => x.1.isSome)
      && decide ([e].length + ([] : List Keyword).length + (if ([] : List Keyword).isEmpty then 0 else 1) < 30)) = true := by rfl)
    (hline : (apos.endLine == cpos.line) = true := by rfl) (hs1 : starEach [e] X.env = (false, eval e X.env) :: starEach [] X.env := by rfl) (hplain : (backTo cpos (starEach ([] : List Expr) X.env)).any (·.1) = false := by rfl)
    (hs : swapsWith (.Call (.Attribute (.Subscript (.Name xn q) a spos) "append" apos) [e] [] cpos) none pos.line X.env = pure false := by rfl) :
    W1 X g (.Expr (.Call (.Attribute (.Subscript (.Name xn q) a spos) "append" apos) [e] [] cpos) pos) env P := fun W tk hx2 σ F H s0 D hD => by
  refine semP_of (ps_expr (pe_bm PySem.F.plainAttrs_list PySem.F.slot_list_append PySem.F.type_list_append mt_append (pe_ix ix_seq (pe_var hN hv hd hcd) (peS a) hpx) (pa_cons (peS e) pa_nil hs1) hbase hfew hline hs1 hplain) hs) ?_
  obtain ⟨v0, hv0⟩ := slok_val (s0.sl i _ he) hn.ne
  refine ⟨v0, getD_some hv0, ?_⟩
  refine h W tk σ F H s0 (hx2.hx env σ) _ fun kd z v F1 H1 hr s1 e1 r1 => ?_
  obtain ⟨n, rfl⟩ := nestRow_int hr
  obtain ⟨al, q, l, b7, bS⟩ := nest_row hn hr
  obtain ⟨items, us, b1, b3, b4, b5, b6, _⟩ := bS s1 he
  rw [hv0] at b1
  refine rix_seq (Option.some.inj b1) (rd_int r1) b3 b4 ⟨.inl ⟨rfl, us, SqL.of b5⟩, ?_⟩
  refine b7 W tk σ F1 H1 s1 (hx2.hx env σ) _ fun d z w F2 H2 ⟨hz, hlen, hp⟩ s2 e2 r2 => ?_
  subst hz
  obtain ⟨_, us2, _, _, _, c5, c6, cW⟩ := bS s2 he
  refine ⟨_, us2, w, rfl, rfl, c5, by rw [dpa_len c6]; exact hlen, ?_⟩
  obtain ⟨x', s', hR, hn', fpe, s3⟩ := cW (fun l => l ++ [d]) _ _ (dpa_app c6 (dpa_one r2)) hp
  exact hD.nx _ _ F2 _ (hR s' hn' fun b hb => nM b (fpe ▸ hb)) s3 (e1.trans e2)
end
end TL
namespace TL
open PySem PySem.Spec PyProof.Rows L2
section
variable {X : Cx} {g : G} {env env' : List Sl} {Ψ : Exc → Prop} {P : Po} {pos p lp : Pos} {a b c e e1 e2 elt tg iter : Expr} {es : List Expr} {rest body : List Stmt} {K : Frag} {F F' F1 F2 H H' H1 H2 : Hp} {σ σ' : SS} {s : Sl} {v : V} {x kd : PyData}
/-- an owned thing is changed in place and takes new things in -/
theorem St.writeG {i : Nat} {q : Addr} {s s' : Sl} {o' : HO} (st : St K g F H σ env) (hs : env[i]? = some s) (ha : q ∈ s.fp) (ha' : ∀ b ∈ s'.fp, b ∈ s.fp ∨ (F b = none ∧ ¬ Own env b ∧ g.H0 b = none)) (h : SlOk K F (upd H q o') (σ[i]?.getD none) s') (ht : ∀ vs, o' ≠ .tup vs := by intro _ z; cases z) : St K g F (upd H q o') σ (env.set i s') := by
  have own : Own env q := ⟨i, s, hs, ha⟩
  have hF : F q = none := st.fr q own
  have sub : ∀ b, Own (env.set i s') b → Own env b ∨ (F b = none ∧ g.H0 b = none) := fun b hb => by
    rcases own_set hb with h1 | h1
    · rcases ha' b h1 with h2 | h2
      · exact .inl ⟨i, s, hs, h2⟩
      · exact .inr ⟨h2.1, h2.2.2⟩
    · exact .inl h1
  have oth : ∀ (j : Nat) (t : Sl), i ≠ j → env[j]? = some t → q ∉ t.fp := fun j t ne e ht => ne (st.nd i j s t q hs e ha ht)
  refine { len := by rw [List.length_set]; exact st.len, sl := fun j t e => ?_, nd := fun j k t u b ej ek ht hu => ?_, fr := fun b hb => (sub b hb).elim (st.fr b) (·.1), ex := st.ex.mut hF, tf := fun b vs z => by
             by_cases e : b = q
             · subst e; rw [upd_same] at z; exact absurd (Option.some.inj z) (ht vs)
             · rw [upd_ne e] at z; exact st.tf b vs z, tk := st.tk.put (st.tk.ne (st.toSk.ntb own)), gt := st.gt.grow (fun b z => by
             by_cases e : b = q
             · subst e; rw [upd_same] at z; cases z
             · rw [upd_ne e] at z; exact z), g1 := fun b u z m n => ?_, g2 := fun b hb => (sub b hb).elim (st.g2 b) fun z => .inl z.2, g3 := st.g3, g4 := st.g4, g5 := fun b m z => ?_, g6 := st.g6 }
  · rcases set_get e with ⟨rfl, rfl⟩ | ⟨ne, e⟩
    · exact h
    · refine slok_mono (Ex.refl F) (fun b hb u z => ?_) (st.sl j t e)
      have hne : b ≠ q := fun z => oth j t ne e (z ▸ hb)
      rw [upd_ne hne]; exact z
  · rcases set_get ej with ⟨rfl, rfl⟩ | ⟨ne, ej2⟩
    · rcases set_get ek with ⟨rfl, rfl⟩ | ⟨ne2, ek⟩
      · rfl
      · rcases ha' b ht with h2 | h2
        · exact st.nd _ k s u b hs ek h2 hu
        · exact absurd ⟨k, u, ek, hu⟩ h2.2.1
    · rcases set_get ek with ⟨rfl, rfl⟩ | ⟨ne2, ek⟩
      · rcases ha' b hu with h2 | h2
        · exact st.nd j _ t s b ej2 hs ht h2
        · exact absurd ⟨j, t, ej2, ht⟩ h2.2.1
      · exact st.nd j k t u b ej2 ek ht hu
  · have hne : b ≠ q := fun e => by
      subst e
      rcases st.g2 b own with h1 | h1
      · rw [h1] at z; cases z
      · exact m h1
    rw [upd_ne hne]; exact st.g1 b u z m n
  · by_cases hb : b = q
    · subst hb; rw [upd_same] at z; cases z
    · rw [upd_ne hb] at z; exact st.g5 b m z
theorem isn_list {r : List PyData} (h : IsNest (.list r) s) : ∃ ds al as, r = ds.map .list ∧ s = ooS al as ds ∧ as.length = ds.length := by
  rcases h with ⟨ds, al, as, e, h2, h3⟩ | ⟨_, _, _, e, _⟩
  · injection e with e; exact ⟨ds, al, as, e, h2, h3⟩
  · cases e
/-- x.append(e), e a new list -/
theorem w1_pushN (i : Nat) {x : Str} {q apos cpos : Pos} {r : List PyData} (hn : IsNest (.list r) s) (nM : ∀ b ∈ s.fp, b ∉ g.M)
    (h : WN X g e env (fun d => r.length < sizeLine ∧ ∀ s', IsNest (.list (r ++ [.list d])) s' → (∀ b ∈ s'.fp, b ∉ g.M) → P.nx (env.set i s')) (fun c => P.ex c env)) (he : env[i]? = some s := by rfl) (hN : X.N[i]? = some x := by rfl)
    (hv : Vis X.env.scope x := by first | exact Or.inl rfl | exact Or.inr (Or.inl rfl) | exact Or.inr (Or.inr rfl)) (hd : (x == ("__debug__" : Str)) = false := by decide)
    (hcd : (x == ("__classdict__" : Str)) = false := by decide)
    (hbase : attributeBase (.Name x q) "append" X.env (eval (.Name x q) X.env) = eval (.Name x q) X.env := by rfl)
    (hfew : ((backTo cpos (starEach [e] X.env)).all (fun x => !x.1) && (backToKw cpos (keywordEach [] X.env)).all (fun x => x.1.isSome)
      && decide ([e].length + ([] : List Keyword).length + (if ([] : List Keyword).isEmpty then 0 else 1) < 30)) = true := by rfl)
    (hline : (apos.endLine == cpos.line) = true := by rfl) (hs1 : starEach [e] X.env = (false, eval e X.env) :: starEach [] X.env := by rfl) (hplain : (backTo cpos (starEach ([] : List Expr) X.env)).any (·.1) = false := by rfl)
    (hs : swapsWith (.Call (.Attribute (.Name x q) "append" apos) [e] [] cpos) none pos.line X.env = pure false := by rfl) :
    W1 X g (.Expr (.Call (.Attribute (.Name x q) "append" apos) [e] [] cpos) pos) env P := fun W tk hx2 σ F H s0 D hD => by
  obtain ⟨ds, al, as, rfl, rfl, hl⟩ := isn_list hn
  refine semP_of (ps_expr (pe_bm PySem.F.plainAttrs_list PySem.F.slot_list_append PySem.F.type_list_append mt_append (pe_var hN hv hd hcd) (pa_cons (peS e) pa_nil hs1) hbase hfew hline hs1 hplain) hs) ?_
  obtain ⟨h1, h2, _⟩ := s0.sl i _ he
  refine ⟨_, getD_some h1, .inl ⟨rfl, _, SqL.of h2⟩, ?_⟩
  refine h W tk σ F H s0 (hx2.hx env σ) _ fun d v F' H' ⟨hlen, hp⟩ s' e' ⟨q, us, hv', n1, n2, n3, n4, n5⟩ => ?_
  subst hv'
  obtain ⟨k1, k2, k3, k4⟩ := s'.sl i _ he
  have hmem : ∀ b ∈ (ooS al as ds).fp, Own env b := fun b hb => ⟨i, _, he, hb⟩
  have hqa : q ∉ (ooS al as ds).fp := fun z => n4 (hmem q z)
  have hlz : as.length = ds.length := hl
  have hzip : (as ++ [q]).zip (ds ++ [d]) = as.zip ds ++ [(q, d)] := by rw [List.zip_append hl]; rfl
  have hfp : ∀ b ∈ (ooS al (as ++ [q]) (ds ++ [d])).fp, b ∈ (ooS al as ds).fp ∨ b = q := fun b hb => by
    have hb : b ∈ al :: ((as ++ [q]).zip (ds ++ [d])).map Prod.fst := hb
    rw [hzip, List.map_append] at hb
    rcases List.mem_cons.mp hb with rfl | hb
    · exact .inl (List.mem_cons_self ..)
    · rcases List.mem_append.mp hb with hb | hb
      · exact .inl (List.mem_cons_of_mem _ hb)
      · exact .inr (by simpa using hb)
  refine ⟨al, _, _, rfl, rfl, k2, by rw [List.length_map, List.length_zip, hl, Nat.min_self]; rw [List.length_map] at hlen; exact hlen, ?_⟩
  have hne : ∀ b ∈ (ooS al as ds).fp, b ≠ q := fun b hb z => hqa (z ▸ hb)
  have hqal : q ≠ al := fun z => hqa (z ▸ List.mem_cons_self ..)
  have nd := List.nodup_cons.mp k3
  refine hD.nx _ _ F' _ (hp (ooS al (as ++ [q]) (ds ++ [d])) (.inl ⟨ds ++ [d], al, as ++ [q], by rw [List.map_append]; rfl, rfl, by simp [hl]⟩) fun b hb => ?_) (s'.writeG he (List.mem_cons_self ..) (fun b hb => ?_) ?_) e'
  · rcases hfp b hb with hb | rfl
    · exact nM b hb
    · exact fun m => s'.g6 _ m n5
  · rcases hfp b hb with hb | rfl
    · exact .inl hb
    · exact .inr ⟨n3, n4, n5⟩
  · refine ⟨k1, ?_, ?_, fun r hr => ?_⟩
    · show upd H' al _ al = _
      rw [upd_same, hzip, List.map_append]; rfl
    · show (al :: ((as ++ [q]).zip (ds ++ [d])).map Prod.fst).Nodup
      rw [hzip, List.map_append, ← List.cons_append, List.nodup_append]
      refine ⟨k3, by simp, fun b hb c hc z => ?_⟩
      have hc : c = q := by simpa using hc
      exact hne b hb (z.trans hc)
    · have hr : r ∈ (as ++ [q]).zip (ds ++ [d]) := hr
      rw [hzip] at hr
      rcases List.mem_append.mp hr with hr | hr
      · obtain ⟨vs, z1, z2⟩ := k4 r hr
        have : r.1 ≠ al := fun z => nd.1 (z ▸ List.mem_map.mpr ⟨r, hr, rfl⟩)
        exact ⟨vs, by rw [upd_ne this]; exact z1, z2⟩
      · have hr : r = (q, d) := by simpa using hr
        subst hr
        exact ⟨us, by rw [upd_ne hqal]; exact n1, n2⟩
end
end TL
namespace TL
open PySem PySem.Spec PyProof.Rows L2
section
variable {X : Cx} {g : G} {env env' : List Sl} {Ψ : Exc → Prop} {P : Po} {pos p lp : Pos} {a b c e e1 e2 elt tg iter : Expr} {es : List Expr} {rest body : List Stmt} {K : Frag} {F F' F1 F2 H H' H1 H2 : Hp} {σ σ' : SS} {s : Sl} {v : V} {x kd : PyData}
/-- what stood and no slot owns stays as it is, out of the frozen part -/
theorem St.keeps {D : Addr} {u : HO} (s2 : St K ⟨F, H, fps env⟩ F' H' σ' env') (hD : H D = some u) (hu : ntb u) (fD : F D = none) (oD : ¬ Own env D) : H' D = some u ∧ F' D = none := by
  refine ⟨s2.g1 D _ hD (fun z => oD (own_fps.mpr z)) hu, ?_⟩
  cases q : F' D with
  | none => rfl
  | some w =>
    rcases s2.g4 D (by rw [q]; intro z; cases z) with z | z
    · exact absurd fD z
    · have z' : H D = none := z
      rw [hD] at z'; cases z'
variable {scope : Scope} {own : List (Str × Nat)} {t : TG} {A : PyData → Option (List (Nat × PyData))} {Φ : Sl → Prop}
theorem ws_joinSC {τ υ : Type} {st : Stmt} {bd : (τ → Prop) → Prop} {Q : τ → Prop} (h : joinM bd Q) (mk : τ → υ → List Sl) (C : τ → υ → Prop) (h1 : ∀ Q, bd Q → W1 X g st env (P.thn fun e => ∃ s u, Q s ∧ C s u ∧ e = mk s u)) (h2 : ∀ s u, C s u → Q s → WS X g rest (mk s u) P) : WS X g (st :: rest) env P :=
  ws_mid (fun e => ∃ s u, Q s ∧ C s u ∧ e = mk s u) (h1 Q h) fun e ⟨s, u, hq, hc, he⟩ => he ▸ h2 s u hc hq
end
end TL
namespace TL
open PySem PySem.Spec PyProof.Rows L2
structure HasD (P : Program) (w : World) (K : Frag) (mg : Str → Option Value) (base : Heap) (k : Nat) (x : Str) (ps : List Str) (dvs : List V) (S : CT) : Prop where
  ex : ∃ f fd ds, mg x = some (.ref f) ∧ PySem.W.keepIn K (.ref f) = true ∧ Vals dvs ds ∧ Binds K fd ps ds ∧ FnOk P w K mg base (L2.CX P w) k f fd ps (spOf K ps.length S)
structure HasN (P : Program) (w : World) (K : Frag) (mg : Str → Option Value) (base : Heap) (k : Nat) (x : Str) (ps : List Str) (n : Nat) (ks : List Str) (S : CT) : Prop where
  ex : ∃ f fd, mg x = some (.ref f) ∧ PySem.W.keepIn K (.ref f) = true ∧ L2.KBn K fd ps n ks (fun us ws => us ++ ws) (fun us ws => us ++ ws) ∧ FnOk P w K mg base (L2.CX P w) k f fd ps (spOf K ps.length S)
theorem HasD.mono {P : Program} {w : World} {K : Frag} {mg : Str → Option Value} {base : Heap} {k k' : Nat} {x : Str} {ps : List Str} {dvs : List V} {S : CT} (h : HasD P w K mg base k x ps dvs S) (le : k ≤ k') : HasD P w K mg base k' x ps dvs S := by
  obtain ⟨f, fd, ds, h1, h2, h3, h4, h5⟩ := h.ex
  exact ⟨f, fd, ds, h1, h2, h3, h4, h5.mono le⟩
theorem HasN.mono {P : Program} {w : World} {K : Frag} {mg : Str → Option Value} {base : Heap} {k k' n : Nat} {x : Str} {ps ks : List Str} {S : CT} (h : HasN P w K mg base k x ps n ks S) (le : k ≤ k') : HasN P w K mg base k' x ps n ks S := by
  obtain ⟨f, fd, h1, h2, h3, h5⟩ := h.ex
  exact ⟨f, fd, h1, h2, h3, h5.mono le⟩
section
variable {X : Cx} {g : G} {env : List Sl} {Ψ : Exc → Prop} {pos p : Pos} {e : Expr} {es : List Expr} {K : Frag} {F F' H : Hp} {σ : SS} {Φ : PyData → Bool → Prop}
theorem passE0 {P : Program} {w : World} : L2.Passes (L2.CX P w) X C8.E0 := fun pins σ H s u s' I ⟨a, B, H', cls, d, _, _, _, _, _, _, _, h⟩ => h.elim
end
section
variable {K : Frag} {x qual : Str} {params : Arguments} {body : List Stmt} {scope : Scope} {dv : V} {f : Addr} {fd : FuncData} {ps : List Str}
theorem binds_full (F : FunD K x qual params body scope [dv] [] f fd) (n : Nat) (hn : n = ps.length)
    (h : ∀ (T : Addr) (kV doc pm : Value) (an : Option Addr) (cdv ct : Value) (us its : List Value), us.length = n → its.length = 1 → ∃ k, bindArgs (PySem.W.fnOf x qual params body scope (.ref T) kV doc pm an cdv ct) ⟨us, []⟩ = seqItems? (.ref T) >>= k ∧ k (some its.toArray) = pure (ps.zip us)) : Binds K fd ps [] := by
  obtain ⟨ds, h1, h2⟩ := F.binds1 (ps := ps) n 1 (by simp) (by simp [hn]) fun T kV doc pm an cdv ct us its hu hi => by
    obtain ⟨k, e1, e2⟩ := h T kV doc pm an cdv ct us its hu hi
    refine ⟨k, e1, ?_⟩
    rw [e2, show its.drop 1 = [] by rw [List.drop_eq_nil_iff]; simp at hi; omega, List.append_nil]
  cases h1
  exact h2
theorem binds_dfl (F : FunD K x qual params body scope [dv] [] f fd) (n : Nat) (hn : n + 1 = ps.length)
    (h : ∀ (T : Addr) (kV doc pm : Value) (an : Option Addr) (cdv ct : Value) (us its : List Value), us.length = n → its.length = 1 → ∃ k, bindArgs (PySem.W.fnOf x qual params body scope (.ref T) kV doc pm an cdv ct) ⟨us, []⟩ = seqItems? (.ref T) >>= k ∧ k (some its.toArray) = pure (ps.zip (us ++ its))) : ∃ ds, Vals [dv] ds ∧ Binds K fd ps ds :=
  F.binds1 (ps := ps) n 0 (by simp) (by simpa using hn) fun T kV doc pm an cdv ct us its hu hi => h T kV doc pm an cdv ct us its hu hi
theorem binds_kw (F : FunD K x qual params body scope [dv] [] f fd) (n : Nat) (nm : Str)
    (h : ∀ (T : Addr) (kV doc pm : Value) (an : Option Addr) (cdv ct : Value) (us ws its : List Value), us.length = n → ws.length = 1 → its.length = 1 → ∃ k, bindArgs (PySem.W.fnOf x qual params body scope (.ref T) kV doc pm an cdv ct) ⟨us, [nm].zip ws⟩ = seqItems? (.ref T) >>= k ∧ k (some its.toArray) = pure (ps.zip (us ++ ws))) : L2.KBn K fd ps n [nm] (fun us ws => us ++ ws) (fun us ws => us ++ ws) := by
  obtain ⟨oc, od, dV, kV, doc, pm, an, cdv, ct, osl, rfl, lk, hcd, hd, hkw⟩ := F.ex
  rcases hd with ⟨z, _⟩ | ⟨_, T, o, its, m, rfl, hT, ho, hv⟩
  · cases z
  refine ⟨fun s us ws kin hu hw => ?_, fun h1 h2 => ?_⟩
  · refine BindsTo.of_looks fun M => ?_
    have hi : its.length = 1 := (hv.length).symm
    obtain ⟨k, e1, e2⟩ := h T kV doc pm an cdv ct us ws its hu hw hi
    rw [e1]
    refine looks_items kin hT ho ?_
    rw [e2]
    exact PySem.W.Looks.now
  · have : ∀ {vs : List V} {us : List Value} {zs : List V} {ws : List Value}, Vals vs us → Vals zs ws → Vals (vs ++ zs) (us ++ ws) := fun {vs us zs ws} h1 h2 => by
      induction h1 with
      | nil => exact h2
      | cons r _ ih => exact .cons r ih
    exact this h1 h2
end
end TL
namespace TL
open PySem PySem.Spec PyProof.Rows L2
inductive OF where
  | d (x : PyData)
  | l (ds : List PyData)
inductive OA where
  | d (x : PyData)
  | l (q : Addr) (ds : List PyData)
def OA.fp : OA → List Addr
  | .d _ => []
  | .l q _ => [q]
def OA.of : OA → OF
  | .d x => .d x
  | .l _ ds => .l ds
def ofp (fs : List (Str × OA)) : List Addr := fs.flatMap fun p => p.2.fp
def FOk (K : Frag) (F H : Hp) : List (Str × V) → List (Str × OA) → Prop
  | [], [] => True
  | (f, v) :: vs, (g, o) :: fs => f = g ∧ (match o with
    | .d x => Dq K F v x
    | .l q ds => v = .ref q ∧ ∃ us, H q = some (.lst us) ∧ DqAll K F us ds) ∧ FOk K F H vs fs
  | _, _ => False
theorem fok_mono {K : Frag} {F F' H H' : Hp} (e : Ex F F') : ∀ {vs : List (Str × V)} {fs : List (Str × OA)}, (∀ b ∈ ofp fs, ∀ u, H b = some u → H' b = some u) → FOk K F H vs fs → FOk K F' H' vs fs
  | [], [], _, _ => trivial
  | (f, v) :: vs, (g, .d x) :: fs, k, ⟨h1, h2, h3⟩ => ⟨h1, dp_mono e _ _ h2, fok_mono e (fun b hb => k b (by unfold ofp at *; rw [List.flatMap_cons]; exact List.mem_append_right _ hb)) h3⟩
  | (f, v) :: vs, (g, .l q ds) :: fs, k, ⟨h1, ⟨h2, us, h4, h5⟩, h3⟩ =>
    ⟨h1, ⟨h2, us, k q (by unfold ofp; rw [List.flatMap_cons]; exact List.mem_append_left _ (List.mem_singleton.mpr rfl)) _ h4, dpa_mono e _ _ h5⟩, fok_mono e (fun b hb => k b (by unfold ofp at *; rw [List.flatMap_cons]; exact List.mem_append_right _ hb)) h3⟩
  | [], _ :: _, _, h => h.elim
  | _ :: _, [], _, h => h.elim
theorem fok_there {K : Frag} {F H : Hp} : ∀ {vs : List (Str × V)} {fs : List (Str × OA)}, FOk K F H vs fs → ∀ b ∈ ofp fs, ∃ us, H b = some (.lst us)
  | [], [], _, b, hb => by cases hb
  | (f, v) :: vs, (g, .d x) :: fs, ⟨h1, h2, h3⟩, b, hb => by
    unfold ofp at hb; rw [List.flatMap_cons] at hb
    exact fok_there h3 b hb
  | (f, v) :: vs, (g, .l q ds) :: fs, ⟨h1, ⟨h2, us, h4, h5⟩, h3⟩, b, hb => by
    unfold ofp at hb; rw [List.flatMap_cons] at hb
    rcases List.mem_append.mp hb with z | z
    · rw [List.mem_singleton.mp z]; exact ⟨us, h4⟩
    · exact fok_there h3 b z
  | [], _ :: _, h, _, _ => h.elim
  | _ :: _, [], h, _, _ => h.elim
def oarows (fs : List (Str × OA)) : List (Addr × List PyData) := fs.flatMap fun p => match p.2 with
  | .d _ => []
  | .l q ds => [(q, ds)]
theorem fok_held {K : Frag} {F H : Hp} : ∀ {vs : List (Str × V)} {fs : List (Str × OA)}, FOk K F H vs fs → ∀ r ∈ oarows fs, ∃ us, H r.1 = some (.lst us) ∧ DqAll K F us r.2
  | [], [], _, b, hb => by cases hb
  | (f, v) :: vs, (g, .d x) :: fs, ⟨h1, h2, h3⟩, b, hb => by
    unfold oarows at hb; rw [List.flatMap_cons] at hb
    exact fok_held h3 b hb
  | (f, v) :: vs, (g, .l q ds) :: fs, ⟨h1, ⟨h2, us, h4, h5⟩, h3⟩, b, hb => by
    unfold oarows at hb; rw [List.flatMap_cons] at hb
    rcases List.mem_append.mp hb with z | z
    · rw [List.mem_singleton.mp z]; exact ⟨us, h4, h5⟩
    · exact fok_held h3 b z
  | [], _ :: _, h, _, _ => h.elim
  | _ :: _, [], h, _, _ => h.elim
def obT (n : Str) (a dx : Addr) (fs : List (Str × OA)) : OwT where
  id := a
  fp := a :: dx :: ofp fs
  ok := fun K F H v => v = .ref a ∧ InsK K n ∧ (ofp fs).Nodup ∧ H dx = some (.own a) ∧ ∃ vs, H a = some (.ins (He.ga K n) dx vs) ∧ FOk K F H vs fs
  isr := fun h => h.1
  mono := fun e k ⟨h1, h2, h3, h4, vs, h5, h6⟩ => ⟨h1, h2, h3, k dx (by simp) _ h4, vs, k a (by simp) _ h5, fok_mono e (fun b hb => k b (by simp [hb])) h6⟩
  there := fun ⟨h1, h2, h3, h4, vs, h5, h6⟩ b hb => by
    rcases List.mem_cons.mp hb with rfl | hb
    · exact ⟨_, h5, rfl⟩
    · rcases List.mem_cons.mp hb with rfl | hb
      · exact ⟨_, h4, rfl⟩
      · obtain ⟨us, h⟩ := fok_there h6 b hb
        exact ⟨_, h, rfl⟩
  rows := oarows fs
  held := fun ⟨h1, h2, h3, h4, vs, h5, h6⟩ r hr => fok_held h6 r hr
/-- an object of the class n with these fields -/
def IsOb (n : Str) (fs : List (Str × OF)) (s : Sl) : Prop := ∃ a dx fa, s = .ow (obT n a dx fa) ∧ fs = fa.map fun p => (p.1, p.2.of)
theorem IsOb.ne {n : Str} {fs : List (Str × OF)} {s : Sl} (h : IsOb n fs s) : s ≠ .un := by
  obtain ⟨a, dx, fa, rfl, _⟩ := h
  intro z; cases z
theorem IsOb.fpne {n : Str} {fs : List (Str × OF)} {s : Sl} (h : IsOb n fs s) : s.fp ≠ [] := by
  obtain ⟨a, dx, fa, rfl, _⟩ := h
  intro z; cases z
theorem fok_look {K : Frag} {F H : Hp} {f : Str} : ∀ {vs : List (Str × V)} {fs : List (Str × OA)} {o : OA}, FOk K F H vs fs → fs.lookup f = some o → ∃ v, vs.lookup f = some v ∧ (match o with
    | .d x => Dq K F v x
    | .l q ds => v = .ref q ∧ ∃ us, H q = some (.lst us) ∧ DqAll K F us ds)
  | [], [], _, _, h => by cases h
  | (f', v) :: vs, (g, o') :: fs, o, ⟨h1, h2, h3⟩, h => by
    subst h1
    rw [List.lookup_cons] at h ⊢
    cases e : f == f' with
    | true =>
      rw [e] at h
      cases h
      exact ⟨v, rfl, h2⟩
    | false =>
      rw [e] at h
      exact fok_look h3 h
  | [], _ :: _, _, h, _ => h.elim
  | _ :: _, [], _, h, _ => h.elim
theorem fok_nolook {K : Frag} {F H : Hp} {f : Str} : ∀ {vs : List (Str × V)} {fs : List (Str × OA)}, FOk K F H vs fs → fs.lookup f = none → vs.lookup f = none
  | [], [], _, _ => rfl
  | (f', v) :: vs, (g, o') :: fs, ⟨h1, h2, h3⟩, h => by
    subst h1
    rw [List.lookup_cons] at h ⊢
    cases e : f == f' with
    | true => rw [e] at h; cases h
    | false => rw [e] at h; exact fok_nolook h3 h
  | [], _ :: _, h, _ => h.elim
  | _ :: _, [], h, _ => h.elim
theorem fok_len {K : Frag} {F H : Hp} : ∀ {vs : List (Str × V)} {fs : List (Str × OA)}, FOk K F H vs fs → vs.length = fs.length
  | [], [], _ => rfl
  | _ :: vs, _ :: fs, ⟨_, _, h3⟩ => congrArg Nat.succ (fok_len h3)
  | [], _ :: _, h => h.elim
  | _ :: _, [], h => h.elim
def putO (f : Str) (o : OA) : List (Str × OA) → List (Str × OA)
  | [] => [(f, o)]
  | (g, x) :: r => if g = f then (g, o) :: r else (g, x) :: putO f o r
def putOF (f : Str) (o : OF) : List (Str × OF) → List (Str × OF)
  | [] => [(f, o)]
  | (g, x) :: r => if g = f then (g, o) :: r else (g, x) :: putOF f o r
theorem putO_of (f : Str) (o : OA) : ∀ fs : List (Str × OA), (putO f o fs).map (fun p => (p.1, p.2.of)) = putOF f o.of (fs.map fun p => (p.1, p.2.of))
  | [] => rfl
  | (g, x) :: r => by
    show (if g = f then (g, o) :: r else (g, x) :: putO f o r).map _ = (if g = f then (g, o.of) :: _ else (g, x.of) :: putOF f o.of _)
    split
    · rfl
    · rw [List.map_cons, putO_of f o r]
theorem look_of {f : Str} : ∀ {fs : List (Str × OA)}, (fs.map fun p => (p.1, p.2.of)).lookup f = (fs.lookup f).map OA.of
  | [] => rfl
  | (g, x) :: r => by
    rw [List.map_cons, List.lookup_cons, List.lookup_cons]
    cases f == g with
    | true => rfl
    | false => exact look_of
theorem putO_fp (f : Str) (o : OA) : ∀ (fs : List (Str × OA)) (b : Addr), b ∈ ofp (putO f o fs) → b ∈ o.fp ∨ b ∈ ofp fs
  | [], b, h => by
    unfold putO ofp at h
    rw [List.flatMap_cons, List.flatMap_nil, List.append_nil] at h
    exact .inl h
  | (g, x) :: r, b, h => by
    have h : b ∈ ofp (if g = f then (g, o) :: r else (g, x) :: putO f o r) := h
    unfold ofp at *
    split at h
    · rw [List.flatMap_cons] at h ⊢
      rcases List.mem_append.mp h with z | z
      · exact .inl z
      · exact .inr (List.mem_append_right _ z)
    · rw [List.flatMap_cons] at h ⊢
      rcases List.mem_append.mp h with z | z
      · exact .inr (List.mem_append_left _ z)
      · rcases putO_fp f o r b z with y | y
        · exact .inl y
        · exact .inr (List.mem_append_right _ y)
theorem putO_nd (f : Str) (o : OA) (ho : o.fp.Nodup) : ∀ (fs : List (Str × OA)), (ofp fs).Nodup → (∀ b ∈ o.fp, b ∉ ofp fs) → (ofp (putO f o fs)).Nodup
  | [], _, _ => by
    unfold putO ofp
    rw [List.flatMap_cons, List.flatMap_nil, List.append_nil]; exact ho
  | (g, x) :: r, h, hn => by
    have e : ofp ((g, x) :: r) = x.fp ++ ofp r := by unfold ofp; rw [List.flatMap_cons]
    rw [e] at h hn
    obtain ⟨h1, h2, h3⟩ := List.nodup_append.mp h
    show (ofp (if g = f then (g, o) :: r else (g, x) :: putO f o r)).Nodup
    split
    · have e2 : ofp ((g, o) :: r) = o.fp ++ ofp r := by unfold ofp; rw [List.flatMap_cons]
      rw [e2]
      exact List.nodup_append.mpr ⟨ho, h2, fun a ha b hb z => hn a ha (List.mem_append_right _ (z ▸ hb))⟩
    · have e2 : ofp ((g, x) :: putO f o r) = x.fp ++ ofp (putO f o r) := by unfold ofp; rw [List.flatMap_cons]
      rw [e2]
      refine List.nodup_append.mpr ⟨h1, putO_nd f o ho r h2 fun b hb z => hn b hb (List.mem_append_right _ z), fun a ha b hb z => ?_⟩
      rcases putO_fp f o r b hb with y | y
      · exact hn b y (List.mem_append_left _ (z ▸ ha))
      · exact h3 a ha b y z
theorem fok_put {K : Frag} {F H : Hp} {f : Str} {v : V} {o : OA} (ho : match o with
    | .d x => Dq K F v x
    | .l q ds => v = .ref q ∧ ∃ us, H q = some (.lst us) ∧ DqAll K F us ds) : ∀ {vs : List (Str × V)} {fs : List (Str × OA)}, FOk K F H vs fs → FOk K F H (putF f v vs) (putO f o fs)
  | [], [], _ => ⟨rfl, ho, trivial⟩
  | (f', w) :: vs, (g, x) :: fs, ⟨h1, h2, h3⟩ => by
    subst h1
    show FOk K F H (if f' = f then (f', v) :: vs else (f', w) :: putF f v vs) (if f' = f then (f', o) :: fs else (f', x) :: putO f o fs)
    split
    · exact ⟨rfl, ho, h3⟩
    · exact ⟨rfl, h2, fok_put ho h3⟩
  | [], _ :: _, h => h.elim
  | _ :: _, [], h => h.elim
section
variable {X : Cx} {g : G} {env env' : List Sl} {Ψ : Exc → Prop} {P : Po} {pos p lp : Pos} {a b c e e1 e2 elt tg iter : Expr} {es : List Expr} {rest body : List Stmt} {K : Frag} {F F' F1 F2 H H' H1 H2 : Hp} {σ σ' : SS} {s : Sl} {v : V} {x kd : PyData} {n : Str} {fs : List (Str × OF)}
theorem of_l {o : OA} {ds : List PyData} (h : o.of = .l ds) : ∃ q, o = .l q ds := by
  cases o with
  | d x => cases h
  | l q ds' => cases h; exact ⟨q, rfl⟩
end
end TL
namespace TL
open PySem PySem.Spec PyProof.Rows L2
section
variable {X : Cx} {g : G} {env env' : List Sl} {Ψ : Exc → Prop} {P : Po} {pos p lp : Pos} {a b c e e1 e2 elt tg iter : Expr} {es : List Expr} {rest body : List Stmt} {K : Frag} {F F' F1 F2 H H' H1 H2 : Hp} {σ σ' : SS} {s : Sl} {v : V} {x kd : PyData} {n : Str} {fs : List (Str × OF)}
theorem ob_fp {fa : List (Str × OA)} {al dx : Addr} {b : Addr} : b ∈ (Sl.ow (obT n al dx fa)).fp ↔ b = al ∨ b = dx ∨ b ∈ ofp fa := by
  show b ∈ al :: dx :: ofp fa ↔ _
  rw [List.mem_cons, List.mem_cons]
/-- the instance's own attributes change: data or a new list goes in -/
theorem ob_store {i : Nat} {al dx : Addr} {fa : List (Str × OA)} {f : Str} {o : OA} {w : V} {vs : List (Str × V)} (st : St K g F H σ env) (he : env[i]? = some (.ow (obT n al dx fa))) (hv : σ[i]?.getD none = some (.ref al)) (ik : InsK K n) (nd : (ofp fa).Nodup) (hdx : H dx = some (.own al)) (ha : H al = some (.ins (He.ga K n) dx vs)) (hok : FOk K F H vs fa)
    (ho : match o with
    | .d x => Dq K F w x
    | .l q ds => w = .ref q ∧ ∃ us, H q = some (.lst us) ∧ DqAll K F us ds) (hn : ∀ b ∈ o.fp, F b = none ∧ ¬ Own env b ∧ g.H0 b = none) (hnd : o.fp.Nodup) :
    St K g F (upd H al (.ins (He.ga K n) dx (putF f w vs))) σ (env.set i (.ow (obT n al dx (putO f o fa)))) := by
  have own : ∀ b ∈ (Sl.ow (obT n al dx fa)).fp, Own env b := fun b hb => ⟨i, _, he, hb⟩
  refine st.writeG (s' := .ow (obT n al dx (putO f o fa))) he (ob_fp.mpr (.inl rfl)) (fun b hb => ?_) ?_
  · rcases ob_fp.mp hb with z | z | z
    · exact .inl (ob_fp.mpr (.inl z))
    · exact .inl (ob_fp.mpr (.inr (.inl z)))
    · rcases putO_fp f o fa b z with y | y
      · exact .inr (hn b y)
      · exact .inl (ob_fp.mpr (.inr (.inr y)))
  · have lst_ne : ∀ b us, H b = some (.lst us) → b ≠ al := fun b us hb z => by rw [z, ha] at hb; cases hb
    refine ⟨.ref al, hv, rfl, ik, putO_nd f o hnd fa nd fun b hb z => (hn b hb).2.1 (own b (ob_fp.mpr (.inr (.inr z)))), ?_, putF f w vs, upd_same, ?_⟩
    · rw [upd_ne (fun z => by rw [z, ha] at hdx; cases hdx)]; exact hdx
    · refine fok_mono (Ex.refl F) (fun b hb u z => ?_) (fok_put ho hok)
      have hne : b ≠ al := by
        rcases putO_fp f o fa b hb with y | y
        · exact fun z2 => (hn b y).2.1 (own b (ob_fp.mpr (.inl z2)))
        · obtain ⟨us, hu⟩ := fok_there hok b y
          exact lst_ne b us hu
      rw [upd_ne hne]; exact z
theorem ob_out {i : Nat} (st : St K g F H σ env) (he : env[i]? = some s) (hn : IsOb n fs s) : ∃ al dx fa vs, s = .ow (obT n al dx fa) ∧ fs = (fa.map fun p => (p.1, p.2.of)) ∧ σ[i]?.getD none = some (.ref al) ∧ InsK K n ∧ (ofp fa).Nodup ∧ H dx = some (.own al) ∧ H al = some (.ins (He.ga K n) dx vs) ∧ FOk K F H vs fa := by
  obtain ⟨al, dx, fa, rfl, rfl⟩ := hn
  obtain ⟨v, hs, rfl, ik, nd, hdx, vs, ha, hok⟩ := st.sl i _ he
  exact ⟨al, dx, fa, vs, rfl, rfl, hs, ik, nd, hdx, ha, hok⟩
def oid : Sl → Option Addr
  | .ow t => some t.id
  | _ => none
/-- the same object, behind a change: what it owns is as it was or new -/
def obM (g : G) (s s' : Sl) : Prop := oid s' = oid s ∧ ∀ b ∈ s'.fp, b ∈ s.fp ∨ b ∉ g.M
theorem obM_refl {s : Sl} : obM g s s := ⟨rfl, fun b hb => .inl hb⟩
theorem obM_trans {s0 s1 s2 : Sl} (h1 : obM g s0 s1) (h2 : obM g s1 s2) : obM g s0 s2 := ⟨h2.1.trans h1.1, fun b hb => (h2.2 b hb).elim (h1.2 b) .inr⟩
theorem back_ob {n n' : Str} {fs fs' : List (Str × OF)} {s s' : Sl} (h1 : IsOb n fs s) (h2 : IsOb n' fs' s') (h : oid s' = oid s) : BackS s s' s' := by
  obtain ⟨a, dx, fa, rfl, _⟩ := h1
  obtain ⟨b, dy, fb, rfl, _⟩ := h2
  exact ⟨Option.some.inj h, rfl⟩
/-- x.f = e, a new list -/
theorem w1_fldL (i : Nat) {xn f : Str} {q pos' : Pos} (hn : IsOb n fs s) (hna : NoAttr X.K (He.ga X.K n) f) (hl : fs.length < 1000) (h : WN X g e env (fun ds => ∀ s', IsOb n (putOF f (.l ds) fs) s' → obM g s s' → P.nx (env.set i s')) (fun c => P.ex c env)) (he : env[i]? = some s := by rfl) (hN : X.N[i]? = some xn := by rfl)
    (hv : Vis X.env.scope xn := by first | exact Or.inl rfl | exact Or.inr (Or.inl rfl) | exact Or.inr (Or.inr rfl)) (hd : (xn == ("__debug__" : Str)) = false := by decide)
    (hcd : (xn == ("__classdict__" : Str)) = false := by decide) (hs : swapsWith e (some (.Attribute (.Name xn q) f pos')) pos.line X.env = pure false := by rfl) : W1 X g (.Assign [.Attribute (.Name xn q) f pos'] e pos) env P := fun W tk hx2 σ F H s0 D hD => by
  refine semP_of (ps_fld (pe_var hN hv hd hcd) (peS e) hs) ?_
  refine h W tk σ F H s0 (hx2.hx env σ) _ fun ds v F' H' hp s' e' ⟨q1, us, hv', n1, n2, n3, n4, n5⟩ => ?_
  subst hv'
  obtain ⟨al, dx, fa, vs, rfl, rfl, hs1, ik, nd, hdx, ha, hok⟩ := ob_out s' he hn
  refine ⟨.ref al, getD_some hs1, al, _, dx, vs, rfl, ha, ik.cls, hna, by rw [fok_len hok]; rw [List.length_map] at hl; exact hl, ?_⟩
  have s2 := ob_store (f := f) (o := .l q1 ds) (w := .ref q1) s' he hs1 ik nd hdx ha hok ⟨rfl, us, n1, n2⟩ (fun b hb => by rw [List.mem_singleton.mp hb]; exact ⟨n3, n4, n5⟩) (List.nodup_cons.mpr ⟨by simp, List.nodup_nil⟩)
  refine hD.nx _ _ F' _ (hp _ ⟨al, dx, _, rfl, (putO_of f (.l q1 ds) fa).symm⟩ ⟨rfl, fun b hb => ?_⟩) s2 e'
  rcases ob_fp.mp hb with z | z | z
  · exact .inl (ob_fp.mpr (.inl z))
  · exact .inl (ob_fp.mpr (.inr (.inl z)))
  · rcases putO_fp f _ fa b z with y | y
    · rw [List.mem_singleton.mp y]; exact .inr fun m => s'.g6 q1 m n5
    · exact .inl (ob_fp.mpr (.inr (.inr y)))
theorem look_mem {f : Str} {o : OA} : ∀ {fa : List (Str × OA)}, fa.lookup f = some o → ∀ b ∈ o.fp, b ∈ ofp fa
  | (g, x) :: r, h, b, hb => by
    unfold ofp
    rw [List.flatMap_cons]
    rw [List.lookup_cons] at h
    cases e : f == g with
    | true => rw [e] at h; cases h; exact List.mem_append_left _ hb
    | false => rw [e] at h; exact List.mem_append_right _ (look_mem h b hb)
theorem putO_same_fp {f : Str} {q : Addr} {ds ds' : List PyData} : ∀ {fa : List (Str × OA)}, fa.lookup f = some (.l q ds) → ofp (putO f (.l q ds') fa) = ofp fa
  | (g, x) :: r, h => by
    rw [List.lookup_cons] at h
    show ofp (if g = f then (g, .l q ds') :: r else (g, x) :: putO f (.l q ds') r) = _
    cases e : f == g with
    | true =>
      rw [e] at h
      cases h
      have : g = f := (beq_iff_eq.mp e).symm
      rw [if_pos this]; rfl
    | false =>
      rw [e] at h
      have : ¬ g = f := fun z => by rw [z] at e; simp at e
      rw [if_neg this]
      have ih := putO_same_fp (ds' := ds') h
      unfold ofp at *
      rw [List.flatMap_cons, List.flatMap_cons, ih]
theorem fok_mut {f : Str} {q : Addr} {ds ds' : List PyData} {us : List V} (hd : DqAll K F us ds') : ∀ {vs : List (Str × V)} {fa : List (Str × OA)}, (ofp fa).Nodup → fa.lookup f = some (.l q ds) → FOk K F H vs fa → FOk K F (upd H q (.lst us)) vs (putO f (.l q ds') fa)
  | (f', w) :: vs, (g, x) :: r, nd, h, ⟨h1, h2, h3⟩ => by
    subst h1
    have e0 : ofp ((f', x) :: r) = x.fp ++ ofp r := by unfold ofp; rw [List.flatMap_cons]
    rw [e0] at nd
    obtain ⟨n1, n2, n3⟩ := List.nodup_append.mp nd
    rw [List.lookup_cons] at h
    show FOk K F _ _ (if f' = f then (f', .l q ds') :: r else (f', x) :: putO f (.l q ds') r)
    cases e : f == f' with
    | true =>
      rw [e] at h
      cases h
      rw [if_pos (beq_iff_eq.mp e).symm]
      obtain ⟨hw, us0, hq, _⟩ := h2
      refine ⟨rfl, ⟨hw, us, upd_same, hd⟩, fok_mono (Ex.refl F) (fun b hb u z => ?_) h3⟩
      have : b ≠ q := fun y => n3 q (List.mem_singleton.mpr rfl) b hb y.symm
      rw [upd_ne this]; exact z
    | false =>
      rw [e] at h
      rw [if_neg (fun z => by rw [z] at e; simp at e)]
      have hqr : q ∈ ofp r := look_mem h q (List.mem_singleton.mpr rfl)
      refine ⟨rfl, ?_, fok_mut hd n2 h h3⟩
      cases x with
      | d y => exact h2
      | l q2 ds2 =>
        obtain ⟨hw, us0, hq, hd0⟩ := h2
        have : q2 ≠ q := fun y => n3 q2 (List.mem_singleton.mpr rfl) q hqr y
        exact ⟨hw, us0, by rw [upd_ne this]; exact hq, hd0⟩
  | [], _ :: _, _, _, h => h.elim
  | _ :: _, [], _, _, h => h.elim
  | [], [], _, h, _ => by cases h
theorem ob_mut {i : Nat} {al dx q : Addr} {fa : List (Str × OA)} {f : Str} {ds ds' : List PyData} {us : List V} {vs : List (Str × V)} (st : St K g F H σ env) (he : env[i]? = some (.ow (obT n al dx fa))) (hv : σ[i]?.getD none = some (.ref al)) (ik : InsK K n) (nd : (ofp fa).Nodup) (hdx : H dx = some (.own al)) (ha : H al = some (.ins (He.ga K n) dx vs)) (hok : FOk K F H vs fa)
    (hf : fa.lookup f = some (.l q ds)) (hd : DqAll K F us ds') : St K g F (upd H q (.lst us)) σ (env.set i (.ow (obT n al dx (putO f (.l q ds') fa)))) := by
  have hq : q ∈ ofp fa := look_mem hf q (List.mem_singleton.mpr rfl)
  obtain ⟨us0, hu0⟩ := fok_there hok q hq
  refine st.writeG (s' := .ow (obT n al dx (putO f (.l q ds') fa))) he (ob_fp.mpr (.inr (.inr hq))) (fun b hb => ?_) ?_
  · rcases ob_fp.mp hb with z | z | z
    · exact .inl (ob_fp.mpr (.inl z))
    · exact .inl (ob_fp.mpr (.inr (.inl z)))
    · rw [putO_same_fp hf] at z
      exact .inl (ob_fp.mpr (.inr (.inr z)))
  · refine ⟨.ref al, hv, rfl, ik, by rw [putO_same_fp hf]; exact nd, ?_, vs, ?_, fok_mut hd nd hf hok⟩
    · rw [upd_ne (fun z => by rw [z, hu0] at hdx; cases hdx)]; exact hdx
    · rw [upd_ne (fun z => by rw [z, hu0] at ha; cases ha)]; exact ha
theorem putO_obM {al dx q : Addr} {fa : List (Str × OA)} {f : Str} {ds ds' : List PyData} (hf : fa.lookup f = some (.l q ds)) : obM g (.ow (obT n al dx fa)) (.ow (obT n al dx (putO f (.l q ds') fa))) := ⟨rfl, fun b hb => by
  rcases ob_fp.mp hb with z | z | z
  · exact .inl (ob_fp.mpr (.inl z))
  · exact .inl (ob_fp.mpr (.inr (.inl z)))
  · rw [putO_same_fp hf] at z
    exact .inl (ob_fp.mpr (.inr (.inr z)))⟩
/-- x.f.append(e) -/
theorem w1_fldApp (i : Nat) {xn f : Str} {q fpos apos cpos : Pos} {ds : List PyData} (hn : IsOb n fs s) (hna : NoAttr X.K (He.ga X.K n) f) (hf : fs.lookup f = some (.l ds)) (h : WE X g e env (fun d z => z = true ∧ ds.length < sizeLine ∧ ∀ s', IsOb n (putOF f (.l (ds ++ [d])) fs) s' → obM g s s' → P.nx (env.set i s')) (fun c => P.ex c env)) (he : env[i]? = some s := by rfl) (hN : X.N[i]? = some xn := by rfl)
    (hv : Vis X.env.scope xn := by first | exact Or.inl rfl | exact Or.inr (Or.inl rfl) | exact Or.inr (Or.inr rfl)) (hd : (xn == ("__debug__" : Str)) = false := by decide)
    (hcd : (xn == ("__classdict__" : Str)) = false := by decide) (hb : attributeBase (.Name xn q) f X.env (eval (.Name xn q) X.env) = eval (.Name xn q) X.env := by rfl)
    (hbase : attributeBase (.Attribute (.Name xn q) f fpos) "append" X.env (eval (.Attribute (.Name xn q) f fpos) X.env) = eval (.Attribute (.Name xn q) f fpos) X.env := by rfl)
    (hfew : ((backTo cpos (starEach [e] X.env)).all (fun x => !x.1) && (backToKw cpos (keywordEach [] X.env)).all (fun x => x.1.isSome)
      && decide ([e].length + ([] : List Keyword).length + (if ([] : List Keyword).isEmpty then 0 else 1) < 30)) = true := by rfl)
    (hline : (apos.endLine == cpos.line) = true := by rfl) (hs1 : starEach [e] X.env = (false, eval e X.env) :: starEach [] X.env := by rfl) (hplain : (backTo cpos (starEach ([] : List Expr) X.env)).any (·.1) = false := by rfl)
    (hs : swapsWith (.Call (.Attribute (.Attribute (.Name xn q) f fpos) "append" apos) [e] [] cpos) none pos.line X.env = pure false := by rfl) :
    W1 X g (.Expr (.Call (.Attribute (.Attribute (.Name xn q) f fpos) "append" apos) [e] [] cpos) pos) env P := fun W tk hx2 σ F H s0 D hD => by
  refine semP_of (ps_expr (pe_bm PySem.F.plainAttrs_list PySem.F.slot_list_append PySem.F.type_list_append mt_append (pe_fld (pe_var hN hv hd hcd) hb) (pa_cons (peS e) pa_nil hs1) hbase hfew hline hs1 hplain) hs) ?_
  obtain ⟨al, dx, fa, vs, rfl, rfl, hs0, ik, nd, hdx, ha, hok⟩ := ob_out s0 he hn
  rw [look_of] at hf
  obtain ⟨o, ho, eo⟩ := Option.map_eq_some_iff.mp hf
  obtain ⟨q1, rfl⟩ := of_l eo
  obtain ⟨w, hw, rfl, us, hu, hdu⟩ := fok_look hok ho
  refine ⟨_, getD_some hs0, al, _, dx, vs, _, rfl, ha, ik.cls, hna, hw, .inl ⟨rfl, us, SqL.of hu⟩, ?_⟩
  refine h W tk σ F H s0 (hx2.hx env σ) _ fun d z v F' H' ⟨hz, hl, hp⟩ s' e' r' => ?_
  subst hz
  obtain ⟨v2, hs2, e2, ik2, nd2, hdx2, vs2, ha2, hok2⟩ := s'.sl i _ he
  cases e2
  obtain ⟨w2, hw2, rfl, us2, hu2, hdu2⟩ := fok_look hok2 ho
  refine ⟨q1, us2, v, rfl, rfl, hu2, by rw [dpa_len hdu2]; exact hl, ?_⟩
  have s3 := ob_mut (ds' := ds ++ [d]) (us := us2 ++ [v]) s' he hs2 ik nd2 hdx2 ha2 hok2 ho (dpa_app hdu2 (dpa_one r'))
  exact hD.nx _ _ F' _ (hp _ ⟨al, dx, _, rfl, (putO_of f (.l q1 (ds ++ [d])) fa).symm⟩ (putO_obM ho)) s3 e'
/-- x.f.pop() -/
theorem w1_fldPopS (i : Nat) {xn f : Str} {q fpos apos cpos : Pos} {ds : List PyData} (hn : IsOb n fs s) (hna : NoAttr X.K (He.ga X.K n) f) (hf : fs.lookup f = some (.l ds))
    (h : popM ds fun ds' _ => ∀ s', IsOb n (putOF f (.l ds') fs) s' → obM g s s' → P.nx (env.set i s')) (he : env[i]? = some s := by rfl) (hN : X.N[i]? = some xn := by rfl)
    (hv : Vis X.env.scope xn := by first | exact Or.inl rfl | exact Or.inr (Or.inl rfl) | exact Or.inr (Or.inr rfl)) (hd : (xn == ("__debug__" : Str)) = false := by decide)
    (hcd : (xn == ("__classdict__" : Str)) = false := by decide) (hb : attributeBase (.Name xn q) f X.env (eval (.Name xn q) X.env) = eval (.Name xn q) X.env := by rfl)
    (hbase : attributeBase (.Attribute (.Name xn q) f fpos) "pop" X.env (eval (.Attribute (.Name xn q) f fpos) X.env) = eval (.Attribute (.Name xn q) f fpos) X.env := by rfl) (hline : (apos.endLine == cpos.line) = true := by rfl)
    (hs : swapsWith (.Call (.Attribute (.Attribute (.Name xn q) f fpos) "pop" apos) [] [] cpos) none pos.line X.env = pure false := by rfl) :
    W1 X g (.Expr (.Call (.Attribute (.Attribute (.Name xn q) f fpos) "pop" apos) [] [] cpos) pos) env P := fun W tk hx2 σ F H s0 D hD => by
  refine semP_of (ps_expr (pe_bm0 PySem.F.plainAttrs_list PySem.F.slot_list_pop PySem.F.type_list_pop mt_pop (pe_fld (pe_var hN hv hd hcd) hb) hbase hline) hs) ?_
  obtain ⟨al, dx, fa, vs, rfl, rfl, hs0, ik, nd, hdx, hal, hok⟩ := ob_out s0 he hn
  rw [look_of] at hf
  obtain ⟨o, ho, eo⟩ := Option.map_eq_some_iff.mp hf
  obtain ⟨q1, rfl⟩ := of_l eo
  obtain ⟨ds', d, rfl, hp⟩ := h
  obtain ⟨w, hw1, rfl, us, hu, hdu⟩ := fok_look hok ho
  obtain ⟨us', u, rfl, k1, k2⟩ := dpa_snoc hdu
  refine ⟨_, getD_some hs0, al, _, dx, vs, _, rfl, hal, ik.cls, hna, hw1, .inl ⟨rfl, _, SqL.of hu⟩, ?_⟩
  refine ⟨q1, _, u, rfl, rfl, hu, by simp, ?_⟩
  have s3 := ob_mut (ds' := ds') (us := us') s0 he hs0 ik nd hdx hal hok ho k1
  have e3 : (us' ++ [u]).dropLast = us' := List.dropLast_concat
  rw [e3]
  exact hD.nx _ _ F _ (hp _ ⟨al, dx, _, rfl, (putO_of f (.l q1 ds') fa).symm⟩ (putO_obM ho)) s3 (Ex.refl F)
end
end TL
namespace TL
open PySem PySem.Spec PyProof.Rows L2
section
variable {X : Cx} {g : G} {env env' : List Sl} {Ψ : Exc → Prop} {P : Po} {pos p lp : Pos} {a b c e e1 e2 elt tg iter : Expr} {es : List Expr} {rest body : List Stmt} {K : Frag} {F F' F1 F2 H H' H1 H2 : Hp} {σ σ' : SS} {s : Sl} {v : V} {x kd : PyData} {n : Str} {fs : List (Str × OF)}
theorem oarows_mem {f : Str} {q : Addr} {ds : List PyData} : ∀ {fa : List (Str × OA)}, fa.lookup f = some (.l q ds) → (q, ds) ∈ oarows fa
  | (g, x) :: r, h => by
    unfold oarows
    rw [List.flatMap_cons]
    rw [List.lookup_cons] at h
    cases e : f == g with
    | true => rw [e] at h; cases h; exact List.mem_append_left _ (List.mem_singleton.mpr rfl)
    | false => rw [e] at h; exact List.mem_append_right _ (oarows_mem h)
/-- x.f, a list of the object's own -/
theorem we_fldL (i : Nat) {xn f : Str} {q : Pos} {ds : List PyData} {Φ : PyData → Bool → Prop} (hn : IsOb n fs s) (hna : NoAttr X.K (He.ga X.K n) f) (hf : fs.lookup f = some (.l ds)) (h : Φ (.list ds) false) (he : env[i]? = some s := by rfl) (hN : X.N[i]? = some xn := by rfl)
    (hv : Vis X.env.scope xn := by first | exact Or.inl rfl | exact Or.inr (Or.inl rfl) | exact Or.inr (Or.inr rfl)) (hd : (xn == ("__debug__" : Str)) = false := by decide)
    (hcd : (xn == ("__classdict__" : Str)) = false := by decide) (hb : attributeBase (.Name xn q) f X.env (eval (.Name xn q) X.env) = eval (.Name xn q) X.env := by rfl) : WE X g (.Attribute (.Name xn q) f pos) env Φ Ψ := fun W tk σ F H st hx Q hQ => by
  refine semE_of (pe_fld (pe_var hN hv hd hcd) hb) ?_
  obtain ⟨al, dx, fa, vs, rfl, rfl, hs0, ik, nd, hdx, ha, hok⟩ := ob_out st he hn
  rw [look_of] at hf
  obtain ⟨o, ho, eo⟩ := Option.map_eq_some_iff.mp hf
  obtain ⟨q1, rfl⟩ := of_l eo
  obtain ⟨w, hw, rfl, us, hu, hdu⟩ := fok_look hok ho
  exact ⟨_, getD_some hs0, al, _, dx, vs, _, rfl, ha, ik.cls, hna, hw, hQ (.list ds) false _ F H h st (Ex.refl F) ⟨q1, ds, .inr (.inr ⟨i, _, he, oarows_mem ho⟩), rfl, rfl⟩⟩
end
end TL
namespace TL
open PySem PySem.Spec PyProof.Rows L2
structure HasM (P : Program) (w : World) (K : Frag) (mg : Str → Option Value) (base : Heap) (k : Nat) (n m : Str) (ps : List Str) (S : CT) : Prop where
  ex : ∃ f fd, Meth K (He.ga K n) m f ∧ Binds K fd ps [] ∧ FnOk P w K mg base (L2.CX P w) k f fd ps (spOf K ps.length S)
theorem HasM.mono {P : Program} {w : World} {K : Frag} {mg : Str → Option Value} {base : Heap} {k k' : Nat} {n m : Str} {ps : List Str} {S : CT} (h : HasM P w K mg base k n m ps S) (le : k ≤ k') : HasM P w K mg base k' n m ps S := by
  obtain ⟨f, fd, h1, h2, h3⟩ := h.ex
  exact ⟨f, fd, h1, h2, h3.mono le⟩
section
variable {X : Cx} {CX : CXT} {k : Nat} {f C : Addr} {fd : FuncData} {ps : List Str} {sp : Sp} {E : SS → XK} {m : Str} {pos apos : Pos} {e o : Expr} {es : List Expr} {ta : TE} {t : TA}
/-- o.m(..), what is raised is wished for at the caller's slots -/
def tMethS (C : Addr) (m : Str) (sp : Sp) (E : SS → XK) (ta : TE) (t : TA) : TE := fun σ H Q => ta σ H fun x H1 => ∃ a dx fs, x = .ref a ∧ H1 a = some (.ins C dx fs) ∧ fs.lookup m = none ∧ t σ H1 fun vs H2 => sp (x :: vs) H2 Q (E σ)
theorem pe_methS {pl : Sem Bool} (he : PE X o ta) (c : Cls X.K C) (hm : Meth X.K C m f) (F : FnOk X.prog X.w X.K X.mg X.base CX k f fd ps sp) (hr : Room k X.A) (hb : Binds X.K fd ps []) (hx : ∀ σ, PassesAt CX X σ (E σ)) (ha : PA X (e :: es) t)
    (hst : starEach (e :: es) X.env = (false, eval e X.env) :: starEach es X.env := by rfl) (hpl : (backTo pos (starEach es X.env)).any (·.1) = false := by rfl)
    (ht : eval (.Call (.Attribute o m apos) (e :: es) [] pos) X.env = (do
      let ov ← eval o X.env
      standAt apos.atName
      let (f, first) ← holding [ov] (getMethod ov m pl)
      callWith pos f first (backTo pos (starEach (e :: es) X.env)) (backToKw pos (keywordEach [] X.env))) := by rfl) :
    PE X (.Call (.Attribute o m apos) (e :: es) [] pos) (tMethS C m sp E ta t) := by
  refine ⟨fun pins s σ H Q I h => ?_⟩
  refine PySem.W.methodCall_KW (pl := pl) (thn (he.run pins s σ H _ I h) fun u s1 ⟨x, H1, I1, rx, a, dx, fs, ex, ea, l, q⟩ => ?_) ht
  subst ex
  obtain rfl : u = Value.ref a := rx
  refine getmeth_ok I1 ea c hm l ?_
  refine PySem.W.callWith_K (first := [.ref a]) (h₀ := X.base) I.ok.mod.kin hm.kp (thn (ha.run pos pins s1 σ H1 _ I1 q) fun us s2 ⟨vs, H2, I2, r, q2⟩ => ⟨I2.kIn, ?_⟩) hst hpl
  exact run_fnS (us := .ref a :: us) (vs := .ref a :: vs) F hr hb (hx σ) I2 (.cons rfl r) q2
theorem pe_methS0 {pl : Sem Bool} (he : PE X o ta) (c : Cls X.K C) (hm : Meth X.K C m f) (F : FnOk X.prog X.w X.K X.mg X.base CX k f fd ps sp) (hr : Room k X.A) (hb : Binds X.K fd ps []) (hx : ∀ σ, PassesAt CX X σ (E σ))
    (ht : eval (.Call (.Attribute o m apos) [] [] pos) X.env = (do
      let ov ← eval o X.env
      standAt apos.atName
      let (f, first) ← holding [ov] (getMethod ov m pl)
      callWith pos f first (backTo pos (starEach [] X.env)) (backToKw pos (keywordEach [] X.env))) := by rfl) :
    PE X (.Call (.Attribute o m apos) [] [] pos) (tMethS C m sp E ta tNil) := by
  refine ⟨fun pins s σ H Q I h => ?_⟩
  refine PySem.W.methodCall_KW (pl := pl) (thn (he.run pins s σ H _ I h) fun u s1 ⟨x, H1, I1, rx, a, dx, fs, ex, ea, l, q⟩ => ?_) ht
  subst ex
  obtain rfl : u = Value.ref a := rx
  refine getmeth_ok I1 ea c hm l ?_
  exact PySem.W.callWith_K0 (first := [.ref a]) I1.kIn hm.kp (run_fnS (us := [.ref a]) (vs := [.ref a]) F hr hb (hx σ) I1 (.cons rfl .nil) q)
end
section
variable {X : Cx} {g : G} {env env' : List Sl} {Ψ : Exc → Prop} {P : Po} {pos p apos q : Pos} {a b c e : Expr} {es : List Expr} {rest body : List Stmt} {K : Frag} {F F' F1 F2 H H' H1 H2 : Hp} {σ σ' : SS} {s s' : Sl} {v : V} {x kd : PyData} {n m xn : Str} {fs : List (Str × OF)}
/-- one slot that was handed on is another behind the call, the others are as they were -/
theorem called_set {as : List Ar} {vs : List V} {i : Nat} {args' : List Sl} (st : St K g F H σ env) (hi : env[i]? = some s) (ha : ArAll K F σ vs as) (nd : (arIx as).Nodup) (hs : ∀ l ∈ arIx as, l < env.length) (hia : i ∈ arIx as) (sk : Sk K F' H' (vs.map some) args') (hst : Step F H (as.map (slOf env)) F' H')
    (ho : ∀ b, Own args' b → Own (as.map (slOf env)) b ∨ H b = none) (e : args' = as.map (slOf (env.set i s'))) : St K g F' H' σ (env.set i s') := by
  subst e
  have hil : i < env.length := (List.getElem?_eq_some_iff.mp hi).1
  have ei : (env.set i s')[i]? = some s' := by rw [List.getElem?_set_self hil]
  have en : ∀ l, l ≠ i → (env.set i s')[l]? = env[l]? := fun l hl => List.getElem?_set_ne (Ne.symm hl)
  have so : ∀ l t, (env.set i s')[l]? = some t → slOf (env.set i s') (.s l) = t := fun l t h => by show (env.set i s')[l]?.getD .un = t; rw [h]; rfl
  have ixs : ∀ l, l ∈ arIx as → ∃ j : Nat, as[j]? = some (Ar.s l) := fun l h => by
    clear hia ha hs sk hst ho nd
    induction as with
    | nil => cases h
    | cons x r ih =>
      cases x with
      | d z => obtain ⟨j, hj⟩ := ih h; exact ⟨j + 1, hj⟩
      | s l2 =>
        rcases List.mem_cons.mp (show l ∈ l2 :: arIx r from h) with e | h
        · subst e; exact ⟨0, rfl⟩
        · obtain ⟨j, hj⟩ := ih h; exact ⟨j + 1, hj⟩
  obtain ⟨j0, hj0⟩ := ixs i hia
  refine st.called ha sk hst (by rw [List.length_set]) (fun l t hl ht => ?_) (fun j l t hj ht => ?_) (fun l t t' ht ht' b hb => ?_)
  · rw [en l fun z => hl (z ▸ hia)] at ht; exact ht
  · rw [List.getElem?_map, hj, Option.map_some, so l t ht]
  · by_cases hl : l = i
    · subst hl
      rw [ei] at ht'
      cases ht'
      have a0 : (as.map (slOf (env.set l s')))[j0]? = some s' := by rw [List.getElem?_map, hj0, Option.map_some, so l s' ei]
      rcases ho b ⟨j0, s', a0, hb⟩ with z | z
      · obtain ⟨j, l2, t2, q1, q2, q3⟩ := own_args z
        by_cases h2 : l2 = l
        · subst h2
          rw [ht] at q2
          cases q2
          exact .inl q3
        · exfalso
          have a1 : (as.map (slOf (env.set l s')))[j]? = some t2 := by rw [List.getElem?_map, q1, Option.map_some, so l2 t2 (by rw [en l2 h2]; exact q2)]
          have ej := sk.nd j0 j s' t2 b a0 a1 hb q3
          subst ej
          rw [hj0] at q1
          cases q1
          exact h2 rfl
      · exact .inr z
    · rw [en l hl, ht] at ht'
      cases ht'
      exact .inl hb
end
end TL
namespace TL
open PySem PySem.Spec PyProof.Rows L2
def WAz (X : Cx) (g : G) (es : List Expr) (env : List Sl) (Φ : List Ar → Prop) (Ψ : Exc → Prop) : Prop := match es with
  | [] => Φ []
  | e :: es => WAs X g (e :: es) env Φ Ψ
def semZ (X : Cx) : List Expr → TA
  | [] => tNil
  | e :: es => semA X (e :: es)
structure MCall (X : Cx) (ex o : Expr) (m : Str) (es : List Expr) : Prop where
  pe : ∀ {CX : CXT} {k : Nat} {f C : Addr} {fd : FuncData} {ps : List Str} {sp : Sp} {E : SS → XK} {ta : TE}, PE X o ta → Cls X.K C → Meth X.K C m f → FnOk X.prog X.w X.K X.mg X.base CX k f fd ps sp → Room k X.A → Binds X.K fd ps [] → (∀ σ, PassesAt CX X σ (E σ)) → PE X ex (tMethS C m sp E ta (semZ X es))
theorem arix_ex : ∀ {as : List Ar} {l : Nat}, l ∈ arIx as → ∃ j : Nat, as[j]? = some (Ar.s l)
  | .d z :: r, l, h => by obtain ⟨j, hj⟩ := arix_ex (as := r) h; exact ⟨j + 1, hj⟩
  | .s l2 :: r, l, h => by
    rcases List.mem_cons.mp (show l ∈ l2 :: arIx r from h) with e | h
    · subst e; exact ⟨0, rfl⟩
    · obtain ⟨j, hj⟩ := arix_ex h; exact ⟨j + 1, hj⟩
section
variable {X : Cx} {g : G} {env env' : List Sl} {Ψ : Exc → Prop} {P : Po} {pos p apos q : Pos} {a b c e ex o : Expr} {es : List Expr} {rest body : List Stmt} {K : Frag} {F F' F1 F2 H H' H1 H2 : Hp} {σ σ' : SS} {s s' : Sl} {v : V} {x kd : PyData} {n m xn : Str} {fs : List (Str × OF)}
theorem mcall1 {pl : Sem Bool} (hst : starEach (e :: es) X.env = (false, eval e X.env) :: starEach es X.env := by rfl) (hpl : (backTo pos (starEach es X.env)).any (·.1) = false := by rfl)
    (ht : eval (.Call (.Attribute o m apos) (e :: es) [] pos) X.env = (do
      let ov ← eval o X.env
      standAt apos.atName
      let (f, first) ← holding [ov] (getMethod ov m pl)
      callWith pos f first (backTo pos (starEach (e :: es) X.env)) (backToKw pos (keywordEach [] X.env))) := by rfl) : MCall X (.Call (.Attribute o m apos) (e :: es) [] pos) o m (e :: es) :=
  ⟨fun he c hm F hr hb hx => pe_methS he c hm F hr hb hx (paS (e :: es)) hst hpl ht⟩
theorem mcall0 {pl : Sem Bool}
    (ht : eval (.Call (.Attribute o m apos) [] [] pos) X.env = (do
      let ov ← eval o X.env
      standAt apos.atName
      let (f, first) ← holding [ov] (getMethod ov m pl)
      callWith pos f first (backTo pos (starEach [] X.env)) (backToKw pos (keywordEach [] X.env))) := by rfl) : MCall X (.Call (.Attribute o m apos) [] [] pos) o m [] :=
  ⟨fun he c hm F hr hb hx => pe_methS0 he c hm F hr hb hx ht⟩
theorem waz_run {Φ : List Ar → Prop} (h : WAz X g es env Φ Ψ) {W : WX} (tk : Takes X W) (st : St X.K g F H σ env) (hx : HX X g env Ψ W σ) {Q : List V → Hp → Prop} (hQ : ∀ as vs F' H', Φ as → St X.K g F' H' σ env → Ex F F' → ArAll X.K F' σ vs as → Q vs H') : semZ X es σ H Q := by
  cases es with
  | nil => exact hQ [] [] F H h st (Ex.refl F) trivial
  | cons e es => exact h W tk σ F H st hx Q hQ
theorem waz_nil {Φ : List Ar → Prop} (h : Φ []) : WAz X g [] env Φ Ψ := h
theorem waz_cons {Φ : List Ar → Prop} (h : WAs X g (e :: es) env Φ Ψ) : WAz X g (e :: es) env Φ Ψ := h
theorem set_self {i : Nat} (he : env[i]? = some s) : env.set i s = env := by
  have hil : i < env.length := (List.getElem?_eq_some_iff.mp he).1
  refine List.ext_getElem? fun l => ?_
  by_cases z : l = i
  · subst z; rw [List.getElem?_set_self hil, he]
  · rw [List.getElem?_set_ne (Ne.symm z)]
theorem fp_gen {as : List Ar} {vs : List V} {i j0 : Nat} {args' : List Sl} (st : St K g F H σ env) (hi : env[i]? = some s) (hj0 : as[j0]? = some (Ar.s i)) (sk : Sk K F' H' (vs.map some) args') (ho : ∀ b, Own args' b → Own (as.map (slOf env)) b ∨ H b = none) (e : args' = as.map (slOf (env.set i s'))) : ∀ b ∈ s'.fp, b ∈ s.fp ∨ b ∉ g.M := fun b hb => by
  subst e
  have hil : i < env.length := (List.getElem?_eq_some_iff.mp hi).1
  have ei : (env.set i s')[i]? = some s' := by rw [List.getElem?_set_self hil]
  have a0 : (as.map (slOf (env.set i s')))[j0]? = some s' := by
    rw [List.getElem?_map, hj0, Option.map_some]
    show some ((env.set i s')[i]?.getD .un) = _
    rw [ei]; rfl
  rcases ho b ⟨j0, s', a0, hb⟩ with z | z
  · obtain ⟨j, l2, t2, q1, q2, q3⟩ := own_args z
    by_cases h2 : l2 = i
    · subst h2
      rw [hi] at q2
      cases q2
      exact .inl q3
    · exfalso
      have a1 : (as.map (slOf (env.set i s')))[j]? = some t2 := by
        rw [List.getElem?_map, q1, Option.map_some]
        show some ((env.set i s')[l2]?.getD .un) = _
        rw [List.getElem?_set_ne (Ne.symm h2), q2]; rfl
      have ej := sk.nd j0 j s' t2 b a0 a1 hb q3
      subst ej
      rw [hj0] at q1
      cases q1
      exact h2 rfl
  · exact .inr fun m => st.g5 b m z
/-- x.m(..) of an object that a slot holds -/
theorem meth_core (i : Nat) {j k : Nat} {ps : List Str} {S : CT} {Φ : PR → Sl → Prop} (mc : MCall X ex (.Name xn q) m es) (hf : HasM X.prog X.w X.K X.mg X.base j n m ps S) (hr : Room k X.A) (hn : IsOb n fs s) (hml : fs.lookup m = none)
    (h : WAz X g es env (fun as => callOk (.s i :: as) ps.length env.length = true ∧ S (s :: as.map (slOf env)) (fun r args' => ∃ s', args' = s' :: as.map (slOf env) ∧ Φ r s') (fun c args' => args' = s :: as.map (slOf env) ∧ Ψ c)) Ψ)
    (hj : j ≤ k) (he : env[i]? = some s) (hN : X.N[i]? = some xn) (hv : Vis X.env.scope xn) (hd : (xn == ("__debug__" : Str)) = false) (hcd : (xn == ("__classdict__" : Str)) = false)
    {W : WX} (tk : Takes X W) (st : St X.K g F H σ env) (hx : HX X g env Ψ W σ) {Q : VK}
    (hQ : ∀ r vs v F1 H1 F' H' s' args', Φ r s' → St X.K g F' H' σ (env.set i s') → Ex F F' → St X.K g F1 H1 σ env → (∀ b, H1 b = none → ¬ Own args' b → ¬ Own (env.set i s') b) → (∀ b ∈ s'.fp, b ∈ s.fp ∨ b ∉ g.M) → PrOk X.K vs H1 F' H' args' v r → Q v H') : semE X ex σ H Q := by
  obtain ⟨f, fd, hm, hb, F0⟩ := hf.ex
  obtain ⟨al, dx, fa, vs0, e1, e2, hs0, ik, nd, hdx, ha, hok⟩ := ob_out st he hn
  refine semE_of (mc.pe (pe_var hN hv hd hcd) ik.cls hm F0 (hr.mono hj) hb (fun σ => passAt tk σ)) ?_
  refine ⟨.ref al, getD_some hs0, al, dx, vs0, rfl, ha, fok_nolook hok (by
    subst e2
    rw [look_of] at hml
    exact Option.map_eq_none_iff.mp hml), ?_⟩
  refine waz_run h tk st hx fun as vs F1 H1 ⟨hok2, hS⟩ s1 ex1 ra => ?_
  obtain ⟨h1, h2, h3⟩ := callOk_ok hok2
  have ra2 : ArAll X.K F1 σ (.ref al :: vs) (.s i :: as) := ⟨getD_some hs0, ra⟩
  have esl : slOf env (.s i) = s := by show env[i]?.getD .un = s; rw [he]; rfl
  have eargs : (Ar.s i :: as).map (slOf env) = s :: as.map (slOf env) := by rw [List.map_cons, esl]
  have hil : i < env.length := (List.getElem?_eq_some_iff.mp he).1
  have hni : ∀ l ∈ arIx as, l ≠ i := fun l hl z => (List.nodup_cons.mp (show (i :: arIx as).Nodup from h2)).1 (z ▸ hl)
  have emap : ∀ s', (Ar.s i :: as).map (slOf (env.set i s')) = s' :: as.map (slOf env) := fun s' => by
    rw [List.map_cons]
    have e1 : slOf (env.set i s') (.s i) = s' := by show (env.set i s')[i]?.getD .un = s'; rw [List.getElem?_set_self hil]; rfl
    rw [e1]
    congr 1
    refine List.map_congr_left fun x hx => ?_
    cases x with
    | d z => rfl
    | s l =>
      have : l ∈ arIx as := by
        obtain ⟨jj, hj1, hj2⟩ := List.getElem_of_mem hx
        exact arix_mem (j := jj) (by rw [List.getElem?_eq_getElem hj1, hj2])
      show (env.set i s')[l]?.getD .un = env[l]?.getD .un
      rw [List.getElem?_set_ne (Ne.symm (hni l this))]
  have skc := s1.toSk.callee ra2 h2 h3
  rw [eargs] at skc
  refine ⟨by show vs.length + 1 = _; rw [arall_len ra]; exact h1, F1, s :: as.map (slOf env), _, _, hS, skc, fun r v args' F' H' ⟨s', ea, hp⟩ sk hst ho pr => ?_, fun c args' F' H' ⟨ea, hp⟩ sk hst ho => ?_⟩
  · subst ea
    have s2 := called_set (s' := s') s1 he ra2 h2 h3 (List.mem_cons_self ..) sk (by rw [eargs]; exact hst) (by rw [eargs]; exact ho) (emap s').symm
    refine hQ r _ v F1 H1 F' H' s' _ hp s2 (ex1.trans hst.1) s1 (fun b hb hnb ⟨l, t, hl, hbt⟩ => ?_) (fp_gen (as := .s i :: as) (j0 := 0) s1 he rfl sk (by rw [eargs]; exact ho) (emap s').symm) pr
    by_cases z : l = i
    · subst z
      rw [List.getElem?_set_self hil] at hl
      cases hl
      exact hnb ⟨0, _, rfl, hbt⟩
    · rw [List.getElem?_set_ne (Ne.symm z)] at hl
      exact s1.there ⟨l, t, hl, hbt⟩ hb
  · subst ea
    have s2 := called_set (s' := s) s1 he ra2 h2 h3 (List.mem_cons_self ..) sk (by rw [eargs]; exact hst) (by rw [eargs]; exact ho) (emap s).symm
    rw [set_self he] at s2
    have := hx c F' H' hp s2
    cases c <;> exact this
/-- a result that is data (a new list is frozen) -/
theorem pr_data {r : PR} {d : PyData} {vs : List V} {args' : List Sl} (hd : PRd r d) (st : St K g F' H' σ env') (s1 : St K g F1 H1 σ env) (hno : ∀ b, H1 b = none → ¬ Own args' b → ¬ Own env' b) (pr : PrOk K vs H1 F' H' args' v r) : ∃ F'', St K g F'' H' σ env' ∧ Ex F' F'' ∧ Dq K F'' v d := by
  cases r with
  | rd d0 => subst hd; exact ⟨F', st, Ex.refl F', pr⟩
  | nl ds =>
    subst hd
    obtain ⟨q, xs, rfl, h1, h2, h3, h4, h5⟩ := pr
    have e2 := Ex.new (o := .lst xs) h3
    exact ⟨_, st.freeze h1 h3 (hno q h4 h5) (s1.h0 h4), e2, .lst (SqL.of upd_same) (dpa_mono e2 _ _ h2)⟩
  | ar i => exact hd.elim
  | nt _ => exact hd.elim
  | nk _ => exact hd.elim
  | sl _ => exact hd.elim
/-- a method's answer that is data, the object as it was -/
theorem we_meth (i : Nat) {j k : Nat} {ps : List Str} {S : CT} {Φ : PyData → Bool → Prop} (mc : MCall X ex (.Name xn q) m es) (hf : HasM X.prog X.w X.K X.mg X.base j n m ps S) (hr : Room k X.A) (hn : IsOb n fs s) (hml : fs.lookup m = none)
    (h : WAz X g es env (fun as => callOk (.s i :: as) ps.length env.length = true ∧ S (s :: as.map (slOf env)) (fun r args' => ∃ s', args' = s' :: as.map (slOf env) ∧ s' = s ∧ ∃ d, PRd r d ∧ Φ d true) (fun c args' => args' = s :: as.map (slOf env) ∧ Ψ c)) Ψ)
    (hj : j ≤ k := by omega) (he : env[i]? = some s := by rfl) (hN : X.N[i]? = some xn := by rfl) (hv : Vis X.env.scope xn := by first | exact Or.inl rfl | exact Or.inr (Or.inl rfl) | exact Or.inr (Or.inr rfl)) (hd : (xn == ("__debug__" : Str)) = false := by decide) (hcd : (xn == ("__classdict__" : Str)) = false := by decide) : WE X g ex env Φ Ψ := fun W tk σ F H st hx Q hQ => by
  refine meth_core (Φ := fun r s' => s' = s ∧ ∃ d, PRd r d ∧ Φ d true) i mc hf hr hn hml h hj he hN hv hd hcd tk st hx fun r vs v F1 H1 F' H' s' args' ⟨es, d, hpr, hp⟩ s2 e2 s1 hno hfp pr => ?_
  subst es
  obtain ⟨F'', s3, e3, hq⟩ := pr_data hpr s2 s1 hno pr
  rw [set_self he] at s3
  exact hQ d true v F'' H' hp s3 (e2.trans e3) hq
/-- an expression that gives data and leaves other slots behind -/
def WM (X : Cx) (g : G) (e : Expr) (env : List Sl) (Φ : PyData → List Sl → Prop) (Ψ : Exc → Prop) : Prop :=
  ∀ (W : WX), Takes X W → ∀ (σ : SS) (F H : Hp), St X.K g F H σ env → HX X g env Ψ W σ →
    ∀ Q : VK, (∀ d v F' H' env', Φ d env' → St X.K g F' H' σ env' → Ex F F' → Dq X.K F' v d → Q v H') → semE X e σ H Q
theorem wm_meth (i : Nat) {j k : Nat} {ps : List Str} {S : CT} {Φ : PyData → List Sl → Prop} (mc : MCall X ex (.Name xn q) m es) (hf : HasM X.prog X.w X.K X.mg X.base j n m ps S) (hr : Room k X.A) (hn : IsOb n fs s) (hml : fs.lookup m = none)
    (h : WAz X g es env (fun as => callOk (.s i :: as) ps.length env.length = true ∧ S (s :: as.map (slOf env)) (fun r args' => ∃ s', args' = s' :: as.map (slOf env) ∧ oid s' = oid s ∧ ∃ d, PRd r d ∧ (obM g s s' → Φ d (env.set i s'))) (fun c args' => args' = s :: as.map (slOf env) ∧ Ψ c)) Ψ)
    (hj : j ≤ k := by omega) (he : env[i]? = some s := by rfl) (hN : X.N[i]? = some xn := by rfl) (hv : Vis X.env.scope xn := by first | exact Or.inl rfl | exact Or.inr (Or.inl rfl) | exact Or.inr (Or.inr rfl)) (hd : (xn == ("__debug__" : Str)) = false := by decide) (hcd : (xn == ("__classdict__" : Str)) = false := by decide) : WM X g ex env Φ Ψ := fun W tk σ F H st hx Q hQ => by
  refine meth_core (Φ := fun r s' => oid s' = oid s ∧ ∃ d, PRd r d ∧ (obM g s s' → Φ d (env.set i s'))) i mc hf hr hn hml h hj he hN hv hd hcd tk st hx fun r vs v F1 H1 F' H' s' args' ⟨hid, d, hpr, hp⟩ s2 e2 s1 hno hfp pr => ?_
  obtain ⟨F'', s3, e3, hq⟩ := pr_data hpr s2 s1 hno pr
  exact hQ d v F'' H' _ (hp ⟨hid, hfp⟩) s3 (e2.trans e3) hq
/-- a def that changes an object that is handed to it -/
theorem wm_call (i : Nat) {j k : Nat} {x : Str} {ps : List Str} {S : CT} {Φ : PyData → List Sl → Prop} (hf : Has X.prog X.w X.K X.mg X.base j x ps S) (hr : Room k X.A) (he : env[i]? = some s)
    (h : WAs X g (e :: es) env (fun as => callOk as ps.length env.length = true ∧ (arIx as).contains i = true ∧ S (as.map (slOf env)) (fun r args' => ∃ s', args' = as.map (slOf (env.set i s')) ∧ oid s' = oid s ∧ ∃ d, PRd r d ∧ (obM g s s' → Φ d (env.set i s'))) (fun c args' => args' = as.map (slOf env) ∧ Ψ c)) Ψ)
    (hj : j ≤ k := by omega) (hg : Gl X x := by rfl) (hdb : (x == ("__debug__" : Str)) = false := by decide)
    (hee : starEach (e :: es) X.env = (false, eval e X.env) :: starEach es X.env := by rfl) (hpl : (backTo pos (starEach es X.env)).any (·.1) = false := by rfl) : WM X g (.Call (.Name x p) (e :: es) [] pos) env Φ Ψ := fun W tk σ F H st hx Q hQ => by
  obtain ⟨f, fd, hm, hk, hb, F0⟩ := hf.ex
  refine semE_of (pe_callS F0 (hr.mono hj) hg hm hk hb (fun σ => passAt tk σ) (paS (e :: es)) hdb hee hpl) ?_
  refine h W tk σ F H st hx _ fun as vs F1 H1 ⟨hok, hi, hS⟩ s1 e1 ra => ?_
  obtain ⟨h1, h2, h3⟩ := callOk_ok hok
  have hia : i ∈ arIx as := by simpa using hi
  have hil : i < env.length := (List.getElem?_eq_some_iff.mp he).1
  refine ⟨by rw [arall_len ra, h1], F1, as.map (slOf env), _, _, hS, s1.toSk.callee ra h2 h3, fun r v args' F' H' ⟨s', ea, hid, d, hpr, hp⟩ sk hst ho pr => ?_, fun c args' F' H' ⟨ea, hp⟩ sk hst _ => ?_⟩
  · obtain ⟨j1, hj1⟩ := arix_ex hia
    have hfp := fp_gen s1 he hj1 sk ho ea
    have s2 := called_set (s' := s') s1 he ra h2 h3 hia sk hst ho ea
    obtain ⟨F'', s3, e3, hq⟩ := pr_data hpr s2 s1 (fun b hb hnb ⟨l, t, hl, hbt⟩ => by
      by_cases z : l = i
      · subst z
        rw [List.getElem?_set_self hil] at hl
        cases hl
        obtain ⟨jj, hj⟩ := arix_ex hia
        refine hnb ⟨jj, s', ?_, hbt⟩
        rw [ea, List.getElem?_map, hj, Option.map_some]
        show some ((env.set l s')[l]?.getD .un) = _
        rw [List.getElem?_set_self hil]; rfl
      · rw [List.getElem?_set_ne (Ne.symm z)] at hl
        exact s1.there ⟨l, t, hl, hbt⟩ hb) pr
    exact hQ d v F'' H' _ (hp ⟨hid, hfp⟩) s3 ((e1.trans hst.1).trans e3) hq
  · have := hx c F' H' hp (st_same s1 ra sk hst ea)
    cases c <;> exact this
end
end TL
namespace TL
open PySem PySem.Spec PyProof.Rows L2
def WTM (X : Cx) (g : G) (e : Expr) (env : List Sl) (Φ : Bool → List Sl → Prop) (Ψ : Exc → Prop) : Prop :=
  ∀ (W : WX), Takes X W → ∀ (σ : SS) (F H : Hp), St X.K g F H σ env → HX X g env Ψ W σ →
    ∀ Q : Bool → Hp → Prop, (∀ b F' H' env', Φ b env' → St X.K g F' H' σ env' → Ex F F' → Q b H') → semT X e σ H Q
section
variable {X : Cx} {g : G} {env env' : List Sl} {Ψ : Exc → Prop} {P : Po} {pos p apos q lp : Pos} {a b c e ex o : Expr} {es : List Expr} {rest body orelse : List Stmt} {K : Frag} {F F' F1 F2 H H' H1 H2 : Hp} {σ σ' : SS} {s s' : Sl} {v : V} {x kd : PyData} {n m xn : Str} {fs : List (Str × OF)}
theorem hx_no {W : WX} : HX X g env (fun _ => False) W σ := fun c F' H' h _ => h.elim
theorem wtm_cp {Φ : Bool → List Sl → Prop} {op : CmpOp} {r : R2} (ho : OpR X (compareOp op) r) (h : WM X g a env (fun d1 env' => WE X g b env' (fun d2 z2 => ∃ k, CP X.K g env' r d1 true d2 z2 k ∧ Φ k env') fun _ => False) Ψ)
    (hm : behindInMarks op b = false := by first | exact nomark _ | rfl) : WTM X g (.Compare a [op] [b] pos) env Φ Ψ := fun W tk σ F H st hx Q hQ => by
  refine semT_of (pt_cmpR ho (peS a) (peS b) hm) ?_
  refine h W tk σ F H st hx _ fun d1 v1 F1 H1 env' h1 s1 e1 r1 => ?_
  refine h1 W tk σ F1 H1 s1 hx_no _ fun d2 z2 v2 F2 H2 ⟨k, hc, hp⟩ s2 e2 r2 => ?_
  exact hc σ F2 H2 v1 v2 s2 (dp_mono e2 _ _ r1) r2 _ ⟨k, rfl, hQ k F2 H2 _ hp s2 (e1.trans e2)⟩
theorem w1_ifM (h : WTM X g c env (fun k env' => (k = true → WS X g body env' P) ∧ (k = false → WS X g orelse env' P)) (fun c => P.ex c env)) : W1 X g (.If c body orelse pos) env P := fun W tk hx2 σ F H s0 D hD => by
  refine semP_of (ps_if (ptS c) (pssS body) (pssS orelse)) ?_
  refine h W tk σ F H s0 (hx2.hx env σ) _ fun k F' H' env' ⟨h1, h2⟩ s' e' => ?_
  cases k with
  | true => rw [if_pos rfl]; exact h1 rfl W tk hx2 σ F' H' s' D (hD.mono e')
  | false => rw [if_neg Bool.false_ne_true]; exact h2 rfl W tk hx2 σ F' H' s' D (hD.mono e')
/-- x = e -/
theorem w1_setM (i : Nat) {x : Str} {pos' : Pos} (hN : X.N.Nodup) (h : WM X g e env (fun d env' => Nat.blt i env'.length = true ∧ P.nx (env'.set i (.d d))) (fun c => P.ex c env)) (hi : X.N[i]? = some x := by rfl) (hx : Loc X.env.scope x := by first | exact Or.inl rfl | exact Or.inr rfl)
    (hs : swapsWith e (some (.Name x pos')) pos.line X.env = pure false := by rfl) (hf : X.fn x = true ∨ X.env.scope.names.lookup x = some .local := by first | exact .inl rfl | exact .inr rfl) : W1 X g (.Assign [.Name x pos'] e pos) env P := fun W tk hx2 σ F H s0 D hD => by
  refine semP_of (ps_set hN hi hx (peS e) hs hf) ?_
  refine h W tk σ F H s0 (hx2.hx env σ) _ fun d v F' H' env' ⟨hl, hp⟩ s' e' r' => ?_
  exact hD.nx _ _ F' H' hp (s'.setD (ltB hl) r') e'
/-- e, nothing is kept of it -/
theorem w1_exprM (h : WM X g e env (fun _ env' => P.nx env') (fun c => P.ex c env)) (hs : swapsWith e none pos.line X.env = pure false := by rfl) : W1 X g (.Expr e pos) env P := fun W tk hx2 σ F H s0 D hD => by
  refine semP_of (ps_expr (peS e) hs) ?_
  refine h W tk σ F H s0 (hx2.hx env σ) _ fun d v F' H' env' hp s' e' r' => ?_
  exact hD.nx _ _ F' H' hp s' e'
end
structure HasI (P : Program) (w : World) (K : Frag) (mg : Str → Option Value) (base : Heap) (k : Nat) (n : Str) (ps : List Str) (S : CT) : Prop where
  ex : ∃ f fd, mg n = some (.ref (He.ga K n)) ∧ InsK K n ∧ Mk K (He.ga K n) f ∧ Binds K fd ps [] ∧ FnOk P w K mg base (L2.CX P w) k f fd ps (spOf K ps.length S)
theorem HasI.mono {P : Program} {w : World} {K : Frag} {mg : Str → Option Value} {base : Heap} {k k' : Nat} {n : Str} {ps : List Str} {S : CT} (h : HasI P w K mg base k n ps S) (le : k ≤ k') : HasI P w K mg base k' n ps S := by
  obtain ⟨f, fd, h1, h2, h3, h4, h5⟩ := h.ex
  exact ⟨f, fd, h1, h2, h3, h4, h5.mono le⟩
structure MkCall (X : Cx) (ex : Expr) (n : Str) (es : List Expr) : Prop where
  pe : ∀ {CX : CXT} {k : Nat} {f C : Addr} {fd : FuncData} {ps : List Str} {sp : Sp} {E : XK}, Mk X.K C f → FnOk X.prog X.w X.K X.mg X.base CX k f fd ps sp → Room (k + 1) X.A → X.mg n = some (.ref C) → Binds X.K fd ps [] → Passes CX X E → PE X ex (tMake C sp [] E (semZ X es))
section
variable {X : Cx} {g : G} {env env' : List Sl} {Ψ : Exc → Prop} {P : Po} {pos p apos q lp : Pos} {a b c e ex o : Expr} {es : List Expr} {rest body orelse : List Stmt} {K : Frag} {F F' F1 F2 H H' H1 H2 : Hp} {σ σ' : SS} {s s' : Sl} {v : V} {x kd : PyData} {n m xn : Str} {fs : List (Str × OF)}
theorem mk1 (hg : Gl X n := by rfl) (hdb : (n == ("__debug__" : Str)) = false := by decide) (he : starEach (e :: es) X.env = (false, eval e X.env) :: starEach es X.env := by rfl) (hpl : (backTo pos (starEach es X.env)).any (·.1) = false := by rfl) : MkCall X (.Call (.Name n p) (e :: es) [] pos) n (e :: es) :=
  ⟨fun M F hr hm hb hx => pe_make M F hr hg hm hb .nil hx (paS (e :: es)) hdb he hpl⟩
/-- a slot more, at the end -/
theorem St.push (st : St K g F H σ env) (h : SlOk K F H (some v) s) (hn : ∀ b ∈ s.fp, F b = none ∧ ¬ Own env b ∧ g.H0 b = none) : St K g F H (σ ++ [some v]) (env ++ [s]) := by
  have hl := st.len
  have cas : ∀ (j : Nat) (t : Sl), (env ++ [s])[j]? = some t → env[j]? = some t ∨ (j = env.length ∧ t = s) := fun j t e => by
    by_cases z : j < env.length
    · rw [List.getElem?_append_left z] at e; exact .inl e
    · rw [List.getElem?_append_right (by omega)] at e
      have hj : j - env.length < 1 := by
        by_cases y : j - env.length < 1
        · exact y
        · rw [List.getElem?_eq_none (by simp; omega)] at e; cases e
      have : j = env.length := by omega
      subst this
      rw [Nat.sub_self] at e
      exact .inr ⟨rfl, (Option.some.inj e).symm⟩
  have ow : ∀ b, Own (env ++ [s]) b → Own env b ∨ b ∈ s.fp := fun b ⟨j, t, e, ht⟩ => by
    rcases cas j t e with z | ⟨_, rfl⟩
    · exact .inl ⟨j, t, z, ht⟩
    · exact .inr ht
  refine { len := by rw [List.length_append, List.length_append, hl]; rfl, sl := fun j t e => ?_, nd := fun j k t u b ej ek ht hu => ?_, fr := fun b hb => (ow b hb).elim (st.fr b) fun z => (hn b z).1, ex := st.ex, tf := st.tf, tk := st.tk, gt := st.gt, g1 := st.g1, g2 := fun b hb => (ow b hb).elim (st.g2 b) fun z => .inl (hn b z).2.2, g3 := st.g3, g4 := st.g4, g5 := st.g5, g6 := st.g6 }
  · rcases cas j t e with z | ⟨rfl, rfl⟩
    · have : j < σ.length := by rw [hl]; exact (List.getElem?_eq_some_iff.mp z).1
      rw [List.getElem?_append_left this]; exact st.sl j t z
    · rw [List.getElem?_append_right (by omega), hl, Nat.sub_self]; exact h
  · rcases cas j t ej with z | ⟨rfl, rfl⟩ <;> rcases cas k u ek with y | ⟨rfl, rfl⟩
    · exact st.nd j k t u b z y ht hu
    · exact absurd ⟨j, t, z, ht⟩ (hn b hu).2.1
    · exact absurd ⟨k, u, y, hu⟩ (hn b ht).2.1
    · rfl
theorem St.pop (st : St K g F H (σ ++ [some v]) (env ++ [s])) (hl : σ.length = env.length) : St K g F H σ env := by
  have up : ∀ (j : Nat) (t : Sl), env[j]? = some t → (env ++ [s])[j]? = some t := fun j t e => by rw [List.getElem?_append_left (List.getElem?_eq_some_iff.mp e).1]; exact e
  have ow : ∀ b, Own env b → Own (env ++ [s]) b := fun b ⟨j, t, e, ht⟩ => ⟨j, t, up j t e, ht⟩
  refine { len := hl, sl := fun j t e => ?_, nd := fun j k t u b ej ek ht hu => st.nd j k t u b (up j t ej) (up k u ek) ht hu, fr := fun b hb => st.fr b (ow b hb), ex := st.ex, tf := st.tf, tk := st.tk, gt := st.gt, g1 := st.g1, g2 := fun b hb => st.g2 b (ow b hb), g3 := st.g3, g4 := st.g4, g5 := st.g5, g6 := st.g6 }
  have q := st.sl j t (up j t e)
  rw [List.getElem?_append_left (by rw [hl]; exact (List.getElem?_eq_some_iff.mp e).1)] at q
  exact q
/-- behind a new instance: __init__ is done with it -/
theorem make_core {ps : List Str} {S : CT} {Φ : Sl → Prop} {as : List Ar} {vs : List V} {y dx : Addr} (s1 : St K g F1 H1 σ env) (ra : ArAll K F1 σ vs as) (ik : InsK K n) (hok : callOk (.s env.length :: as) ps.length (env.length + 1) = true)
    (hS : ∀ s0, IsOb n [] s0 → S (s0 :: as.map (slOf env)) (fun r args' => ∃ s', args' = s' :: as.map (slOf env) ∧ r = .rd .none ∧ Φ s') (fun _ _ => False)) (hy : H1 y = none) (hdx : H1 dx = none) (hne : dx ≠ y) {Q : VK}
    (hQ : ∀ s v F' H', Φ s → St K g F' H' σ env → Ex F1 F' → NewS K g F' H' env v s → Q v H') :
    spOf K ps.length S (.ref y :: vs) (upd (upd H1 dx (.own y)) y (.ins (He.ga K n) dx [])) (fun v H2 => v = .non ∧ Q (.ref y) H2) C8.E0 := by
  obtain ⟨h1, h2, h3⟩ := callOk_ok hok
  have hlt : ∀ l ∈ arIx as, l < env.length := fun l hl => by
    have a := h3 l (List.mem_cons_of_mem _ hl)
    have b := (List.nodup_cons.mp (show (env.length :: arIx as).Nodup from h2)).1
    have c : l ≠ env.length := fun z => b (z ▸ hl)
    omega
  have hl := s1.len
  have s2 := (s1.alloc (o := .own y) hdx).alloc (p := y) (o := .ins (He.ga K n) dx []) (by rw [upd_ne (Ne.symm hne)]; exact hy)
  have nb : ∀ b, b ∈ (Sl.ow (obT n y dx [])).fp → b = y ∨ b = dx := fun b hb => by
    rcases ob_fp.mp hb with z | z | z
    · exact .inl z
    · exact .inr z
    · cases z
  have hnone : ∀ b, b ∈ (Sl.ow (obT n y dx [])).fp → H1 b = none := fun b hb => by
    rcases nb b hb with rfl | rfl
    · exact hy
    · exact hdx
  have s3 := s2.push (v := .ref y) (s := .ow (obT n y dx [])) ⟨_, rfl, rfl, ik, List.nodup_nil, by rw [upd_ne hne, upd_same], [], upd_same, trivial⟩ (fun b hb => ⟨s1.ex.none (hnone b hb), fun z => s1.there z (hnone b hb), s1.h0 (hnone b hb)⟩)
  have ra3 : ArAll K F1 (σ ++ [some (.ref y)]) (.ref y :: vs) (.s env.length :: as) := by
    refine ⟨by show (σ ++ [some (V.ref y)])[env.length]? = _; rw [List.getElem?_append_right (by omega), hl, Nat.sub_self]; rfl, ?_⟩
    have : ∀ {vs : List V} {as : List Ar}, (∀ l ∈ arIx as, l < env.length) → ArAll K F1 σ vs as → ArAll K F1 (σ ++ [some (.ref y)]) vs as := fun {vs as} => by
      intro hq hh
      induction as generalizing vs with
      | nil => cases vs <;> exact hh
      | cons a as ih =>
        cases vs with
        | nil => exact hh
        | cons w vs =>
          cases a with
          | d x => exact ⟨hh.1, ih (fun l hl => hq l hl) hh.2⟩
          | s l =>
            refine ⟨?_, ih (fun l hl => hq l (List.mem_cons_of_mem _ hl)) hh.2⟩
            show (σ ++ [some (V.ref y)])[l]? = some (some w)
            rw [List.getElem?_append_left (by rw [hl]; exact hq l (List.mem_cons_self ..))]; exact hh.1
    exact this hlt ra
  have h3' : ∀ l ∈ arIx (.s env.length :: as), l < (env ++ [Sl.ow (obT n y dx [])]).length := fun l hl => by rw [List.length_append]; exact h3 l hl
  have eas : ∀ t : Sl, as.map (slOf (env ++ [t])) = as.map (slOf env) := fun t => List.map_congr_left fun a ha => by
    cases a with
    | d x => rfl
    | s l =>
      have : l ∈ arIx as := by
        obtain ⟨jj, hj1, hj2⟩ := List.getElem_of_mem ha
        exact arix_mem (j := jj) (by rw [List.getElem?_eq_getElem hj1, hj2])
      show (env ++ [t])[l]?.getD .un = env[l]?.getD .un
      rw [List.getElem?_append_left (hlt l this)]
  have e0 : ∀ t : Sl, (Ar.s env.length :: as).map (slOf (env ++ [t])) = t :: as.map (slOf env) := fun t => by
    rw [List.map_cons, eas]
    congr 1
    show (env ++ [t])[env.length]?.getD .un = t
    rw [List.getElem?_append_right (by omega), Nat.sub_self]; rfl
  have skc := s3.toSk.callee ra3 h2 h3'
  rw [e0] at skc
  refine ⟨by show vs.length + 1 = _; rw [arall_len ra]; exact h1, F1, _, _, _, hS _ ⟨y, dx, [], rfl, rfl⟩, skc, fun r w args' F' H' ⟨s', ea, er, hp⟩ sk hst ho pr => ?_, fun c args' F' H' hc sk hst _ => hc.elim⟩
  subst er
  have hw : w = .non := by cases pr; rfl
  refine ⟨hw, ?_⟩
  have hlen : (env ++ [Sl.ow (obT n y dx [])])[env.length]? = some (.ow (obT n y dx [])) := by rw [List.getElem?_append_right (by omega), Nat.sub_self]; rfl
  have eset : (env ++ [Sl.ow (obT n y dx [])]).set env.length s' = env ++ [s'] := by
    rw [List.set_append_right _ _ (by omega), Nat.sub_self]; rfl
  have s4 := called_set (s' := s') s3 hlen ra3 h2 h3' (List.mem_cons_self ..) sk (by rw [e0]; exact hst) (by rw [e0]; exact ho) (by rw [eset, e0]; exact ea)
  rw [eset] at s4
  have s5 := s4.pop hl
  have hs' := s4.sl env.length s' (by rw [List.getElem?_append_right (by omega), Nat.sub_self]; rfl)
  rw [List.getElem?_append_right (by omega), hl, Nat.sub_self] at hs'
  refine hQ s' (.ref y) F' H' hp s5 hst.1 ⟨hs', fun b hb => ?_⟩
  have ob : Own (env ++ [s']) b := ⟨env.length, s', by rw [List.getElem?_append_right (by omega), Nat.sub_self]; rfl, hb⟩
  refine ⟨s4.fr b ob, fun ⟨l, t, hl2, ht⟩ => ?_, ?_⟩
  · have hll := (List.getElem?_eq_some_iff.mp hl2).1
    have := s4.nd l env.length t s' b (by rw [List.getElem?_append_left hll]; exact hl2) (by rw [List.getElem?_append_right (by omega), Nat.sub_self]; rfl) ht hb
    omega
  · rcases ho b (by rw [ea]; exact ⟨0, s', rfl, hb⟩) with z | z
    · obtain ⟨jj, t, q1, q2⟩ := z
      cases jj with
      | zero =>
        cases q1
        exact s1.h0 (hnone b q2)
      | succ jj =>
        exfalso
        have a1 : args'[jj + 1]? = some t := by rw [ea]; exact q1
        have a0 : args'[0]? = some s' := by rw [ea]; rfl
        have := sk.nd 0 (jj + 1) s' t b a0 a1 hb q2
        omega
    · refine s1.h0 ?_
      cases q : H1 b with
      | none => rfl
      | some u =>
        rw [upd_ne, upd_ne, q] at z
        · cases z
        · rintro rfl; rw [hdx] at q; cases q
        · rintro rfl; rw [hy] at q; cases q
/-- C(..) -/
theorem wo_make {j k : Nat} {ps : List Str} {S : CT} {Φ : Sl → Prop} (mc : MkCall X ex n es) (hi : HasI X.prog X.w X.K X.mg X.base j n ps S) (hr : Room (k + 1) X.A)
    (h : WAz X g es env (fun as => callOk (.s env.length :: as) ps.length (env.length + 1) = true ∧ ∀ s0, IsOb n [] s0 → S (s0 :: as.map (slOf env)) (fun r args' => ∃ s', args' = s' :: as.map (slOf env) ∧ r = .rd .none ∧ Φ s') (fun _ _ => False)) Ψ)
    (hj : j ≤ k := by omega) : WO X g ex env Φ Ψ := fun W tk σ F H st hx Q hQ => by
  obtain ⟨f, fd, hm, ik, M, hb, F0⟩ := hi.ex
  refine semE_of (mc.pe M (F0.mono hj) hr hm hb passE0) ?_
  refine waz_run h tk st hx fun as vs F1 H1 ⟨hok, hS⟩ s1 e1 ra y dx hy hdx hne => ?_
  rw [List.append_nil]
  exact make_core s1 ra ik hok hS hy hdx hne fun s v F' H' hp st' e' => hQ s v F' H' hp st' (e1.trans e')
structure HasIK (P : Program) (w : World) (K : Frag) (mg : Str → Option Value) (base : Heap) (k : Nat) (n nm : Str) (ps : List Str) (S : CT) : Prop where
  ex : ∃ f fd, mg n = some (.ref (He.ga K n)) ∧ InsK K n ∧ Mk K (He.ga K n) f ∧ L2.KBn K fd ps 1 [nm] (fun us ws => us ++ ws) (fun us ws => us ++ ws) ∧ FnOk P w K mg base (L2.CX P w) k f fd ps (spOf K ps.length S)
theorem HasIK.mono {P : Program} {w : World} {K : Frag} {mg : Str → Option Value} {base : Heap} {k k' : Nat} {n nm : Str} {ps : List Str} {S : CT} (h : HasIK P w K mg base k n nm ps S) (le : k ≤ k') : HasIK P w K mg base k' n nm ps S := by
  obtain ⟨f, fd, h1, h2, h3, h4, h5⟩ := h.ex
  exact ⟨f, fd, h1, h2, h3, h4, h5.mono le⟩
structure HasID (P : Program) (w : World) (K : Frag) (mg : Str → Option Value) (base : Heap) (k : Nat) (n : Str) (ps : List Str) (dvs : List V) (S : CT) : Prop where
  ex : ∃ f fd ds, mg n = some (.ref (He.ga K n)) ∧ InsK K n ∧ Mk K (He.ga K n) f ∧ Vals dvs ds ∧ Binds K fd ps ds ∧ FnOk P w K mg base (L2.CX P w) k f fd ps (spOf K ps.length S)
theorem HasID.mono {P : Program} {w : World} {K : Frag} {mg : Str → Option Value} {base : Heap} {k k' : Nat} {n : Str} {ps : List Str} {dvs : List V} {S : CT} (h : HasID P w K mg base k n ps dvs S) (le : k ≤ k') : HasID P w K mg base k' n ps dvs S := by
  obtain ⟨f, fd, ds, h1, h2, h3, h4, h5, h6⟩ := h.ex
  exact ⟨f, fd, ds, h1, h2, h3, h4, h5, h6.mono le⟩
end
end TL
namespace TL
open PySem PySem.Spec PyProof.Rows L2
def insB (K : Frag) (n : Str) : Bool := (He.Fa.cls n).ok K && (decide (PySem.W.findIn K (.ref (He.ga K n)) (Str.ofString "__class__") = some (some (.builtin "object.__class__"))) && (decide (PySem.W.specialIn K (.builtin "object.__class__") (Str.ofString "__get__") = some (some (.builtin "getset_descriptor.__get__"))) &&
  (decide (PySem.W.takesIn K (.builtin "object.__class__") = some true) && (decide (PySem.W.mroIn K (He.ga K n) (.type "object") = some true) && kitTys.all fun T => decide (PySem.W.kitOne K (.ref (He.ga K n)) (.type T) = some false)))))
theorem insB_ok {K : Frag} {n : Str} (h : insB K n = true) : InsK K n := by
  unfold insB at h
  obtain ⟨h1, h⟩ := He.ba h
  obtain ⟨h2, h⟩ := He.ba h
  obtain ⟨h3, h⟩ := He.ba h
  obtain ⟨h4, h⟩ := He.ba h
  obtain ⟨h5, h6⟩ := He.ba h
  exact ⟨He.cls_ok h1, of_decide_eq_true h2, of_decide_eq_true h3, of_decide_eq_true h4, of_decide_eq_true h5, fun T hT => of_decide_eq_true (List.all_eq_true.mp h6 T hT)⟩
section
variable {P : Program} {w : World} {K : Frag} {mg : Str → Option Value} {base : Heap} {f : Addr} {fd : FuncData} {N ps : List Str} {k : Nat} {S : CT}
theorem fn_hasM {n m x : Str} {st : Stmt} {dvs : List V} {kws : List (Str × V)} (F : FunD K m x (defArgs st) (defBody st) (defScope st) dvs kws f fd) (hm : Meth K (He.ga K n) m f) (sc : FnScope N ps (defScope st)) (hb : Binds K fd ps []) (hln : Nat.ble ps.length N.length = true)
    (body : ∀ (cdv : Value) (A : Around) (outer : List Env) (s : Shared) (H : Hp) (E : XK) (g : G) (args : List Sl) (Φ : PR → List Sl → Prop) (Ψ : Exc → List Sl → Prop),
      Room k (cxOf (L2.CX P w) P w K mg base N x (defScope st) f cdv A outer s H E).A →
      PassesOwn (model P w) (cxOf (L2.CX P w) P w K mg base N x (defScope st) f cdv A outer s H E).A (cxOf (L2.CX P w) P w K mg base N x (defScope st) f cdv A outer s H E).env (cxOf (L2.CX P w) P w K mg base N x (defScope st) f cdv A outer s H E).xe →
      g.M = fps args → args.length = ps.length → S args Φ Ψ →
      WS (cxOf (L2.CX P w) P w K mg base N x (defScope st) f cdv A outer s H E) g (defBody st) (args ++ List.replicate (N.length - ps.length) .un) (endOf args Φ Ψ)) : HasM P w K mg base (k + 1) n m ps S := ⟨f, fd, hm, hb, fn_ok F sc hln body⟩
end
/-- __init__ alone: how it is bound is asked at each making -/
theorem fn_okI {P : Program} {w : World} {K : Frag} {mg : Str → Option Value} {base : Heap} {f : Addr} {fd : FuncData} {N ps : List Str} {k : Nat} {S : CT} {m x : Str} {st : Stmt} {dvs : List V} {kws : List (Str × V)} (F : FunD K m x (defArgs st) (defBody st) (defScope st) dvs kws f fd) (sc : FnScope N ps (defScope st)) (hln : Nat.ble ps.length N.length = true)
    (body : ∀ (cdv : Value) (A : Around) (outer : List Env) (s : Shared) (H : Hp) (E : XK) (g : G) (args : List Sl) (Φ : PR → List Sl → Prop) (Ψ : Exc → List Sl → Prop),
      Room k (cxOf (L2.CX P w) P w K mg base N x (defScope st) f cdv A outer s H E).A →
      PassesOwn (model P w) (cxOf (L2.CX P w) P w K mg base N x (defScope st) f cdv A outer s H E).A (cxOf (L2.CX P w) P w K mg base N x (defScope st) f cdv A outer s H E).env (cxOf (L2.CX P w) P w K mg base N x (defScope st) f cdv A outer s H E).xe →
      g.M = fps args → args.length = ps.length → S args Φ Ψ →
      WS (cxOf (L2.CX P w) P w K mg base N x (defScope st) f cdv A outer s H E) g (defBody st) (args ++ List.replicate (N.length - ps.length) .un) (endOf args Φ Ψ)) : FnOk P w K mg base (L2.CX P w) (k + 1) f fd ps (spOf K ps.length S) := fn_ok F sc hln body
theorem obM_loc {g : G} {s s' : Sl} (h : obM g s s') (n : ∀ b ∈ s.fp, b ∉ g.M) : ∀ b ∈ s'.fp, b ∉ g.M := fun b hb => (h.2 b hb).elim (n b) id
end TL
namespace TL
open PySem PySem.Spec PyProof.Rows L2
section
variable {X : Cx} {g : G} {env env' : List Sl} {Ψ : Exc → Prop} {P : Po} {pos p apos q : Pos} {a b c e ex o : Expr} {es : List Expr} {rest body : List Stmt} {K : Frag} {F F' F1 F2 H H' H1 H2 : Hp} {σ σ' : SS} {s s' : Sl} {v : V} {x kd : PyData} {n m xn : Str} {fs : List (Str × OF)}
theorem HasI.ins {P : Program} {w : World} {K : Frag} {mg : Str → Option Value} {base : Heap} {k : Nat} {n : Str} {ps : List Str} {S : CT} (h : HasI P w K mg base k n ps S) : InsK K n := by
  obtain ⟨f, fd, h1, h2, h3⟩ := h.ex
  exact h2
end
end TL
namespace TL
open PySem PySem.Spec PyProof.Rows L2
open Sem (wp)
mutual
inductive NKv (H : Hp) : NestedKey → V → Prop
  | num (i : Int) : NKv H (.num i) (.int i)
  | text (x : Str) : NKv H (.text x) (.str x)
  | tup {a : Addr} {vs : List V} {ks : List NestedKey} : H a = some (.tup vs) → NKvs H ks vs → NKv H (.tup ks) (.ref a)
inductive NKvs (H : Hp) : List NestedKey → List V → Prop
  | nil : NKvs H [] []
  | cons {k : NestedKey} {v : V} {ks : List NestedKey} {vs : List V} : NKv H k v → NKvs H ks vs → NKvs H (k :: ks) (v :: vs)
end
section
variable {P : Program} {w : World} {H H' F : Hp} {h : Heap} {K : Frag}
mutual
theorem NKv.mono (e : ∀ a vs, H a = some (.tup vs) → H' a = some (.tup vs)) : ∀ {k : NestedKey} {v : V}, NKv H k v → NKv H' k v
  | _, _, .num i => .num i
  | _, _, .text x => .text x
  | _, _, .tup h1 h2 => .tup (e _ _ h1) (NKvs.mono e h2)
theorem NKvs.mono (e : ∀ a vs, H a = some (.tup vs) → H' a = some (.tup vs)) : ∀ {k : List NestedKey} {v : List V}, NKvs H k v → NKvs H' k v
  | _, _, .nil => .nil
  | _, _, .cons h1 h2 => .cons (NKv.mono e h1) (NKvs.mono e h2)
end
mutual
theorem NKv.is (ok : HOk P w H h) : ∀ {k : NestedKey} {v : V} {u : Value}, NKv H k v → RelV v u → NestedIs h k u
  | _, _, _, .num i, r => by obtain ⟨t, rfl⟩ := (show ∃ t, _ = Value.int i t from r); exact .int i t
  | _, _, _, .text x, r => by obtain ⟨t, rfl⟩ := (show ∃ t, _ = Value.str x t from r); exact .text x t
  | _, _, _, @NKv.tup _ a vs ks h1 h2, r => by
    cases (show _ = Value.ref a from r)
    obtain ⟨_, its, r, o, g1, g2, n, g3⟩ := (show ObjOk P w H h a (.tup vs) from ok a _ h1)
    exact .tup g1 g2 g3 (by simpa using NKvs.is ok h2 r)
theorem NKvs.is (ok : HOk P w H h) : ∀ {k : List NestedKey} {v : List V} {u : List Value}, NKvs H k v → Vals v u → NestedAll h k u
  | _, _, _, .nil, r => by cases r; exact .nil
  | _, _, _, .cons h1 h2, r => by
    cases r with
    | cons r1 r2 => exact .cons (NKv.is ok h1 r1) (NKvs.is ok h2 r2)
end
abbrev NXs (F : Hp) : List (NestedKey × V) → List (NestedKey × Addr × Value) → Prop := Paired fun p q => p.1 = q.1 ∧ (NKv F q.1 (.ref q.2.1) ∧ q.1.depth ≤ 8) ∧ RelV p.2 q.2.2
def rawO (a : Addr) (o : Obj) : HO := .ext fun h => h.get? a = some o
structure DNx (P : Program) (w : World) (F : Hp) (a : Addr) (o : Obj) (kvs : List (NestedKey × V)) : Prop where
  ns : (a == sysModules) = false
  ln : kvs.length ≤ sizeLine
  ex : ∃ es ep xs, o.ExactDict ∧ o.data = .dict es ep ∧ es.toList = xs.map (entryOfKey (nestedKind P w)) ∧ (xs.map (·.1)).Nodup ∧ NXs F kvs xs
theorem NXs.mono (e : ∀ a vs, F a = some (.tup vs) → H' a = some (.tup vs)) {kvs : List (NestedKey × V)} {xs : List (NestedKey × Addr × Value)} (h : NXs F kvs xs) : NXs H' kvs xs := Paired.mapP h fun _ _ z => ⟨z.1, ⟨z.2.1.1.mono e, z.2.1.2⟩, z.2.2⟩
theorem DNx.mono {a : Addr} {o : Obj} {kvs : List (NestedKey × V)} (e : ∀ a vs, F a = some (.tup vs) → H' a = some (.tup vs)) (h : DNx P w F a o kvs) : DNx P w H' a o kvs := by
  obtain ⟨h1, h2, es, ep, xs, g1, g2, g3, g4, g5⟩ := h
  exact ⟨h1, h2, es, ep, xs, g1, g2, g3, g4, g5.mono e⟩
theorem rawO_get {a : Addr} {o : Obj} (ok : HOk P w H h) (e : H a = some (rawO a o)) : h.get? a = some o := (ok a _ e).1
theorem NXs.keys (ok : HOk P w H h) : ∀ {kvs : List (NestedKey × V)} {xs : List (NestedKey × Addr × Value)}, NXs H kvs xs → ∀ x ∈ xs, (nestedKind P w).is h x.1 x.2.1
  | _, _, .nil, x, hx => nomatch hx
  | _, _, .cons r t, x, hx => by
    rcases List.mem_cons.mp hx with e | hx
    · subst e; exact ⟨NKv.is ok r.2.1.1 rfl, r.2.1.2⟩
    · exact NXs.keys ok t x hx
theorem DNx.of {a : Addr} {o : Obj} {kvs : List (NestedKey × V)} (ok : HOk P w H h) (e : H a = some (rawO a o)) (d : DNx P w H a o kvs) : ∃ xs, NXs H kvs xs ∧ h.DictOfH (nestedKind P w) a xs := by
  obtain ⟨_, _, es, ep, xs, g1, g2, g3, g4, g5⟩ := d
  exact ⟨xs, g5, o, es, ep, rawO_get ok e, g1, g2, g3, NXs.keys ok g5, g4⟩
theorem NXs.val {kvs : List (NestedKey × V)} {xs : List (NestedKey × Addr × Value)} (r : NXs H kvs xs) (k : NestedKey) : RelO (valV kvs k) ((atKey xs k).map (·.2)) := by
  induction r with
  | nil => exact True.intro
  | @cons p q ps qs h t ih =>
    obtain ⟨h1, _, h2⟩ := h
    by_cases e : p.1 = k
    · have e' : q.1 = k := h1.symm.trans e
      have b : atKey (q :: qs) k = some q.2 := by simp [atKey, List.find?_cons, e']
      rw [valV_pos e, b]; exact h2
    · have e' : ¬ q.1 = k := fun z => e (h1.trans z)
      have b : atKey (q :: qs) k = atKey qs k := by simp [atKey, List.find?_cons, e']
      rw [valV_neg e, b]; exact ih
theorem NXs.repl {kvs : List (NestedKey × V)} {xs : List (NestedKey × Addr × Value)} (r : NXs H kvs xs) (k : NestedKey) {y : V} {u : Value} (ry : RelV y u) :
    NXs H (kvs.map fun kv => if kv.1 = k then (kv.1, y) else kv) (xs.map (putAt k u)) := by
  induction r with
  | nil => exact .nil
  | @cons p q ps qs h t ih =>
    rw [List.map_cons, List.map_cons]
    refine .cons ?_ ih
    obtain ⟨h1, h2, h3⟩ := h
    unfold putAt
    by_cases e : p.1 = k
    · rw [if_pos e, if_pos (h1.symm.trans e)]; exact ⟨h1, h2, ry⟩
    · rw [if_neg e, if_neg (fun z => e (h1.trans z))]; exact ⟨h1, h2, h3⟩
theorem NXs.put {kvs : List (NestedKey × V)} {xs : List (NestedKey × Addr × Value)} (r : NXs H kvs xs) (k : NestedKey) {b : Addr} {y : V} {u : Value} (hb : NKv H k (.ref b)) (hd : k.depth ≤ 8) (ry : RelV y u) :
    NXs H (putK kvs k y) (storedH xs k b u) := by
  have e : (kvs.any fun kv => decide (kv.1 = k)) = (atKey xs k).isSome := by
    rw [valV_any, (r.val k).isSome_eq, Option.isSome_map]
  unfold putK storedH
  rw [e]
  by_cases q : (atKey xs k).isSome = true
  · rw [if_pos q, if_pos q]; exact r.repl k ry
  · rw [if_neg q, if_neg q]; exact Paired.snoc r ⟨rfl, ⟨hb, hd⟩, ry⟩
end
end TL
namespace TL
open PySem PySem.Spec PyProof.Rows L2
def dnT (P : Program) (w : World) (a : Addr) (kvs : List (NestedKey × PyData)) : OwT where
  id := a
  fp := [a]
  ok := fun K F H v => v = .ref a ∧ ∃ o kvs', H a = some (rawO a o) ∧ DNx P w F a o kvs' ∧ KVp K F kvs' kvs
  isr := fun h => h.1
  mono := fun e k ⟨h1, o, kvs', h2, h3, h4⟩ => ⟨h1, o, kvs', k _ (by simp) _ h2, h3.mono fun a vs z => e a _ z, kvp_mono e h4⟩
  there := fun ⟨h1, o, kvs', h2, h3, h4⟩ b hb => by
    have e : b = a := by simpa using hb
    subst e
    exact ⟨_, h2, rfl⟩
  rows := []
  held := fun _ r hr => by cases hr
def IsDN (P : Program) (w : World) (kvs : List (NestedKey × PyData)) (s : Sl) : Prop := ∃ a, s = .ow (dnT P w a kvs)
section
variable {X : Cx} {g : G} {env env' : List Sl} {Ψ : Exc → Prop} {P : Po} {pos p lp tpos apos : Pos} {a b c e f : Expr} {es : List Expr} {K : Frag} {F F' H H' : Hp} {σ σ' : SS} {x y : PyData} {k0 : Nat} {s : Sl} {kvs : List (NestedKey × PyData)} {key v dflt : PyData}
theorem IsDN.ne {P : Program} {w : World} (h : IsDN P w kvs s) : s ≠ .un := by
  obtain ⟨a, rfl⟩ := h
  intro z; cases z
theorem IsDN.fpne {P : Program} {w : World} (h : IsDN P w kvs s) : s.fp ≠ [] := by
  obtain ⟨a, rfl⟩ := h
  intro z; cases z
end
end TL
namespace TL
open PySem PySem.Spec PyProof.Rows L2
def fmtM (d : PyData) (K : Str → Prop) : Prop := match d with
  | .str y => y.length ≤ sizeLine ∧ K y
  | .int i => i.natAbs.log2 < 1920 ∧ K (toString i)
  | _ => False
end TL
namespace TL
open PySem PySem.Spec PyProof.Rows L2 He
/-- all that the making of x's instances leans on but its __init__ -/
structure ExF (K : Frag) (x : Str) (fs : List Str) : Prop where
  oc : OexC K (ga K x)
  xf : XfC K (ga K x)
  no : ∀ f ∈ fs, PySem.W.findIn K (.ref (ga K x)) f = some none
  it : PySem.W.findIn K (.ref (ga K x)) "__init__" = some (some (.ref (ma K (ga K x) "__init__")))
  ty : PySem.W.typeIn K (.ref (ma K (ga K x) "__init__")) = some (.type "function")
def fxM (d : PyData) (K : Prop) : Prop := fmtM d fun s => s.length ≤ 100000 ∧ K
def FxOk (v : V) : Prop := ∃ d, atV d = some v ∧ fxM d True
/-- the promise of such an __init__ -/
def XInit (K : Frag) (C : Addr) (fs : List Str) : Sp := fun vs H Q _ => ∃ a ws, vs = .ref a :: ws ∧ ws.length = fs.length ∧ (∀ w ∈ ws, FxOk w) ∧ H a = some (exo a C none) ∧
  ∀ d H2, H d = none → d ≠ a → H2 a = some (exo a C (some d)) → H2 d = some (exd d (fs.zip ws).reverse) → (∀ b, b ≠ a → b ≠ d → H2 b = H b) → Q .non H2
structure XHas (P : Program) (w : World) (K : Frag) (mg : Str → Option Value) (base : Heap) (k : Nat) (x : Str) (fs : List Str) : Prop where
  ex : ∃ fd, mg x = some (.ref (ga K x)) ∧ ExF K x fs ∧ Binds K fd ("self" :: fs) [] ∧ FnOk P w K mg base (L2.CX P w) k (ma K (ga K x) "__init__") fd ("self" :: fs) (XInit K (ga K x) fs)
theorem XHas.mono {P : Program} {w : World} {K : Frag} {mg : Str → Option Value} {base : Heap} {k j : Nat} {x : Str} {fs : List Str} (h : XHas P w K mg base k x fs) (hj : k ≤ j) : XHas P w K mg base j x fs := by
  obtain ⟨fd, h1, h2, h3, h4⟩ := h.ex
  exact ⟨fd, h1, h2, h3, h4.mono hj⟩
section
variable {X : Cx} {g : G} {env env' : List Sl} {Ψ : Exc → Prop} {P : Po} {pos p p1 p2 : Pos} {e : Expr} {es : List Expr} {ta : TA}
theorem St.un {K : Frag} {g : G} {F H : Hp} {σ : SS} {env : List Sl} {i : Nat} {o : Option V} (st : St K g F H σ env) (h : env[i]? = some .un) : St K g F H (σ.set i o) env :=
  { st with
    len := by rw [List.length_set]; exact st.len
    sl := fun j s hj => by
      by_cases e : j = i
      · subst e
        rw [h] at hj
        cases hj
        exact trivial
      · rw [List.getElem?_set_ne (Ne.symm e)]
        exact st.sl j s hj }
end
end TL
namespace TL
open PySem PySem.Spec PyProof.Rows L2
def tMakeS (C : Addr) (sp : Sp) (dvs : List V) (E : SS → XK) (t : TA) : TE := fun σ H Q => t σ H fun vs H1 => ∀ y dy, H1 y = none → H1 dy = none → dy ≠ y →
  sp (.ref y :: (vs ++ dvs)) (upd (upd H1 dy (.own y)) y (.ins C dy [])) (fun r H2 => r = .non ∧ Q (.ref y) H2) (E σ)
section
variable {X : Cx} {CX : CXT} {k : Nat} {f C : Addr} {fd : FuncData} {ps : List Str} {sp : Sp} {dvs : List V} {ds : List Value} {E : SS → XK} {x : Str} {p pos : Pos} {e : Expr} {es : List Expr} {t : TA}
theorem make_s {pins : List (Addr × Obj)} {σ : SS} {H : Hp} {s : Shared} {Q : VK} {us : List Value} {vs : List V} (M : Mk X.K C f) (fn : FnOk X.prog X.w X.K X.mg X.base CX k f fd ps sp) (room : Room (k + 1) X.A) (bi : Binds X.K fd ps ds) (dv : Vals dvs ds)
    (pa : PassesAt CX X σ (E σ)) (J : Inv X pins σ H s) (rel : Vals vs us)
    (q : ∀ y dy, H y = none → H dy = none → dy ≠ y → sp (.ref y :: (vs ++ dvs)) (upd (upd H dy (.own y)) y (.ins C dy [])) (fun r H2 => r = .non ∧ Q (.ref y) H2) (E σ)) :
    wpAny (model X.prog X.w) X.A (call (.ref C) us) (EP X pins σ Q) X.xe s := by
  have J2 := J.made (C := C)
  have q2 := q (s.heap.objs.size + 1) s.heap.objs.size (J.hok.fresh (Nat.le_add_right _ 1)) (J.hok.fresh (Nat.le_refl _)) (Nat.ne_of_lt (Nat.lt_add_one _))
  have rel2 : Vals (.ref (s.heap.objs.size + 1) :: (vs ++ dvs)) (.ref (s.heap.objs.size + 1) :: (us ++ ds)) := .cons rfl (rel.append dv)
  have len : (Value.ref (s.heap.objs.size + 1) :: us ++ ds).length = ps.length := Eq.trans rel2.length.symm (fn.len _ _ _ _ q2)
  have body := fn.run (X.A.under (.builtin "type.__call__" ⟨.ref C :: us, []⟩)) X.stack _ _ ⟨.ref (s.heap.objs.size + 1) :: us, []⟩ _ _ _ (E σ) (room.make C us []) (J2.env0.make C us []) (bi _ (.ref (s.heap.objs.size + 1) :: us) J2.kIn len) rel2 q2
  refine wpAny_call (make_map (f := f) J.kIn M.makes M.init (eq_of_beq M.fn) (codeAny_mono body fun r s2 hr => ?_))
  match r, hr with
  | .error _, hr => exact pa pins _ _ _ s2 J2 hr
  | .ok (.ret _), hr =>
    obtain ⟨v, H3, J3, rv, ev, hq⟩ := J2.after hr
    subst ev
    exact ⟨rv, .ref (s.heap.objs.size + 1), H3, J3, rfl, hq⟩
  | .ok .next, hr => exact (show False from hr).elim
  | .ok .brk, hr => exact (show False from hr).elim
  | .ok .cont, hr => exact (show False from hr).elim
end
structure MkCallS (X : Cx) (ex : Expr) (n : Str) (es : List Expr) : Prop where
  pe : ∀ {CX : CXT} {k : Nat} {f C : Addr} {fd : FuncData} {ps : List Str} {sp : Sp} {dvs : List V} {ds : List Value} {E : SS → XK}, Mk X.K C f → FnOk X.prog X.w X.K X.mg X.base CX k f fd ps sp → Room (k + 1) X.A → X.mg n = some (.ref C) → Binds X.K fd ps ds → Vals dvs ds → (∀ σ, PassesAt CX X σ (E σ)) → PE X ex (tMakeS C sp dvs E (semZ X es))
section
variable {X : Cx} {g : G} {env env' : List Sl} {Ψ : Exc → Prop} {P : Po} {pos p apos q lp : Pos} {a b c e ex o : Expr} {es : List Expr} {rest body orelse : List Stmt} {K : Frag} {F F' F1 F2 H H' H1 H2 : Hp} {σ σ' : SS} {s s' : Sl} {v : V} {x kd : PyData} {n m xn : Str} {fs : List (Str × OF)}
theorem mks1 (hg : Gl X n := by rfl) (hdb : (n == ("__debug__" : Str)) = false := by decide) (he : starEach (e :: es) X.env = (false, eval e X.env) :: starEach es X.env := by rfl) (hpl : (backTo pos (starEach es X.env)).any (·.1) = false := by rfl) : MkCallS X (.Call (.Name n p) (e :: es) [] pos) n (e :: es) :=
  ⟨fun M fn room hm bi dv pa => ⟨fun pins s σ H Q J h => by
    refine wpAny_Call_Name_kw (ld_glob J hg hm ?_ hdb)
    exact PySem.W.callWith_K (h₀ := X.base) J.ok.mod.kin M.kp (thn ((paS (e :: es)).run pos pins s σ H _ J h) fun us s1 ⟨vs, H1, J1, rel, hq⟩ => ⟨J1.kIn, make_s M fn room bi dv (pa σ) J1 rel hq⟩) he hpl⟩⟩
theorem mks0 (hg : Gl X n := by rfl) (hdb : (n == ("__debug__" : Str)) = false := by decide) : MkCallS X (.Call (.Name n p) [] [] pos) n [] :=
  ⟨fun M fn room hm bi dv pa => ⟨fun pins s σ H Q J h => by
    refine wpAny_Call_Name_kw (ld_glob J hg hm ?_ hdb)
    exact PySem.W.callWith_K0 J.kIn M.kp (make_s (us := []) M fn room bi dv (pa σ) J .nil h)⟩⟩
theorem arall_push {w : V} {s : Sl} : ∀ {vs : List V} {as : List Ar}, (∀ l ∈ arIx as, l < σ.length) → ArAll K F σ vs as → ArAll K F (σ ++ [some w]) vs as
  | [], [], _, h => h
  | v :: vs, .d x :: as, hq, h => ⟨h.1, arall_push (s := s) (fun l hl => hq l hl) h.2⟩
  | v :: vs, .s l :: as, hq, h => ⟨by
      show (σ ++ [some w])[l]? = some (some v)
      rw [List.getElem?_append_left (hq l (List.mem_cons_self ..))]; exact h.1, arall_push (s := s) (fun l hl => hq l (List.mem_cons_of_mem _ hl)) h.2⟩
  | [], _ :: _, _, h => by simp [ArAll] at h
  | _ :: _, [], _, h => by simp [ArAll] at h
theorem arall_ds : ∀ {L : List V} {dd : List PyData}, DqAll K F L dd → ArAll K F σ L (dd.map Ar.d)
  | _, _, .nil => trivial
  | _, _, .cons h1 h2 => ⟨h1, arall_ds h2⟩
theorem arall_dflt {L : List V} {dd : List PyData} (hd : DqAll K F L dd) : ∀ {vs : List V} {as : List Ar}, ArAll K F σ vs as → ArAll K F σ (vs ++ L) (as ++ dd.map Ar.d)
  | [], [], _ => arall_ds hd
  | v :: vs, .d x :: as, h => ⟨h.1, arall_dflt hd h.2⟩
  | v :: vs, .s l :: as, h => ⟨h.1, arall_dflt hd h.2⟩
  | [], _ :: _, h => by simp [ArAll] at h
  | _ :: _, [], h => by simp [ArAll] at h
/-- behind a new instance: __init__ is done with it, or raises and leaves it as it was -/
theorem make_coreE {ps : List Str} {S : CT} {Φ : Sl → Prop} {as : List Ar} {vs : List V} {y dx : Addr} {W : WX} (s1 : St X.K g F1 H1 σ env) (ra : ArAll X.K F1 σ vs as) (ik : InsK X.K n) (hok : callOk (.s env.length :: as) ps.length (env.length + 1) = true)
    (hS : ∀ s0, IsOb n [] s0 → S (s0 :: as.map (slOf env)) (fun r args' => ∃ s', args' = s' :: as.map (slOf env) ∧ r = .rd .none ∧ Φ s') (fun c args' => args' = s0 :: as.map (slOf env) ∧ Ψ c)) (hx : HX X g env Ψ W σ) (hy : H1 y = none) (hdx : H1 dx = none) (hne : dx ≠ y) {Q : VK}
    (hQ : ∀ s v F' H', Φ s → St X.K g F' H' σ env → Ex F1 F' → NewS X.K g F' H' env v s → Q v H') :
    spOf X.K ps.length S (.ref y :: vs) (upd (upd H1 dx (.own y)) y (.ins (He.ga X.K n) dx [])) (fun v H2 => v = .non ∧ Q (.ref y) H2) (L2.WE W σ) := by
  obtain ⟨h1, h2, h3⟩ := callOk_ok hok
  have hlt : ∀ l ∈ arIx as, l < env.length := fun l hl => by
    have a := h3 l (List.mem_cons_of_mem _ hl)
    have b := (List.nodup_cons.mp (show (env.length :: arIx as).Nodup from h2)).1
    have c : l ≠ env.length := fun z => b (z ▸ hl)
    omega
  have hl := s1.len
  have s2 := (s1.alloc (o := .own y) hdx).alloc (p := y) (o := .ins (He.ga X.K n) dx []) (by rw [upd_ne (Ne.symm hne)]; exact hy)
  have nb : ∀ b, b ∈ (Sl.ow (obT n y dx [])).fp → b = y ∨ b = dx := fun b hb => by
    rcases ob_fp.mp hb with z | z | z
    · exact .inl z
    · exact .inr z
    · cases z
  have hnone : ∀ b, b ∈ (Sl.ow (obT n y dx [])).fp → H1 b = none := fun b hb => by
    rcases nb b hb with rfl | rfl
    · exact hy
    · exact hdx
  have s3 := s2.push (v := .ref y) (s := .ow (obT n y dx [])) ⟨_, rfl, rfl, ik, List.nodup_nil, by rw [upd_ne hne, upd_same], [], upd_same, trivial⟩ (fun b hb => ⟨s1.ex.none (hnone b hb), fun z => s1.there z (hnone b hb), s1.h0 (hnone b hb)⟩)
  have ra3 : ArAll X.K F1 (σ ++ [some (.ref y)]) (.ref y :: vs) (.s env.length :: as) :=
    ⟨by show (σ ++ [some (V.ref y)])[env.length]? = _; rw [List.getElem?_append_right (by omega), hl, Nat.sub_self]; rfl, arall_push (s := .un) (fun l hl2 => by rw [hl]; exact hlt l hl2) ra⟩
  have h3' : ∀ l ∈ arIx (.s env.length :: as), l < (env ++ [Sl.ow (obT n y dx [])]).length := fun l hl => by rw [List.length_append]; exact h3 l hl
  have eas : ∀ t : Sl, as.map (slOf (env ++ [t])) = as.map (slOf env) := fun t => List.map_congr_left fun a ha => by
    cases a with
    | d x => rfl
    | s l =>
      have : l ∈ arIx as := by
        obtain ⟨jj, hj1, hj2⟩ := List.getElem_of_mem ha
        exact arix_mem (j := jj) (by rw [List.getElem?_eq_getElem hj1, hj2])
      show (env ++ [t])[l]?.getD .un = env[l]?.getD .un
      rw [List.getElem?_append_left (hlt l this)]
  have e0 : ∀ t : Sl, (Ar.s env.length :: as).map (slOf (env ++ [t])) = t :: as.map (slOf env) := fun t => by
    rw [List.map_cons, eas]
    congr 1
    show (env ++ [t])[env.length]?.getD .un = t
    rw [List.getElem?_append_right (by omega), Nat.sub_self]; rfl
  have skc := s3.toSk.callee ra3 h2 h3'
  rw [e0] at skc
  have hlen : (env ++ [Sl.ow (obT n y dx [])])[env.length]? = some (.ow (obT n y dx [])) := by rw [List.getElem?_append_right (by omega), Nat.sub_self]; rfl
  have eset : ∀ s', (env ++ [Sl.ow (obT n y dx [])]).set env.length s' = env ++ [s'] := fun s' => by
    rw [List.set_append_right _ _ (by omega), Nat.sub_self]; rfl
  refine ⟨by show vs.length + 1 = _; rw [arall_len ra]; exact h1, F1, _, _, _, hS _ ⟨y, dx, [], rfl, rfl⟩, skc, fun r w args' F' H' ⟨s', ea, er, hp⟩ sk hst ho pr => ?_, fun c args' F' H' ⟨ea, hc⟩ sk hst ho => ?_⟩
  · subst er
    have hw : w = .non := by cases pr; rfl
    refine ⟨hw, ?_⟩
    have s4 := called_set (s' := s') s3 hlen ra3 h2 h3' (List.mem_cons_self ..) sk (by rw [e0]; exact hst) (by rw [e0]; exact ho) (by rw [eset, e0]; exact ea)
    rw [eset] at s4
    have s5 := s4.pop hl
    have hs' := s4.sl env.length s' (by rw [List.getElem?_append_right (by omega), Nat.sub_self]; rfl)
    rw [List.getElem?_append_right (by omega), hl, Nat.sub_self] at hs'
    refine hQ s' (.ref y) F' H' hp s5 hst.1 ⟨hs', fun b hb => ?_⟩
    have ob : Own (env ++ [s']) b := ⟨env.length, s', by rw [List.getElem?_append_right (by omega), Nat.sub_self]; rfl, hb⟩
    refine ⟨s4.fr b ob, fun ⟨l, t, hl2, ht⟩ => ?_, ?_⟩
    · have hll := (List.getElem?_eq_some_iff.mp hl2).1
      have := s4.nd l env.length t s' b (by rw [List.getElem?_append_left hll]; exact hl2) (by rw [List.getElem?_append_right (by omega), Nat.sub_self]; rfl) ht hb
      omega
    · rcases ho b (by rw [ea]; exact ⟨0, s', rfl, hb⟩) with z | z
      · obtain ⟨jj, t, q1, q2⟩ := z
        cases jj with
        | zero =>
          cases q1
          exact s1.h0 (hnone b q2)
        | succ jj =>
          have a0 : (s' :: as.map (slOf env))[0]? = some s' := rfl
          have a1 : (s' :: as.map (slOf env))[jj + 1]? = some t := q1
          rw [← ea] at a0 a1
          have := sk.nd 0 (jj + 1) s' t b a0 a1 hb q2
          omega
      · cases z2 : H1 b with
        | none => exact s1.h0 z2
        | some u =>
          rw [upd_ne, upd_ne, z2] at z
          · cases z
          · rintro rfl; rw [hdx] at z2; cases z2
          · rintro rfl; rw [hy] at z2; cases z2
  · have s4 := called_set (s' := .ow (obT n y dx [])) s3 hlen ra3 h2 h3' (List.mem_cons_self ..) sk (by rw [e0]; exact hst) (by rw [e0]; exact ho) (by rw [eset, e0]; exact ea)
    rw [eset] at s4
    have := hx c F' H' hc (s4.pop hl)
    cases c <;> exact this
/-- C(..), it may raise -/
theorem wo_makeE {j k : Nat} {ps : List Str} {S : CT} {Φ : Sl → Prop} (mc : MkCallS X ex n es) (hi : HasI X.prog X.w X.K X.mg X.base j n ps S) (hr : Room (k + 1) X.A)
    (h : WAz X g es env (fun as => callOk (.s env.length :: as) ps.length (env.length + 1) = true ∧ ∀ s0, IsOb n [] s0 → S (s0 :: as.map (slOf env)) (fun r args' => ∃ s', args' = s' :: as.map (slOf env) ∧ r = .rd .none ∧ Φ s') (fun c args' => args' = s0 :: as.map (slOf env) ∧ Ψ c)) Ψ)
    (hj : j ≤ k := by omega) : WO X g ex env Φ Ψ := fun W tk σ F H st hx Q hQ => by
  obtain ⟨f, fd, hm, ik, M, hb, F0⟩ := hi.ex
  refine semE_of (mc.pe M (F0.mono hj) hr hm hb .nil (fun σ => passAt tk σ)) ?_
  refine waz_run h tk st hx fun as vs F1 H1 ⟨hok, hS⟩ s1 e1 ra y dx hy hdx hne => ?_
  rw [List.append_nil]
  exact make_coreE s1 ra ik hok hS (fun c F' H' hc s2 => hx c F' H' hc s2) hy hdx hne fun s v F' H' hp st' e' => hQ s v F' H' hp st' (e1.trans e')
/-- C(..), the rest by default, it may raise -/
theorem wo_makeD {j k : Nat} {ps : List Str} {S : CT} {Φ : Sl → Prop} {dvs : List V} {dd : List PyData} (hdv : ∀ F, DqAll X.K F dvs dd) (mc : MkCallS X ex n es) (hi : HasID X.prog X.w X.K X.mg X.base j n ps dvs S) (hr : Room (k + 1) X.A)
    (h : WAz X g es env (fun as => callOk (.s env.length :: (as ++ dd.map Ar.d)) ps.length (env.length + 1) = true ∧ ∀ s0, IsOb n [] s0 → S (s0 :: (as ++ dd.map Ar.d).map (slOf env)) (fun r args' => ∃ s', args' = s' :: (as ++ dd.map Ar.d).map (slOf env) ∧ r = .rd .none ∧ Φ s') (fun c args' => args' = s0 :: (as ++ dd.map Ar.d).map (slOf env) ∧ Ψ c)) Ψ)
    (hj : j ≤ k := by omega) : WO X g ex env Φ Ψ := fun W tk σ F H st hx Q hQ => by
  obtain ⟨f, fd, ds, hm, ik, M, hv, hb, F0⟩ := hi.ex
  refine semE_of (mc.pe M (F0.mono hj) hr hm hb hv (fun σ => passAt tk σ)) ?_
  refine waz_run h tk st hx fun as vs F1 H1 ⟨hok, hS⟩ s1 e1 ra y dx hy hdx hne => ?_
  have ra2 : ArAll X.K F1 σ (vs ++ dvs) (as ++ dd.map Ar.d) := by
    have hd := hdv F1
    exact arall_dflt hd ra
  exact make_coreE s1 ra2 ik hok hS (fun c F' H' hc s2 => hx c F' H' hc s2) hy hdx hne fun s v F' H' hp st' e' => hQ s v F' H' hp st' (e1.trans e')
/-- e, a new thing that nobody keeps -/
theorem w1_exprO (h : WO X g e env (fun _ => P.nx env) (fun c => P.ex c env)) (hs : swapsWith e none pos.line X.env = pure false := by rfl) : W1 X g (.Expr e pos) env P := fun W tk hx2 σ F H s0 D hD => by
  refine semP_of (ps_expr (peS e) hs) ?_
  refine h W tk σ F H s0 (hx2.hx env σ) _ fun s v F' H' hp s' e' _ => ?_
  exact hD.nx _ _ F' H' hp s' e'
end
end TL
namespace TL
open PySem PySem.Spec PyProof.Rows L2
inductive LC where
  | ob (a dx : Addr) (fa : List (Str × OA))
  | hole (a : Addr)
def LC.id : LC → Addr
  | .ob a _ _ => a
  | .hole a => a
def LC.fp : LC → List Addr
  | .ob a dx fa => a :: dx :: ofp fa
  | .hole _ => []
def LC.view : LC → Option (List (Str × OF))
  | .ob _ _ fa => some (fa.map fun p => (p.1, p.2.of))
  | .hole _ => none
def LC.rows : LC → List (Addr × List PyData)
  | .ob _ _ fa => oarows fa
  | .hole _ => []
def LC.ok (n : Str) (K : Frag) (F H : Hp) : LC → Prop
  | .ob a dx fa => (obT n a dx fa).ok K F H (.ref a)
  | .hole _ => True
def lofp (al : Addr) (cs : List LC) : List Addr := al :: cs.flatMap LC.fp
def loT (n : Str) (al : Addr) (cs : List LC) : OwT where
  id := al
  fp := lofp al cs
  ok := fun K F H v => v = .ref al ∧ H al = some (.lst (cs.map fun c => V.ref c.id)) ∧ (lofp al cs).Nodup ∧ ∀ c ∈ cs, c.ok n K F H
  isr := fun h => h.1
  mono := fun {K F F' H H' v} e k h => by
    obtain ⟨h1, h2, h3, h4⟩ := h
    refine ⟨h1, k al (List.mem_cons_self ..) _ h2, h3, fun c hc => ?_⟩
    have hk : ∀ b ∈ c.fp, ∀ u, H b = some u → H' b = some u := fun b hb => k b (List.mem_cons_of_mem _ (List.mem_flatMap.mpr ⟨c, hc, hb⟩))
    cases c with
    | hole a => trivial
    | ob a dx fa => exact (obT n a dx fa).mono e hk (h4 _ hc)
  there := fun {K F H v} h b hb => by
    obtain ⟨h1, h2, h3, h4⟩ := h
    rcases List.mem_cons.mp hb with rfl | hb
    · exact ⟨_, h2, rfl⟩
    · obtain ⟨c, hc, hb⟩ := List.mem_flatMap.mp hb
      cases c with
      | hole a => cases hb
      | ob a dx fa => exact (obT n a dx fa).there (h4 _ hc) b hb
  rows := cs.flatMap LC.rows
  held := fun {K F H v} h r hr => by
    obtain ⟨h1, h2, h3, h4⟩ := h
    obtain ⟨c, hc, hr⟩ := List.mem_flatMap.mp hr
    cases c with
    | hole a => cases hr
    | ob a dx fa => exact (obT n a dx fa).held (h4 _ hc) r hr
/-- a list of objects of the class n, none is out -/
def IsL (n : Str) (ws : List (List (Str × OF))) (s : Sl) : Prop := ∃ al cs, s = .ow (loT n al cs) ∧ cs.map LC.view = ws.map some
/-- the same, the j-th is out: the one at q -/
def IsLH (n : Str) (ws : List (List (Str × OF))) (j : Nat) (q : Addr) (s : Sl) : Prop := ∃ al cs, s = .ow (loT n al cs) ∧ cs.map LC.view = (ws.map some).set j none ∧ cs[j]? = some (.hole q)
theorem IsL.ne {n : Str} {ws : List (List (Str × OF))} {s : Sl} (h : IsL n ws s) : s ≠ .un := by
  obtain ⟨_, _, rfl, _⟩ := h
  intro z; cases z
section
variable {X : Cx} {g : G} {env env' : List Sl} {Ψ : Exc → Prop} {P : Po} {pos p apos q lp : Pos} {a b c e ex o : Expr} {es : List Expr} {rest body orelse : List Stmt} {K : Frag} {F F' F1 F2 H H' H1 H2 : Hp} {σ σ' : SS} {s s' : Sl} {v : V} {x kd : PyData} {n m xn : Str} {fs : List (Str × OF)} {ws : List (List (Str × OF))}
theorem St.regroup (st : St K g F H σ env) (len : σ'.length = env'.length) (sl : ∀ (j : Nat) (s : Sl), env'[j]? = some s → SlOk K F H (σ'[j]?.getD none) s) (nd : ∀ (i j : Nat) (s t : Sl) (b : Addr), env'[i]? = some s → env'[j]? = some t → b ∈ s.fp → b ∈ t.fp → i = j) (own : ∀ b, Own env' b → Own env b) : St K g F H σ' env' :=
  { len := len, sl := sl, nd := nd, fr := fun b hb => st.fr b (own b hb), ex := st.ex, tf := st.tf, tk := st.tk, gt := st.gt, g1 := st.g1, g2 := fun b hb => st.g2 b (own b hb), g3 := st.g3, g4 := st.g4, g5 := st.g5, g6 := st.g6 }
theorem ob_nd {al dx : Addr} {fa : List (Str × OA)} (h : (obT n al dx fa).ok K F H v) : (al :: dx :: ofp fa).Nodup := by
  obtain ⟨_, ik, nd, hdx, vs, ha, hok⟩ := h
  have l : ∀ b ∈ ofp fa, ∃ us, H b = some (.lst us) := fok_there hok
  refine List.nodup_cons.mpr ⟨fun z => ?_, List.nodup_cons.mpr ⟨fun z => ?_, nd⟩⟩
  · rcases List.mem_cons.mp z with z | z
    · rw [z, hdx] at ha; cases ha
    · obtain ⟨us, hu⟩ := l al z
      rw [ha] at hu; cases hu
  · obtain ⟨us, hu⟩ := l dx z
    rw [hdx] at hu; cases hu
theorem lc_split {cs : List LC} {j : Nat} {c : LC} (h : cs[j]? = some c) : ∃ l1 l2, cs = l1 ++ c :: l2 ∧ l1.length = j ∧ ∀ c', cs.set j c' = l1 ++ c' :: l2 := by
  obtain ⟨hj, e⟩ := List.getElem?_eq_some_iff.mp h
  have e1 : cs = cs.take j ++ c :: cs.drop (j + 1) := by
    rw [← e, ← List.drop_eq_getElem_cons hj, List.take_append_drop]
  refine ⟨cs.take j, cs.drop (j + 1), e1, by rw [List.length_take]; omega, fun c' => ?_⟩
  have hl : (cs.take j).length = j := by rw [List.length_take]; omega
  conv => lhs; rw [e1]
  rw [List.set_append_right _ _ (by omega), hl, Nat.sub_self]; rfl
theorem lofp_mid {al : Addr} {l1 l2 : List LC} {c : LC} {b : Addr} : b ∈ lofp al (l1 ++ c :: l2) ↔ b ∈ c.fp ∨ (b = al ∨ b ∈ l1.flatMap LC.fp ∨ b ∈ l2.flatMap LC.fp) := by
  unfold lofp
  rw [List.mem_cons, List.flatMap_append, List.flatMap_cons, List.mem_append, List.mem_append]
  constructor
  · rintro (h | h | h | h)
    · exact .inr (.inl h)
    · exact .inr (.inr (.inl h))
    · exact .inl h
    · exact .inr (.inr (.inr h))
  · rintro (h | h | h | h)
    · exact .inr (.inr (.inl h))
    · exact .inl h
    · exact .inr (.inl h)
    · exact .inr (.inr (.inr h))
theorem lofp_nd {al : Addr} {l1 l2 : List LC} {c : LC} : (lofp al (l1 ++ c :: l2)).Nodup ↔ c.fp.Nodup ∧ (lofp al (l1 ++ .hole 0 :: l2)).Nodup ∧ ∀ b ∈ c.fp, b ∉ lofp al (l1 ++ .hole 0 :: l2) := by
  have e1 : (lofp al (l1 ++ c :: l2)).Perm (c.fp ++ (al :: (l1.flatMap LC.fp ++ l2.flatMap LC.fp))) := by
    unfold lofp
    rw [List.flatMap_append, List.flatMap_cons]
    refine (List.Perm.cons al ?_).trans List.perm_middle.symm
    rw [← List.append_assoc, ← List.append_assoc]
    exact List.Perm.append_right _ List.perm_append_comm
  have e2 : lofp al (l1 ++ .hole 0 :: l2) = al :: (l1.flatMap LC.fp ++ l2.flatMap LC.fp) := by
    unfold lofp
    rw [List.flatMap_append, List.flatMap_cons]; rfl
  rw [e1.nodup_iff, List.nodup_append, e2]
  exact ⟨fun ⟨h1, h2, h3⟩ => ⟨h1, h2, fun b hb z => h3 b hb b z rfl⟩, fun ⟨h1, h2, h3⟩ => ⟨h1, h2, fun b hb d hd z => h3 b hb (z ▸ hd)⟩⟩
theorem lofp_hole {al : Addr} {l1 l2 : List LC} {q : Addr} : lofp al (l1 ++ .hole q :: l2) = lofp al (l1 ++ .hole 0 :: l2) := by
  unfold lofp
  rw [List.flatMap_append, List.flatMap_append, List.flatMap_cons, List.flatMap_cons]; rfl
theorem lo_ids {cs : List LC} {j : Nat} {c c' : LC} (h : cs[j]? = some c) (e : c'.id = c.id) : (cs.set j c').map (fun c => V.ref c.id) = cs.map fun c => V.ref c.id := by
  obtain ⟨l1, l2, rfl, _, h2⟩ := lc_split h
  rw [h2, List.map_append, List.map_append, List.map_cons, List.map_cons, e]
/-- one is taken out: a slot more -/
theorem st_out {i j : Nat} {al a1 dx : Addr} {fa : List (Str × OA)} {cs : List LC} (st : St K g F H σ env) (he : env[i]? = some (.ow (loT n al cs))) (hc : cs[j]? = some (.ob a1 dx fa)) :
    St K g F H (σ ++ [some (.ref a1)]) (env.set i (.ow (loT n al (cs.set j (.hole a1)))) ++ [.ow (obT n a1 dx fa)]) := by
  have hl := st.len
  have hil : i < env.length := (List.getElem?_eq_some_iff.mp he).1
  obtain ⟨v, hv, rfl, h2, h3, h4⟩ := st.sl i _ he
  obtain ⟨l1, l2, ecs, hlj, hset⟩ := lc_split hc
  have hob := h4 (.ob a1 dx fa) (List.mem_of_getElem? hc)
  have eids := lo_ids (c' := .hole a1) hc rfl
  have h3' := h3
  rw [ecs] at h3'
  obtain ⟨n1, n2, n3⟩ := lofp_nd.mp h3'
  have fpl : (Sl.ow (loT n al (cs.set j (.hole a1)))).fp = lofp al (l1 ++ .hole 0 :: l2) := by
    show lofp al (cs.set j (.hole a1)) = _
    rw [hset, lofp_hole]
  have sub : ∀ b, b ∈ (Sl.ow (loT n al (cs.set j (.hole a1)))).fp → b ∈ lofp al cs := fun b hb => by
    rw [fpl] at hb
    rw [ecs]
    rcases lofp_mid.mp hb with z | z
    · cases z
    · exact lofp_mid.mpr (.inr z)
  have subo : ∀ b, b ∈ (Sl.ow (obT n a1 dx fa)).fp → b ∈ lofp al cs := fun b hb => by
    rw [ecs]; exact lofp_mid.mpr (.inl hb)
  have cas : ∀ (k : Nat) (t : Sl), (env.set i (.ow (loT n al (cs.set j (.hole a1)))) ++ [.ow (obT n a1 dx fa)])[k]? = some t → (k = i ∧ t = .ow (loT n al (cs.set j (.hole a1)))) ∨ (k ≠ i ∧ env[k]? = some t) ∨ (k = env.length ∧ t = .ow (obT n a1 dx fa)) := fun k t e => by
    by_cases z : k < env.length
    · rw [List.getElem?_append_left (by rw [List.length_set]; exact z)] at e
      rcases set_get e with ⟨rfl, rfl⟩ | ⟨ne, e⟩
      · exact .inl ⟨rfl, rfl⟩
      · exact .inr (.inl ⟨Ne.symm ne, e⟩)
    · rw [List.getElem?_append_right (by rw [List.length_set]; omega), List.length_set] at e
      have : k = env.length := by
        by_cases y : k - env.length < 1
        · omega
        · rw [List.getElem?_eq_none (by simp; omega)] at e; cases e
      subst this
      rw [Nat.sub_self] at e
      exact .inr (.inr ⟨rfl, (Option.some.inj e).symm⟩)
  refine st.regroup (by rw [List.length_append, List.length_append, List.length_set, hl]; rfl) (fun k t e => ?_) (fun k l t u b ek el ht hu => ?_) fun b ⟨k, t, e, hb⟩ => ?_
  · rcases cas k t e with ⟨rfl, rfl⟩ | ⟨ne, e⟩ | ⟨rfl, rfl⟩
    · rw [List.getElem?_append_left (by omega)]
      refine ⟨_, hv, rfl, by rw [eids]; exact h2, by rw [hset, lofp_hole]; exact n2, fun c hc2 => ?_⟩
      rw [hset] at hc2
      rcases List.mem_append.mp hc2 with z | z
      · exact h4 c (by rw [ecs]; exact List.mem_append_left _ z)
      · rcases List.mem_cons.mp z with rfl | z
        · trivial
        · exact h4 c (by rw [ecs]; exact List.mem_append_right _ (List.mem_cons_of_mem _ z))
    · have : k < σ.length := by rw [hl]; exact (List.getElem?_eq_some_iff.mp e).1
      rw [List.getElem?_append_left this]; exact st.sl k t e
    · rw [List.getElem?_append_right (by omega), hl, Nat.sub_self]
      exact ⟨_, rfl, hob⟩
  · have key : ∀ k t, (k ≠ i ∧ env[k]? = some t) → b ∈ t.fp → b ∉ lofp al cs := fun k t ⟨ne, e⟩ h1 h2 => ne (st.nd k i t _ b e he h1 h2)
    have dis : b ∈ (Sl.ow (loT n al (cs.set j (.hole a1)))).fp → b ∉ (Sl.ow (obT n a1 dx fa)).fp := fun z y => n3 b y (by rw [← fpl]; exact z)
    rcases cas k t ek with ⟨rfl, rfl⟩ | ck | ⟨rfl, rfl⟩ <;> rcases cas l u el with ⟨rfl, rfl⟩ | cl | ⟨rfl, rfl⟩
    · rfl
    · exact (key l u cl hu (sub b ht)).elim
    · exact (dis ht hu).elim
    · exact (key k t ck ht (sub b hu)).elim
    · exact st.nd k l t u b ck.2 cl.2 ht hu
    · exact (key k t ck ht (subo b hu)).elim
    · exact (dis hu ht).elim
    · exact (key l u cl hu (subo b ht)).elim
    · rfl
  · rcases cas k t e with ⟨rfl, rfl⟩ | ⟨ne, e⟩ | ⟨rfl, rfl⟩
    · exact ⟨k, _, he, sub b hb⟩
    · exact ⟨k, t, e, hb⟩
    · exact ⟨i, _, he, subo b hb⟩
/-- it is put back -/
theorem st_in {i j k : Nat} {al a1 dx : Addr} {fa : List (Str × OA)} {cs : List LC} (st : St K g F H σ env) (he : env[i]? = some (.ow (loT n al cs))) (hc : cs[j]? = some (.hole a1)) (hk : env[k]? = some (.ow (obT n a1 dx fa))) (hik : k ≠ i) :
    St K g F H σ ((env.set i (.ow (loT n al (cs.set j (.ob a1 dx fa))))).set k (.v (.ref a1))) := by
  have hl := st.len
  have hil : i < env.length := (List.getElem?_eq_some_iff.mp he).1
  have hkl : k < env.length := (List.getElem?_eq_some_iff.mp hk).1
  obtain ⟨v, hv, rfl, h2, h3, h4⟩ := st.sl i _ he
  obtain ⟨v', hv', hob⟩ := st.sl k _ hk
  have ev' := hob.1
  subst ev'
  obtain ⟨l1, l2, ecs, hlj, hset⟩ := lc_split hc
  have eids := lo_ids (c' := .ob a1 dx fa) hc rfl
  have ndo := ob_nd hob
  have disj : ∀ b ∈ (LC.ob a1 dx fa).fp, b ∉ lofp al cs := fun b hb z => hik (st.nd k i _ _ b hk he hb z)
  have fpl : lofp al (cs.set j (.ob a1 dx fa)) = lofp al (l1 ++ .ob a1 dx fa :: l2) := by rw [hset]
  have ecs2 : lofp al cs = lofp al (l1 ++ .hole 0 :: l2) := by rw [ecs, lofp_hole]
  have mem : ∀ b, b ∈ lofp al (cs.set j (.ob a1 dx fa)) → b ∈ (LC.ob a1 dx fa).fp ∨ b ∈ lofp al cs := fun b hb => by
    rw [fpl] at hb
    rcases lofp_mid.mp hb with z | z
    · exact .inl z
    · exact .inr (by rw [ecs2]; exact lofp_mid.mpr (.inr z))
  have cas : ∀ (l : Nat) (t : Sl), ((env.set i (.ow (loT n al (cs.set j (.ob a1 dx fa))))).set k (.v (.ref a1)))[l]? = some t → (l = k ∧ t = .v (.ref a1)) ∨ (l = i ∧ l ≠ k ∧ t = .ow (loT n al (cs.set j (.ob a1 dx fa)))) ∨ (l ≠ i ∧ l ≠ k ∧ env[l]? = some t) := fun l t e => by
    rcases set_get e with ⟨rfl, rfl⟩ | ⟨ne, e⟩
    · exact .inl ⟨rfl, rfl⟩
    · rcases set_get e with ⟨rfl, rfl⟩ | ⟨ne2, e⟩
      · exact .inr (.inl ⟨rfl, Ne.symm ne, rfl⟩)
      · exact .inr (.inr ⟨Ne.symm ne2, Ne.symm ne, e⟩)
  refine st.regroup (by rw [List.length_set, List.length_set]; exact hl) (fun l t e => ?_) (fun l1' l2' t u b e1 e2 ht hu => ?_) fun b ⟨l, t, e, hb⟩ => ?_
  · rcases cas l t e with ⟨rfl, rfl⟩ | ⟨rfl, _, rfl⟩ | ⟨_, _, e⟩
    · exact hv'
    · refine ⟨_, hv, rfl, by rw [eids]; exact h2, ?_, fun c hc2 => ?_⟩
      · rw [fpl]
        exact lofp_nd.mpr ⟨ndo, by rw [← ecs2]; exact h3, fun b hb => by rw [← ecs2]; exact disj b hb⟩
      · rw [hset] at hc2
        rcases List.mem_append.mp hc2 with z | z
        · exact h4 c (by rw [ecs]; exact List.mem_append_left _ z)
        · rcases List.mem_cons.mp z with rfl | z
          · exact hob
          · exact h4 c (by rw [ecs]; exact List.mem_append_right _ (List.mem_cons_of_mem _ z))
    · exact st.sl l t e
  · have oth : ∀ l t, l ≠ i → l ≠ k → env[l]? = some t → b ∈ t.fp → b ∉ lofp al (cs.set j (.ob a1 dx fa)) := fun l t n1 n2 e h1 h2 => by
      rcases mem b h2 with z | z
      · exact n2 (st.nd l k t _ b e hk h1 z)
      · exact n1 (st.nd l i t _ b e he h1 z)
    rcases cas l1' t e1 with ⟨rfl, rfl⟩ | ⟨rfl, c2, rfl⟩ | ⟨c1, c2, c3⟩
    · cases ht
    · rcases cas l2' u e2 with ⟨rfl, rfl⟩ | ⟨rfl, d2, rfl⟩ | ⟨d1, d2, d3⟩
      · cases hu
      · rfl
      · exact (oth l2' u d1 d2 d3 hu ht).elim
    · rcases cas l2' u e2 with ⟨rfl, rfl⟩ | ⟨rfl, d2, rfl⟩ | ⟨d1, d2, d3⟩
      · cases hu
      · exact (oth l1' t c1 c2 c3 ht hu).elim
      · exact st.nd l1' l2' t u b c3 d3 ht hu
  · rcases cas l t e with ⟨rfl, rfl⟩ | ⟨rfl, _, rfl⟩ | ⟨_, _, e⟩
    · cases hb
    · rcases mem b hb with z | z
      · exact ⟨k, _, hk, z⟩
      · exact ⟨l, _, he, z⟩
    · exact ⟨l, t, e, hb⟩
end
end TL
namespace TL
open PySem PySem.Spec PyProof.Rows L2
/-- the j-th of l, by a number -/
def takeM {α : Type} (l : List α) (kd : PyData) (K : Nat → α → Prop) : Prop := ∃ (n : Int) (j : Nat) (w : α), kd = .int n ∧ ixN l.length n = some j ∧ l[j]? = some w ∧ K j w
theorem takeM_m {α : Type} {l : List α} {kd : PyData} {K K' : Nat → α → Prop} (h : takeM l kd K) (k : ∀ j w, K j w → K' j w) : takeM l kd K' := by
  obtain ⟨n, j, w, h1, h2, h3, h4⟩ := h
  exact ⟨n, j, w, h1, h2, h3, k j w h4⟩
theorem q_take {α : Type} {l : List α} {n : Int} {j : Nat} {w : α} {K : Nat → α → Prop} (h1 : ixN l.length n = some j) (h2 : l[j]? = some w) : takeM l (.int n) K = K j w := by
  refine propext ⟨fun ⟨n', j', w', e1, e2, e3, h⟩ => ?_, fun h => ⟨n, j, w, rfl, h1, h2, h⟩⟩
  cases e1
  rw [h1] at e2
  cases e2
  rw [h2] at e3
  cases e3
  exact h
section
variable {X : Cx} {g : G} {env env' : List Sl} {Ψ : Exc → Prop} {P : Po} {pos p apos q lp : Pos} {a b c e e1 ex o : Expr} {es : List Expr} {rest body orelse : List Stmt} {K : Frag} {F F' F1 F2 H H' H1 H2 : Hp} {σ σ' : SS} {s s' : Sl} {v : V} {x kd : PyData} {n m xn : Str} {fs : List (Str × OF)} {α : Type} {l : List α} {fw : α → List (Str × OF)}
theorem isl_get {cs : List LC} {j : Nat} {w : α} (h : cs.map LC.view = (l.map fw).map some) (hj : l[j]? = some w) : ∃ a dx fa, cs[j]? = some (.ob a dx fa) ∧ fw w = fa.map fun p => (p.1, p.2.of) := by
  have e : (cs.map LC.view)[j]? = some (some (fw w)) := by rw [h, List.getElem?_map, List.getElem?_map, hj]; rfl
  rw [List.getElem?_map] at e
  obtain ⟨c, h1, h2⟩ := Option.map_eq_some_iff.mp e
  cases c with
  | hole a => cases h2
  | ob a dx fa => exact ⟨a, dx, fa, h1, (Option.some.inj h2).symm⟩
theorem isl_len {cs : List LC} (h : cs.map LC.view = (l.map fw).map some) : cs.length = l.length := by
  have := congrArg List.length h
  simpa using this
/-- the last slot goes to another -/
theorem st_move {k : Nat} {t : Sl} (st : St K g F H (σ ++ [some v]) (env ++ [t])) (hl : σ.length = env.length) (hk : k < env.length) : St K g F H (σ.set k (some v)) (env.set k t) := by
  have up : ∀ (j : Nat) (u : Sl), env[j]? = some u → (env ++ [t])[j]? = some u := fun j u e => by rw [List.getElem?_append_left (List.getElem?_eq_some_iff.mp e).1]; exact e
  have last : (env ++ [t])[env.length]? = some t := by rw [List.getElem?_append_right (by omega), Nat.sub_self]; rfl
  refine st.regroup (by rw [List.length_set, List.length_set]; exact hl) (fun j u e => ?_) (fun i j u w b e1 e2 h1 h2 => ?_) fun b ⟨j, u, e, hb⟩ => ?_
  · rw [getD_set (by rw [hl]; exact hk)]
    rcases set_get e with ⟨rfl, rfl⟩ | ⟨ne, e⟩
    · rw [if_pos rfl]
      have q := st.sl _ _ last
      rw [List.getElem?_append_right (by omega), hl, Nat.sub_self] at q
      exact q
    · rw [if_neg ne]
      have q := st.sl j u (up j u e)
      rw [List.getElem?_append_left (by rw [hl]; exact (List.getElem?_eq_some_iff.mp e).1)] at q
      exact q
  · rcases set_get e1 with ⟨rfl, rfl⟩ | ⟨n1, f1⟩ <;> rcases set_get e2 with ⟨rfl, rfl⟩ | ⟨n2, f2⟩
    · rfl
    · have := st.nd _ _ _ _ b last (up _ _ f2) h1 h2
      have := (List.getElem?_eq_some_iff.mp f2).1
      omega
    · have := st.nd _ _ _ _ b last (up _ _ f1) h2 h1
      have := (List.getElem?_eq_some_iff.mp f1).1
      omega
    · exact st.nd _ _ _ _ b (up _ _ f1) (up _ _ f2) h1 h2
  · rcases set_get e with ⟨rfl, rfl⟩ | ⟨ne, e⟩
    · exact ⟨_, _, last, hb⟩
    · exact ⟨j, u, up j u e, hb⟩
/-- a list of objects, read at a number -/
theorem lo_read {i : Nat} (st : St K g F H σ env) (he : env[i]? = some s) (hn : IsL n (l.map fw) s) {z : Int} {j : Nat} {w : α} (h1 : ixN l.length z = some j) (h2 : l[j]? = some w) :
    ∃ al cs a dx fa, s = .ow (loT n al cs) ∧ cs.map LC.view = (l.map fw).map some ∧ σ[i]?.getD none = some (.ref al) ∧ cs[j]? = some (.ob a dx fa) ∧ fw w = (fa.map fun p => (p.1, p.2.of)) ∧ SqL K H al (cs.map fun c => V.ref c.id) ∧ atI (cs.map fun c => V.ref c.id) z = some (.ref a) := by
  obtain ⟨al, cs, rfl, hv⟩ := hn
  obtain ⟨v, hs, rfl, k2, k3, k4⟩ := st.sl i _ he
  obtain ⟨a, dx, fa, hc, hf⟩ := isl_get hv h2
  refine ⟨al, cs, a, dx, fa, rfl, hv, hs, hc, hf, SqL.of k2, ?_⟩
  unfold atI
  rw [List.length_map, isl_len hv, h1]
  show (cs.map fun c => V.ref c.id)[j]? = _
  rw [List.getElem?_map, hc]; rfl
/-- y = xs[e]: the object is the name's meanwhile -/
theorem w1_take (i k : Nat) {xs y : Str} {px py spos : Pos} (hN : X.N.Nodup) (hn : IsL n (l.map fw) s) (nM : ∀ b ∈ s.fp, b ∉ g.M)
    (h : WE X g a env (fun kd _ => takeM l kd fun j w => ∀ s1 s2 q, IsLH n (l.map fw) j q s1 → IsOb n (fw w) s2 → oid s2 = some q → (∀ b ∈ s1.fp, b ∉ g.M) → (∀ b ∈ s2.fp, b ∉ g.M) → P.nx ((env.set i s1).set k s2)) (fun c => P.ex c env))
    (he : env[i]? = some s := by rfl) (hlt : Nat.blt k env.length = true := by rfl) (hi : X.N[i]? = some xs := by rfl) (hk : X.N[k]? = some y := by rfl)
    (hv : Vis X.env.scope xs := by first | exact Or.inl rfl | exact Or.inr (Or.inl rfl) | exact Or.inr (Or.inr rfl)) (hd : (xs == ("__debug__" : Str)) = false := by decide) (hcd : (xs == ("__classdict__" : Str)) = false := by decide) (hpx : PlainIx a := by exact fun _ _ => rfl)
    (hx : Loc X.env.scope y := by first | exact Or.inl rfl | exact Or.inr rfl) (hs : swapsWith (.Subscript (.Name xs px) a spos) (some (.Name y py)) pos.line X.env = pure false := by rfl) (hf : X.fn y = true ∨ X.env.scope.names.lookup y = some .local := by first | exact .inl rfl | exact .inr rfl) :
    W1 X g (.Assign [.Name y py] (.Subscript (.Name xs px) a spos) pos) env P := fun W tk hx2 σ F H s0 D hD => by
  refine semP_of (ps_set hN hk hx (pe_ix ix_seq (pe_var hi hv hd hcd) (peS a) hpx) hs hf) ?_
  obtain ⟨v0, hv0⟩ := slok_val (s0.sl i _ he) hn.ne
  refine ⟨v0, getD_some hv0, ?_⟩
  refine h W tk σ F H s0 (hx2.hx env σ) _ fun kd z v F1 H1 ht st1 ex1 r1 => ?_
  obtain ⟨n1, j, w, rfl, h1, h2, hp⟩ := ht
  obtain ⟨al, cs, a1, dx, fa, rfl, hv, hs1, hc, hfw, sq, hat⟩ := lo_read st1 he hn h1 h2
  rw [hv0] at hs1
  refine rix_seq (Option.some.inj hs1) (rd_int r1) (.inl sq) hat ?_
  have s2 := st_out st1 he hc
  have s3 := st_move s2 (by rw [List.length_set]; exact st1.len) (k := k) (by rw [List.length_set]; exact ltB hlt)
  obtain ⟨l1, l2, ecs, hlj, hset⟩ := lc_split hc
  have fpm : ∀ b ∈ (Sl.ow (loT n al (cs.set j (.hole a1)))).fp, b ∈ (Sl.ow (loT n al cs)).fp := fun b hb => by
    have hb : b ∈ lofp al (cs.set j (.hole a1)) := hb
    rw [hset] at hb
    show b ∈ lofp al cs
    rw [ecs]
    rcases lofp_mid.mp hb with z | z
    · cases z
    · exact lofp_mid.mpr (.inr z)
  have fpo : ∀ b ∈ (Sl.ow (obT n a1 dx fa)).fp, b ∈ (Sl.ow (loT n al cs)).fp := fun b hb => by
    show b ∈ lofp al cs
    rw [ecs]; exact lofp_mid.mpr (.inl hb)
  refine hD.nx _ _ F1 H1 (hp _ _ a1 ⟨al, _, rfl, ?_, ?_⟩ ⟨a1, dx, fa, rfl, hfw⟩ rfl (fun b hb => nM b (fpm b hb)) fun b hb => nM b (fpo b hb)) s3 ex1
  · rw [List.map_set, hv]; rfl
  · have hjl : j < cs.length := (List.getElem?_eq_some_iff.mp hc).1
    rw [List.getElem?_set_self hjl]
theorem oid_ob {n : Str} {fs : List (Str × OF)} {s : Sl} {q : Addr} (h : IsOb n fs s) (e : oid s = some q) : ∃ dx fa, s = .ow (obT n q dx fa) ∧ fs = fa.map fun p => (p.1, p.2.of) := by
  obtain ⟨a, dx, fa, rfl, hf⟩ := h
  cases e
  exact ⟨dx, fa, rfl, hf⟩
theorem isl_put {cs : List LC} {j : Nat} {q dx : Addr} {fa : List (Str × OA)} {w : α} (hv : cs.map LC.view = ((l.map fw).map some).set j none) (hc : cs[j]? = some (.hole q)) (hf : fw w = fa.map fun p => (p.1, p.2.of)) : (cs.set j (.ob q dx fa)).map LC.view = ((l.set j w).map fw).map some := by
  rw [List.map_set, hv, List.set_set, List.map_set, List.map_set]
  show _ = ((l.map fw).map some).set j (some (fw w))
  rw [hf]; rfl
/-- the object goes back into the list -/
theorem ws_give (i k : Nat) {j : Nat} {q : Addr} {s1 s2 : Sl} {w : α} (hn : IsLH n (l.map fw) j q s1) (ho : IsOb n (fw w) s2) (hid : oid s2 = some q) (n1 : ∀ b ∈ s1.fp, b ∉ g.M) (n2 : ∀ b ∈ s2.fp, b ∉ g.M)
    (h : ∀ s3, IsL n ((l.set j w).map fw) s3 → (∀ b ∈ s3.fp, b ∉ g.M) → WS X g rest ((env.set i s3).set k .un) P) (he : env[i]? = some s1 := by rfl) (hk : env[k]? = some s2 := by rfl) (hik : k ≠ i := by decide) : WS X g rest env P := fun W tk hx σ F H st D hD => by
  obtain ⟨al, cs, rfl, hv, hc⟩ := hn
  obtain ⟨dx, fa, rfl, hf⟩ := oid_ob ho hid
  have s2 := st_in st he hc hk hik
  have hkl : k < env.length := (List.getElem?_eq_some_iff.mp hk).1
  have s3 := s2.weak (i := k) (s := .v (.ref q)) (s' := .un) (by rw [List.getElem?_set_self (by rw [List.length_set]; exact hkl)]) (fun _ z => by cases z) fun _ => trivial
  rw [List.set_set] at s3
  obtain ⟨l1, l2, ecs, hlj, hset⟩ := lc_split hc
  refine h _ ⟨al, _, rfl, isl_put hv hc hf⟩ (fun b hb => ?_) W tk hx σ F H s3 D hD
  have hb : b ∈ lofp al (cs.set j (.ob q dx fa)) := hb
  rw [hset] at hb
  rcases lofp_mid.mp hb with z | z
  · exact n2 b z
  · refine n1 b ?_
    show b ∈ lofp al cs
    rw [ecs]; exact lofp_mid.mpr (.inr z)
/-- len(xs) -/
theorem we_lenLo (i : Nat) {xs : Str} {q : Pos} {Φ : PyData → Bool → Prop} (hn : IsL n (l.map fw) s) (hm : X.mg "len" = none) (h : Φ (.int (l.length : Nat)) true) (he : env[i]? = some s := by rfl) (hN : X.N[i]? = some xs := by rfl)
    (hv : Vis X.env.scope xs := by first | exact Or.inl rfl | exact Or.inr (Or.inl rfl) | exact Or.inr (Or.inr rfl)) (hd : (xs == ("__debug__" : Str)) = false := by decide)
    (hcd : (xs == ("__classdict__" : Str)) = false := by decide) (hg : Gl X "len" := by rfl)
    (he1 : starEach [Expr.Name xs q] X.env = (false, eval (Expr.Name xs q) X.env) :: starEach [] X.env := by rfl)
    (hp1 : (backTo pos (starEach ([] : List Expr) X.env)).any (·.1) = false := by rfl) : WE X g (.Call (.Name "len" p) [.Name xs q] [] pos) env Φ Ψ := fun W tk σ F H st hx Q hQ => by
  refine semE_of (pe_callB call_len hg hm PySem.boot_len (pa_cons (pe_var hN hv hd hcd) pa_nil he1) (by decide) (by decide) he1 hp1) ?_
  obtain ⟨al, cs, rfl, hvw⟩ := hn
  obtain ⟨v, hs, rfl, k2, k3, k4⟩ := st.sl i _ he
  refine ⟨_, getD_some hs, ?_⟩
  exact ⟨_, l.length, rfl, .inl ⟨_, SqL.of k2, by rw [List.length_map]; exact (isl_len hvw).symm⟩, hQ _ true _ F H h st (Ex.refl F) (.int _)⟩
/-- [e], e a new object -/
theorem wo_lst1 {Φ : Sl → Prop} (h : WO X g e1 env (fun s => ∃ w : α, IsOb n (fw w) s ∧ ∀ s', IsL n ([w].map fw) s' → Φ s') Ψ) (he1 : starEach [e1] X.env = (false, eval e1 X.env) :: starEach [] X.env := by rfl) : WO X g (.List [e1] pos) env Φ Ψ := fun W tk σ F H st hx Q hQ => by
  refine semE_of (pe_lst (pa_cons (peS e1) pa_nil he1)) ?_
  refine h W tk σ F H st hx _ fun s v F1 H1 ⟨w, hn, hp⟩ s1 ex1 n1 => ?_
  obtain ⟨a, dx, fa, rfl, hf⟩ := hn
  obtain ⟨⟨v', ev, hok⟩, h2⟩ := n1
  cases ev
  have ev := hok.1
  subst ev
  refine ⟨Nat.le_of_ble_eq_true (by rw [sizeLine_eq]; rfl), fun p hn => ?_⟩
  have hne : ∀ b ∈ (obT n a dx fa).fp, b ≠ p := fun b hb z => by
    obtain ⟨u, hu, _⟩ := (obT n a dx fa).there hok b hb
    rw [z, hn] at hu; cases hu
  have nd := ob_nd hok
  refine hQ (.ow (loT n p [.ob a dx fa])) (.ref p) F1 _ (hp _ ⟨p, _, rfl, by rw [List.map_cons, List.map_nil, List.map_cons, List.map_nil, List.map_cons, List.map_nil, hf]; rfl⟩) (s1.alloc hn) ex1 ⟨⟨_, rfl, rfl, upd_same, ?_, fun c hc => ?_⟩, fun b hb => ?_⟩
  · show (p :: ([LC.ob a dx fa].flatMap LC.fp)).Nodup
    rw [List.flatMap_cons, List.flatMap_nil, List.append_nil]
    exact List.nodup_cons.mpr ⟨fun z => hne p z rfl, nd⟩
  · rw [List.mem_singleton.mp hc]
    exact (obT n a dx fa).mono (Ex.refl F1) (fun b hb u z => by rw [upd_ne (hne b hb)]; exact z) hok
  · have hb : b ∈ p :: ([LC.ob a dx fa].flatMap LC.fp) := hb
    rw [List.flatMap_cons, List.flatMap_nil, List.append_nil] at hb
    rcases List.mem_cons.mp hb with rfl | hb
    · exact ⟨s1.ex.none hn, s1.toSk.notown hn, s1.h0 hn⟩
    · exact h2 b hb
/-- xs.append(e), e a new object -/
theorem w1_appLo (i : Nat) {xs : Str} {q apos cpos : Pos} (hn : IsL n (l.map fw) s) (nM : ∀ b ∈ s.fp, b ∉ g.M)
    (h : WO X g e env (fun t => ∃ w, IsOb n (fw w) t ∧ l.length < sizeLine ∧ ∀ s', IsL n ((l ++ [w]).map fw) s' → (∀ b ∈ s'.fp, b ∉ g.M) → P.nx (env.set i s')) (fun c => P.ex c env)) (he : env[i]? = some s := by rfl) (hN : X.N[i]? = some xs := by rfl)
    (hv : Vis X.env.scope xs := by first | exact Or.inl rfl | exact Or.inr (Or.inl rfl) | exact Or.inr (Or.inr rfl)) (hd : (xs == ("__debug__" : Str)) = false := by decide)
    (hcd : (xs == ("__classdict__" : Str)) = false := by decide)
    (hbase : attributeBase (.Name xs q) "append" X.env (eval (.Name xs q) X.env) = eval (.Name xs q) X.env := by rfl)
    (hfew : ((backTo cpos (starEach [e] X.env)).all (fun x => !x.1) && (backToKw cpos (keywordEach [] X.env)).all (fun x => x.1.isSome)
      && decide ([e].length + ([] : List Keyword).length + (if ([] : List Keyword).isEmpty then 0 else 1) < 30)) = true := by rfl)
    (hline : (apos.endLine == cpos.line) = true := by rfl) (hs1 : starEach [e] X.env = (false, eval e X.env) :: starEach [] X.env := by rfl) (hplain : (backTo cpos (starEach ([] : List Expr) X.env)).any (·.1) = false := by rfl)
    (hs : swapsWith (.Call (.Attribute (.Name xs q) "append" apos) [e] [] cpos) none pos.line X.env = pure false := by rfl) :
    W1 X g (.Expr (.Call (.Attribute (.Name xs q) "append" apos) [e] [] cpos) pos) env P := fun W tk hx2 σ F H s0 D hD => by
  obtain ⟨al, cs, rfl, hvw⟩ := hn
  refine semP_of (ps_expr (pe_bm PySem.F.plainAttrs_list PySem.F.slot_list_append PySem.F.type_list_append mt_append (pe_var hN hv hd hcd) (pa_cons (peS e) pa_nil hs1) hbase hfew hline hs1 hplain) hs) ?_
  obtain ⟨v0, hs0, rfl, k2, k3, k4⟩ := s0.sl i _ he
  refine ⟨_, getD_some hs0, .inl ⟨rfl, _, SqL.of k2⟩, ?_⟩
  refine h W tk σ F H s0 (hx2.hx env σ) _ fun t v F' H' ⟨w, ho, hlen, hp⟩ s' e' ⟨hok, hnew⟩ => ?_
  obtain ⟨a, dx, fa, rfl, hf⟩ := ho
  obtain ⟨v', ev, hob⟩ := hok
  cases ev
  have ev := hob.1
  subst ev
  obtain ⟨v0', hs1', ev0, j2, j3, j4⟩ := s'.sl i _ he
  subst ev0
  have own : ∀ b ∈ lofp al cs, Own env b := fun b hb => ⟨i, _, he, hb⟩
  have ndo := ob_nd hob
  have disj : ∀ b ∈ (LC.ob a dx fa).fp, b ∉ lofp al cs := fun b hb z => (hnew b hb).2.1 (own b z)
  have efp : lofp al (cs ++ [.ob a dx fa]) = lofp al cs ++ (LC.ob a dx fa).fp := by
    unfold lofp
    rw [List.flatMap_append, List.flatMap_cons, List.flatMap_nil, List.append_nil, List.cons_append]
  have hal : al ∈ lofp al cs := List.mem_cons_self ..
  have fpm : ∀ b ∈ (Sl.ow (loT n al (cs ++ [.ob a dx fa]))).fp, b ∈ lofp al cs ∨ b ∈ (LC.ob a dx fa).fp := fun b hb => by
    have hb : b ∈ lofp al (cs ++ [.ob a dx fa]) := hb
    rw [efp] at hb
    exact List.mem_append.mp hb
  refine ⟨al, _, .ref a, rfl, rfl, j2, by rw [List.length_map, isl_len hvw]; exact hlen, ?_⟩
  have keep : ∀ b, b ≠ al → ∀ u, H' b = some u → upd H' al (.lst (cs.map (fun c => V.ref c.id) ++ [.ref a])) b = some u := fun b hb u z => by rw [upd_ne hb]; exact z
  refine hD.nx _ _ F' _ (hp (.ow (loT n al (cs ++ [.ob a dx fa]))) ⟨al, _, rfl, by rw [List.map_append, List.map_append, List.map_append, hvw, List.map_cons, List.map_nil, List.map_cons, List.map_nil, List.map_cons, List.map_nil, hf]; rfl⟩ fun b hb => ?_) (s'.writeG he (s' := .ow (loT n al (cs ++ [.ob a dx fa]))) hal (fun b hb => ?_) ⟨_, hs1', rfl, by rw [upd_same, List.map_append]; rfl, ?_, fun c hc => ?_⟩) e'
  · rcases fpm b hb with z | z
    · exact nM b z
    · exact fun m => s'.g6 b m (hnew b z).2.2
  · rcases fpm b hb with z | z
    · exact .inl z
    · exact .inr (hnew b z)
  · rw [efp]
    exact List.nodup_append.mpr ⟨j3, ndo, fun b hb d hd z => disj d hd (z ▸ hb)⟩
  · rcases List.mem_append.mp hc with z | z
    · cases c with
      | hole _ => trivial
      | ob a2 dx2 fa2 =>
        refine (obT n a2 dx2 fa2).mono (Ex.refl F') (fun b hb u y => keep b (fun q => ?_) u y) (j4 _ z)
        have : al ∉ cs.flatMap LC.fp := (List.nodup_cons.mp j3).1
        exact this (List.mem_flatMap.mpr ⟨_, z, q ▸ hb⟩)
    · rw [List.mem_singleton.mp z]
      exact (obT n a dx fa).mono (Ex.refl F') (fun b hb u y => keep b (fun q => disj b hb (q ▸ hal)) u y) hob
theorem meth0 {j : Nat} {ps : List Str} {S : CT} {Φ : PR → Prop} {al : Addr} {E : List Sl} {f : Addr} {fd : FuncData} (F0 : FnOk X.prog X.w X.K X.mg X.base (L2.CX X.prog X.w) j f fd ps (spOf X.K ps.length S)) {W : WX}
    (st : St X.K g F H (σ ++ [some (.ref al)]) (E ++ [s])) (hl : σ.length = E.length) (hp1 : ps.length = 1) (hn : IsOb n fs s) (hid : oid s = some al) (hml : fs.lookup m = none) (hS : S [s] (fun r args' => args' = [s] ∧ Φ r) (fun c args' => args' = [s] ∧ Ψ c))
    (hx : ∀ c F' H', Ψ c → St X.K g F' H' (σ ++ [some (.ref al)]) (E ++ [s]) → ExcE X.K (L2.WE W σ) H' c) {Q : VK}
    (hQ : ∀ r v F' H', Φ r → St X.K g F' H' (σ ++ [some (.ref al)]) (E ++ [s]) → Ex F F' → PrOk X.K [.ref al] H F' H' [s] v r → Q v H') : ∃ a dx fs', V.ref al = .ref a ∧ H a = some (.ins (He.ga X.K n) dx fs') ∧ fs'.lookup m = none ∧ tNil σ H fun vs H2 => spOf X.K ps.length S (.ref al :: vs) H2 Q (L2.WE W σ) := by
  obtain ⟨dx, fa, rfl, hf⟩ := oid_ob hn hid
  have last : (E ++ [Sl.ow (obT n al dx fa)])[E.length]? = some (.ow (obT n al dx fa)) := by rw [List.getElem?_append_right (by omega), Nat.sub_self]; rfl
  obtain ⟨v, hv, rfl, ik, nd, hdx, vs0, ha, hok⟩ := st.sl _ _ last
  have hlast : (σ ++ [some (V.ref al)])[E.length]? = some (some (.ref al)) := by rw [List.getElem?_append_right (by omega), hl, Nat.sub_self]; rfl
  refine ⟨al, dx, vs0, rfl, ha, fok_nolook hok (by
    rw [hf, look_of] at hml
    exact Option.map_eq_none_iff.mp hml), ?_⟩
  have ra : ArAll X.K F (σ ++ [some (V.ref al)]) [.ref al] [.s E.length] := ⟨hlast, trivial⟩
  have eargs : ([Ar.s E.length]).map (slOf (E ++ [Sl.ow (obT n al dx fa)])) = [.ow (obT n al dx fa)] := by
    show [(E ++ [Sl.ow (obT n al dx fa)])[E.length]?.getD .un] = _
    rw [last]; rfl
  have skc := st.toSk.callee ra (by show [E.length].Nodup; simp) (fun l hl2 => by
    have : l = E.length := by simpa [arIx] using hl2
    rw [List.length_append]; simp [this])
  rw [eargs] at skc
  refine ⟨by show 1 = _; rw [hp1], F, _, _, _, hS, skc, fun r v args' F' H' ⟨ea, hp⟩ sk hst ho pr => ?_, fun c args' F' H' ⟨ea, hp⟩ sk hst ho => ?_⟩
  · subst ea
    exact hQ r v F' H' hp (st_same st ra sk (by rw [eargs]; exact hst) eargs.symm) hst.1 pr
  · subst ea
    exact hx c F' H' hp (st_same st ra sk (by rw [eargs]; exact hst) eargs.symm)
end
end TL
namespace TL
open PySem PySem.Spec PyProof.Rows L2
section
variable {X : Cx} {g : G} {env env' : List Sl} {Ψ : Exc → Prop} {P : Po} {pos p apos q lp spos px : Pos} {a b c e e1 ex o : Expr} {es : List Expr} {rest body orelse : List Stmt} {K : Frag} {F F' F1 F2 H H' H1 H2 : Hp} {σ σ' : SS} {s s' : Sl} {v : V} {x kd : PyData} {n m xs : Str} {fs : List (Str × OF)} {α : Type} {l : List α} {fw : α → List (Str × OF)}
theorem set_setL {α : Type} {l : List α} {j : Nat} {a b : α} (h : l[j]? = some a) : (l.set j b).set j a = l := by
  rw [List.set_set]
  obtain ⟨hj, e⟩ := List.getElem?_eq_some_iff.mp h
  rw [← e, List.set_getElem_self]
/-- what was out is in again -/
theorem lo_back {i j : Nat} {al a1 dx : Addr} {fa : List (Str × OA)} {cs : List LC} (st : St K g F H (σ ++ [some (.ref a1)]) (env.set i (.ow (loT n al (cs.set j (.hole a1)))) ++ [.ow (obT n a1 dx fa)])) (he : env[i]? = some (.ow (loT n al cs))) (hc : cs[j]? = some (.ob a1 dx fa)) (hl : σ.length = env.length) : St K g F H σ env := by
  have hil : i < env.length := (List.getElem?_eq_some_iff.mp he).1
  have hjl : j < cs.length := (List.getElem?_eq_some_iff.mp hc).1
  have e1 : (env.set i (.ow (loT n al (cs.set j (.hole a1)))) ++ [Sl.ow (obT n a1 dx fa)])[i]? = some (.ow (loT n al (cs.set j (.hole a1)))) := by
    rw [List.getElem?_append_left (by rw [List.length_set]; exact hil), List.getElem?_set_self hil]
  have e2 : (env.set i (.ow (loT n al (cs.set j (.hole a1)))) ++ [Sl.ow (obT n a1 dx fa)])[env.length]? = some (.ow (obT n a1 dx fa)) := by
    rw [List.getElem?_append_right (by rw [List.length_set]; omega), List.length_set, Nat.sub_self]; rfl
  have s2 := st_in st e1 (j := j) (by rw [List.getElem?_set_self hjl]) e2 (by omega)
  rw [set_setL hc, List.set_append_left _ _ (by rw [List.length_set]; exact hil), set_setL he, List.set_append_right _ _ (by omega), Nat.sub_self] at s2
  exact s2.pop hl
/-- xs[e].m() -/
theorem lo_run (i : Nat) {j k : Nat} {ps : List Str} {S : CT} {Φ : PR → Prop} (mc : MCall X ex (.Subscript (.Name xs px) a spos) m []) (hf : HasM X.prog X.w X.K X.mg X.base j n m ps S) (ik : InsK X.K n) (hr : Room k X.A) (hn : IsL n (l.map fw) s)
    (h : WE X g a env (fun kd _ => takeM l kd fun jn w => ps.length = 1 ∧ (fw w).lookup m = none ∧ ∀ s0, IsOb n (fw w) s0 → S [s0] (fun r args' => args' = [s0] ∧ Φ r) (fun c args' => args' = [s0] ∧ Ψ c)) Ψ)
    (hj : j ≤ k) (he : env[i]? = some s) (hN : X.N[i]? = some xs) (hv : Vis X.env.scope xs) (hd : (xs == ("__debug__" : Str)) = false) (hcd : (xs == ("__classdict__" : Str)) = false) (hpx : PlainIx a)
    {W : WX} (tk : Takes X W) (st : St X.K g F H σ env) (hx : HX X g env Ψ W σ) {Q : VK}
    (hQ : ∀ r v al s0 F1 H1 F' H', Φ r → St X.K g F1 H1 σ env → St X.K g F' H' σ env → Ex F F' → PrOk X.K [.ref al] H1 F' H' [s0] v r → Q v H') : semE X ex σ H Q := by
  obtain ⟨f, fd, hm, hb, F0⟩ := hf.ex
  refine semE_of (mc.pe (pe_ix ix_seq (pe_var hN hv hd hcd) (peS a) hpx) ik.cls hm F0 (hr.mono hj) hb (fun σ => passAt tk σ)) ?_
  obtain ⟨v0, hv0⟩ := slok_val (st.sl i _ he) hn.ne
  refine ⟨v0, getD_some hv0, ?_⟩
  refine h W tk σ F H st hx _ fun kd z v F1 H1 ht st1 ex1 r1 => ?_
  obtain ⟨n1, jn, w, rfl, h1, h2, hps, hml, hS⟩ := ht
  obtain ⟨al, cs, a1, dx, fa, rfl, hvw, hs1, hc, hfw, sq, hat⟩ := lo_read st1 he hn h1 h2
  rw [hv0] at hs1
  refine rix_seq (Option.some.inj hs1) (rd_int r1) (.inl sq) hat ?_
  have s2 := st_out st1 he hc
  refine meth0 (Φ := Φ) F0 s2 (by rw [List.length_set]; exact st1.len) hps ⟨a1, dx, fa, rfl, hfw⟩ rfl hml (hS _ ⟨a1, dx, fa, rfl, hfw⟩) (fun c F' H' hc2 s3 => ?_) fun r v F' H' hp s3 e3 pr => ?_
  · have := hx c F' H' hc2 (lo_back s3 he hc st1.len)
    cases c <;> exact this
  · exact hQ r v a1 _ F1 H1 F' H' hp st1 (lo_back s3 he hc st1.len) (ex1.trans e3) pr
theorem we_methLo (i : Nat) {j k : Nat} {ps : List Str} {S : CT} {Φ : PyData → Bool → Prop} (mc : MCall X ex (.Subscript (.Name xs px) a spos) m []) (hf : HasM X.prog X.w X.K X.mg X.base j n m ps S) (ik : InsK X.K n) (hr : Room k X.A) (hn : IsL n (l.map fw) s)
    (h : WE X g a env (fun kd _ => takeM l kd fun jn w => ps.length = 1 ∧ (fw w).lookup m = none ∧ ∀ s0, IsOb n (fw w) s0 → S [s0] (fun r args' => args' = [s0] ∧ ∃ d, PRd r d ∧ Φ d true) (fun c args' => args' = [s0] ∧ Ψ c)) Ψ)
    (hj : j ≤ k := by omega) (he : env[i]? = some s := by rfl) (hN : X.N[i]? = some xs := by rfl) (hv : Vis X.env.scope xs := by first | exact Or.inl rfl | exact Or.inr (Or.inl rfl) | exact Or.inr (Or.inr rfl)) (hd : (xs == ("__debug__" : Str)) = false := by decide) (hcd : (xs == ("__classdict__" : Str)) = false := by decide) (hpx : PlainIx a := by exact fun _ _ => rfl) : WE X g ex env Φ Ψ := fun W tk σ F H st hx Q hQ => by
  refine lo_run (Φ := fun r => ∃ d, PRd r d ∧ Φ d true) i mc hf ik hr hn h hj he hN hv hd hcd hpx tk st hx fun r v al s0 F1 H1 F' H' ⟨d, hpr, hp⟩ s1 s2 e2 pr => ?_
  obtain ⟨F'', s3, e3, hq⟩ := pr_data hpr s2 s1 (fun b hb _ z => s1.there z hb) pr
  exact hQ d true v F'' H' hp s3 (e2.trans e3) hq
theorem wo_methLo (i : Nat) {j k : Nat} {ps : List Str} {S : CT} {Φ : Sl → Prop} (mc : MCall X ex (.Subscript (.Name xs px) a spos) m []) (hf : HasM X.prog X.w X.K X.mg X.base j n m ps S) (ik : InsK X.K n) (hr : Room k X.A) (hn : IsL n (l.map fw) s)
    (h : WE X g a env (fun kd _ => takeM l kd fun jn w => ps.length = 1 ∧ (fw w).lookup m = none ∧ ∀ s0, IsOb n (fw w) s0 → S [s0] (fun r args' => args' = [s0] ∧ ∃ C, r = .sl C ∧ ∀ t, C t → Φ t) (fun c args' => args' = [s0] ∧ Ψ c)) Ψ)
    (hj : j ≤ k := by omega) (he : env[i]? = some s := by rfl) (hN : X.N[i]? = some xs := by rfl) (hv : Vis X.env.scope xs := by first | exact Or.inl rfl | exact Or.inr (Or.inl rfl) | exact Or.inr (Or.inr rfl)) (hd : (xs == ("__debug__" : Str)) = false := by decide) (hcd : (xs == ("__classdict__" : Str)) = false := by decide) (hpx : PlainIx a := by exact fun _ _ => rfl) : WO X g ex env Φ Ψ := fun W tk σ F H st hx Q hQ => by
  refine lo_run (Φ := fun r => ∃ C, r = .sl C ∧ ∀ t, C t → Φ t) i mc hf ik hr hn h hj he hN hv hd hcd hpx tk st hx fun r v al s0 F1 H1 F' H' ⟨C, er, hp⟩ s1 s2 e2 pr => ?_
  subst er
  obtain ⟨t, c1, c2, c3⟩ := pr
  exact hQ t v F' H' (hp t c1) s2 e2 ⟨c2, fun b hb => ⟨(c3 b hb).1, fun z => s1.there z (c3 b hb).2.1, s1.h0 (c3 b hb).2.1⟩⟩
/-- C(..).m(): the object is let go -/
theorem wn_methO {j k : Nat} {ps : List Str} {S : CT} {Φ : List PyData → Prop} (mc : MCall X ex o m []) (hf : HasM X.prog X.w X.K X.mg X.base j n m ps S) (ik : InsK X.K n) (hr : Room k X.A)
    (h : WO X g o env (fun s0 => ∃ fs, ps.length = 1 ∧ IsOb n fs s0 ∧ fs.lookup m = none ∧ S [s0] (fun r args' => args' = [s0] ∧ ∃ ds, r = .nl ds ∧ Φ ds) (fun c args' => args' = [s0] ∧ Ψ c)) Ψ) (hj : j ≤ k := by omega) : WN X g ex env Φ Ψ := fun W tk σ F H st hx Q hQ => by
  obtain ⟨f, fd, hm, hb, F0⟩ := hf.ex
  refine semE_of (mc.pe (peS o) ik.cls hm F0 (hr.mono hj) hb (fun σ => passAt tk σ)) ?_
  refine h W tk σ F H st hx _ fun s0 v F1 H1 ⟨fs, hps, hn, hml, hS⟩ s1 ex1 n1 => ?_
  obtain ⟨al, dx, fa, rfl, hfs⟩ := hn
  obtain ⟨⟨v', ev, hob⟩, hnew⟩ := n1
  cases ev
  have ev := hob.1
  subst ev
  have s2 := s1.push (v := .ref al) (s := .ow (obT n al dx fa)) ⟨_, rfl, hob⟩ hnew
  refine meth0 (Φ := fun r => ∃ ds, r = .nl ds ∧ Φ ds) F0 s2 s1.len hps ⟨al, dx, fa, rfl, hfs⟩ rfl hml hS (fun c F' H' hc2 s3 => ?_) fun r v F' H' ⟨ds, er, hp⟩ s3 e3 pr => ?_
  · have := hx c F' H' hc2 (s3.pop s1.len)
    cases c <;> exact this
  · subst er
    obtain ⟨q, us, rfl, h1, h2, h3, h4, h5⟩ := pr
    exact hQ ds (.ref q) F' H' hp (s3.pop s1.len) (ex1.trans e3) ⟨q, us, rfl, h1, h2, h3, fun z => s1.there z h4, s1.h0 h4⟩
end
section
variable {X : Cx} {g : G} {env env' : List Sl} {Ψ : Exc → Prop} {P : Po} {pos p lp : Pos} {a b c e e1 e2 : Expr} {es : List Expr} {rest body : List Stmt} {K : Frag} {F F' F1 F2 H H' H1 H2 : Hp} {σ σ' : SS} {s : Sl} {v : V} {x kd : PyData}
/-- x[k].pop(), what goes is let go -/
theorem w1_popRN (i : Nat) {xn : Str} {q apos cpos spos : Pos} (hn : IsNest x s) (nM : ∀ b ∈ s.fp, b ∉ g.M)
    (h : WE X g a env (fun kd _ => nestRow x kd fun l => popM l fun l' _ => nestSet (fun _ => l') x kd fun x' => ∀ s', IsNest x' s' → (∀ b ∈ s'.fp, b ∉ g.M) → P.nx (env.set i s')) (fun c => P.ex c env)) (he : env[i]? = some s := by rfl) (hN : X.N[i]? = some xn := by rfl)
    (hv : Vis X.env.scope xn := by first | exact Or.inl rfl | exact Or.inr (Or.inl rfl) | exact Or.inr (Or.inr rfl)) (hd : (xn == ("__debug__" : Str)) = false := by decide)
    (hcd : (xn == ("__classdict__" : Str)) = false := by decide) (hpx : PlainIx a := by exact fun _ _ => rfl)
    (hbase : attributeBase (.Subscript (.Name xn q) a spos) "pop" X.env (eval (.Subscript (.Name xn q) a spos) X.env) = eval (.Subscript (.Name xn q) a spos) X.env := by rfl)
    (hline : (apos.endLine == cpos.line) = true := by rfl)
    (hs : swapsWith (.Call (.Attribute (.Subscript (.Name xn q) a spos) "pop" apos) [] [] cpos) none pos.line X.env = pure false := by rfl) :
    W1 X g (.Expr (.Call (.Attribute (.Subscript (.Name xn q) a spos) "pop" apos) [] [] cpos) pos) env P := fun W tk hx2 σ F H s0 D hD => by
  refine semP_of (ps_expr (pe_bm0 PySem.F.plainAttrs_list PySem.F.slot_list_pop PySem.F.type_list_pop mt_pop (pe_ix ix_seq (pe_var hN hv hd hcd) (peS a) hpx) hbase hline) hs) ?_
  obtain ⟨v0, hv0⟩ := slok_val (s0.sl i _ he) hn.ne
  refine ⟨v0, getD_some hv0, ?_⟩
  refine h W tk σ F H s0 (hx2.hx env σ) _ fun kd z v F1 H1 hr s1 e1 r1 => ?_
  obtain ⟨n, rfl⟩ := nestRow_int hr
  obtain ⟨al, q, l, b7, bS⟩ := nest_row hn hr
  obtain ⟨items, us, b1, b3, b4, b5, b6, cW⟩ := bS s1 he
  rw [hv0] at b1
  obtain ⟨l', d, rfl, hp⟩ := b7
  obtain ⟨us', u, rfl, hd1, hd2⟩ := dpa_snoc b6
  refine rix_seq (Option.some.inj b1) (rd_int r1) b3 b4 ⟨.inl ⟨rfl, us' ++ [u], SqL.of b5⟩, ?_⟩
  refine ⟨_, us' ++ [u], u, rfl, rfl, b5, by simp, ?_⟩
  obtain ⟨x', s', hR, hn', fpe, s3⟩ := cW (fun _ => l') us' _ hd1 hp
  rw [List.dropLast_concat]
  exact hD.nx _ _ F1 _ (hR s' hn' fun b hb => nM b (fpe ▸ hb)) s3 e1
end
end TL
namespace TL
open PySem PySem.Spec PyProof.Rows L2
def nestSetL (f : List PyData → List PyData) (r : List PyData) (kd : PyData) (K : List PyData → Prop) : Prop := nestSet f (.list r) kd fun x => ∃ r', x = .list r' ∧ K r'
theorem nestSetL_m {f : List PyData → List PyData} {r : List PyData} {kd : PyData} {Q : List PyData → Prop} {Q' : PyData → Prop} (h : nestSetL f r kd Q) (k : ∀ r', Q r' → Q' (.list r')) : nestSet f (.list r) kd Q' :=
  nestSet_m h fun x ⟨r', e, hq⟩ => e ▸ k r' hq
theorem q_nestRow {r l : List PyData} {n : Int} {K : KL} (h : atI r n = some (.list l)) : nestRow (.list r) (.int n) K = K l := by
  unfold nestRow
  dsimp only
  rw [h]
theorem q_nestSetL {f : List PyData → List PyData} {r l : List PyData} {n : Int} {j : Nat} {K : List PyData → Prop} (h1 : ixN r.length n = some j) (h2 : r[j]? = some (.list l)) : nestSetL f r (.int n) K = K (r.set j (.list (f l))) := by
  unfold nestSetL nestSet
  dsimp only
  rw [h1]
  dsimp only
  rw [h2]
  exact propext ⟨fun ⟨r', e, hq⟩ => by cases e; exact hq, fun hq => ⟨_, rfl, hq⟩⟩
section
variable {X : Cx} {g : G} {env env' : List Sl} {Ψ : Exc → Prop} {P : Po} {pos p lp q : Pos} {a b c e e1 e2 : Expr} {es : List Expr} {rest body : List Stmt} {K : Frag} {F F' F1 F2 H H' H1 H2 : Hp} {σ σ' : SS} {s : Sl} {v : V} {x kd : PyData} {n xn : Str}
/-- x[k], a row of one's own -/
theorem we_ixN (i : Nat) {r : List PyData} {Φ : PyData → Bool → Prop} (hn : IsNest (.list r) s) (h : WE X g a env (fun d _ => nestRow (.list r) d fun l => Φ (.list l) false) Ψ) (he : env[i]? = some s := by rfl) (hN : X.N[i]? = some xn := by rfl)
    (hv : Vis X.env.scope xn := by first | exact Or.inl rfl | exact Or.inr (Or.inl rfl) | exact Or.inr (Or.inr rfl)) (hd : (xn == ("__debug__" : Str)) = false := by decide)
    (hcd : (xn == ("__classdict__" : Str)) = false := by decide) (hs : PlainIx a := by exact fun _ _ => rfl) : WE X g (.Subscript (.Name xn q) a pos) env Φ Ψ := by
  obtain ⟨ds, al, as, rfl, rfl, hl⟩ := isn_list hn
  refine we_ixOO i hl (fun W tk σ F H st hx Q hQ => h W tk σ F H st hx Q fun d z v F' H' hp => hQ d z v F' H' ?_) he hN hv hd hcd hs
  obtain ⟨n, rfl⟩ := nestRow_int hp
  unfold nestRow at hp
  dsimp only at hp
  split at hp
  · rename_i l hat
    obtain ⟨j, h1, h2⟩ := atI_j hat
    rw [List.length_map] at h1
    have h3 := map_list_inj h2
    show rowM ds (.int n) _
    unfold rowM
    have e : atI ds n = some l := by
      unfold atI
      rw [h1]; exact h3
    dsimp only
    rw [e]
    exact hp
  · exact hp.elim
/-- [e], e a new list -/
theorem wo_lstN1 {Φ : Sl → Prop} (h : WN X g e1 env (fun d => ∀ s, IsNest (.list [.list d]) s → Φ s) Ψ) (he1 : starEach [e1] X.env = (false, eval e1 X.env) :: starEach [] X.env := by rfl) : WO X g (.List [e1] pos) env Φ Ψ := fun W tk σ F H st hx Q hQ => by
  refine semE_of (pe_lst (pa_cons (peS e1) pa_nil he1)) ?_
  refine h W tk σ F H st hx _ fun d v F1 H1 hp s1 ex1 ⟨q, us, hv, n1, n2, n3, n4, n5⟩ => ?_
  subst hv
  refine ⟨Nat.le_of_ble_eq_true (by rw [sizeLine_eq]; rfl), fun p hn => ?_⟩
  have hne : q ≠ p := fun z => by rw [z, hn] at n1; cases n1
  refine hQ (ooS p [q] [d]) (.ref p) F1 _ (hp _ (.inl ⟨[d], p, [q], rfl, rfl, rfl⟩)) (s1.alloc hn) ex1 ⟨⟨rfl, upd_same, ?_, fun r hr => ?_⟩, fun b hb => ?_⟩
  · show [p, q].Nodup
    simp [Ne.symm hne]
  · have hr : r = (q, d) := List.mem_singleton.mp hr
    subst hr
    exact ⟨us, by rw [upd_ne hne]; exact n1, n2⟩
  · have hb : b = p ∨ b = q := by
      have hb : b ∈ [p, q] := hb
      simpa using hb
    rcases hb with rfl | rfl
    · exact ⟨s1.ex.none hn, s1.toSk.notown hn, s1.h0 hn⟩
    · exact ⟨n3, n4, n5⟩
end
end TL
namespace Tx
open PySem PySem.Spec PyProof.Rows L2
set_option maxRecDepth 100000
def topS (i : Nat) : Stmt := PySem.Challenge.pw_pinchfold_k48_watches_refused_and_taken.main.body.getD i (.Pass ⟨0, 0, 0, 0⟩)
abbrev s_follows : Stmt := topS 9
abbrev s_pair_of : Stmt := topS 10
abbrev s_all_lines : Stmt := topS 11
abbrev s_neighbours : Stmt := topS 12
abbrev s_need_faces : Stmt := topS 14
abbrev s_ways_row : Stmt := topS 15
abbrev s_how_many : Stmt := topS 16
abbrev s_cut_by : Stmt := topS 17
abbrev s_plan_numbered : Stmt := topS 18
abbrev s_need_way : Stmt := topS 21
abbrev s_between : Stmt := topS 22
abbrev s_third_corner : Stmt := topS 23
abbrev s_beginnings : Stmt := topS 27
abbrev s_Watch__init : Stmt := inClass (topS 28) 0
abbrev s_Watch__met : Stmt := inClass (topS 28) 1
abbrev s_Watch__need_number : Stmt := inClass (topS 28) 2
abbrev s_Watch__shown : Stmt := inClass (topS 28) 3
abbrev s_Watch__went : Stmt := inClass (topS 28) 4
abbrev s_Watch__stuck : Stmt := inClass (topS 28) 5
abbrev s_Watch__turned_over : Stmt := inClass (topS 28) 6
abbrev s_Watch__left : Stmt := inClass (topS 28) 7
abbrev s_Watch__back : Stmt := inClass (topS 28) 8
abbrev s_Watch__twin : Stmt := inClass (topS 28) 9
abbrev s__law_alike : Stmt := topS 30
abbrev s__law_bag : Stmt := topS 31
abbrev s__law_bounds_held : Stmt := topS 32
abbrev s__law_no_back : Stmt := topS 33
abbrev s__law_odd : Stmt := topS 34
abbrev s__law_pull : Stmt := topS 35
abbrev s__law_watch_do : Stmt := topS 36
abbrev s__law_watch_word : Stmt := topS 37
abbrev s__law_whole : Stmt := topS 38
abbrev s_law : Stmt := topS 39
theorem sc_follows : FnScope ["faces", "face"] ["faces", "face"] (defScope s_follows) := ⟨rfl, rfl, rfl, by decide +kernel, rfl, by decide +kernel, by decide +kernel⟩
theorem sc_pair_of : FnScope ["one", "other"] ["one", "other"] (defScope s_pair_of) := ⟨rfl, rfl, rfl, by decide +kernel, rfl, by decide +kernel, by decide +kernel⟩
theorem sc_all_lines : FnScope ["plan", "faces", "cuts", "face"] ["plan"] (defScope s_all_lines) := ⟨rfl, rfl, rfl, by decide +kernel, rfl, by decide +kernel, by decide +kernel⟩
theorem sc_neighbours : FnScope ["plan", "faces", "cuts", "found", "face", "low", "high", "step"] ["plan"] (defScope s_neighbours) := ⟨rfl, rfl, rfl, by decide +kernel, rfl, by decide +kernel, by decide +kernel⟩
theorem sc_need_faces : FnScope ["faces"] ["faces"] (defScope s_need_faces) := ⟨rfl, rfl, rfl, by decide +kernel, rfl, by decide +kernel, by decide +kernel⟩
theorem sc_ways_row : FnScope ["most", "row", "many", "first"] ["most"] (defScope s_ways_row) := ⟨rfl, rfl, rfl, by decide +kernel, rfl, by decide +kernel, by decide +kernel⟩
theorem sc_how_many : FnScope ["faces"] ["faces"] (defScope s_how_many) := ⟨rfl, rfl, rfl, by decide +kernel, rfl, by decide +kernel, by decide +kernel⟩
theorem sc_cut_by : FnScope ["row", "start", "steps", "number", "first", "late", "found"] ["row", "start", "steps", "number"] (defScope s_cut_by) := ⟨rfl, rfl, rfl, by decide +kernel, rfl, by decide +kernel, by decide +kernel⟩
theorem sc_plan_numbered : FnScope ["faces", "number", "row", "cuts", "low", "high"] ["faces", "number"] (defScope s_plan_numbered) := ⟨rfl, rfl, rfl, by decide +kernel, rfl, by decide +kernel, by decide +kernel⟩
theorem sc_need_way : FnScope ["way"] ["way"] (defScope s_need_way) := ⟨rfl, rfl, rfl, by decide +kernel, rfl, by decide +kernel, by decide +kernel⟩
theorem sc_between : FnScope ["faces", "start", "corner", "end"] ["faces", "start", "corner", "end"] (defScope s_between) := ⟨rfl, rfl, rfl, by decide +kernel, rfl, by decide +kernel, by decide +kernel⟩
theorem sc_third_corner : FnScope ["plan", "near", "place", "way", "top", "under", "start", "end", "corner"] ["plan", "near", "place", "way"] (defScope s_third_corner) := ⟨rfl, rfl, rfl, by decide +kernel, rfl, by decide +kernel, by decide +kernel⟩
theorem sc_beginnings : FnScope ["most", "found", "faces", "number", "plan", "under"] ["most"] (defScope s_beginnings) := ⟨rfl, rfl, rfl, by decide +kernel, rfl, by decide +kernel, by decide +kernel⟩
theorem sc_Watch__init : FnScope ["self", "bound"] ["self", "bound"] (defScope s_Watch__init) := ⟨rfl, rfl, rfl, by decide +kernel, rfl, by decide +kernel, by decide +kernel⟩
theorem sc_Watch__met : FnScope ["self"] ["self"] (defScope s_Watch__met) := ⟨rfl, rfl, rfl, by decide +kernel, rfl, by decide +kernel, by decide +kernel⟩
theorem sc_Watch__need_number : FnScope ["self", "face"] ["self", "face"] (defScope s_Watch__need_number) := ⟨rfl, rfl, rfl, by decide +kernel, rfl, by decide +kernel, by decide +kernel⟩
theorem sc_Watch__shown : FnScope ["self", "rows", "face", "found", "plan", "place", "corners"] ["self", "rows", "face"] (defScope s_Watch__shown) := ⟨rfl, rfl, rfl, by decide +kernel, rfl, by decide +kernel, by decide +kernel⟩
theorem sc_Watch__went : FnScope ["self", "way", "face", "rows", "plan", "place", "corners", "corner"] ["self", "way", "face"] (defScope s_Watch__went) := ⟨rfl, rfl, rfl, by decide +kernel, rfl, by decide +kernel, by decide +kernel⟩
theorem sc_Watch__stuck : FnScope ["self", "way", "found", "plan", "place", "corners"] ["self", "way"] (defScope s_Watch__stuck) := ⟨rfl, rfl, rfl, by decide +kernel, rfl, by decide +kernel, by decide +kernel⟩
theorem sc_Watch__turned_over : FnScope ["self", "face", "rows", "plan", "place", "corners"] ["self", "face"] (defScope s_Watch__turned_over) := ⟨rfl, rfl, rfl, by decide +kernel, rfl, by decide +kernel, by decide +kernel⟩
theorem sc_Watch__left : FnScope ["self", "plan", "place", "corners"] ["self"] (defScope s_Watch__left) := ⟨rfl, rfl, rfl, by decide +kernel, rfl, by decide +kernel, by decide +kernel⟩
theorem sc_Watch__back : FnScope ["self"] ["self"] (defScope s_Watch__back) := ⟨rfl, rfl, rfl, by decide +kernel, rfl, by decide +kernel, by decide +kernel⟩
theorem sc_Watch__twin : FnScope ["self", "other"] ["self"] (defScope s_Watch__twin) := ⟨rfl, rfl, rfl, by decide +kernel, rfl, by decide +kernel, by decide +kernel⟩
theorem sc__law_alike : FnScope ["_law_found", "_law_due", "_law_at"] ["_law_found", "_law_due"] (defScope s__law_alike) := ⟨rfl, rfl, rfl, by decide +kernel, rfl, by decide +kernel, by decide +kernel⟩
theorem sc__law_bag : FnScope ["_law_script", "_law_cells", "_law_one", "_law_salt"] ["_law_script"] (defScope s__law_bag) := ⟨rfl, rfl, rfl, by decide +kernel, rfl, by decide +kernel, by decide +kernel⟩
theorem sc__law_bounds_held : FnScope ["_law_far", "_law_most"] ["_law_far"] (defScope s__law_bounds_held) := ⟨rfl, rfl, rfl, by decide +kernel, rfl, by decide +kernel, by decide +kernel⟩
theorem sc__law_no_back : FnScope ["_law_watch", "_law_word"] ["_law_watch"] (defScope s__law_no_back) := ⟨rfl, rfl, rfl, by decide +kernel, rfl, by decide +kernel, by decide +kernel⟩
theorem sc__law_odd : FnScope ["_law_bag_here", "_law_many"] ["_law_bag_here", "_law_many"] (defScope s__law_odd) := ⟨rfl, rfl, rfl, by decide +kernel, rfl, by decide +kernel, by decide +kernel⟩
theorem sc__law_pull : FnScope ["_law_bag_here", "_law_many", "_law_seed", "_law_blend", "_law_drawn"] ["_law_bag_here", "_law_many"] (defScope s__law_pull) := ⟨rfl, rfl, rfl, by decide +kernel, rfl, by decide +kernel, by decide +kernel⟩
theorem sc__law_watch_do : FnScope ["_law_watch", "_law_sight", "_law_word", "_law_way", "_law_face", "_law_told"] ["_law_watch", "_law_sight"] (defScope s__law_watch_do) := ⟨rfl, rfl, rfl, by decide +kernel, rfl, by decide +kernel, by decide +kernel⟩
theorem sc__law_watch_word : FnScope ["_law_most", "_law_word"] ["_law_most"] (defScope s__law_watch_word) := ⟨rfl, rfl, rfl, by decide +kernel, rfl, by decide +kernel, by decide +kernel⟩
theorem sc__law_whole : FnScope ["_law_found"] ["_law_found"] (defScope s__law_whole) := ⟨rfl, rfl, rfl, by decide +kernel, rfl, by decide +kernel, by decide +kernel⟩
theorem sc_law : FnScope ["_law_script", "_law_bag_here", "_law_most", "_law_watches", "_law_stands", "_law_turn", "_law_at", "_law_watch", "_law_many", "_law_way", "_law_face", "_law_word", "_law_due", "_law_one"] ["_law_script"] (defScope s_law) := ⟨rfl, rfl, rfl, by decide +kernel, rfl, by decide +kernel, by decide +kernel⟩
end Tx
namespace Tx
namespace Hd
open PySem PySem.Spec PyProof.Rows L2 TL
def d_follows : He.DefD := ⟨("follows", none), "follows", "follows", defArgs s_follows, defBody s_follows, defScope s_follows, [], []⟩
def d_pair_of : He.DefD := ⟨("pair_of", none), "pair_of", "pair_of", defArgs s_pair_of, defBody s_pair_of, defScope s_pair_of, [], []⟩
def d_all_lines : He.DefD := ⟨("all_lines", none), "all_lines", "all_lines", defArgs s_all_lines, defBody s_all_lines, defScope s_all_lines, [], []⟩
def d_neighbours : He.DefD := ⟨("neighbours", none), "neighbours", "neighbours", defArgs s_neighbours, defBody s_neighbours, defScope s_neighbours, [], []⟩
def d_need_faces : He.DefD := ⟨("need_faces", none), "need_faces", "need_faces", defArgs s_need_faces, defBody s_need_faces, defScope s_need_faces, [], []⟩
def d_ways_row : He.DefD := ⟨("ways_row", none), "ways_row", "ways_row", defArgs s_ways_row, defBody s_ways_row, defScope s_ways_row, [], []⟩
def d_how_many : He.DefD := ⟨("how_many", none), "how_many", "how_many", defArgs s_how_many, defBody s_how_many, defScope s_how_many, [], []⟩
def d_cut_by : He.DefD := ⟨("cut_by", none), "cut_by", "cut_by", defArgs s_cut_by, defBody s_cut_by, defScope s_cut_by, [], []⟩
def d_plan_numbered : He.DefD := ⟨("plan_numbered", none), "plan_numbered", "plan_numbered", defArgs s_plan_numbered, defBody s_plan_numbered, defScope s_plan_numbered, [], []⟩
def d_need_way : He.DefD := ⟨("need_way", none), "need_way", "need_way", defArgs s_need_way, defBody s_need_way, defScope s_need_way, [], []⟩
def d_between : He.DefD := ⟨("between", none), "between", "between", defArgs s_between, defBody s_between, defScope s_between, [], []⟩
def d_third_corner : He.DefD := ⟨("third_corner", none), "third_corner", "third_corner", defArgs s_third_corner, defBody s_third_corner, defScope s_third_corner, [], []⟩
def d_beginnings : He.DefD := ⟨("beginnings", none), "beginnings", "beginnings", defArgs s_beginnings, defBody s_beginnings, defScope s_beginnings, [], []⟩
def d_Watch__init : He.DefD := ⟨("Watch", some "__init__"), "__init__", "Watch.__init__", defArgs s_Watch__init, defBody s_Watch__init, defScope s_Watch__init, [.int 8], []⟩
def d_Watch__met : He.DefD := ⟨("Watch", some "met"), "met", "Watch.met", defArgs s_Watch__met, defBody s_Watch__met, defScope s_Watch__met, [], []⟩
def d_Watch__need_number : He.DefD := ⟨("Watch", some "need_number"), "need_number", "Watch.need_number", defArgs s_Watch__need_number, defBody s_Watch__need_number, defScope s_Watch__need_number, [], []⟩
def d_Watch__shown : He.DefD := ⟨("Watch", some "shown"), "shown", "Watch.shown", defArgs s_Watch__shown, defBody s_Watch__shown, defScope s_Watch__shown, [], []⟩
def d_Watch__went : He.DefD := ⟨("Watch", some "went"), "went", "Watch.went", defArgs s_Watch__went, defBody s_Watch__went, defScope s_Watch__went, [], []⟩
def d_Watch__stuck : He.DefD := ⟨("Watch", some "stuck"), "stuck", "Watch.stuck", defArgs s_Watch__stuck, defBody s_Watch__stuck, defScope s_Watch__stuck, [], []⟩
def d_Watch__turned_over : He.DefD := ⟨("Watch", some "turned_over"), "turned_over", "Watch.turned_over", defArgs s_Watch__turned_over, defBody s_Watch__turned_over, defScope s_Watch__turned_over, [], []⟩
def d_Watch__left : He.DefD := ⟨("Watch", some "left"), "left", "Watch.left", defArgs s_Watch__left, defBody s_Watch__left, defScope s_Watch__left, [], []⟩
def d_Watch__back : He.DefD := ⟨("Watch", some "back"), "back", "Watch.back", defArgs s_Watch__back, defBody s_Watch__back, defScope s_Watch__back, [], []⟩
def d_Watch__twin : He.DefD := ⟨("Watch", some "twin"), "twin", "Watch.twin", defArgs s_Watch__twin, defBody s_Watch__twin, defScope s_Watch__twin, [], []⟩
def d__law_alike : He.DefD := ⟨("_law_alike", none), "_law_alike", "_law_alike", defArgs s__law_alike, defBody s__law_alike, defScope s__law_alike, [], []⟩
def d__law_bag : He.DefD := ⟨("_law_bag", none), "_law_bag", "_law_bag", defArgs s__law_bag, defBody s__law_bag, defScope s__law_bag, [], []⟩
def d__law_bounds_held : He.DefD := ⟨("_law_bounds_held", none), "_law_bounds_held", "_law_bounds_held", defArgs s__law_bounds_held, defBody s__law_bounds_held, defScope s__law_bounds_held, [], []⟩
def d__law_no_back : He.DefD := ⟨("_law_no_back", none), "_law_no_back", "_law_no_back", defArgs s__law_no_back, defBody s__law_no_back, defScope s__law_no_back, [], []⟩
def d__law_odd : He.DefD := ⟨("_law_odd", none), "_law_odd", "_law_odd", defArgs s__law_odd, defBody s__law_odd, defScope s__law_odd, [], []⟩
def d__law_pull : He.DefD := ⟨("_law_pull", none), "_law_pull", "_law_pull", defArgs s__law_pull, defBody s__law_pull, defScope s__law_pull, [], []⟩
def d__law_watch_do : He.DefD := ⟨("_law_watch_do", none), "_law_watch_do", "_law_watch_do", defArgs s__law_watch_do, defBody s__law_watch_do, defScope s__law_watch_do, [], []⟩
def d__law_watch_word : He.DefD := ⟨("_law_watch_word", none), "_law_watch_word", "_law_watch_word", defArgs s__law_watch_word, defBody s__law_watch_word, defScope s__law_watch_word, [], []⟩
def d__law_whole : He.DefD := ⟨("_law_whole", none), "_law_whole", "_law_whole", defArgs s__law_whole, defBody s__law_whole, defScope s__law_whole, [], []⟩
def d_law : He.DefD := ⟨("law", none), "law", "law", defArgs s_law, defBody s_law, defScope s_law, [], []⟩
def fn : List He.DefD := [d_follows, d_pair_of, d_all_lines, d_neighbours, d_need_faces, d_ways_row, d_how_many, d_cut_by, d_plan_numbered, d_need_way, d_between, d_third_corner, d_beginnings, d_Watch__init, d_Watch__met, d_Watch__need_number, d_Watch__shown, d_Watch__went, d_Watch__stuck, d_Watch__turned_over, d_Watch__left, d_Watch__back, d_Watch__twin, d__law_alike, d__law_bag, d__law_bounds_held, d__law_no_back, d__law_odd, d__law_pull, d__law_watch_do, d__law_watch_word, d__law_whole, d_law]
def fa : List He.Fa := [.glo "follows",
  .glo "pair_of",
  .glo "all_lines",
  .glo "neighbours",
  .glo "need_faces",
  .glo "ways_row",
  .glo "how_many",
  .glo "cut_by",
  .glo "plan_numbered",
  .glo "need_way",
  .glo "between",
  .glo "third_corner",
  .glo "beginnings",
  .glo "_law_alike",
  .glo "_law_bag",
  .glo "_law_bounds_held",
  .glo "_law_no_back",
  .glo "_law_odd",
  .glo "_law_pull",
  .glo "_law_watch_do",
  .glo "_law_watch_word",
  .glo "_law_whole",
  .glo "law",
  .glo "Watch",
  .meth "Watch" "met",
  .meth "Watch" "need_number",
  .meth "Watch" "shown",
  .meth "Watch" "went",
  .meth "Watch" "stuck",
  .meth "Watch" "turned_over",
  .meth "Watch" "left",
  .meth "Watch" "back",
  .meth "Watch" "twin",
  .mkr "Watch",
  .noat "Watch" "stages",
  .glo "PinchError",
  .glo "BadFaces",
  .glo "BadWay",
  .glo "BadNumber",
  .glo "NoBack",
  .free "abs",
  .free "all",
  .free "bool",
  .free "int",
  .free "isinstance",
  .free "len",
  .free "list",
  .free "max",
  .free "min",
  .free "range",
  .free "sorted",
  .free "str",
  .free "sum",
  .free "tuple",
  .int "LEAST" 3,
  .int "MOST" 40,
  .glo "WAYS",
  .int "FEWEST" 3,
  .int "GREATEST" 8,
  .exc "PinchError",
  .exc "BadFaces",
  .exc "BadWay",
  .exc "BadNumber",
  .exc "NoBack",
  .exm "BadFaces" "BadFaces" true,
  .exm "BadFaces" "BadNumber" false,
  .exm "BadFaces" "BadWay" false,
  .exm "BadFaces" "NoBack" false,
  .exm "BadFaces" "PinchError" true,
  .exm "BadWay" "BadFaces" false,
  .exm "BadWay" "BadNumber" false,
  .exm "BadWay" "BadWay" true,
  .exm "BadWay" "NoBack" false,
  .exm "BadWay" "PinchError" true,
  .exm "BadNumber" "BadFaces" false,
  .exm "BadNumber" "BadNumber" true,
  .exm "BadNumber" "BadWay" false,
  .exm "BadNumber" "NoBack" false,
  .exm "BadNumber" "PinchError" true,
  .exm "NoBack" "BadFaces" false,
  .exm "NoBack" "BadNumber" false,
  .exm "NoBack" "BadWay" false,
  .exm "NoBack" "NoBack" true,
  .exm "NoBack" "PinchError" true]
def xf : List XF := [fun K => He.tupB K "WAYS" [.str "even", .str "odd"],
  fun K => insB K "Watch"]
abbrev R : PySem.W.OpenRow := PySem.W.OpenLaw.row PySem.Challenge.rw_pinchfold_k48_watches_refused_and_taken
def tf : List LamD := []
abbrev hk : PySem.W.Hook := hookL 4 xf fa fn tf
def ob (s : PySem.W.SharedT) : AlL := obsLG 4 xf fa fn tf (HandSHeadRun.getT s)
theorem ob_eq (s : PySem.W.SharedT) : ob s = hk.obs s.abs := obsLG_eq (HandSHeadRun.getT_eq s)
def loose : List PySem.Str := (["PinchError", "BadFaces", "BadWay", "BadNumber", "NoBack", "LEAST", "MOST", "follows", "pair_of", "all_lines", "neighbours", "need_faces", "ways_row", "how_many", "cut_by", "plan_numbered", "WAYS", "need_way", "between", "third_corner", "FEWEST", "GREATEST", "beginnings", "Watch", "_law_alike", "_law_bag", "_law_bounds_held", "_law_no_back", "_law_odd", "_law_pull"] : List PySem.Str) ++ (["_law_watch_do", "_law_watch_word", "_law_whole"] : List PySem.Str)
theorem run (w : World) : HandSHeadRun.RunEq R (PySem.W.view R.prog [39]) hk ob 6000 loose w := by
  intro os
  kernel_rfl
end Hd
end Tx
namespace Tx
open PySem PySem.Spec PyProof.Rows L2 TL
def catl : List Int := [0, 1, 1, 2, 5, 14, 42, 132, 429, 1430, 4862, 16796, 58786, 208012, 742900, 2674440, 9694845, 35357670, 129644790, 477638700, 1767263190, 6564120420, 24466267020, 91482563640, 343059613650, 1289904147324, 4861946401452, 18367353072152, 69533550916004, 263747951750360, 1002242216651368, 3814986502092304, 14544636039226909, 55534064877048198, 212336130412243110, 812944042149730764, 3116285494907301262, 11959798385860453492, 45950804324621742364, 176733862787006701400, 680425371729975800390, 2622127042276492108820]
def cc (i : Nat) : Int := catl.getD i 0
abbrev ccD (i : Nat) : PyData := .int (cc i)
theorem cc_rec : ∀ m < 41, 2 ≤ m → ((List.range (m - 1)).map fun (j : Nat) => cc (1 + (j : Int)).toNat * cc ((m : Int) - (1 + (j : Int))).toNat).sum = cc m := by decide +kernel
theorem cc_lt : ∀ m < 42, (cc m).natAbs < 2 ^ 80 := by decide +kernel
theorem cc_pos : ∀ m < 42, 1 ≤ m → 0 < cc m := by decide +kernel
theorem cc_wide (i j : Int) (h : i.toNat < 42) (h2 : j.toNat < 42) : CMulW (cc i.toNat) (cc j.toNat) := wide_mul (cc_lt _ h) (cc_lt _ h2) (by decide) (by decide) (by decide)
theorem cc_div (i : Int) (m : Nat) (h0 : 1 ≤ m) (h : m < 42) : CDivW i (cc m) := wide_div (cc_pos m h h0) (cc_lt m h) (by decide) (by decide)
def lePP (p q : Int × Int) : Bool := decide (p.1 < q.1 ∨ (p.1 = q.1 ∧ p.2 ≤ q.2))
def ltPP (p q : Int × Int) : Bool := decide (p.1 < q.1 ∨ (p.1 = q.1 ∧ p.2 < q.2))
def sortPP (ps : List (Int × Int)) : List (Int × Int) := ps.mergeSort lePP
theorem srt_pp (ps : List (Int × Int)) : srt (ps.map ppD) = (sortPP ps).map ppD := by
  unfold srt sortPP
  have e := PySem.W.dataLe_ii (β := Int × Int) (fun p => p.1) (fun p => p.2)
  refine (List.map_mergeSort (r := lePP) (s := PySem.W.dataLe false id) fun a _ b _ => ?_).symm
  have e2 := congrFun (congrFun e a) b
  exact e2.symm
def planD (n : Int) (cs : List PyData) : PyData := .tuple [.int n, .tuple cs]
abbrev plD (n : Int) (cs : List (Int × Int)) : PyData := planD n (cs.map ppD)
def nrm (n : Int) (p : Int × Int) : Int × Int := (if p.2 % n < p.1 then p.2 % n else p.1, if p.2 % n > p.1 then p.2 % n else p.1)
def inF (p : Int × Int) (c : Int) : Bool := !decide (c = p.1) && !decide (c = p.2)
def inG (p : Int × Int) (c : Int) : Bool := decide (p.1 < c) && decide (c < p.2)
def two : List Bool → Bool
  | [a, b] => !decide (a = b)
  | _ => false
def crossB (p q : Int × Int) : Bool := two (([q.1, q.2].filter (inF p)).map (inG p))
theorem eqv_ii (a b c d : Int) : PyData.eqv (.tuple [.int a, .int b]) (.tuple [.int c, .int d]) = decide (a = c ∧ b = d) := by
  simp only [PyData.eqv, PyData.eqvAll, Bool.and_true]
  by_cases h1 : a = c
  · by_cases h2 : b = d
    · simp [h1, h2]
    · simp [h1, h2]
  · simp [h1]
theorem ltPP_lex (p q : Int × Int) : HT.lexLt [p.1, p.2] [q.1, q.2] = ltPP p q := by
  unfold ltPP
  rw [HT.lexLt_cons, HT.lexLt_cons, HT.lexLt_nil_nil]
  by_cases h : p.1 = q.1
  · rw [if_pos h]
    by_cases h2 : p.2 = q.2
    · rw [if_pos h2]; symm; apply decide_eq_false; omega
    · rw [if_neg h2]; apply decide_eq_decide.mpr; omega
  · rw [if_neg h]; apply decide_eq_decide.mpr; omega
structure IsPlan (n : Int) (cs : List (Int × Int)) : Prop where
  lo : 3 ≤ n
  hi : n ≤ 40
  len : (cs.length : Int) = n - 3
  cut : ∀ c ∈ cs, 0 ≤ c.1 ∧ c.1 + 1 < c.2 ∧ c.2 < n ∧ ¬ (c.1 = 0 ∧ c.2 = n - 1)
  srt : cs.Pairwise fun p q => ltPP p q = true
  noc : ∀ c ∈ cs, ∀ d ∈ cs, crossB c d = false
theorem inF_t {p : Int × Int} {c : Int} (h1 : c ≠ p.1) (h2 : c ≠ p.2) : inF p c = true := by unfold inF; simp [h1, h2]
theorem inF_1 {p : Int × Int} {c : Int} (h1 : c = p.1) : inF p c = false := by unfold inF; simp [h1]
theorem inF_2 {p : Int × Int} {c : Int} (h1 : c = p.2) : inF p c = false := by unfold inF; simp [h1]
theorem cross_eq (p q : Int × Int) : crossB p q = decide (q.1 ≠ p.1 ∧ q.1 ≠ p.2 ∧ q.2 ≠ p.1 ∧ q.2 ≠ p.2 ∧ ¬ ((p.1 < q.1 ∧ q.1 < p.2) ↔ (p.1 < q.2 ∧ q.2 < p.2))) := by
  unfold crossB
  have k1 : ∀ x y : Bool, inF p q.1 = x → inF p q.2 = y → two (([q.1, q.2].filter (inF p)).map (inG p)) = (x && y && !decide (inG p q.1 = inG p q.2)) := fun x y h1 h2 => by
    cases x <;> cases y <;> simp [List.filter, h1, h2, two]
  have g : ∀ c, inG p c = decide (p.1 < c ∧ c < p.2) := fun c => by unfold inG; simp
  have key : (!decide (inG p q.1 = inG p q.2)) = decide (¬ ((p.1 < q.1 ∧ q.1 < p.2) ↔ (p.1 < q.2 ∧ q.2 < p.2))) := by
    rw [g, g]
    by_cases a : p.1 < q.1 ∧ q.1 < p.2 <;> by_cases b : p.1 < q.2 ∧ q.2 < p.2 <;> simp [a, b]
  by_cases h1 : q.1 = p.1
  · rw [k1 _ _ (inF_1 h1) rfl]; simp [h1]
  · by_cases h2 : q.1 = p.2
    · rw [k1 _ _ (inF_2 h2) rfl]; simp [h2]
    · by_cases h3 : q.2 = p.1
      · rw [k1 _ _ rfl (inF_1 h3)]; simp [h3]
      · by_cases h4 : q.2 = p.2
        · rw [k1 _ _ rfl (inF_2 h4)]; simp [h4]
        · rw [k1 _ _ (inF_t h1 h2) (inF_t h3 h4), key]
          apply decide_eq_decide.mpr
          constructor
          · exact fun h => ⟨h1, h2, h3, h4, h⟩
          · exact fun h => h.2.2.2.2
theorem lePP_total (p q : Int × Int) : (lePP p q || lePP q p) = true := by
  unfold lePP
  by_cases h : p.1 < q.1 ∨ (p.1 = q.1 ∧ p.2 ≤ q.2)
  · rw [decide_eq_true h]; rfl
  · rw [decide_eq_true (show q.1 < p.1 ∨ (q.1 = p.1 ∧ q.2 ≤ p.2) by omega), Bool.or_true]
theorem lePP_trans (p q r : Int × Int) (h1 : lePP p q = true) (h2 : lePP q r = true) : lePP p r = true := by
  unfold lePP at *
  have h1 := of_decide_eq_true h1
  have h2 := of_decide_eq_true h2
  apply decide_eq_true
  omega
theorem sortPP_perm (ps : List (Int × Int)) : (sortPP ps).Perm ps := List.mergeSort_perm ps lePP
theorem sortPP_lt {ps : List (Int × Int)} (nd : ps.Nodup) : (sortPP ps).Pairwise fun p q => ltPP p q = true := by
  have h1 : (sortPP ps).Pairwise fun p q => lePP p q = true := List.pairwise_mergeSort lePP_trans lePP_total ps
  have h2 : (sortPP ps).Nodup := (sortPP_perm ps).nodup_iff.mpr nd
  refine (h1.and h2).imp fun {p q} h => ?_
  have h3 := of_decide_eq_true h.1
  have h4 : p ≠ q := h.2
  apply decide_eq_true
  have : ¬ (p.1 = q.1 ∧ p.2 = q.2) := fun z => h4 (Prod.ext z.1 z.2)
  omega
inductive Arcs : Int → Int → List (Int × Int) → Prop
  | leaf {s e : Int} : e - s ≤ 1 → Arcs s e []
  | node {s m e : Int} {a b : List (Int × Int)} : s < m → m < e → Arcs s m a → Arcs m e b → Arcs s e ((s, m) :: (m, e) :: (a ++ b))
theorem Arcs.len {s e : Int} {l : List (Int × Int)} (h : Arcs s e l) (hs : s < e) : (l.length : Int) ≤ 2 * (e - s) - 2 := by
  induction h with
  | leaf h => simp; omega
  | node h1 h2 _ _ ia ib =>
    have := ia h1
    have := ib h2
    simp only [List.length_cons, List.length_append]
    omega
def wide (p : Int × Int) : Bool := decide (p.2 - p.1 > 1)
def lam (p q : Int × Int) : Prop := p.2 ≤ q.1 ∨ q.2 ≤ p.1 ∨ (p.1 ≤ q.1 ∧ q.2 ≤ p.2) ∨ (q.1 ≤ p.1 ∧ p.2 ≤ q.2)
theorem Arcs.within {s e : Int} {l : List (Int × Int)} (h : Arcs s e l) (hs : s < e) : ∀ p ∈ l, s ≤ p.1 ∧ p.1 < p.2 ∧ p.2 ≤ e ∧ ¬ (p.1 = s ∧ p.2 = e) := by
  induction h with
  | leaf h => intro p hp; cases hp
  | node h1 h2 _ _ ia ib =>
    intro p hp
    rcases List.mem_cons.mp hp with rfl | hp
    · exact ⟨Int.le_refl _, h1, by omega, by omega⟩
    · rcases List.mem_cons.mp hp with rfl | hp
      · exact ⟨by omega, h2, Int.le_refl _, by omega⟩
      · rcases List.mem_append.mp hp with hp | hp
        · have := ia h1 p hp; omega
        · have := ib h2 p hp; omega
theorem Arcs.lams {s e : Int} {l : List (Int × Int)} (h : Arcs s e l) (hs : s < e) : ∀ p ∈ l, ∀ q ∈ l, lam p q := by
  induction h with
  | leaf h => intro p hp; cases hp
  | @node s m e a b h1 h2 ha hb ia ib =>
    have wa := ha.within h1
    have wb := hb.within h2
    have cases4 : ∀ p ∈ (s, m) :: (m, e) :: (a ++ b), p = (s, m) ∨ p = (m, e) ∨ p ∈ a ∨ p ∈ b := fun p hp => by
      rcases List.mem_cons.mp hp with h | hp
      · exact .inl h
      · rcases List.mem_cons.mp hp with h | hp
        · exact .inr (.inl h)
        · rcases List.mem_append.mp hp with h | h
          · exact .inr (.inr (.inl h))
          · exact .inr (.inr (.inr h))
    intro p hp q hq
    rcases cases4 p hp with rfl | rfl | hp | hp <;> rcases cases4 q hq with rfl | rfl | hq | hq
    all_goals first
      | exact ia h1 p hp q hq
      | exact ib h2 p hp q hq
      | (unfold lam; (try have x1 := wa p hp); (try have x2 := wb p hp); (try have x3 := wa q hq); (try have x4 := wb q hq); (try simp only at *); omega)
theorem Arcs.nodup {s e : Int} {l : List (Int × Int)} (h : Arcs s e l) (hs : s < e) : l.Nodup := by
  induction h with
  | leaf h => exact List.nodup_nil
  | @node s m e a b h1 h2 ha hb ia ib =>
    have wa := ha.within h1
    have wb := hb.within h2
    refine List.nodup_cons.mpr ⟨fun hm => ?_, List.nodup_cons.mpr ⟨fun hm => ?_, List.nodup_append.mpr ⟨ia h1, ib h2, fun x hx y hy z => ?_⟩⟩⟩
    · rcases List.mem_cons.mp hm with h | hm
      · have := congrArg Prod.fst h; simp only at this; omega
      · rcases List.mem_append.mp hm with h | h
        · exact (wa _ h).2.2.2 ⟨rfl, rfl⟩
        · exact absurd (show m ≤ s from (wb _ h).1) (by omega)
    · rcases List.mem_append.mp hm with h | h
      · exact absurd (show e ≤ m from (wa _ h).2.2.1) (by omega)
      · exact (wb _ h).2.2.2 ⟨rfl, rfl⟩
    · subst z
      have := wa _ hx
      have := wb _ hy
      omega
theorem Arcs.wides {s e : Int} {l : List (Int × Int)} (h : Arcs s e l) (hs : s < e) : ((l.filter wide).length : Int) = if e - s ≤ 1 then 0 else e - s - 2 := by
  induction h with
  | leaf h => rw [if_pos h]; rfl
  | @node s m e a b h1 h2 ha hb ia ib =>
    have x := ia h1
    have y := ib h2
    rw [if_neg (by omega)]
    have w1 : wide (s, m) = decide (m - s > 1) := rfl
    have w2 : wide (m, e) = decide (e - m > 1) := rfl
    by_cases c1 : m - s ≤ 1 <;> by_cases c2 : e - m ≤ 1
    all_goals
      (first | rw [if_pos c1] at x | rw [if_neg c1] at x)
      (first | rw [if_pos c2] at y | rw [if_neg c2] at y)
      have d1 : decide (m - s > 1) = !decide (m - s ≤ 1) := by by_cases h : m - s ≤ 1 <;> simp [h] <;> omega
      have d2 : decide (e - m > 1) = !decide (e - m ≤ 1) := by by_cases h : e - m ≤ 1 <;> simp [h] <;> omega
      simp only [List.filter_cons, List.filter_append, w1, w2, d1, d2, c1, c2, decide_true, decide_false, Bool.not_true, Bool.not_false, if_true, if_false, List.length_cons, List.length_append, Bool.false_eq_true]
      omega
/-- what a drawn row of arcs gives is a good plan -/
theorem arcs_plan {n : Int} {l : List (Int × Int)} (h3 : 3 ≤ n) (h40 : n ≤ 40) (h : Arcs 1 n l) : IsPlan n (sortPP ((l.filter wide).map (nrm n))) := by
  have hn : (1 : Int) < n := by omega
  have hw := h.within hn
  have hlm := h.lams hn
  have hlen := h.wides hn
  rw [if_neg (by omega)] at hlen
  have val : ∀ p ∈ l.filter wide, (p.2 < n ∧ nrm n p = p) ∨ (p.2 = n ∧ nrm n p = (0, p.1)) := fun p hp => by
    have hp1 := (List.mem_filter.mp hp).1
    have w := hw p hp1
    by_cases e : p.2 = n
    · right
      refine ⟨e, ?_⟩
      unfold nrm
      rw [e, Int.emod_self, if_pos (by omega), if_neg (by omega)]
    · left
      refine ⟨by omega, ?_⟩
      unfold nrm
      rw [Int.emod_eq_of_lt (by omega) (by omega), if_neg (by omega), if_pos (by omega)]
  have facts : ∀ p ∈ l.filter wide, 1 ≤ p.1 ∧ p.1 + 1 < p.2 ∧ p.2 ≤ n ∧ ¬ (p.1 = 1 ∧ p.2 = n) := fun p hp => by
    obtain ⟨hp1, hp2⟩ := List.mem_filter.mp hp
    have w := hw p hp1
    have w2 : p.2 - p.1 > 1 := of_decide_eq_true hp2
    omega
  have nd : ((l.filter wide).map (nrm n)).Nodup := by
    have nd0 : (l.filter wide).Nodup := (h.nodup hn).filter _
    refine List.pairwise_map.mpr (nd0.imp_of_mem fun {p q} hp hq hne z => hne ?_)
    have f1 := facts p hp
    have f2 := facts q hq
    rcases val p hp with ⟨a1, a2⟩ | ⟨a1, a2⟩ <;> rcases val q hq with ⟨b1, b2⟩ | ⟨b1, b2⟩
    · rw [a2, b2] at z; exact z
    · rw [a2, b2] at z
      have := congrArg Prod.fst z; simp only at this; omega
    · rw [a2, b2] at z
      have := congrArg Prod.fst z; simp only at this; omega
    · rw [a2, b2] at z
      have := congrArg Prod.snd z; simp only at this
      exact Prod.ext this (by omega)
  have mem : ∀ c ∈ sortPP ((l.filter wide).map (nrm n)), ∃ p ∈ l.filter wide, nrm n p = c := fun c hc => List.mem_map.mp ((sortPP_perm _).mem_iff.mp hc)
  refine ⟨h3, h40, ?_, fun c hc => ?_, sortPP_lt nd, fun c hc d hd => ?_⟩
  · rw [(sortPP_perm _).length_eq, List.length_map]; omega
  · obtain ⟨p, hp, rfl⟩ := mem c hc
    have f1 := facts p hp
    rcases val p hp with ⟨a1, a2⟩ | ⟨a1, a2⟩
    · rw [a2]; omega
    · rw [a2]; simp only; omega
  · obtain ⟨p, hp, rfl⟩ := mem c hc
    obtain ⟨q, hq, rfl⟩ := mem d hd
    have f1 := facts p hp
    have f2 := facts q hq
    have L := hlm p (List.mem_filter.mp hp).1 q (List.mem_filter.mp hq).1
    unfold lam at L
    rw [cross_eq]
    apply decide_eq_false
    rcases val p hp with ⟨a1, a2⟩ | ⟨a1, a2⟩ <;> rcases val q hq with ⟨b1, b2⟩ | ⟨b1, b2⟩ <;> rw [a2, b2] <;> (try simp only) <;> omega
def absI (c : Int) : Int := if c < 0 then -c else c
theorem absI_nn (c : Int) : 0 ≤ absI c := by unfold absI; split <;> omega
def o__law_bag : CT := fun args Φ Ψ => ∃ ns : List Int, args = [.d (.list (ns.map .int))] ∧ ns.length ≤ 63 ∧ ∀ ds, BagD ds → Φ (.nl ds) args
def o__law_pull : CT := fun args Φ Ψ => ∃ (b : Addr) (many : Int), args = [.bg b, .d (.int many)] ∧ 0 < many ∧ many.natAbs < 2 ^ 8000 ∧ ∀ r : Int, 0 ≤ r → r < many → Φ (.rd (.int r)) args
/-- the plan of the lines within the arc 1 .. n -/
def planOf (n : Int) (l : List (Int × Int)) : List (Int × Int) := sortPP ((l.filter wide).map (nrm n))
def sides (n : Int) : List (Int × Int) := ((List.range (n.toNat - 1)).map fun (i : Nat) => ((i : Int), (i : Int) + 1)) ++ [(0, n - 1)]
def linesOf (n : Int) (cs : List (Int × Int)) : List (Int × Int) := sortPP (sides n ++ cs)
def sideAt (n i : Int) : Int × Int := (if (i + 1) % n < i then (i + 1) % n else i, if (i + 1) % n > i then (i + 1) % n else i)
theorem sides_eq {n : Int} (h : 2 ≤ n) : ((List.range n.toNat).map fun (i : Nat) => sideAt n i) = sides n := by
  unfold sides
  rw [show n.toNat = (n.toNat - 1) + 1 by omega, List.range_succ, List.map_append, Nat.add_sub_cancel]
  congr 1
  · refine List.map_congr_left fun i hi => ?_
    have hi := List.mem_range.mp hi
    unfold sideAt
    rw [Int.emod_eq_of_lt (by omega) (by omega), if_neg (by omega), if_pos (by omega)]
  · show [sideAt n ((n.toNat - 1 : Nat) : Int)] = _
    have e : (((n.toNat - 1 : Nat) : Int) + 1) % n = 0 := by
      rw [show ((n.toNat - 1 : Nat) : Int) + 1 = n by omega]; exact Int.emod_self
    unfold sideAt
    rw [e, if_pos (by omega), if_neg (by omega)]
    congr 2
    omega
theorem sides_len {n : Int} (h : 2 ≤ n) : ((sides n).length : Int) = n := by
  unfold sides
  simp only [List.length_append, List.length_map, List.length_range, List.length_cons, List.length_nil]
  omega
theorem pp_unique : ∀ {l m : List (Int × Int)}, l.Perm m → l.Pairwise (fun p q => ltPP p q = true) → m.Pairwise (fun p q => ltPP p q = true) → l = m
  | [], m, h, _, _ => (List.nil_perm.mp h).symm
  | a :: l, [], h, _, _ => absurd h.length_eq (by simp)
  | a :: l, b :: m, h, h1, h2 => by
    have no : ∀ {p q : Int × Int}, ltPP p q = true → ltPP q p = true → False := fun {p q} x y => by
      have x := of_decide_eq_true x
      have y := of_decide_eq_true y
      omega
    have e : a = b := by
      have ha : a ∈ b :: m := h.mem_iff.mp (List.mem_cons_self ..)
      have hb : b ∈ a :: l := h.mem_iff.mpr (List.mem_cons_self ..)
      rcases List.mem_cons.mp ha with e | ha
      · exact e
      · rcases List.mem_cons.mp hb with e | hb
        · exact e.symm
        · exact (no ((List.pairwise_cons.mp h1).1 b hb) ((List.pairwise_cons.mp h2).1 a ha)).elim
    subst e
    rw [pp_unique (List.perm_cons a |>.mp h) (List.pairwise_cons.mp h1).2 (List.pairwise_cons.mp h2).2]
theorem sortPP_eq {l m : List (Int × Int)} (h : l.Perm m) (nd : l.Nodup) : sortPP l = sortPP m :=
  pp_unique ((sortPP_perm l).trans (h.trans (sortPP_perm m).symm)) (sortPP_lt nd) (sortPP_lt (h.nodup_iff.mp nd))
structure LinesOk (n : Int) (L : List (Int × Int)) : Prop where
  nd : L.Nodup
  lt : ∀ p ∈ L, 0 ≤ p.1 ∧ p.1 < p.2 ∧ p.2 < n
theorem sides_mem {n : Int} (h : 2 ≤ n) {p : Int × Int} (hp : p ∈ sides n) : (0 ≤ p.1 ∧ p.2 = p.1 + 1 ∧ p.2 < n) ∨ (p.1 = 0 ∧ p.2 = n - 1) := by
  unfold sides at hp
  rcases List.mem_append.mp hp with hp | hp
  · obtain ⟨i, hi, rfl⟩ := List.mem_map.mp hp
    have hi := List.mem_range.mp hi
    exact .inl ⟨Int.natCast_nonneg i, rfl, show (i : Int) + 1 < n by omega⟩
  · have e : p = (0, n - 1) := by simpa using hp
    subst e
    right
    exact ⟨rfl, rfl⟩
theorem sides_nodup {n : Int} (h : 3 ≤ n) : (sides n).Nodup := by
  unfold sides
  refine List.nodup_append.mpr ⟨?_, by simp, fun a ha b hb z => ?_⟩
  · exact List.pairwise_map.mpr (List.nodup_range.imp fun hne z => hne (by have := congrArg Prod.fst z; simp only at this; omega))
  · obtain ⟨i, hi, rfl⟩ := List.mem_map.mp ha
    have hi := List.mem_range.mp hi
    have e : b = (0, n - 1) := by simpa using hb
    rw [e] at z
    have z1 := congrArg Prod.fst z
    have z2 := congrArg Prod.snd z
    simp only at z1 z2
    omega
theorem lines_nodup {n : Int} {cs : List (Int × Int)} (h : IsPlan n cs) : (sides n ++ cs).Nodup := by
  refine List.nodup_append.mpr ⟨sides_nodup h.lo, ?_, fun a ha b hb z => ?_⟩
  · exact h.srt.imp fun {p q} hl z => by
      subst z
      have := of_decide_eq_true hl
      omega
  · subst z
    have c := h.cut a hb
    have := h.lo
    rcases sides_mem (by omega) ha with s | s <;> omega
theorem lines_ok {n : Int} {cs : List (Int × Int)} (h : IsPlan n cs) : LinesOk n (linesOf n cs) where
  nd := (sortPP_perm _).nodup_iff.mpr (lines_nodup h)
  lt := fun p hp => by
    have hp := (sortPP_perm _).mem_iff.mp hp
    have := h.lo
    rcases List.mem_append.mp hp with s | s
    · rcases sides_mem (by omega) s with s | s <;> omega
    · have := h.cut p s
      omega
theorem lines_len {n : Int} {cs : List (Int × Int)} (h : IsPlan n cs) : ((linesOf n cs).length : Int) = 2 * n - 3 := by
  unfold linesOf
  rw [(sortPP_perm _).length_eq, List.length_append]
  have := sides_len (n := n) (by have := h.lo; omega)
  have := h.len
  omega
def swp (p : Int × Int) : Int × Int := (p.2, p.1)
def both (L : List (Int × Int)) : List (Int × Int) := L.flatMap fun p => [p, swp p]
theorem shp_pp (L : List (Int × Int)) : SeqAt.shaped (.list (L.map ppD)) = true := by
  have h1 : ∀ M : List (Int × Int), PyData.canLayAll0 (M.map ppD) = true ∧ PyData.depthAll (M.map ppD) ≤ 1 := fun M => by
    induction M with
    | nil => exact ⟨rfl, Nat.zero_le _⟩
    | cons a M ih =>
      refine ⟨?_, ?_⟩
      · show (PyData.canLay0 (ppD a) && PyData.canLayAll0 (M.map ppD)) = true
        rw [ih.1]; rfl
      · show max (PyData.depth (ppD a)) (PyData.depthAll (M.map ppD)) ≤ 1
        exact Nat.max_le.mpr ⟨Nat.le_of_ble_eq_true rfl, ih.2⟩
  unfold SeqAt.shaped
  have e1 : PyData.canLay0 (.list (L.map ppD)) = true := (h1 L).1
  have e2 : PyData.depth (.list (L.map ppD)) ≤ 64 := by
    show PyData.depthAll (L.map ppD) + 1 ≤ 64
    have := (h1 L).2
    omega
  rw [e1, decide_eq_true e2]
  rfl
theorem any_pp (L : List (Int × Int)) (p : Int × Int) : ((L.map ppD).any fun z => PyData.eqv z (ppD p)) = decide (p ∈ L) := by
  have e : ∀ q : Int × Int, PyData.eqv (ppD q) (ppD p) = decide (q = p) := fun q => by
    have h := eqv_ii q.1 q.2 p.1 p.2
    refine h.trans (decide_eq_decide.mpr ⟨fun z => Prod.ext z.1 z.2, fun z => by subst z; exact ⟨rfl, rfl⟩⟩)
  induction L with
  | nil => rfl
  | cons a L ih =>
    show (PyData.eqv (ppD a) (ppD p) || (L.map ppD).any fun z => PyData.eqv z (ppD p)) = _
    rw [e, ih]
    by_cases h1 : a = p
    · simp [h1]
    · by_cases h2 : p ∈ L
      · simp [h2]
      · have h3 : ¬ p = a := fun z => h1 z.symm
        simp [h1, h2, h3]
def o__law_whole : CT := fun args Φ Ψ => ∃ d, args = [.d d] ∧ Φ (.rd (.bool (isTyB "int" d && !isTyB "bool" d))) args
theorem ti_bool_bool (v : Bool) : isTyB "bool" (.bool v) = true := by show (L2.kitB "bool" "bool").getD false = true; decide +kernel
theorem ti_int_bool (v : Int) : isTyB "bool" (.int v) = false := by show (L2.kitB "int" "bool").getD false = false; decide +kernel
theorem ti_int_int (v : Int) : isTyB "int" (.int v) = true := by show (L2.kitB "int" "int").getD false = true; decide +kernel
theorem ti_str_bool (v : Str) : isTyB "bool" (.str v) = false := by show (L2.kitB "str" "bool").getD false = false; decide +kernel
theorem ti_str_int (v : Str) : isTyB "int" (.str v) = false := by show (L2.kitB "str" "int").getD false = false; decide +kernel
theorem ti_str_str (v : Str) : isTyB "str" (.str v) = true := by show (L2.kitB "str" "str").getD false = true; decide +kernel
theorem ti_list_bool (v : List PyData) : isTyB "bool" (.list v) = false := by show (L2.kitB "list" "bool").getD false = false; decide +kernel
theorem ti_list_int (v : List PyData) : isTyB "int" (.list v) = false := by show (L2.kitB "list" "int").getD false = false; decide +kernel
theorem ti_list_str (v : List PyData) : isTyB "str" (.list v) = false := by show (L2.kitB "list" "str").getD false = false; decide +kernel
theorem ti_list_list (v : List PyData) : isTyB "list" (.list v) = true := by show (L2.kitB "list" "list").getD false = true; decide +kernel
theorem ti_list_tuple (v : List PyData) : isTyB "tuple" (.list v) = false := by show (L2.kitB "list" "tuple").getD false = false; decide +kernel
theorem ti_tuple_bool (v : List PyData) : isTyB "bool" (.tuple v) = false := by show (L2.kitB "tuple" "bool").getD false = false; decide +kernel
theorem ti_tuple_int (v : List PyData) : isTyB "int" (.tuple v) = false := by show (L2.kitB "tuple" "int").getD false = false; decide +kernel
theorem ti_tuple_str (v : List PyData) : isTyB "str" (.tuple v) = false := by show (L2.kitB "tuple" "str").getD false = false; decide +kernel
theorem ti_tuple_list (v : List PyData) : isTyB "list" (.tuple v) = false := by show (L2.kitB "tuple" "list").getD false = false; decide +kernel
theorem ti_tuple_tuple (v : List PyData) : isTyB "tuple" (.tuple v) = true := by show (L2.kitB "tuple" "tuple").getD false = true; decide +kernel
def okD : Nat → PyData → Bool
  | _, .none => true
  | _, .bool _ => true
  | _, .int _ => true
  | _, .str _ => true
  | N + 1, .list xs => decide (xs.length ≤ 10000000) && xs.all (okD N)
  | N + 1, .tuple xs => decide (xs.length ≤ 10000000) && xs.all (okD N)
  | _, _ => false
def o__law_alike (N : Nat) : CT := fun args Φ Ψ => ∃ x, args = [.d x, .d x] ∧ okD N x = true ∧ Φ (.rd (.bool true)) args
end Tx
namespace Tx
open PySem PySem.Spec PyProof.Rows L2 TL
def f__law_pull : PyData → KD → KX → Prop
  | .int m, K, _ => (0 < m ∧ m.natAbs < 2 ^ 8000) ∧ ∀ r : Int, 0 ≤ r → r < m → K (.int r)
  | _, _, _ => False
def c__law_pull : CT := fun args Φ Ψ => ∃ (b : Addr) (m : PyData) (K : KD) (E : KX), args = [.bg b, .d m] ∧ f__law_pull m K E ∧ (∀ r, K r → Φ (.rd r) args) ∧ ∀ c, E c → Ψ c args
def f__law_alike (x y : PyData) (K : KD) (_ : KX) : Prop := x = y ∧ okD 8 x = true ∧ K (.bool true)
def c__law_alike : CT := fun args Φ Ψ => ∃ (x y : PyData) (K : KD) (E : KX), args = [.d x, .d y] ∧ f__law_alike x y K E ∧ (∀ r, K r → Φ (.rd r) args) ∧ ∀ c, E c → Ψ c args
section
variable {n : Int} {cs : List (Int × Int)} {p q : Int × Int} {K : KD} {K2 : PyData → PyData → Prop} {Kb : KB} {m : Int} {E : KX} {x y : PyData}
theorem p_un_pl : un2 (plD n cs) K2 = K2 (.int n) (.tuple (cs.map ppD)) := rfl
theorem p_ix_pl0 : ixM (plD n cs) (.int 0) K = K (.int n) := rfl
theorem p_ix_pl1 : ixM (plD n cs) (.int 1) K = K (.tuple (cs.map ppD)) := rfl
theorem p_un_pp : un2 (ppD p) K2 = K2 (.int p.1) (.int p.2) := rfl
theorem p_ix_pp0 : ixM (ppD p) (.int 0) K = K (.int p.1) := rfl
theorem p_ix_pp1 : ixM (ppD p) (.int 1) K = K (.int p.2) := rfl
theorem p_mk {i j : Int} : PyData.tuple [.int i, .int j] = ppD (i, j) := rfl
theorem shp_p (p : Int × Int) : SeqAt.shaped (ppD p) = true := rfl
theorem p_eq : eqM (ppD p) (ppD q) Kb = Kb (decide (p = q)) := by
  show (SeqAt.shaped (ppD p) = true ∧ SeqAt.shaped (ppD q) = true ∧ Kb (PyData.eqv (ppD p) (ppD q))) = _
  rw [show PyData.eqv (ppD p) (ppD q) = decide (p = q) by unfold ppD; rw [eqv_ii]; congr 1; exact propext ⟨fun h => Prod.ext h.1 h.2, fun h => by rw [h]; exact ⟨rfl, rfl⟩⟩]
  simp [shp_p]
theorem p_ne : neM (ppD p) (ppD q) Kb = Kb (!decide (p = q)) := by
  show (SeqAt.shaped (ppD p) = true ∧ SeqAt.shaped (ppD q) = true ∧ Kb (!PyData.eqv (ppD p) (ppD q))) = _
  rw [show PyData.eqv (ppD p) (ppD q) = decide (p = q) by unfold ppD; rw [eqv_ii]; congr 1; exact propext ⟨fun h => Prod.ext h.1 h.2, fun h => by rw [h]; exact ⟨rfl, rfl⟩⟩]
  simp [shp_p]
theorem p_in {L : List (Int × Int)} : inM (ppD p) (.list (L.map ppD)) Kb = Kb (decide (p ∈ L)) := by
  show inLstM (ppD p) (L.map ppD) Kb = _
  unfold inLstM
  rw [show fl (ppD p) = none from rfl]
  rw [any_pp]
  simp [shp_p, shp_pp]
theorem p_notIn {L : List (Int × Int)} : notInM (ppD p) (.list (L.map ppD)) Kb = Kb (!decide (p ∈ L)) := by unfold notInM; rw [p_in]
theorem p_lt : ltM (ppD p) (ppD q) Kb = Kb (ltPP p q) := by
  show Kb (HT.lexLt [p.1, p.2] [q.1, q.2]) = _
  rw [ltPP_lex]
theorem e__law_pull (h : 0 < m) (h2 : m < 1000000) : f__law_pull (.int m) K E = ∀ r : Int, 0 ≤ r → r < m → K (.int r) := by
  show ((0 < m ∧ m.natAbs < 2 ^ 8000) ∧ _) = _
  have e : m.natAbs < 2 ^ 8000 := nb (Nat.lt_of_lt_of_le (show m.natAbs < 2 ^ 20 by omega) (Nat.pow_le_pow_right (by decide) (by decide)))
  simp [h, e]
theorem e__law_alike (h : okD 8 x = true) : f__law_alike x x K E = K (.bool true) := by unfold f__law_alike; simp [h]
end
end Tx
namespace Tx
open PySem PySem.Spec PyProof.Rows L2 TL
@[irreducible] def f_pair_of (one : PyData) (other : PyData) (K : KD) (E : KX) : Prop :=
  min2M one other fun r1 =>
  max2M one other fun r2 =>
  K (.tuple [r1, r2])
def c_pair_of : CT := fun args Φ Ψ => ∃ (one : PyData) (other : PyData) (K : KD) (E : KX), args = [.d one, .d other] ∧ f_pair_of one other K E ∧ (∀ r, K r → Φ (.rd r) args) ∧ ∀ c, E c → Ψ c args
@[irreducible] def f_follows (faces : PyData) (face : PyData) (K : KD) (E : KX) : Prop :=
  addM face (.int 1) fun r1 =>
  modM r1 faces fun r2 =>
  K r2
def c_follows : CT := fun args Φ Ψ => ∃ (faces : PyData) (face : PyData) (K : KD) (E : KX), args = [.d faces, .d face] ∧ f_follows faces face K E ∧ (∀ r, K r → Φ (.rd r) args) ∧ ∀ c, E c → Ψ c args
@[irreducible] def f_all_lines (plan : PyData) (K : KL) (E : KX) : Prop :=
  un2 plan fun faces1 cuts2 =>
  rngM (.int 0) faces1 fun xs4 =>
  lcM (fun face5 kp sk => f_follows faces1 face5 (fun r7 =>
  f_pair_of face5 r7 (fun r8 =>
  kp r8) (fun _ => False)) (fun _ => False)) (fun l6 =>
  listM cuts2 fun l9 =>
  addM (.list l6) (.list l9) fun r10 =>
  sortM r10 fun l11 =>
  K l11) xs4 []
def c_all_lines : CT := fun args Φ Ψ => ∃ (plan : PyData) (K : KL) (E : KX), args = [.d plan] ∧ f_all_lines plan K E ∧ (∀ r, K r → Φ (.nl r) args) ∧ ∀ c, E c → Ψ c args
@[irreducible] def f__law_whole (l_found : PyData) (K : KD) (E : KX) : Prop :=
  andM (fun Q => Q (isTyB "int" l_found)) (fun Q => Q (!(isTyB "bool" l_found))) fun b1 =>
  K (.bool b1)
def c__law_whole : CT := fun args Φ Ψ => ∃ (l_found : PyData) (K : KD) (E : KX), args = [.d l_found] ∧ f__law_whole l_found K E ∧ (∀ r, K r → Φ (.rd r) args) ∧ ∀ c, E c → Ψ c args
section
variable {K : KD} {Kl : KL} {E : KX} {n i j : Int} {cs : List (Int × Int)} {p q : Int × Int}
def nrmP (i j : Int) : Int × Int := (if j < i then j else i, if j > i then j else i)
theorem e_pair_of : f_pair_of (.int i) (.int j) K E = K (ppD (nrmP i j)) := by
  unfold f_pair_of; simp only [q_add_ii, q_add_ss, q_add_ll, q_add_tt, q_addL, q_sub, q_mul, q_div, q_mod, q_neg, q_bool, q_eq_ii, q_eq_ss, q_eq_bb, q_ne_ii, q_ne_ss, q_ne_bb, q_lt, q_le, q_gt, q_ge, q_un2, q_un3, q_un4, q_intO, q_len_l, q_len_t, q_len_s, q_abs, q_int_i, q_int_b, q_tup_l, q_tup_t, q_list_l, q_list_t, q_min, q_max, q_it_l, q_it_t, q_rng, q_enu_l, q_enu_t, q_rev, q_sl_l, q_sl_t, q_sl_s, q_slL, q_all, q_any, q_sum, q_sort_pp, q_and, q_or, q_ite, q_join, cond_true, cond_false, true_and, and_true, decide_eq_true_eq, decide_true, decide_false, p_un_pl, p_ix_pl0, p_ix_pl1, p_un_pp, p_ix_pp0, p_ix_pp1, p_mk, p_eq, p_ne, p_in, p_notIn, p_lt]; rfl
theorem e_follows (h : 0 < n) : f_follows (.int n) (.int i) K E = K (.int ((i + 1) % n)) := by
  unfold f_follows; simp only [q_add_ii, q_add_ss, q_add_ll, q_add_tt, q_addL, q_sub, q_mul, q_div, q_mod, q_neg, q_bool, q_eq_ii, q_eq_ss, q_eq_bb, q_ne_ii, q_ne_ss, q_ne_bb, q_lt, q_le, q_gt, q_ge, q_un2, q_un3, q_un4, q_intO, q_len_l, q_len_t, q_len_s, q_abs, q_int_i, q_int_b, q_tup_l, q_tup_t, q_list_l, q_list_t, q_min, q_max, q_it_l, q_it_t, q_rng, q_enu_l, q_enu_t, q_rev, q_sl_l, q_sl_t, q_sl_s, q_slL, q_all, q_any, q_sum, q_sort_pp, q_and, q_or, q_ite, q_join, cond_true, cond_false, true_and, and_true, decide_eq_true_eq, decide_true, decide_false, p_un_pl, p_ix_pl0, p_ix_pl1, p_un_pp, p_ix_pp0, p_ix_pp1, p_mk, p_eq, p_ne, p_in, p_notIn, p_lt, h]
theorem e_all_lines (h2 : 2 ≤ n) (hn : n ≤ 1000) (hc : cs.length ≤ 1000) : f_all_lines (plD n cs) Kl E = Kl ((linesOf n cs).map ppD) := by
  unfold f_all_lines
  have hsd := sides_len h2
  have hsl := sizeLine_eq
  have g1 : -1000000 ≤ n ∧ n ≤ 1000000 := by omega
  simp only [q_add_ii, q_add_ss, q_add_ll, q_add_tt, q_addL, q_sub, q_mul, q_div, q_mod, q_neg, q_bool, q_eq_ii, q_eq_ss, q_eq_bb, q_ne_ii, q_ne_ss, q_ne_bb, q_lt, q_le, q_gt, q_ge, q_un2, q_un3, q_un4, q_intO, q_len_l, q_len_t, q_len_s, q_abs, q_int_i, q_int_b, q_tup_l, q_tup_t, q_list_l, q_list_t, q_min, q_max, q_it_l, q_it_t, q_rng, q_enu_l, q_enu_t, q_rev, q_sl_l, q_sl_t, q_sl_s, q_slL, q_all, q_any, q_sum, q_sort_pp, q_and, q_or, q_ite, q_join, cond_true, cond_false, true_and, and_true, decide_eq_true_eq, decide_true, decide_false, p_un_pl, p_ix_pl0, p_ix_pl1, p_un_pp, p_ix_pp0, p_ix_pp1, p_mk, p_eq, p_ne, p_in, p_notIn, p_lt, range0]
  rw [q_lc_map _ _ (fun i : Nat => ppD (sideAt n i)) fun a ha k s => by
    simp only [e_follows (n := n) (by omega : 0 < n), e_pair_of]; rfl]
  have em : ((List.range n.toNat).map fun (j : Nat) => ppD (sideAt n j)) = (sides n).map ppD := by rw [← sides_eq h2, List.map_map]; rfl
  rw [List.nil_append, em]
  have g2 : ((sides n).map ppD).length + (cs.map ppD).length ≤ sizeLine := by simp only [List.length_map]; omega
  simp only [g1, g2, true_and, ← List.map_append, q_sort_pp, srt_pp, linesOf]
  simp
section
variable (hp : IsPlan n cs)
include hp
theorem e_all_lines' : f_all_lines (plD n cs) Kl E = Kl ((linesOf n cs).map ppD) := by
  have := hp.len; have := hp.hi; have := hp.lo
  exact e_all_lines (by omega) (by omega) (by omega)
end
theorem okD_int (N : Nat) (i : Int) : okD N (.int i) = true := by cases N <;> rfl
theorem okD_p (N : Nat) (p : Int × Int) : okD (N + 1) (ppD p) = true := by
  show (decide (2 ≤ 10000000) && (okD N (.int p.1) && (okD N (.int p.2) && true))) = true
  rw [okD_int, okD_int]
  rfl
end
end Tx
namespace Tx
open PySem PySem.Spec PyProof.Rows L2 TL
@[irreducible] def f_neighbours (plan : PyData) (K : KL) (E : KX) : Prop :=
  un2 plan fun faces1 cuts2 =>
  rngM (.int 0) faces1 fun xs4 =>
  f_all_lines plan (fun r10 =>
  itM (.list r10) fun xs9 =>
  forM (fun p24 found27 N25 B26 => un2 p24 fun low30 high31 =>
  rowM found27 low30 fun l33 =>
  subM high31 low30 fun r34 =>
  modM r34 faces1 fun r35 =>
  rowAppM found27 low30 r35 fun rows36 =>
  rowM rows36 high31 fun l39 =>
  subM low30 high31 fun r40 =>
  modM r40 faces1 fun r41 =>
  rowAppM rows36 high31 r41 fun rows42 =>
  N25 rows42) (fun found11 =>
  rngM (.int 0) faces1 fun xs14 =>
  lcM (fun face15 kp sk => rowM found11 face15 fun l18 =>
  sortM (.list l18) fun l19 =>
  itM (.list l19) fun xs17 =>
  lcM (fun step20 kp sk => addM face15 step20 fun r22 =>
  modM r22 faces1 fun r23 =>
  kp r23) (fun l21 =>
  kp (.list l21)) xs17 []) (fun l16 =>
  K l16) xs14 []) xs9 (List.replicate xs4.length ([] : List PyData))) E
def c_neighbours : CT := fun args Φ Ψ => ∃ (plan : PyData) (K : KL) (E : KX), args = [.d plan] ∧ f_neighbours plan K E ∧ (∀ r, K r → Φ (.nl r) args) ∧ ∀ c, E c → Ψ c args
abbrev sortI (ns : List Int) : List Int := ns.mergeSort fun a b => decide (a ≤ b)
theorem srt_ints (ns : List Int) : srt (ns.map .int) = (sortI ns).map .int := by
  unfold srt sortI
  have e := PySem.W.dataLe_int (β := Int) (fun p => p)
  exact (List.map_mergeSort (r := fun a b => decide (a ≤ b)) (s := PySem.W.dataLe false id) fun a _ b _ => (congrFun (congrFun e a) b).symm).symm
theorem q_sort_ints (ns : List Int) {Kl : KL} : sortM (.list (ns.map .int)) Kl = Kl ((sortI ns).map .int) := by
  rw [← srt_ints]
  show ((_ ∧ _) : Prop) = _
  refine propext (and_iff_right ⟨.of fun _ _ => by simp [PySem.W.alike], .others fun b => ⟨(by intro z; cases z), fun xs z => (by cases z)⟩, fun d hd => ?_⟩)
  obtain ⟨p, _, rfl⟩ := List.mem_map.mp hd
  rfl
theorem lt_unique : ∀ {l m : List Int}, l.Perm m → l.Pairwise (· < ·) → m.Pairwise (· < ·) → l = m
  | [], m, h, _, _ => (List.nil_perm.mp h).symm
  | a :: l, [], h, _, _ => absurd h.length_eq (by simp)
  | a :: l, b :: m, h, h1, h2 => by
    have e : a = b := by
      have ha : a ∈ b :: m := h.mem_iff.mp (List.mem_cons_self ..)
      have hb : b ∈ a :: l := h.mem_iff.mpr (List.mem_cons_self ..)
      rcases List.mem_cons.mp ha with e | ha
      · exact e
      · rcases List.mem_cons.mp hb with e | hb
        · exact e.symm
        · have := (List.pairwise_cons.mp h1).1 b hb
          have := (List.pairwise_cons.mp h2).1 a ha
          omega
    subst e
    rw [lt_unique (List.perm_cons a |>.mp h) (List.pairwise_cons.mp h1).2 (List.pairwise_cons.mp h2).2]
theorem sortI_lt {ns : List Int} (nd : ns.Nodup) : (sortI ns).Pairwise (· < ·) := by
  have h1 : (sortI ns).Pairwise fun a b => decide (a ≤ b) = true := List.pairwise_mergeSort (fun a b c h1 h2 => by have := of_decide_eq_true h1; have := of_decide_eq_true h2; exact decide_eq_true (by omega)) (fun a b => by
    rcases Int.le_total a b with h | h <;> simp [h]) ns
  have h2 : (sortI ns).Nodup := (List.mergeSort_perm ns _).nodup_iff.mpr nd
  have h3 := h1.and h2
  exact h3.imp fun ⟨a, b⟩ => by have := of_decide_eq_true a; omega
/-- sorted of items without doubles: any rising list with the same items -/
theorem sortI_eq {ns ms : List Int} (nd : ns.Nodup) (h : ms.Pairwise (· < ·)) (m : ∀ x, x ∈ ns ↔ x ∈ ms) : sortI ns = ms := by
  have nd2 : ms.Nodup := h.imp fun h => Int.ne_of_lt h
  refine lt_unique (((List.mergeSort_perm ns _)).trans ?_) (sortI_lt nd) h
  exact (List.perm_ext_iff_of_nodup nd nd2).mpr m
def tieB (n : Int) (cs : List (Int × Int)) (a b : Int) : Bool := decide ((a, b) ∈ both (linesOf n cs))
/-- the corners that have a line with f, from the one that follows it on -/
def near (n : Int) (cs : List (Int × Int)) (f : Int) : List Int := ((List.range (n.toNat - 1)).filter fun (k : Nat) => tieB n cs f ((f + k + 1) % n)).map fun (k : Nat) => (f + k + 1) % n
def stp (n : Int) (L : List (Int × Int)) (f : Int) : List Int := L.flatMap fun p => (if p.1 = f then [(p.2 - p.1) % n] else []) ++ (if p.2 = f then [(p.1 - p.2) % n] else [])
theorem set_rg {β : Type} (m : Nat) (f : Nat → β) (j : Nat) (y : β) : ((List.range m).map f).set j y = (List.range m).map fun x => if x = j then y else f x := by
  refine List.ext_getElem? fun i => ?_
  rw [List.getElem?_set, List.getElem?_map, List.getElem?_map, List.length_map, List.length_range]
  by_cases h : j = i
  · subst h
    rw [if_pos rfl]
    by_cases h2 : j < m
    · rw [if_pos h2, List.getElem?_range h2]; simp
    · rw [if_neg h2, List.getElem?_eq_none (by simpa using h2)]; rfl
  · rw [if_neg h]
    by_cases h2 : i < m
    · rw [List.getElem?_range h2]
      show some (f i) = some (if i = j then y else f i)
      rw [if_neg fun z => h z.symm]
    · rw [List.getElem?_eq_none (by simpa using h2)]; rfl
section
variable {K : KD} {Kl : KL} {E : KX} {n i j : Int} {cs : List (Int × Int)} {p q : Int × Int}
theorem rg_at {β : Type} {m : Nat} {f : Nat → β} {a : Int} (h0 : 0 ≤ a) (h : a < m) : atI ((List.range m).map f) a = some (f a.toNat) := by
  refine at_nat h0 ?_
  rw [List.getElem?_map, List.getElem?_range (by omega)]; rfl
theorem rg_ixN {m : Nat} {a : Int} (h0 : 0 ≤ a) (h : a < m) : ixN m a = some a.toNat := by
  have := rg_at (β := Nat) (f := fun x => x) h0 h
  unfold atI at this
  obtain ⟨j, h1, h2⟩ := Option.bind_eq_some_iff.mp this
  rw [List.length_map, List.length_range] at h1
  rw [h1]
  rw [List.getElem?_map] at h2
  obtain ⟨k, h3, h4⟩ := Option.map_eq_some_iff.mp h2
  obtain ⟨h5, h6⟩ := List.getElem?_eq_some_iff.mp h3
  rw [List.getElem_range] at h6
  have h4 : k = a.toNat := h4
  congr 1
  omega
theorem row_rg {m : Nat} {f : Nat → List PyData} {a : Int} (h0 : 0 ≤ a) (h : a < m) : rowM ((List.range m).map f) (.int a) Kl = Kl (f a.toNat) := by
  show (match atI _ a with | some l => Kl l | none => False) = _
  rw [rg_at h0 h]
theorem rowApp_rg {m : Nat} {f : Nat → List PyData} {a : Int} {y : PyData} {Kr : List (List PyData) → Prop} (h0 : 0 ≤ a) (h : a < m) (hl : (f a.toNat).length < sizeLine) : rowAppM ((List.range m).map f) (.int a) y Kr = Kr ((List.range m).map fun x => if x = a.toNat then f x ++ [y] else f x) := by
  show (match ixN ((List.range m).map f).length a with | some j => (match ((List.range m).map f)[j]? with | some l => l.length < sizeLine ∧ Kr (((List.range m).map f).set j (l ++ [y])) | none => False) | none => False) = _
  rw [List.length_map, List.length_range, rg_ixN h0 h]
  simp only [List.getElem?_map, List.getElem?_range (show a.toNat < m by omega), Option.map_some]
  rw [set_rg]
  refine Eq.trans (propext (and_iff_right hl)) ?_
  congr 1
  refine List.map_congr_left fun x _ => ?_
  by_cases e : x = a.toNat
  · subst e; simp
  · simp [e]
variable (hp : IsPlan n cs)
include hp
theorem stp_len (L : List (Int × Int)) (f : Int) : (stp n L f).length ≤ 2 * L.length := by
  unfold stp
  induction L with
  | nil => simp
  | cons a L ih =>
    rw [List.flatMap_cons, List.length_append, List.length_append, List.length_cons]
    have e1 : (if a.1 = f then [(a.2 - a.1) % n] else []).length ≤ 1 := by split <;> simp
    have e2 : (if a.2 = f then [(a.1 - a.2) % n] else []).length ≤ 1 := by split <;> simp
    omega
theorem mem_both {L : List (Int × Int)} {a b : Int} : (a, b) ∈ both L ↔ (a, b) ∈ L ∨ (b, a) ∈ L := by
  unfold both
  rw [List.mem_flatMap]
  refine ⟨fun ⟨p, h1, h2⟩ => ?_, fun h => ?_⟩
  · have h2 : (a, b) = p ∨ (a, b) = swp p := by simpa using h2
    rcases h2 with h | h
    · exact .inl (h ▸ h1)
    · have : p = (b, a) := by
        unfold swp at h
        exact Prod.ext (congrArg Prod.snd h).symm (congrArg Prod.fst h).symm
      exact .inr (this ▸ h1)
  · rcases h with h | h
    · exact ⟨_, h, by simp⟩
    · exact ⟨_, h, by simp [swp]⟩
theorem tie_lt {a b : Int} (h : tieB n cs a b = true) : 0 ≤ a ∧ a < n ∧ 0 ≤ b ∧ b < n ∧ a ≠ b := by
  have lok := lines_ok hp
  rcases (mem_both hp).mp (of_decide_eq_true h) with h | h
  · have := lok.lt _ h; simp only at this; omega
  · have := lok.lt _ h; simp only at this; omega
theorem emod_ab {a b : Int} (h1 : 0 ≤ a) (h2 : a < b) (h3 : b < n) : (b - a) % n = b - a ∧ (a - b) % n = a - b + n := by
  refine ⟨Int.emod_eq_of_lt (by omega) (by omega), ?_⟩
  rw [← Int.add_emod_right, Int.emod_eq_of_lt (by omega) (by omega)]
theorem stp_near (f : Nat) (hf : (f : Int) < n) : (sortI (stp n (linesOf n cs) f)).map (fun s => ((f : Int) + s) % n) = near n cs f := by
  have lok := lines_ok hp
  have h3 := hp.lo
  have el : ∀ p ∈ linesOf n cs, ∀ x, x ∈ ((if p.1 = (f : Int) then [(p.2 - p.1) % n] else []) ++ (if p.2 = (f : Int) then [(p.1 - p.2) % n] else [])) ↔ (p.1 = f ∧ x = p.2 - p.1) ∨ (p.2 = f ∧ x = p.1 - p.2 + n) := fun p hm x => by
    have pl := lok.lt p hm
    obtain ⟨e1, e2⟩ := emod_ab hp pl.1 pl.2.1 pl.2.2
    rw [List.mem_append, e1, e2]
    by_cases h1 : p.1 = (f : Int) <;> by_cases h2 : p.2 = (f : Int) <;> simp [h1, h2]
  have nd : (stp n (linesOf n cs) f).Nodup := by
    unfold stp
    refine List.pairwise_flatMap.mpr ⟨fun p hm => ?_, ?_⟩
    · have pl := lok.lt p hm
      by_cases h1 : p.1 = (f : Int)
      · rw [if_pos h1, if_neg (by omega)]; simp
      · rw [if_neg h1]; split <;> simp
    · refine List.Pairwise.imp_of_mem (fun {p q} hm hq hne x hx y hy e => ?_) lok.nd
      subst e
      have pl := lok.lt p hm
      have ql := lok.lt q hq
      have hx := (el p hm x).mp hx
      have hy := (el q hq x).mp hy
      exact hne (Prod.ext (by omega) (by omega))
  have e : sortI (stp n (linesOf n cs) f) = ((List.range (n.toNat - 1)).filter fun (k : Nat) => tieB n cs f (((f : Int) + k + 1) % n)).map fun (k : Nat) => (k : Int) + 1 := by
    refine sortI_eq nd ?_ fun x => ?_
    · refine List.pairwise_map.mpr ((List.pairwise_lt_range.filter _).imp fun h => by omega)
    · unfold stp
      rw [List.mem_flatMap, List.mem_map]
      refine ⟨fun ⟨p, hm, hx⟩ => ?_, fun ⟨k, hk, hx⟩ => ?_⟩
      · have pl := lok.lt p hm
        have hx := (el p hm x).mp hx
        refine ⟨(x - 1).toNat, List.mem_filter.mpr ⟨List.mem_range.mpr (by omega), ?_⟩, by omega⟩
        have ex : ((f : Int) + ((x - 1).toNat : Nat) + 1) = f + x := by omega
        rw [ex]
        unfold tieB
        refine decide_eq_true ((mem_both hp).mpr ?_)
        rcases hx with ⟨h1, h2⟩ | ⟨h1, h2⟩
        · rw [Int.emod_eq_of_lt (by omega) (by omega), show (f : Int) + x = p.2 by omega, ← h1]
          exact .inl hm
        · rw [show (f : Int) + x = p.1 + n by omega, Int.add_emod_right, Int.emod_eq_of_lt (by omega) (by omega), ← h1]
          exact .inr hm
      · obtain ⟨hk1, hk2⟩ := List.mem_filter.mp hk
        have hk1 := List.mem_range.mp hk1
        have hb := (mem_both hp).mp (of_decide_eq_true hk2)
        have eg : ((f : Int) + k + 1) % n = if (f : Int) + k + 1 < n then (f : Int) + k + 1 else (f : Int) + k + 1 - n := by
          split
          · exact Int.emod_eq_of_lt (by omega) (by omega)
          · rw [← Int.sub_emod_right, Int.emod_eq_of_lt (by omega) (by omega)]
        rw [eg] at hb
        rcases hb with hb | hb
        · have pl := lok.lt _ hb
          simp only at pl
          refine ⟨_, hb, (el _ hb x).mpr (.inl ⟨rfl, ?_⟩)⟩
          simp only
          split at pl <;> rename_i h9 <;> simp only [h9, if_true, if_false] <;> omega
        · have pl := lok.lt _ hb
          simp only at pl
          refine ⟨_, hb, (el _ hb x).mpr (.inr ⟨rfl, ?_⟩)⟩
          simp only
          split at pl <;> rename_i h9 <;> simp only [h9, if_true, if_false] <;> omega
  rw [e, List.map_map]
  unfold near
  refine List.map_congr_left fun k _ => ?_
  show ((f : Int) + ((k : Int) + 1)) % n = _
  rw [Int.add_assoc]
theorem e_neighbours : f_neighbours (plD n cs) Kl E = Kl ((List.range n.toNat).map fun (i : Nat) => .list ((near n cs i).map .int)) := by
  have hsl := sizeLine_eq
  have lok := lines_ok hp
  have llen := lines_len hp
  have h3 := hp.lo
  have h40 := hp.hi
  unfold f_neighbours
  simp only [q_add_ii, q_add_ss, q_add_ll, q_add_tt, q_addL, q_sub, q_mul, q_div, q_mod, q_neg, q_bool, q_eq_ii, q_eq_ss, q_eq_bb, q_ne_ii, q_ne_ss, q_ne_bb, q_lt, q_le, q_gt, q_ge, q_un2, q_un3, q_un4, q_intO, q_len_l, q_len_t, q_len_s, q_abs, q_int_i, q_int_b, q_tup_l, q_tup_t, q_list_l, q_list_t, q_min, q_max, q_it_l, q_it_t, q_rng, q_enu_l, q_enu_t, q_rev, q_sl_l, q_sl_t, q_sl_s, q_slL, q_all, q_any, q_sum, q_sort_pp, q_and, q_or, q_ite, q_join, cond_true, cond_false, true_and, and_true, decide_eq_true_eq, decide_true, decide_false, p_un_pl, p_ix_pl0, p_ix_pl1, p_un_pp, p_ix_pp0, p_ix_pp1, p_mk, p_eq, p_ne, p_in, p_notIn, p_lt, e_all_lines' hp, range0]
  refine Eq.trans (propext (and_iff_right (by omega))) ?_
  have base : List.replicate ((List.range n.toNat).map fun (i : Nat) => PyData.int i).length ([] : List PyData) = (fun i => (List.range n.toNat).map fun (f : Nat) => (stp n ((linesOf n cs).take i) f).map PyData.int) 0 := by
    refine List.ext_getElem? fun i => ?_
    rw [List.length_map, List.length_range]
    by_cases h : i < n.toNat
    · rw [List.getElem?_replicate, if_pos h, List.getElem?_map, List.getElem?_range h]; rfl
    · rw [List.getElem?_replicate, if_neg h, List.getElem?_eq_none (by simpa using h)]
  rw [base, q_for_seq (linesOf n cs) ppD (fun i => (List.range n.toNat).map fun (f : Nat) => (stp n ((linesOf n cs).take i) f).map PyData.int) fun i p hp1 N => ?_]
  · simp only [q_add_ii, q_add_ss, q_add_ll, q_add_tt, q_addL, q_sub, q_mul, q_div, q_mod, q_neg, q_bool, q_eq_ii, q_eq_ss, q_eq_bb, q_ne_ii, q_ne_ss, q_ne_bb, q_lt, q_le, q_gt, q_ge, q_un2, q_un3, q_un4, q_intO, q_len_l, q_len_t, q_len_s, q_abs, q_int_i, q_int_b, q_tup_l, q_tup_t, q_list_l, q_list_t, q_min, q_max, q_it_l, q_it_t, q_rng, q_enu_l, q_enu_t, q_rev, q_sl_l, q_sl_t, q_sl_s, q_slL, q_all, q_any, q_sum, q_sort_pp, q_and, q_or, q_ite, q_join, cond_true, cond_false, true_and, and_true, decide_eq_true_eq, decide_true, decide_false, p_un_pl, p_ix_pl0, p_ix_pl1, p_un_pp, p_ix_pp0, p_ix_pp1, p_mk, p_eq, p_ne, p_in, p_notIn, p_lt, List.take_length]
    refine Eq.trans (propext (and_iff_right (by omega))) ?_
    rw [q_lc_map _ _ (fun (i : Nat) => PyData.list ((near n cs i).map .int)) fun f hf k s => ?_]
    · rfl
    · have hf := List.mem_range.mp hf
      rw [row_rg (by omega) (by omega), Int.toNat_natCast, q_sort_ints]
      rw [q_lc_map _ _ (fun s => PyData.int (((f : Int) + s) % n)) fun s _ k s => by simp only [q_add_ii, q_add_ss, q_add_ll, q_add_tt, q_addL, q_sub, q_mul, q_div, q_mod, q_neg, q_bool, q_eq_ii, q_eq_ss, q_eq_bb, q_ne_ii, q_ne_ss, q_ne_bb, q_lt, q_le, q_gt, q_ge, q_un2, q_un3, q_un4, q_intO, q_len_l, q_len_t, q_len_s, q_abs, q_int_i, q_int_b, q_tup_l, q_tup_t, q_list_l, q_list_t, q_min, q_max, q_it_l, q_it_t, q_rng, q_enu_l, q_enu_t, q_rev, q_sl_l, q_sl_t, q_sl_s, q_slL, q_all, q_any, q_sum, q_sort_pp, q_and, q_or, q_ite, q_join, cond_true, cond_false, true_and, and_true, decide_eq_true_eq, decide_true, decide_false, p_un_pl, p_ix_pl0, p_ix_pl1, p_un_pp, p_ix_pp0, p_ix_pp1, p_mk, p_eq, p_ne, p_in, p_notIn, p_lt, show 0 < n by omega]]
      rw [List.nil_append, ← stp_near hp f (by omega), List.map_map]
      rfl
  · have hi := (List.getElem?_eq_some_iff.mp hp1).1
    have pl := lok.lt p (List.mem_of_getElem? hp1)
    have b1 : ∀ f : Int, (stp n ((linesOf n cs).take i) f).length ≤ 2 * i := fun f => by
      have := stp_len hp ((linesOf n cs).take i) f
      rw [List.length_take] at this
      omega
    have c1 := b1 p.1
    have c2 := b1 p.2
    simp only [q_add_ii, q_add_ss, q_add_ll, q_add_tt, q_addL, q_sub, q_mul, q_div, q_mod, q_neg, q_bool, q_eq_ii, q_eq_ss, q_eq_bb, q_ne_ii, q_ne_ss, q_ne_bb, q_lt, q_le, q_gt, q_ge, q_un2, q_un3, q_un4, q_intO, q_len_l, q_len_t, q_len_s, q_abs, q_int_i, q_int_b, q_tup_l, q_tup_t, q_list_l, q_list_t, q_min, q_max, q_it_l, q_it_t, q_rng, q_enu_l, q_enu_t, q_rev, q_sl_l, q_sl_t, q_sl_s, q_slL, q_all, q_any, q_sum, q_sort_pp, q_and, q_or, q_ite, q_join, cond_true, cond_false, true_and, and_true, decide_eq_true_eq, decide_true, decide_false, p_un_pl, p_ix_pl0, p_ix_pl1, p_un_pp, p_ix_pp0, p_ix_pp1, p_mk, p_eq, p_ne, p_in, p_notIn, p_lt, show 0 < n by omega]
    rw [row_rg (by omega) (by omega), rowApp_rg (by omega) (by omega) (by rw [List.length_map, show ((p.1.toNat : Nat) : Int) = p.1 by omega]; omega)]
    have ne : p.2.toNat ≠ p.1.toNat := by omega
    rw [row_rg (by omega) (by omega), rowApp_rg (by omega) (by omega) (by
      rw [if_neg ne, List.length_map, show ((p.2.toNat : Nat) : Int) = p.2 by omega]; omega)]
    refine congrArg N (List.map_congr_left fun x hx => ?_)
    have et : stp n ((linesOf n cs).take (i + 1)) x = stp n ((linesOf n cs).take i) x ++ ((if p.1 = (x : Int) then [(p.2 - p.1) % n] else []) ++ (if p.2 = (x : Int) then [(p.1 - p.2) % n] else [])) := by
      unfold stp
      rw [List.take_succ, hp1, List.flatMap_append]
      simp
    rw [et, List.map_append]
    by_cases h1 : x = p.1.toNat
    · have h2 : x ≠ p.2.toNat := by omega
      rw [if_neg h2, if_pos h1, if_pos (by omega), if_neg (by omega)]
      simp
    · rw [if_neg h1, if_neg (show ¬ p.1 = (x : Int) by omega)]
      by_cases h2 : x = p.2.toNat
      · rw [if_pos h2, if_pos (by omega)]; simp
      · rw [if_neg h2, if_neg (by omega)]; simp
end
end Tx
namespace Tx
open PySem PySem.Spec PyProof.Rows L2 TL
section
variable {K : KD} {Kl : KL} {E : KX} {Kb : KB} {n i j : Int} {cs : List (Int × Int)} {p q : Int × Int}
theorem q_ixr {m : Nat} {f : Nat → PyData} {a : Int} (h0 : 0 ≤ a) (h : a < m) : ixM (.list ((List.range m).map f)) (.int a) K = K (f a.toNat) := by
  show (match atI ((List.range m).map f) a with | some y => K y | none => False) = _
  rw [rg_at h0 h]
variable (hp : IsPlan n cs)
include hp
theorem mem_near {a b : Int} (h : tieB n cs a b = true) : b ∈ near n cs a := by
  obtain ⟨h1, h2, h3, h4, h5⟩ := tie_lt hp h
  unfold near
  have eg : ∃ k : Nat, k < n.toNat - 1 ∧ (a + k + 1) % n = b := by
    by_cases hab : a < b
    · exact ⟨(b - a - 1).toNat, by omega, by rw [show a + ((b - a - 1).toNat : Nat) + 1 = b by omega]; exact Int.emod_eq_of_lt h3 h4⟩
    · exact ⟨(b - a - 1 + n).toNat, by omega, by rw [show a + ((b - a - 1 + n).toNat : Nat) + 1 = b + n by omega, Int.add_emod_right]; exact Int.emod_eq_of_lt h3 h4⟩
  obtain ⟨k, k1, k2⟩ := eg
  exact List.mem_map.mpr ⟨k, List.mem_filter.mpr ⟨List.mem_range.mpr k1, by rw [k2]; exact h⟩, k2⟩
end
end Tx
namespace Tx
open PySem PySem.Spec PyProof.Rows L2 TL
theorem mem_lines {n : Int} {cs : List (Int × Int)} {p : Int × Int} (h : 3 ≤ n) : p ∈ linesOf n cs ↔ (0 ≤ p.1 ∧ p.2 = p.1 + 1 ∧ p.2 < n) ∨ p = (0, n - 1) ∨ p ∈ cs := by
  unfold linesOf
  rw [(sortPP_perm _).mem_iff, List.mem_append]
  unfold sides
  rw [List.mem_append, List.mem_map, List.mem_singleton]
  refine ⟨fun z => ?_, fun z => ?_⟩
  · rcases z with (⟨i, hi, rfl⟩ | z) | z
    · have := List.mem_range.mp hi
      exact .inl ⟨by simp, rfl, by simp only; omega⟩
    · exact .inr (.inl z)
    · exact .inr (.inr z)
  · rcases z with ⟨z1, z2, z3⟩ | z | z
    · exact .inl (.inl ⟨p.1.toNat, List.mem_range.mpr (by omega), Prod.ext (by simp only; omega) (by simp only; omega)⟩)
    · exact .inl (.inr z)
    · exact .inr z
section
variable {n : Int} {l : List (Int × Int)}
theorem tie_sym {cs : List (Int × Int)} {a b : Int} : tieB n cs a b = tieB n cs b a := by
  unfold tieB
  refine decide_eq_decide.mpr ?_
  unfold both
  simp only [List.mem_flatMap, List.mem_cons, List.not_mem_nil, or_false]
  have go : ∀ a b : Int, (∃ p, p ∈ linesOf n cs ∧ ((a, b) = p ∨ (a, b) = swp p)) → ∃ p, p ∈ linesOf n cs ∧ ((b, a) = p ∨ (b, a) = swp p) := fun a b ⟨p, h1, h2⟩ => by
    refine ⟨p, h1, ?_⟩
    rcases h2 with h | h
    · right; rw [← h]; rfl
    · left; unfold swp at h; exact Prod.ext (congrArg Prod.snd h) (congrArg Prod.fst h)
  exact ⟨go a b, go b a⟩
end
end Tx
namespace Tx
open PySem PySem.Spec PyProof.Rows L2 TL
@[irreducible] def f_between (faces : PyData) (start : PyData) (corner : PyData) (end_ : PyData) (K : KD) (E : KX) : Prop :=
  subM corner start fun r1 =>
  modM r1 faces fun r2 =>
  andM (fun Q => ltM (.int 0) r2 Q) (fun Q => subM end_ start fun r5 =>
  modM r5 faces fun r6 =>
  ltM r2 r6 Q) fun b3 =>
  K (.bool b3)
def c_between : CT := fun args Φ Ψ => ∃ (faces : PyData) (start : PyData) (corner : PyData) (end_ : PyData) (K : KD) (E : KX), args = [.d faces, .d start, .d corner, .d end_] ∧ f_between faces start corner end_ K E ∧ (∀ r, K r → Φ (.rd r) args) ∧ ∀ c, E c → Ψ c args
section
variable {K : KD} {Kl : KL} {Kb : KB} {E : KX} {n i j : Int} {l cs : List (Int × Int)} {p q : Int × Int}
theorem q_for_find {α : Type} {bd : PyData → Unit → (Unit → Prop) → (Unit → Prop) → Prop} {K : Unit → Prop} (L : List α) (d : α → PyData) (p : α → Bool) (R : α → Prop) (h : ∀ a ∈ L, ∀ (N : Unit → Prop), bd (d a) () N K = cond (p a) (R a) (N ())) : forM bd K (L.map d) () = (match L.find? p with | some a => R a | none => K ()) := by
  induction L with
  | nil => rfl
  | cons a L ih =>
    show bd (d a) () _ K = _
    rw [h a (List.mem_cons_self ..), List.find?_cons]
    cases p a with
    | true => rfl
    | false => exact ih fun b hb => h b (List.mem_cons_of_mem _ hb)
theorem q_in_ints {L : List Int} : inM (.int i) (.list (L.map .int)) Kb = Kb (decide (i ∈ L)) := by
  show inLstM (.int i) (L.map .int) Kb = _
  have e : flAll (L.map PyData.int) = some (L.map V.int) := by
    induction L with
    | nil => rfl
    | cons a L ih =>
      show (match fl (.int a), flAll (L.map PyData.int) with | some v, some l => some (v :: l) | _, _ => none) = _
      rw [ih]; rfl
  unfold inLstM
  rw [e]
  show Kb (inV (.int i) (L.map V.int)) = _
  rw [inV_ints]
theorem find_fil {α : Type} {L : List α} {f p : α → Bool} : (L.filter f).find? p = L.find? fun a => f a && p a := by
  induction L with
  | nil => rfl
  | cons a L ih =>
    rw [List.filter_cons, List.find?_cons]
    cases e : f a with
    | true =>
      rw [if_pos rfl, List.find?_cons, ih, Bool.true_and]
    | false =>
      rw [if_neg (by decide), ih, Bool.false_and]
theorem find_congr {α : Type} {L : List α} {P Q : α → Bool} (h : ∀ a ∈ L, P a = Q a) : L.find? P = L.find? Q := by
  induction L with
  | nil => rfl
  | cons a L ih =>
    rw [List.find?_cons, List.find?_cons, h a (List.mem_cons_self ..), ih fun b hb => h b (List.mem_cons_of_mem _ hb)]
theorem find_range {P Q : Nat → Bool} (b d : Nat) (h1 : ∀ k, k < b → P k = Q k) (h2 : ∀ k, b ≤ k → k < b + d → P k = false) : (List.range (b + d)).find? P = (List.range b).find? Q := by
  induction d with
  | zero => exact find_congr fun k hk => h1 k (List.mem_range.mp hk)
  | succ d ih =>
    rw [show b + (d + 1) = (b + d) + 1 by omega, List.range_succ, List.find?_append, ih fun k k1 k2 => h2 k k1 (by omega), List.find?_cons, h2 (b + d) (by omega) (by omega), List.find?_nil, Option.or_none]
variable (hp : IsPlan n cs)
include hp
theorem near_mem {a b : Int} (ha : 0 ≤ a) (ha2 : a < n) : b ∈ near n cs a ↔ tieB n cs a b = true := by
  refine ⟨fun z => ?_, mem_near hp⟩
  unfold near at z
  obtain ⟨k, k1, k2⟩ := List.mem_map.mp z
  have := (List.mem_filter.mp k1).2
  rw [k2] at this
  exact this
theorem e_between {a b c : Int} : f_between (.int n) (.int a) (.int b) (.int c) K E = K (.bool (decide (0 < (b - a) % n) && decide ((b - a) % n < (c - a) % n))) := by
  have h3 := hp.lo
  unfold f_between
  simp only [q_add_ii, q_add_ss, q_add_ll, q_add_tt, q_addL, q_sub, q_mul, q_div, q_mod, q_neg, q_bool, q_eq_ii, q_eq_ss, q_eq_bb, q_ne_ii, q_ne_ss, q_ne_bb, q_lt, q_le, q_gt, q_ge, q_un2, q_un3, q_un4, q_intO, q_len_l, q_len_t, q_len_s, q_abs, q_int_i, q_int_b, q_tup_l, q_tup_t, q_list_l, q_list_t, q_min, q_max, q_it_l, q_it_t, q_rng, q_enu_l, q_enu_t, q_rev, q_sl_l, q_sl_t, q_sl_s, q_slL, q_all, q_any, q_sum, q_sort_pp, q_and, q_or, q_ite, q_join, cond_true, cond_false, true_and, and_true, decide_eq_true_eq, decide_true, decide_false, p_un_pl, p_ix_pl0, p_ix_pl1, p_un_pp, p_ix_pp0, p_ix_pp1, p_mk, p_eq, p_ne, p_in, p_notIn, p_lt, show 0 < n by omega]
omit hp in
theorem while_seq2 {τ : Type} {st : τ → (τ → Prop) → (τ → Prop) → Prop} {K : τ → Prop} (k : Nat) (S : Nat → τ) (h : ∀ i < k, ∀ N : τ → Prop, N (S (i + 1)) → st (S i) N K) (hend : ∀ N : τ → Prop, st (S k) N K) : ∃ n, whileM st K n (S 0) := by
  refine ⟨k + 1, ?_⟩
  have go : ∀ d i, i + d = k → whileM st K (d + 1) (S i) := by
    intro d
    induction d with
    | zero => intro i e; rw [show i = k by omega]; exact hend _
    | succ d ih => intro i e; exact h i (by omega) _ (ih (i + 1) (by omega))
  exact go k 0 (by omega)
end
end Tx
namespace Tx
open PySem PySem.Spec PyProof.Rows L2 TL
@[irreducible] def f_need_faces (faces : PyData) (K : KD) (E : KX) : Prop :=
  andM (fun Q => leM (.int 3) faces Q) (fun Q => leM faces (.int 40) Q) fun b1 =>
  ((!b1) = true → (E (.own "BadFaces"))) ∧ ((!b1) = false → (K .none))
def c_need_faces : CT := fun args Φ Ψ => ∃ (faces : PyData) (K : KD) (E : KX), args = [.d faces] ∧ f_need_faces faces K E ∧ (∀ r, K r → Φ (.rd r) args) ∧ ∀ c, E c → Ψ c args
@[irreducible] def f_ways_row (most : PyData) (K : KL) (E : KX) : Prop :=
  ∃ n : Nat, whileM (fun row7 N5 B6 => lenM (.list row7) fun r10 =>
  leM r10 most fun b11 =>
  (b11 = true → (lenM (.list row7) fun r13 =>
  rngM (.int 1) r13 fun xs14 =>
  lcM (fun first_15 kp sk => ixM (.list row7) first_15 fun r17 =>
  subM r13 first_15 fun r18 =>
  ixM (.list row7) r18 fun r19 =>
  mulM r17 r19 fun r20 =>
  kp r20) (fun l16 =>
  sumM (.list l16) fun r21 =>
  row7.length < sizeLine ∧ (N5 (row7 ++ ([r21] : List PyData)))) xs14 [])) ∧ (b11 = false → B6 row7)) (fun row2 =>
  K row2) n [(.int 0), (.int 1)]
def c_ways_row : CT := fun args Φ Ψ => ∃ (most : PyData) (K : KL) (E : KX), args = [.d most] ∧ f_ways_row most K E ∧ (∀ r, K r → Φ (.nl r) args) ∧ ∀ c, E c → Ψ c args
@[irreducible] def f_how_many (faces : PyData) (K : KD) (E : KX) : Prop :=
  f_need_faces faces (fun r1 =>
  subM faces (.int 1) fun r2 =>
  f_ways_row r2 (fun r3 =>
  subM faces (.int 1) fun r4 =>
  ixM (.list r3) r4 fun r5 =>
  K r5) E) E
def c_how_many : CT := fun args Φ Ψ => ∃ (faces : PyData) (K : KD) (E : KX), args = [.d faces] ∧ f_how_many faces K E ∧ (∀ r, K r → Φ (.rd r) args) ∧ ∀ c, E c → Ψ c args
section
variable {K : KD} {Kl : KL} {E : KX} {n i j : Int} {cs : List (Int × Int)} {p q : Int × Int}
theorem q_ix_rg {m : Nat} {f : Nat → PyData} {a : Int} (h0 : 0 ≤ a) (h : a < m) : ixM (.list (rg m f)) (.int a) K = K (f a.toNat) := by
  show (match atI (rg m f) a with | some y => K y | none => False) = _
  rw [at_rg h0 h]
theorem e_need_faces : f_need_faces (.int n) K E = cond (decide (3 ≤ n) && decide (n ≤ 40)) (K .none) (E (.own "BadFaces")) := by
  unfold f_need_faces
  simp only [q_add_ii, q_add_ss, q_add_ll, q_add_tt, q_addL, q_sub, q_mul, q_div, q_mod, q_neg, q_bool, q_eq_ii, q_eq_ss, q_eq_bb, q_ne_ii, q_ne_ss, q_ne_bb, q_lt, q_le, q_gt, q_ge, q_un2, q_un3, q_un4, q_intO, q_len_l, q_len_t, q_len_s, q_abs, q_int_i, q_int_b, q_tup_l, q_tup_t, q_list_l, q_list_t, q_min, q_max, q_it_l, q_it_t, q_rng, q_enu_l, q_enu_t, q_rev, q_sl_l, q_sl_t, q_sl_s, q_slL, q_all, q_any, q_sum, q_sort_pp, q_and, q_or, q_ite, q_join, cond_true, cond_false, true_and, and_true, decide_eq_true_eq, decide_true, decide_false, p_un_pl, p_ix_pl0, p_ix_pl1, p_un_pp, p_ix_pp0, p_ix_pp1, p_mk, p_eq, p_ne, p_in, p_notIn, p_lt]
  cases (decide (3 ≤ n) && decide (n ≤ 40)) <;> rfl
theorem while_seq {τ : Type} {st : τ → (τ → Prop) → (τ → Prop) → Prop} {K : τ → Prop} (k : Nat) (S : Nat → τ) (h : ∀ i < k, ∀ N : τ → Prop, N (S (i + 1)) → st (S i) N K) (hend : ∀ N : τ → Prop, st (S k) N K) : ∃ n, whileM st K n (S 0) := by
  refine ⟨k + 1, ?_⟩
  have go : ∀ d i, i + d = k → whileM st K (d + 1) (S i) := by
    intro d
    induction d with
    | zero => intro i e; rw [show i = k by omega]; exact hend _
    | succ d ih => intro i e; exact h i (by omega) _ (ih (i + 1) (by omega))
  exact go k 0 (by omega)
theorem i_ways_row {n : Nat} (h1 : 1 ≤ n) (h2 : n ≤ 39) (hK : Kl (rg (n + 1) ccD)) : f_ways_row (.int n) Kl E := by
  have hsl := sizeLine_eq
  unfold f_ways_row
  refine while_seq (n - 1) (fun i => rg (2 + i) ccD) (fun i hi N hN => ?_) (fun N => ?_)
  · obtain ⟨q, rfl⟩ : ∃ q, i + 2 = q := ⟨_, rfl⟩
    rw [show 2 + (i + 1) = 2 + i + 1 by omega] at hN
    simp only [q_add_ii, q_add_ss, q_add_ll, q_add_tt, q_addL, q_sub, q_mul, q_div, q_mod, q_neg, q_bool, q_eq_ii, q_eq_ss, q_eq_bb, q_ne_ii, q_ne_ss, q_ne_bb, q_lt, q_le, q_gt, q_ge, q_un2, q_un3, q_un4, q_intO, q_len_l, q_len_t, q_len_s, q_abs, q_int_i, q_int_b, q_tup_l, q_tup_t, q_list_l, q_list_t, q_min, q_max, q_it_l, q_it_t, q_rng, q_enu_l, q_enu_t, q_rev, q_sl_l, q_sl_t, q_sl_s, q_slL, q_all, q_any, q_sum, q_sort_pp, q_and, q_or, q_ite, q_join, cond_true, cond_false, true_and, and_true, decide_eq_true_eq, decide_true, decide_false, p_un_pl, p_ix_pl0, p_ix_pl1, p_un_pp, p_ix_pp0, p_ix_pp1, p_mk, p_eq, p_ne, p_in, p_notIn, p_lt, rg_len]
    rw [decide_eq_true (by omega : ((2 + i : Nat) : Int) ≤ n), cond_true]
    refine ⟨by omega, ?_⟩
    obtain ⟨q, e⟩ : ∃ q, q = 2 + i := ⟨_, rfl⟩
    rw [← e] at hN ⊢
    rw [rng_map, show ((q : Int) - 1).toNat = q - 1 by omega]
    rw [q_lc_map _ _ (fun (j : Nat) => PyData.int (cc (1 + (j : Int)).toNat * cc ((q : Int) - (1 + (j : Int))).toNat)) fun j hj k s => by
      have hj := List.mem_range.mp hj
      rw [q_ix_rg (by omega) (by omega)]
      simp only [q_add_ii, q_add_ss, q_add_ll, q_add_tt, q_addL, q_sub, q_mul, q_div, q_mod, q_neg, q_bool, q_eq_ii, q_eq_ss, q_eq_bb, q_ne_ii, q_ne_ss, q_ne_bb, q_lt, q_le, q_gt, q_ge, q_un2, q_un3, q_un4, q_intO, q_len_l, q_len_t, q_len_s, q_abs, q_int_i, q_int_b, q_tup_l, q_tup_t, q_list_l, q_list_t, q_min, q_max, q_it_l, q_it_t, q_rng, q_enu_l, q_enu_t, q_rev, q_sl_l, q_sl_t, q_sl_s, q_slL, q_all, q_any, q_sum, q_sort_pp, q_and, q_or, q_ite, q_join, cond_true, cond_false, true_and, and_true, decide_eq_true_eq, decide_true, decide_false, p_un_pl, p_ix_pl0, p_ix_pl1, p_un_pp, p_ix_pp0, p_ix_pp1, p_mk, p_eq, p_ne, p_in, p_notIn, p_lt]
      rw [q_ix_rg (by omega) (by omega)]
      simp only [q_add_ii, q_add_ss, q_add_ll, q_add_tt, q_addL, q_sub, q_mul, q_div, q_mod, q_neg, q_bool, q_eq_ii, q_eq_ss, q_eq_bb, q_ne_ii, q_ne_ss, q_ne_bb, q_lt, q_le, q_gt, q_ge, q_un2, q_un3, q_un4, q_intO, q_len_l, q_len_t, q_len_s, q_abs, q_int_i, q_int_b, q_tup_l, q_tup_t, q_list_l, q_list_t, q_min, q_max, q_it_l, q_it_t, q_rng, q_enu_l, q_enu_t, q_rev, q_sl_l, q_sl_t, q_sl_s, q_slL, q_all, q_any, q_sum, q_sort_pp, q_and, q_or, q_ite, q_join, cond_true, cond_false, true_and, and_true, decide_eq_true_eq, decide_true, decide_false, p_un_pl, p_ix_pl0, p_ix_pl1, p_un_pp, p_ix_pp0, p_ix_pp1, p_mk, p_eq, p_ne, p_in, p_notIn, p_lt]
      exact propext (and_iff_right (.inr (cc_wide _ _ (by omega) (by omega))))]
    rw [List.nil_append]
    have e : ((List.range (q - 1)).map fun (j : Nat) => PyData.int (cc (1 + (j : Int)).toNat * cc ((q : Int) - (1 + (j : Int))).toNat)) = ((List.range (q - 1)).map fun (j : Nat) => cc (1 + (j : Int)).toNat * cc ((q : Int) - (1 + (j : Int))).toNat).map .int := by rw [List.map_map]; rfl
    rw [e, q_sum, cc_rec q (by omega) (by omega)]
    refine ⟨by omega, ?_⟩
    rw [show rg q ccD ++ [PyData.int (cc q)] = rg (q + 1) ccD from rg_succ q ccD]
    exact hN
  · simp only [q_add_ii, q_add_ss, q_add_ll, q_add_tt, q_addL, q_sub, q_mul, q_div, q_mod, q_neg, q_bool, q_eq_ii, q_eq_ss, q_eq_bb, q_ne_ii, q_ne_ss, q_ne_bb, q_lt, q_le, q_gt, q_ge, q_un2, q_un3, q_un4, q_intO, q_len_l, q_len_t, q_len_s, q_abs, q_int_i, q_int_b, q_tup_l, q_tup_t, q_list_l, q_list_t, q_min, q_max, q_it_l, q_it_t, q_rng, q_enu_l, q_enu_t, q_rev, q_sl_l, q_sl_t, q_sl_s, q_slL, q_all, q_any, q_sum, q_sort_pp, q_and, q_or, q_ite, q_join, cond_true, cond_false, true_and, and_true, decide_eq_true_eq, decide_true, decide_false, p_un_pl, p_ix_pl0, p_ix_pl1, p_un_pp, p_ix_pp0, p_ix_pp1, p_mk, p_eq, p_ne, p_in, p_notIn, p_lt, rg_len]
    rw [decide_eq_false (by omega : ¬ ((2 + (n - 1) : Nat) : Int) ≤ n), cond_false, show 2 + (n - 1) = n + 1 by omega]
    exact hK
theorem e_how_many (h1 : 3 ≤ n) (h2 : n ≤ 40) (hK : K (.int (cc (n - 1).toNat))) : f_how_many (.int n) K E := by
  unfold f_how_many
  rw [e_need_faces, decide_eq_true h1, decide_eq_true h2]
  simp only [q_add_ii, q_add_ss, q_add_ll, q_add_tt, q_addL, q_sub, q_mul, q_div, q_mod, q_neg, q_bool, q_eq_ii, q_eq_ss, q_eq_bb, q_ne_ii, q_ne_ss, q_ne_bb, q_lt, q_le, q_gt, q_ge, q_un2, q_un3, q_un4, q_intO, q_len_l, q_len_t, q_len_s, q_abs, q_int_i, q_int_b, q_tup_l, q_tup_t, q_list_l, q_list_t, q_min, q_max, q_it_l, q_it_t, q_rng, q_enu_l, q_enu_t, q_rev, q_sl_l, q_sl_t, q_sl_s, q_slL, q_all, q_any, q_sum, q_sort_pp, q_and, q_or, q_ite, q_join, cond_true, cond_false, true_and, and_true, decide_eq_true_eq, decide_true, decide_false, p_un_pl, p_ix_pl0, p_ix_pl1, p_un_pp, p_ix_pp0, p_ix_pp1, p_mk, p_eq, p_ne, p_in, p_notIn, p_lt, Bool.and_true]
  obtain ⟨m, rfl⟩ : ∃ m : Nat, n = (m : Int) + 1 := ⟨(n - 1).toNat, by omega⟩
  rw [show ((m : Int) + 1 - 1) = m by omega] at hK ⊢
  refine i_ways_row (by omega) (by omega) ?_
  rw [q_ix_rg (by omega) (by omega)]
  exact hK
def wrF : Nat → Nat → Int → List (List (Int × Int))
  | 0, _, _ => [[]]
  | f + 1, w, s => if w ≤ 1 then [[]] else (List.range (w - 1)).flatMap fun j => (wrF f (1 + j) s).flatMap fun a => (wrF f (w - 1 - j) (s + 1 + (j : Int))).map fun b => a ++ b ++ [(s, s + 1 + (j : Int)), (s + 1 + (j : Int), s + (w : Int))]
def wr (w : Nat) (s : Int) : List (List (Int × Int)) := wrF w w s
theorem valP_put {κ : Type} [DecidableEq κ] {kvs : List (κ × PyData)} {k k' : κ} {d : PyData} : valP (putP kvs k d) k' = if k' = k then some d else valP kvs k' := by
  unfold putP valP
  by_cases h : (kvs.any fun kv => decide (kv.1 = k)) = true
  · rw [if_pos h]
    induction kvs with
    | nil => simp at h
    | cons kv r ih =>
      rw [List.map_cons]
      by_cases e : kv.1 = k
      · rw [if_pos e]
        by_cases e2 : k' = k
        · subst e2; simp [List.find?_cons, e]
        · rw [if_neg e2]
          have ne : ¬ kv.1 = k' := fun z => e2 (z ▸ e)
          simp only [List.find?_cons, ne, decide_false]
          clear ih h
          induction r with
          | nil => rfl
          | cons kv2 r ih2 =>
            rw [List.map_cons]
            by_cases e3 : kv2.1 = k
            · rw [if_pos e3]
              have ne : ¬ kv2.1 = k' := fun z => e2 (z ▸ e3)
              simp only [List.find?_cons, ne, decide_false]
              exact ih2
            · rw [if_neg e3]
              by_cases e4 : kv2.1 = k'
              · simp [List.find?_cons, e4]
              · simp only [List.find?_cons, e4, decide_false]
                exact ih2
      · rw [if_neg e]
        have h' : (r.any fun kv => decide (kv.1 = k)) = true := by simpa [e] using h
        by_cases e4 : kv.1 = k'
        · have : ¬ k' = k := fun z => e (e4.trans z)
          simp [List.find?_cons, e4, this]
        · simp only [List.find?_cons, e4, decide_false]
          exact ih h'
  · rw [if_neg h, List.find?_append]
    by_cases e2 : k' = k
    · subst e2
      have : (kvs.find? fun kv => decide (kv.1 = k')) = none := List.find?_eq_none.mpr fun x hx z => h (List.any_eq_true.mpr ⟨x, hx, z⟩)
      rw [this]; simp
    · have : ¬ k = k' := fun z => e2 z.symm
      rw [if_neg e2]
      cases kvs.find? fun kv => decide (kv.1 = k') <;> simp [this]
theorem putP_len {κ : Type} [DecidableEq κ] {kvs : List (κ × PyData)} {k : κ} {d : PyData} : (putP kvs k d).length ≤ kvs.length + 1 := by
  unfold putP
  split <;> simp
abbrev AT := List (List Key × PyData)
abbrev rowD (l : List (Int × Int)) : PyData := .list (l.map ppD)
abbrev kT (i j : Int) : List Key := [.inl i, .inl j]
/-- widths below w are told, and the first t starts of width w -/
structure Told (n : Int) (w t : Nat) (A : AT) : Prop where
  len : A.length ≤ 100 * w + t
  low : ∀ v : Nat, 1 ≤ v → v < w → ∀ s : Int, 1 ≤ s → s + v ≤ n → valP A (kT s (s + v)) = some (.list ((wr v s).map rowD))
  cur : ∀ s : Int, 1 ≤ s → s ≤ t → s + w ≤ n → valP A (kT s (s + w)) = some (.list ((wr w s).map rowD))
theorem Told.put {w t : Nat} {A : AT} (h : Told n w t A) {v : PyData} (hv : v = .list ((wr w (1 + (t : Int))).map rowD)) : Told n w (t + 1) (putP A (kT (1 + (t : Int)) (1 + (t : Int) + w)) v) := by
  refine ⟨?_, fun v' v1 v2 s s1 s2 => ?_, fun s s1 s2 s3 => ?_⟩
  · have := putP_len (kvs := A) (k := kT (1 + (t : Int)) (1 + (t : Int) + w)) (d := v)
    have := h.len
    omega
  · rw [valP_put, if_neg (fun e => by injection e with e1 e2; injection e1 with e1; injection e2 with e2; injection e2 with e2; omega)]
    exact h.low v' v1 v2 s s1 s2
  · rw [valP_put]
    by_cases e : s = 1 + (t : Int)
    · subst e
      rw [if_pos rfl, hv]
    · rw [if_neg (fun z => by injection z with e1 e2; injection e1 with e1; exact e e1)]
      exact h.cur s s1 (by omega) s3
end
end Tx
namespace Tx
open PySem PySem.Spec PyProof.Rows L2 TL
inductive Tr where
  | lf
  | nd (a b : Tr)
namespace Tr
def sz : Tr → Int
  | .lf => 1
  | .nd a b => a.sz + b.sz
def cnt : Tr → Nat
  | .lf => 1
  | .nd a b => a.cnt + b.cnt + 1
def arcs : Tr → Int → List (Int × Int)
  | .lf, _ => []
  | .nd a b, s => (s, s + a.sz) :: (s + a.sz, s + a.sz + b.sz) :: (a.arcs s ++ b.arcs (s + a.sz))
end Tr
open Tr
theorem sz_pos : ∀ t : Tr, 1 ≤ t.sz
  | .lf => by show (1 : Int) ≤ 1; omega
  | .nd a b => by have := sz_pos a; have := sz_pos b; show 1 ≤ a.sz + b.sz; omega
theorem Arcs.tr {s e : Int} {l : List (Int × Int)} (h : Arcs s e l) (hs : s < e) : ∃ t : Tr, t.sz = e - s ∧ l = t.arcs s := by
  induction h with
  | leaf h => exact ⟨.lf, by show (1 : Int) = _; omega, rfl⟩
  | @node s m e a b h1 h2 _ _ ia ib =>
    obtain ⟨ta, a1, rfl⟩ := ia h1
    obtain ⟨tb, b1, rfl⟩ := ib h2
    have e1 : s + ta.sz = m := by omega
    have e2 : m + tb.sz = e := by omega
    refine ⟨.nd ta tb, by show ta.sz + tb.sz = _; omega, ?_⟩
    show _ = (s, s + ta.sz) :: (s + ta.sz, s + ta.sz + tb.sz) :: (ta.arcs s ++ tb.arcs (s + ta.sz))
    rw [e1, e2]
theorem tr_arcs : ∀ (t : Tr) (s : Int), Arcs s (s + t.sz) (t.arcs s)
  | .lf, s => .leaf (by show s + 1 - s ≤ 1; omega)
  | .nd a b, s => by
    have ha := sz_pos a
    have hb := sz_pos b
    have h := Arcs.node (s := s) (m := s + a.sz) (e := s + a.sz + b.sz) (by omega) (by omega) (tr_arcs a s) (tr_arcs b (s + a.sz))
    show Arcs s (s + (a.sz + b.sz)) _
    rw [← Int.add_assoc]
    exact h
abbrev plT (n : Int) (T : Tr) : List (Int × Int) := planOf n (T.arcs 1)
section
variable {K : KD} {Kl : KL} {E : KX} {Kb : KB} {n : Int} {T : Tr}
variable (h3 : 3 ≤ n) (h40 : n ≤ 40) (hT : T.sz = n - 1)
include h3 h40 hT
theorem plT_arcs : Arcs 1 n (T.arcs 1) := by
  have := tr_arcs T 1
  rwa [show 1 + T.sz = n by omega] at this
theorem plT_ok : IsPlan n (plT n T) := arcs_plan h3 h40 (plT_arcs h3 h40 hT)
end
end Tx
namespace Tx
open PySem PySem.Spec PyProof.Rows L2 TL
open Tr
def k3 (p : Int × Int × Int) : List Key := [.inl p.1, .inl p.2.1, .inl p.2.2]
theorem valP_some {κ : Type} [DecidableEq κ] {kvs : List (κ × PyData)} {k : κ} {d : PyData} (h : (k, d) ∈ kvs) : (valP kvs k).isSome = true := by
  unfold valP
  rw [Option.isSome_map, List.find?_isSome]
  exact ⟨_, h, decide_eq_true rfl⟩
end Tx
namespace Tx
open PySem PySem.Spec PyProof.Rows L2 TL
def cWf : Nat → List Bool → Bool → Int
  | 0, _, _ => 0
  | f + 1, w, h => if w.length ≤ 1 then (if w = [h] then 1 else 0) else ((List.range (w.length - 1)).map fun i => cWf f (w.take (i + 1)) (!h) * cWf f (w.drop (i + 1)) (!h)).sum
def cW (w : List Bool) (h : Bool) : Int := cWf w.length w h
/-- the stretch from a on, ahead of b -/
def sb (R : List Bool) (a b : Nat) : List Bool := (R.drop a).take (b - a)
end Tx
namespace Tx
open PySem PySem.Spec PyProof.Rows L2 TL
open Tr
namespace Tr
/-- the hands of the leaves in order -/
def row : Tr → Bool → Bool → List Bool
  | .lf, _, h => [h]
  | .nd a b, x, h => if x then b.row (!x) (!h) ++ a.row (!x) (!h) else a.row (!x) (!h) ++ b.row (!x) (!h)
end Tr
end Tx
namespace Tx
open PySem PySem.Spec PyProof.Rows L2 TL
@[irreducible] def f_third_corner (plan : PyData) (near : PyData) (place : PyData) (way : PyData) (K : KD) (E : KX) : Prop :=
  un2 place fun top1 under2 =>
  ifM (fun Q => eqM way (.str "even") fun b5 =>
  Q b5) (fun Q => Q (.tuple [top1, under2])) (fun Q => Q (.tuple [under2, top1])) fun r4 =>
  un2 r4 fun start6 end_7 =>
  ixM near top1 fun r10 =>
  itM r10 fun xs9 =>
  forM (fun corner12 (_ : Unit) N13 B14 => andM (fun Q => ixM near under2 fun r17 =>
  inM corner12 r17 fun b18 =>
  Q b18) (fun Q => ixM plan (.int 0) fun r19 =>
  f_between r19 start6 corner12 end_7 (fun r20 =>
  boolM r20 fun b21 =>
  Q b21) E) fun b16 =>
  (b16 = true → (K corner12)) ∧ (b16 = false → (N13 ()))) (fun (_ : Unit) =>
  K PyData.none) xs9 ()
def c_third_corner : CT := fun args Φ Ψ => ∃ (plan : PyData) (near : PyData) (place : PyData) (way : PyData) (K : KD) (E : KX), args = [.d plan, .d near, .d place, .d way] ∧ f_third_corner plan near place way K E ∧ (∀ r, K r → Φ (.rd r) args) ∧ ∀ c, E c → Ψ c args
@[irreducible] def f_need_way (way : PyData) (K : KD) (E : KX) : Prop :=
  inTupM way [.str "even", .str "odd"] fun b1 =>
  ((!b1) = true → (E (.own "BadWay"))) ∧ ((!b1) = false → (K .none))
def c_need_way : CT := fun args Φ Ψ => ∃ (way : PyData) (K : KD) (E : KX), args = [.d way] ∧ f_need_way way K E ∧ (∀ r, K r → Φ (.rd r) args) ∧ ∀ c, E c → Ψ c args
open Tr
/-- the first corner behind s and ahead of e that has a line with both -/
def thd (n : Int) (cs : List (Int × Int)) (s e : Int) : Option Int := ((List.range ((e - s) % n - 1).toNat).find? fun (k : Nat) => tieB n cs s ((s + k + 1) % n) && tieB n cs e ((s + k + 1) % n)).map fun (k : Nat) => (s + k + 1) % n
def optD : Option Int → PyData
  | none => .none
  | some c => .int c
def wayS (ev : Bool) : Str := if ev then "even" else "odd"
/-- the third corner of a place, by its way -/
def thW (n : Int) (cs : List (Int × Int)) (p : Int × Int) (ev : Bool) : Option Int := if ev then thd n cs p.1 p.2 else thd n cs p.2 p.1
theorem find_map_range {P : Nat → Bool} (a b : Nat) (h : ∀ k, k < a → P k = false) : (List.range (a + b)).find? P = ((List.range b).find? fun j => P (a + j)).map fun j => a + j := by
  induction b with
  | zero =>
    show (List.range a).find? P = _
    exact List.find?_eq_none.mpr fun k hk => by rw [h k (List.mem_range.mp hk)]; decide
  | succ b ih =>
    rw [← Nat.add_assoc, List.range_succ, List.range_succ, List.find?_append, List.find?_append, ih]
    cases (List.range b).find? fun j => P (a + j) with
    | some j => rfl
    | none =>
      show (none.or ([a + b].find? P)) = _
      simp only [Option.map_none, Option.none_or]
      rw [List.find?_cons, List.find?_cons]
      cases P (a + b) <;> rfl
section
variable {K : KD} {Kl : KL} {E : KX} {Kb : KB} {n : Int} {cs : List (Int × Int)}
variable (hp : IsPlan n cs)
include hp
theorem mod_diff {a b : Int} (ha : 0 ≤ a) (ha2 : a < n) (hb : 0 ≤ b) (hb2 : b < n) (hab : a ≠ b) : ((b - a) % n = b - a ∧ a < b ∨ (b - a) % n = b - a + n ∧ b < a) ∧ 0 < (b - a) % n ∧ (b - a) % n < n ∧ (b - a) % n + (a - b) % n = n := by
  have h3 := hp.lo
  by_cases h : a < b
  · have e1 : (b - a) % n = b - a := Int.emod_eq_of_lt (by omega) (by omega)
    have e2 : (a - b) % n = a - b + n := by rw [← Int.add_emod_right, Int.emod_eq_of_lt (by omega) (by omega)]
    refine ⟨.inl ⟨e1, h⟩, ?_, ?_, ?_⟩ <;> omega
  · have e1 : (a - b) % n = a - b := Int.emod_eq_of_lt (by omega) (by omega)
    have e2 : (b - a) % n = b - a + n := by rw [← Int.add_emod_right, Int.emod_eq_of_lt (by omega) (by omega)]
    refine ⟨.inr ⟨e2, by omega⟩, ?_, ?_, ?_⟩ <;> omega
theorem in_near {a b : Int} (ha : 0 ≤ a) (ha2 : a < n) : decide (b ∈ near n cs a) = tieB n cs a b := by
  have q := near_mem hp (b := b) ha ha2
  cases z : tieB n cs a b with
  | true => exact decide_eq_true (q.mpr z)
  | false => exact decide_eq_false fun m => by rw [q.mp m] at z; cases z
theorem e_third_corner {p : Int × Int} {ev : Bool} (h : tieB n cs p.1 p.2 = true) : f_third_corner (plD n cs) (.list ((List.range n.toNat).map fun (i : Nat) => .list ((near n cs i).map .int))) (ppD p) (.str (wayS ev)) K E = K (optD (thW n cs p ev)) := by
  have h3 := hp.lo
  obtain ⟨t0, t1, u0, u1, hne⟩ := tie_lt hp h
  obtain ⟨d1, d2, d3, d4⟩ := mod_diff hp t0 t1 u0 u1 hne
  have hw : decide (wayS ev = ("even" : Str)) = ev := by cases ev <;> decide +kernel
  unfold f_third_corner
  rw [p_un_pp]
  unfold ifM
  dsimp only
  rw [q_eq_ss, hw, q_ite]
  have ec : (cond ev (un2 (.tuple [.int p.1, .int p.2])) (un2 (.tuple [.int p.2, .int p.1]))) = un2 (.tuple [.int (if ev then p.1 else p.2), .int (if ev then p.2 else p.1)]) := by cases ev <;> rfl
  have e0 : ∀ G : PyData → PyData → Prop, cond ev (un2 (.tuple [.int p.1, .int p.2]) G) (un2 (.tuple [.int p.2, .int p.1]) G) = G (.int (if ev then p.1 else p.2)) (.int (if ev then p.2 else p.1)) := fun G => by cases ev <;> rfl
  rw [e0]
  rw [q_ixr t0 (by omega), show ((p.1.toNat : Nat) : Int) = p.1 by omega, q_it_l]
  have en : (near n cs p.1).map PyData.int = ((List.range (n.toNat - 1)).filter fun (k : Nat) => tieB n cs p.1 ((p.1 + k + 1) % n)).map fun (k : Nat) => PyData.int ((p.1 + k + 1) % n) := by unfold near; rw [List.map_map]; rfl
  rw [en]
  have test : ∀ (c : Int) (Q : KB), TL.andM (fun Q => ixM (.list ((List.range n.toNat).map fun (i : Nat) => .list ((near n cs i).map .int))) (.int p.2) fun r17 => inM (.int c) r17 fun b18 => Q b18) (fun Q => ixM (plD n cs) (.int 0) fun r19 => f_between r19 (.int (if ev then p.1 else p.2)) (.int c) (.int (if ev then p.2 else p.1)) (fun r20 => boolM r20 fun b21 => Q b21) E) Q = Q (tieB n cs p.2 c && (decide (0 < (c - (if ev then p.1 else p.2)) % n) && decide ((c - (if ev then p.1 else p.2)) % n < ((if ev then p.2 else p.1) - (if ev then p.1 else p.2)) % n))) := fun c Q => by
    refine q_and' (fun Q => ?_) fun _ Q => ?_
    · rw [q_ixr u0 (by omega), show ((p.2.toNat : Nat) : Int) = p.2 by omega, q_in_ints, in_near hp u0 u1]
    · rw [p_ix_pl0, e_between hp]; rfl
  rw [q_for_find _ _ (fun (k : Nat) => tieB n cs p.2 ((p.1 + (k : Int) + 1) % n) && (decide (0 < (((p.1 + (k : Int) + 1) % n) - (if ev then p.1 else p.2)) % n) && decide ((((p.1 + (k : Int) + 1) % n) - (if ev then p.1 else p.2)) % n < ((if ev then p.2 else p.1) - (if ev then p.1 else p.2)) % n))) (fun (k : Nat) => K (.int ((p.1 + (k : Int) + 1) % n))) fun k hk N => by rw [test, q_ite]]
  rw [find_fil]
  cases ev with
  | true =>
    simp only [if_true]
    have ef : (List.range (n.toNat - 1)).find? (fun (k : Nat) => tieB n cs p.1 ((p.1 + k + 1) % n) && (tieB n cs p.2 ((p.1 + (k : Int) + 1) % n) && (decide (0 < (((p.1 + (k : Int) + 1) % n) - p.1) % n) && decide ((((p.1 + (k : Int) + 1) % n) - p.1) % n < (p.2 - p.1) % n)))) = (List.range ((p.2 - p.1) % n - 1).toNat).find? fun (k : Nat) => tieB n cs p.1 ((p.1 + k + 1) % n) && tieB n cs p.2 ((p.1 + k + 1) % n) := by
      rw [show n.toNat - 1 = ((p.2 - p.1) % n - 1).toNat + (n.toNat - 1 - ((p.2 - p.1) % n - 1).toNat) by omega]
      have dk : ∀ k : Nat, k < n.toNat - 1 → ((p.1 + (k : Int) + 1) % n - p.1) % n = k + 1 := fun k hk => by
        rw [Int.emod_sub_emod, show p.1 + (k : Int) + 1 - p.1 = k + 1 by omega]
        exact Int.emod_eq_of_lt (by omega) (by omega)
      refine find_range _ _ (fun k hk => ?_) fun k k1 k2 => ?_
      · rw [dk k (by omega), decide_eq_true (by omega : (0 : Int) < (k : Int) + 1), decide_eq_true (by omega : (k : Int) + 1 < (p.2 - p.1) % n), Bool.and_self, Bool.and_true]
      · rw [dk k (by omega), decide_eq_false (by omega : ¬ (k : Int) + 1 < (p.2 - p.1) % n)]
        simp
    rw [ef]
    unfold thW thd
    rw [if_pos rfl]
    cases (List.range ((p.2 - p.1) % n - 1).toNat).find? fun (k : Nat) => tieB n cs p.1 ((p.1 + k + 1) % n) && tieB n cs p.2 ((p.1 + k + 1) % n) <;> rfl
  | false =>
    simp only [Bool.false_eq_true, if_false]
    have ef : (List.range (n.toNat - 1)).find? (fun (k : Nat) => tieB n cs p.1 ((p.1 + k + 1) % n) && (tieB n cs p.2 ((p.1 + (k : Int) + 1) % n) && (decide (0 < (((p.1 + (k : Int) + 1) % n) - p.2) % n) && decide ((((p.1 + (k : Int) + 1) % n) - p.2) % n < (p.1 - p.2) % n)))) = ((List.range ((p.1 - p.2) % n - 1).toNat).find? fun (j : Nat) => tieB n cs p.2 ((p.2 + j + 1) % n) && tieB n cs p.1 ((p.2 + j + 1) % n)).map fun j => ((p.2 - p.1) % n).toNat + j := by
      rw [show n.toNat - 1 = ((p.2 - p.1) % n).toNat + ((p.1 - p.2) % n - 1).toNat by omega]
      have sh : ∀ k : Nat, ((p.1 + (k : Int) + 1) % n - p.2) % n = ((k : Int) + 1 - (p.2 - p.1) % n) % n := fun k => by
        rw [Int.emod_sub_emod, Int.sub_emod ((k : Int) + 1), Int.emod_emod, ← Int.sub_emod]
        congr 1; omega
      rw [find_map_range _ _ fun k hk => ?_]
      · congr 1
        refine find_congr fun j hj => ?_
        have hj := List.mem_range.mp hj
        have ej : (p.1 + ((((p.2 - p.1) % n).toNat + j : Nat) : Int) + 1) % n = (p.2 + (j : Int) + 1) % n := by
          rw [show p.1 + ((((p.2 - p.1) % n).toNat + j : Nat) : Int) + 1 = p.1 + (p.2 - p.1) % n + ((j : Int) + 1) by omega, ← Int.emod_add_emod, Int.add_emod_emod, Int.emod_add_emod]
          congr 1; omega
        rw [sh, ej]
        have e5 : (((((p.2 - p.1) % n).toNat + j : Nat) : Int) + 1 - (p.2 - p.1) % n) % n = (j : Int) + 1 := by
          rw [show (((((p.2 - p.1) % n).toNat + j : Nat) : Int) + 1 - (p.2 - p.1) % n) = (j : Int) + 1 by omega]
          exact Int.emod_eq_of_lt (by omega) (by omega)
        rw [e5, decide_eq_true (by omega : (0 : Int) < (j : Int) + 1), decide_eq_true (by omega : (j : Int) + 1 < (p.1 - p.2) % n), Bool.and_self, Bool.and_true, Bool.and_comm]
      · rw [sh]
        by_cases e : (k : Int) + 1 = (p.2 - p.1) % n
        · rw [e, Int.sub_self]; simp
        · have e5 : ((k : Int) + 1 - (p.2 - p.1) % n) % n = (k : Int) + 1 - (p.2 - p.1) % n + n := by
            rw [← Int.add_emod_right, Int.emod_eq_of_lt (by omega) (by omega)]
          rw [e5, decide_eq_false (by omega : ¬ (k : Int) + 1 - (p.2 - p.1) % n + n < (p.1 - p.2) % n)]
          simp
    rw [ef]
    unfold thW thd
    rw [if_neg (by decide)]
    cases (List.range ((p.1 - p.2) % n - 1).toNat).find? fun (j : Nat) => tieB n cs p.2 ((p.2 + j + 1) % n) && tieB n cs p.1 ((p.2 + j + 1) % n) with
    | none => rfl
    | some j =>
      show K (.int ((p.1 + ((((p.2 - p.1) % n).toNat + j : Nat) : Int) + 1) % n)) = K (.int ((p.2 + (j : Int) + 1) % n))
      have ej : (p.1 + ((((p.2 - p.1) % n).toNat + j : Nat) : Int) + 1) % n = (p.2 + (j : Int) + 1) % n := by
        rw [show p.1 + ((((p.2 - p.1) % n).toNat + j : Nat) : Int) + 1 = p.1 + (p.2 - p.1) % n + ((j : Int) + 1) by omega, ← Int.emod_add_emod, Int.add_emod_emod, Int.emod_add_emod]
        congr 1; omega
      rw [ej]
end
end Tx
namespace Tx
open PySem PySem.Spec PyProof.Rows L2 TL
open Tr
/-- between two corners, going round from the first one -/
def btw (n s c e : Int) : Bool := decide (0 < (c - s) % n) && decide ((c - s) % n < (e - s) % n)
theorem btw_iff {n s c e : Int} : btw n s c e = true ↔ 0 < (c - s) % n ∧ (c - s) % n < (e - s) % n := by
  unfold btw
  rw [Bool.and_eq_true_iff, decide_eq_true_iff, decide_eq_true_iff]
def goL (n s e : Int) : List Int := (List.range ((e - s) % n - 1).toNat).map fun (k : Nat) => (s + k + 1) % n
section
variable {K : KD} {Kl : KL} {E : KX} {Kb : KB} {n : Int} {cs : List (Int × Int)}
variable (hp : IsPlan n cs)
include hp
theorem mem_goL {s c e : Int} (s0 : 0 ≤ s) (s1 : s < n) (c0 : 0 ≤ c) (c1 : c < n) (e0 : 0 ≤ e) (e1 : e < n) (hne : s ≠ e) : decide (c ∈ goL n s e) = btw n s c e := by
  have h3 := hp.lo
  obtain ⟨d1, d2, d3, d4⟩ := mod_diff hp s0 s1 e0 e1 hne
  rw [Bool.eq_iff_iff, decide_eq_true_iff, btw_iff]
  unfold goL
  rw [List.mem_map]
  constructor
  · rintro ⟨k, hk, rfl⟩
    have hk := List.mem_range.mp hk
    have : ((s + (k : Int) + 1) % n - s) % n = k + 1 := by
      rw [Int.emod_sub_emod, show s + (k : Int) + 1 - s = k + 1 by omega]
      exact Int.emod_eq_of_lt (by omega) (by omega)
    omega
  · rintro ⟨h1, h2⟩
    refine ⟨((c - s) % n - 1).toNat, List.mem_range.mpr (by omega), ?_⟩
    rw [show s + ((((c - s) % n - 1).toNat : Nat) : Int) + 1 = s + (c - s) % n by omega, Int.add_emod_emod, show s + (c - s) = c by omega]
    exact Int.emod_eq_of_lt c0 c1
theorem thd_eq (s e : Int) : thd n cs s e = (goL n s e).find? fun c => tieB n cs s c && tieB n cs e c := by
  unfold thd goL
  rw [List.find?_map]
  rfl
/-- lines do not cross -/
theorem noX {a b c d : Int} (h1 : tieB n cs a b = true) (h2 : tieB n cs c d = true) (x1 : a < c) (x2 : c < b) (x3 : b < d) : False := by
  have lok := lines_ok hp
  have b1 := tie_lt hp h1
  have b2 := tie_lt hp h2
  have one : ∀ x y : Int, x < y → tieB n cs x y = true → (x, y) ∈ linesOf n cs := fun x y hxy h => by
    unfold tieB at h
    rw [decide_eq_true_iff, mem_both hp] at h
    rcases h with h | h
    · exact h
    · have := lok.lt _ h; simp only at this; omega
  have m1 := one a b (by omega) h1
  have m2 := one c d (by omega) h2
  have cut : ∀ x y : Int, x + 1 < y → ¬ (x = 0 ∧ y = n - 1) → (x, y) ∈ linesOf n cs → (x, y) ∈ cs := fun x y hxy hn h => by
    rcases (mem_lines hp.lo).mp h with h | h | h
    · simp only at h; omega
    · exact absurd ⟨congrArg Prod.fst h, congrArg Prod.snd h⟩ hn
    · exact h
  have := hp.noc _ (cut a b (by omega) (by omega) m1) _ (cut c d (by omega) (by omega) m2)
  rw [cross_eq] at this
  have := of_decide_eq_false this
  simp only at this
  omega
theorem uniq_side {t u c d : Int} (h : tieB n cs t u = true) (c1 : tieB n cs t c = true) (c2 : tieB n cs u c = true) (d1 : tieB n cs t d = true) (d2 : tieB n cs u d = true) (bc : btw n u c t = true) (bd : btw n u d t = true) : c = d := by
  have key : ∀ c d : Int, tieB n cs t c = true → tieB n cs u c = true → tieB n cs t d = true → tieB n cs u d = true → btw n u c t = true → btw n u d t = true → (c - u) % n < (d - u) % n → False := fun c d c1 c2 d1 d2 bc bd lt => by
    have bc := btw_iff.mp bc
    have bd := btw_iff.mp bd
    have h0 := tie_lt hp h
    have hc := tie_lt hp c1
    have hd := tie_lt hp d1
    have hc2 := tie_lt hp c2
    have hd2 := tie_lt hp d2
    obtain ⟨mt, _, _, _⟩ := mod_diff hp (a := u) (b := t) (by omega) (by omega) (by omega) (by omega) (by omega)
    obtain ⟨mc, _, _, _⟩ := mod_diff hp (a := u) (b := c) (by omega) (by omega) (by omega) (by omega) (by omega)
    obtain ⟨md, _, _, _⟩ := mod_diff hp (a := u) (b := d) (by omega) (by omega) (by omega) (by omega) (by omega)
    have sym : ∀ {x y : Int}, tieB n cs x y = true → tieB n cs y x = true := fun h => by rw [tie_sym]; exact h
    have hcase : (u < c ∧ c < d ∧ d < t) ∨ (c < d ∧ d < t ∧ t < u) ∨ (d < t ∧ t < u ∧ u < c) ∨ (t < u ∧ u < c ∧ c < d) := by omega
    rcases hcase with ⟨x1, x2, x3⟩ | ⟨x1, x2, x3⟩ | ⟨x1, x2, x3⟩ | ⟨x1, x2, x3⟩
    · exact noX hp d2 (sym c1) x1 x2 x3
    · exact noX hp (sym c1) (sym d2) x1 x2 x3
    · exact noX hp (sym d2) c1 x1 x2 x3
    · exact noX hp c1 d2 x1 x2 x3
  rcases Int.lt_trichotomy ((c - u) % n) ((d - u) % n) with x | x | x
  · exact (key c d c1 c2 d1 d2 bc bd x).elim
  · have hc := tie_lt hp c1
    have hd := tie_lt hp d1
    have h0 := tie_lt hp h
    have hc2 := tie_lt hp c2
    have hd2 := tie_lt hp d2
    obtain ⟨mc, _, _, _⟩ := mod_diff hp (a := u) (b := c) (by omega) (by omega) (by omega) (by omega) (by omega)
    obtain ⟨md, _, _, _⟩ := mod_diff hp (a := u) (b := d) (by omega) (by omega) (by omega) (by omega) (by omega)
    omega
  · exact (key d c d1 d2 c1 c2 bd bc x).elim
/-- what the third corner tells -/
theorem thd_some {s e c : Int} (h : tieB n cs s e = true) (ht : thd n cs s e = some c) : tieB n cs s c = true ∧ tieB n cs e c = true ∧ btw n s c e = true := by
  obtain ⟨s0, s1, e0, e1, hne⟩ := tie_lt hp h
  rw [thd_eq hp] at ht
  have h1 := List.find?_some (p := fun c => tieB n cs s c && tieB n cs e c) ht
  have h2 := List.mem_of_find?_eq_some ht
  obtain ⟨a, b⟩ := Bool.and_eq_true_iff.mp h1
  obtain ⟨_, _, c0, c1, _⟩ := tie_lt hp a
  exact ⟨a, b, by rw [← mem_goL hp s0 s1 c0 c1 e0 e1 hne]; exact decide_eq_true h2⟩
theorem thd_none {s e c : Int} (h : tieB n cs s e = true) (ht : thd n cs s e = none) (h1 : tieB n cs s c = true) (h2 : tieB n cs e c = true) (hb : btw n s c e = true) : False := by
  obtain ⟨s0, s1, e0, e1, hne⟩ := tie_lt hp h
  obtain ⟨_, _, c0, c1, _⟩ := tie_lt hp h1
  rw [thd_eq hp] at ht
  rw [← mem_goL hp s0 s1 c0 c1 e0 e1 hne] at hb
  have := List.find?_eq_none.mp ht c (of_decide_eq_true hb)
  rw [h1, h2] at this
  exact this rfl
theorem thd_is {s e c : Int} (h : tieB n cs s e = true) (h1 : tieB n cs s c = true) (h2 : tieB n cs e c = true) (hb : btw n s c e = true) : thd n cs s e = some c := by
  cases ht : thd n cs s e with
  | none => exact (thd_none hp h ht h1 h2 hb).elim
  | some d =>
    obtain ⟨a, b, e'⟩ := thd_some hp h ht
    have h' : tieB n cs e s = true := by rw [tie_sym]; exact h
    rw [uniq_side hp h' b a h2 h1 e' hb]
end
end Tx
namespace Tx
open PySem PySem.Spec PyProof.Rows L2 TL
section
variable {K : KD} {Kl : KL} {E : KX} {Kb : KB} {n : Int} {cs : List (Int × Int)}
variable (hp : IsPlan n cs)
include hp
/-- c is the third corner of the place (t, u), by its way -/
structure Th (n : Int) (cs : List (Int × Int)) (ev : Bool) (t u c : Int) : Prop where
  tu : tieB n cs t u = true
  tc : tieB n cs t c = true
  uc : tieB n cs u c = true
  o : (if ev then btw n t c u else btw n u c t) = true
omit hp in
theorem tsym {a b : Int} (h : tieB n cs a b = true) : tieB n cs b a = true := by rw [tie_sym]; exact h
theorem th_of {p : Int × Int} {ev : Bool} {c : Int} (h : tieB n cs p.1 p.2 = true) (hc : thW n cs p ev = some c) : Th n cs ev p.1 p.2 c := by
  unfold thW at hc
  cases ev with
  | true =>
    rw [if_pos rfl] at hc
    obtain ⟨a, b, d⟩ := thd_some hp h hc
    exact ⟨h, a, b, by rw [if_pos rfl]; exact d⟩
  | false =>
    rw [if_neg (by decide)] at hc
    obtain ⟨a, b, d⟩ := thd_some hp (tsym h) hc
    exact ⟨h, b, a, by rw [if_neg (by decide)]; exact d⟩
theorem Th.eq {ev : Bool} {t u c : Int} (x : Th n cs ev t u c) : thW n cs (t, u) ev = some c := by
  have o := x.o
  unfold thW
  cases ev with
  | true => rw [if_pos rfl] at o ⊢; exact thd_is hp x.tu x.tc x.uc o
  | false => rw [if_neg (by decide)] at o ⊢; exact thd_is hp (tsym x.tu) x.uc x.tc o
/-- turned over -/
theorem Th.ov {ev : Bool} {t u c : Int} (x : Th n cs ev t u c) : Th n cs (!ev) u t c := by
  refine ⟨tsym x.tu, x.uc, x.tc, ?_⟩
  have o := x.o
  cases ev with
  | true => exact o
  | false => exact o
end
end Tx
namespace Tx
open PySem PySem.Spec PyProof.Rows L2 TL
inductive Sp2 where
  | mv (pn ev : Bool)
  | ov
def goS (n : Int) (cs : List (Int × Int)) (p : Int × Int) : Sp2 → Option (Int × Int)
  | .mv pn ev => (thW n cs p ev).map fun c => if pn then (c, p.1) else (p.2, c)
  | .ov => some (p.2, p.1)
def goW (n : Int) (cs : List (Int × Int)) : List Sp2 → Int × Int → Option (Int × Int)
  | [], p => some p
  | s :: r, p => (goS n cs p s).bind (goW n cs r)
end Tx
namespace Tx
open PySem PySem.Spec PyProof.Rows L2 TL
@[irreducible] def f__law_odd (l_many : PyData) (K : KD) (E : KX) : Prop :=
  subM (.int 0) (.int 1) fun r1 =>
  addM l_many (.int 1) fun r2 =>
  subM l_many (.int 1) fun r3 =>
  subM (.int 0) (.int 1000000000000000000000000000000) fun r4 =>
  f__law_pull (.int 50) (fun r5 =>
  f__law_pull (.int 9) (fun r6 =>
  ixM (.list [r1, (.int 0), (.int 1), l_many, r2, r3, (.int 1000000000000000000000000000000), r4, r5]) r6 fun r7 =>
  K r7) E) E
def c__law_odd : CT := fun args Φ Ψ => ∃ (a_l_bag_here : Addr) (l_many : PyData) (K : KD) (E : KX), args = [.bg a_l_bag_here, .d l_many] ∧ f__law_odd l_many K E ∧ (∀ r, K r → Φ (.rd r) args) ∧ ∀ c, E c → Ψ c args
section
variable {K : KD} {E : KX} {Kb : KB} {n : Int} {cs : List (Int × Int)} {p q : Int × Int}
theorem i__law_odd {m : Int} (hK : ∀ k : Int, K (.int k)) : f__law_odd (.int m) K E := by
  unfold f__law_odd
  simp only [q_add_ii, q_add_ss, q_add_ll, q_add_tt, q_addL, q_sub, q_mul, q_div, q_mod, q_neg, q_bool, q_eq_ii, q_eq_ss, q_eq_bb, q_ne_ii, q_ne_ss, q_ne_bb, q_lt, q_le, q_gt, q_ge, q_un2, q_un3, q_un4, q_intO, q_len_l, q_len_t, q_len_s, q_abs, q_int_i, q_int_b, q_tup_l, q_tup_t, q_list_l, q_list_t, q_min, q_max, q_it_l, q_it_t, q_rng, q_enu_l, q_enu_t, q_rev, q_sl_l, q_sl_t, q_sl_s, q_slL, q_all, q_any, q_sum, q_sort_pp, q_and, q_or, q_ite, q_join, cond_true, cond_false, true_and, and_true, decide_eq_true_eq, decide_true, decide_false, p_un_pl, p_ix_pl0, p_ix_pl1, p_un_pp, p_ix_pp0, p_ix_pp1, p_mk, p_eq, p_ne, p_in, p_notIn, p_lt]
  rw [e__law_pull (by decide) (by decide)]
  intro a a0 a1
  rw [e__law_pull (by decide) (by decide)]
  intro r r0 r1
  have er : r = 0 ∨ r = 1 ∨ r = 2 ∨ r = 3 ∨ r = 4 ∨ r = 5 ∨ r = 6 ∨ r = 7 ∨ r = 8 := by omega
  rcases er with rfl | rfl | rfl | rfl | rfl | rfl | rfl | rfl | rfl <;> exact hK _
end
end Tx
namespace Tx
open PySem PySem.Spec PyProof.Rows L2 TL
open Tr
inductive Dwn (n : Int) (cs : List (Int × Int)) : Int → Int → Bool → List Int → Prop
  | leaf {t u : Int} {cr : Bool} : tieB n cs t u = true → (t + 1) % n = u → Dwn n cs t u cr [t]
  | node {t u c : Int} {cr : Bool} {A B : List Int} : Th n cs true t u c → Dwn n cs t c (!cr) A → Dwn n cs c u (!cr) B → Dwn n cs t u cr (if cr then B ++ A else A ++ B)
theorem arc_split {n t u c : Int} (h : btw n t c u = true) (n0 : 0 < n) : (c - t) % n + (u - c) % n = (u - t) % n ∧ 0 < (c - t) % n ∧ 0 < (u - c) % n := by
  obtain ⟨h1, h2⟩ := btw_iff.mp h
  have h3 := Int.emod_lt_of_pos (u - t) n0
  have e : (u - c) % n = (u - t) % n - (c - t) % n := by
    rw [show u - c = (u - t) - (c - t) by omega, Int.sub_emod]
    exact Int.emod_eq_of_lt (by omega) (by omega)
  omega
theorem arc_one {n t u : Int} (h : (t + 1) % n = u) (n1 : 1 < n) : (u - t) % n = 1 := by
  rw [← h, Int.emod_sub_emod, show t + 1 - t = 1 by omega]
  exact Int.emod_eq_of_lt (by omega) n1
section
variable {n : Int} {cs : List (Int × Int)} {E : KX}
variable (hp : IsPlan n cs)
include hp
theorem Dwn.len {t u : Int} {cr : Bool} {L : List Int} (h : Dwn n cs t u cr L) : (L.length : Int) = (u - t) % n := by
  have h3 := hp.lo
  induction h with
  | leaf h1 h2 => rw [arc_one h2 (by omega)]; rfl
  | @node t u c cr A B x _ _ ia ib =>
    have o := x.o
    rw [if_pos rfl] at o
    have := arc_split o (by omega)
    cases cr
    · show (((A ++ B).length : Nat) : Int) = _
      rw [List.length_append]; omega
    · show (((B ++ A).length : Nat) : Int) = _
      rw [List.length_append]; omega
end
/-- one list is the other one, begun elsewhere -/
def Rot (L O : List Int) : Prop := ∃ p q, O = p ++ q ∧ L = q ++ p
theorem Rot.ne {L O : List Int} (h : Rot L O) (hO : O ≠ []) : ∃ p y q, O = p ++ y :: q ∧ L = y :: q ++ p := by
  obtain ⟨p, q, rfl, rfl⟩ := h
  cases q with
  | cons y q => exact ⟨p, y, q, rfl, rfl⟩
  | nil =>
    cases p with
    | nil => exact absurd rfl hO
    | cons y p => exact ⟨[], y, p, by simp, by simp⟩
end Tx
namespace Tx
open PySem PySem.Spec PyProof.Rows L2 TL
open Tr
inductive Tou (n : Int) (cs : List (Int × Int)) : Int → Int → Bool → List Bool → Prop
  | leaf {x y : Int} {w : Bool} : tieB n cs x y = true → (x + 1) % n = y → Tou n cs x y w []
  | node {x y c : Int} {w : Bool} {L1 L2 : List Bool} : Th n cs true x y c → Tou n cs x c (!w) L1 → Tou n cs c y (!w) L2 → Tou n cs x y w (w :: ((if w then L1 else L2) ++ (w :: ((if w then L2 else L1) ++ [w]))))
def inA (n x y v : Int) : Prop := (v - x) % n ≤ (y - x) % n
theorem arc_vc {n x c y v : Int} (n0 : 0 < n) (hb : btw n x c y = true) (h : inA n c y v) : (v - x) % n = (c - x) % n + (v - c) % n := by
  obtain ⟨s1, s2, s3⟩ := arc_split hb n0
  have h4 := Int.emod_lt_of_pos (y - x) n0
  have h5 := Int.emod_nonneg (v - c) (show n ≠ 0 by omega)
  unfold inA at h
  rw [show v - x = (c - x) + (v - c) by omega, Int.add_emod]
  exact Int.emod_eq_of_lt (by omega) (by omega)
theorem Tou.len {n : Int} {cs : List (Int × Int)} (hp : IsPlan n cs) {x y : Int} {w : Bool} {L : List Bool} (h : Tou n cs x y w L) : (L.length : Int) + 3 = 3 * ((y - x) % n) := by
  have h3 := hp.lo
  induction h with
  | leaf h1 h2 => rw [arc_one h2 (by omega)]; rfl
  | @node x y c w L1 L2 t _ _ i1 i2 =>
    have o := t.o
    rw [if_pos rfl] at o
    have := arc_split o (by omega)
    cases w <;> simp only [if_true, if_false, Bool.false_eq_true, List.length_cons, List.length_append, List.length_nil] <;> omega
end Tx
namespace Tx
open PySem PySem.Spec PyProof.Rows L2 TL
open Tr
/-- what lies behind an arc: from (x, y), looked at by the way w, along P -/
inductive Ds (n : Int) (cs : List (Int × Int)) : Int → Int → Bool → List Sp2 → Int → Int → Bool → Prop
  | nil {x y w} : Ds n cs x y w [] x y w
  | lft {x y w c P x' y' w'} : Th n cs true x y c → Ds n cs x c (!w) P x' y' w' → Ds n cs x y w (.mv w w :: P) x' y' w'
  | rgt {x y w c P x' y' w'} : Th n cs true x y c → Ds n cs c y (!w) P x' y' w' → Ds n cs x y w (.mv (!w) w :: P) x' y' w'
section
variable {n : Int} {cs : List (Int × Int)}
def Inc (n x y x' y' : Int) : Prop := (x' - x) % n + (y' - x') % n ≤ (y - x) % n
theorem Inc.refl {x y : Int} : Inc n x y x y := by unfold Inc; rw [Int.sub_self, Int.zero_emod]; omega
theorem Inc.inL {x y x' y' : Int} (n0 : 0 < n) (h : Inc n x y x' y') : inA n x y x' := by
  unfold Inc at h; unfold inA
  have := Int.emod_nonneg (y' - x') (show n ≠ 0 by omega)
  omega
theorem Inc.end {x y x' y' : Int} (n0 : 0 < n) (h : Inc n x y x' y') : (y' - x) % n = (x' - x) % n + (y' - x') % n := by
  unfold Inc at h
  have h1 := Int.emod_nonneg (y' - x') (show n ≠ 0 by omega)
  have h2 := Int.emod_nonneg (x' - x) (show n ≠ 0 by omega)
  have h3 := Int.emod_lt_of_pos (y - x) n0
  rw [show y' - x = (x' - x) + (y' - x') by omega, Int.add_emod]
  exact Int.emod_eq_of_lt (by omega) (by omega)
theorem Inc.lft {x y c x' y' : Int} (n0 : 0 < n) (hb : btw n x c y = true) (h : Inc n x c x' y') : Inc n x y x' y' := by
  have := (btw_iff.mp hb).2
  unfold Inc at *; omega
theorem Inc.rgt {x y c x' y' : Int} (n0 : 0 < n) (hb : btw n x c y = true) (h : Inc n c y x' y') : Inc n x y x' y' := by
  obtain ⟨s1, s2, s3⟩ := arc_split hb n0
  have e := arc_vc n0 hb (h.inL n0)
  unfold Inc at *
  omega
variable (hp : IsPlan n cs)
include hp
theorem Th.one {x y c c' : Int} (h1 : Th n cs true x y c) (h2 : Th n cs true x y c') : c = c' := by
  have e1 := h1.eq hp
  have e2 := h2.eq hp
  rw [e1] at e2
  exact Option.some.inj e2
theorem Ds.tie {x y w P x' y' w'} (h : Ds n cs x y w P x' y' w') (ht : tieB n cs x y = true) : tieB n cs x' y' = true := by
  induction h with
  | nil => exact ht
  | lft t _ ih => exact ih t.tc
  | rgt t _ ih => exact ih (tsym t.uc)
def Alt : Option Bool → List Sp2 → Prop
  | _, [] => True
  | w, .mv _ v :: P => w ≠ some v ∧ Alt (some v) P
  | _, .ov :: _ => False
end
end Tx
namespace Tx
open PySem PySem.Spec PyProof.Rows L2 TL
open Tr
abbrev Ent := (Int × Int) × List Sp2
def lw : Option Bool → List Sp2 → Option Bool
  | w, [] => w
  | _, .mv _ v :: P => lw (some v) P
  | _, .ov :: _ => none
theorem put_new {D : AT} {k : List Key} {v : PyData} (h : valP D k = none) : putP D k v = D ++ [(k, v)] := by
  unfold putP
  rw [if_neg]
  intro z
  obtain ⟨kv, hkv, e⟩ := List.any_eq_true.mp z
  have := valP_some (kvs := D) (k := k) (d := kv.2) (by rw [← of_decide_eq_true e]; exact hkv)
  rw [h] at this
  cases this
section
variable {n : Int} {cs : List (Int × Int)}
structure Inv (n : Int) (cs : List (Int × Int)) (s : Int × Int) (L : List Ent) (at_ : Nat) : Prop where
  nod : ∀ e ∈ L, Alt none e.2 ∧ goW n cs e.2 s = some e.1
  nd : (L.map (·.2)).Nodup
  cl : ∀ i e, i < at_ → L[i]? = some e → ∀ pn v q', lw none e.2 ≠ some v → goS n cs e.1 (.mv pn v) = some q' → (q', e.2 ++ [.mv pn v]) ∈ L
  pa : ∀ e ∈ L, e.2 ≠ [] → ∃ i e', i < at_ ∧ L[i]? = some e' ∧ ∃ st, e.2 = e'.2 ++ [st]
  rt : (s, []) ∈ L
end
end Tx
namespace Tx
open PySem PySem.Spec PyProof.Rows L2 TL
/-- a map of the corners that keeps what a cut is, and what crosses -/
structure Cor (n : Int) (g : Int → Int) : Prop where
  rg : ∀ x, 0 ≤ x → x < n → 0 ≤ g x ∧ g x < n
  inj : ∀ x y, 0 ≤ x → x < n → 0 ≤ y → y < n → g x = g y → x = y
  cut : ∀ x y, 0 ≤ x → x < n → 0 ≤ y → y < n → (g x - g y = 1 ∨ g y - g x = 1 ∨ g x - g y = n - 1 ∨ g y - g x = n - 1) → (x - y = 1 ∨ y - x = 1 ∨ x - y = n - 1 ∨ y - x = n - 1)
  noc : ∀ a b c d, 0 ≤ a → a < b → b < n → 0 ≤ c → c < d → d < n → crossB (a, b) (c, d) = false → crossB (nrmP (g a) (g b)) (nrmP (g c) (g d)) = false
theorem nrmP_lt {a b : Int} (h : a ≠ b) : (nrmP a b).1 < (nrmP a b).2 ∧ ((nrmP a b = (a, b) ∧ a < b) ∨ (nrmP a b = (b, a) ∧ b < a)) := by
  unfold nrmP
  by_cases c : b < a
  · rw [if_pos c, if_neg (by omega)]; exact ⟨c, .inr ⟨rfl, c⟩⟩
  · rw [if_neg c, if_pos (by omega)]; exact ⟨by show a < b; omega, .inl ⟨rfl, by omega⟩⟩
theorem Cor.plan {n : Int} {g : Int → Int} {cs : List (Int × Int)} (h : Cor n g) (hp : IsPlan n cs) : IsPlan n (sortPP (cs.map fun p => nrmP (g p.1) (g p.2))) ∧ (cs.map fun p => nrmP (g p.1) (g p.2)).Nodup := by
  have bd : ∀ c ∈ cs, 0 ≤ c.1 ∧ c.1 < n ∧ 0 ≤ c.2 ∧ c.2 < n ∧ c.1 < c.2 := fun c hc => by have := hp.cut c hc; omega
  have ne : ∀ c ∈ cs, g c.1 ≠ g c.2 := fun c hc e => by
    obtain ⟨b1, b2, b3, b4, b5⟩ := bd c hc
    have := h.inj _ _ b1 b2 b3 b4 e; omega
  have pm := sortPP_perm (cs.map fun p => nrmP (g p.1) (g p.2))
  have nd0 : cs.Nodup := hp.srt.imp fun {p q} hlt e => by
    subst e; unfold ltPP at hlt; simp at hlt
  have inj : ∀ p ∈ cs, ∀ q ∈ cs, nrmP (g p.1) (g p.2) = nrmP (g q.1) (g q.2) → p = q := fun p hp1 q hq e => by
    obtain ⟨b1, b2, b3, b4, b5⟩ := bd p hp1
    obtain ⟨c1, c2, c3, c4, c5⟩ := bd q hq
    have e1 := (nrmP_lt (ne p hp1)).2
    have e2 := (nrmP_lt (ne q hq)).2
    rcases e1 with ⟨e1, l1⟩ | ⟨e1, l1⟩ <;> rcases e2 with ⟨e2, l2⟩ | ⟨e2, l2⟩ <;> rw [e1, e2] at e <;> injection e with x1 x2
    · exact Prod.ext (h.inj _ _ b1 b2 c1 c2 x1) (h.inj _ _ b3 b4 c3 c4 x2)
    · have := h.inj _ _ b1 b2 c3 c4 x1; have := h.inj _ _ b3 b4 c1 c2 x2; omega
    · have := h.inj _ _ b3 b4 c1 c2 x1; have := h.inj _ _ b1 b2 c3 c4 x2; omega
    · exact Prod.ext (h.inj _ _ b1 b2 c1 c2 x2) (h.inj _ _ b3 b4 c3 c4 x1)
  have nd : (cs.map fun p => nrmP (g p.1) (g p.2)).Nodup := by
    refine List.pairwise_map.mpr ?_
    have : cs.Pairwise fun p q => p ∈ cs ∧ q ∈ cs ∧ p ≠ q := by
      have := List.Pairwise.and_mem.mp nd0
      exact this.imp fun {p q} hh => ⟨hh.1, hh.2.1, hh.2.2⟩
    exact this.imp fun {p q} ⟨m1, m2, hne⟩ e => hne (inj p m1 q m2 e)
  refine ⟨⟨hp.lo, hp.hi, by rw [pm.length_eq, List.length_map]; exact hp.len, fun c hc => ?_, sortPP_lt nd, fun c hc d hd => ?_⟩, nd⟩
  · obtain ⟨p, hp1, rfl⟩ := List.mem_map.mp (pm.mem_iff.mp hc)
    obtain ⟨b1, b2, b3, b4, b5⟩ := bd p hp1
    have r1 := h.rg _ b1 b2
    have r2 := h.rg _ b3 b4
    have cu := hp.cut p hp1
    have hc := h.cut p.1 p.2 b1 b2 b3 b4
    rcases (nrmP_lt (ne p hp1)).2 with ⟨e1, l1⟩ | ⟨e1, l1⟩ <;> rw [e1] <;> dsimp only <;> refine ⟨by omega, ?_, by omega, fun z => ?_⟩
    · by_cases q : g p.2 - g p.1 = 1
      · have := hc (.inr (.inl q)); omega
      · omega
    · have := hc (.inr (.inr (.inr (by omega)))); omega
    · by_cases q : g p.1 - g p.2 = 1
      · have := hc (.inl q); omega
      · omega
    · have := hc (.inr (.inr (.inl (by omega)))); omega
  · obtain ⟨p, hp1, rfl⟩ := List.mem_map.mp (pm.mem_iff.mp hc)
    obtain ⟨q, hq1, rfl⟩ := List.mem_map.mp (pm.mem_iff.mp hd)
    obtain ⟨b1, b2, b3, b4, b5⟩ := bd p hp1
    obtain ⟨c1, c2, c3, c4, c5⟩ := bd q hq1
    exact h.noc p.1 p.2 q.1 q.2 b1 b5 b4 c1 c5 c4 (hp.noc p hp1 q hq1)
end Tx
namespace Tx
open PySem PySem.Spec PyProof.Rows L2 TL
open Tr
def allF : Nat → Nat → List Tr
  | 0, _ => [.lf]
  | f + 1, w => if w ≤ 1 then [.lf] else (List.range (w - 1)).flatMap fun j => (allF f (1 + j)).flatMap fun a => (allF f (w - 1 - j)).map fun b => .nd a b
theorem allF_eq : ∀ f g w, w ≤ f → w ≤ g → allF f w = allF g w := by
  intro f
  induction f with
  | zero =>
    intro g w h1 h2
    cases g with
    | zero => rfl
    | succ g => unfold allF; rw [if_pos (by omega)]
  | succ f ih =>
    intro g w h1 h2
    cases g with
    | zero => unfold allF; rw [if_pos (by omega)]
    | succ g =>
      unfold allF
      by_cases h : w ≤ 1
      · rw [if_pos h, if_pos h]
      · rw [if_neg h, if_neg h]
        refine congrArg List.flatten (List.map_congr_left fun j hj => ?_)
        have hj := List.mem_range.mp hj
        rw [ih g (1 + j) (by omega) (by omega), ih g (w - 1 - j) (by omega) (by omega)]
def allT (w : Nat) : List Tr := allF w w
theorem allT_one : allT 1 = [.lf] := rfl
theorem allT_step {w : Nat} (h : 2 ≤ w) : allT w = (List.range (w - 1)).flatMap fun j => (allT (1 + j)).flatMap fun a => (allT (w - 1 - j)).map fun b => .nd a b := by
  unfold allT
  obtain ⟨f, rfl⟩ : ∃ f, w = f + 1 := ⟨w - 1, by omega⟩
  conv => lhs; unfold allF
  rw [if_neg (by omega)]
  refine congrArg List.flatten (List.map_congr_left fun j hj => ?_)
  have hj := List.mem_range.mp hj
  rw [allF_eq f (1 + j) (1 + j) (by omega) (by omega), allF_eq f (f + 1 - 1 - j) (f + 1 - 1 - j) (by omega) (by omega)]
theorem mem_allT : ∀ (w : Nat), 1 ≤ w → ∀ t : Tr, t ∈ allT w ↔ t.sz = w := by
  intro w
  induction w using Nat.strongRecOn with
  | _ w ih =>
    intro h1 t
    by_cases h : w = 1
    · subst h
      rw [allT_one, List.mem_singleton]
      constructor
      · rintro rfl; rfl
      · intro h
        cases t with
        | lf => rfl
        | nd a b => have := sz_pos a; have := sz_pos b; have : (Tr.nd a b).sz = a.sz + b.sz := rfl; omega
    · rw [allT_step (by omega), List.mem_flatMap]
      constructor
      · rintro ⟨j, hj, ht⟩
        have hj := List.mem_range.mp hj
        obtain ⟨a, ha, ht⟩ := List.mem_flatMap.mp ht
        obtain ⟨b, hb, rfl⟩ := List.mem_map.mp ht
        have ha := (ih (1 + j) (by omega) (by omega) a).mp ha
        have hb := (ih (w - 1 - j) (by omega) (by omega) b).mp hb
        show a.sz + b.sz = _
        omega
      · intro ht
        cases t with
        | lf => have : (Tr.lf).sz = 1 := rfl; omega
        | nd a b =>
          have ha := sz_pos a
          have hb := sz_pos b
          have : (Tr.nd a b).sz = a.sz + b.sz := rfl
          refine ⟨(a.sz - 1).toNat, List.mem_range.mpr (by omega), List.mem_flatMap.mpr ⟨a, (ih _ (by omega) (by omega) a).mpr (by omega), List.mem_map.mpr ⟨b, (ih _ (by omega) (by omega) b).mpr (by omega), rfl⟩⟩⟩
end Tx
namespace Tx
open PySem PySem.Spec PyProof.Rows L2 TL
@[irreducible] def f_cut_by_s (rec : PyData → PyData → PyData → PyData → KL → KX → Prop) (row : PyData) (start : PyData) (steps : PyData) (number : PyData) (K : KL) (E : KX) : Prop :=
  eqM steps (.int 1) fun b1 =>
  (b1 = true → (K [])) ∧ (b1 = false → (∃ n : Nat, whileM (fun (s : PyData × PyData) N35 B36 => match s with
  | (number37, first_38) => ixM row first_38 fun r39 =>
  subM steps first_38 fun r40 =>
  ixM row r40 fun r41 =>
  mulM r39 r41 fun r42 =>
  geM number37 r42 fun b43 =>
  (b43 = true → (intO number37 fun u45 =>
  ixM row first_38 fun r48 =>
  subM steps first_38 fun r49 =>
  ixM row r49 fun r50 =>
  mulM r48 r50 fun r51 =>
  intO r51 fun m46 =>
  intO first_38 fun u52 =>
  intO (.int 1) fun m53 =>
  N35 ((.int (u45 - m46)), (.int (u52 + m53))))) ∧ (b43 = false → B36 (number37, first_38))) (fun (s : PyData × PyData) =>
  match s with
  | (number5, first_6) => subM steps first_6 fun r7 =>
  ixM row r7 fun r8 =>
  divM number5 r8 fun r9 =>
  rec row start first_6 r9 (fun r10 =>
  addM start first_6 fun r11 =>
  subM steps first_6 fun r12 =>
  modM number5 r8 fun r13 =>
  rec row r11 r12 r13 (fun r14 =>
  addLM (.list r10) (.list r14) fun l15 =>
  joinM (fun (Q : (List PyData) → Prop) => gtM first_6 (.int 1) fun b17 =>
  (b17 = true → (addM start first_6 fun r21 =>
  l15.length < sizeLine ∧ (Q (l15 ++ ([(.tuple [start, r21])] : List PyData))))) ∧ (b17 = false → (Q l15))) (fun found23 =>
  joinM (fun (Q : (List PyData) → Prop) => subM steps first_6 fun r25 =>
  gtM r25 (.int 1) fun b26 =>
  (b26 = true → (addM start first_6 fun r30 =>
  addM start steps fun r31 =>
  found23.length < sizeLine ∧ (Q (found23 ++ ([(.tuple [r30, r31])] : List PyData))))) ∧ (b26 = false → (Q found23))) (fun found33 =>
  K found33))) E) E) n (number, (.int 1))))
def f_cut_by : Nat → PyData → PyData → PyData → PyData → KL → KX → Prop
  | 0 => fun _ _ _ _ _ _ => False
  | n + 1 => f_cut_by_s (f_cut_by n)
def c_cut_by (n : Nat) : CT := fun args Φ Ψ => ∃ (row : PyData) (start : PyData) (steps : PyData) (number : PyData) (K : KL) (E : KX), args = [.d row, .d start, .d steps, .d number] ∧ f_cut_by n row start steps number K E ∧ (∀ r, K r → Φ (.nl r) args) ∧ ∀ c, E c → Ψ c args
@[irreducible] def f_plan_numbered (faces : PyData) (number : PyData) (K : KD) (E : KX) : Prop :=
  f_need_faces faces (fun r1 =>
  subM faces (.int 1) fun r2 =>
  f_ways_row r2 (fun r3 =>
  andM (fun Q => leM (.int 0) number Q) (fun Q => subM faces (.int 1) fun r6 =>
  ixM (.list r3) r6 fun r7 =>
  ltM number r7 Q) fun b4 =>
  ((!b4) = true → (E (.own "BadNumber"))) ∧ ((!b4) = false → (subM faces (.int 1) fun r12 =>
  f_cut_by 64 (.list r3) (.int 1) r12 number (fun r13 =>
  itM (.list r13) fun xs11 =>
  lcM (fun p14 kp sk => un2 p14 fun low16 high17 =>
  modM high17 faces fun r19 =>
  f_pair_of low16 r19 (fun r20 =>
  kp r20) (fun _ => False)) (fun l15 =>
  sortM (.list l15) fun l21 =>
  tupM (.list l21) fun r22 =>
  K (.tuple [faces, r22])) xs11 []) E))) E) E
def c_plan_numbered : CT := fun args Φ Ψ => ∃ (faces : PyData) (number : PyData) (K : KD) (E : KX), args = [.d faces, .d number] ∧ f_plan_numbered faces number K E ∧ (∀ r, K r → Φ (.rd r) args) ∧ ∀ c, E c → Ψ c args
open Tr
def gN (w j : Nat) : Int := cc (1 + j) * cc (w - 1 - j)
def offN (w i : Nat) : Int := ((List.range i).map (gN w)).sum
namespace Tr
def rank : Tr → Int
  | .lf => 0
  | .nd a b => offN (a.sz + b.sz).toNat (a.sz.toNat - 1) + a.rank * cc b.sz.toNat + b.rank
/-- the cuts, as they are listed by a number -/
def cutsN : Tr → Int → List (Int × Int)
  | .lf, _ => []
  | .nd a b, s => a.cutsN s ++ b.cutsN (s + a.sz) ++ (if a.sz > 1 then [(s, s + a.sz)] else []) ++ (if b.sz > 1 then [(s + a.sz, s + a.sz + b.sz)] else [])
end Tr
theorem offN_succ (w i : Nat) : offN w (i + 1) = offN w i + gN w i := by
  unfold offN
  rw [List.range_succ, List.map_append, List.sum_append]; simp
theorem gN_nn {w j : Nat} (h1 : j + 1 < w) (h2 : w < 42) : 0 ≤ gN w j := Int.mul_nonneg (Int.le_of_lt (cc_pos _ (by omega) (by omega))) (Int.le_of_lt (cc_pos _ (by omega) (by omega)))
theorem offN_le {w : Nat} (h2 : w < 42) : ∀ (k i : Nat), i + k < w → offN w i ≤ offN w (i + k)
  | 0, i, _ => Int.le_refl _
  | k + 1, i, h => by
    have := offN_le h2 k i (by omega)
    have := gN_nn (w := w) (j := i + k) (by omega) h2
    rw [← Nat.add_assoc, offN_succ]; omega
theorem offN_nn {w i : Nat} (h : i < w) (h2 : w < 42) : 0 ≤ offN w i := by
  have := offN_le h2 i 0 (by omega)
  rw [Nat.zero_add] at this
  exact this
theorem offN_all {w : Nat} (h1 : 2 ≤ w) (h2 : w < 41) : offN w (w - 1) = cc w := by
  rw [← cc_rec w h2 h1]
  unfold offN
  refine congrArg List.sum (List.map_congr_left fun j hj => ?_)
  have hj := List.mem_range.mp hj
  unfold gN
  rw [show (1 + (j : Int)).toNat = 1 + j by omega, show ((w : Int) - (1 + (j : Int))).toNat = w - 1 - j by omega]
theorem mul_lt_of {a b A B : Int} (a0 : 0 ≤ a) (a1 : a < A) (b0 : 0 ≤ b) (b1 : b < B) : a * B + b < A * B := by
  have h : (a + 1) * B ≤ A * B := Int.mul_le_mul_of_nonneg_right (by omega) (by omega)
  rw [Int.add_mul] at h
  omega
theorem rank_b : ∀ t : Tr, t.sz ≤ 40 → 0 ≤ t.rank ∧ t.rank < cc t.sz.toNat
  | .lf, _ => by show 0 ≤ (0 : Int) ∧ (0 : Int) < cc 1; decide
  | .nd a b, h => by
    have ha := sz_pos a
    have hb := sz_pos b
    have esz : (Tr.nd a b).sz = a.sz + b.sz := rfl
    obtain ⟨a0, a1⟩ := rank_b a (by omega)
    obtain ⟨b0, b1⟩ := rank_b b (by omega)
    have o := offN_nn (w := (a.sz + b.sz).toNat) (i := a.sz.toNat - 1) (by omega) (by omega)
    have cb := cc_pos b.sz.toNat (by omega) (by omega)
    have m0 := Int.mul_nonneg a0 (Int.le_of_lt cb)
    have m1 := mul_lt_of a0 a1 b0 b1
    have g : gN (a.sz + b.sz).toNat (a.sz.toNat - 1) = cc a.sz.toNat * cc b.sz.toNat := by
      unfold gN
      rw [show 1 + (a.sz.toNat - 1) = a.sz.toNat by omega, show (a.sz + b.sz).toNat - 1 - (a.sz.toNat - 1) = b.sz.toNat by omega]
    have s1 := offN_succ (a.sz + b.sz).toNat (a.sz.toNat - 1)
    have le := offN_le (w := (a.sz + b.sz).toNat) (by omega) ((a.sz + b.sz).toNat - 1 - (a.sz.toNat - 1 + 1)) (a.sz.toNat - 1 + 1) (by omega)
    rw [show a.sz.toNat - 1 + 1 + ((a.sz + b.sz).toNat - 1 - (a.sz.toNat - 1 + 1)) = (a.sz + b.sz).toNat - 1 by omega, offN_all (by omega) (by omega)] at le
    show 0 ≤ offN _ _ + a.rank * cc b.sz.toNat + b.rank ∧ offN _ _ + a.rank * cc b.sz.toNat + b.rank < cc (a.sz + b.sz).toNat
    omega
def rgI (m : Int) : List Int := (List.range m.toNat).map fun (i : Nat) => (i : Int)
theorem rgI_add {a b : Int} (ha : 0 ≤ a) (hb : 0 ≤ b) : rgI (a + b) = rgI a ++ (rgI b).map fun x => a + x := by
  unfold rgI
  rw [Int.toNat_add ha hb, List.range_add, List.map_append, List.map_map, List.map_map]
  congr 1
  refine List.map_congr_left fun j _ => ?_
  show ((a.toNat + j : Nat) : Int) = a + (j : Int)
  omega
theorem rgI_mul {c : Int} (hc : 0 ≤ c) : ∀ m : Nat, (rgI (m : Int)).flatMap (fun r => (rgI c).map fun q => r * c + q) = rgI (m * c)
  | 0 => by simp [rgI]
  | m + 1 => by
    have e : rgI ((m + 1 : Nat) : Int) = rgI (m : Int) ++ [(m : Int)] := by
      unfold rgI
      rw [Int.toNat_natCast, Int.toNat_natCast, List.range_succ, List.map_append]; rfl
    rw [e, List.flatMap_append, rgI_mul hc m, show ((m + 1 : Nat) : Int) * c = (m : Int) * c + c by rw [show ((m + 1 : Nat) : Int) = (m : Int) + 1 from rfl, Int.add_mul]; omega, rgI_add (Int.mul_nonneg (by omega) hc) hc]
    simp
theorem rank_all : ∀ (w : Nat), 1 ≤ w → w ≤ 40 → (allT w).map Tr.rank = rgI (cc w) := by
  intro w
  induction w using Nat.strongRecOn with
  | _ w ih =>
    intro h1 h2
    by_cases h : w = 1
    · subst h; rfl
    · rw [allT_step (by omega), List.map_flatMap]
      have row : ∀ j, j < w - 1 → ((allT (1 + j)).flatMap fun a => (allT (w - 1 - j)).map fun b => Tr.nd a b).map Tr.rank = (rgI (gN w j)).map fun x => offN w j + x := fun j hj => by
        have c1 := cc_pos (1 + j) (by omega) (by omega)
        have c2 := cc_pos (w - 1 - j) (by omega) (by omega)
        have e1 : gN w j = ((cc (1 + j)).toNat : Int) * cc (w - 1 - j) := by unfold gN; rw [Int.toNat_of_nonneg (by omega)]
        rw [e1, ← rgI_mul (by omega), List.map_flatMap, List.map_flatMap]
        rw [show (((cc (1 + j)).toNat : Nat) : Int) = cc (1 + j) by omega, ← ih (1 + j) (by omega) (by omega) (by omega), List.flatMap_map]
        refine congrArg List.flatten (List.map_congr_left fun a ha => ?_)
        have ha := (mem_allT (1 + j) (by omega) a).mp ha
        rw [List.map_map, List.map_map, ← ih (w - 1 - j) (by omega) (by omega) (by omega), List.map_map]
        refine List.map_congr_left fun b hb => ?_
        have hb := (mem_allT (w - 1 - j) (by omega) b).mp hb
        show offN (a.sz + b.sz).toNat (a.sz.toNat - 1) + a.rank * cc b.sz.toNat + b.rank = offN w j + (a.rank * cc (w - 1 - j) + b.rank)
        rw [show (a.sz + b.sz).toNat = w by omega, show a.sz.toNat - 1 = j by omega, show b.sz.toNat = w - 1 - j by omega, Int.add_assoc]
      have go : ∀ m, m ≤ w - 1 → ((List.range m).flatMap fun j => ((allT (1 + j)).flatMap fun a => (allT (w - 1 - j)).map fun b => Tr.nd a b).map Tr.rank) = rgI (offN w m) := fun m => by
        induction m with
        | zero => intro _; rfl
        | succ m ihm =>
          intro hm
          rw [List.range_succ, List.flatMap_append, ihm (by omega), offN_succ, rgI_add (offN_nn (by omega) (by omega)) (gN_nn (by omega) (by omega))]
          congr 1
          rw [List.flatMap_singleton]
          exact row m (by omega)
      rw [go (w - 1) (Nat.le_refl _), offN_all (by omega) (by omega)]
theorem rank_at {w : Nat} {i : Nat} {t : Tr} (h1 : 1 ≤ w) (h2 : w ≤ 40) (h : (allT w)[i]? = some t) : t.rank = i := by
  have e := congrArg (fun l => l[i]?) (rank_all w h1 h2)
  simp only [List.getElem?_map, h, Option.map_some] at e
  unfold rgI at e
  rw [List.getElem?_map] at e
  cases hr : (List.range (cc w).toNat)[i]? with
  | none => rw [hr] at e; cases e
  | some j =>
    rw [hr] at e
    have hi := (List.getElem?_eq_some_iff.mp hr).1
    rw [List.length_range] at hi
    rw [List.getElem?_range hi] at hr
    cases hr
    exact Option.some.inj e
theorem cutsN_perm : ∀ (t : Tr) (s : Int), (t.cutsN s).Perm ((t.arcs s).filter wide)
  | .lf, s => List.Perm.refl _
  | .nd a b, s => by
    have h1 : ([(s, s + a.sz)] : List (Int × Int)).filter wide = if a.sz > 1 then [(s, s + a.sz)] else [] := by
      unfold wide
      by_cases h : a.sz > 1
      · rw [if_pos h, List.filter_cons, if_pos (decide_eq_true (by simp only; omega))]; rfl
      · rw [if_neg h, List.filter_cons, if_neg (by rw [decide_eq_false (by simp only; omega)]; decide)]; rfl
    have h2 : ([(s + a.sz, s + a.sz + b.sz)] : List (Int × Int)).filter wide = if b.sz > 1 then [(s + a.sz, s + a.sz + b.sz)] else [] := by
      unfold wide
      by_cases h : b.sz > 1
      · rw [if_pos h, List.filter_cons, if_pos (decide_eq_true (by simp only; omega))]; rfl
      · rw [if_neg h, List.filter_cons, if_neg (by rw [decide_eq_false (by simp only; omega)]; decide)]; rfl
    have e : ((Tr.nd a b).arcs s).filter wide = (if a.sz > 1 then [(s, s + a.sz)] else []) ++ ((if b.sz > 1 then [(s + a.sz, s + a.sz + b.sz)] else []) ++ ((a.arcs s).filter wide ++ (b.arcs (s + a.sz)).filter wide)) := by
      rw [← h1, ← h2, ← List.filter_append, ← List.filter_append, ← List.filter_append]; rfl
    rw [e]
    show (a.cutsN s ++ b.cutsN (s + a.sz) ++ _ ++ _).Perm _
    refine List.Perm.trans ?_ (List.Perm.append_left _ (List.Perm.append_left _ ((cutsN_perm a s).append (cutsN_perm b (s + a.sz)))))
    rw [List.append_assoc, ← List.append_assoc (if a.sz > 1 then [(s, s + a.sz)] else [])]
    exact List.perm_append_comm
theorem cutsN_len : ∀ (t : Tr) (s : Int), ((t.cutsN s).length : Int) ≤ 2 * t.sz - 2
  | .lf, s => by show (0 : Int) ≤ 2 * 1 - 2; decide
  | .nd a b, s => by
    have h1 := cutsN_len a s
    have h2 := cutsN_len b (s + a.sz)
    have c1 : ((if a.sz > 1 then [(s, s + a.sz)] else [] : List (Int × Int)).length) ≤ 1 := by split <;> simp
    have c2 : ((if b.sz > 1 then [(s + a.sz, s + a.sz + b.sz)] else [] : List (Int × Int)).length) ≤ 1 := by split <;> simp
    show ((a.cutsN s ++ b.cutsN (s + a.sz) ++ (if a.sz > 1 then [(s, s + a.sz)] else []) ++ (if b.sz > 1 then [(s + a.sz, s + a.sz + b.sz)] else []) : List (Int × Int)).length : Int) ≤ 2 * (a.sz + b.sz) - 2
    simp only [List.length_append, Int.natCast_add]
    omega
section
variable {K : KD} {Kl : KL} {E : KX} {Kb : KB} {n : Int} {T : Tr}
theorem q_cc {m : Nat} {a : Int} (h0 : 0 ≤ a) (h : a < m) : ixM (.list (rg m ccD)) (.int a) K = K (.int (cc a.toNat)) := q_ix_rg h0 h
theorem i_cut_by {m : Nat} : ∀ (f : Nat) (t : Tr) (s : Int) (K : KL), t.sz ≤ f → t.sz ≤ 40 → t.sz < m → K ((t.cutsN s).map ppD) → f_cut_by f (.list (rg m ccD)) (.int s) (.int t.sz) (.int t.rank) K E := by
  have hsl := sizeLine_eq
  intro f
  induction f with
  | zero => intro t s K h1 h2; have := sz_pos t; omega
  | succ f ih =>
    intro t s K h1 h2 hm hK
    show f_cut_by_s (f_cut_by f) _ _ _ _ _ _
    unfold f_cut_by_s
    cases t with
    | lf =>
      rw [show (Tr.lf).sz = 1 from rfl, q_eq_ii, decide_eq_true rfl]
      exact ⟨fun _ => hK, fun z => (by cases z)⟩
    | nd a b =>
      have ha := sz_pos a
      have hb := sz_pos b
      have esz : (Tr.nd a b).sz = a.sz + b.sz := rfl
      rw [q_eq_ii, decide_eq_false (by omega)]
      refine ⟨fun z => (by cases z), fun _ => ?_⟩
      obtain ⟨a0, a1⟩ := rank_b a (by omega)
      obtain ⟨b0, b1⟩ := rank_b b (by omega)
      have cb := cc_pos b.sz.toNat (by omega) (by omega)
      have m0 := Int.mul_nonneg a0 (Int.le_of_lt cb)
      have m1 := mul_lt_of a0 a1 b0 b1
      obtain ⟨w, hw⟩ : ∃ w : Nat, (w : Int) = a.sz + b.sz := ⟨(a.sz + b.sz).toNat, by omega⟩
      obtain ⟨k, hk⟩ : ∃ k : Nat, (k : Int) = a.sz - 1 := ⟨(a.sz - 1).toNat, by omega⟩
      have er : (Tr.nd a b).rank = offN w k + (a.rank * cc b.sz.toNat + b.rank) := by
        show offN (a.sz + b.sz).toNat (a.sz.toNat - 1) + a.rank * cc b.sz.toNat + b.rank = _
        rw [show (a.sz + b.sz).toNat = w by omega, show a.sz.toNat - 1 = k by omega, Int.add_assoc]
      have term : ∀ i : Nat, i < w - 1 → ∀ Q : KD, (ixM (.list (rg m ccD)) (.int (1 + (i : Int))) fun r39 => subM (.int (Tr.nd a b).sz) (.int (1 + (i : Int))) fun r40 => ixM (.list (rg m ccD)) r40 fun r41 => mulM r39 r41 fun r42 => Q r42) = Q (.int (gN w i)) := fun i hi Q => by
        rw [q_cc (by omega) (by omega), q_sub, q_cc (by omega) (by omega), q_mul, esz, show (1 + (i : Int)).toNat = 1 + i by omega, show (a.sz + b.sz - (1 + (i : Int))).toNat = w - 1 - i by omega]
        exact propext (and_iff_right (.inr (wide_mul (cc_lt _ (by omega)) (cc_lt _ (by omega)) (by decide) (by decide) (by decide))))
      have gk : gN w k = cc a.sz.toNat * cc b.sz.toNat := by
        unfold gN
        rw [show 1 + k = a.sz.toNat by omega, show w - 1 - k = b.sz.toNat by omega]
      have st := while_seq2 (K := fun (s' : PyData × PyData) => match s' with
        | (number5, first_6) => subM (.int (Tr.nd a b).sz) first_6 fun r7 =>
          ixM (.list (rg m ccD)) r7 fun r8 =>
          divM number5 r8 fun r9 =>
          f_cut_by f (.list (rg m ccD)) (.int s) first_6 r9 (fun r10 =>
          addM (.int s) first_6 fun r11 =>
          subM (.int (Tr.nd a b).sz) first_6 fun r12 =>
          modM number5 r8 fun r13 =>
          f_cut_by f (.list (rg m ccD)) r11 r12 r13 (fun r14 =>
          addLM (.list r10) (.list r14) fun l15 =>
          joinM (fun (Q : (List PyData) → Prop) => gtM first_6 (.int 1) fun b17 =>
          (b17 = true → (addM (.int s) first_6 fun r21 =>
          l15.length < sizeLine ∧ (Q (l15 ++ ([(.tuple [(.int s), r21])] : List PyData))))) ∧ (b17 = false → (Q l15))) (fun found23 =>
          joinM (fun (Q : (List PyData) → Prop) => subM (.int (Tr.nd a b).sz) first_6 fun r25 =>
          gtM r25 (.int 1) fun b26 =>
          (b26 = true → (addM (.int s) first_6 fun r30 =>
          addM (.int s) (.int (Tr.nd a b).sz) fun r31 =>
          found23.length < sizeLine ∧ (Q (found23 ++ ([(.tuple [r30, r31])] : List PyData))))) ∧ (b26 = false → (Q found23))) (fun found33 =>
          K found33))) E) E)
        (st := fun (s' : PyData × PyData) N35 B36 => match s' with
        | (number37, first_38) => ixM (.list (rg m ccD)) first_38 fun r39 =>
          subM (.int (Tr.nd a b).sz) first_38 fun r40 =>
          ixM (.list (rg m ccD)) r40 fun r41 =>
          mulM r39 r41 fun r42 =>
          geM number37 r42 fun b43 =>
          (b43 = true → (intO number37 fun u45 =>
          ixM (.list (rg m ccD)) first_38 fun r48 =>
          subM (.int (Tr.nd a b).sz) first_38 fun r49 =>
          ixM (.list (rg m ccD)) r49 fun r50 =>
          mulM r48 r50 fun r51 =>
          intO r51 fun m46 =>
          intO first_38 fun u52 =>
          intO (.int 1) fun m53 =>
          N35 ((.int (u45 - m46)), (.int (u52 + m53))))) ∧ (b43 = false → B36 (number37, first_38)))
        k (fun i => (PyData.int ((Tr.nd a b).rank - offN w i), PyData.int (1 + (i : Int)))) (fun i hi N hN => ?_) (fun N => ?_)
      · have e0 : (PyData.int ((Tr.nd a b).rank - offN w 0), PyData.int (1 + ((0 : Nat) : Int))) = (PyData.int (Tr.nd a b).rank, PyData.int 1) := by
          show (PyData.int ((Tr.nd a b).rank - 0), PyData.int (1 + 0)) = _
          rw [Int.sub_zero]; rfl
        rw [e0] at st
        exact st
      · dsimp only
        have hle := offN_le (w := w) (by omega) (k - (i + 1)) (i + 1) (by omega)
        rw [show i + 1 + (k - (i + 1)) = k by omega, offN_succ] at hle
        rw [term i (by omega), q_ge, decide_eq_true (by omega)]
        refine ⟨fun _ => ?_, fun z => (by cases z)⟩
        rw [q_intO, term i (by omega), q_intO, q_intO, q_intO]
        rw [offN_succ, show (1 + ((i + 1 : Nat) : Int)) = 1 + (i : Int) + 1 by omega, show (Tr.nd a b).rank - (offN w i + gN w i) = (Tr.nd a b).rank - offN w i - gN w i by omega] at hN
        exact hN
      · dsimp only
        rw [term k (by omega), q_ge, gk, er, decide_eq_false (by omega)]
        refine ⟨fun z => (by cases z), fun _ => ?_⟩
        have e1 : (1 + (k : Int)) = a.sz := by omega
        have e2 : (Tr.nd a b).sz - (1 + (k : Int)) = b.sz := by omega
        have e3 : offN w k + (a.rank * cc b.sz.toNat + b.rank) - offN w k = b.rank + a.rank * cc b.sz.toNat := by omega
        have d1 : (b.rank + a.rank * cc b.sz.toNat) / cc b.sz.toNat = a.rank := by
          rw [Int.add_mul_ediv_right _ _ (by omega), Int.ediv_eq_zero_of_lt b0 b1, Int.zero_add]
        have d2 : (b.rank + a.rank * cc b.sz.toNat) % cc b.sz.toNat = b.rank := by
          rw [Int.add_mul_emod_self_right, Int.emod_eq_of_lt b0 b1]
        have la := cutsN_len a s
        have lb := cutsN_len b (s + a.sz)
        rw [q_sub, e2, q_cc (by omega) (by omega), e3, q_div]
        refine ⟨cc_div _ _ (by omega) (by omega), ?_⟩
        rw [d1, e1]
        refine ih a s _ (by omega) (by omega) (by omega) ?_
        rw [q_add_ii, q_sub, show (Tr.nd a b).sz - a.sz = b.sz by omega, q_mod, d2]
        refine ⟨by omega, ?_⟩
        refine ih b (s + a.sz) _ (by omega) (by omega) (by omega) ?_
        rw [q_addL, ← List.map_append]
        refine ⟨by rw [List.length_map, List.length_map]; omega, ?_⟩
        have hfin : K (((a.cutsN s ++ b.cutsN (s + a.sz) ++ (if a.sz > 1 then [(s, s + a.sz)] else []) ++ (if b.sz > 1 then [(s + a.sz, s + a.sz + b.sz)] else [])).map ppD)) := hK
        rw [q_join, q_gt, q_ite]
        have step2 : ∀ L : List (Int × Int), (L.length : Int) ≤ 1000 → K ((L ++ (if b.sz > 1 then [(s + a.sz, s + a.sz + b.sz)] else [])).map ppD) → joinM (fun (Q : (List PyData) → Prop) => subM (.int (Tr.nd a b).sz) (.int a.sz) fun r25 => gtM r25 (.int 1) fun b26 => (b26 = true → (addM (.int s) (.int a.sz) fun r30 => addM (.int s) (.int (Tr.nd a b).sz) fun r31 => (L.map ppD).length < sizeLine ∧ (Q (L.map ppD ++ ([(.tuple [r30, r31])] : List PyData))))) ∧ (b26 = false → (Q (L.map ppD)))) (fun found33 => K found33) := fun L hL hk => by
          rw [q_join, q_sub, show (Tr.nd a b).sz - a.sz = b.sz by omega, q_gt, q_ite]
          by_cases h : b.sz > 1
          · rw [decide_eq_true (by omega), cond_true, q_add_ii, q_add_ii, show s + (Tr.nd a b).sz = s + a.sz + b.sz by omega]
            rw [if_pos h, List.map_append] at hk
            exact ⟨by rw [List.length_map]; omega, hk⟩
          · rw [decide_eq_false (by omega), cond_false]
            rw [if_neg h, List.append_nil] at hk
            exact hk
        by_cases h : a.sz > 1
        · rw [decide_eq_true (by omega), cond_true, q_add_ii]
          rw [if_pos h] at hfin
          refine ⟨by rw [List.length_map, List.length_append]; omega, ?_⟩
          have := step2 (a.cutsN s ++ b.cutsN (s + a.sz) ++ [(s, s + a.sz)]) (by simp only [List.length_append, List.length_singleton]; omega) hfin
          rw [List.map_append] at this
          exact this
        · rw [decide_eq_false (by omega), cond_false]
          rw [if_neg h, List.append_nil] at hfin
          exact step2 (a.cutsN s ++ b.cutsN (s + a.sz)) (by simp only [List.length_append]; omega) hfin
variable (h3 : 3 ≤ n) (h40 : n ≤ 40) (hT : T.sz = n - 1)
include h3 h40 hT
theorem i_plan_numbered (hK : K (plD n (plT n T))) : f_plan_numbered (.int n) (.int T.rank) K E := by
  have hsl := sizeLine_eq
  obtain ⟨r0, r1⟩ := rank_b T (by omega)
  obtain ⟨m, hm⟩ : ∃ m : Nat, (m : Int) = n - 1 := ⟨(n - 1).toNat, by omega⟩
  unfold f_plan_numbered
  rw [e_need_faces, decide_eq_true h3, decide_eq_true h40, Bool.true_and, cond_true, q_sub, ← hm]
  refine i_ways_row (by omega) (by omega) ?_
  have test : ∀ Q : KB, TL.andM (fun Q => leM (.int 0) (.int T.rank) Q) (fun Q => subM (.int n) (.int 1) fun r6 => ixM (.list (rg (m + 1) ccD)) r6 fun r7 => ltM (.int T.rank) r7 Q) Q = Q (true && true) := fun Q => by
    refine q_and' (fun Q => by rw [q_le, decide_eq_true r0]) fun _ Q => ?_
    rw [q_sub, q_cc (by omega) (by omega), q_lt, decide_eq_true (by rw [← hT]; exact r1)]
  rw [test]
  refine ⟨fun z => (by cases z), fun _ => ?_⟩
  rw [q_sub, ← hT]
  refine i_cut_by 64 T 1 _ (by omega) (by omega) (by omega) ?_
  have lc := cutsN_len T 1
  rw [q_it_l]
  rw [q_lc_map (T.cutsN 1) ppD (fun p => ppD (nrm n p)) (fun p hp k s => by
    rw [p_un_pp, q_mod, e_pair_of]
    exact propext (and_iff_right (by omega))) [], List.nil_append]
  rw [show ((T.cutsN 1).map fun p => ppD (nrm n p)) = ((T.cutsN 1).map (nrm n)).map ppD by rw [List.map_map]; rfl, q_sort_pp, srt_pp, q_tup_l]
  have pm := cutsN_perm T 1
  have nd : (((T.arcs 1).filter wide).map (nrm n)).Nodup := by
    have hp := plT_ok h3 h40 hT
    refine (sortPP_perm _).nodup_iff.mp (hp.srt.imp fun {p q} h e => ?_)
    subst e
    unfold ltPP at h
    have := of_decide_eq_true h
    omega
  rw [sortPP_eq (pm.map (nrm n)) ((pm.map (nrm n)).nodup_iff.mpr nd)]
  exact hK
end
end Tx
namespace Tx
open PySem PySem.Spec PyProof.Rows L2 TL
open Tr
theorem shp_pl {n : Int} {cs : List (Int × Int)} : SeqAt.shaped (plD n cs) = true ∧ (plD n cs).canLay0 = true ∧ (plD n cs).depth ≤ 50 := by
  have h1 : ∀ cs : List (Int × Int), PyData.canLayAll0 (cs.map ppD) = true ∧ PyData.depthAll (cs.map ppD) ≤ 3 := fun cs => by
    induction cs with
    | nil => exact ⟨rfl, Nat.zero_le _⟩
    | cons c cs ih =>
      refine ⟨?_, ?_⟩
      · show (PyData.canLay0 (ppD c) && PyData.canLayAll0 (cs.map ppD)) = true
        rw [ih.1]; rfl
      · show max (PyData.depth (ppD c)) (PyData.depthAll (cs.map ppD)) ≤ 3
        exact Nat.max_le.mpr ⟨Nat.le_of_ble_eq_true rfl, ih.2⟩
  have e1 : PyData.canLay0 (plD n cs) = true := by
    show (PyData.canLay0 (.int n) && (PyData.canLayAll0 (cs.map ppD) && true)) = true
    rw [(h1 cs).1]; rfl
  have e2 : PyData.depth (plD n cs) ≤ 5 := by
    show max (PyData.depth (.int n)) (max (PyData.depthAll (cs.map ppD) + 1) 0) + 1 ≤ 5
    have := (h1 cs).2
    have z : PyData.depth (.int n) ≤ 1 := Nat.le_of_ble_eq_true rfl
    omega
  refine ⟨?_, e1, by omega⟩
  unfold SeqAt.shaped
  rw [e1, decide_eq_true (by omega : PyData.depth (plD n cs) ≤ 64)]
  rfl
end Tx
namespace Tx
open PySem PySem.Spec PyProof.Rows L2 TL
theorem okD_pl {n : Int} {cs : List (Int × Int)} (N : Nat) (h : cs.length ≤ 1000) : okD (N + 3) (plD n cs) = true := by
  show (decide (2 ≤ 10000000) && [PyData.int n, .tuple (cs.map ppD)].all (okD (N + 2))) = true
  have e : okD (N + 2) (.tuple (cs.map ppD)) = true := by
    show (decide ((cs.map ppD).length ≤ 10000000) && (cs.map ppD).all (okD (N + 1))) = true
    rw [decide_eq_true (by rw [List.length_map]; omega), Bool.true_and, List.all_map, List.all_eq_true]
    exact fun p _ => okD_p N p
  simp only [List.all_cons, List.all_nil, e, okD_int]
  rfl
end Tx
namespace Tx
open PySem PySem.Spec PyProof.Rows L2 TL
open Tr
@[irreducible] def f_beginnings (most : PyData) (K : KD) (E : KX) : Prop :=
  addM most (.int 1) fun r2 =>
  rngM (.int 3) r2 fun xs1 =>
  forM (fun faces7 found10 N8 B9 => f_how_many faces7 (fun r15 =>
  rngM (.int 0) r15 fun xs14 =>
  forM (fun number19 found22 N20 B21 => f_plan_numbered faces7 number19 (fun r25 =>
  f_neighbours r25 (fun r27 =>
  ixM (.list r27) (.int 0) fun r28 =>
  itM r28 fun xs26 =>
  lcM (fun under29 kp sk => kp (.tuple [r25, (.tuple [(.int 0), under29]), (.tuple [(.int 0)])])) (fun l30 =>
  addM found22 (.list l30) fun r31 =>
  N20 r31) xs26 []) E) E) (fun found16 =>
  N8 found16) xs14 found10) E) (fun found3 =>
  K found3) xs1 (.list [])
def c_beginnings : CT := fun args Φ Ψ => ∃ (most : PyData) (K : KD) (E : KX), args = [.d most] ∧ f_beginnings most K E ∧ (∀ r, K r → Φ (.rd r) args) ∧ ∀ c, E c → Ψ c args
@[irreducible] def f_Watch__init (bound : PyData) (K : (List PyData → Prop)) (E : KX) : Prop :=
  andM (fun Q => leM (.int 3) bound Q) (fun Q => leM bound (.int 8) Q) fun b1 =>
  ((!b1) = true → (E (.own "BadFaces"))) ∧ ((!b1) = false → (f_beginnings bound (fun r9 =>
  K [(.tuple [r9, (.int 1)])]) E))
def c_Watch__init : CT := fun args Φ Ψ => ∃ (a_self : Sl) (bound : PyData) (K : (List PyData → Prop)) (E : KX), IsOb "Watch" [] a_self ∧ args = [a_self, .d bound] ∧ f_Watch__init bound K E ∧ (∀ (x : List PyData) s, K x → IsOb "Watch" [("stages", .l x)] s → oid s = oid a_self → Φ (.rd .none) [s, .d bound]) ∧ ∀ c, E c → Ψ c args
@[irreducible] def f_Watch__left (self_stages : List PyData) (K : KL) (E : KX) : Prop :=
  ixM (.list self_stages) (.int (-1)) fun r2 =>
  ixM r2 (.int 0) fun r3 =>
  itM r3 fun xs1 =>
  lcM (fun p4 kp sk => un3 p4 fun plan6 place7 corners8 =>
  kp (.tuple [plan6, place7])) (fun l5 =>
  sortM (.list l5) fun l10 =>
  K l10) xs1 []
def c_Watch__left : CT := fun args Φ Ψ => ∃ (a_self : Sl) (self : List PyData) (K : KL) (E : KX), IsOb "Watch" [("stages", .l self)] a_self ∧ args = [a_self] ∧ f_Watch__left self K E ∧ (∀ r, K r → Φ (.nl r) args) ∧ ∀ c, E c → Ψ c args
@[irreducible] def f_Watch__met (self_stages : List PyData) (K : KD) (E : KX) : Prop :=
  ixM (.list self_stages) (.int (-1)) fun r1 =>
  ixM r1 (.int 1) fun r2 =>
  K r2
def c_Watch__met : CT := fun args Φ Ψ => ∃ (a_self : Sl) (self : List PyData) (K : KD) (E : KX), IsOb "Watch" [("stages", .l self)] a_self ∧ args = [a_self] ∧ f_Watch__met self K E ∧ (∀ r, K r → Φ (.rd r) args) ∧ ∀ c, E c → Ψ c args
@[irreducible] def f_Watch__need_number (self_stages : List PyData) (face : PyData) (K : KD) (E : KX) : Prop :=
  andM (fun Q => leM (.int 0) face Q) (fun Q => f_Watch__met self_stages (fun r3 =>
  leM face r3 Q) E) fun b1 =>
  ((!b1) = true → (E (.own "BadNumber"))) ∧ ((!b1) = false → (K .none))
def c_Watch__need_number : CT := fun args Φ Ψ => ∃ (a_self : Sl) (self : List PyData) (face : PyData) (K : KD) (E : KX), IsOb "Watch" [("stages", .l self)] a_self ∧ args = [a_self, .d face] ∧ f_Watch__need_number self face K E ∧ (∀ r, K r → Φ (.rd r) args) ∧ ∀ c, E c → Ψ c args
@[irreducible] def f_Watch__shown (self_stages : List PyData) (rows : PyData) (face : PyData) (K : (PyData → List PyData → Prop)) (E : KX) : Prop :=
  itM rows fun xs2 =>
  forM (fun p15 found18 N16 B17 => un3 p15 fun plan23 place24 corners25 =>
  joinM (fun (Q : (List PyData) → Prop) => andM (fun Q => lenM corners25 fun r28 =>
  ltM face r28 fun b29 =>
  Q b29) (fun Q => ixM corners25 face fun r30 =>
  ixM place24 (.int 0) fun r31 =>
  eqM r30 r31 fun b32 =>
  Q b32) fun b27 =>
  (b27 = true → (found18.length < sizeLine ∧ (Q (found18 ++ ([(.tuple [plan23, place24, corners25])] : List PyData))))) ∧ (b27 = false → (andM (fun Q => lenM corners25 fun r38 =>
  eqM face r38 fun b39 =>
  Q b39) (fun Q => ixM place24 (.int 0) fun r40 =>
  notInM r40 corners25 fun b41 =>
  Q b41) fun b37 =>
  (b37 = true → (ixM place24 (.int 0) fun r45 =>
  addM corners25 (.tuple [r45]) fun r46 =>
  found18.length < sizeLine ∧ (Q (found18 ++ ([(.tuple [plan23, place24, r46])] : List PyData))))) ∧ (b37 = false → (Q found18))))) (fun found48 =>
  N16 found48)) (fun found3 =>
  f_Watch__met self_stages (fun r11 =>
  addM face (.int 1) fun r12 =>
  max2M r11 r12 fun r13 =>
  self_stages.length < sizeLine ∧ (K .none (self_stages ++ ([(.tuple [(.list found3), r13])] : List PyData)))) E) xs2 []
def c_Watch__shown : CT := fun args Φ Ψ => ∃ (a_self : Sl) (self : List PyData) (rows : PyData) (face : PyData) (K : (PyData → List PyData → Prop)) (E : KX), IsOb "Watch" [("stages", .l self)] a_self ∧ args = [a_self, .d rows, .d face] ∧ f_Watch__shown self rows face K E ∧ (∀ r (x : List PyData) s, K r x → IsOb "Watch" [("stages", .l x)] s → oid s = oid a_self → Φ (.rd r) [s, .d rows, .d face]) ∧ ∀ c, E c → Ψ c args
@[irreducible] def f_Watch__went (self_stages : List PyData) (way : PyData) (face : PyData) (K : (PyData → List PyData → Prop)) (E : KX) : Prop :=
  f_need_way way (fun r1 =>
  f_Watch__need_number self_stages face (fun r2 =>
  ixM (.list self_stages) (.int (-1)) fun r5 =>
  ixM r5 (.int 0) fun r6 =>
  itM r6 fun xs4 =>
  forM (fun p19 rows22 N20 B21 => un3 p19 fun plan28 place29 corners30 =>
  f_neighbours plan28 (fun r32 =>
  f_third_corner plan28 (.list r32) place29 way (fun r33 =>
  ((!isNone r33) = true → (ixM place29 (.int 0) fun r37 =>
  rows22.length < sizeLine ∧ (N20 (rows22 ++ ([(.tuple [plan28, (.tuple [r33, r37]), corners30])] : List PyData))))) ∧ ((!isNone r33) = false → (N20 rows22))) E) E) (fun rows7 =>
  f_Watch__shown self_stages (.list rows7) face (fun r13 stages_18 =>
  K .none stages_18) E) xs4 []) E) E
def c_Watch__went : CT := fun args Φ Ψ => ∃ (a_self : Sl) (self : List PyData) (way : PyData) (face : PyData) (K : (PyData → List PyData → Prop)) (E : KX), IsOb "Watch" [("stages", .l self)] a_self ∧ args = [a_self, .d way, .d face] ∧ f_Watch__went self way face K E ∧ (∀ r (x : List PyData) s, K r x → IsOb "Watch" [("stages", .l x)] s → oid s = oid a_self → Φ (.rd r) [s, .d way, .d face]) ∧ ∀ c, E c → Ψ c args
@[irreducible] def f_Watch__stuck (self_stages : List PyData) (way : PyData) (K : (PyData → List PyData → Prop)) (E : KX) : Prop :=
  f_need_way way (fun r1 =>
  ixM (.list self_stages) (.int (-1)) fun r4 =>
  ixM r4 (.int 0) fun r5 =>
  itM r5 fun xs3 =>
  forM (fun p16 found19 N17 B18 => un3 p16 fun plan24 place25 corners26 =>
  f_neighbours plan24 (fun r28 =>
  f_third_corner plan24 (.list r28) place25 way (fun r29 =>
  ((isNone r29) = true → (found19.length < sizeLine ∧ (N17 (found19 ++ ([(.tuple [plan24, place25, corners26])] : List PyData))))) ∧ ((isNone r29) = false → (N17 found19))) E) E) (fun found6 =>
  f_Watch__met self_stages (fun r14 =>
  self_stages.length < sizeLine ∧ (K .none (self_stages ++ ([(.tuple [(.list found6), r14])] : List PyData)))) E) xs3 []) E
def c_Watch__stuck : CT := fun args Φ Ψ => ∃ (a_self : Sl) (self : List PyData) (way : PyData) (K : (PyData → List PyData → Prop)) (E : KX), IsOb "Watch" [("stages", .l self)] a_self ∧ args = [a_self, .d way] ∧ f_Watch__stuck self way K E ∧ (∀ r (x : List PyData) s, K r x → IsOb "Watch" [("stages", .l x)] s → oid s = oid a_self → Φ (.rd r) [s, .d way]) ∧ ∀ c, E c → Ψ c args
@[irreducible] def f_Watch__turned_over (self_stages : List PyData) (face : PyData) (K : (PyData → List PyData → Prop)) (E : KX) : Prop :=
  f_Watch__need_number self_stages face (fun r1 =>
  ixM (.list self_stages) (.int (-1)) fun r3 =>
  ixM r3 (.int 0) fun r4 =>
  itM r4 fun xs2 =>
  lcM (fun p5 kp sk => un3 p5 fun plan7 place8 corners9 =>
  ixM place8 (.int 1) fun r11 =>
  ixM place8 (.int 0) fun r12 =>
  kp (.tuple [plan7, (.tuple [r11, r12]), corners9])) (fun l6 =>
  f_Watch__shown self_stages (.list l6) face (fun r13 stages_18 =>
  K .none stages_18) E) xs2 []) E
def c_Watch__turned_over : CT := fun args Φ Ψ => ∃ (a_self : Sl) (self : List PyData) (face : PyData) (K : (PyData → List PyData → Prop)) (E : KX), IsOb "Watch" [("stages", .l self)] a_self ∧ args = [a_self, .d face] ∧ f_Watch__turned_over self face K E ∧ (∀ r (x : List PyData) s, K r x → IsOb "Watch" [("stages", .l x)] s → oid s = oid a_self → Φ (.rd r) [s, .d face]) ∧ ∀ c, E c → Ψ c args
structure WR where
  n : Int
  T : Tr
  p : Int × Int
  m : List Int
structure WR.Ok (r : WR) : Prop where
  lo : 3 ≤ r.n
  hi : r.n ≤ 8
  sz : r.T.sz = r.n - 1
  tie : tieB r.n (plT r.n r.T) r.p.1 r.p.2 = true
  ml : r.m.length ≤ 100
theorem WR.Ok.hp {r : WR} (h : r.Ok) : IsPlan r.n (plT r.n r.T) := plT_ok h.lo (by have := h.hi; omega) h.sz
def wrD (r : WR) : PyData := .tuple [plD r.n (plT r.n r.T), ppD r.p, .tuple (r.m.map .int)]
inductive Sg where
  | went (ev : Bool) (f : Nat)
  | stuck (ev : Bool)
  | over (ev : Bool) (f : Nat)
def shR (f : Nat) (r : WR) : Option WR := if r.m[f]? = some r.p.1 then some r else if f = r.m.length ∧ r.p.1 ∉ r.m then some { r with m := r.m ++ [r.p.1] } else none
def mvR' (ev : Bool) (r : WR) : Option WR := (thW r.n (plT r.n r.T) r.p ev).map fun c => { r with p := (c, r.p.1) }
def stW : Sg → WR → Option WR
  | .went ev f, r => (mvR' ev r).bind (shR f)
  | .stuck ev, r => if thW r.n (plT r.n r.T) r.p ev = none then some r else none
  | .over _ f, r => shR f { r with p := (r.p.2, r.p.1) }
def stgD (R : List WR) (k : Nat) : PyData := .tuple [.list (R.map wrD), .int k]
theorem shR_ok {f : Nat} {r r' : WR} (h : r.Ok) (hl : r.m.length ≤ 99) (e : shR f r = some r') : r'.Ok := by
  unfold shR at e
  split at e
  · cases e; exact h
  · split at e
    · cases e; exact ⟨h.lo, h.hi, h.sz, h.tie, by show (r.m ++ [r.p.1]).length ≤ 100; rw [List.length_append]; simp only [List.length_singleton]; omega⟩
    · cases e
theorem mvR_ok {ev : Bool} {r r' : WR} (h : r.Ok) (e : mvR' ev r = some r') : r'.Ok ∧ r'.m = r.m := by
  unfold mvR' at e
  obtain ⟨c, hc, rfl⟩ := Option.map_eq_some_iff.mp e
  have t := th_of h.hp h.tie hc
  exact ⟨⟨h.lo, h.hi, h.sz, tsym t.tc, h.ml⟩, rfl⟩
section
variable {Kl : KL} {E : KX}
theorem at_snoc {α : Type} {S : List α} {x : α} : atI (S ++ [x]) (-1) = some x := by
  have e : ((-1 : Int) + (((S.length : Nat) : Int) + 1)).toNat = S.length := by omega
  unfold atI ixN
  have e2 : (1 : Int) ≤ ((S.length : Nat) : Int) + 1 := by omega
  simp [e, e2]
theorem q_ix_last {S : List PyData} {x : PyData} {K : KD} : ixM (.list (S ++ [x])) (.int (-1)) K = K x := by
  show (match atI (S ++ [x]) (-1) with | some y => K y | none => False) = _
  rw [at_snoc]
theorem q_in_intsT {L : List Int} {i : Int} {Kb : KB} : inM (.int i) (.tuple (L.map .int)) Kb = Kb (decide (i ∈ L)) := by
  have := q_in_ints (i := i) (L := L) (Kb := Kb)
  exact this
theorem for_fm {α β : Type} {bd : PyData → List PyData → (List PyData → Prop) → (List PyData → Prop) → Prop} {K : List PyData → Prop} (L : List α) (d : α → PyData) (dd : β → PyData) (g : α → Option β) (hl : L.length ≤ 8000)
    (h : ∀ a ∈ L, ∀ (M : List β) (N : List PyData → Prop), M.length ≤ 8000 → N ((M ++ (g a).toList).map dd) → bd (d a) (M.map dd) N K) (hK : K ((L.filterMap g).map dd)) : TL.forM bd K (L.map d) [] := by
  refine forM_inv L d (fun i s => s = ((L.take i).filterMap g).map dd) (fun i a ha s hs N hN => ?_) (fun s hs => ?_) [] (by simp)
  · subst hs
    have hi := (List.getElem?_eq_some_iff.mp ha).1
    refine h a (List.mem_of_getElem? ha) _ _ ?_ (hN _ ?_)
    · have := List.length_filterMap_le g (L.take i)
      rw [List.length_take] at this
      omega
    · rw [List.take_add_one, ha, List.filterMap_append]
      have e : (g a).toList = List.filterMap g [a] := by cases hg : g a <;> simp [hg]
      show List.map dd (_ ++ (g a).toList) = List.map dd (_ ++ List.filterMap g [a])
      rw [e]
  · rw [hs, List.take_length]; exact hK
theorem e_need_way (ev : Bool) {K : KD} : f_need_way (.str (wayS ev)) K E = K .none := by
  unfold f_need_way
  have e : ∀ Q : KB, inTupM (.str (wayS ev)) [.str "even", .str "odd"] Q = Q true := fun Q => by
    show Q (inV (.str (wayS ev)) (([("even" : Str), ("odd" : Str)] : List Str).map V.str)) = _
    rw [inV_strs]
    cases ev <;> rfl
  rw [e]
  exact propext ⟨fun z => z.2 rfl, fun z => ⟨fun q => (by cases q), fun _ => z⟩⟩
theorem stg0 {R : List WR} {k : Nat} {K : KD} : ixM (stgD R k) (.int 0) K = K (.list (R.map wrD)) := rfl
theorem e_met {S : List PyData} {R : List WR} {k : Nat} {K : KD} : f_Watch__met (S ++ [stgD R k]) K E = K (.int k) := by
  unfold f_Watch__met
  rw [q_ix_last]; rfl
theorem e_need_number {S : List PyData} {R : List WR} {k f : Nat} (h : f ≤ k) {K : KD} (hK : K .none) : f_Watch__need_number (S ++ [stgD R k]) (.int f) K E := by
  unfold f_Watch__need_number TL.andM
  dsimp only
  rw [q_le, decide_eq_true (by omega)]
  refine ⟨fun _ => ?_, fun z => (by cases z)⟩
  rw [e_met, q_le, decide_eq_true (by omega)]
  exact ⟨fun z => (by cases z), fun _ => hK⟩
theorem e_shown {S : List PyData} {R R2 : List WR} {k f : Nat} (hR : R2.length ≤ 8000) (hS : S.length ≤ 1000) (hm : ∀ r ∈ R2, r.m.length ≤ 1000) {K : PyData → List PyData → Prop} (hK : K .none (S ++ [stgD R k] ++ [stgD (R2.filterMap (shR f)) (max k (f + 1))])) :
    f_Watch__shown (S ++ [stgD R k]) (.list (R2.map wrD)) (.int f) K E := by
  have hsl := sizeLine_eq
  unfold f_Watch__shown
  rw [q_it_l]
  refine for_fm R2 wrD wrD (shR f) hR (fun r hr M N hM hN => ?_) ?_
  · have hrm := hm r hr
    show un3 (.tuple [plD r.n (plT r.n r.T), ppD r.p, .tuple (r.m.map .int)]) _
    rw [q_un3]
    unfold joinM
    dsimp only
    have hlen : ∀ Q : KD, lenM (.tuple (r.m.map .int)) Q = Q (.int r.m.length) := fun Q => by rw [q_len_t, List.length_map]
    have c1 : ∀ Q : KB, TL.andM (fun Q => lenM (.tuple (r.m.map .int)) fun r28 => ltM (.int f) r28 fun b29 => Q b29) (fun Q => ixM (.tuple (r.m.map .int)) (.int f) fun r30 => ixM (ppD r.p) (.int 0) fun r31 => eqM r30 r31 fun b32 => Q b32) Q = Q (decide (r.m[f]? = some r.p.1)) := fun Q => by
      unfold TL.andM
      try dsimp only
      rw [hlen, q_lt]
      by_cases c : f < r.m.length
      · rw [decide_eq_true (show (f : Int) < (r.m.length : Int) by omega)]
        have hx : r.m[f]? = some r.m[f] := List.getElem?_eq_getElem c
        have e1 : ∀ Q : KD, ixM (.tuple (r.m.map .int)) (.int f) Q = Q (.int r.m[f]) := fun Q => by
          rw [q_ix_t, at_nat (by omega) (show (r.m.map PyData.int)[(f : Int).toNat]? = some (.int r.m[f]) by rw [Int.toNat_natCast, List.getElem?_map, hx]; rfl)]
        rw [e1, p_ix_pp0, q_eq_ii]
        have e2 : decide (r.m[f] = r.p.1) = decide (r.m[f]? = some r.p.1) := by rw [hx]; simp
        rw [e2]
        exact propext ⟨fun z => z.1 rfl, fun z => ⟨fun _ => z, fun q => (by cases q)⟩⟩
      · rw [decide_eq_false (show ¬ (f : Int) < (r.m.length : Int) by omega), decide_eq_false (by rw [List.getElem?_eq_none (by omega)]; simp)]
        exact propext ⟨fun z => z.2 rfl, fun z => ⟨fun q => (by cases q), fun _ => z⟩⟩
    have c2 : ∀ Q : KB, TL.andM (fun Q => lenM (.tuple (r.m.map .int)) fun r38 => eqM (.int f) r38 fun b39 => Q b39) (fun Q => ixM (ppD r.p) (.int 0) fun r40 => notInM r40 (.tuple (r.m.map .int)) fun b41 => Q b41) Q = Q (decide (f = r.m.length ∧ r.p.1 ∉ r.m)) := fun Q => by
      unfold TL.andM
      try dsimp only
      rw [hlen, q_eq_ii]
      by_cases c : f = r.m.length
      · rw [decide_eq_true (show (f : Int) = (r.m.length : Int) by omega), p_ix_pp0]
        have e1 : ∀ Q : KB, notInM (.int r.p.1) (.tuple (r.m.map .int)) Q = Q (!decide (r.p.1 ∈ r.m)) := fun Q => by
          show inM (.int r.p.1) (.tuple (r.m.map .int)) (fun b => Q (!b)) = _
          rw [q_in_intsT]
        rw [e1]
        have e2 : (!decide (r.p.1 ∈ r.m)) = decide (f = r.m.length ∧ r.p.1 ∉ r.m) := by simp [c]
        rw [e2]
        exact propext ⟨fun z => z.1 rfl, fun z => ⟨fun _ => z, fun q => (by cases q)⟩⟩
      · rw [decide_eq_false (show ¬ (f : Int) = (r.m.length : Int) by omega), decide_eq_false (fun z => c z.1)]
        exact propext ⟨fun z => z.2 rfl, fun z => ⟨fun q => (by cases q), fun _ => z⟩⟩
    rw [c1]
    unfold shR at hN
    have lM : (M.map wrD).length < sizeLine := by rw [List.length_map]; omega
    by_cases d1 : r.m[f]? = some r.p.1
    · rw [if_pos d1] at hN
      rw [decide_eq_true d1]
      refine ⟨fun _ => ⟨lM, ?_⟩, fun z => (by cases z)⟩
      rw [List.map_append] at hN
      exact hN
    · rw [if_neg d1] at hN
      rw [decide_eq_false d1]
      refine ⟨fun z => (by cases z), fun _ => ?_⟩
      rw [c2]
      by_cases d2 : f = r.m.length ∧ r.p.1 ∉ r.m
      · rw [if_pos d2] at hN
        rw [decide_eq_true d2]
        refine ⟨fun _ => ?_, fun z => (by cases z)⟩
        rw [p_ix_pp0, q_add_tt]
        refine ⟨by rw [List.length_map]; simp only [List.length_singleton]; omega, lM, ?_⟩
        rw [List.map_append] at hN
        have e : PyData.tuple (r.m.map .int ++ [.int r.p.1]) = .tuple ((r.m ++ [r.p.1]).map .int) := by rw [List.map_append]; rfl
        rw [e]
        exact hN
      · rw [if_neg d2] at hN
        rw [decide_eq_false d2]
        refine ⟨fun z => (by cases z), fun _ => ?_⟩
        rw [show (none : Option WR).toList = [] from rfl, List.append_nil] at hN
        exact hN
  · try dsimp only
    rw [e_met, q_add_ii]
    have e1 : ∀ Q : KD, max2M (.int k) (.int (f + 1)) Q = Q (.int (max k (f + 1) : Nat)) := fun Q => by
      show Q (.int (if (f : Int) + 1 > (k : Int) then (f : Int) + 1 else k)) = _
      congr 2
      by_cases c : (f : Int) + 1 > (k : Int)
      · rw [if_pos c]; omega
      · rw [if_neg c]; omega
    rw [e1]
    exact ⟨by rw [List.length_append]; simp only [List.length_singleton]; omega, hK⟩
def allOk (R : List WR) : Prop := ∀ r ∈ R, r.Ok
theorem e_went {S : List PyData} {R : List WR} {k f : Nat} {ev : Bool} (hR : R.length ≤ 8000) (hS : S.length ≤ 1000) (ok : allOk R) (hf : f ≤ k) {K : PyData → List PyData → Prop} (hK : K .none (S ++ [stgD R k] ++ [stgD (R.filterMap (stW (.went ev f))) (max k (f + 1))])) :
    f_Watch__went (S ++ [stgD R k]) (.str (wayS ev)) (.int f) K E := by
  have hsl := sizeLine_eq
  unfold f_Watch__went
  rw [e_need_way]
  refine e_need_number hf ?_
  rw [q_ix_last]
  rw [stg0, q_it_l]
  refine for_fm R wrD wrD (mvR' ev) hR (fun r hr M N hM hN => ?_) ?_
  · have o := ok r hr
    show un3 (.tuple [plD r.n (plT r.n r.T), ppD r.p, .tuple (r.m.map .int)]) _
    rw [q_un3, e_neighbours o.hp, e_third_corner o.hp o.tie]
    unfold mvR' at hN
    cases hc : thW r.n (plT r.n r.T) r.p ev with
    | none =>
      rw [hc] at hN
      refine ⟨fun z => (by cases z), fun _ => ?_⟩
      simpa using hN
    | some c =>
      rw [hc] at hN
      refine ⟨fun _ => ?_, fun z => (by cases z)⟩
      rw [p_ix_pp0]
      refine ⟨by rw [List.length_map]; omega, ?_⟩
      rw [List.map_append] at hN
      exact hN
  · have hl : (R.filterMap (mvR' ev)).length ≤ 8000 := Nat.le_trans (List.length_filterMap_le ..) hR
    refine e_shown hl hS (fun r hr => ?_) ?_
    · obtain ⟨r0, h0, h1⟩ := List.mem_filterMap.mp hr
      have := (mvR_ok (ok r0 h0) h1).1.ml
      omega
    · rw [List.filterMap_filterMap]; exact hK
theorem e_wover {S : List PyData} {R : List WR} {k f : Nat} {ev : Bool} (hR : R.length ≤ 8000) (hS : S.length ≤ 1000) (ok : allOk R) (hf : f ≤ k) {K : PyData → List PyData → Prop} (hK : K .none (S ++ [stgD R k] ++ [stgD (R.filterMap (stW (.over ev f))) (max k (f + 1))])) :
    f_Watch__turned_over (S ++ [stgD R k]) (.int f) K E := by
  unfold f_Watch__turned_over
  refine e_need_number hf ?_
  rw [q_ix_last]
  rw [stg0, q_it_l, q_lc_map R wrD (fun r => wrD { r with p := (r.p.2, r.p.1) }) fun r hr kp sk => by
    show un3 (.tuple [plD r.n (plT r.n r.T), ppD r.p, .tuple (r.m.map .int)]) _ = _
    rw [q_un3, p_ix_pp1, p_ix_pp0]; rfl]
  rw [List.nil_append, show R.map (fun r => wrD { r with p := (r.p.2, r.p.1) }) = (R.map fun r => { r with p := (r.p.2, r.p.1) }).map wrD by rw [List.map_map]; rfl]
  refine e_shown (by rw [List.length_map]; exact hR) hS (fun r hr => ?_) ?_
  · obtain ⟨r0, h0, rfl⟩ := List.mem_map.mp hr
    have := (ok r0 h0).ml
    show r0.m.length ≤ 1000
    omega
  · rw [List.filterMap_map]; exact hK
theorem e_stuck {S : List PyData} {R : List WR} {k : Nat} {ev : Bool} (hR : R.length ≤ 8000) (hS : S.length ≤ 1000) (ok : allOk R) {K : PyData → List PyData → Prop} (hK : K .none (S ++ [stgD R k] ++ [stgD (R.filterMap (stW (.stuck ev))) k])) :
    f_Watch__stuck (S ++ [stgD R k]) (.str (wayS ev)) K E := by
  have hsl := sizeLine_eq
  unfold f_Watch__stuck
  rw [e_need_way, q_ix_last]
  rw [stg0, q_it_l]
  refine for_fm R wrD wrD (stW (.stuck ev)) hR (fun r hr M N hM hN => ?_) ?_
  · have o := ok r hr
    show un3 (.tuple [plD r.n (plT r.n r.T), ppD r.p, .tuple (r.m.map .int)]) _
    rw [q_un3, e_neighbours o.hp, e_third_corner o.hp o.tie]
    have hN : N ((M ++ (if thW r.n (plT r.n r.T) r.p ev = none then some r else none).toList).map wrD) := hN
    cases hc : thW r.n (plT r.n r.T) r.p ev with
    | none =>
      rw [hc, if_pos rfl] at hN
      refine ⟨fun _ => ⟨by rw [List.length_map]; omega, ?_⟩, fun z => (by cases z)⟩
      rw [List.map_append] at hN
      exact hN
    | some c =>
      rw [hc, if_neg (by simp)] at hN
      refine ⟨fun z => (by cases z), fun _ => ?_⟩
      simpa using hN
  · rw [e_met]
    exact ⟨by rw [List.length_append]; simp only [List.length_singleton]; omega, hK⟩
def plpD (r : WR) : PyData := .tuple [plD r.n (plT r.n r.T), ppD r.p]
theorem alike_any : ∀ {cs ds : List (Int × Int)}, PySem.W.alikeAll (cs.map ppD) (ds.map ppD) = true
  | [], [] => rfl
  | [], _ :: _ => rfl
  | _ :: _, [] => rfl
  | c :: cs, d :: ds => by
    show (PySem.W.alike (ppD c) (ppD d) && PySem.W.alikeAll (cs.map ppD) (ds.map ppD)) = true
    rw [alike_any]; rfl
theorem pl_depth {n : Int} {cs : List (Int × Int)} : (plD n cs).depth ≤ 5 := by
  have h1 : ∀ cs : List (Int × Int), PyData.depthAll (cs.map ppD) ≤ 3 := fun cs => by
    induction cs with
    | nil => exact Nat.zero_le _
    | cons c cs ih =>
      show max (PyData.depth (ppD c)) (PyData.depthAll (cs.map ppD)) ≤ 3
      exact Nat.max_le.mpr ⟨Nat.le_of_ble_eq_true rfl, ih⟩
  show max (PyData.depth (.int n)) (max (PyData.depthAll (cs.map ppD) + 1) 0) + 1 ≤ 5
  have := h1 cs
  have z : PyData.depth (.int n) ≤ 1 := Nat.le_of_ble_eq_true rfl
  omega
theorem shp_plp (r : WR) : SeqAt.shaped (plpD r) = true ∧ (plpD r).canLay0 = true ∧ (plpD r).depth ≤ 40 := by
  have h5 := pl_depth (n := r.n) (cs := plT r.n r.T)
  obtain ⟨h1, h2, h3⟩ := shp_pl (n := r.n) (cs := plT r.n r.T)
  have e1 : PyData.canLay0 (plpD r) = true := by
    show (PyData.canLay0 (plD r.n (plT r.n r.T)) && (PyData.canLay0 (ppD r.p) && true)) = true
    rw [h2]; rfl
  have e2 : PyData.depth (plpD r) ≤ 40 := by
    show max (PyData.depth (plD r.n (plT r.n r.T))) (max (PyData.depth (ppD r.p)) 0) + 1 ≤ 40
    have : PyData.depth (ppD r.p) ≤ 5 := Nat.le_of_ble_eq_true rfl
    omega
  refine ⟨?_, e1, e2⟩
  unfold SeqAt.shaped
  rw [e1, decide_eq_true (by omega : PyData.depth (plpD r) ≤ 64)]
  rfl
theorem sort_plp (L : List WR) : (PySem.W.AllAlike (L.map plpD) ∧ PySem.W.Sortable (L.map plpD) ∧ ∀ d ∈ L.map plpD, SeqAt.shaped d = true) ∧ ∃ M : List WR, srt (L.map plpD) = M.map plpD ∧ M.Perm L := by
  refine ⟨⟨?_, .inl fun d hd => ?_, fun d hd => ?_⟩, ?_⟩
  · intro d hd d' hd'
    obtain ⟨t, ht, rfl⟩ := List.mem_map.mp hd
    obtain ⟨u, hu, rfl⟩ := List.mem_map.mp hd'
    show ((true && (PySem.W.alikeAll ((plT t.n t.T).map ppD) ((plT u.n u.T).map ppD) && true)) && ((true && (true && true)) && true)) = true
    rw [alike_any]; rfl
  · obtain ⟨t, ht, rfl⟩ := List.mem_map.mp hd
    exact ⟨_, _, rfl⟩
  · obtain ⟨p, _, rfl⟩ := List.mem_map.mp hd
    exact (shp_plp p).1
  · refine ⟨L.mergeSort fun a b => PySem.W.dataLe false id (plpD a) (plpD b), ?_, List.mergeSort_perm _ _⟩
    unfold srt
    exact (List.map_mergeSort (r := fun a b => PySem.W.dataLe false id (plpD a) (plpD b)) (s := PySem.W.dataLe false id) fun a _ b _ => rfl).symm
def begT (n : Int) (T : Tr) : List WR := (near n (plT n T) 0).map fun u => ⟨n, T, (0, u), [0]⟩
def begN (n : Int) : List WR := (allT (n - 1).toNat).flatMap (begT n)
def begA (m : Nat) : List WR := (List.range m).flatMap fun (i : Nat) => begN ((i : Int) + 3)
theorem flat_len {α β : Type} {f : α → List β} {B : Nat} : ∀ {L : List α}, (∀ a ∈ L, (f a).length ≤ B) → (L.flatMap f).length ≤ L.length * B
  | [], _ => by simp
  | a :: L, h => by
    rw [List.flatMap_cons, List.length_append, List.length_cons, Nat.succ_mul]
    have h1 := h a (List.mem_cons_self ..)
    have h2 := flat_len (L := L) fun b hb => h b (List.mem_cons_of_mem _ hb)
    omega
theorem allT_len {w : Nat} (h1 : 1 ≤ w) (h2 : w ≤ 40) : (allT w).length = (cc w).toNat := by
  have := congrArg List.length (rank_all w h1 h2)
  rw [List.length_map] at this
  rw [this]
  unfold rgI
  simp
theorem begT_len {n : Int} {T : Tr} (h : n ≤ 8) : (begT n T).length ≤ 7 := by
  unfold begT near
  rw [List.length_map, List.length_map]
  have := List.length_filter_le (fun (k : Nat) => tieB n (plT n T) 0 ((0 + k + 1) % n)) (List.range (n.toNat - 1))
  rw [List.length_range] at this
  omega
theorem cc_small8 {w : Nat} (h : w ≤ 7) : (cc w).toNat ≤ 132 := by
  have : w = 0 ∨ w = 1 ∨ w = 2 ∨ w = 3 ∨ w = 4 ∨ w = 5 ∨ w = 6 ∨ w = 7 := by omega
  rcases this with rfl | rfl | rfl | rfl | rfl | rfl | rfl | rfl <;> decide +kernel
theorem begN_len {n : Int} (h3 : 3 ≤ n) (h : n ≤ 8) : (begN n).length ≤ 924 := by
  have h1 := flat_len (f := begT n) (B := 7) (L := allT (n - 1).toNat) fun T _ => begT_len h
  rw [allT_len (by omega) (by omega)] at h1
  have := cc_small8 (w := (n - 1).toNat) (by omega)
  unfold begN
  omega
theorem begA_len {m : Nat} (h : m ≤ 6) : (begA m).length ≤ 6000 := by
  have h1 := flat_len (f := fun (i : Nat) => begN ((i : Int) + 3)) (B := 924) (L := List.range m) fun i hi => begN_len (by omega) (by have := List.mem_range.mp hi; omega)
  rw [List.length_range] at h1
  unfold begA
  omega
theorem begA_ok {m : Nat} (h : m ≤ 6) : allOk (begA m) := fun r hr => by
  obtain ⟨i, hi, hr⟩ := List.mem_flatMap.mp hr
  have hi := List.mem_range.mp hi
  obtain ⟨T, hT, hr⟩ := List.mem_flatMap.mp hr
  obtain ⟨u, hu, rfl⟩ := List.mem_map.mp hr
  have sz := (mem_allT _ (by omega) T).mp hT
  have sz : T.sz = ((i : Int) + 3) - 1 := by omega
  refine ⟨by show (3 : Int) ≤ (i : Int) + 3; omega, by show (i : Int) + 3 ≤ 8; omega, sz, ?_, by show [(0 : Int)].length ≤ 100; decide⟩
  unfold near at hu
  obtain ⟨k, hk, rfl⟩ := List.mem_map.mp hu
  exact (List.mem_filter.mp hk).2
theorem e_beginnings {m : Nat} (h1 : 1 ≤ m) (h : m ≤ 6) {K : KD} (hK : K (.list ((begA m).map wrD))) : f_beginnings (.int ((m : Int) + 2)) K E := by
  have hsl := sizeLine_eq
  unfold f_beginnings
  rw [q_add_ii, q_rng]
  refine ⟨by omega, ?_⟩
  have er : rangeL 3 ((m : Int) + 2 + 1) = (List.range m).map fun (i : Nat) => PyData.int ((i : Int) + 3) := by
    unfold rangeL
    rw [show ((m : Int) + 2 + 1 - 3).toNat = m by omega]
    refine List.map_congr_left fun i _ => ?_
    congr 1; omega
  rw [er]
  refine forM_inv (List.range m) (fun (i : Nat) => PyData.int ((i : Int) + 3)) (fun i s => s = .list ((begA i).map wrD)) (fun i a ha s hs N hN => ?_) (fun s hs => ?_) _ rfl
  · subst hs
    obtain ⟨hi, ea⟩ := List.getElem?_eq_some_iff.mp ha
    rw [List.length_range] at hi
    rw [List.getElem_range] at ea
    subst ea
    have la := begA_len (m := i) (by omega)
    refine e_how_many (by omega) (by omega) ?_
    have hw : ((i : Int) + 3 - 1).toNat = i + 2 := by omega
    rw [hw, q_rng]
    have cs := cc_small8 (w := i + 2) (by omega)
    have cp := cc_pos (i + 2) (by omega) (by omega)
    refine ⟨by omega, ?_⟩
    rw [range0]
    have hlen := allT_len (w := i + 2) (by omega) (by omega)
    refine forM_inv (List.range (cc (i + 2)).toNat) (fun (j : Nat) => PyData.int j) (fun j s => s = .list ((begA i ++ ((allT (i + 2)).take j).flatMap (begT ((i : Int) + 3))).map wrD)) (fun j b hb s hs N2 hN2 => ?_) (fun s hs => ?_) _ (by simp)
    · subst hs
      obtain ⟨hj, eb⟩ := List.getElem?_eq_some_iff.mp hb
      rw [List.length_range] at hj
      rw [List.getElem_range] at eb
      subst eb
      have hx : (allT (i + 2))[j]? = some (allT (i + 2))[j] := List.getElem?_eq_getElem (by omega)
      have rk := rank_at (by omega) (by omega) hx
      have sz := (mem_allT (i + 2) (by omega) _).mp (List.mem_of_getElem? hx)
      generalize (allT (i + 2))[j] = T at hx rk sz
      have sz' : T.sz = ((i : Int) + 3) - 1 := by omega
      have hp := plT_ok (n := (i : Int) + 3) (by omega) (by omega) sz'
      rw [show (PyData.int (j : Int)) = .int T.rank by rw [rk]]
      refine i_plan_numbered (by omega) (by omega) sz' ?_
      rw [e_neighbours hp]
      have e0 : ∀ Q : KD, ixM (.list ((List.range ((i : Int) + 3).toNat).map fun (k : Nat) => .list ((near ((i : Int) + 3) (plT ((i : Int) + 3) T) k).map .int))) (.int 0) Q = Q (.list ((near ((i : Int) + 3) (plT ((i : Int) + 3) T) 0).map .int)) := fun Q => by
        rw [q_ixr (by omega) (by omega)]; rfl
      rw [e0, q_it_l, q_lc_map (near ((i : Int) + 3) (plT ((i : Int) + 3) T) 0) PyData.int (fun u => wrD ⟨(i : Int) + 3, T, (0, u), [0]⟩) fun u hu kp sk => by rfl]
      rw [List.nil_append, q_add_ll]
      have et : (near ((i : Int) + 3) (plT ((i : Int) + 3) T) 0).map (fun u => wrD ⟨(i : Int) + 3, T, (0, u), [0]⟩) = (begT ((i : Int) + 3) T).map wrD := by unfold begT; rw [List.map_map]; rfl
      rw [et, ← List.map_append, List.append_assoc]
      have es : ((allT (i + 2)).take j).flatMap (begT ((i : Int) + 3)) ++ begT ((i : Int) + 3) T = ((allT (i + 2)).take (j + 1)).flatMap (begT ((i : Int) + 3)) := by
        rw [List.take_add_one, hx, List.flatMap_append]
        show _ = _ ++ ([T].flatMap _)
        rw [List.flatMap_cons, List.flatMap_nil, List.append_nil]
      have fl := flat_len (f := begT ((i : Int) + 3)) (B := 7) (L := (allT (i + 2)).take j) fun T _ => begT_len (by omega)
      have ft := begT_len (n := (i : Int) + 3) (T := T) (by omega)
      rw [List.length_take] at fl
      refine ⟨?_, hN2 _ (by rw [es])⟩
      rw [List.length_map, List.length_map, List.length_append]
      have : min j (allT (i + 2)).length ≤ 132 := by omega
      have : min j (allT (i + 2)).length * 7 ≤ 924 := by omega
      omega
    · subst hs
      refine hN _ ?_
      rw [List.length_range, List.take_of_length_le (by omega)]
      have e : begA (i + 1) = begA i ++ begN ((i : Int) + 3) := by
        unfold begA
        rw [List.range_succ, List.flatMap_append, List.flatMap_cons, List.flatMap_nil, List.append_nil]
      rw [e]
      unfold begN
      rw [show ((i : Int) + 3 - 1).toNat = i + 2 by omega]
  · subst hs
    rw [List.length_range]; exact hK
theorem e_winit {m : Nat} (h1 : 1 ≤ m) (h : m ≤ 6) {K : List PyData → Prop} (hK : K ([] ++ [stgD (begA m) 1])) : f_Watch__init (.int ((m : Int) + 2)) K E := by
  unfold f_Watch__init TL.andM
  dsimp only
  rw [q_le, decide_eq_true (by omega)]
  refine ⟨fun _ => ?_, fun z => (by cases z)⟩
  rw [q_le, decide_eq_true (by omega)]
  refine ⟨fun z => (by cases z), fun _ => ?_⟩
  exact e_beginnings h1 h hK
end
end Tx
namespace Tx
open PySem PySem.Spec PyProof.Rows L2 TL
open Tr
@[irreducible] def f__law_watch_do (l_watch_stages : List PyData) (l_sight_here : PyData) (K : (PyData → List PyData → Prop)) (E : KX) : Prop :=
  un3 l_sight_here fun l_word1 l_way2 l_face3 =>
  joinM (fun (Q : (PyData × (List PyData)) → Prop) => tryM (fun E28 => joinM (fun (Q : (PyData × (List PyData)) → Prop) => eqM l_word1 (.str "went") fun b29 =>
  (b29 = true → (f_Watch__went l_watch_stages l_way2 l_face3 (fun r33 stages_38 =>
  Q (r33, stages_38)) E28)) ∧ (b29 = false → (joinM (fun (Q : (PyData × (List PyData)) → Prop) => eqM l_word1 (.str "stuck") fun b39 =>
  (b39 = true → (f_Watch__stuck l_watch_stages l_way2 (fun r43 stages_48 =>
  Q (r43, stages_48)) E28)) ∧ (b39 = false → (f_Watch__turned_over l_watch_stages l_face3 (fun r49 stages_54 =>
  Q (r49, stages_54)) E28))) (fun (s : PyData × (List PyData)) =>
  match s with
  | (l_told55, l_watch_stages_56) => Q (l_told55, l_watch_stages_56))))) (fun (s : PyData × (List PyData)) =>
  match s with
  | (l_told59, l_watch_stages_60) => Q (l_told59, l_watch_stages_60))) ["BadWay", "BadNumber"] [("BadWay", Q ((.str "BadWay"), l_watch_stages)), ("BadNumber", Q ((.str "BadNumber"), l_watch_stages)), ("PinchError", Q ((.str "other"), l_watch_stages))] E) (fun (s : PyData × (List PyData)) =>
  match s with
  | (l_told63, l_watch_stages_64) => K l_told63 l_watch_stages_64)
def c__law_watch_do : CT := fun args Φ Ψ => ∃ (a_l_watch : Sl) (l_watch : List PyData) (l_sight_here : PyData) (K : (PyData → List PyData → Prop)) (E : KX), IsOb "Watch" [("stages", .l l_watch)] a_l_watch ∧ args = [a_l_watch, .d l_sight_here] ∧ f__law_watch_do l_watch l_sight_here K E ∧ (∀ r (x : List PyData) s, K r x → IsOb "Watch" [("stages", .l x)] s → oid s = oid a_l_watch → Φ (.rd r) [s, .d l_sight_here]) ∧ ∀ c, E c → Ψ c args
theorem shR_keep {f : Nat} {r r' : WR} (e : shR f r = some r') : r'.n = r.n ∧ r'.T = r.T ∧ r'.p = r.p ∧ r'.m.length ≤ r.m.length + 1 := by
  unfold shR at e
  split at e
  · cases e; exact ⟨rfl, rfl, rfl, by omega⟩
  · split at e
    · cases e; exact ⟨rfl, rfl, rfl, by show (r.m ++ [r.p.1]).length ≤ _; rw [List.length_append]; exact Nat.le_refl _⟩
    · cases e
theorem stW_keep {s : Sg} {r r' : WR} (h : r.Ok) (hl : r.m.length ≤ 99) (e : stW s r = some r') : r'.Ok ∧ r'.n = r.n ∧ r'.T = r.T ∧ r'.m.length ≤ r.m.length + 1 := by
  cases s with
  | went ev f =>
    obtain ⟨q, h1, h2⟩ := Option.bind_eq_some_iff.mp (show (mvR' ev r).bind (shR f) = some r' from e)
    obtain ⟨o, om⟩ := mvR_ok h h1
    obtain ⟨k1, k2, k3, k4⟩ := shR_keep h2
    have hq : q.n = r.n ∧ q.T = r.T := by
      unfold mvR' at h1
      obtain ⟨c, hc, rfl⟩ := Option.map_eq_some_iff.mp h1
      exact ⟨rfl, rfl⟩
    exact ⟨shR_ok o (by rw [om]; exact hl) h2, k1.trans hq.1, k2.trans hq.2, by rw [om] at k4; exact k4⟩
  | stuck ev =>
    have e : (if thW r.n (plT r.n r.T) r.p ev = none then some r else none) = some r' := e
    split at e
    · cases e; exact ⟨h, rfl, rfl, by omega⟩
    · cases e
  | over ev f =>
    have e : shR f { r with p := (r.p.2, r.p.1) } = some r' := e
    obtain ⟨k1, k2, k3, k4⟩ := shR_keep e
    exact ⟨shR_ok (r := { r with p := (r.p.2, r.p.1) }) ⟨h.lo, h.hi, h.sz, tsym h.tie, h.ml⟩ hl e, k1, k2, k4⟩
section
variable {Kl : KL} {E : KX}
theorem q_un4 {a b c d : PyData} {K : PyData → PyData → PyData → PyData → Prop} : un4 (.tuple [a, b, c, d]) K = K a b c d := rfl
end
end Tx
namespace Tx
open PySem PySem.Spec PyProof.Rows L2 TL
section
variable {K : KD} {E : KX} {Kb : KB} {s : Str}
theorem and_b {b1 b2 : Bool} {ma mb : KB → Prop} (h1 : ∀ Q, ma Q = Q b1) (h2 : b1 = true → ∀ Q, mb Q = Q b2) : TL.andM ma mb Kb = Kb (b1 && b2) := by
  unfold TL.andM
  rw [h1]
  cases b1 with
  | false => exact propext ⟨fun z => z.2 rfl, fun z => ⟨fun q => (by cases q), fun _ => z⟩⟩
  | true => rw [h2 rfl]; exact propext ⟨fun z => z.1 rfl, fun z => ⟨fun _ => z, fun q => (by cases q)⟩⟩
end
end Tx
namespace Tx
open PySem PySem.Spec PyProof.Rows L2 TL
def NumOk (i : Int) : Prop := 0 ≤ i ∧ i < 10000
end Tx
namespace Tx
open PySem PySem.Spec PyProof.Rows L2 TL
open Tr
theorem WR.Ok.rng {r : WR} (h : r.Ok) : NumOk r.n ∧ NumOk r.p.1 ∧ NumOk r.p.2 ∧ (∀ c ∈ plT r.n r.T, NumOk c.1 ∧ NumOk c.2) ∧ (plT r.n r.T).length ≤ 5 := by
  have hp := h.hp
  have h3 := h.lo
  have h8 := h.hi
  obtain ⟨t1, t2, t3, t4, _⟩ := tie_lt hp h.tie
  refine ⟨⟨by omega, by omega⟩, ⟨by omega, by omega⟩, ⟨by omega, by omega⟩, fun c hc => ?_, by have := hp.len; omega⟩
  have := hp.cut c hc
  exact ⟨⟨by omega, by omega⟩, ⟨by omega, by omega⟩⟩
end Tx
namespace Tx
open PySem PySem.Spec PyProof.Rows L2 TL
open Tr
@[irreducible] def f_Watch__back (self_stages : List PyData) (K : (PyData → List PyData → Prop)) (E : KX) : Prop :=
  lenM (.list self_stages) fun r1 =>
  eqM r1 (.int 1) fun b2 =>
  (b2 = true → (E (.own "NoBack"))) ∧ (b2 = false → (popM self_stages fun l9 y10 =>
  K .none l9))
def c_Watch__back : CT := fun args Φ Ψ => ∃ (a_self : Sl) (self : List PyData) (K : (PyData → List PyData → Prop)) (E : KX), IsOb "Watch" [("stages", .l self)] a_self ∧ args = [a_self] ∧ f_Watch__back self K E ∧ (∀ r (x : List PyData) s, K r x → IsOb "Watch" [("stages", .l x)] s → oid s = oid a_self → Φ (.rd r) [s]) ∧ ∀ c, E c → Ψ c args
section
variable {K : KD} {Kl : KL} {E : KX}
def lfS (R : List WR) : List PyData := srt (R.map plpD)
theorem e_left2 {S : List PyData} {R : List WR} {k : Nat} : f_Watch__left (S ++ [stgD R k]) Kl E = Kl (lfS R) := by
  unfold f_Watch__left
  rw [q_ix_last]
  rw [stg0, q_it_l, q_lc_map R wrD plpD fun r hr kp sk => by
    show un3 (.tuple [plD r.n (plT r.n r.T), ppD r.p, .tuple (r.m.map .int)]) _ = _
    rw [q_un3]; rfl]
  rw [List.nil_append]
  exact propext ⟨fun z => z.2, fun z => ⟨(sort_plp R).1, z⟩⟩
theorem lfS_map (R : List WR) : ∃ M : List WR, lfS R = M.map plpD ∧ M.Perm R := (sort_plp R).2
/-- an entry of the law's pile -/
structure PE where
  R : List WR
  k : Nat
  h : WR
def peS (e : PE) : PyData := stgD e.R e.k
theorem e_back {S : List PyData} {x : PyData} (h : 1 ≤ S.length) {K : PyData → List PyData → Prop} (hK : K .none S) : f_Watch__back (S ++ [x]) K E := by
  unfold f_Watch__back
  rw [q_len_l, List.length_append, q_eq_ii]
  have e : decide (((S.length + [x].length : Nat) : Int) = 1) = false := decide_eq_false (by rw [List.length_singleton]; omega)
  rw [e]
  refine ⟨fun z => (by cases z), fun _ => ?_⟩
  rw [q_pop]; exact hK
end
/-- what an entry of the pile keeps -/
structure PE.Ok (n : Int) (T : Tr) (i : Nat) (e : PE) : Prop where
  hn : e.h.n = n
  hT : e.h.T = T
  ho : e.h.Ok
  hm : e.h.m.length ≤ 1 + i
  ok : allOk e.R
  len : e.R.length ≤ 6000
  mm : ∀ r ∈ e.R, r.m.length ≤ 1 + i
  hk : e.k ≤ 1 + i
theorem PE.Ok.up {n : Int} {T : Tr} {i : Nat} {e : PE} (h : e.Ok n T i) : e.Ok n T (i + 1) := ⟨h.hn, h.hT, h.ho, by have := h.hm; omega, h.ok, h.len, fun r hr => by have := h.mm r hr; omega, by have := h.hk; omega⟩
end Tx
namespace Tx
open PySem PySem.Spec PyProof.Rows L2 TL
open Tr
@[irreducible] def f__law_watch_word (l_most : PyData) (K : KD) (E : KX) : Prop :=
  joinM (fun (Q : PyData → Prop) => tryM (fun E18 => f_Watch__init l_most (fun stages_19 =>
  Q (.str "told")) E18) ["BadFaces", "BadNumber"] [("BadFaces", Q (.str "BadFaces")), ("PinchError", Q (.str "other"))] E) (fun l_word24 =>
  K l_word24)
def c__law_watch_word : CT := fun args Φ Ψ => ∃ (l_most : PyData) (K : KD) (E : KX), args = [.d l_most] ∧ f__law_watch_word l_most K E ∧ (∀ r, K r → Φ (.rd r) args) ∧ ∀ c, E c → Ψ c args
@[irreducible] def f__law_bounds_held (l_far : PyData) (K : KD) (E : KX) : Prop :=
  subM (.int 0) (.int 1) fun r2 =>
  itM (.tuple [(.int 2), (.int 9), (.int 0), r2, l_far]) fun xs1 =>
  lcM (fun l_most3 kp sk => f__law_watch_word l_most3 (fun r5 =>
  eqM r5 (.str "BadFaces") fun b6 =>
  kp (.bool b6)) (fun _ => False)) (fun l4 =>
  allM (.list l4) fun r7 =>
  K r7) xs1 []
def c__law_bounds_held : CT := fun args Φ Ψ => ∃ (l_far : PyData) (K : KD) (E : KX), args = [.d l_far] ∧ f__law_bounds_held l_far K E ∧ (∀ r, K r → Φ (.rd r) args) ∧ ∀ c, E c → Ψ c args
@[irreducible] def f_Watch__twin_v3 (self_stages : List PyData) (K : (List PyData → Prop)) (E : KX) : Prop :=
  f_Watch__init (.int 3) (fun stages_1 =>
  listM (.list self_stages) fun l10 =>
  K l10) (fun _ => False)
def c_Watch__twin_v3 : CT := fun args Φ Ψ => ∃ (a_self : Sl) (self : List PyData) (K : (List PyData → Prop)) (E : KX), IsOb "Watch" [("stages", .l self)] a_self ∧ args = [a_self] ∧ f_Watch__twin_v3 self K E ∧ (∀ r, K r → Φ (.sl (fun s => IsOb "Watch" [("stages", .l r)] s)) args) ∧ ∀ c, E c → Ψ c args
@[irreducible] def f__law_no_back (l_watch_stages : List PyData) (K : (PyData → List PyData → Prop)) (E : KX) : Prop :=
  joinM (fun (Q : ((List PyData) × PyData) → Prop) => tryM (fun E18 => f_Watch__back l_watch_stages (fun r19 stages_24 =>
  Q (stages_24, (.str "told"))) E18) ["NoBack"] [("NoBack", Q (l_watch_stages, (.str "NoBack"))), ("PinchError", Q (l_watch_stages, (.str "other")))] E) (fun (s : (List PyData) × PyData) =>
  match s with
  | (l_watch_stages_25, l_word26) => K l_word26 l_watch_stages_25)
def c__law_no_back : CT := fun args Φ Ψ => ∃ (a_l_watch : Sl) (l_watch : List PyData) (K : (PyData → List PyData → Prop)) (E : KX), IsOb "Watch" [("stages", .l l_watch)] a_l_watch ∧ args = [a_l_watch] ∧ f__law_no_back l_watch K E ∧ (∀ r (x : List PyData) s, K r x → IsOb "Watch" [("stages", .l x)] s → oid s = oid a_l_watch → Φ (.rd r) [s]) ∧ ∀ c, E c → Ψ c args
@[irreducible] def f_law_k48 (script : PyData) (K : KD) (E : KX) : Prop :=
  f__law_pull (.int 100000000000000000000) (fun r1 =>
  addM (.int 9) r1 fun r2 =>
  f__law_bounds_held r2 (fun r3 =>
  boolM r3 fun b4 =>
  ((!b4) = true → (K (.bool false))) ∧ ((!b4) = false → (f__law_pull (.int 6) (fun r8 =>
  addM (.int 3) r8 fun r9 =>
  f_Watch__init r9 (fun stages_10 =>
  takeM [stages_10] (.int 0) fun j18 w19 =>
  f_Watch__left w19 (fun r22 =>
  listM (.list r22) fun l23 =>
  f__law_pull (.int 3) (fun r28 =>
  ixM (.list [(.int 4), (.int 8), (.int 14)]) r28 fun r29 =>
  rngM (.int 0) r29 fun xs27 =>
  forM (fun l_turn60 (s : (List (List PyData)) × (List PyData)) N61 B62 => match s with
  | (l_watches63, l_stands64) => joinM (fun (Q : ((List (List PyData)) × (List PyData)) → Prop) => eqM l_turn60 (.int 3) fun b78 =>
  (b78 = true → (takeM l_watches63 (.int 0) fun j82 w83 =>
  f_Watch__twin_v3 w83 (fun r86 =>
  l_watches63.length < sizeLine ∧ (nestRow (.list l_stands64) (.int 0) fun l93 =>
  listM (.list l93) fun l94 =>
  l_stands64.length < sizeLine ∧ (Q ((l_watches63 ++ [r86]), (l_stands64 ++ ([(.list l94)] : List PyData)))))) E)) ∧ (b78 = false → (Q (l_watches63, l_stands64)))) (fun (s : (List (List PyData)) × (List PyData)) =>
  match s with
  | (l_watches99, l_stands100) => f__law_pull (.int (l_watches99.length : Nat)) (fun r105 =>
  takeM l_watches99 r105 fun j106 w107 =>
  nestRow (.list l_stands100) r105 fun l116 =>
  ixM (.list l116) (.int (-1)) fun r117 =>
  ixM r117 (.int 1) fun r118 =>
  f__law_pull (.int 6) (fun r119 =>
  ixM (.list [(.str "even"), (.str "odd"), (.str "even"), (.str "odd"), (.str ""), (.str "Odd")]) r119 fun r120 =>
  addM r118 (.int 1) fun r121 =>
  f__law_pull r121 (fun r122 =>
  f__law_odd r118 (fun r123 =>
  f__law_pull (.int 3) (fun r124 =>
  divM r124 (.int 2) fun r125 =>
  ixM (.list [r122, r123]) r125 fun r126 =>
  f__law_pull (.int 3) (fun r127 =>
  ixM (.list [(.str "went"), (.str "stuck"), (.str "over")]) r127 fun r128 =>
  joinM (fun (Q : PyData → Prop) => andM (fun Q => neM r128 (.str "stuck") fun b130 =>
  Q b130) (fun Q => andM (fun Q => leM (.int 0) r126 Q) (fun Q => leM r126 r118 Q) fun b131 =>
  Q (!b131)) fun b129 =>
  (b129 = true → (Q (.str "BadNumber"))) ∧ (b129 = false → (Q PyData.none))) (fun l_due136 =>
  joinM (fun (Q : PyData → Prop) => andM (fun Q => neM r128 (.str "over") fun b138 =>
  Q b138) (fun Q => inM r120 (.tuple [(.str ""), (.str "Odd")]) fun b139 =>
  Q b139) fun b137 =>
  (b137 = true → (Q (.str "BadWay"))) ∧ (b137 = false → (Q l_due136))) (fun l_due143 =>
  f__law_pull (.int 3) (fun r144 =>
  eqM r144 (.int 0) fun b145 =>
  (b145 = true → (nestRow (.list l_stands100) r105 fun l149 =>
  lenM (.list l149) fun r150 =>
  gtM r150 (.int 1) fun b151 =>
  (b151 = true → (nestRow (.list l_stands100) r105 fun l159 =>
  popM l159 fun l160 y161 =>
  nestSetL (fun _ => l160) l_stands100 r105 fun r155 =>
  f_Watch__back w107 (fun r163 stages_168 =>
  ((!isNone r163) = true → (K (.bool false))) ∧ ((!isNone r163) = false → (rngM (.int 0) (.int ((l_watches99.set j106 stages_168).length : Nat)) fun xs175 =>
  forM (fun l_one177 (_ : Unit) N178 B179 => takeM (l_watches99.set j106 stages_168) l_one177 fun j181 w182 =>
  f_Watch__left w182 (fun r185 =>
  takeM (l_watches99.set j106 stages_168) l_one177 fun j186 w187 =>
  f_Watch__met w187 (fun r190 =>
  nestRow (.list r155) l_one177 fun l191 =>
  ixM (.list l191) (.int (-1)) fun r192 =>
  listM r192 fun l193 =>
  f__law_alike (.list [(.list r185), r190]) (.list l193) (fun r194 =>
  boolM r194 fun b195 =>
  ((!b195) = true → (K (.bool false))) ∧ ((!b195) = false → (N178 ()))) E) E) E) (fun (_ : Unit) =>
  N61 ((l_watches99.set j106 stages_168), r155)) xs175 ()))) E)) ∧ (b151 = false → (f__law_no_back w107 (fun r199 stages_204 =>
  neM r199 (.str "NoBack") fun b205 =>
  (b205 = true → (K (.bool false))) ∧ (b205 = false → (rngM (.int 0) (.int ((l_watches99.set j106 stages_204).length : Nat)) fun xs212 =>
  forM (fun l_one214 (_ : Unit) N215 B216 => takeM (l_watches99.set j106 stages_204) l_one214 fun j218 w219 =>
  f_Watch__left w219 (fun r222 =>
  takeM (l_watches99.set j106 stages_204) l_one214 fun j223 w224 =>
  f_Watch__met w224 (fun r227 =>
  nestRow (.list l_stands100) l_one214 fun l228 =>
  ixM (.list l228) (.int (-1)) fun r229 =>
  listM r229 fun l230 =>
  f__law_alike (.list [(.list r222), r227]) (.list l230) (fun r231 =>
  boolM r231 fun b232 =>
  ((!b232) = true → (K (.bool false))) ∧ ((!b232) = false → (N215 ()))) E) E) E) (fun (_ : Unit) =>
  N61 ((l_watches99.set j106 stages_204), l_stands100)) xs212 ()))) E)))) ∧ (b145 = false → (f__law_watch_do w107 (.tuple [r128, r120, r126]) (fun r236 stages_241 =>
  neM r236 l_due143 fun b242 =>
  (b242 = true → (K (.bool false))) ∧ (b242 = false → (((isNone l_due143) = true → (nestRow (.list l_stands100) r105 fun l253 =>
  f_Watch__left stages_241 (fun r254 =>
  listM (.list r254) fun l255 =>
  ifM (fun Q => eqM r128 (.str "stuck") fun b257 =>
  Q b257) (fun Q => Q r118) (fun Q => addM r126 (.int 1) fun r258 =>
  max2M r118 r258 fun r259 =>
  Q r259) fun r256 =>
  l253.length < sizeLine ∧ nestSetL (fun l => l ++ [(.tuple [(.list l255), r256])]) l_stands100 r105 fun r249 =>
  rngM (.int 0) (.int ((l_watches99.set j106 stages_241).length : Nat)) fun xs264 =>
  forM (fun l_one266 (_ : Unit) N267 B268 => takeM (l_watches99.set j106 stages_241) l_one266 fun j270 w271 =>
  f_Watch__left w271 (fun r274 =>
  takeM (l_watches99.set j106 stages_241) l_one266 fun j275 w276 =>
  f_Watch__met w276 (fun r279 =>
  nestRow (.list r249) l_one266 fun l280 =>
  ixM (.list l280) (.int (-1)) fun r281 =>
  listM r281 fun l282 =>
  f__law_alike (.list [(.list r274), r279]) (.list l282) (fun r283 =>
  boolM r283 fun b284 =>
  ((!b284) = true → (K (.bool false))) ∧ ((!b284) = false → (N267 ()))) E) E) E) (fun (_ : Unit) =>
  N61 ((l_watches99.set j106 stages_241), r249)) xs264 ()) E)) ∧ ((isNone l_due143) = false → (rngM (.int 0) (.int ((l_watches99.set j106 stages_241).length : Nat)) fun xs291 =>
  forM (fun l_one293 (_ : Unit) N294 B295 => takeM (l_watches99.set j106 stages_241) l_one293 fun j297 w298 =>
  f_Watch__left w298 (fun r301 =>
  takeM (l_watches99.set j106 stages_241) l_one293 fun j302 w303 =>
  f_Watch__met w303 (fun r306 =>
  nestRow (.list l_stands100) l_one293 fun l307 =>
  ixM (.list l307) (.int (-1)) fun r308 =>
  listM r308 fun l309 =>
  f__law_alike (.list [(.list r301), r306]) (.list l309) (fun r310 =>
  boolM r310 fun b311 =>
  ((!b311) = true → (K (.bool false))) ∧ ((!b311) = false → (N294 ()))) E) E) E) (fun (_ : Unit) =>
  N61 ((l_watches99.set j106 stages_241), l_stands100)) xs291 ()))))) E))) E))) E) E) E) E) E) E)) (fun (s : (List (List PyData)) × (List PyData)) =>
  match s with
  | (l_watches30, l_stands31) => f_Watch__init (.int 8) (fun stages_45 =>
  f_Watch__left stages_45 (fun r50 =>
  lenM (.list r50) fun r51 =>
  f_Watch__init (.int 8) (fun stages_52 =>
  f_Watch__left stages_52 (fun r57 =>
  lenM (.list r57) fun r58 =>
  eqM r51 r58 fun b59 =>
  K (.bool b59)) E) (fun _ => False)) E) E) xs27 ([stages_10], [.list [(.tuple [(.list l23), (.int 1)])]])) E) E) (fun _ => False)) E))) E) E
structure ET where
  R : List WR
  k : Nat
def etS (e : ET) : PyData := stgD e.R e.k
def etD (e : ET) : PyData := .tuple [.list (lfS e.R), .int e.k]
def wS (L : List ET) : List PyData := L.map etS
def wD (L : List ET) : PyData := .list (L.map etD)
structure ET.Ok (i : Nat) (e : ET) : Prop where
  ok : allOk e.R
  len : e.R.length ≤ 6000
  mm : ∀ r ∈ e.R, r.m.length ≤ 1 + i
  hk : e.k ≤ 1 + i
theorem ET.Ok.up {i : Nat} {e : ET} (h : e.Ok i) : e.Ok (i + 1) := ⟨h.ok, h.len, fun r hr => by have := h.mm r hr; omega, by have := h.hk; omega⟩
def GoodW (i : Nat) (Ws : List (List ET)) : Prop := 1 ≤ Ws.length ∧ Ws.length ≤ 1 + i ∧ ∀ L ∈ Ws, L ≠ [] ∧ L.length ≤ 1 + i ∧ ∀ e ∈ L, e.Ok i
section
variable {K : KD} {Kl : KL} {E : KX}
theorem e_pullW {m : Int} (h : 0 < m) (h2 : m.natAbs < 2 ^ 8000) : f__law_pull (.int m) K E = ∀ r : Int, 0 ≤ r → r < m → K (.int r) := by
  show ((0 < m ∧ m.natAbs < 2 ^ 8000) ∧ _) = _
  exact propext ⟨fun z => z.2, fun z => ⟨⟨h, h2⟩, z⟩⟩
theorem e_winit_bad {m : Int} (h : m < 3 ∨ 8 < m) {K : List PyData → Prop} {E : KX} (hE : E (.own "BadFaces")) : f_Watch__init (.int m) K E := by
  unfold f_Watch__init TL.andM
  dsimp only
  rw [q_le]
  by_cases c : (3 : Int) ≤ m
  · rw [decide_eq_true c]
    refine ⟨fun _ => ?_, fun z => (by cases z)⟩
    rw [q_le, decide_eq_false (by omega)]
    exact ⟨fun _ => hE, fun z => (by cases z)⟩
  · rw [decide_eq_false c]
    refine ⟨fun z => (by cases z), fun _ => ?_⟩
    exact ⟨fun _ => hE, fun z => (by cases z)⟩
theorem e_word {m : Int} (h : m < 3 ∨ 8 < m) (hK : K (.str "BadFaces")) : f__law_watch_word (.int m) K E := by
  unfold f__law_watch_word joinM tryM
  dsimp only
  exact e_winit_bad h ⟨by decide, fun _ => hK, fun z => absurd z (by decide)⟩
theorem lc_all {α : Type} {bd : PyData → (PyData → Prop) → Prop → Prop} {K : List PyData → Prop} (d : α → PyData) (o : PyData) : ∀ (L : List α) (h : ∀ a ∈ L, ∀ (k : PyData → Prop) (s : Prop), k o → bd (d a) k s) (acc : List PyData) (hK : K (acc ++ L.map fun _ => o)), lcM bd K (L.map d) acc
  | [], _, acc, hK => by rw [List.map_nil, List.append_nil] at hK; exact hK
  | x :: xs, h, acc, hK => by
    show bd (d x) _ _
    refine h x (List.mem_cons_self ..) _ _ ?_
    refine lc_all d o xs (fun a ha => h a (List.mem_cons_of_mem _ ha)) (acc ++ [o]) ?_
    rw [List.append_assoc]; exact hK
theorem e_bounds {far : Int} (h : 9 ≤ far) (hK : K (.bool true)) : f__law_bounds_held (.int far) K E := by
  unfold f__law_bounds_held
  rw [q_sub]
  rw [show ∀ Q : KL, itM (.tuple [.int 2, .int 9, .int 0, .int (0 - 1), .int far]) Q = Q (([2, 9, 0, 0 - 1, far] : List Int).map .int) from fun Q => rfl]
  refine lc_all (fun i : Int => PyData.int i) (.bool true) _ (fun a ha k s hk => ?_) [] ?_
  · refine e_word ?_ ?_
    · rcases List.mem_cons.mp ha with rfl | ha
      · exact .inl (by decide)
      · rcases List.mem_cons.mp ha with rfl | ha
        · exact .inr (by decide)
        · rcases List.mem_cons.mp ha with rfl | ha
          · exact .inl (by decide)
          · rcases List.mem_cons.mp ha with rfl | ha
            · exact .inl (by decide)
            · rw [List.mem_singleton.mp ha]; exact .inr (by omega)
    · rw [q_eq_ss, decide_eq_true rfl]; exact hk
  · exact hK
theorem e_noback {x : PyData} {K : PyData → List PyData → Prop} (hK : K (.str "NoBack") [x]) : f__law_no_back [x] K E := by
  unfold f__law_no_back joinM tryM
  dsimp only
  unfold f_Watch__back
  rw [q_len_l, q_eq_ii]
  rw [show decide ((([x] : List PyData).length : Int) = 1) = true from rfl]
  refine ⟨fun _ => ?_, fun z => (by cases z)⟩
  exact ⟨by decide, fun _ => hK, fun z => absurd z (by decide)⟩
theorem e_twin {S : List PyData} {K : List PyData → Prop} (hK : K S) : f_Watch__twin_v3 S K E := by
  unfold f_Watch__twin_v3
  rw [show (PyData.int 3) = .int (((1 : Nat) : Int) + 2) from rfl]
  exact e_winit (by decide) (by decide) hK
theorem e_way_bad {way : Str} (h : way = "" ∨ way = "Odd") {K : KD} (hE : E (.own "BadWay")) : f_need_way (.str way) K E := by
  unfold f_need_way
  have e : ∀ Q : KB, inTupM (.str way) [.str "even", .str "odd"] Q = Q false := fun Q => by
    show Q (inV (.str way) (([("even" : Str), ("odd" : Str)] : List Str).map V.str)) = _
    rw [inV_strs]
    rcases h with rfl | rfl <;> rfl
  rw [e]
  exact ⟨fun _ => hE, fun z => (by cases z)⟩
theorem e_num_bad {S : List PyData} {R : List WR} {k : Nat} {f : Int} (h : f < 0 ∨ (k : Int) < f) {K : KD} (hE : E (.own "BadNumber")) : f_Watch__need_number (S ++ [stgD R k]) (.int f) K E := by
  unfold f_Watch__need_number TL.andM
  dsimp only
  rw [q_le]
  by_cases c : (0 : Int) ≤ f
  · rw [decide_eq_true c]
    refine ⟨fun _ => ?_, fun z => (by cases z)⟩
    rw [e_met, q_le, decide_eq_false (by omega)]
    exact ⟨fun _ => hE, fun z => (by cases z)⟩
  · rw [decide_eq_false c]
    refine ⟨fun z => (by cases z), fun _ => ?_⟩
    exact ⟨fun _ => hE, fun z => (by cases z)⟩
def wrd : Nat → Str
  | 0 => "went"
  | 1 => "stuck"
  | _ => "over"
theorem e_do {S : List PyData} {R : List WR} {k : Nat} (hR : R.length ≤ 6000) (hS : S.length ≤ 1000) (ok : allOk R) {i : Nat} (hi : i ≤ 50) (mm : ∀ r ∈ R, r.m.length ≤ 1 + i) {w : Nat} (hw : w < 3) {way : Str} (hway : (∃ ev, way = wayS ev) ∨ way = "" ∨ way = "Odd") {face : Int} {K : PyData → List PyData → Prop}
    (h1 : w ≠ 2 → (way = "" ∨ way = "Odd") → K (.str "BadWay") (S ++ [stgD R k]))
    (h2 : ¬ (w ≠ 2 ∧ (way = "" ∨ way = "Odd")) → w ≠ 1 → (face < 0 ∨ (k : Int) < face) → K (.str "BadNumber") (S ++ [stgD R k]))
    (h3 : ¬ (w ≠ 2 ∧ (way = "" ∨ way = "Odd")) → (w = 1 ∨ (0 ≤ face ∧ face ≤ k)) → ∀ R' : List WR, allOk R' → R'.length ≤ 6000 → (∀ r ∈ R', r.m.length ≤ 1 + (i + 1)) → K .none (S ++ [stgD R k] ++ [stgD R' (if w = 1 then k else max k (face.toNat + 1))])) :
    f__law_watch_do (S ++ [stgD R k]) (.tuple [.str (wrd w), .str way, .int face]) K E := by
  have bw : ∀ (A B : Prop) (E2 : KX), K (.str "BadWay") (S ++ [stgD R k]) → hdM ["BadWay", "BadNumber"] [("BadWay", K (.str "BadWay") (S ++ [stgD R k])), ("BadNumber", A), ("PinchError", B)] E2 (.own "BadWay") := fun A B E2 hK => ⟨by decide, fun _ => hK, fun z => absurd z (by decide)⟩
  have bn : ∀ (A B : Prop) (E2 : KX), K (.str "BadNumber") (S ++ [stgD R k]) → hdM ["BadWay", "BadNumber"] [("BadWay", A), ("BadNumber", K (.str "BadNumber") (S ++ [stgD R k])), ("PinchError", B)] E2 (.own "BadNumber") := fun A B E2 hK => ⟨by decide, fun z => absurd z (by decide), fun _ => ⟨fun _ => hK, fun z => absurd z (by decide)⟩⟩
  have keep : ∀ sg : Sg, allOk (R.filterMap (stW sg)) ∧ (R.filterMap (stW sg)).length ≤ 6000 ∧ ∀ r ∈ R.filterMap (stW sg), r.m.length ≤ 1 + (i + 1) := fun sg => by
    refine ⟨fun q hq => ?_, by have := List.length_filterMap_le (stW sg) R; omega, fun q hq => ?_⟩
    · obtain ⟨q0, hq0, hq1⟩ := List.mem_filterMap.mp hq
      have := mm q0 hq0
      exact (stW_keep (ok q0 hq0) (by omega) hq1).1
    · obtain ⟨q0, hq0, hq1⟩ := List.mem_filterMap.mp hq
      have := mm q0 hq0
      have := (stW_keep (ok q0 hq0) (by omega) hq1).2.2.2
      omega
  unfold f__law_watch_do
  show un3 (.tuple [.str (wrd w), .str way, .int face]) _
  rw [q_un3]
  unfold joinM tryM
  dsimp only
  have ew : w = 0 ∨ w = 1 ∨ w = 2 := by omega
  rcases ew with rfl | rfl | rfl
  · rw [show wrd 0 = ("went" : Str) from rfl, q_eq_ss, decide_eq_true rfl]
    refine ⟨fun _ => ?_, fun z => (by cases z)⟩
    rcases hway with ⟨ev, rfl⟩ | hb
    · have nb : ¬ ((0 : Nat) ≠ 2 ∧ (wayS ev = "" ∨ wayS ev = "Odd")) := fun z => by cases ev <;> exact absurd z.2 (by decide)
      by_cases c : 0 ≤ face ∧ face ≤ k
      · obtain ⟨f, rfl⟩ : ∃ f : Nat, face = f := ⟨face.toNat, by omega⟩
        obtain ⟨k1, k2, k3⟩ := keep (.went ev f)
        refine e_went (by omega) hS ok (by omega) ?_
        have := h3 nb (.inr c) _ k1 k2 k3
        exact this
      · unfold f_Watch__went
        rw [e_need_way]
        exact e_num_bad (by omega) (bn _ _ _ (h2 nb (by decide) (by omega)))
    · unfold f_Watch__went
      exact e_way_bad hb (bw _ _ _ (h1 (by decide) hb))
  · rw [show wrd 1 = ("stuck" : Str) from rfl, q_eq_ss, decide_eq_false (by decide)]
    refine ⟨fun z => (by cases z), fun _ => ?_⟩
    rw [q_eq_ss, decide_eq_true rfl]
    refine ⟨fun _ => ?_, fun z => (by cases z)⟩
    rcases hway with ⟨ev, rfl⟩ | hb
    · have nb : ¬ ((1 : Nat) ≠ 2 ∧ (wayS ev = "" ∨ wayS ev = "Odd")) := fun z => by cases ev <;> exact absurd z.2 (by decide)
      obtain ⟨k1, k2, k3⟩ := keep (.stuck ev)
      refine e_stuck (by omega) hS ok ?_
      exact h3 nb (.inl rfl) _ k1 k2 k3
    · unfold f_Watch__stuck
      exact e_way_bad hb (bw _ _ _ (h1 (by decide) hb))
  · rw [show wrd 2 = ("over" : Str) from rfl, q_eq_ss, decide_eq_false (by decide)]
    refine ⟨fun z => (by cases z), fun _ => ?_⟩
    rw [q_eq_ss, decide_eq_false (by decide)]
    refine ⟨fun z => (by cases z), fun _ => ?_⟩
    have nb : ¬ ((2 : Nat) ≠ 2 ∧ (way = "" ∨ way = "Odd")) := fun z => z.1 rfl
    by_cases c : 0 ≤ face ∧ face ≤ k
    · obtain ⟨f, rfl⟩ : ∃ f : Nat, face = f := ⟨face.toNat, by omega⟩
      obtain ⟨k1, k2, k3⟩ := keep (.over true f)
      refine e_wover (ev := true) (by omega) hS ok (by omega) ?_
      exact h3 nb (.inr c) _ k1 k2 k3
    · unfold f_Watch__turned_over
      exact e_num_bad (by omega) (bn _ _ _ (h2 nb (by decide) (by omega)))
theorem okD_pair {i : Nat} {e : ET} (h : e.Ok i) : okD 8 (.list [.list (lfS e.R), .int e.k]) = true := by
  obtain ⟨M, eM, hp⟩ := lfS_map e.R
  have hl := h.len
  have e7 : okD 7 (.list (lfS e.R)) = true := by
    rw [eM]
    show (decide ((M.map plpD).length ≤ 10000000) && (M.map plpD).all (okD 6)) = true
    rw [decide_eq_true (by rw [List.length_map, hp.length_eq]; omega), Bool.true_and, List.all_map, List.all_eq_true]
    intro r hr
    have o := h.ok r (hp.mem_iff.mp hr)
    have := o.rng.2.2.2.2
    show (decide (2 ≤ 10000000) && [plD r.n (plT r.n r.T), ppD r.p].all (okD 5)) = true
    rw [List.all_cons, List.all_cons, okD_pl 2 (by omega)]
    rfl
  show (decide (2 ≤ 10000000) && [PyData.list (lfS e.R), .int e.k].all (okD 7)) = true
  rw [List.all_cons, List.all_cons, e7]
  rfl
theorem ixN_nat {n j : Nat} (h : j < n) : ixN n (j : Int) = some j := by
  unfold ixN
  have e1 : (0 : Int) ≤ (j : Int) := by omega
  simp [e1]
  omega
theorem last_map {α : Type} {f : α → PyData} {L : List α} (h : L ≠ []) : ∃ L0 e, L = L0 ++ [e] ∧ ∀ Q : KD, ixM (.list (L.map f)) (.int (-1)) Q = Q (f e) := by
  rcases List.eq_nil_or_concat L with z | ⟨L0, e, z⟩
  · exact absurd z h
  · rw [List.concat_eq_append] at z
    refine ⟨L0, e, z, fun Q => ?_⟩
    rw [z, List.map_append, List.map_singleton, q_ix_last]
theorem e_rest {Ws : List (List ET)} {i : Nat} (hi : i ≤ 50) (hg : GoodW i Ws) {KF Nx : Prop} (hN : Nx) :
    rngM (.int 0) (.int ((Ws.map wS).length : Nat)) fun xs175 =>
  TL.forM (fun l_one177 (_ : Unit) N178 B179 => takeM (Ws.map wS) l_one177 fun j181 w182 =>
  f_Watch__left w182 (fun r185 =>
  takeM (Ws.map wS) l_one177 fun j186 w187 =>
  f_Watch__met w187 (fun r190 =>
  nestRow (.list (Ws.map wD)) l_one177 fun l191 =>
  ixM (.list l191) (.int (-1)) fun r192 =>
  listM r192 fun l193 =>
  f__law_alike (.list [(.list r185), r190]) (.list l193) (fun r194 =>
  boolM r194 fun b195 =>
  ((!b195) = true → KF) ∧ ((!b195) = false → (N178 ()))) E) E) E) (fun (_ : Unit) =>
  Nx) xs175 () := by
  obtain ⟨g1, g2, g3⟩ := hg
  rw [q_rng]
  refine ⟨by rw [List.length_map]; omega, ?_⟩
  rw [range0, show (((Ws.map wS).length : Nat) : Int).toNat = Ws.length by rw [List.length_map]; omega]
  refine forM_inv (List.range Ws.length) (fun (j : Nat) => PyData.int j) (fun _ _ => True) (fun j a ha s hs N hN2 => ?_) (fun s hs => hN) _ trivial
  obtain ⟨hj, ea⟩ := List.getElem?_eq_some_iff.mp ha
  rw [List.length_range] at hj
  rw [List.getElem_range] at ea
  subst ea
  have hL := g3 Ws[j] (List.getElem_mem hj)
  obtain ⟨L0, e, eL, hx⟩ := last_map (f := etD) hL.1
  have eo := hL.2.2 e (by rw [eL]; exact List.mem_append_right _ (List.mem_singleton.mpr rfl))
  have t1 : ∀ Q : Nat → List PyData → Prop, takeM (Ws.map wS) (.int j) Q = Q j (L0.map etS ++ [stgD e.R e.k]) := fun Q => by
    rw [q_take (j := j) (w := wS Ws[j]) (by rw [List.length_map]; exact ixN_nat hj) (by rw [List.getElem?_map, List.getElem?_eq_getElem hj]; rfl)]
    rw [eL]
    unfold wS
    rw [List.map_append]; rfl
  rw [t1, e_left2, t1, e_met]
  rw [q_nestRow (l := Ws[j].map etD) (by
    show atI (Ws.map wD) (j : Int) = _
    rw [at_nat (by omega) (show (Ws.map wD)[(j : Int).toNat]? = some (wD Ws[j]) by rw [Int.toNat_natCast, List.getElem?_map, List.getElem?_eq_getElem hj]; rfl)]; rfl), hx]
  rw [show ∀ Q : KL, listM (etD e) Q = Q [.list (lfS e.R), .int e.k] from fun Q => rfl, e__law_alike (okD_pair eo)]
  rw [show ∀ Q : KB, boolM (.bool true) Q = Q true from fun Q => rfl]
  exact ⟨fun z => (by cases z), fun _ => hN2 _ trivial⟩
theorem e_set {Ws : List (List ET)} {j : Nat} {L : List ET} : (Ws.map wS).set j (L.map etS) = (Ws.set j L).map wS := (List.map_set ..).symm
theorem e_setD {Ws : List (List ET)} {j : Nat} {L : List ET} : (Ws.map wD).set j (.list (L.map etD)) = (Ws.set j L).map wD := (List.map_set ..).symm
end
theorem e_law_k48 (ns : List Int) (h : ns.length ≤ 63) : f_law_k48 (.list (ns.map .int)) (fun r => r = .bool true) (fun _ => False) := by
  have hsl := sizeLine_eq
  unfold f_law_k48
  rw [e_pullW (by decide) (Nat.lt_of_lt_of_le (show (100000000000000000000 : Int).natAbs < 2 ^ 70 by decide) (Nat.pow_le_pow_right (by decide) (by decide)))]
  intro r r0 r1
  rw [q_add_ii]
  refine e_bounds (by omega) ?_
  rw [show ∀ Q : KB, boolM (.bool true) Q = Q true from fun Q => rfl]
  refine ⟨fun z => (by cases z), fun _ => ?_⟩
  rw [e__law_pull (by decide) (by decide)]
  intro r' r0' r1'
  rw [q_add_ii]
  obtain ⟨m, hm⟩ : ∃ m : Nat, 3 + r' = (m : Int) + 2 := ⟨(r' + 1).toNat, by omega⟩
  have m1 : 1 ≤ m := by omega
  have m6 : m ≤ 6 := by omega
  rw [hm]
  refine e_winit m1 m6 ?_
  have bl := begA_len (m := m) m6
  have bo := begA_ok (m := m) m6
  have b1 : ∀ q ∈ begA m, q.m.length = 1 := fun q hb1 => by
    obtain ⟨i, _, hb1⟩ := List.mem_flatMap.mp hb1
    obtain ⟨T', _, hb1⟩ := List.mem_flatMap.mp hb1
    obtain ⟨u', _, rfl⟩ := List.mem_map.mp hb1
    rfl
  rw [q_take (j := 0) (w := [] ++ [stgD (begA m) 1]) rfl rfl, e_left2]
  rw [show ∀ Q : KL, listM (.list (lfS (begA m))) Q = Q (lfS (begA m)) from fun Q => rfl]
  rw [e__law_pull (by decide) (by decide)]
  intro y y0 y1
  have cnt : ∀ Q : KD, (∀ c : Nat, c ≤ 14 → Q (.int c)) → ixM (.list [(.int 4), (.int 8), (.int 14)]) (.int y) Q := fun Q hQ => by
    have ey : y = 0 ∨ y = 1 ∨ y = 2 := by omega
    rcases ey with rfl | rfl | rfl
    · exact hQ 4 (by decide)
    · exact hQ 8 (by decide)
    · exact hQ 14 (by decide)
  refine cnt _ fun c c14 => ?_
  rw [q_rng]
  refine ⟨by omega, ?_⟩
  rw [range0, show ((c : Int)).toNat = c by omega]
  have last8 : ∀ KT : Prop, KT → (f_Watch__init (.int 8) (fun stages_45 => f_Watch__left stages_45 (fun r50 => lenM (.list r50) fun r51 => f_Watch__init (.int 8) (fun stages_52 => f_Watch__left stages_52 (fun r57 => lenM (.list r57) fun r58 => eqM r51 r58 fun b59 => (PyData.bool b59 = .bool true)) (fun _ => False)) (fun _ => False)) (fun _ => False)) (fun _ => False)) := fun _ _ => by
    rw [show (PyData.int 8) = .int (((6 : Nat) : Int) + 2) from rfl]
    refine e_winit (by decide) (by decide) ?_
    rw [e_left2, q_len_l]
    refine e_winit (by decide) (by decide) ?_
    rw [e_left2, q_len_l, q_eq_ii, decide_eq_true rfl]
  refine forM_inv (List.range c) (fun (i : Nat) => PyData.int i) (fun i (s : (List (List PyData)) × (List PyData)) => ∃ Ws : List (List ET), s = (Ws.map wS, Ws.map wD) ∧ GoodW i Ws) (fun i a ha s ⟨Ws0, es, hg0⟩ N hN => ?_) (fun s ⟨Ws0, es, hg0⟩ => ?_) _
    ⟨[[⟨begA m, 1⟩]], rfl, Nat.le_refl _, Nat.le_refl _, fun L hL => by
      rw [List.mem_singleton.mp hL]
      refine ⟨by simp, by show 1 ≤ 1 + 0; decide, fun e he => ?_⟩
      rw [List.mem_singleton.mp he]
      exact ⟨bo, bl, fun q hq => by rw [b1 q hq]; decide, by show 1 ≤ 1 + 0; decide⟩⟩
  rotate_left
  · subst es
    exact last8 True trivial
  subst es
  obtain ⟨hi, ea⟩ := List.getElem?_eq_some_iff.mp ha
  rw [List.length_range] at hi
  rw [List.getElem_range] at ea
  subst ea
  dsimp only
  -- behind the twin
  have behind : ∀ Ws : List (List ET), 1 ≤ Ws.length → Ws.length ≤ 1 + (i + 1) → (∀ L ∈ Ws, L ≠ [] ∧ L.length ≤ 1 + i ∧ ∀ e ∈ L, e.Ok i) → (
f__law_pull (.int ((Ws.map wS).length : Nat)) (fun r105 =>
  takeM (Ws.map wS) r105 fun j106 w107 =>
  nestRow (.list (Ws.map wD)) r105 fun l116 =>
  ixM (.list l116) (.int (-1)) fun r117 =>
  ixM r117 (.int 1) fun r118 =>
  f__law_pull (.int 6) (fun r119 =>
  ixM (.list [(.str "even"), (.str "odd"), (.str "even"), (.str "odd"), (.str ""), (.str "Odd")]) r119 fun r120 =>
  addM r118 (.int 1) fun r121 =>
  f__law_pull r121 (fun r122 =>
  f__law_odd r118 (fun r123 =>
  f__law_pull (.int 3) (fun r124 =>
  divM r124 (.int 2) fun r125 =>
  ixM (.list [r122, r123]) r125 fun r126 =>
  f__law_pull (.int 3) (fun r127 =>
  ixM (.list [(.str "went"), (.str "stuck"), (.str "over")]) r127 fun r128 =>
  joinM (fun (Q : PyData → Prop) => TL.andM (fun Q => neM r128 (.str "stuck") fun b130 =>
  Q b130) (fun Q => TL.andM (fun Q => leM (.int 0) r126 Q) (fun Q => leM r126 r118 Q) fun b131 =>
  Q (!b131)) fun b129 =>
  (b129 = true → (Q (.str "BadNumber"))) ∧ (b129 = false → (Q PyData.none))) (fun l_due136 =>
  joinM (fun (Q : PyData → Prop) => TL.andM (fun Q => neM r128 (.str "over") fun b138 =>
  Q b138) (fun Q => inM r120 (.tuple [(.str ""), (.str "Odd")]) fun b139 =>
  Q b139) fun b137 =>
  (b137 = true → (Q (.str "BadWay"))) ∧ (b137 = false → (Q l_due136))) (fun l_due143 =>
  f__law_pull (.int 3) (fun r144 =>
  eqM r144 (.int 0) fun b145 =>
  (b145 = true → (nestRow (.list (Ws.map wD)) r105 fun l149 =>
  lenM (.list l149) fun r150 =>
  gtM r150 (.int 1) fun b151 =>
  (b151 = true → (nestRow (.list (Ws.map wD)) r105 fun l159 =>
  popM l159 fun l160 y161 =>
  nestSetL (fun _ => l160) (Ws.map wD) r105 fun r155 =>
  f_Watch__back w107 (fun r163 stages_168 =>
  ((!isNone r163) = true → ((PyData.bool false = PyData.bool true))) ∧ ((!isNone r163) = false → (rngM (.int 0) (.int (((Ws.map wS).set j106 stages_168).length : Nat)) fun xs175 =>
  TL.forM (fun l_one177 (_ : Unit) N178 B179 => takeM ((Ws.map wS).set j106 stages_168) l_one177 fun j181 w182 =>
  f_Watch__left w182 (fun r185 =>
  takeM ((Ws.map wS).set j106 stages_168) l_one177 fun j186 w187 =>
  f_Watch__met w187 (fun r190 =>
  nestRow (.list r155) l_one177 fun l191 =>
  ixM (.list l191) (.int (-1)) fun r192 =>
  listM r192 fun l193 =>
  f__law_alike (.list [(.list r185), r190]) (.list l193) (fun r194 =>
  boolM r194 fun b195 =>
  ((!b195) = true → ((PyData.bool false = PyData.bool true))) ∧ ((!b195) = false → (N178 ()))) (fun _ => False)) (fun _ => False)) (fun _ => False)) (fun (_ : Unit) =>
  N (((Ws.map wS).set j106 stages_168), r155)) xs175 ()))) (fun _ => False))) ∧ (b151 = false → (f__law_no_back w107 (fun r199 stages_204 =>
  neM r199 (.str "NoBack") fun b205 =>
  (b205 = true → ((PyData.bool false = PyData.bool true))) ∧ (b205 = false → (rngM (.int 0) (.int (((Ws.map wS).set j106 stages_204).length : Nat)) fun xs212 =>
  TL.forM (fun l_one214 (_ : Unit) N215 B216 => takeM ((Ws.map wS).set j106 stages_204) l_one214 fun j218 w219 =>
  f_Watch__left w219 (fun r222 =>
  takeM ((Ws.map wS).set j106 stages_204) l_one214 fun j223 w224 =>
  f_Watch__met w224 (fun r227 =>
  nestRow (.list (Ws.map wD)) l_one214 fun l228 =>
  ixM (.list l228) (.int (-1)) fun r229 =>
  listM r229 fun l230 =>
  f__law_alike (.list [(.list r222), r227]) (.list l230) (fun r231 =>
  boolM r231 fun b232 =>
  ((!b232) = true → ((PyData.bool false = PyData.bool true))) ∧ ((!b232) = false → (N215 ()))) (fun _ => False)) (fun _ => False)) (fun _ => False)) (fun (_ : Unit) =>
  N (((Ws.map wS).set j106 stages_204), (Ws.map wD))) xs212 ()))) (fun _ => False))))) ∧ (b145 = false → (f__law_watch_do w107 (.tuple [r128, r120, r126]) (fun r236 stages_241 =>
  neM r236 l_due143 fun b242 =>
  (b242 = true → ((PyData.bool false = PyData.bool true))) ∧ (b242 = false → (((isNone l_due143) = true → (nestRow (.list (Ws.map wD)) r105 fun l253 =>
  f_Watch__left stages_241 (fun r254 =>
  listM (.list r254) fun l255 =>
  TL.ifM (fun Q => eqM r128 (.str "stuck") fun b257 =>
  Q b257) (fun Q => Q r118) (fun Q => addM r126 (.int 1) fun r258 =>
  max2M r118 r258 fun r259 =>
  Q r259) fun r256 =>
  l253.length < sizeLine ∧ nestSetL (fun l => l ++ [(.tuple [(.list l255), r256])]) (Ws.map wD) r105 fun r249 =>
  rngM (.int 0) (.int (((Ws.map wS).set j106 stages_241).length : Nat)) fun xs264 =>
  TL.forM (fun l_one266 (_ : Unit) N267 B268 => takeM ((Ws.map wS).set j106 stages_241) l_one266 fun j270 w271 =>
  f_Watch__left w271 (fun r274 =>
  takeM ((Ws.map wS).set j106 stages_241) l_one266 fun j275 w276 =>
  f_Watch__met w276 (fun r279 =>
  nestRow (.list r249) l_one266 fun l280 =>
  ixM (.list l280) (.int (-1)) fun r281 =>
  listM r281 fun l282 =>
  f__law_alike (.list [(.list r274), r279]) (.list l282) (fun r283 =>
  boolM r283 fun b284 =>
  ((!b284) = true → ((PyData.bool false = PyData.bool true))) ∧ ((!b284) = false → (N267 ()))) (fun _ => False)) (fun _ => False)) (fun _ => False)) (fun (_ : Unit) =>
  N (((Ws.map wS).set j106 stages_241), r249)) xs264 ()) (fun _ => False))) ∧ ((isNone l_due143) = false → (rngM (.int 0) (.int (((Ws.map wS).set j106 stages_241).length : Nat)) fun xs291 =>
  TL.forM (fun l_one293 (_ : Unit) N294 B295 => takeM ((Ws.map wS).set j106 stages_241) l_one293 fun j297 w298 =>
  f_Watch__left w298 (fun r301 =>
  takeM ((Ws.map wS).set j106 stages_241) l_one293 fun j302 w303 =>
  f_Watch__met w303 (fun r306 =>
  nestRow (.list (Ws.map wD)) l_one293 fun l307 =>
  ixM (.list l307) (.int (-1)) fun r308 =>
  listM r308 fun l309 =>
  f__law_alike (.list [(.list r301), r306]) (.list l309) (fun r310 =>
  boolM r310 fun b311 =>
  ((!b311) = true → ((PyData.bool false = PyData.bool true))) ∧ ((!b311) = false → (N294 ()))) (fun _ => False)) (fun _ => False)) (fun _ => False)) (fun (_ : Unit) =>
  N (((Ws.map wS).set j106 stages_241), (Ws.map wD))) xs291 ()))))) (fun _ => False)))) (fun _ => False)))) (fun _ => False)) (fun _ => False)) (fun _ => False)) (fun _ => False)) (fun _ => False)) (fun _ => False)) := fun Ws g1 g2 g3 => by
    have gW : GoodW (i + 1) Ws := ⟨g1, g2, fun L hL => ⟨(g3 L hL).1, by have := (g3 L hL).2.1; omega, fun e he => ((g3 L hL).2.2 e he).up⟩⟩
    rw [List.length_map, e__law_pull (by omega) (by omega)]
    intro x x0 x1
    obtain ⟨j, rfl⟩ : ∃ j : Nat, x = j := ⟨x.toNat, by omega⟩
    have hj : j < Ws.length := by omega
    have hL := g3 Ws[j] (List.getElem_mem hj)
    have hLl := hL.2.1
    obtain ⟨L0, e, eL, hx⟩ := last_map (f := etD) hL.1
    have eo := hL.2.2 e (by rw [eL]; exact List.mem_append_right _ (List.mem_singleton.mpr rfl))
    have eLS : L0.map etS ++ [stgD e.R e.k] = wS Ws[j] := by
      rw [eL]; unfold wS; rw [List.map_append]; rfl
    have hSl : (L0.map etS).length ≤ 1000 := by
      have : Ws[j].length = L0.length + 1 := by rw [eL, List.length_append]; rfl
      rw [List.length_map]; omega
    have tk : ∀ Q : Nat → List PyData → Prop, takeM (Ws.map wS) (.int j) Q = Q j (L0.map etS ++ [stgD e.R e.k]) := fun Q => by
      rw [q_take (j := j) (w := wS Ws[j]) (by rw [List.length_map]; exact ixN_nat hj) (by rw [List.getElem?_map, List.getElem?_eq_getElem hj]; rfl), eLS]
    have nr : ∀ Q : KL, nestRow (.list (Ws.map wD)) (.int j) Q = Q (Ws[j].map etD) := fun Q => by
      rw [q_nestRow (l := Ws[j].map etD) (by
        rw [at_nat (by omega) (show (Ws.map wD)[(j : Int).toNat]? = some (wD Ws[j]) by rw [Int.toNat_natCast, List.getElem?_map, List.getElem?_eq_getElem hj]; rfl)]; rfl)]
    have ns : ∀ (f : List PyData → List PyData) (Q : List PyData → Prop), nestSetL f (Ws.map wD) (.int j) Q = Q ((Ws.map wD).set j (.list (f (Ws[j].map etD)))) := fun f Q =>
      q_nestSetL (by rw [List.length_map]; exact ixN_nat hj) (by rw [List.getElem?_map, List.getElem?_eq_getElem hj]; rfl)
    have same : Ws.set j Ws[j] = Ws := List.set_getElem_self hj
    have sameS : (Ws.map wS).set j (L0.map etS ++ [stgD e.R e.k]) = Ws.map wS := by
      rw [eLS]
      show (Ws.map wS).set j (Ws[j].map etS) = _
      rw [e_set, same]
    have fin : ∀ Ws2 : List (List ET), GoodW (i + 1) Ws2 → N (Ws2.map wS, Ws2.map wD) := fun Ws2 hg2 => hN _ ⟨Ws2, rfl, hg2⟩
    have goodp : ∀ L : List ET, L ≠ [] → L.length ≤ 1 + (i + 1) → (∀ e ∈ L, e.Ok (i + 1)) → GoodW (i + 1) (Ws.set j L) := fun L h1 h2 h3 => by
      refine ⟨by rw [List.length_set]; exact g1, by rw [List.length_set]; exact g2, fun M hM => ?_⟩
      rcases List.mem_or_eq_of_mem_set hM with z | rfl
      · exact gW.2.2 M z
      · exact ⟨h1, h2, h3⟩
    rw [tk, nr, hx]
    rw [show ∀ Q : KD, ixM (etD e) (.int 1) Q = Q (.int e.k) from fun Q => rfl]
    rw [e__law_pull (by decide) (by decide)]
    intro a2 a20 a21
    have ways : ∀ Q : KD, (∀ way : Str, ((∃ ev, way = wayS ev) ∨ way = "" ∨ way = "Odd") → Q (.str way)) → ixM (.list [(.str "even"), (.str "odd"), (.str "even"), (.str "odd"), (.str ""), (.str "Odd")]) (.int a2) Q := fun Q hQ => by
      have er : a2 = 0 ∨ a2 = 1 ∨ a2 = 2 ∨ a2 = 3 ∨ a2 = 4 ∨ a2 = 5 := by omega
      rcases er with rfl | rfl | rfl | rfl | rfl | rfl
      · exact hQ _ (.inl ⟨true, rfl⟩)
      · exact hQ _ (.inl ⟨false, rfl⟩)
      · exact hQ _ (.inl ⟨true, rfl⟩)
      · exact hQ _ (.inl ⟨false, rfl⟩)
      · exact hQ _ (.inr (.inl rfl))
      · exact hQ _ (.inr (.inr rfl))
    refine ways _ fun way hway => ?_
    have hek := eo.hk
    rw [q_add_ii, e__law_pull (by omega) (by omega)]
    intro a3 a30 a31
    refine i__law_odd fun a4 => ?_
    rw [e__law_pull (by decide) (by decide)]
    intro a5 a50 a51
    rw [q_div]
    refine ⟨cdiv_small _ (by decide) (by decide), ?_⟩
    have faces : ∀ Q : KD, (∀ face : Int, Q (.int face)) → ixM (.list [.int a3, .int a4]) (.int (a5 / 2)) Q := fun Q hQ => by
      have er : a5 / 2 = 0 ∨ a5 / 2 = 1 := by omega
      rcases er with er | er
      · rw [er]; exact hQ a3
      · rw [er]; exact hQ a4
    refine faces _ fun face => ?_
    rw [e__law_pull (by decide) (by decide)]
    intro a6 a60 a61
    obtain ⟨w, rfl⟩ : ∃ w : Nat, a6 = w := ⟨a6.toNat, by omega⟩
    have hw : w < 3 := by omega
    have words : ∀ Q : KD, Q (.str (wrd w)) → ixM (.list [(.str "went"), (.str "stuck"), (.str "over")]) (.int w) Q := fun Q hQ => by
      have er : w = 0 ∨ w = 1 ∨ w = 2 := by omega
      rcases er with rfl | rfl | rfl <;> exact hQ
    refine words _ ?_
    have ws1 : decide (wrd w = "stuck") = decide (w = 1) := by
      have er : w = 0 ∨ w = 1 ∨ w = 2 := by omega
      rcases er with rfl | rfl | rfl <;> decide
    have ws2 : decide (wrd w = "over") = decide (w = 2) := by
      have er : w = 0 ∨ w = 1 ∨ w = 2 := by omega
      rcases er with rfl | rfl | rfl <;> decide
    have bwy : ∀ Q : KB, inM (.str way) (.tuple [(.str ""), (.str "Odd")]) Q = Q (decide (way = "" ∨ way = "Odd")) := fun Q => by
      rcases hway with ⟨ev, rfl⟩ | rfl | rfl
      · cases ev <;> rfl
      · rfl
      · rfl
    have d1 : ∀ Kd : KD, (joinM (fun (Q : PyData → Prop) => TL.andM (fun Q => neM (.str (wrd w)) (.str "stuck") fun b130 =>
  Q b130) (fun Q => TL.andM (fun Q => leM (.int 0) (.int face) Q) (fun Q => leM (.int face) (.int e.k) Q) fun b131 =>
  Q (!b131)) fun b129 =>
  (b129 = true → (Q (.str "BadNumber"))) ∧ (b129 = false → (Q PyData.none))) Kd) = Kd (if w ≠ 1 ∧ ¬ (0 ≤ face ∧ face ≤ e.k) then .str "BadNumber" else .none) := fun Kd => by
      unfold joinM
      dsimp only
      rw [and_b (b1 := !decide (w = 1)) (b2 := !(decide (0 ≤ face) && decide (face ≤ e.k))) (fun Q => ?_) (fun _ Q => ?_)]
      · by_cases c1 : w = 1
        · rw [if_neg (fun z => z.1 c1)]
          simp [c1]
        · by_cases c2 : 0 ≤ face ∧ face ≤ e.k
          · rw [if_neg (fun z => z.2 c2)]
            simp [c2.1, c2.2]
          · rw [if_pos ⟨c1, c2⟩]
            have : (decide (0 ≤ face) && decide (face ≤ e.k)) = false := by
              by_cases c3 : 0 ≤ face
              · have c4 : ¬ face ≤ e.k := fun z => c2 ⟨c3, z⟩
                simp [c4]
              · simp [c3]
            simp [c1, this]
      · rw [q_ne_ss, ws1]
      · rw [and_b (b1 := decide (0 ≤ face)) (b2 := decide (face ≤ e.k)) (fun Q => ?_) (fun _ Q => ?_)]
        · rw [q_le]
        · rw [q_le]
    have d2 : ∀ (D1 : PyData) (Kd : KD), (joinM (fun (Q : PyData → Prop) => TL.andM (fun Q => neM (.str (wrd w)) (.str "over") fun b138 =>
  Q b138) (fun Q => inM (.str way) (.tuple [(.str ""), (.str "Odd")]) fun b139 =>
  Q b139) fun b137 =>
  (b137 = true → (Q (.str "BadWay"))) ∧ (b137 = false → (Q D1))) Kd) = Kd (if w ≠ 2 ∧ (way = "" ∨ way = "Odd") then .str "BadWay" else D1) := fun D1 Kd => by
      unfold joinM
      dsimp only
      rw [and_b (b1 := !decide (w = 2)) (b2 := decide (way = "" ∨ way = "Odd")) (fun Q => ?_) (fun _ Q => ?_)]
      · by_cases c1 : w = 2
        · rw [if_neg (fun z => z.1 c1)]
          simp [c1]
        · by_cases c2 : way = "" ∨ way = "Odd"
          · rw [if_pos ⟨c1, c2⟩]
            rw [decide_eq_true c2]
            simp [c1]
          · rw [if_neg (fun z => c2 z.2)]
            rw [decide_eq_false c2]
            simp [c1]
      · rw [q_ne_ss, ws2]
      · rw [bwy]
    rw [d1, d2]
    rw [e__law_pull (by decide) (by decide)]
    intro a7 a70 a71
    rw [q_eq_ii]
    refine ⟨fun _ => ?_, fun _ => ?_⟩
    · rw [nr, q_len_l, List.length_map, q_gt]
      by_cases cl : 1 < Ws[j].length
      · rw [decide_eq_true (by omega)]
        refine ⟨fun _ => ?_, fun z => (by cases z)⟩
        rw [nr, eL, List.map_append, List.map_singleton, q_pop, ns]
        have l0 : 1 ≤ L0.length := by
          rw [eL, List.length_append, List.length_singleton] at cl; omega
        refine e_back (by rw [List.length_map]; exact l0) ⟨fun z => (by cases z), fun _ => ?_⟩
        rw [e_set, e_setD]
        have gp := goodp L0 (fun z => by rw [z] at l0; exact absurd l0 (by decide)) (by rw [eL, List.length_append, List.length_singleton] at hLl; omega) fun e' he' => (hL.2.2 e' (by rw [eL]; exact List.mem_append_left _ he')).up
        exact e_rest (by omega) gp (fin _ gp)
      · rw [decide_eq_false (by omega)]
        refine ⟨fun z => (by cases z), fun _ => ?_⟩
        have l0 : L0 = [] := by
          rw [eL, List.length_append, List.length_singleton] at cl
          exact List.eq_nil_of_length_eq_zero (by omega)
        rw [l0] at sameS ⊢
        refine e_noback ?_
        rw [q_ne_ss, decide_eq_true rfl]
        refine ⟨fun z => (by cases z), fun _ => ?_⟩
        rw [show ([stgD e.R e.k] : List PyData) = ([] : List ET).map etS ++ [stgD e.R e.k] from rfl, sameS]
        exact e_rest (by omega) gW (fin _ gW)
    · refine e_do eo.len hSl eo.ok (i := i) (by omega) eo.mm hw hway (fun c1 c2 => ?_) (fun c1 c2 c3 => ?_) (fun c1 c2 R' k1 k2 k3 => ?_)
      · rw [if_pos ⟨c1, c2⟩, q_ne_ss, decide_eq_true rfl]
        refine ⟨fun z => (by cases z), fun _ => ⟨fun z => (by cases z), fun _ => ?_⟩⟩
        rw [sameS]
        exact e_rest (by omega) gW (fin _ gW)
      · rw [if_neg c1, if_pos ⟨c2, fun z => by omega⟩, q_ne_ss, decide_eq_true rfl]
        refine ⟨fun z => (by cases z), fun _ => ⟨fun z => (by cases z), fun _ => ?_⟩⟩
        rw [sameS]
        exact e_rest (by omega) gW (fin _ gW)
      · rw [if_neg c1, if_neg (fun z => c2.elim (fun y => z.1 y) fun y => z.2 y)]
        rw [show ∀ Q : KB, neM .none .none Q = (SeqAt.shaped .none = true ∧ SeqAt.shaped .none = true ∧ Q (!PyData.eqv .none .none)) from fun Q => rfl]
        refine ⟨rfl, rfl, fun z => (by cases z), fun _ => ⟨fun _ => ?_, fun z => (by cases z)⟩⟩
        have mx : ∀ Kd : KD, (TL.ifM (fun Q => eqM (.str (wrd w)) (.str "stuck") fun b257 =>
  Q b257) (fun Q => Q (.int e.k)) (fun Q => addM (.int face) (.int 1) fun r258 =>
  max2M (.int e.k) r258 fun r259 =>
  Q r259) Kd) = Kd (.int (if w = 1 then e.k else max e.k (face.toNat + 1) : Nat)) := fun Kd => by
          unfold TL.ifM
          dsimp only
          rw [q_eq_ss, ws1]
          by_cases c3 : w = 1
          · rw [decide_eq_true c3, if_pos c3]
            exact propext ⟨fun z => z.1 rfl, fun z => ⟨fun _ => z, fun q => (by cases q)⟩⟩
          · rw [decide_eq_false c3, if_neg c3, q_add_ii]
            have c4 := c2.resolve_left c3
            have e1 : ∀ Q : KD, max2M (.int e.k) (.int (face + 1)) Q = Q (.int (max e.k (face.toNat + 1) : Nat)) := fun Q => by
              show Q (.int (if face + 1 > (e.k : Int) then face + 1 else e.k)) = _
              congr 2
              by_cases c5 : face + 1 > (e.k : Int)
              · rw [if_pos c5]; omega
              · rw [if_neg c5]; omega
            rw [e1]
            exact propext ⟨fun z => z.2 rfl, fun z => ⟨fun q => (by cases q), fun _ => z⟩⟩
        rw [nr, e_left2, show ∀ Q : KL, listM (.list (lfS R')) Q = Q (lfS R') from fun Q => rfl, mx, ns]
        refine ⟨by rw [List.length_map]; omega, ?_⟩
        have eS : L0.map etS ++ [stgD e.R e.k] ++ [stgD R' (if w = 1 then e.k else max e.k (face.toNat + 1))] = (Ws[j] ++ [(ET.mk R' (if w = 1 then e.k else max e.k (face.toNat + 1)))]).map etS := by
          rw [eLS, List.map_append]; rfl
        have eD : Ws[j].map etD ++ [.tuple [.list (lfS R'), .int (if w = 1 then e.k else max e.k (face.toNat + 1) : Nat)]] = (Ws[j] ++ [(ET.mk R' (if w = 1 then e.k else max e.k (face.toNat + 1)))]).map etD := by
          rw [List.map_append]; rfl
        rw [eS, eD, e_set, e_setD]
        have gp := goodp (Ws[j] ++ [(ET.mk R' (if w = 1 then e.k else max e.k (face.toNat + 1)))]) (by simp) (by rw [List.length_append, List.length_singleton]; omega) fun e' he' => by
          rcases List.mem_append.mp he' with z | z
          · exact (hL.2.2 e' z).up
          · rw [List.mem_singleton.mp z]
            refine ⟨k1, k2, k3, ?_⟩
            show (if w = 1 then e.k else max e.k (face.toNat + 1)) ≤ _
            by_cases c3 : w = 1
            · rw [if_pos c3]; omega
            · rw [if_neg c3]
              have c4 := c2.resolve_left c3
              omega
        exact e_rest (by omega) gp (fin _ gp)
  obtain ⟨g1, g2, g3⟩ := hg0
  unfold joinM at behind ⊢
  dsimp only at behind ⊢
  rw [q_eq_ii]
  refine ⟨fun _ => ?_, fun _ => ?_⟩
  · have hj : 0 < Ws0.length := g1
    have hL := g3 Ws0[0] (List.getElem_mem hj)
    rw [show (PyData.int 0) = .int ((0 : Nat) : Int) from rfl, q_take (j := 0) (w := wS Ws0[0]) (by rw [List.length_map]; exact ixN_nat hj) (by rw [List.getElem?_map, List.getElem?_eq_getElem hj]; rfl)]
    refine e_twin ⟨by rw [List.length_map]; omega, ?_⟩
    rw [q_nestRow (l := Ws0[0].map etD) (by
      rw [at_nat (by omega) (show (Ws0.map wD)[((0 : Nat) : Int).toNat]? = some (wD Ws0[0]) by rw [Int.toNat_natCast, List.getElem?_map, List.getElem?_eq_getElem hj]; rfl)]; rfl)]
    rw [show ∀ Q : KL, listM (.list (Ws0[0].map etD)) Q = Q (Ws0[0].map etD) from fun Q => rfl]
    refine ⟨by rw [List.length_map]; omega, ?_⟩
    rw [show Ws0.map wS ++ [wS Ws0[0]] = (Ws0 ++ [Ws0[0]]).map wS by rw [List.map_append]; rfl, show Ws0.map wD ++ [.list (Ws0[0].map etD)] = (Ws0 ++ [Ws0[0]]).map wD by rw [List.map_append]; rfl]
    exact behind (Ws0 ++ [Ws0[0]]) (by rw [List.length_append]; omega) (by rw [List.length_append, List.length_singleton]; omega) fun L hM => by
      rcases List.mem_append.mp hM with z | z
      · exact g3 L z
      · rw [List.mem_singleton.mp z]; exact hL
  · exact behind Ws0 g1 (by omega) g3
end Tx
namespace Tx
open PySem PySem.Spec PyProof.Rows L2 TL
section
variable {P : Program} {w : World} {K : PySem.W.Frag} {mg : Str → Option Value} {base : Heap} {f : Addr} {fd : FuncData} {k : Nat}
abbrev FnP (K : PySem.W.Frag) (x : Str) (st : Stmt) (f : Addr) (fd : FuncData) : Prop := FunD K x x (defArgs st) (defBody st) (defScope st) [] [] f fd
abbrev FnPM (K : PySem.W.Frag) (m x : Str) (st : Stmt) (f : Addr) (fd : FuncData) : Prop := FunD K m x (defArgs st) (defBody st) (defScope st) [] [] f fd
theorem ok_o__law_bag (F : FnP K "_law_bag" s__law_bag f fd) (hm : mg "_law_bag" = some (.ref f)) (hb : Binds K fd ["_law_script"] []) (m_len : mg "len" = none) (m_abs : mg "abs" = none) (m_int : mg "int" = none) :
    Has P w K mg base (k + 1) "_law_bag" ["_law_script"] o__law_bag := by
  refine fn_has F hm sc__law_bag hb rfl ?_
  rintro cdv A outer s H E g args Φ Ψ hr hp hM hl ⟨ns, rfl, hn, hΦ⟩
  have hcut : cut (ns.map PyData.int) none (some 63) = ns.map .int := cut_le _ _ (by decide) (by simp; omega)
  refine ws_cons (w1_setLc 1 (own := [("_law_one", 2)]) rfl sc__law_bag.nd (pi_list (peI _)) (blkOk_by (by rfl)) (fun _ _ _ _ _ => (pg_name (i := 2) sc__law_bag.nd rfl (by first | exact Or.inl rfl | exact Or.inr rfl))) (by decide) (nt_lcL (tgd_name 2) rfl ?_))
  refine we_of_wn ?_
  refine wn_sliceL ?_
  refine we_n 0 ?_
  refine ⟨_, rfl, ?_⟩
  refine wp_none ?_
  refine wp_e ?_
  refine we_int ?_
  refine ⟨_, rfl, ?_⟩
  refine ⟨rfl, _, fun i acc => acc = (ns.take i).map fun c => .int (absI c), rfl, rfl, fun i x hx => ⟨_, rfl, rfl, ?_⟩, fun acc ha => ?_⟩
  · intro acc ha g1 s1 H1 C1 cl1 fp1
    rw [hcut] at hx
    obtain ⟨n, rfl, hn2⟩ := ints_get hx
    refine ⟨fun _ s1 H1 C1 cl1 fp1 => ?_, fun z => by cases z⟩
    refine we_abs m_abs ?_
    refine we_n 2 ?_
    refine ⟨_, rfl, ?_⟩
    refine ⟨rfl, ?_⟩
    subst ha
    exact tk_succ (fun c => .int (absI c)) hn2
  · subst ha
    rw [hcut, List.length_map, List.take_length]
    have em : (ns.map fun c => PyData.int (absI c)) = (ns.map absI).map .int := by simp
    rw [em]
    refine ws_cons (w1_set 3 sc__law_bag.nd ?_)
    refine we_add ?_
    refine we_int ?_
    refine we_len m_len ?_
    refine we_n 1 ?_
    refine .lst ?_
    refine .int ?_
    refine ⟨rfl, ?_⟩
    refine ws_cons (w1_forL hp rfl (pg_name (i := 2) sc__law_bag.nd rfl (by first | exact Or.inl rfl | exact Or.inr rfl)) (tgd_name 2) ?_)
    refine we_of_wn ?_
    refine wn_sliceL ?_
    refine we_n 0 ?_
    refine ⟨_, rfl, ?_⟩
    refine wp_none ?_
    refine wp_e ?_
    refine we_int ?_
    refine ⟨_, rfl, ?_⟩
    refine ⟨rfl, _, fun i e => ∃ (x : Sl) (t : Int), 0 ≤ t ∧ t < 2147483629 ∧ e = [.d (.list (ns.map .int)), .d (.list ((ns.map absI).map .int)), x, .d (.int t)], rfl, ⟨.un, _, ?_, ?_, rfl⟩, ?_, ?_⟩
    · omega
    · simp; omega
    · rintro i x hx _ ⟨x2, t, t0, t1, rfl⟩
      rw [hcut] at hx
      obtain ⟨n, rfl, hn2⟩ := ints_get hx
      refine ⟨_, rfl, rfl, ?_⟩
      refine ws_cons (w1_set 3 sc__law_bag.nd ?_)
      refine we_mod ?_
      refine we_add ?_
      refine we_add ?_
      refine we_mul ?_
      refine we_n 3 ?_
      refine we_int ?_
      refine ⟨?_, by unfold L2.CMul; omega⟩
      refine we_abs m_abs ?_
      refine we_n 2 ?_
      refine ⟨_, rfl, ?_⟩
      refine .int ?_
      refine we_mul ?_
      refine we_int ?_
      refine we_intof m_int ?_
      refine we_cp (op_ltA hr) ?_
      refine we_n 2 ?_
      refine we_int ?_
      refine ⟨_, cp_lt, ?_⟩
      refine .bool ?_
      refine ⟨?_, by unfold L2.CMul; omega⟩
      refine .int ?_
      refine we_int ?_
      refine ⟨?_, by decide⟩
      refine ⟨rfl, ?_⟩
      refine ws_nil ?_
      exact ⟨_, _, Int.emod_nonneg _ (by decide), Int.emod_lt_of_pos _ (by decide), rfl⟩
    · rintro _ ⟨x2, t, t0, t1, rfl⟩
      refine ws_cons (w1_retN ?_)
      refine wn_list ?_
      refine wa_d ?_
      refine we_n 1 ?_
      refine ⟨rfl, ?_⟩
      refine wa_d ?_
      refine we_int ?_
      refine ⟨rfl, ?_⟩
      refine wa_d ?_
      refine we_int ?_
      refine ⟨rfl, ?_⟩
      refine wa_d ?_
      refine we_n 3 ?_
      refine ⟨rfl, ?_⟩
      refine wa_nil ?_
      refine ⟨_, rfl, szOk rfl, ?_⟩
      refine ⟨_, hΦ _ ⟨ns.map absI, 0, 0, t, rfl, fun c hc => ?_, by decide, by decide, t0, t1⟩, trivial, rfl, rfl⟩
      obtain ⟨z, _, rfl⟩ := List.mem_map.mp hc
      exact absI_nn z
theorem ok_need_faces (F : FnP K "need_faces" s_need_faces f fd) (hm : mg "need_faces" = some (.ref f)) (hb : Binds K fd ["faces"] []) (g_LEAST : ∃ t, mg "LEAST" = some (.int 3 t)) (g_MOST : ∃ t, mg "MOST" = some (.int 40 t)) (x_BadFaces : ExK K mg "BadFaces") :
    Has P w K mg base (k + 1) "need_faces" ["faces"] c_need_faces := by
  refine fn_has F hm sc_need_faces hb rfl ?_
  rintro cdv A outer s H E g args Φ Ψ hr hp hM hl ⟨faces, Kf, Ef, rfl, h, hK, hE⟩
  unfold f_need_faces at h
  refine ws_env (env' := [.d faces]) rfl ?_
  refine ws_cons (w1_if ?_)
  refine wt_not ?_
  refine wt_ch (op_leA hr) (op_leA hr) ?_
  refine we_gint g_LEAST ?_
  refine we_n 0 ?_
  refine ch_sh2 h (fun Q h => le_sh h fun _ h => h) (fun Q h => ?_) fun b1 h => ?_
  · refine we_gint g_MOST ?_
    exact le_sh h fun _ h => h
  obtain ⟨h3, h4⟩ := h
  refine ⟨fun e5 => ?_, fun e5 => ?_⟩
  · replace h := h3 e5
    exact ws_cons (w1_raise rfl x_BadFaces ⟨_, hE _ h, rfl, rfl⟩)
  · replace h := h4 e5
    refine ws_nil ?_
    exact ws_nil ⟨_, hK _ h, rfl, rfl⟩
theorem ok_ways_row (F : FnP K "ways_row" s_ways_row f fd) (hm : mg "ways_row" = some (.ref f)) (hb : Binds K fd ["most"] []) (m_len : mg "len" = none) (m_sum : mg "sum" = none) (m_range : mg "range" = none) :
    Has P w K mg base (k + 1) "ways_row" ["most"] c_ways_row := by
  refine fn_has F hm sc_ways_row hb rfl ?_
  rintro cdv A outer s H E g args Φ Ψ hr hp hM hl ⟨most, Kf, Ef, rfl, h, hK, hE⟩
  unfold f_ways_row at h
  refine ws_env (env' := [.d most, .un, .un, .un]) rfl ?_
  refine ws_cons (w1_setN 1 sc_ways_row.nd ?_)
  refine wn_list ?_
  refine wa_d ?_
  refine we_int ?_
  refine ⟨rfl, ?_⟩
  refine wa_d ?_
  refine we_int ?_
  refine ⟨rfl, ?_⟩
  refine wa_nil ?_
  refine ⟨_, rfl, szOk rfl, ?_⟩
  intro a1 n_a1
  refine ws_env (env' := [.d most, .ol a1 [(.int 0), (.int 1)], .un, .un]) rfl ?_
  refine ws_cons (whileS h hp (fun (s : (List PyData)) (u : Sl × {a : Addr // a ∉ g.M}) => [.d most, .ol u.2.1 s, u.1, .un]) ((.un), ⟨a1, n_a1⟩) rfl ?_ ?_)
  · rintro row2 ⟨w3, ⟨a4, n_a4⟩⟩ h
    refine ws_env (env' := [.d most, .ol a4 row2, w3, .un]) rfl ?_
    exact ws_cons (w1_retO 1 rfl n_a4 ⟨_, hK _ h, trivial, rfl, rfl⟩)
  · rintro hend row7 ⟨w8, ⟨a9, n_a9⟩⟩ N5 h
    refine wt_cp (op_leA hr) ?_
    refine we_len m_len ?_
    refine we_nl 1 ?_
    refine len_sh h fun r10 h => ?_
    refine we_n 0 ?_
    refine le_sh h fun b11 h => ?_
    refine ⟨fun e12 => ?_, fun e12 => hend row7 ((w8), ⟨a9, n_a9⟩) (h.2 e12)⟩
    replace h := h.1 e12
    refine ws_env (env' := [.d most, .ol a9 row7, w8, .un]) rfl ?_
    refine ws_cons (w1_set 2 sc_ways_row.nd ?_)
    refine we_len m_len ?_
    refine we_nl 1 ?_
    refine len_sh h fun r13 h => ?_
    refine ⟨rfl, ?_⟩
    refine ws_env (env' := [.d most, .ol a9 row7, .d r13, .un]) rfl ?_
    refine ws_cons (w1_append 1 rfl ?_)
    refine we_sumA m_sum rfl ?_
    refine we_of_wn ?_
    refine wn_lc (own := [("first", 3)]) rfl sc_ways_row.nd (blkOk_by (by rfl)) (fun _ _ _ _ _ => (pg_name (i := 3) sc_ways_row.nd rfl (by first | exact Or.inl rfl | exact Or.inr rfl))) (tgd_name 3) (by decide) rfl ?_
    refine wi_r2 m_range ?_
    refine we_int ?_
    refine we_n 2 ?_
    refine rng_sh h fun xs14 h => ?_
    refine lcS h (fun first_15 kp sk h => ?_) fun l16 h => ?_
    · refine ⟨[(3, first_15)], rfl, rfl, fun g' s1 H1 C1 cl1 fp1 => ?_⟩
      refine ⟨fun _ s1 H1 C1 cl1 fp1 => ?_, fun z => by cases z⟩
      refine we_mulA ?_
      refine we_ix ?_
      refine we_nl 1 ?_
      refine we_n 3 ?_
      refine ix_sh h fun r17 h => ?_
      refine we_ix ?_
      refine we_nl 1 ?_
      refine we_sub ?_
      refine we_n 2 ?_
      refine we_n 3 ?_
      refine sub_sh h fun r18 h => ?_
      refine ix_sh h fun r19 h => ?_
      refine mul_sh h fun r20 h => ?_
      exact ⟨rfl, h⟩
    refine sum_m h fun r21 h => ?_
    obtain ⟨hl22, h⟩ := h
    refine ⟨rfl, hl22, ?_⟩
    refine ws_env (env' := [.d most, .ol a9 (row7 ++ ([r21] : List PyData)), .d r13, .un]) rfl ?_
    exact ws_nil ⟨(row7 ++ ([r21] : List PyData)), ((.d r13), ⟨a9, n_a9⟩), h, rfl⟩
theorem ok_how_many (F : FnP K "how_many" s_how_many f fd) (hm : mg "how_many" = some (.ref f)) (hb : Binds K fd ["faces"] []) (h_need_faces : Has P w K mg base k "need_faces" ["faces"] c_need_faces) (h_ways_row : Has P w K mg base k "ways_row" ["most"] c_ways_row) :
    Has P w K mg base (k + 1) "how_many" ["faces"] c_how_many := by
  refine fn_has F hm sc_how_many hb rfl ?_
  rintro cdv A outer s H E g args Φ Ψ hr hp hM hl ⟨faces, Kf, Ef, rfl, h, hK, hE⟩
  unfold f_how_many at h
  refine ws_env (env' := [.d faces]) rfl ?_
  refine ws_cons (w1_expr ?_)
  refine we_call h_need_faces hr ?_
  refine wa_d ?_
  refine we_n 0 ?_
  refine ⟨rfl, ?_⟩
  refine wa_nil ?_
  refine ⟨rfl, _, _, _, rfl, h, fun r1 h => ⟨rfl, _, rfl, ?_⟩, fun c hc => ⟨rfl, ⟨_, hE _ hc, rfl, rfl⟩⟩⟩
  refine ws_cons (w1_ret ?_)
  refine we_ix ?_
  refine we_call h_ways_row hr ?_
  refine wa_d ?_
  refine we_sub ?_
  refine we_n 0 ?_
  refine we_int ?_
  refine sub_sh h fun r2 h => ?_
  refine ⟨rfl, ?_⟩
  refine wa_nil ?_
  refine ⟨rfl, _, _, _, rfl, h, fun r3 h => ⟨rfl, _, rfl, ?_⟩, fun c hc => ⟨rfl, ⟨_, hE _ hc, rfl, rfl⟩⟩⟩
  refine we_sub ?_
  refine we_n 0 ?_
  refine we_int ?_
  refine sub_sh h fun r4 h => ?_
  refine ix_sh h fun r5 h => ?_
  exact ⟨rfl, _, hK _ h, trivial, rfl, rfl⟩
theorem ok_pair_of (F : FnP K "pair_of" s_pair_of f fd) (hm : mg "pair_of" = some (.ref f)) (hb : Binds K fd ["one", "other"] []) (m_min : mg "min" = none) (m_max : mg "max" = none) :
    Has P w K mg base (k + 1) "pair_of" ["one", "other"] c_pair_of := by
  refine fn_has F hm sc_pair_of hb rfl ?_
  rintro cdv A outer s H E g args Φ Ψ hr hp hM hl ⟨one, other, Kf, Ef, rfl, h, hK, hE⟩
  unfold f_pair_of at h
  refine ws_env (env' := [.d one, .d other]) rfl ?_
  refine ws_cons (w1_ret ?_)
  refine we_tuple ?_
  refine wa_d ?_
  refine we_min2A m_min rfl ?_
  refine we_n 0 ?_
  refine we_n 1 ?_
  refine min2_m h fun r1 h => ?_
  refine ⟨rfl, ?_⟩
  refine wa_d ?_
  refine we_max2A m_max rfl ?_
  refine we_n 0 ?_
  refine we_n 1 ?_
  refine max2_m h fun r2 h => ?_
  refine ⟨rfl, ?_⟩
  refine wa_nil ?_
  refine ⟨_, rfl, szOk rfl, ?_⟩
  exact ⟨rfl, _, hK _ h, trivial, rfl, rfl, rfl⟩
theorem ok_cut_by (F : FnP K "cut_by" s_cut_by f fd) (hm : mg "cut_by" = some (.ref f)) (hb : Binds K fd ["row", "start", "steps", "number"] [])  :
    ∀ n : Nat, Has P w K mg base (k + n + 1) "cut_by" ["row", "start", "steps", "number"] (c_cut_by n)
  | 0 => by
    refine fn_has F hm sc_cut_by hb rfl ?_
    rintro cdv A outer s H E g args Φ Ψ hr hp hM hl ⟨row, start, steps, number, Kf, Ef, rfl, h, hK, hE⟩
    exact (show False from h).elim
  | n + 1 => by
    have h_cut_by := ok_cut_by F hm hb  n
    refine fn_has F hm sc_cut_by hb rfl ?_
    rintro cdv A outer s H E g args Φ Ψ hr hp hM hl ⟨row, start, steps, number, Kf, Ef, rfl, h, hK, hE⟩
    have h : f_cut_by_s (f_cut_by n) row start steps number Kf Ef := h
    unfold f_cut_by_s at h
    refine ws_env (env' := [.d row, .d start, .d steps, .d number, .un, .un, .un]) rfl ?_
    refine ws_cons (w1_if ?_)
    refine wt_cp (op_eqA hr) ?_
    refine we_n 2 ?_
    refine we_int ?_
    refine eq_sh h fun b1 h => ?_
    obtain ⟨h2, h3⟩ := h
    refine ⟨fun e4 => ?_, fun e4 => ?_⟩
    · replace h := h2 e4
      refine ws_cons (w1_retN ?_)
      refine wn_list ?_
      refine wa_nil ?_
      refine ⟨_, rfl, szOk rfl, ?_⟩
      exact ⟨_, hK _ h, trivial, rfl, rfl, rfl, rfl, rfl⟩
    · replace h := h3 e4
      refine ws_nil ?_
      refine ws_cons (w1_set 4 sc_cut_by.nd ?_)
      refine we_int ?_
      refine ⟨rfl, ?_⟩
      refine ws_env (env' := [.d row, .d start, .d steps, .d number, .d (.int 1), .un, .un]) rfl ?_
      refine ws_cons (whileS h hp (fun (s : PyData × PyData) (u : Unit) => [.d row, .d start, .d steps, .d s.1, .d s.2, .un, .un]) () rfl ?_ ?_)
      · rintro ⟨number5, first_6⟩ _ h
        refine ws_env (env' := [.d row, .d start, .d steps, .d number5, .d first_6, .un, .un]) rfl ?_
        refine ws_cons (w1_set 5 sc_cut_by.nd ?_)
        refine we_ix ?_
        refine we_n 0 ?_
        refine we_sub ?_
        refine we_n 2 ?_
        refine we_n 4 ?_
        refine sub_sh h fun r7 h => ?_
        refine ix_sh h fun r8 h => ?_
        refine ⟨rfl, ?_⟩
        refine ws_env (env' := [.d row, .d start, .d steps, .d number5, .d first_6, .d r8, .un]) rfl ?_
        refine ws_cons (w1_setN 6 sc_cut_by.nd ?_)
        refine wn_addB ?_
        refine we_call h_cut_by hr ?_
        refine wa_d ?_
        refine we_n 0 ?_
        refine ⟨rfl, ?_⟩
        refine wa_d ?_
        refine we_n 1 ?_
        refine ⟨rfl, ?_⟩
        refine wa_d ?_
        refine we_n 4 ?_
        refine ⟨rfl, ?_⟩
        refine wa_d ?_
        refine we_div ?_
        refine we_n 3 ?_
        refine we_n 5 ?_
        refine div_sh h fun r9 h => ?_
        refine ⟨rfl, ?_⟩
        refine wa_nil ?_
        refine ⟨rfl, _, _, _, _, _, _, rfl, h, fun r10 h => ⟨rfl, _, rfl, ?_⟩, fun c hc => ⟨rfl, ⟨_, hE _ hc, rfl, rfl, rfl, rfl, rfl⟩⟩⟩
        refine we_call h_cut_by hr ?_
        refine wa_d ?_
        refine we_n 0 ?_
        refine ⟨rfl, ?_⟩
        refine wa_d ?_
        refine we_add ?_
        refine we_n 1 ?_
        refine we_n 4 ?_
        refine add_sh h fun r11 h => ?_
        refine ⟨rfl, ?_⟩
        refine wa_d ?_
        refine we_sub ?_
        refine we_n 2 ?_
        refine we_n 4 ?_
        refine sub_sh h fun r12 h => ?_
        refine ⟨rfl, ?_⟩
        refine wa_d ?_
        refine we_mod ?_
        refine we_n 3 ?_
        refine we_n 5 ?_
        refine mod_sh h fun r13 h => ?_
        refine ⟨rfl, ?_⟩
        refine wa_nil ?_
        refine ⟨rfl, _, _, _, _, _, _, rfl, h, fun r14 h => ⟨rfl, _, rfl, ?_⟩, fun c hc => ⟨rfl, ⟨_, hE _ hc, rfl, rfl, rfl, rfl, rfl⟩⟩⟩
        refine addL_m h fun l15 h => ?_
        intro a16 n_a16
        refine ws_env (env' := [.d row, .d start, .d steps, .d number5, .d first_6, .d r8, .ol a16 l15]) rfl ?_
        refine ws_joinS h (fun (s : (List PyData)) (u : {a : Addr // a ∉ g.M}) => [.d row, .d start, .d steps, .d number5, .d first_6, .d r8, .ol u.1 s]) (fun Q h => ?_) ?_
        · refine w1_if ?_
          refine wt_cp op_gt ?_
          refine we_n 4 ?_
          refine we_int ?_
          refine gt_sh h fun b17 h => ?_
          obtain ⟨h18, h19⟩ := h
          refine ⟨fun e20 => ?_, fun e20 => ?_⟩
          · replace h := h18 e20
            refine ws_cons (w1_append 6 rfl ?_)
            refine we_tuple ?_
            refine wa_d ?_
            refine we_n 1 ?_
            refine ⟨rfl, ?_⟩
            refine wa_d ?_
            refine we_add ?_
            refine we_n 1 ?_
            refine we_n 4 ?_
            refine add_sh h fun r21 h => ?_
            refine ⟨rfl, ?_⟩
            refine wa_nil ?_
            refine ⟨_, rfl, szOk rfl, ?_⟩
            obtain ⟨hl22, h⟩ := h
            refine ⟨rfl, hl22, ?_⟩
            refine ws_env (env' := [.d row, .d start, .d steps, .d number5, .d first_6, .d r8, .ol a16 (l15 ++ ([(.tuple [start, r21])] : List PyData))]) rfl ?_
            exact ws_nil ⟨(l15 ++ ([(.tuple [start, r21])] : List PyData)), ⟨a16, n_a16⟩, h, rfl⟩
          · replace h := h19 e20
            exact ws_nil ⟨l15, ⟨a16, n_a16⟩, h, rfl⟩
        · rintro found23 ⟨a24, n_a24⟩ h
          refine ws_env (env' := [.d row, .d start, .d steps, .d number5, .d first_6, .d r8, .ol a24 found23]) rfl ?_
          refine ws_joinS h (fun (s : (List PyData)) (u : {a : Addr // a ∉ g.M}) => [.d row, .d start, .d steps, .d number5, .d first_6, .d r8, .ol u.1 s]) (fun Q h => ?_) ?_
          · refine w1_if ?_
            refine wt_cp op_gt ?_
            refine we_sub ?_
            refine we_n 2 ?_
            refine we_n 4 ?_
            refine sub_sh h fun r25 h => ?_
            refine we_int ?_
            refine gt_sh h fun b26 h => ?_
            obtain ⟨h27, h28⟩ := h
            refine ⟨fun e29 => ?_, fun e29 => ?_⟩
            · replace h := h27 e29
              refine ws_cons (w1_append 6 rfl ?_)
              refine we_tuple ?_
              refine wa_d ?_
              refine we_add ?_
              refine we_n 1 ?_
              refine we_n 4 ?_
              refine add_sh h fun r30 h => ?_
              refine ⟨rfl, ?_⟩
              refine wa_d ?_
              refine we_add ?_
              refine we_n 1 ?_
              refine we_n 2 ?_
              refine add_sh h fun r31 h => ?_
              refine ⟨rfl, ?_⟩
              refine wa_nil ?_
              refine ⟨_, rfl, szOk rfl, ?_⟩
              obtain ⟨hl32, h⟩ := h
              refine ⟨rfl, hl32, ?_⟩
              refine ws_env (env' := [.d row, .d start, .d steps, .d number5, .d first_6, .d r8, .ol a24 (found23 ++ ([(.tuple [r30, r31])] : List PyData))]) rfl ?_
              exact ws_nil ⟨(found23 ++ ([(.tuple [r30, r31])] : List PyData)), ⟨a24, n_a24⟩, h, rfl⟩
            · replace h := h28 e29
              exact ws_nil ⟨found23, ⟨a24, n_a24⟩, h, rfl⟩
          · rintro found33 ⟨a34, n_a34⟩ h
            refine ws_env (env' := [.d row, .d start, .d steps, .d number5, .d first_6, .d r8, .ol a34 found33]) rfl ?_
            exact ws_cons (w1_retO 6 rfl n_a34 ⟨_, hK _ h, trivial, rfl, rfl, rfl, rfl, rfl⟩)
      · rintro hend ⟨number37, first_38⟩ _ N35 h
        refine wt_cp op_ge ?_
        refine we_n 3 ?_
        refine we_mulA ?_
        refine we_ix ?_
        refine we_n 0 ?_
        refine we_n 4 ?_
        refine ix_sh h fun r39 h => ?_
        refine we_ix ?_
        refine we_n 0 ?_
        refine we_sub ?_
        refine we_n 2 ?_
        refine we_n 4 ?_
        refine sub_sh h fun r40 h => ?_
        refine ix_sh h fun r41 h => ?_
        refine mul_sh h fun r42 h => ?_
        refine ge_sh h fun b43 h => ?_
        refine ⟨fun e44 => ?_, fun e44 => hend (number37, first_38) () (h.2 e44)⟩
        replace h := h.1 e44
        refine ws_env (env' := [.d row, .d start, .d steps, .d number37, .d first_38, .un, .un]) rfl ?_
        obtain ⟨u45, he47, h⟩ := into_ob h
        refine ws_env (env' := [.d row, .d start, .d steps, .d number37, .d first_38, .un, .un]) rfl ?_
        rw [he47]
        refine ws_cons (w1_sub 3 sc_cut_by.nd rfl ?_)
        refine we_mulA ?_
        refine we_ix ?_
        refine we_n 0 ?_
        refine we_n 4 ?_
        refine ix_sh h fun r48 h => ?_
        refine we_ix ?_
        refine we_n 0 ?_
        refine we_sub ?_
        refine we_n 2 ?_
        refine we_n 4 ?_
        refine sub_sh h fun r49 h => ?_
        refine ix_sh h fun r50 h => ?_
        refine mul_sh h fun r51 h => ?_
        refine into_sh h fun m46 h => ?_
        refine ws_env (env' := [.d row, .d start, .d steps, .d (.int (u45 - m46)), .d first_38, .un, .un]) rfl ?_
        obtain ⟨u52, he54, h⟩ := into_ob h
        refine ws_env (env' := [.d row, .d start, .d steps, .d (.int (u45 - m46)), .d first_38, .un, .un]) rfl ?_
        rw [he54]
        refine ws_cons (w1_add 4 sc_cut_by.nd rfl ?_)
        refine we_int ?_
        refine into_sh h fun m53 h => ?_
        refine ws_env (env' := [.d row, .d start, .d steps, .d (.int (u45 - m46)), .d (.int (u52 + m53)), .un, .un]) rfl ?_
        exact ws_nil ⟨((.int (u45 - m46)), (.int (u52 + m53))), (), h, rfl⟩
theorem ok_plan_numbered (F : FnP K "plan_numbered" s_plan_numbered f fd) (hm : mg "plan_numbered" = some (.ref f)) (hb : Binds K fd ["faces", "number"] []) (h_need_faces : Has P w K mg base k "need_faces" ["faces"] c_need_faces) (h_ways_row : Has P w K mg base k "ways_row" ["most"] c_ways_row) (x_BadNumber : ExK K mg "BadNumber") (h_cut_by : Has P w K mg base k "cut_by" ["row", "start", "steps", "number"] (c_cut_by 64)) (h_pair_of : Has P w K mg base k "pair_of" ["one", "other"] c_pair_of) (m_tuple : mg "tuple" = none) (m_sorted : mg "sorted" = none) :
    Has P w K mg base (k + 1) "plan_numbered" ["faces", "number"] c_plan_numbered := by
  refine fn_has F hm sc_plan_numbered hb rfl ?_
  rintro cdv A outer s H E g args Φ Ψ hr hp hM hl ⟨faces, number, Kf, Ef, rfl, h, hK, hE⟩
  unfold f_plan_numbered at h
  refine ws_env (env' := [.d faces, .d number, .un, .un, .un, .un]) rfl ?_
  refine ws_cons (w1_expr ?_)
  refine we_call h_need_faces hr ?_
  refine wa_d ?_
  refine we_n 0 ?_
  refine ⟨rfl, ?_⟩
  refine wa_nil ?_
  refine ⟨rfl, _, _, _, rfl, h, fun r1 h => ⟨rfl, _, rfl, ?_⟩, fun c hc => ⟨rfl, ⟨_, hE _ hc, rfl, rfl, rfl⟩⟩⟩
  refine ws_cons (w1_set 2 sc_plan_numbered.nd ?_)
  refine we_call h_ways_row hr ?_
  refine wa_d ?_
  refine we_sub ?_
  refine we_n 0 ?_
  refine we_int ?_
  refine sub_sh h fun r2 h => ?_
  refine ⟨rfl, ?_⟩
  refine wa_nil ?_
  refine ⟨rfl, _, _, _, rfl, h, fun r3 h => ⟨rfl, _, rfl, ?_⟩, fun c hc => ⟨rfl, ⟨_, hE _ hc, rfl, rfl, rfl⟩⟩⟩
  refine ⟨rfl, ?_⟩
  refine ws_env (env' := [.d faces, .d number, .d (.list r3), .un, .un, .un]) rfl ?_
  refine ws_cons (w1_if ?_)
  refine wt_not ?_
  refine wt_ch (op_leA hr) (op_ltA hr) ?_
  refine we_int ?_
  refine we_n 1 ?_
  refine ch_sh2 h (fun Q h => le_sh h fun _ h => h) (fun Q h => ?_) fun b4 h => ?_
  · refine we_ix ?_
    refine we_n 2 ?_
    refine we_sub ?_
    refine we_n 0 ?_
    refine we_int ?_
    refine sub_sh h fun r6 h => ?_
    refine ix_sh h fun r7 h => ?_
    exact lt_sh h fun _ h => h
  obtain ⟨h8, h9⟩ := h
  refine ⟨fun e10 => ?_, fun e10 => ?_⟩
  · replace h := h8 e10
    exact ws_cons (w1_raise rfl x_BadNumber ⟨_, hE _ h, rfl, rfl, rfl⟩)
  · replace h := h9 e10
    refine ws_nil ?_
    refine ws_cons (w1_setLc 3 (own := [("low", 4), ("high", 5)]) rfl sc_plan_numbered.nd piS (blkOk_by (by rfl)) (fun _ _ _ _ _ => (pg_tup rfl (pgs_cons (pg_name (i := 4) sc_plan_numbered.nd rfl (by first | exact Or.inl rfl | exact Or.inr rfl)) (pgs_cons (pg_name (i := 5) sc_plan_numbered.nd rfl (by first | exact Or.inl rfl | exact Or.inr rfl)) pgs_nil)))) (by decide) (nt_lc (tgd_tup (tgds_cons (tgd_name 4) (tgds_cons (tgd_name 5) tgds_nil)) rfl) rfl ?_))
    refine wi_d ?_
    refine we_call h_cut_by hr ?_
    refine wa_d ?_
    refine we_n 2 ?_
    refine ⟨rfl, ?_⟩
    refine wa_d ?_
    refine we_int ?_
    refine ⟨rfl, ?_⟩
    refine wa_d ?_
    refine we_sub ?_
    refine we_n 0 ?_
    refine we_int ?_
    refine sub_sh h fun r12 h => ?_
    refine ⟨rfl, ?_⟩
    refine wa_d ?_
    refine we_n 1 ?_
    refine ⟨rfl, ?_⟩
    refine wa_nil ?_
    refine ⟨rfl, _, _, _, _, _, _, rfl, h, fun r13 h => ⟨rfl, _, rfl, ?_⟩, fun c hc => ⟨rfl, ⟨_, hE _ hc, rfl, rfl, rfl⟩⟩⟩
    refine ⟨rfl, it_sh h fun xs11 h => ?_⟩
    refine lcS h (fun p14 kp sk h => ?_) fun l15 h => ?_
    · obtain ⟨low16, high17, he18, h⟩ := un2_sh h
      refine ⟨[(4, low16), (5, high17)], (by rw [he18]; rfl), rfl, fun g' s1 H1 C1 cl1 fp1 => ?_⟩
      refine ⟨fun _ s1 H1 C1 cl1 fp1 => ?_, fun z => by cases z⟩
      refine we_call h_pair_of hr ?_
      refine wa_d ?_
      refine we_n 4 ?_
      refine ⟨rfl, ?_⟩
      refine wa_d ?_
      refine we_mod ?_
      refine we_n 5 ?_
      refine we_n 0 ?_
      refine mod_sh h fun r19 h => ?_
      refine ⟨rfl, ?_⟩
      refine wa_nil ?_
      refine ⟨rfl, _, _, _, _, rfl, h, fun r20 h => ⟨rfl, _, rfl, ?_⟩, fun c hc => ⟨rfl, hc.elim⟩⟩
      exact ⟨rfl, h⟩
    refine ws_env (env' := [.d faces, .d number, .d (.list r3), .d (.list l15), .un, .un]) rfl ?_
    refine ws_cons (w1_ret ?_)
    refine we_tuple ?_
    refine wa_d ?_
    refine we_n 0 ?_
    refine ⟨rfl, ?_⟩
    refine wa_d ?_
    refine we_tupof m_tuple ?_
    refine we_of_wn ?_
    refine wn_sortedA m_sorted hr ?_
    refine we_n 3 ?_
    refine sort_m h fun l21 h => ?_
    refine tup_sh h fun r22 h => ?_
    refine ⟨rfl, ?_⟩
    refine wa_nil ?_
    refine ⟨_, rfl, szOk rfl, ?_⟩
    exact ⟨rfl, _, hK _ h, trivial, rfl, rfl, rfl⟩
theorem ok_follows (F : FnP K "follows" s_follows f fd) (hm : mg "follows" = some (.ref f)) (hb : Binds K fd ["faces", "face"] [])  :
    Has P w K mg base (k + 1) "follows" ["faces", "face"] c_follows := by
  refine fn_has F hm sc_follows hb rfl ?_
  rintro cdv A outer s H E g args Φ Ψ hr hp hM hl ⟨faces, face, Kf, Ef, rfl, h, hK, hE⟩
  unfold f_follows at h
  refine ws_env (env' := [.d faces, .d face]) rfl ?_
  refine ws_cons (w1_ret ?_)
  refine we_mod ?_
  refine we_add ?_
  refine we_n 1 ?_
  refine we_int ?_
  refine add_sh h fun r1 h => ?_
  refine we_n 0 ?_
  refine mod_sh h fun r2 h => ?_
  exact ⟨rfl, _, hK _ h, trivial, rfl, rfl, rfl⟩
theorem ok_all_lines (F : FnP K "all_lines" s_all_lines f fd) (hm : mg "all_lines" = some (.ref f)) (hb : Binds K fd ["plan"] []) (m_sorted : mg "sorted" = none) (m_range : mg "range" = none) (h_pair_of : Has P w K mg base k "pair_of" ["one", "other"] c_pair_of) (h_follows : Has P w K mg base k "follows" ["faces", "face"] c_follows) (m_list : mg "list" = none) :
    Has P w K mg base (k + 1) "all_lines" ["plan"] c_all_lines := by
  refine fn_has F hm sc_all_lines hb rfl ?_
  rintro cdv A outer s H E g args Φ Ψ hr hp hM hl ⟨plan, Kf, Ef, rfl, h, hK, hE⟩
  unfold f_all_lines at h
  refine ws_env (env' := [.d plan, .un, .un, .un]) rfl ?_
  refine ws_cons (w1_unpack (pg_tup rfl (pgs_cons (pg_name (i := 1) sc_all_lines.nd rfl (by first | exact Or.inl rfl | exact Or.inr rfl)) (pgs_cons (pg_name (i := 2) sc_all_lines.nd rfl (by first | exact Or.inl rfl | exact Or.inr rfl)) pgs_nil))) (tgd_tup (tgds_cons (tgd_name 1) (tgds_cons (tgd_name 2) tgds_nil)) rfl) ?_)
  refine we_n 0 ?_
  obtain ⟨faces1, cuts2, he3, h⟩ := un2_sh h
  refine ⟨rfl, [(1, faces1), (2, cuts2)], (by rw [he3]; rfl), rfl, ?_⟩
  refine ws_env (env' := [.d plan, .d faces1, .d cuts2, .un]) rfl ?_
  refine ws_cons (w1_retN ?_)
  refine wn_sortedA m_sorted hr ?_
  refine we_add ?_
  refine we_of_wn ?_
  refine wn_lc (own := [("face", 3)]) rfl sc_all_lines.nd (blkOk_by (by rfl)) (fun _ _ _ _ _ => (pg_name (i := 3) sc_all_lines.nd rfl (by first | exact Or.inl rfl | exact Or.inr rfl))) (tgd_name 3) (by decide) rfl ?_
  refine wi_r1 m_range ?_
  refine we_n 1 ?_
  refine rng_sh h fun xs4 h => ?_
  refine lcS h (fun face5 kp sk h => ?_) fun l6 h => ?_
  · refine ⟨[(3, face5)], rfl, rfl, fun g' s1 H1 C1 cl1 fp1 => ?_⟩
    refine ⟨fun _ s1 H1 C1 cl1 fp1 => ?_, fun z => by cases z⟩
    refine we_call h_pair_of hr ?_
    refine wa_d ?_
    refine we_n 3 ?_
    refine ⟨rfl, ?_⟩
    refine wa_d ?_
    refine we_call h_follows hr ?_
    refine wa_d ?_
    refine we_n 1 ?_
    refine ⟨rfl, ?_⟩
    refine wa_d ?_
    refine we_n 3 ?_
    refine ⟨rfl, ?_⟩
    refine wa_nil ?_
    refine ⟨rfl, _, _, _, _, rfl, h, fun r7 h => ⟨rfl, _, rfl, ?_⟩, fun c hc => ⟨rfl, hc.elim⟩⟩
    refine ⟨rfl, ?_⟩
    refine wa_nil ?_
    refine ⟨rfl, _, _, _, _, rfl, h, fun r8 h => ⟨rfl, _, rfl, ?_⟩, fun c hc => ⟨rfl, hc.elim⟩⟩
    exact ⟨rfl, h⟩
  refine we_of_wn ?_
  refine wn_listof m_list ?_
  refine we_n 2 ?_
  refine list_sh h fun l9 h => ?_
  refine add_sh h fun r10 h => ?_
  refine sort_m h fun l11 h => ?_
  exact ⟨_, hK _ h, trivial, rfl, rfl⟩
theorem ok_neighbours (F : FnP K "neighbours" s_neighbours f fd) (hm : mg "neighbours" = some (.ref f)) (hb : Binds K fd ["plan"] []) (m_range : mg "range" = none) (h_all_lines : Has P w K mg base k "all_lines" ["plan"] c_all_lines) (m_sorted : mg "sorted" = none) :
    Has P w K mg base (k + 1) "neighbours" ["plan"] c_neighbours := by
  refine fn_has F hm sc_neighbours hb rfl ?_
  rintro cdv A outer s H E g args Φ Ψ hr hp hM hl ⟨plan, Kf, Ef, rfl, h, hK, hE⟩
  unfold f_neighbours at h
  refine ws_env (env' := [.d plan, .un, .un, .un, .un, .un, .un, .un]) rfl ?_
  refine ws_cons (w1_unpack (pg_tup rfl (pgs_cons (pg_name (i := 1) sc_neighbours.nd rfl (by first | exact Or.inl rfl | exact Or.inr rfl)) (pgs_cons (pg_name (i := 2) sc_neighbours.nd rfl (by first | exact Or.inl rfl | exact Or.inr rfl)) pgs_nil))) (tgd_tup (tgds_cons (tgd_name 1) (tgds_cons (tgd_name 2) tgds_nil)) rfl) ?_)
  refine we_n 0 ?_
  obtain ⟨faces1, cuts2, he3, h⟩ := un2_sh h
  refine ⟨rfl, [(1, faces1), (2, cuts2)], (by rw [he3]; rfl), rfl, ?_⟩
  refine ws_env (env' := [.d plan, .d faces1, .d cuts2, .un, .un, .un, .un, .un]) rfl ?_
  refine ws_cons (w1_newOOc 3 (own := [("face", 4)]) rfl sc_neighbours.nd (blkOk_by (by rfl)) (fun _ _ _ _ _ => (pg_name (i := 4) sc_neighbours.nd rfl (by first | exact Or.inl rfl | exact Or.inr rfl))) (tgd_name 4) rfl ?_)
  refine wi_r1 m_range ?_
  refine we_n 1 ?_
  refine rng_sh h fun xs4 h => ?_
  refine ⟨fun x _ => ⟨_, rfl, rfl⟩, fun a5 as6 n_a5 hl7 => ?_⟩
  have hl8 : as6.length = (List.replicate xs4.length ([] : List PyData)).length := by rw [hl7, List.length_replicate]
  refine ws_env (env' := [.d plan, .d faces1, .d cuts2, ooS a5 as6 (List.replicate xs4.length ([] : List PyData)), .un, .un, .un, .un]) rfl ?_
  refine ws_cons (w1_for hp rfl (pg_tup rfl (pgs_cons (pg_name (i := 5) sc_neighbours.nd rfl (by first | exact Or.inl rfl | exact Or.inr rfl)) (pgs_cons (pg_name (i := 6) sc_neighbours.nd rfl (by first | exact Or.inl rfl | exact Or.inr rfl)) pgs_nil))) (tgd_tup (tgds_cons (tgd_name 5) (tgds_cons (tgd_name 6) tgds_nil)) rfl) ?_)
  refine wi_d ?_
  refine we_call h_all_lines hr ?_
  refine wa_d ?_
  refine we_n 0 ?_
  refine ⟨rfl, ?_⟩
  refine wa_nil ?_
  refine ⟨rfl, _, _, _, rfl, h, fun r10 h => ⟨rfl, _, rfl, ?_⟩, fun c hc => ⟨rfl, ⟨_, hE _ hc, rfl, rfl⟩⟩⟩
  refine ⟨rfl, it_sh h fun xs9 h => ?_⟩
  refine forSC h (fun (s : (List (List PyData))) (u : Sl × Sl) => [.d plan, .d faces1, .d cuts2, ooS a5 as6 s, .un, u.1, u.2, .un]) (fun (s : (List (List PyData))) (u : Sl × Sl) => as6.length = s.length) ((.un), (.un)) rfl hl8 ?_ ?_
  · rintro found11 ⟨w12, w13⟩ hc h
    refine ws_env (env' := [.d plan, .d faces1, .d cuts2, ooS a5 as6 found11, .un, w12, w13, .un]) rfl ?_
    refine ws_cons (w1_retN ?_)
    refine wn_lc (own := [("face", 4)]) rfl sc_neighbours.nd (blkOk_by (by rfl)) (fun _ _ _ _ _ => (pg_name (i := 4) sc_neighbours.nd rfl (by first | exact Or.inl rfl | exact Or.inr rfl))) (tgd_name 4) (by decide) rfl ?_
    refine wi_r1 m_range ?_
    refine we_n 1 ?_
    refine rng_sh h fun xs14 h => ?_
    refine lcS h (fun face15 kp sk h => ?_) fun l16 h => ?_
    · refine ⟨[(4, face15)], rfl, rfl, fun g' s1 H1 C1 cl1 fp1 => ?_⟩
      refine ⟨fun _ s1 H1 C1 cl1 fp1 => ?_, fun z => by cases z⟩
      refine we_of_wn ?_
      refine wn_lc (own := [("step", 7)]) rfl sc_neighbours.nd (blkOk_by (by rfl)) (fun _ _ _ _ _ => (pg_name (i := 7) sc_neighbours.nd rfl (by first | exact Or.inl rfl | exact Or.inr rfl))) (tgd_name 7) (by decide) rfl ?_
      refine wi_d ?_
      refine we_of_wn ?_
      refine wn_sortedA m_sorted hr ?_
      refine we_ixOO 3 hc ?_
      refine we_n 4 ?_
      refine row_m h fun l18 h => ?_
      refine sort_m h fun l19 h => ?_
      refine ⟨rfl, it_sh h fun xs17 h => ?_⟩
      refine lcS h (fun step20 kp sk h => ?_) fun l21 h => ?_
      · refine ⟨[(7, step20)], rfl, rfl, fun g' s1 H1 C1 cl1 fp1 => ?_⟩
        refine ⟨fun _ s1 H1 C1 cl1 fp1 => ?_, fun z => by cases z⟩
        refine we_mod ?_
        refine we_add ?_
        refine we_n 4 ?_
        refine we_n 7 ?_
        refine add_sh h fun r22 h => ?_
        refine we_n 1 ?_
        refine mod_sh h fun r23 h => ?_
        exact ⟨rfl, h⟩
      exact ⟨rfl, h⟩
    exact ⟨_, hK _ h, trivial, rfl, rfl⟩
  · rintro hend p24 found27 ⟨w28, w29⟩ N25 hc h
    obtain ⟨low30, high31, he32, h⟩ := un2_sh h
    refine ⟨[(5, low30), (6, high31)], (by rw [he32]; rfl), rfl, ?_⟩
    refine ws_env (env' := [.d plan, .d faces1, .d cuts2, ooS a5 as6 found27, .un, .d low30, .d high31, .un]) rfl ?_
    refine ws_cons (w1_appendOO 3 hc ?_)
    refine we_n 5 ?_
    refine row_m h fun l33 h => ?_
    refine we_mod ?_
    refine we_sub ?_
    refine we_n 6 ?_
    refine we_n 5 ?_
    refine sub_sh h fun r34 h => ?_
    refine we_n 1 ?_
    refine mod_sh h fun r35 h => ?_
    refine ⟨rfl, rowApp_m h fun rows36 hq37 h => ?_⟩
    have hl38 : as6.length = rows36.length := by rw [hq37]; exact hc
    refine ws_env (env' := [.d plan, .d faces1, .d cuts2, ooS a5 as6 rows36, .un, .d low30, .d high31, .un]) rfl ?_
    refine ws_cons (w1_appendOO 3 hl38 ?_)
    refine we_n 6 ?_
    refine row_m h fun l39 h => ?_
    refine we_mod ?_
    refine we_sub ?_
    refine we_n 5 ?_
    refine we_n 6 ?_
    refine sub_sh h fun r40 h => ?_
    refine we_n 1 ?_
    refine mod_sh h fun r41 h => ?_
    refine ⟨rfl, rowApp_m h fun rows42 hq43 h => ?_⟩
    have hl44 : as6.length = rows42.length := by rw [hq43]; exact hl38
    refine ws_env (env' := [.d plan, .d faces1, .d cuts2, ooS a5 as6 rows42, .un, .d low30, .d high31, .un]) rfl ?_
    exact ws_nil ⟨rows42, ((.d low30), (.d high31)), h, hl44, rfl⟩
theorem ok_beginnings (F : FnP K "beginnings" s_beginnings f fd) (hm : mg "beginnings" = some (.ref f)) (hb : Binds K fd ["most"] []) (m_range : mg "range" = none) (g_FEWEST : ∃ t, mg "FEWEST" = some (.int 3 t)) (h_how_many : Has P w K mg base k "how_many" ["faces"] c_how_many) (h_plan_numbered : Has P w K mg base k "plan_numbered" ["faces", "number"] c_plan_numbered) (h_neighbours : Has P w K mg base k "neighbours" ["plan"] c_neighbours) :
    Has P w K mg base (k + 1) "beginnings" ["most"] c_beginnings := by
  refine fn_has F hm sc_beginnings hb rfl ?_
  rintro cdv A outer s H E g args Φ Ψ hr hp hM hl ⟨most, Kf, Ef, rfl, h, hK, hE⟩
  unfold f_beginnings at h
  refine ws_env (env' := [.d most, .un, .un, .un, .un, .un]) rfl ?_
  refine ws_cons (w1_set 1 sc_beginnings.nd ?_)
  refine we_list ?_
  refine wa_nil ?_
  refine ⟨_, rfl, szOk rfl, ?_⟩
  refine ⟨rfl, ?_⟩
  refine ws_env (env' := [.d most, .d (.list []), .un, .un, .un, .un]) rfl ?_
  refine ws_cons (w1_for hp rfl (pg_name (i := 2) sc_beginnings.nd rfl (by first | exact Or.inl rfl | exact Or.inr rfl)) (tgd_name 2) ?_)
  refine wi_r2 m_range ?_
  refine we_gint g_FEWEST ?_
  refine we_add ?_
  refine we_n 0 ?_
  refine we_int ?_
  refine add_sh h fun r2 h => ?_
  refine rng_sh h fun xs1 h => ?_
  refine forS h (fun (s : PyData) (u : Sl × Sl × Sl) => [.d most, .d s, u.2.2, u.1, u.2.1, .un]) ((.un), (.un), (.un)) rfl ?_ ?_
  · rintro found3 ⟨w4, w5, w6⟩ h
    refine ws_env (env' := [.d most, .d found3, w6, w4, w5, .un]) rfl ?_
    refine ws_cons (w1_ret ?_)
    refine we_n 1 ?_
    exact ⟨rfl, _, hK _ h, trivial, rfl, rfl⟩
  · rintro hend faces7 found10 ⟨w11, w12, w13⟩ N8 h
    refine ⟨[(2, faces7)], rfl, rfl, ?_⟩
    refine ws_env (env' := [.d most, .d found10, .d faces7, w11, w12, .un]) rfl ?_
    refine ws_cons (w1_for hp rfl (pg_name (i := 3) sc_beginnings.nd rfl (by first | exact Or.inl rfl | exact Or.inr rfl)) (tgd_name 3) ?_)
    refine wi_r1 m_range ?_
    refine we_call h_how_many hr ?_
    refine wa_d ?_
    refine we_n 2 ?_
    refine ⟨rfl, ?_⟩
    refine wa_nil ?_
    refine ⟨rfl, _, _, _, rfl, h, fun r15 h => ⟨rfl, _, rfl, ?_⟩, fun c hc => ⟨rfl, ⟨_, hE _ hc, rfl, rfl⟩⟩⟩
    refine rng_sh h fun xs14 h => ?_
    refine forS h (fun (s : PyData) (u : Sl × Sl) => [.d most, .d s, .d faces7, u.2, u.1, .un]) ((w12), (w11)) rfl ?_ ?_
    · rintro found16 ⟨w17, w18⟩ h
      refine ws_env (env' := [.d most, .d found16, .d faces7, w18, w17, .un]) rfl ?_
      exact ws_nil ⟨found16, ((w18), (w17), (.d faces7)), h, rfl⟩
    · rintro hend number19 found22 ⟨w23, w24⟩ N20 h
      refine ⟨[(3, number19)], rfl, rfl, ?_⟩
      refine ws_env (env' := [.d most, .d found22, .d faces7, .d number19, w23, .un]) rfl ?_
      refine ws_cons (w1_set 4 sc_beginnings.nd ?_)
      refine we_call h_plan_numbered hr ?_
      refine wa_d ?_
      refine we_n 2 ?_
      refine ⟨rfl, ?_⟩
      refine wa_d ?_
      refine we_n 3 ?_
      refine ⟨rfl, ?_⟩
      refine wa_nil ?_
      refine ⟨rfl, _, _, _, _, rfl, h, fun r25 h => ⟨rfl, _, rfl, ?_⟩, fun c hc => ⟨rfl, ⟨_, hE _ hc, rfl, rfl⟩⟩⟩
      refine ⟨rfl, ?_⟩
      refine ws_env (env' := [.d most, .d found22, .d faces7, .d number19, .d r25, .un]) rfl ?_
      refine ws_cons (w1_set 1 sc_beginnings.nd ?_)
      refine we_add ?_
      refine we_n 1 ?_
      refine we_of_wn ?_
      refine wn_lc (own := [("under", 5)]) rfl sc_beginnings.nd (blkOk_by (by rfl)) (fun _ _ _ _ _ => (pg_name (i := 5) sc_beginnings.nd rfl (by first | exact Or.inl rfl | exact Or.inr rfl))) (tgd_name 5) (by decide) rfl ?_
      refine wi_d ?_
      refine we_ix ?_
      refine we_call h_neighbours hr ?_
      refine wa_d ?_
      refine we_n 4 ?_
      refine ⟨rfl, ?_⟩
      refine wa_nil ?_
      refine ⟨rfl, _, _, _, rfl, h, fun r27 h => ⟨rfl, _, rfl, ?_⟩, fun c hc => ⟨rfl, ⟨_, hE _ hc, rfl, rfl⟩⟩⟩
      refine we_int ?_
      refine ix_sh h fun r28 h => ?_
      refine ⟨rfl, it_sh h fun xs26 h => ?_⟩
      refine lcS h (fun under29 kp sk h => ?_) fun l30 h => ?_
      · refine ⟨[(5, under29)], rfl, rfl, fun g' s1 H1 C1 cl1 fp1 => ?_⟩
        refine ⟨fun _ s1 H1 C1 cl1 fp1 => ?_, fun z => by cases z⟩
        refine we_tuple ?_
        refine wa_d ?_
        refine we_n 4 ?_
        refine ⟨rfl, ?_⟩
        refine wa_d ?_
        refine we_tuple ?_
        refine wa_d ?_
        refine we_int ?_
        refine ⟨rfl, ?_⟩
        refine wa_d ?_
        refine we_n 5 ?_
        refine ⟨rfl, ?_⟩
        refine wa_nil ?_
        refine ⟨_, rfl, szOk rfl, ?_⟩
        refine ⟨rfl, ?_⟩
        refine wa_d ?_
        refine we_tuple ?_
        refine wa_d ?_
        refine we_int ?_
        refine ⟨rfl, ?_⟩
        refine wa_nil ?_
        refine ⟨_, rfl, szOk rfl, ?_⟩
        refine ⟨rfl, ?_⟩
        refine wa_nil ?_
        refine ⟨_, rfl, szOk rfl, ?_⟩
        exact ⟨rfl, h⟩
      refine add_sh h fun r31 h => ?_
      refine ⟨rfl, ?_⟩
      refine ws_env (env' := [.d most, .d r31, .d faces7, .d number19, .d r25, .un]) rfl ?_
      exact ws_nil ⟨r31, ((.d r25), (.d number19)), h, rfl⟩
theorem ok_Watch__init (F : FunD K "__init__" "Watch.__init__" (defArgs s_Watch__init) (defBody s_Watch__init) (defScope s_Watch__init) [.int 8] [] f fd) (g_FEWEST : ∃ t, mg "FEWEST" = some (.int 3 t)) (g_GREATEST : ∃ t, mg "GREATEST" = some (.int 8 t)) (x_BadFaces : ExK K mg "BadFaces") (h_beginnings : Has P w K mg base k "beginnings" ["most"] c_beginnings) (na_Watch_stages : NoAttr K (He.ga K "Watch") "stages") :
    FnOk P w K mg base (L2.CX P w) (k + 1) f fd ["self", "bound"] (spOf K 2 c_Watch__init) := by
  refine fn_okI (ps := ["self", "bound"]) F sc_Watch__init rfl ?_
  rintro cdv A outer s H E g args Φ Ψ hr hp hM hl ⟨a_self, bound, Kf, Ef, hi_self, rfl, h, hK, hE⟩
  unfold f_Watch__init at h
  refine ws_env (env' := [a_self, .d bound]) rfl ?_
  refine ws_cons (w1_if ?_)
  refine wt_not ?_
  refine wt_ch (op_leA hr) (op_leA hr) ?_
  refine we_gint g_FEWEST ?_
  refine we_n 1 ?_
  refine ch_sh2 h (fun Q h => le_sh h fun _ h => h) (fun Q h => ?_) fun b1 h => ?_
  · refine we_gint g_GREATEST ?_
    exact le_sh h fun _ h => h
  obtain ⟨h3, h4⟩ := h
  refine ⟨fun e5 => ?_, fun e5 => ?_⟩
  · replace h := h3 e5
    exact ws_cons (w1_raise rfl x_BadFaces ⟨_, hE _ h, back_ob hi_self hi_self ((obM_refl (g := g))).1, rfl, rfl⟩)
  · replace h := h4 e5
    refine ws_nil ?_
    refine ws_cons (w1_fldL 0 hi_self na_Watch_stages (by first | decide | exact Nat.le_of_ble_eq_true rfl) ?_)
    refine wn_list ?_
    refine wa_d ?_
    refine we_tuple ?_
    refine wa_d ?_
    refine we_call h_beginnings hr ?_
    refine wa_d ?_
    refine we_n 1 ?_
    refine ⟨rfl, ?_⟩
    refine wa_nil ?_
    refine ⟨rfl, _, _, _, rfl, h, fun r9 h => ⟨rfl, _, rfl, ?_⟩, fun c hc => ⟨rfl, ⟨_, hE _ hc, back_ob hi_self hi_self ((obM_refl (g := g))).1, rfl, rfl⟩⟩⟩
    refine ⟨rfl, ?_⟩
    refine wa_d ?_
    refine we_int ?_
    refine ⟨rfl, ?_⟩
    refine wa_nil ?_
    refine ⟨_, rfl, szOk rfl, ?_⟩
    refine ⟨rfl, ?_⟩
    refine wa_nil ?_
    refine ⟨_, rfl, szOk rfl, ?_⟩
    intro s6 hn7 hm8
    replace hn7 : IsOb "Watch" [("stages", .l [(.tuple [r9, (.int 1)])])] s6 := hn7
    refine ws_env (env' := [s6, .d bound]) rfl ?_
    exact ws_nil ⟨_, hK _ _ h hn7 ((obM_trans (obM_refl (g := g)) hm8)).1, back_ob hi_self hn7 ((obM_trans (obM_refl (g := g)) hm8)).1, rfl, rfl⟩
theorem ok__law_watch_word (F : FnP K "_law_watch_word" s__law_watch_word f fd) (hm : mg "_law_watch_word" = some (.ref f)) (hb : Binds K fd ["_law_most"] []) (xg_BadFaces : mg "BadFaces" = some (.ref (He.ga K "BadFaces"))) (xm_BadFaces : ∀ m ∈ (["BadFaces", "BadNumber"] : List Str), ExM K (.own m) "BadFaces" = some (isE m "BadFaces")) (xg_PinchError : mg "PinchError" = some (.ref (He.ga K "PinchError"))) (xm_PinchError : ∀ m ∈ (["BadFaces", "BadNumber"] : List Str), ExM K (.own m) "PinchError" = some (isE m "PinchError")) (h_Watch__init : HasI P w K mg base k "Watch" ["self", "bound"] c_Watch__init) :
    Has P w K mg base (k + 2) "_law_watch_word" ["_law_most"] c__law_watch_word := by
  refine fn_has F hm sc__law_watch_word hb rfl ?_
  rintro cdv A outer s H E g args Φ Ψ hr hp hM hl ⟨l_most, Kf, Ef, rfl, h, hK, hE⟩
  unfold f__law_watch_word at h
  refine ws_env (env' := [.d l_most, .un]) rfl ?_
  refine ws_cons (w1_set 1 sc__law_watch_word.nd ?_)
  refine we_str ?_
  refine ⟨rfl, ?_⟩
  refine ws_env (env' := [.d l_most, .d (.str "told")]) rfl ?_
  refine ws_joinS h (fun (s : PyData) (u : Unit) => [.d l_most, .d s]) (fun Q h => ?_) ?_
  · refine w1_tryS h (.cons ⟨rfl, rfl, Or.inl xg_BadFaces⟩ (.cons ⟨rfl, rfl, Or.inl xg_PinchError⟩ .nil)) (fun m1 hm2 h => ?_) (fun h pn3 xe4 F5 hp => ?_)
    · obtain ⟨h6, h7⟩ := h
      refine ⟨_, xm_BadFaces m1 hm2, fun e8 a9 q10 pn11 => ?_, fun e8 => ?_⟩
      · replace h := h6 e8
        refine ws_cons (w1_set 1 sc__law_watch_word.nd ?_)
        refine we_str ?_
        refine ⟨rfl, ?_⟩
        refine ws_env (env' := [.d l_most, .d (.str "BadFaces")]) rfl ?_
        exact ws_nil ⟨(.str "BadFaces"), (), h, rfl⟩
      replace h := h7 e8
      obtain ⟨h12, h13⟩ := h
      refine ⟨_, xm_PinchError m1 hm2, fun e14 a15 q16 pn17 => ?_, fun e14 => ?_⟩
      · replace h := h12 e14
        refine ws_cons (w1_set 1 sc__law_watch_word.nd ?_)
        refine we_str ?_
        refine ⟨rfl, ?_⟩
        refine ws_env (env' := [.d l_most, .d (.str "other")]) rfl ?_
        exact ws_nil ⟨(.str "other"), (), h, rfl⟩
      replace h := h13 e14
      exact ⟨_, hE _ h, rfl, rfl⟩
    · refine ws_cons (w1_exprO ?_)
      refine wo_makeE mks1 h_Watch__init hr ?_
      refine waz_cons ?_
      refine wa_d ?_
      refine we_n 0 ?_
      refine ⟨rfl, ?_⟩
      refine wa_nil ?_
      refine ⟨rfl, fun s22 hi23 => ⟨s22, _, _, _, hi23, rfl, h, fun stages_19 s20 h hn21 _ => ⟨s20, rfl, rfl, ?_⟩, fun c hc => ⟨rfl, ⟨hc, rfl⟩⟩⟩⟩
      refine ws_env (env' := [.d l_most, .d (.str "told")]) rfl ?_
      exact ws_nil ⟨(.str "told"), (), h, rfl⟩
  · rintro l_word24 _ h
    refine ws_env (env' := [.d l_most, .d l_word24]) rfl ?_
    refine ws_cons (w1_ret ?_)
    refine we_n 1 ?_
    exact ⟨rfl, _, hK _ h, trivial, rfl, rfl⟩
theorem ok__law_bounds_held (F : FnP K "_law_bounds_held" s__law_bounds_held f fd) (hm : mg "_law_bounds_held" = some (.ref f)) (hb : Binds K fd ["_law_far"] []) (m_all : mg "all" = none) (h__law_watch_word : Has P w K mg base k "_law_watch_word" ["_law_most"] c__law_watch_word) :
    Has P w K mg base (k + 1) "_law_bounds_held" ["_law_far"] c__law_bounds_held := by
  refine fn_has F hm sc__law_bounds_held hb rfl ?_
  rintro cdv A outer s H E g args Φ Ψ hr hp hM hl ⟨l_far, Kf, Ef, rfl, h, hK, hE⟩
  unfold f__law_bounds_held at h
  refine ws_env (env' := [.d l_far, .un]) rfl ?_
  refine ws_cons (w1_ret ?_)
  refine we_allA m_all rfl ?_
  refine we_of_wn ?_
  refine wn_lc (own := [("_law_most", 1)]) rfl sc__law_bounds_held.nd (blkOk_by (by rfl)) (fun _ _ _ _ _ => (pg_name (i := 1) sc__law_bounds_held.nd rfl (by first | exact Or.inl rfl | exact Or.inr rfl))) (tgd_name 1) (by decide) rfl ?_
  refine wi_d ?_
  refine we_tuple ?_
  refine wa_d ?_
  refine we_int ?_
  refine ⟨rfl, ?_⟩
  refine wa_d ?_
  refine we_int ?_
  refine ⟨rfl, ?_⟩
  refine wa_d ?_
  refine we_int ?_
  refine ⟨rfl, ?_⟩
  refine wa_d ?_
  refine we_sub ?_
  refine we_int ?_
  refine we_int ?_
  refine sub_sh h fun r2 h => ?_
  refine ⟨rfl, ?_⟩
  refine wa_d ?_
  refine we_n 0 ?_
  refine ⟨rfl, ?_⟩
  refine wa_nil ?_
  refine ⟨_, rfl, szOk rfl, ?_⟩
  refine ⟨rfl, it_sh h fun xs1 h => ?_⟩
  refine lcS h (fun l_most3 kp sk h => ?_) fun l4 h => ?_
  · refine ⟨[(1, l_most3)], rfl, rfl, fun g' s1 H1 C1 cl1 fp1 => ?_⟩
    refine ⟨fun _ s1 H1 C1 cl1 fp1 => ?_, fun z => by cases z⟩
    refine we_cp (op_eqA hr) ?_
    refine we_call h__law_watch_word hr ?_
    refine wa_d ?_
    refine we_n 1 ?_
    refine ⟨rfl, ?_⟩
    refine wa_nil ?_
    refine ⟨rfl, _, _, _, rfl, h, fun r5 h => ⟨rfl, _, rfl, ?_⟩, fun c hc => ⟨rfl, hc.elim⟩⟩
    refine we_str ?_
    refine eq_sh h fun b6 h => ?_
    exact ⟨rfl, h⟩
  refine all_m h fun r7 h => ?_
  exact ⟨rfl, _, hK _ h, trivial, rfl, rfl⟩
theorem ok_o__law_pull (F : FnP K "_law_pull" s__law_pull f fd) (hm : mg "_law_pull" = some (.ref f)) (hb : Binds K fd ["_law_bag_here", "_law_many"] []) (m_len : mg "len" = none) :
    Has P w K mg base (k + 1) "_law_pull" ["_law_bag_here", "_law_many"] o__law_pull := by
  refine fn_has F hm sc__law_pull hb rfl ?_
  rintro cdv A outer s H E g args Φ Ψ hr hp hM hl ⟨b, many, rfl, m0, m1, hΦ⟩
  have hd : ∀ i, CDivW i many := fun i => wide_div m0 m1 (by decide) (by decide)
  refine ws_open 0 rfl fun cells i z t hc i0 z0 t0 t1 => ?_
  have bag : ∀ z' : Int, 0 ≤ z' → BagD [.list (cells.map .int), .int (i + 1), .int z', .int t] := fun z' h => ⟨cells, i + 1, z', t, rfl, hc, by omega, h, t0, t1⟩
  refine ws_cons (w1_if ?_)
  refine wt_cp (op_ltA hr) ?_
  refine we_ix ?_
  refine we_nl 0 ?_
  refine we_int ?_
  refine ix_lst (by decide) rfl ?_
  refine we_int ?_
  refine ⟨_, cp_lt, ?_⟩
  refine ⟨fun b1 => ?_, fun b1 => ?_⟩
  · -- then
    refine ws_cons (w1_augix 0 rfl ?_)
    refine we_int ?_
    refine ⟨1, 1, _, rfl, rfl, rfl, ?_⟩
    refine we_int ?_
    refine ⟨_, rfl, ?_⟩
    refine ws_cons (w1_set 2 sc__law_pull.nd ?_)
    refine we_ix ?_
    refine we_nl 0 ?_
    refine we_int ?_
    refine ix_lst (by decide) rfl ?_
    refine ⟨rfl, ?_⟩
    refine ws_mid (fun e => ∃ y : Int, 0 ≤ y ∧ e = [.ol b [.list (cells.map .int), .int (i + 1), .int z, .int t], .d (.int many), .d (.int y), .un, .un]) (w1_if ?_) ?_
    · refine wt_cp op_le ?_
      refine we_ix ?_
      refine we_nl 0 ?_
      refine we_int ?_
      refine ix_lst (by decide) rfl ?_
      refine we_len m_len ?_
      refine we_ix ?_
      refine we_nl 0 ?_
      refine we_int ?_
      refine ix_lst (by decide) rfl ?_
      refine .lst ?_
      refine ⟨_, cp_le, ?_⟩
      refine ⟨fun b2 => ?_, fun b2 => ?_⟩
      · -- then
        have b2 := of_decide_eq_true b2
        rw [List.length_map] at b2
        refine ws_cons (w1_set 2 sc__law_pull.nd ?_)
        refine we_ix ?_
        refine we_ix ?_
        refine we_nl 0 ?_
        refine we_int ?_
        refine ix_lst (by decide) rfl ?_
        refine we_sub ?_
        refine we_ix ?_
        refine we_nl 0 ?_
        refine we_int ?_
        refine ix_lst (by decide) rfl ?_
        refine we_int ?_
        refine ⟨?_, trivial⟩
        refine ix_ints (by omega) (by omega) fun n hn => ?_
        have n0 := hc n hn
        refine ⟨rfl, ?_⟩
        refine ws_cons (w1_if ?_)
        refine wt_cp op_ge ?_
        refine we_n 2 ?_
        refine we_pow ?_
        refine we_int ?_
        refine we_int ?_
        refine ⟨?_, by unfold L2.CPow; decide⟩
        refine ⟨_, cp_ge, ?_⟩
        refine ⟨fun b3 => ?_, fun b3 => ?_⟩
        · -- then
          refine ws_cons (w1_setix 0 rfl ?_)
          refine we_div ?_
          refine we_n 2 ?_
          refine we_n 1 ?_
          refine ⟨?_, hd _⟩
          refine ⟨rfl, ?_⟩
          refine we_int ?_
          refine ⟨2, 2, rfl, rfl, ?_⟩
          refine ws_cons (w1_ret ?_)
          refine we_mod ?_
          refine we_n 2 ?_
          refine we_n 1 ?_
          refine ⟨?_, m0⟩
          refine ⟨rfl, ?_⟩
          exact ⟨_, hΦ _ (Int.emod_nonneg _ (by omega)) (Int.emod_lt_of_pos _ m0), trivial, ⟨rfl, bag _ (Int.ediv_nonneg n0 (by omega)), rfl⟩, rfl, rfl⟩
        · -- else
          refine ws_nil (ws_nil ?_)
          exact ⟨n, n0, rfl⟩
      · -- else
        refine ws_nil ?_
        exact ⟨i + 1, by omega, rfl⟩
    rintro _ ⟨y, y0, rfl⟩
    refine ws_cons (w1_set 3 sc__law_pull.nd ?_)
    refine we_mod ?_
    refine we_add ?_
    refine we_add ?_
    refine we_n 2 ?_
    refine we_mul ?_
    refine we_ix ?_
    refine we_nl 0 ?_
    refine we_int ?_
    refine ix_lst (by decide) rfl ?_
    refine we_int ?_
    refine ⟨?_, by unfold L2.CMul; omega⟩
    refine .int ?_
    refine we_mul ?_
    refine we_ix ?_
    refine we_nl 0 ?_
    refine we_int ?_
    refine ix_lst (by decide) rfl ?_
    refine we_int ?_
    refine ⟨?_, by unfold L2.CMul; omega⟩
    refine .int ?_
    refine we_int ?_
    refine ⟨?_, by decide⟩
    refine ⟨rfl, ?_⟩
    generalize (y + t * 31 + (i + 1) * 69061) = y1
    refine ws_cons (w1_set 3 sc__law_pull.nd ?_)
    refine we_mod ?_
    refine we_add ?_
    refine we_mul ?_
    refine we_n 3 ?_
    refine we_n 3 ?_
    have y2 := Int.emod_nonneg y1 (b := 2147483629) (by decide)
    have y3 := Int.emod_lt_of_pos y1 (b := 2147483629) (by decide)
    refine ⟨?_, by unfold L2.CMul; omega⟩
    refine we_int ?_
    refine .int ?_
    refine we_int ?_
    refine ⟨?_, by decide⟩
    refine ⟨rfl, ?_⟩
    generalize (y1 % 2147483629 * (y1 % 2147483629) + 40961) = y4
    refine ws_cons (w1_ret ?_)
    refine we_mod ?_
    refine we_div ?_
    refine we_mod ?_
    refine we_add ?_
    refine we_mul ?_
    refine we_n 3 ?_
    refine we_n 3 ?_
    have y5 := Int.emod_nonneg y4 (b := 2147483587) (by decide)
    have y6 := Int.emod_lt_of_pos y4 (b := 2147483587) (by decide)
    refine ⟨?_, by unfold L2.CMul; omega⟩
    refine we_ix ?_
    refine we_nl 0 ?_
    refine we_int ?_
    refine ix_lst (by decide) rfl ?_
    refine .int ?_
    refine we_int ?_
    refine ⟨?_, by decide⟩
    refine we_int ?_
    refine ⟨?_, cdiv_small _ (by decide) (by decide)⟩
    refine we_n 1 ?_
    refine ⟨?_, m0⟩
    refine ⟨rfl, ?_⟩
    exact ⟨_, hΦ _ (Int.emod_nonneg _ (by omega)) (Int.emod_lt_of_pos _ m0), trivial, ⟨rfl, bag z z0, rfl⟩, rfl, rfl⟩
  · -- else
    refine ws_nil ?_
    refine ws_cons (w1_set 4 sc__law_pull.nd ?_)
    refine we_mod ?_
    refine we_ix ?_
    refine we_nl 0 ?_
    refine we_int ?_
    refine ix_lst (by decide) rfl ?_
    refine we_n 1 ?_
    refine ⟨?_, m0⟩
    refine ⟨rfl, ?_⟩
    refine ws_cons (w1_setix 0 rfl ?_)
    refine we_div ?_
    refine we_ix ?_
    refine we_nl 0 ?_
    refine we_int ?_
    refine ix_lst (by decide) rfl ?_
    refine we_n 1 ?_
    refine ⟨?_, hd _⟩
    refine ⟨rfl, ?_⟩
    refine we_int ?_
    refine ⟨2, 2, rfl, rfl, ?_⟩
    refine ws_cons (w1_ret ?_)
    refine we_n 4 ?_
    refine ⟨rfl, ?_⟩
    exact ⟨_, hΦ _ (Int.emod_nonneg _ (by omega)) (Int.emod_lt_of_pos _ m0), trivial, ⟨rfl, ⟨cells, i, z / many, t, rfl, hc, i0, Int.ediv_nonneg z0 (by omega), t0, t1⟩, rfl⟩, rfl, rfl⟩
theorem ok__law_pull (h : Has P w K mg base k "_law_pull" ["_law_bag_here", "_law_many"] o__law_pull) : Has P w K mg base k "_law_pull" ["_law_bag_here", "_law_many"] c__law_pull := h.imp fun args Φ Ψ ⟨b, m, Kf, Ef, e, hf, h1, h2⟩ => by
  subst e
  cases m with
  | int m => exact ⟨b, m, rfl, hf.1.1, hf.1.2, fun r r0 r1 => h1 _ (hf.2 r r0 r1)⟩
  | _ => exact (show False from hf).elim
theorem ok_Watch__left (F : FnPM K "left" "Watch.left" s_Watch__left f fd) (hm : Meth K (He.ga K "Watch") "left" f) (hb : Binds K fd ["self"] []) (m_sorted : mg "sorted" = none) (na_Watch_stages : NoAttr K (He.ga K "Watch") "stages") :
    HasM P w K mg base (k + 1) "Watch" "left" ["self"] c_Watch__left := by
  refine fn_hasM F hm sc_Watch__left hb rfl ?_
  rintro cdv A outer s H E g args Φ Ψ hr hp hM hl ⟨a_self, self_stages, Kf, Ef, hi_self, rfl, h, hK, hE⟩
  unfold f_Watch__left at h
  refine ws_env (env' := [a_self, .un, .un, .un]) rfl ?_
  refine ws_cons (w1_retN ?_)
  refine wn_sortedA m_sorted hr ?_
  refine we_of_wn ?_
  refine wn_lc (own := [("plan", 1), ("place", 2), ("corners", 3)]) rfl sc_Watch__left.nd (blkOk_by (by rfl)) (fun _ _ _ _ _ => (pg_tup rfl (pgs_cons (pg_name (i := 1) sc_Watch__left.nd rfl (by first | exact Or.inl rfl | exact Or.inr rfl)) (pgs_cons (pg_name (i := 2) sc_Watch__left.nd rfl (by first | exact Or.inl rfl | exact Or.inr rfl)) (pgs_cons (pg_name (i := 3) sc_Watch__left.nd rfl (by first | exact Or.inl rfl | exact Or.inr rfl)) pgs_nil))))) (tgd_tup (tgds_cons (tgd_name 1) (tgds_cons (tgd_name 2) (tgds_cons (tgd_name 3) tgds_nil))) rfl) (by decide) rfl ?_
  refine wi_d ?_
  refine we_ix ?_
  refine we_ix ?_
  refine we_fldL 0 hi_self na_Watch_stages rfl ?_
  refine we_neg ?_
  refine we_int ?_
  refine ⟨_, rfl, ?_⟩
  refine ix_sh h fun r2 h => ?_
  refine we_int ?_
  refine ix_sh h fun r3 h => ?_
  refine ⟨rfl, it_sh h fun xs1 h => ?_⟩
  refine lcS h (fun p4 kp sk h => ?_) fun l5 h => ?_
  · obtain ⟨plan6, place7, corners8, he9, h⟩ := un3_sh h
    refine ⟨[(1, plan6), (2, place7), (3, corners8)], (by rw [he9]; rfl), rfl, fun g' s1 H1 C1 cl1 fp1 => ?_⟩
    refine ⟨fun _ s1 H1 C1 cl1 fp1 => ?_, fun z => by cases z⟩
    refine we_tuple ?_
    refine wa_d ?_
    refine we_n 1 ?_
    refine ⟨rfl, ?_⟩
    refine wa_d ?_
    refine we_n 2 ?_
    refine ⟨rfl, ?_⟩
    refine wa_nil ?_
    refine ⟨_, rfl, szOk rfl, ?_⟩
    exact ⟨rfl, h⟩
  refine sort_m h fun l10 h => ?_
  exact ⟨_, hK _ h, trivial, back_ob hi_self hi_self ((obM_refl (g := g))).1, rfl⟩
theorem ok_Watch__twin (F : FnPM K "twin" "Watch.twin" s_Watch__twin f fd) (hm : Meth K (He.ga K "Watch") "twin" f) (hb : Binds K fd ["self"] []) (g_FEWEST : ∃ t, mg "FEWEST" = some (.int 3 t)) (m_list : mg "list" = none) (h_Watch__init : HasI P w K mg base k "Watch" ["self", "bound"] c_Watch__init) (na_Watch_stages : NoAttr K (He.ga K "Watch") "stages") :
    HasM P w K mg base (k + 2) "Watch" "twin" ["self"] c_Watch__twin_v3 := by
  refine fn_hasM F hm sc_Watch__twin hb rfl ?_
  rintro cdv A outer s H E g args Φ Ψ hr hp hM hl ⟨a_self, self_stages, Kf, Ef, hi_self, rfl, h, hK, hE⟩
  unfold f_Watch__twin_v3 at h
  refine ws_env (env' := [a_self, .un]) rfl ?_
  refine ws_cons (w1_setO 1 sc_Watch__twin.nd ?_)
  refine wo_make mk1 h_Watch__init hr ?_
  refine waz_cons ?_
  refine wa_d ?_
  refine we_gint g_FEWEST ?_
  refine ⟨rfl, ?_⟩
  refine wa_nil ?_
  refine ⟨rfl, fun s4 hi5 => ⟨s4, _, _, _, hi5, rfl, h, fun stages_1 s2 h hn3 _ => ⟨s2, rfl, rfl, ?_⟩, fun c hc => hc.elim⟩⟩
  intro nM6
  refine ws_env (env' := [a_self, s2]) rfl ?_
  refine ws_cons (w1_fldL 1 hn3 na_Watch_stages (by first | decide | exact Nat.le_of_ble_eq_true rfl) ?_)
  refine wn_listof m_list ?_
  refine we_fldL 0 hi_self na_Watch_stages rfl ?_
  refine list_sh h fun l10 h => ?_
  intro s7 hn8 hm9
  replace hn8 : IsOb "Watch" [("stages", .l l10)] s7 := hn8
  refine ws_env (env' := [a_self, s7]) rfl ?_
  exact ws_cons (w1_retS 1 (C := fun s => IsOb "Watch" [("stages", .l l10)] s) hn8 hn8.ne (obM_loc hm9 nM6) ⟨_, hK _ h, trivial, back_ob hi_self hi_self ((obM_refl (g := g))).1, rfl⟩)
theorem ok__law_odd (F : FnP K "_law_odd" s__law_odd f fd) (hm : mg "_law_odd" = some (.ref f)) (hb : Binds K fd ["_law_bag_here", "_law_many"] []) (h__law_pull : Has P w K mg base k "_law_pull" ["_law_bag_here", "_law_many"] c__law_pull) :
    Has P w K mg base (k + 1) "_law_odd" ["_law_bag_here", "_law_many"] c__law_odd := by
  refine fn_has F hm sc__law_odd hb rfl ?_
  rintro cdv A outer s H E g args Φ Ψ hr hp hM hl ⟨a_l_bag_here, l_many, Kf, Ef, rfl, h, hK, hE⟩
  unfold f__law_odd at h
  refine ws_env (env' := [.bg a_l_bag_here, .d l_many]) rfl ?_
  refine ws_cons (w1_ret ?_)
  refine we_ix ?_
  refine we_list ?_
  refine wa_d ?_
  refine we_sub ?_
  refine we_int ?_
  refine we_int ?_
  refine sub_sh h fun r1 h => ?_
  refine ⟨rfl, ?_⟩
  refine wa_d ?_
  refine we_int ?_
  refine ⟨rfl, ?_⟩
  refine wa_d ?_
  refine we_int ?_
  refine ⟨rfl, ?_⟩
  refine wa_d ?_
  refine we_n 1 ?_
  refine ⟨rfl, ?_⟩
  refine wa_d ?_
  refine we_add ?_
  refine we_n 1 ?_
  refine we_int ?_
  refine add_sh h fun r2 h => ?_
  refine ⟨rfl, ?_⟩
  refine wa_d ?_
  refine we_sub ?_
  refine we_n 1 ?_
  refine we_int ?_
  refine sub_sh h fun r3 h => ?_
  refine ⟨rfl, ?_⟩
  refine wa_d ?_
  refine we_pow ?_
  refine we_int ?_
  refine we_int ?_
  refine powP (v := 1000000000000000000000000000000) (by decide +kernel) ?_ (by unfold L2.CPow; decide)
  refine ⟨rfl, ?_⟩
  refine wa_d ?_
  refine we_sub ?_
  refine we_int ?_
  refine we_pow ?_
  refine we_int ?_
  refine we_int ?_
  refine powP (v := 1000000000000000000000000000000) (by decide +kernel) ?_ (by unfold L2.CPow; decide)
  refine sub_sh h fun r4 h => ?_
  refine ⟨rfl, ?_⟩
  refine wa_d ?_
  refine we_call h__law_pull hr ?_
  refine wa_s 0 ?_
  refine wa_d ?_
  refine we_int ?_
  refine ⟨rfl, ?_⟩
  refine wa_nil ?_
  refine ⟨rfl, _, _, _, _, rfl, h, fun r5 h => ⟨rfl, _, rfl, ?_⟩, fun c hc => ⟨rfl, ⟨_, hE _ hc, ⟨rfl, rfl⟩, rfl, rfl⟩⟩⟩
  refine ⟨rfl, ?_⟩
  refine wa_nil ?_
  refine ⟨_, rfl, szOk rfl, ?_⟩
  refine we_call h__law_pull hr ?_
  refine wa_s 0 ?_
  refine wa_d ?_
  refine we_int ?_
  refine ⟨rfl, ?_⟩
  refine wa_nil ?_
  refine ⟨rfl, _, _, _, _, rfl, h, fun r6 h => ⟨rfl, _, rfl, ?_⟩, fun c hc => ⟨rfl, ⟨_, hE _ hc, ⟨rfl, rfl⟩, rfl, rfl⟩⟩⟩
  refine ix_sh h fun r7 h => ?_
  exact ⟨rfl, _, hK _ h, trivial, ⟨rfl, rfl⟩, rfl, rfl⟩
theorem ok_need_way (F : FnP K "need_way" s_need_way f fd) (hm : mg "need_way" = some (.ref f)) (hb : Binds K fd ["way"] []) (g_WAYS : GTup K mg "WAYS" [.str "even", .str "odd"]) (x_BadWay : ExK K mg "BadWay") :
    Has P w K mg base (k + 1) "need_way" ["way"] c_need_way := by
  refine fn_has F hm sc_need_way hb rfl ?_
  rintro cdv A outer s H E g args Φ Ψ hr hp hM hl ⟨way, Kf, Ef, rfl, h, hK, hE⟩
  unfold f_need_way at h
  refine ws_env (env' := [.d way]) rfl ?_
  refine ws_cons (w1_if ?_)
  refine wt_notInG g_WAYS ?_
  refine we_n 0 ?_
  refine inG_sh h fun b1 h => ?_
  obtain ⟨h2, h3⟩ := h
  refine ⟨fun e4 => ?_, fun e4 => ?_⟩
  · replace h := h2 e4
    exact ws_cons (w1_raise rfl x_BadWay ⟨_, hE _ h, rfl, rfl⟩)
  · replace h := h3 e4
    refine ws_nil ?_
    exact ws_nil ⟨_, hK _ h, rfl, rfl⟩
theorem ok_Watch__met (F : FnPM K "met" "Watch.met" s_Watch__met f fd) (hm : Meth K (He.ga K "Watch") "met" f) (hb : Binds K fd ["self"] []) (na_Watch_stages : NoAttr K (He.ga K "Watch") "stages") :
    HasM P w K mg base (k + 1) "Watch" "met" ["self"] c_Watch__met := by
  refine fn_hasM F hm sc_Watch__met hb rfl ?_
  rintro cdv A outer s H E g args Φ Ψ hr hp hM hl ⟨a_self, self_stages, Kf, Ef, hi_self, rfl, h, hK, hE⟩
  unfold f_Watch__met at h
  refine ws_env (env' := [a_self]) rfl ?_
  refine ws_cons (w1_ret ?_)
  refine we_ix ?_
  refine we_ix ?_
  refine we_fldL 0 hi_self na_Watch_stages rfl ?_
  refine we_neg ?_
  refine we_int ?_
  refine ⟨_, rfl, ?_⟩
  refine ix_sh h fun r1 h => ?_
  refine we_int ?_
  refine ix_sh h fun r2 h => ?_
  exact ⟨rfl, _, hK _ h, trivial, back_ob hi_self hi_self ((obM_refl (g := g))).1, rfl⟩
theorem ok_Watch__need_number (F : FnPM K "need_number" "Watch.need_number" s_Watch__need_number f fd) (hm : Meth K (He.ga K "Watch") "need_number" f) (hb : Binds K fd ["self", "face"] []) (x_BadNumber : ExK K mg "BadNumber") (h_Watch__met : HasM P w K mg base k "Watch" "met" ["self"] c_Watch__met) :
    HasM P w K mg base (k + 1) "Watch" "need_number" ["self", "face"] c_Watch__need_number := by
  refine fn_hasM F hm sc_Watch__need_number hb rfl ?_
  rintro cdv A outer s H E g args Φ Ψ hr hp hM hl ⟨a_self, self_stages, face, Kf, Ef, hi_self, rfl, h, hK, hE⟩
  unfold f_Watch__need_number at h
  refine ws_env (env' := [a_self, .d face]) rfl ?_
  refine ws_cons (w1_if ?_)
  refine wt_not ?_
  refine wt_ch (op_leA hr) (op_leA hr) ?_
  refine we_int ?_
  refine we_n 1 ?_
  refine ch_sh2 h (fun Q h => le_sh h fun _ h => h) (fun Q h => ?_) fun b1 h => ?_
  · refine we_meth 0 mcall0 h_Watch__met hr hi_self rfl ?_
    refine waz_nil ?_
    refine ⟨rfl, a_self, self_stages, _, _, hi_self, rfl, h, fun r3 h => ⟨_, rfl, rfl, _, rfl, ?_⟩, fun c hc => ⟨rfl, ⟨_, hE _ hc, back_ob hi_self hi_self ((obM_refl (g := g))).1, rfl, rfl⟩⟩⟩
    exact le_sh h fun _ h => h
  obtain ⟨h4, h5⟩ := h
  refine ⟨fun e6 => ?_, fun e6 => ?_⟩
  · replace h := h4 e6
    exact ws_cons (w1_raise rfl x_BadNumber ⟨_, hE _ h, back_ob hi_self hi_self ((obM_refl (g := g))).1, rfl, rfl⟩)
  · replace h := h5 e6
    refine ws_nil ?_
    exact ws_nil ⟨_, hK _ h, back_ob hi_self hi_self ((obM_refl (g := g))).1, rfl, rfl⟩
theorem ok_Watch__shown (F : FnPM K "shown" "Watch.shown" s_Watch__shown f fd) (hm : Meth K (He.ga K "Watch") "shown" f) (hb : Binds K fd ["self", "rows", "face"] []) (m_max : mg "max" = none) (m_len : mg "len" = none) (na_Watch_stages : NoAttr K (He.ga K "Watch") "stages") (h_Watch__met : HasM P w K mg base k "Watch" "met" ["self"] c_Watch__met) :
    HasM P w K mg base (k + 1) "Watch" "shown" ["self", "rows", "face"] c_Watch__shown := by
  refine fn_hasM F hm sc_Watch__shown hb rfl ?_
  rintro cdv A outer s H E g args Φ Ψ hr hp hM hl ⟨a_self, self_stages, rows, face, Kf, Ef, hi_self, rfl, h, hK, hE⟩
  unfold f_Watch__shown at h
  refine ws_env (env' := [a_self, .d rows, .d face, .un, .un, .un, .un]) rfl ?_
  refine ws_cons (w1_setN 3 sc_Watch__shown.nd ?_)
  refine wn_list ?_
  refine wa_nil ?_
  refine ⟨_, rfl, szOk rfl, ?_⟩
  intro a1 n_a1
  refine ws_env (env' := [a_self, .d rows, .d face, .ol a1 [], .un, .un, .un]) rfl ?_
  refine ws_cons (w1_for hp rfl (pg_tup rfl (pgs_cons (pg_name (i := 4) sc_Watch__shown.nd rfl (by first | exact Or.inl rfl | exact Or.inr rfl)) (pgs_cons (pg_name (i := 5) sc_Watch__shown.nd rfl (by first | exact Or.inl rfl | exact Or.inr rfl)) (pgs_cons (pg_name (i := 6) sc_Watch__shown.nd rfl (by first | exact Or.inl rfl | exact Or.inr rfl)) pgs_nil)))) (tgd_tup (tgds_cons (tgd_name 4) (tgds_cons (tgd_name 5) (tgds_cons (tgd_name 6) tgds_nil))) rfl) ?_)
  refine wi_d ?_
  refine we_n 1 ?_
  refine ⟨rfl, it_sh h fun xs2 h => ?_⟩
  refine forS h (fun (s : (List PyData)) (u : {a : Addr // a ∉ g.M} × Sl × Sl × Sl) => [a_self, .d rows, .d face, .ol u.1.1 s, u.2.1, u.2.2.1, u.2.2.2]) (⟨a1, n_a1⟩, (.un), (.un), (.un)) rfl ?_ ?_
  · rintro found3 ⟨⟨a4, n_a4⟩, w5, w6, w7⟩ h
    refine ws_env (env' := [a_self, .d rows, .d face, .ol a4 found3, w5, w6, w7]) rfl ?_
    refine ws_freeze 3 n_a4 ?_
    refine ws_env (env' := [a_self, .d rows, .d face, .d (.list found3), w5, w6, w7]) rfl ?_
    refine ws_cons (w1_fldApp 0 hi_self na_Watch_stages rfl ?_)
    refine we_tuple ?_
    refine wa_d ?_
    refine we_n 3 ?_
    refine ⟨rfl, ?_⟩
    refine wa_d ?_
    refine we_max2A m_max rfl ?_
    refine we_meth 0 mcall0 h_Watch__met hr hi_self rfl ?_
    refine waz_nil ?_
    refine ⟨rfl, a_self, self_stages, _, _, hi_self, rfl, h, fun r11 h => ⟨_, rfl, rfl, _, rfl, ?_⟩, fun c hc => ⟨rfl, ⟨_, hE _ hc, back_ob hi_self hi_self ((obM_refl (g := g))).1, rfl, rfl, rfl⟩⟩⟩
    refine we_add ?_
    refine we_n 2 ?_
    refine we_int ?_
    refine add_sh h fun r12 h => ?_
    refine max2_m h fun r13 h => ?_
    refine ⟨rfl, ?_⟩
    refine wa_nil ?_
    refine ⟨_, rfl, szOk rfl, ?_⟩
    obtain ⟨hl14, h⟩ := h
    refine ⟨rfl, hl14, fun s8 hn9 hm10 => ?_⟩
    replace hn9 : IsOb "Watch" [("stages", .l (self_stages ++ ([(.tuple [(.list found3), r13])] : List PyData)))] s8 := hn9
    refine ws_env (env' := [s8, .d rows, .d face, .d (.list found3), w5, w6, w7]) rfl ?_
    exact ws_nil ⟨_, hK _ _ _ h hn9 ((obM_trans (obM_refl (g := g)) hm10)).1, back_ob hi_self hn9 ((obM_trans (obM_refl (g := g)) hm10)).1, rfl, rfl, rfl⟩
  · rintro hend p15 found18 ⟨⟨a19, n_a19⟩, w20, w21, w22⟩ N16 h
    obtain ⟨plan23, place24, corners25, he26, h⟩ := un3_sh h
    refine ⟨[(4, plan23), (5, place24), (6, corners25)], (by rw [he26]; rfl), rfl, ?_⟩
    refine ws_env (env' := [a_self, .d rows, .d face, .ol a19 found18, .d plan23, .d place24, .d corners25]) rfl ?_
    refine ws_joinS h (fun (s : (List PyData)) (u : {a : Addr // a ∉ g.M}) => [a_self, .d rows, .d face, .ol u.1 s, .d plan23, .d place24, .d corners25]) (fun Q h => ?_) ?_
    · refine w1_if ?_
      refine wt_ww ?_
      refine ww_andS h (fun Q h => ?_) (fun Q h => ?_) fun b27 h => ?_
      · refine wt_cp (op_ltA hr) ?_
        refine we_n 2 ?_
        refine we_len m_len ?_
        refine we_n 6 ?_
        refine len_sh h fun r28 h => ?_
        refine lt_sh h fun b29 h => ?_
        exact h
      · refine ww_and1 ?_
        refine wt_cp (op_eqA hr) ?_
        refine we_ix ?_
        refine we_n 6 ?_
        refine we_n 2 ?_
        refine ix_sh h fun r30 h => ?_
        refine we_ix ?_
        refine we_n 5 ?_
        refine we_int ?_
        refine ix_sh h fun r31 h => ?_
        refine eq_sh h fun b32 h => ?_
        exact h
      obtain ⟨h33, h34⟩ := h
      refine ⟨fun e35 => ?_, fun e35 => ?_⟩
      · replace h := h33 e35
        refine ws_cons (w1_append 3 rfl ?_)
        refine we_tuple ?_
        refine wa_d ?_
        refine we_n 4 ?_
        refine ⟨rfl, ?_⟩
        refine wa_d ?_
        refine we_n 5 ?_
        refine ⟨rfl, ?_⟩
        refine wa_d ?_
        refine we_n 6 ?_
        refine ⟨rfl, ?_⟩
        refine wa_nil ?_
        refine ⟨_, rfl, szOk rfl, ?_⟩
        obtain ⟨hl36, h⟩ := h
        refine ⟨rfl, hl36, ?_⟩
        refine ws_env (env' := [a_self, .d rows, .d face, .ol a19 (found18 ++ ([(.tuple [plan23, place24, corners25])] : List PyData)), .d plan23, .d place24, .d corners25]) rfl ?_
        exact ws_nil ⟨(found18 ++ ([(.tuple [plan23, place24, corners25])] : List PyData)), ⟨a19, n_a19⟩, h, rfl⟩
      · replace h := h34 e35
        refine ws_cons (w1_if ?_)
        refine wt_ww ?_
        refine ww_andS h (fun Q h => ?_) (fun Q h => ?_) fun b37 h => ?_
        · refine wt_cp (op_eqA hr) ?_
          refine we_n 2 ?_
          refine we_len m_len ?_
          refine we_n 6 ?_
          refine len_sh h fun r38 h => ?_
          refine eq_sh h fun b39 h => ?_
          exact h
        · refine ww_and1 ?_
          refine wt_cp (op_notInA hr) ?_
          refine we_ix ?_
          refine we_n 5 ?_
          refine we_int ?_
          refine ix_sh h fun r40 h => ?_
          refine we_n 6 ?_
          refine notIn_sh h fun b41 h => ?_
          exact h
        obtain ⟨h42, h43⟩ := h
        refine ⟨fun e44 => ?_, fun e44 => ?_⟩
        · replace h := h42 e44
          refine ws_cons (w1_append 3 rfl ?_)
          refine we_tuple ?_
          refine wa_d ?_
          refine we_n 4 ?_
          refine ⟨rfl, ?_⟩
          refine wa_d ?_
          refine we_n 5 ?_
          refine ⟨rfl, ?_⟩
          refine wa_d ?_
          refine we_add ?_
          refine we_n 6 ?_
          refine we_tuple ?_
          refine wa_d ?_
          refine we_ix ?_
          refine we_n 5 ?_
          refine we_int ?_
          refine ix_sh h fun r45 h => ?_
          refine ⟨rfl, ?_⟩
          refine wa_nil ?_
          refine ⟨_, rfl, szOk rfl, ?_⟩
          refine add_sh h fun r46 h => ?_
          refine ⟨rfl, ?_⟩
          refine wa_nil ?_
          refine ⟨_, rfl, szOk rfl, ?_⟩
          obtain ⟨hl47, h⟩ := h
          refine ⟨rfl, hl47, ?_⟩
          refine ws_env (env' := [a_self, .d rows, .d face, .ol a19 (found18 ++ ([(.tuple [plan23, place24, r46])] : List PyData)), .d plan23, .d place24, .d corners25]) rfl ?_
          refine ws_nil ?_
          exact ws_nil ⟨(found18 ++ ([(.tuple [plan23, place24, r46])] : List PyData)), ⟨a19, n_a19⟩, h, rfl⟩
        · replace h := h43 e44
          refine ws_nil ?_
          exact ws_nil ⟨found18, ⟨a19, n_a19⟩, h, rfl⟩
    · rintro found48 ⟨a49, n_a49⟩ h
      refine ws_env (env' := [a_self, .d rows, .d face, .ol a49 found48, .d plan23, .d place24, .d corners25]) rfl ?_
      exact ws_nil ⟨found48, (⟨a49, n_a49⟩, (.d plan23), (.d place24), (.d corners25)), h, rfl⟩
theorem ok_between (F : FnP K "between" s_between f fd) (hm : mg "between" = some (.ref f)) (hb : Binds K fd ["faces", "start", "corner", "end"] [])  :
    Has P w K mg base (k + 1) "between" ["faces", "start", "corner", "end"] c_between := by
  refine fn_has F hm sc_between hb rfl ?_
  rintro cdv A outer s H E g args Φ Ψ hr hp hM hl ⟨faces, start, corner, end_, Kf, Ef, rfl, h, hK, hE⟩
  unfold f_between at h
  refine ws_env (env' := [.d faces, .d start, .d corner, .d end_]) rfl ?_
  refine ws_cons (w1_ret ?_)
  refine we_ch (op_ltA hr) (op_ltA hr) ?_
  refine we_int ?_
  refine we_mod ?_
  refine we_sub ?_
  refine we_n 2 ?_
  refine we_n 1 ?_
  refine sub_sh h fun r1 h => ?_
  refine we_n 0 ?_
  refine mod_sh h fun r2 h => ?_
  refine ch_sh2 h (fun Q h => lt_sh h fun _ h => h) (fun Q h => ?_) fun b3 h => ?_
  · refine we_mod ?_
    refine we_sub ?_
    refine we_n 3 ?_
    refine we_n 1 ?_
    refine sub_sh h fun r5 h => ?_
    refine we_n 0 ?_
    refine mod_sh h fun r6 h => ?_
    exact lt_sh h fun _ h => h
  exact ⟨rfl, _, hK _ h, trivial, rfl, rfl, rfl, rfl, rfl⟩
theorem ok_third_corner (F : FnP K "third_corner" s_third_corner f fd) (hm : mg "third_corner" = some (.ref f)) (hb : Binds K fd ["plan", "near", "place", "way"] []) (h_between : Has P w K mg base k "between" ["faces", "start", "corner", "end"] c_between) :
    Has P w K mg base (k + 1) "third_corner" ["plan", "near", "place", "way"] c_third_corner := by
  refine fn_has F hm sc_third_corner hb rfl ?_
  rintro cdv A outer s H E g args Φ Ψ hr hp hM hl ⟨plan, near, place, way, Kf, Ef, rfl, h, hK, hE⟩
  unfold f_third_corner at h
  refine ws_env (env' := [.d plan, .d near, .d place, .d way, .un, .un, .un, .un, .un]) rfl ?_
  refine ws_cons (w1_unpack (pg_tup rfl (pgs_cons (pg_name (i := 4) sc_third_corner.nd rfl (by first | exact Or.inl rfl | exact Or.inr rfl)) (pgs_cons (pg_name (i := 5) sc_third_corner.nd rfl (by first | exact Or.inl rfl | exact Or.inr rfl)) pgs_nil))) (tgd_tup (tgds_cons (tgd_name 4) (tgds_cons (tgd_name 5) tgds_nil)) rfl) ?_)
  refine we_n 2 ?_
  obtain ⟨top1, under2, he3, h⟩ := un2_sh h
  refine ⟨rfl, [(4, top1), (5, under2)], (by rw [he3]; rfl), rfl, ?_⟩
  refine ws_env (env' := [.d plan, .d near, .d place, .d way, .d top1, .d under2, .un, .un, .un]) rfl ?_
  refine ws_cons (w1_unpack (pg_tup rfl (pgs_cons (pg_name (i := 6) sc_third_corner.nd rfl (by first | exact Or.inl rfl | exact Or.inr rfl)) (pgs_cons (pg_name (i := 7) sc_third_corner.nd rfl (by first | exact Or.inl rfl | exact Or.inr rfl)) pgs_nil))) (tgd_tup (tgds_cons (tgd_name 6) (tgds_cons (tgd_name 7) tgds_nil)) rfl) ?_)
  refine we_ifS h (fun Q h => ?_) (fun Q h => ?_) (fun Q h => ?_) fun r4 h => ?_
  · refine wt_cp (op_eqA hr) ?_
    refine we_n 3 ?_
    refine we_str ?_
    refine eq_sh h fun b5 h => ?_
    exact h
  · refine we_tuple ?_
    refine wa_d ?_
    refine we_n 4 ?_
    refine ⟨rfl, ?_⟩
    refine wa_d ?_
    refine we_n 5 ?_
    refine ⟨rfl, ?_⟩
    refine wa_nil ?_
    refine ⟨_, rfl, szOk rfl, ?_⟩
    exact ⟨rfl, h⟩
  · refine we_tuple ?_
    refine wa_d ?_
    refine we_n 5 ?_
    refine ⟨rfl, ?_⟩
    refine wa_d ?_
    refine we_n 4 ?_
    refine ⟨rfl, ?_⟩
    refine wa_nil ?_
    refine ⟨_, rfl, szOk rfl, ?_⟩
    exact ⟨rfl, h⟩
  obtain ⟨start6, end_7, he8, h⟩ := un2_sh h
  refine ⟨rfl, [(6, start6), (7, end_7)], (by rw [he8]; rfl), rfl, ?_⟩
  refine ws_env (env' := [.d plan, .d near, .d place, .d way, .d top1, .d under2, .d start6, .d end_7, .un]) rfl ?_
  refine ws_cons (w1_for hp rfl (pg_name (i := 8) sc_third_corner.nd rfl (by first | exact Or.inl rfl | exact Or.inr rfl)) (tgd_name 8) ?_)
  refine wi_d ?_
  refine we_ix ?_
  refine we_n 1 ?_
  refine we_n 4 ?_
  refine ix_sh h fun r10 h => ?_
  refine ⟨rfl, it_sh h fun xs9 h => ?_⟩
  refine forS h (fun (s : Unit) (u : Sl) => [.d plan, .d near, .d place, .d way, .d top1, .d under2, .d start6, .d end_7, u]) (.un) rfl ?_ ?_
  · rintro _ w11 h
    refine ws_env (env' := [.d plan, .d near, .d place, .d way, .d top1, .d under2, .d start6, .d end_7, w11]) rfl ?_
    refine ws_cons (w1_ret ?_)
    refine we_none ?_
    exact ⟨rfl, _, hK _ h, trivial, rfl, rfl, rfl, rfl, rfl⟩
  · rintro hend corner12 _ w15 N13 h
    refine ⟨[(8, corner12)], rfl, rfl, ?_⟩
    refine ws_env (env' := [.d plan, .d near, .d place, .d way, .d top1, .d under2, .d start6, .d end_7, .d corner12]) rfl ?_
    refine ws_cons (w1_if ?_)
    refine wt_ww ?_
    refine ww_andS h (fun Q h => ?_) (fun Q h => ?_) fun b16 h => ?_
    · refine wt_cp (op_inA hr) ?_
      refine we_n 8 ?_
      refine we_ix ?_
      refine we_n 1 ?_
      refine we_n 5 ?_
      refine ix_sh h fun r17 h => ?_
      refine in_sh h fun b18 h => ?_
      exact h
    · refine ww_and1 ?_
      refine wt_e ?_
      refine we_call h_between hr ?_
      refine wa_d ?_
      refine we_ix ?_
      refine we_n 0 ?_
      refine we_int ?_
      refine ix_sh h fun r19 h => ?_
      refine ⟨rfl, ?_⟩
      refine wa_d ?_
      refine we_n 6 ?_
      refine ⟨rfl, ?_⟩
      refine wa_d ?_
      refine we_n 8 ?_
      refine ⟨rfl, ?_⟩
      refine wa_d ?_
      refine we_n 7 ?_
      refine ⟨rfl, ?_⟩
      refine wa_nil ?_
      refine ⟨rfl, _, _, _, _, _, _, rfl, h, fun r20 h => ⟨rfl, _, rfl, ?_⟩, fun c hc => ⟨rfl, ⟨_, hE _ hc, rfl, rfl, rfl, rfl, rfl⟩⟩⟩
      refine bool_sh h fun b21 h => ?_
      exact h
    obtain ⟨h22, h23⟩ := h
    refine ⟨fun e24 => ?_, fun e24 => ?_⟩
    · replace h := h22 e24
      refine ws_cons (w1_ret ?_)
      refine we_n 8 ?_
      exact ⟨rfl, _, hK _ h, trivial, rfl, rfl, rfl, rfl, rfl⟩
    · replace h := h23 e24
      refine ws_nil ?_
      exact ws_nil ⟨(), (.d corner12), h, rfl⟩
theorem ok_Watch__went (F : FnPM K "went" "Watch.went" s_Watch__went f fd) (hm : Meth K (He.ga K "Watch") "went" f) (hb : Binds K fd ["self", "way", "face"] []) (h_need_way : Has P w K mg base k "need_way" ["way"] c_need_way) (h_third_corner : Has P w K mg base k "third_corner" ["plan", "near", "place", "way"] c_third_corner) (h_neighbours : Has P w K mg base k "neighbours" ["plan"] c_neighbours) (h_Watch__need_number : HasM P w K mg base k "Watch" "need_number" ["self", "face"] c_Watch__need_number) (na_Watch_stages : NoAttr K (He.ga K "Watch") "stages") (h_Watch__shown : HasM P w K mg base k "Watch" "shown" ["self", "rows", "face"] c_Watch__shown) :
    HasM P w K mg base (k + 1) "Watch" "went" ["self", "way", "face"] c_Watch__went := by
  refine fn_hasM F hm sc_Watch__went hb rfl ?_
  rintro cdv A outer s H E g args Φ Ψ hr hp hM hl ⟨a_self, self_stages, way, face, Kf, Ef, hi_self, rfl, h, hK, hE⟩
  unfold f_Watch__went at h
  refine ws_env (env' := [a_self, .d way, .d face, .un, .un, .un, .un, .un]) rfl ?_
  refine ws_cons (w1_expr ?_)
  refine we_call h_need_way hr ?_
  refine wa_d ?_
  refine we_n 1 ?_
  refine ⟨rfl, ?_⟩
  refine wa_nil ?_
  refine ⟨rfl, _, _, _, rfl, h, fun r1 h => ⟨rfl, _, rfl, ?_⟩, fun c hc => ⟨rfl, ⟨_, hE _ hc, back_ob hi_self hi_self ((obM_refl (g := g))).1, rfl, rfl, rfl⟩⟩⟩
  refine ws_cons (w1_expr ?_)
  refine we_meth 0 mcall1 h_Watch__need_number hr hi_self rfl ?_
  refine waz_cons ?_
  refine wa_d ?_
  refine we_n 2 ?_
  refine ⟨rfl, ?_⟩
  refine wa_nil ?_
  refine ⟨rfl, a_self, self_stages, _, _, _, hi_self, rfl, h, fun r2 h => ⟨_, rfl, rfl, _, rfl, ?_⟩, fun c hc => ⟨rfl, ⟨_, hE _ hc, back_ob hi_self hi_self ((obM_refl (g := g))).1, rfl, rfl, rfl⟩⟩⟩
  refine ws_cons (w1_setN 3 sc_Watch__went.nd ?_)
  refine wn_list ?_
  refine wa_nil ?_
  refine ⟨_, rfl, szOk rfl, ?_⟩
  intro a3 n_a3
  refine ws_env (env' := [a_self, .d way, .d face, .ol a3 [], .un, .un, .un, .un]) rfl ?_
  refine ws_cons (w1_for hp rfl (pg_tup rfl (pgs_cons (pg_name (i := 4) sc_Watch__went.nd rfl (by first | exact Or.inl rfl | exact Or.inr rfl)) (pgs_cons (pg_name (i := 5) sc_Watch__went.nd rfl (by first | exact Or.inl rfl | exact Or.inr rfl)) (pgs_cons (pg_name (i := 6) sc_Watch__went.nd rfl (by first | exact Or.inl rfl | exact Or.inr rfl)) pgs_nil)))) (tgd_tup (tgds_cons (tgd_name 4) (tgds_cons (tgd_name 5) (tgds_cons (tgd_name 6) tgds_nil))) rfl) ?_)
  refine wi_d ?_
  refine we_ix ?_
  refine we_ix ?_
  refine we_fldL 0 hi_self na_Watch_stages rfl ?_
  refine we_neg ?_
  refine we_int ?_
  refine ⟨_, rfl, ?_⟩
  refine ix_sh h fun r5 h => ?_
  refine we_int ?_
  refine ix_sh h fun r6 h => ?_
  refine ⟨rfl, it_sh h fun xs4 h => ?_⟩
  refine forS h (fun (s : (List PyData)) (u : Sl × {a : Addr // a ∉ g.M} × Sl × Sl × Sl) => [a_self, .d way, .d face, .ol u.2.1.1 s, u.2.2.1, u.2.2.2.1, u.2.2.2.2, u.1]) ((.un), ⟨a3, n_a3⟩, (.un), (.un), (.un)) rfl ?_ ?_
  · rintro rows7 ⟨w8, ⟨a9, n_a9⟩, w10, w11, w12⟩ h
    refine ws_env (env' := [a_self, .d way, .d face, .ol a9 rows7, w10, w11, w12, w8]) rfl ?_
    refine ws_freeze 3 n_a9 ?_
    refine ws_env (env' := [a_self, .d way, .d face, .d (.list rows7), w10, w11, w12, w8]) rfl ?_
    refine ws_cons (w1_exprM ?_)
    refine wm_meth 0 mcall1 h_Watch__shown hr hi_self rfl ?_
    refine waz_cons ?_
    refine wa_d ?_
    refine we_n 3 ?_
    refine ⟨rfl, ?_⟩
    refine wa_d ?_
    refine we_n 2 ?_
    refine ⟨rfl, ?_⟩
    refine wa_nil ?_
    refine ⟨rfl, a_self, self_stages, _, _, _, _, hi_self, rfl, h, fun r13 stages_18 s14 h hn15 hid16 => ⟨s14, rfl, hid16, _, rfl, fun hm17 => ?_⟩, fun c hc => ⟨rfl, ⟨_, hE _ hc, back_ob hi_self hi_self ((obM_refl (g := g))).1, rfl, rfl, rfl⟩⟩⟩
    refine ws_env (env' := [s14, .d way, .d face, .d (.list rows7), w10, w11, w12, w8]) rfl ?_
    exact ws_nil ⟨_, hK _ _ _ h hn15 ((obM_trans (obM_refl (g := g)) hm17)).1, back_ob hi_self hn15 ((obM_trans (obM_refl (g := g)) hm17)).1, rfl, rfl, rfl⟩
  · rintro hend p19 rows22 ⟨w23, ⟨a24, n_a24⟩, w25, w26, w27⟩ N20 h
    obtain ⟨plan28, place29, corners30, he31, h⟩ := un3_sh h
    refine ⟨[(4, plan28), (5, place29), (6, corners30)], (by rw [he31]; rfl), rfl, ?_⟩
    refine ws_env (env' := [a_self, .d way, .d face, .ol a24 rows22, .d plan28, .d place29, .d corners30, w23]) rfl ?_
    refine ws_cons (w1_set 7 sc_Watch__went.nd ?_)
    refine we_call h_third_corner hr ?_
    refine wa_d ?_
    refine we_n 4 ?_
    refine ⟨rfl, ?_⟩
    refine wa_d ?_
    refine we_call h_neighbours hr ?_
    refine wa_d ?_
    refine we_n 4 ?_
    refine ⟨rfl, ?_⟩
    refine wa_nil ?_
    refine ⟨rfl, _, _, _, rfl, h, fun r32 h => ⟨rfl, _, rfl, ?_⟩, fun c hc => ⟨rfl, ⟨_, hE _ hc, back_ob hi_self hi_self ((obM_refl (g := g))).1, rfl, rfl, rfl⟩⟩⟩
    refine ⟨rfl, ?_⟩
    refine wa_d ?_
    refine we_n 5 ?_
    refine ⟨rfl, ?_⟩
    refine wa_d ?_
    refine we_n 1 ?_
    refine ⟨rfl, ?_⟩
    refine wa_nil ?_
    refine ⟨rfl, _, _, _, _, _, _, rfl, h, fun r33 h => ⟨rfl, _, rfl, ?_⟩, fun c hc => ⟨rfl, ⟨_, hE _ hc, back_ob hi_self hi_self ((obM_refl (g := g))).1, rfl, rfl, rfl⟩⟩⟩
    refine ⟨rfl, ?_⟩
    refine ws_env (env' := [a_self, .d way, .d face, .ol a24 rows22, .d plan28, .d place29, .d corners30, .d r33]) rfl ?_
    refine ws_cons (w1_if ?_)
    refine wt_cp op_notN ?_
    refine we_n 7 ?_
    refine we_none ?_
    refine notN_sh ?_
    obtain ⟨h34, h35⟩ := h
    refine ⟨fun e36 => ?_, fun e36 => ?_⟩
    · replace h := h34 e36
      refine ws_cons (w1_append 3 rfl ?_)
      refine we_tuple ?_
      refine wa_d ?_
      refine we_n 4 ?_
      refine ⟨rfl, ?_⟩
      refine wa_d ?_
      refine we_tuple ?_
      refine wa_d ?_
      refine we_n 7 ?_
      refine ⟨rfl, ?_⟩
      refine wa_d ?_
      refine we_ix ?_
      refine we_n 5 ?_
      refine we_int ?_
      refine ix_sh h fun r37 h => ?_
      refine ⟨rfl, ?_⟩
      refine wa_nil ?_
      refine ⟨_, rfl, szOk rfl, ?_⟩
      refine ⟨rfl, ?_⟩
      refine wa_d ?_
      refine we_n 6 ?_
      refine ⟨rfl, ?_⟩
      refine wa_nil ?_
      refine ⟨_, rfl, szOk rfl, ?_⟩
      obtain ⟨hl38, h⟩ := h
      refine ⟨rfl, hl38, ?_⟩
      refine ws_env (env' := [a_self, .d way, .d face, .ol a24 (rows22 ++ ([(.tuple [plan28, (.tuple [r33, r37]), corners30])] : List PyData)), .d plan28, .d place29, .d corners30, .d r33]) rfl ?_
      refine ws_nil ?_
      exact ws_nil ⟨(rows22 ++ ([(.tuple [plan28, (.tuple [r33, r37]), corners30])] : List PyData)), ((.d r33), ⟨a24, n_a24⟩, (.d plan28), (.d place29), (.d corners30)), h, rfl⟩
    · replace h := h35 e36
      refine ws_nil ?_
      exact ws_nil ⟨rows22, ((.d r33), ⟨a24, n_a24⟩, (.d plan28), (.d place29), (.d corners30)), h, rfl⟩
theorem ok_Watch__stuck (F : FnPM K "stuck" "Watch.stuck" s_Watch__stuck f fd) (hm : Meth K (He.ga K "Watch") "stuck" f) (hb : Binds K fd ["self", "way"] []) (h_need_way : Has P w K mg base k "need_way" ["way"] c_need_way) (h_third_corner : Has P w K mg base k "third_corner" ["plan", "near", "place", "way"] c_third_corner) (h_neighbours : Has P w K mg base k "neighbours" ["plan"] c_neighbours) (na_Watch_stages : NoAttr K (He.ga K "Watch") "stages") (h_Watch__met : HasM P w K mg base k "Watch" "met" ["self"] c_Watch__met) :
    HasM P w K mg base (k + 1) "Watch" "stuck" ["self", "way"] c_Watch__stuck := by
  refine fn_hasM F hm sc_Watch__stuck hb rfl ?_
  rintro cdv A outer s H E g args Φ Ψ hr hp hM hl ⟨a_self, self_stages, way, Kf, Ef, hi_self, rfl, h, hK, hE⟩
  unfold f_Watch__stuck at h
  refine ws_env (env' := [a_self, .d way, .un, .un, .un, .un]) rfl ?_
  refine ws_cons (w1_expr ?_)
  refine we_call h_need_way hr ?_
  refine wa_d ?_
  refine we_n 1 ?_
  refine ⟨rfl, ?_⟩
  refine wa_nil ?_
  refine ⟨rfl, _, _, _, rfl, h, fun r1 h => ⟨rfl, _, rfl, ?_⟩, fun c hc => ⟨rfl, ⟨_, hE _ hc, back_ob hi_self hi_self ((obM_refl (g := g))).1, rfl, rfl⟩⟩⟩
  refine ws_cons (w1_setN 2 sc_Watch__stuck.nd ?_)
  refine wn_list ?_
  refine wa_nil ?_
  refine ⟨_, rfl, szOk rfl, ?_⟩
  intro a2 n_a2
  refine ws_env (env' := [a_self, .d way, .ol a2 [], .un, .un, .un]) rfl ?_
  refine ws_cons (w1_for hp rfl (pg_tup rfl (pgs_cons (pg_name (i := 3) sc_Watch__stuck.nd rfl (by first | exact Or.inl rfl | exact Or.inr rfl)) (pgs_cons (pg_name (i := 4) sc_Watch__stuck.nd rfl (by first | exact Or.inl rfl | exact Or.inr rfl)) (pgs_cons (pg_name (i := 5) sc_Watch__stuck.nd rfl (by first | exact Or.inl rfl | exact Or.inr rfl)) pgs_nil)))) (tgd_tup (tgds_cons (tgd_name 3) (tgds_cons (tgd_name 4) (tgds_cons (tgd_name 5) tgds_nil))) rfl) ?_)
  refine wi_d ?_
  refine we_ix ?_
  refine we_ix ?_
  refine we_fldL 0 hi_self na_Watch_stages rfl ?_
  refine we_neg ?_
  refine we_int ?_
  refine ⟨_, rfl, ?_⟩
  refine ix_sh h fun r4 h => ?_
  refine we_int ?_
  refine ix_sh h fun r5 h => ?_
  refine ⟨rfl, it_sh h fun xs3 h => ?_⟩
  refine forS h (fun (s : (List PyData)) (u : {a : Addr // a ∉ g.M} × Sl × Sl × Sl) => [a_self, .d way, .ol u.1.1 s, u.2.1, u.2.2.1, u.2.2.2]) (⟨a2, n_a2⟩, (.un), (.un), (.un)) rfl ?_ ?_
  · rintro found6 ⟨⟨a7, n_a7⟩, w8, w9, w10⟩ h
    refine ws_env (env' := [a_self, .d way, .ol a7 found6, w8, w9, w10]) rfl ?_
    refine ws_freeze 2 n_a7 ?_
    refine ws_env (env' := [a_self, .d way, .d (.list found6), w8, w9, w10]) rfl ?_
    refine ws_cons (w1_fldApp 0 hi_self na_Watch_stages rfl ?_)
    refine we_tuple ?_
    refine wa_d ?_
    refine we_n 2 ?_
    refine ⟨rfl, ?_⟩
    refine wa_d ?_
    refine we_meth 0 mcall0 h_Watch__met hr hi_self rfl ?_
    refine waz_nil ?_
    refine ⟨rfl, a_self, self_stages, _, _, hi_self, rfl, h, fun r14 h => ⟨_, rfl, rfl, _, rfl, ?_⟩, fun c hc => ⟨rfl, ⟨_, hE _ hc, back_ob hi_self hi_self ((obM_refl (g := g))).1, rfl, rfl⟩⟩⟩
    refine ⟨rfl, ?_⟩
    refine wa_nil ?_
    refine ⟨_, rfl, szOk rfl, ?_⟩
    obtain ⟨hl15, h⟩ := h
    refine ⟨rfl, hl15, fun s11 hn12 hm13 => ?_⟩
    replace hn12 : IsOb "Watch" [("stages", .l (self_stages ++ ([(.tuple [(.list found6), r14])] : List PyData)))] s11 := hn12
    refine ws_env (env' := [s11, .d way, .d (.list found6), w8, w9, w10]) rfl ?_
    exact ws_nil ⟨_, hK _ _ _ h hn12 ((obM_trans (obM_refl (g := g)) hm13)).1, back_ob hi_self hn12 ((obM_trans (obM_refl (g := g)) hm13)).1, rfl, rfl⟩
  · rintro hend p16 found19 ⟨⟨a20, n_a20⟩, w21, w22, w23⟩ N17 h
    obtain ⟨plan24, place25, corners26, he27, h⟩ := un3_sh h
    refine ⟨[(3, plan24), (4, place25), (5, corners26)], (by rw [he27]; rfl), rfl, ?_⟩
    refine ws_env (env' := [a_self, .d way, .ol a20 found19, .d plan24, .d place25, .d corners26]) rfl ?_
    refine ws_cons (w1_if ?_)
    refine wt_cp op_isN ?_
    refine we_call h_third_corner hr ?_
    refine wa_d ?_
    refine we_n 3 ?_
    refine ⟨rfl, ?_⟩
    refine wa_d ?_
    refine we_call h_neighbours hr ?_
    refine wa_d ?_
    refine we_n 3 ?_
    refine ⟨rfl, ?_⟩
    refine wa_nil ?_
    refine ⟨rfl, _, _, _, rfl, h, fun r28 h => ⟨rfl, _, rfl, ?_⟩, fun c hc => ⟨rfl, ⟨_, hE _ hc, back_ob hi_self hi_self ((obM_refl (g := g))).1, rfl, rfl⟩⟩⟩
    refine ⟨rfl, ?_⟩
    refine wa_d ?_
    refine we_n 4 ?_
    refine ⟨rfl, ?_⟩
    refine wa_d ?_
    refine we_n 1 ?_
    refine ⟨rfl, ?_⟩
    refine wa_nil ?_
    refine ⟨rfl, _, _, _, _, _, _, rfl, h, fun r29 h => ⟨rfl, _, rfl, ?_⟩, fun c hc => ⟨rfl, ⟨_, hE _ hc, back_ob hi_self hi_self ((obM_refl (g := g))).1, rfl, rfl⟩⟩⟩
    refine we_none ?_
    refine isN_sh ?_
    obtain ⟨h30, h31⟩ := h
    refine ⟨fun e32 => ?_, fun e32 => ?_⟩
    · replace h := h30 e32
      refine ws_cons (w1_append 2 rfl ?_)
      refine we_tuple ?_
      refine wa_d ?_
      refine we_n 3 ?_
      refine ⟨rfl, ?_⟩
      refine wa_d ?_
      refine we_n 4 ?_
      refine ⟨rfl, ?_⟩
      refine wa_d ?_
      refine we_n 5 ?_
      refine ⟨rfl, ?_⟩
      refine wa_nil ?_
      refine ⟨_, rfl, szOk rfl, ?_⟩
      obtain ⟨hl33, h⟩ := h
      refine ⟨rfl, hl33, ?_⟩
      refine ws_env (env' := [a_self, .d way, .ol a20 (found19 ++ ([(.tuple [plan24, place25, corners26])] : List PyData)), .d plan24, .d place25, .d corners26]) rfl ?_
      refine ws_nil ?_
      exact ws_nil ⟨(found19 ++ ([(.tuple [plan24, place25, corners26])] : List PyData)), (⟨a20, n_a20⟩, (.d plan24), (.d place25), (.d corners26)), h, rfl⟩
    · replace h := h31 e32
      refine ws_nil ?_
      exact ws_nil ⟨found19, (⟨a20, n_a20⟩, (.d plan24), (.d place25), (.d corners26)), h, rfl⟩
theorem ok_Watch__turned_over (F : FnPM K "turned_over" "Watch.turned_over" s_Watch__turned_over f fd) (hm : Meth K (He.ga K "Watch") "turned_over" f) (hb : Binds K fd ["self", "face"] []) (h_Watch__need_number : HasM P w K mg base k "Watch" "need_number" ["self", "face"] c_Watch__need_number) (na_Watch_stages : NoAttr K (He.ga K "Watch") "stages") (h_Watch__shown : HasM P w K mg base k "Watch" "shown" ["self", "rows", "face"] c_Watch__shown) :
    HasM P w K mg base (k + 1) "Watch" "turned_over" ["self", "face"] c_Watch__turned_over := by
  refine fn_hasM F hm sc_Watch__turned_over hb rfl ?_
  rintro cdv A outer s H E g args Φ Ψ hr hp hM hl ⟨a_self, self_stages, face, Kf, Ef, hi_self, rfl, h, hK, hE⟩
  unfold f_Watch__turned_over at h
  refine ws_env (env' := [a_self, .d face, .un, .un, .un, .un]) rfl ?_
  refine ws_cons (w1_expr ?_)
  refine we_meth 0 mcall1 h_Watch__need_number hr hi_self rfl ?_
  refine waz_cons ?_
  refine wa_d ?_
  refine we_n 1 ?_
  refine ⟨rfl, ?_⟩
  refine wa_nil ?_
  refine ⟨rfl, a_self, self_stages, _, _, _, hi_self, rfl, h, fun r1 h => ⟨_, rfl, rfl, _, rfl, ?_⟩, fun c hc => ⟨rfl, ⟨_, hE _ hc, back_ob hi_self hi_self ((obM_refl (g := g))).1, rfl, rfl⟩⟩⟩
  refine ws_cons (w1_setLc 2 (own := [("plan", 3), ("place", 4), ("corners", 5)]) rfl sc_Watch__turned_over.nd piS (blkOk_by (by rfl)) (fun _ _ _ _ _ => (pg_tup rfl (pgs_cons (pg_name (i := 3) sc_Watch__turned_over.nd rfl (by first | exact Or.inl rfl | exact Or.inr rfl)) (pgs_cons (pg_name (i := 4) sc_Watch__turned_over.nd rfl (by first | exact Or.inl rfl | exact Or.inr rfl)) (pgs_cons (pg_name (i := 5) sc_Watch__turned_over.nd rfl (by first | exact Or.inl rfl | exact Or.inr rfl)) pgs_nil))))) (by decide) (nt_lc (tgd_tup (tgds_cons (tgd_name 3) (tgds_cons (tgd_name 4) (tgds_cons (tgd_name 5) tgds_nil))) rfl) rfl ?_))
  refine wi_d ?_
  refine we_ix ?_
  refine we_ix ?_
  refine we_fldL 0 hi_self na_Watch_stages rfl ?_
  refine we_neg ?_
  refine we_int ?_
  refine ⟨_, rfl, ?_⟩
  refine ix_sh h fun r3 h => ?_
  refine we_int ?_
  refine ix_sh h fun r4 h => ?_
  refine ⟨rfl, it_sh h fun xs2 h => ?_⟩
  refine lcS h (fun p5 kp sk h => ?_) fun l6 h => ?_
  · obtain ⟨plan7, place8, corners9, he10, h⟩ := un3_sh h
    refine ⟨[(3, plan7), (4, place8), (5, corners9)], (by rw [he10]; rfl), rfl, fun g' s1 H1 C1 cl1 fp1 => ?_⟩
    refine ⟨fun _ s1 H1 C1 cl1 fp1 => ?_, fun z => by cases z⟩
    refine we_tuple ?_
    refine wa_d ?_
    refine we_n 3 ?_
    refine ⟨rfl, ?_⟩
    refine wa_d ?_
    refine we_tuple ?_
    refine wa_d ?_
    refine we_ix ?_
    refine we_n 4 ?_
    refine we_int ?_
    refine ix_sh h fun r11 h => ?_
    refine ⟨rfl, ?_⟩
    refine wa_d ?_
    refine we_ix ?_
    refine we_n 4 ?_
    refine we_int ?_
    refine ix_sh h fun r12 h => ?_
    refine ⟨rfl, ?_⟩
    refine wa_nil ?_
    refine ⟨_, rfl, szOk rfl, ?_⟩
    refine ⟨rfl, ?_⟩
    refine wa_d ?_
    refine we_n 5 ?_
    refine ⟨rfl, ?_⟩
    refine wa_nil ?_
    refine ⟨_, rfl, szOk rfl, ?_⟩
    exact ⟨rfl, h⟩
  refine ws_env (env' := [a_self, .d face, .d (.list l6), .un, .un, .un]) rfl ?_
  refine ws_cons (w1_exprM ?_)
  refine wm_meth 0 mcall1 h_Watch__shown hr hi_self rfl ?_
  refine waz_cons ?_
  refine wa_d ?_
  refine we_n 2 ?_
  refine ⟨rfl, ?_⟩
  refine wa_d ?_
  refine we_n 1 ?_
  refine ⟨rfl, ?_⟩
  refine wa_nil ?_
  refine ⟨rfl, a_self, self_stages, _, _, _, _, hi_self, rfl, h, fun r13 stages_18 s14 h hn15 hid16 => ⟨s14, rfl, hid16, _, rfl, fun hm17 => ?_⟩, fun c hc => ⟨rfl, ⟨_, hE _ hc, back_ob hi_self hi_self ((obM_refl (g := g))).1, rfl, rfl⟩⟩⟩
  refine ws_env (env' := [s14, .d face, .d (.list l6), .un, .un, .un]) rfl ?_
  exact ws_nil ⟨_, hK _ _ _ h hn15 ((obM_trans (obM_refl (g := g)) hm17)).1, back_ob hi_self hn15 ((obM_trans (obM_refl (g := g)) hm17)).1, rfl, rfl⟩
theorem ok__law_watch_do (F : FnP K "_law_watch_do" s__law_watch_do f fd) (hm : mg "_law_watch_do" = some (.ref f)) (hb : Binds K fd ["_law_watch", "_law_sight"] []) (xg_BadWay : mg "BadWay" = some (.ref (He.ga K "BadWay"))) (xm_BadWay : ∀ m ∈ (["BadWay", "BadNumber"] : List Str), ExM K (.own m) "BadWay" = some (isE m "BadWay")) (xg_BadNumber : mg "BadNumber" = some (.ref (He.ga K "BadNumber"))) (xm_BadNumber : ∀ m ∈ (["BadWay", "BadNumber"] : List Str), ExM K (.own m) "BadNumber" = some (isE m "BadNumber")) (xg_PinchError : mg "PinchError" = some (.ref (He.ga K "PinchError"))) (xm_PinchError : ∀ m ∈ (["BadWay", "BadNumber"] : List Str), ExM K (.own m) "PinchError" = some (isE m "PinchError")) (h_Watch__went : HasM P w K mg base k "Watch" "went" ["self", "way", "face"] c_Watch__went) (h_Watch__stuck : HasM P w K mg base k "Watch" "stuck" ["self", "way"] c_Watch__stuck) (h_Watch__turned_over : HasM P w K mg base k "Watch" "turned_over" ["self", "face"] c_Watch__turned_over) :
    Has P w K mg base (k + 1) "_law_watch_do" ["_law_watch", "_law_sight"] c__law_watch_do := by
  refine fn_has F hm sc__law_watch_do hb rfl ?_
  rintro cdv A outer s H E g args Φ Ψ hr hp hM hl ⟨a_l_watch, l_watch_stages, l_sight, Kf, Ef, hi_l_watch, rfl, h, hK, hE⟩
  unfold f__law_watch_do at h
  refine ws_env (env' := [a_l_watch, .d l_sight, .un, .un, .un, .un]) rfl ?_
  refine ws_cons (w1_unpack (pg_tup rfl (pgs_cons (pg_name (i := 2) sc__law_watch_do.nd rfl (by first | exact Or.inl rfl | exact Or.inr rfl)) (pgs_cons (pg_name (i := 3) sc__law_watch_do.nd rfl (by first | exact Or.inl rfl | exact Or.inr rfl)) (pgs_cons (pg_name (i := 4) sc__law_watch_do.nd rfl (by first | exact Or.inl rfl | exact Or.inr rfl)) pgs_nil)))) (tgd_tup (tgds_cons (tgd_name 2) (tgds_cons (tgd_name 3) (tgds_cons (tgd_name 4) tgds_nil))) rfl) ?_)
  refine we_n 1 ?_
  obtain ⟨l_word1, l_way2, l_face3, he4, h⟩ := un3_sh h
  refine ⟨rfl, [(2, l_word1), (3, l_way2), (4, l_face3)], (by rw [he4]; rfl), rfl, ?_⟩
  refine ws_env (env' := [a_l_watch, .d l_sight, .d l_word1, .d l_way2, .d l_face3, .un]) rfl ?_
  refine ws_cons (w1_set 5 sc__law_watch_do.nd ?_)
  refine we_str ?_
  refine ⟨rfl, ?_⟩
  refine ws_env (env' := [a_l_watch, .d l_sight, .d l_word1, .d l_way2, .d l_face3, .d (.str "told")]) rfl ?_
  refine ws_joinSC h (fun (s : PyData × (List PyData)) (u : {s : Sl // obM g a_l_watch s}) => [u.1, .d l_sight, .d l_word1, .d l_way2, .d l_face3, .d s.1]) (fun (s : PyData × (List PyData)) (u : {s : Sl // obM g a_l_watch s}) => IsOb "Watch" [("stages", .l s.2)] u.1) (fun Q h => ?_) ?_
  · refine w1_tryS h (.cons ⟨rfl, rfl, Or.inl xg_BadWay⟩ (.cons ⟨rfl, rfl, Or.inl xg_BadNumber⟩ (.cons ⟨rfl, rfl, Or.inl xg_PinchError⟩ .nil))) (fun m5 hm6 h => ?_) (fun h pn7 xe8 F9 hp => ?_)
    · obtain ⟨h10, h11⟩ := h
      refine ⟨_, xm_BadWay m5 hm6, fun e12 a13 q14 pn15 => ?_, fun e12 => ?_⟩
      · replace h := h10 e12
        refine ws_cons (w1_set 5 sc__law_watch_do.nd ?_)
        refine we_str ?_
        refine ⟨rfl, ?_⟩
        refine ws_env (env' := [a_l_watch, .d l_sight, .d l_word1, .d l_way2, .d l_face3, .d (.str "BadWay")]) rfl ?_
        exact ws_nil ⟨((.str "BadWay"), l_watch_stages), ⟨a_l_watch, (obM_refl (g := g))⟩, h, hi_l_watch, rfl⟩
      replace h := h11 e12
      obtain ⟨h16, h17⟩ := h
      refine ⟨_, xm_BadNumber m5 hm6, fun e18 a19 q20 pn21 => ?_, fun e18 => ?_⟩
      · replace h := h16 e18
        refine ws_cons (w1_set 5 sc__law_watch_do.nd ?_)
        refine we_str ?_
        refine ⟨rfl, ?_⟩
        refine ws_env (env' := [a_l_watch, .d l_sight, .d l_word1, .d l_way2, .d l_face3, .d (.str "BadNumber")]) rfl ?_
        exact ws_nil ⟨((.str "BadNumber"), l_watch_stages), ⟨a_l_watch, (obM_refl (g := g))⟩, h, hi_l_watch, rfl⟩
      replace h := h17 e18
      obtain ⟨h22, h23⟩ := h
      refine ⟨_, xm_PinchError m5 hm6, fun e24 a25 q26 pn27 => ?_, fun e24 => ?_⟩
      · replace h := h22 e24
        refine ws_cons (w1_set 5 sc__law_watch_do.nd ?_)
        refine we_str ?_
        refine ⟨rfl, ?_⟩
        refine ws_env (env' := [a_l_watch, .d l_sight, .d l_word1, .d l_way2, .d l_face3, .d (.str "other")]) rfl ?_
        exact ws_nil ⟨((.str "other"), l_watch_stages), ⟨a_l_watch, (obM_refl (g := g))⟩, h, hi_l_watch, rfl⟩
      replace h := h23 e24
      exact ⟨_, hE _ h, back_ob hi_l_watch hi_l_watch ((obM_refl (g := g))).1, rfl, rfl⟩
    · refine ws_joinSC h (fun (s : PyData × (List PyData)) (u : {s : Sl // obM g a_l_watch s}) => [u.1, .d l_sight, .d l_word1, .d l_way2, .d l_face3, .d s.1]) (fun (s : PyData × (List PyData)) (u : {s : Sl // obM g a_l_watch s}) => IsOb "Watch" [("stages", .l s.2)] u.1) (fun Q h => ?_) ?_
      · refine w1_if ?_
        refine wt_cp (op_eqA hr) ?_
        refine we_n 2 ?_
        refine we_str ?_
        refine eq_sh h fun b29 h => ?_
        obtain ⟨h30, h31⟩ := h
        refine ⟨fun e32 => ?_, fun e32 => ?_⟩
        · replace h := h30 e32
          refine ws_cons (w1_setM 5 sc__law_watch_do.nd ?_)
          refine wm_meth 0 mcall1 h_Watch__went hr hi_l_watch rfl ?_
          refine waz_cons ?_
          refine wa_d ?_
          refine we_n 3 ?_
          refine ⟨rfl, ?_⟩
          refine wa_d ?_
          refine we_n 4 ?_
          refine ⟨rfl, ?_⟩
          refine wa_nil ?_
          refine ⟨rfl, a_l_watch, l_watch_stages, _, _, _, _, hi_l_watch, rfl, h, fun r33 stages_38 s34 h hn35 hid36 => ⟨s34, rfl, hid36, _, rfl, fun hm37 => ?_⟩, fun c hc => ⟨rfl, ⟨hc, rfl⟩⟩⟩
          refine ⟨rfl, ?_⟩
          refine ws_env (env' := [s34, .d l_sight, .d l_word1, .d l_way2, .d l_face3, .d r33]) rfl ?_
          exact ws_nil ⟨(r33, stages_38), ⟨s34, (obM_trans (obM_refl (g := g)) hm37)⟩, h, hn35, rfl⟩
        · replace h := h31 e32
          refine ws_joinSC h (fun (s : PyData × (List PyData)) (u : {s : Sl // obM g a_l_watch s}) => [u.1, .d l_sight, .d l_word1, .d l_way2, .d l_face3, .d s.1]) (fun (s : PyData × (List PyData)) (u : {s : Sl // obM g a_l_watch s}) => IsOb "Watch" [("stages", .l s.2)] u.1) (fun Q h => ?_) ?_
          · refine w1_if ?_
            refine wt_cp (op_eqA hr) ?_
            refine we_n 2 ?_
            refine we_str ?_
            refine eq_sh h fun b39 h => ?_
            obtain ⟨h40, h41⟩ := h
            refine ⟨fun e42 => ?_, fun e42 => ?_⟩
            · replace h := h40 e42
              refine ws_cons (w1_setM 5 sc__law_watch_do.nd ?_)
              refine wm_meth 0 mcall1 h_Watch__stuck hr hi_l_watch rfl ?_
              refine waz_cons ?_
              refine wa_d ?_
              refine we_n 3 ?_
              refine ⟨rfl, ?_⟩
              refine wa_nil ?_
              refine ⟨rfl, a_l_watch, l_watch_stages, _, _, _, hi_l_watch, rfl, h, fun r43 stages_48 s44 h hn45 hid46 => ⟨s44, rfl, hid46, _, rfl, fun hm47 => ?_⟩, fun c hc => ⟨rfl, ⟨hc, rfl⟩⟩⟩
              refine ⟨rfl, ?_⟩
              refine ws_env (env' := [s44, .d l_sight, .d l_word1, .d l_way2, .d l_face3, .d r43]) rfl ?_
              exact ws_nil ⟨(r43, stages_48), ⟨s44, (obM_trans (obM_refl (g := g)) hm47)⟩, h, hn45, rfl⟩
            · replace h := h41 e42
              refine ws_cons (w1_setM 5 sc__law_watch_do.nd ?_)
              refine wm_meth 0 mcall1 h_Watch__turned_over hr hi_l_watch rfl ?_
              refine waz_cons ?_
              refine wa_d ?_
              refine we_n 4 ?_
              refine ⟨rfl, ?_⟩
              refine wa_nil ?_
              refine ⟨rfl, a_l_watch, l_watch_stages, _, _, _, hi_l_watch, rfl, h, fun r49 stages_54 s50 h hn51 hid52 => ⟨s50, rfl, hid52, _, rfl, fun hm53 => ?_⟩, fun c hc => ⟨rfl, ⟨hc, rfl⟩⟩⟩
              refine ⟨rfl, ?_⟩
              refine ws_env (env' := [s50, .d l_sight, .d l_word1, .d l_way2, .d l_face3, .d r49]) rfl ?_
              exact ws_nil ⟨(r49, stages_54), ⟨s50, (obM_trans (obM_refl (g := g)) hm53)⟩, h, hn51, rfl⟩
          · rintro ⟨l_told55, l_watch_stages_56⟩ ⟨s57, nM58⟩ hc h
            refine ws_env (env' := [s57, .d l_sight, .d l_word1, .d l_way2, .d l_face3, .d l_told55]) rfl ?_
            exact ws_nil ⟨(l_told55, l_watch_stages_56), ⟨s57, nM58⟩, h, hc, rfl⟩
      · rintro ⟨l_told59, l_watch_stages_60⟩ ⟨s61, nM62⟩ hc h
        refine ws_env (env' := [s61, .d l_sight, .d l_word1, .d l_way2, .d l_face3, .d l_told59]) rfl ?_
        exact ws_nil ⟨(l_told59, l_watch_stages_60), ⟨s61, nM62⟩, h, hc, rfl⟩
  · rintro ⟨l_told63, l_watch_stages_64⟩ ⟨s65, nM66⟩ hc h
    refine ws_env (env' := [s65, .d l_sight, .d l_word1, .d l_way2, .d l_face3, .d l_told63]) rfl ?_
    refine ws_cons (w1_ret ?_)
    refine we_n 5 ?_
    refine ⟨rfl, ?_⟩
    exact ⟨_, hK _ _ _ h hc (nM66).1, trivial, back_ob hi_l_watch hc (nM66).1, rfl, rfl⟩
theorem ok__law_whole (F : FnP K "_law_whole" s__law_whole f fd) (hm : mg "_law_whole" = some (.ref f)) (hb : Binds K fd ["_law_found"] []) (m_isinstance : mg "isinstance" = none) (m_int : mg "int" = none) (m_bool : mg "bool" = none) :
    Has P w K mg base (k + 1) "_law_whole" ["_law_found"] c__law_whole := by
  refine fn_has F hm sc__law_whole hb rfl ?_
  rintro cdv A outer s H E g args Φ Ψ hr hp hM hl ⟨l_found, Kf, Ef, rfl, h, hK, hE⟩
  unfold f__law_whole at h
  refine ws_env (env' := [.d l_found]) rfl ?_
  refine ws_cons (w1_ret ?_)
  refine we_andS h (fun Q h => ?_) (fun Q h => ?_) fun b1 h => ?_
  · refine we_isi "int" m_isinstance m_int ?_
    refine we_n 0 ?_
    refine ⟨_, rfl, ?_⟩
    exact h
  · refine we_one ?_
    refine we_not ?_
    refine we_isi "bool" m_isinstance m_bool ?_
    refine we_n 0 ?_
    refine ⟨_, rfl, ?_⟩
    refine ⟨_, rfl, ?_⟩
    exact h
  exact ⟨rfl, _, hK _ h, trivial, rfl, rfl⟩
theorem ok_o__law_whole (F : FnP K "_law_whole" s__law_whole f fd) (hm : mg "_law_whole" = some (.ref f)) (hb : Binds K fd ["_law_found"] []) (m_isinstance : mg "isinstance" = none) (m_int : mg "int" = none) (m_bool : mg "bool" = none) :
    Has P w K mg base (k + 1) "_law_whole" ["_law_found"] o__law_whole := by
  refine fn_has F hm sc__law_whole hb rfl ?_
  rintro cdv A outer s H E g args Φ Ψ hr hp hM hl ⟨d, rfl, hΦ⟩
  refine ws_cons (w1_ret ?_)
  refine we_and ?_
  refine we_isi "int" m_isinstance m_int ?_
  refine we_n 0 ?_
  refine ⟨_, rfl, fun b1 => ?_, fun b1 => by rw [b1] at hΦ; exact ⟨rfl, _, hΦ, trivial, rfl, rfl⟩⟩
  rw [b1, Bool.true_and] at hΦ
  refine we_one ?_
  refine we_not ?_
  refine we_isi "bool" m_isinstance m_bool ?_
  refine we_n 0 ?_
  refine ⟨_, rfl, ?_⟩
  exact ⟨rfl, _, hΦ, trivial, rfl, rfl⟩
theorem ok_o__law_alike (F : FnP K "_law_alike" s__law_alike f fd) (hm : mg "_law_alike" = some (.ref f)) (hb : Binds K fd ["_law_found", "_law_due"] []) (m_isinstance : mg "isinstance" = none) (m_bool : mg "bool" = none) (m_int : mg "int" = none) (m_str : mg "str" = none) (m_all : mg "all" = none) (ho__law_whole : Has P w K mg base 1 "_law_whole" ["_law_found"] o__law_whole) (m_list : mg "list" = none) (m_tuple : mg "tuple" = none) (m_len : mg "len" = none) (m_range : mg "range" = none) (k0 : Nat) :
    ∀ N : Nat, Has P w K mg base (k0 + N + 2) "_law_alike" ["_law_found", "_law_due"] (o__law_alike N) := by
  intro N
  induction N with
  | zero => ?_
  | succ N ih => ?_
  all_goals
    refine fn_has F hm sc__law_alike hb rfl ?_
    rintro cdv A outer s H E g args Φ Ψ hr hp hM hl ⟨x, rfl, hok, hΦ⟩
    have ret : ∀ b : Bool, b = true → ∀ x2 : Sl, (endOf [.d x, .d x] Φ Ψ).rt (.rd (.bool b)) [.d x, .d x, x2] := fun b h x2 => by rw [h]; exact ⟨_, hΦ, trivial, rfl, rfl, rfl⟩
    cases x with
    | dict kvs => cases hok
    | none =>
      refine ws_cons (w1_if ?_)
      refine wt_cp op_isN ?_
      refine we_n 1 ?_
      refine we_none ?_
      refine ⟨_, cp_isN, fun _ => ?_, fun b => (by cases b)⟩
      refine ws_cons (w1_ret ?_)
      refine we_cp op_isN ?_
      refine we_n 0 ?_
      refine we_none ?_
      exact ⟨_, cp_isN, rfl, ret _ rfl _⟩
    | bool v =>
      refine ws_cons (w1_if ?_)
      refine wt_cp op_isN ?_
      refine we_n 1 ?_
      refine we_none ?_
      refine ⟨_, cp_isN, fun b => (by cases b), fun _ => ws_nil ?_⟩
      refine ws_cons (w1_if ?_)
      refine wt_e ?_
      refine we_isi "bool" m_isinstance m_bool ?_
      refine we_n 1 ?_
      refine ⟨_, rfl, ?_⟩
      rw [ti_bool_bool]
      refine ⟨fun _ => ?_, fun b => (by cases b)⟩
      refine ws_cons (w1_ret ?_)
      refine we_and ?_
      refine we_isi "bool" m_isinstance m_bool ?_
      refine we_n 0 ?_
      rw [ti_bool_bool]
      refine ⟨_, rfl, fun _ => ?_, fun b => (by cases b)⟩
      refine we_one ?_
      refine we_cp (op_eqA hr) ?_
      refine we_n 0 ?_
      refine we_n 1 ?_
      exact ⟨_, cp_eqB, rfl, ret _ (decide_eq_true rfl) _⟩
    | int v =>
      refine ws_cons (w1_if ?_)
      refine wt_cp op_isN ?_
      refine we_n 1 ?_
      refine we_none ?_
      refine ⟨_, cp_isN, fun b => (by cases b), fun _ => ws_nil ?_⟩
      refine ws_cons (w1_if ?_)
      refine wt_e ?_
      refine we_isi "bool" m_isinstance m_bool ?_
      refine we_n 1 ?_
      refine ⟨_, rfl, ?_⟩
      rw [ti_int_bool]
      refine ⟨fun b => (by cases b), fun _ => ws_nil ?_⟩
      refine ws_cons (w1_if ?_)
      refine wt_e ?_
      refine we_isi "int" m_isinstance m_int ?_
      refine we_n 1 ?_
      refine ⟨_, rfl, ?_⟩
      rw [ti_int_int]
      refine ⟨fun _ => ?_, fun b => (by cases b)⟩
      refine ws_cons (w1_ret ?_)
      refine we_and ?_
      refine we_call ho__law_whole hr ?_
      refine wa_d ?_
      refine we_n 0 ?_
      refine ⟨rfl, ?_⟩
      refine wa_nil ?_
      refine ⟨rfl, _, rfl, rfl, _, rfl, ?_⟩
      rw [ti_int_int, ti_int_bool]
      refine ⟨_, rfl, fun _ => ?_, fun b => (by cases b)⟩
      refine we_one ?_
      refine we_cp (op_eqA hr) ?_
      refine we_n 0 ?_
      refine we_n 1 ?_
      exact ⟨_, cp_eqI, rfl, ret _ (decide_eq_true rfl) _⟩
    | str v =>
      refine ws_cons (w1_if ?_)
      refine wt_cp op_isN ?_
      refine we_n 1 ?_
      refine we_none ?_
      refine ⟨_, cp_isN, fun b => (by cases b), fun _ => ws_nil ?_⟩
      refine ws_cons (w1_if ?_)
      refine wt_e ?_
      refine we_isi "bool" m_isinstance m_bool ?_
      refine we_n 1 ?_
      refine ⟨_, rfl, ?_⟩
      rw [ti_str_bool]
      refine ⟨fun b => (by cases b), fun _ => ws_nil ?_⟩
      refine ws_cons (w1_if ?_)
      refine wt_e ?_
      refine we_isi "int" m_isinstance m_int ?_
      refine we_n 1 ?_
      refine ⟨_, rfl, ?_⟩
      rw [ti_str_int]
      refine ⟨fun b => (by cases b), fun _ => ws_nil ?_⟩
      refine ws_cons (w1_if ?_)
      refine wt_e ?_
      refine we_isi "str" m_isinstance m_str ?_
      refine we_n 1 ?_
      refine ⟨_, rfl, ?_⟩
      rw [ti_str_str]
      refine ⟨fun _ => ?_, fun b => (by cases b)⟩
      refine ws_cons (w1_ret ?_)
      refine we_and ?_
      refine we_isi "str" m_isinstance m_str ?_
      refine we_n 0 ?_
      rw [ti_str_str]
      refine ⟨_, rfl, fun _ => ?_, fun b => (by cases b)⟩
      refine we_one ?_
      refine we_cp (op_eqA hr) ?_
      refine we_n 0 ?_
      refine we_n 1 ?_
      exact ⟨_, cp_eqS, rfl, ret _ (decide_eq_true rfl) _⟩
    | list v =>
      first
        | (cases hok; done)
        | skip
          refine ws_cons (w1_if ?_)
          refine wt_cp op_isN ?_
          refine we_n 1 ?_
          refine we_none ?_
          refine ⟨_, cp_isN, fun b => (by cases b), fun _ => ws_nil ?_⟩
          refine ws_cons (w1_if ?_)
          refine wt_e ?_
          refine we_isi "bool" m_isinstance m_bool ?_
          refine we_n 1 ?_
          refine ⟨_, rfl, ?_⟩
          rw [ti_list_bool]
          refine ⟨fun b => (by cases b), fun _ => ws_nil ?_⟩
          refine ws_cons (w1_if ?_)
          refine wt_e ?_
          refine we_isi "int" m_isinstance m_int ?_
          refine we_n 1 ?_
          refine ⟨_, rfl, ?_⟩
          rw [ti_list_int]
          refine ⟨fun b => (by cases b), fun _ => ws_nil ?_⟩
          refine ws_cons (w1_if ?_)
          refine wt_e ?_
          refine we_isi "str" m_isinstance m_str ?_
          refine we_n 1 ?_
          refine ⟨_, rfl, ?_⟩
          rw [ti_list_str]
          refine ⟨fun b => (by cases b), fun _ => ws_nil ?_⟩
          refine ws_cons (w1_if ?_)
          refine wt_ww ?_
          refine ww_or ?_
          refine wt_cp (op_neA hr) ?_
          refine we_isi "list" m_isinstance m_list ?_
          refine we_n 1 ?_
          refine we_isi "list" m_isinstance m_list ?_
          refine we_n 0 ?_
          refine ⟨_, cp_neB, ?_⟩
          rw [ne_b]
          refine ⟨fun b => (by cases b), fun _ => ?_⟩
          refine ww_or1 ?_
          refine wt_cp (op_neA hr) ?_
          refine we_isi "tuple" m_isinstance m_tuple ?_
          refine we_n 1 ?_
          refine we_isi "tuple" m_isinstance m_tuple ?_
          refine we_n 0 ?_
          refine ⟨_, cp_neB, ?_⟩
          rw [ne_b]
          refine ⟨fun b => (by cases b), fun _ => ws_nil ?_⟩
          refine ws_cons (w1_if ?_)
          refine wt_ww ?_
          refine ww_or ?_
          refine wt_not ?_
          refine wt_e ?_
          refine we_isiLT m_isinstance m_list m_tuple ?_
          refine we_n 0 ?_
          refine ⟨_, rfl, ?_⟩
          rw [ti_list_list, ti_list_tuple]
          refine ⟨fun b => (by cases b), fun _ => ?_⟩
          refine ww_or1 ?_
          refine wt_cp (op_neA hr) ?_
          refine we_len m_len ?_
          refine we_n 0 ?_
          refine .lst ?_
          refine we_len m_len ?_
          refine we_n 1 ?_
          refine .lst ?_
          refine ⟨_, cp_neI, ?_⟩
          rw [decide_eq_true rfl]
          refine ⟨fun b => (by cases b), fun _ => ws_nil ?_⟩
          have hok1 := Bool.and_eq_true_iff.mp hok
          have hsz := of_decide_eq_true hok1.1
          refine ws_cons (w1_ret ?_)
          refine we_all m_all rfl ?_
          refine we_of_wn ?_
          refine wn_lcR1 m_range (own := [("_law_at", 2)]) rfl sc__law_alike.nd (blkOk_by (by rfl)) (fun _ _ _ _ _ => (pg_name (i := 2) sc__law_alike.nd rfl (by first | exact Or.inl rfl | exact Or.inr rfl))) (tgd_name 2) (by decide) rfl ?_
          refine we_len m_len ?_
          refine we_n 1 ?_
          refine .lst ?_
          refine ⟨_, fun i acc => acc = (List.replicate i true).map .bool, rfl, by omega, rfl, fun i hi => ⟨_, rfl, rfl, ?_⟩, fun acc ha => ?_⟩
          · intro acc ha g1 s1 H1 C1 cl1 fp1
            refine ⟨fun _ s1 H1 C1 cl1 fp1 => ?_, fun z => by cases z⟩
            have hi2 : i < v.length := by omega
            refine we_call ih hr ?_
            refine wa_d ?_
            refine we_ix ?_
            refine we_n 0 ?_
            refine we_n 2 ?_
            refine ix_lst (x := v[i]) (by omega) (by simp [hi2]) ?_
            refine ⟨rfl, ?_⟩
            refine wa_d ?_
            refine we_ix ?_
            refine we_n 1 ?_
            refine we_n 2 ?_
            refine ix_lst (x := v[i]) (by omega) (by simp [hi2]) ?_
            refine ⟨rfl, ?_⟩
            refine wa_nil ?_
            refine ⟨rfl, v[i], rfl, List.all_eq_true.mp hok1.2 _ (List.getElem_mem hi2), rfl, _, rfl, ?_⟩
            refine ⟨rfl, ?_⟩
            subst ha
            show _ = _
            rw [List.replicate_succ', List.map_append]
            rfl
          · subst ha
            refine ⟨List.replicate v.length true, by simp, ?_⟩
            exact ⟨rfl, ret _ (by simp) _⟩
    | tuple v =>
      first
        | (cases hok; done)
        | skip
          refine ws_cons (w1_if ?_)
          refine wt_cp op_isN ?_
          refine we_n 1 ?_
          refine we_none ?_
          refine ⟨_, cp_isN, fun b => (by cases b), fun _ => ws_nil ?_⟩
          refine ws_cons (w1_if ?_)
          refine wt_e ?_
          refine we_isi "bool" m_isinstance m_bool ?_
          refine we_n 1 ?_
          refine ⟨_, rfl, ?_⟩
          rw [ti_tuple_bool]
          refine ⟨fun b => (by cases b), fun _ => ws_nil ?_⟩
          refine ws_cons (w1_if ?_)
          refine wt_e ?_
          refine we_isi "int" m_isinstance m_int ?_
          refine we_n 1 ?_
          refine ⟨_, rfl, ?_⟩
          rw [ti_tuple_int]
          refine ⟨fun b => (by cases b), fun _ => ws_nil ?_⟩
          refine ws_cons (w1_if ?_)
          refine wt_e ?_
          refine we_isi "str" m_isinstance m_str ?_
          refine we_n 1 ?_
          refine ⟨_, rfl, ?_⟩
          rw [ti_tuple_str]
          refine ⟨fun b => (by cases b), fun _ => ws_nil ?_⟩
          refine ws_cons (w1_if ?_)
          refine wt_ww ?_
          refine ww_or ?_
          refine wt_cp (op_neA hr) ?_
          refine we_isi "list" m_isinstance m_list ?_
          refine we_n 1 ?_
          refine we_isi "list" m_isinstance m_list ?_
          refine we_n 0 ?_
          refine ⟨_, cp_neB, ?_⟩
          rw [ne_b]
          refine ⟨fun b => (by cases b), fun _ => ?_⟩
          refine ww_or1 ?_
          refine wt_cp (op_neA hr) ?_
          refine we_isi "tuple" m_isinstance m_tuple ?_
          refine we_n 1 ?_
          refine we_isi "tuple" m_isinstance m_tuple ?_
          refine we_n 0 ?_
          refine ⟨_, cp_neB, ?_⟩
          rw [ne_b]
          refine ⟨fun b => (by cases b), fun _ => ws_nil ?_⟩
          refine ws_cons (w1_if ?_)
          refine wt_ww ?_
          refine ww_or ?_
          refine wt_not ?_
          refine wt_e ?_
          refine we_isiLT m_isinstance m_list m_tuple ?_
          refine we_n 0 ?_
          refine ⟨_, rfl, ?_⟩
          rw [ti_tuple_list, ti_tuple_tuple]
          refine ⟨fun b => (by cases b), fun _ => ?_⟩
          refine ww_or1 ?_
          refine wt_cp (op_neA hr) ?_
          refine we_len m_len ?_
          refine we_n 0 ?_
          refine .tup ?_
          refine we_len m_len ?_
          refine we_n 1 ?_
          refine .tup ?_
          refine ⟨_, cp_neI, ?_⟩
          rw [decide_eq_true rfl]
          refine ⟨fun b => (by cases b), fun _ => ws_nil ?_⟩
          have hok1 := Bool.and_eq_true_iff.mp hok
          have hsz := of_decide_eq_true hok1.1
          refine ws_cons (w1_ret ?_)
          refine we_all m_all rfl ?_
          refine we_of_wn ?_
          refine wn_lcR1 m_range (own := [("_law_at", 2)]) rfl sc__law_alike.nd (blkOk_by (by rfl)) (fun _ _ _ _ _ => (pg_name (i := 2) sc__law_alike.nd rfl (by first | exact Or.inl rfl | exact Or.inr rfl))) (tgd_name 2) (by decide) rfl ?_
          refine we_len m_len ?_
          refine we_n 1 ?_
          refine .tup ?_
          refine ⟨_, fun i acc => acc = (List.replicate i true).map .bool, rfl, by omega, rfl, fun i hi => ⟨_, rfl, rfl, ?_⟩, fun acc ha => ?_⟩
          · intro acc ha g1 s1 H1 C1 cl1 fp1
            refine ⟨fun _ s1 H1 C1 cl1 fp1 => ?_, fun z => by cases z⟩
            have hi2 : i < v.length := by omega
            refine we_call ih hr ?_
            refine wa_d ?_
            refine we_ix ?_
            refine we_n 0 ?_
            refine we_n 2 ?_
            refine ix_tup (x := v[i]) (by omega) (by simp [hi2]) ?_
            refine ⟨rfl, ?_⟩
            refine wa_d ?_
            refine we_ix ?_
            refine we_n 1 ?_
            refine we_n 2 ?_
            refine ix_tup (x := v[i]) (by omega) (by simp [hi2]) ?_
            refine ⟨rfl, ?_⟩
            refine wa_nil ?_
            refine ⟨rfl, v[i], rfl, List.all_eq_true.mp hok1.2 _ (List.getElem_mem hi2), rfl, _, rfl, ?_⟩
            refine ⟨rfl, ?_⟩
            subst ha
            show _ = _
            rw [List.replicate_succ', List.map_append]
            rfl
          · subst ha
            refine ⟨List.replicate v.length true, by simp, ?_⟩
            exact ⟨rfl, ret _ (by simp) _⟩
theorem ok__law_alike (h : Has P w K mg base k "_law_alike" ["_law_found", "_law_due"] (o__law_alike 8)) : Has P w K mg base k "_law_alike" ["_law_found", "_law_due"] c__law_alike := h.imp fun args Φ Ψ ⟨x, y, Kf, Ef, e, hf, h1, h2⟩ => by
  subst e
  obtain ⟨rfl, hx, hk⟩ := hf
  exact ⟨x, rfl, hx, h1 _ hk⟩
theorem ok_Watch__back (F : FnPM K "back" "Watch.back" s_Watch__back f fd) (hm : Meth K (He.ga K "Watch") "back" f) (hb : Binds K fd ["self"] []) (m_len : mg "len" = none) (x_NoBack : ExK K mg "NoBack") (na_Watch_stages : NoAttr K (He.ga K "Watch") "stages") :
    HasM P w K mg base (k + 1) "Watch" "back" ["self"] c_Watch__back := by
  refine fn_hasM F hm sc_Watch__back hb rfl ?_
  rintro cdv A outer s H E g args Φ Ψ hr hp hM hl ⟨a_self, self_stages, Kf, Ef, hi_self, rfl, h, hK, hE⟩
  unfold f_Watch__back at h
  refine ws_env (env' := [a_self]) rfl ?_
  refine ws_cons (w1_if ?_)
  refine wt_cp (op_eqA hr) ?_
  refine we_len m_len ?_
  refine we_fldL 0 hi_self na_Watch_stages rfl ?_
  refine len_sh h fun r1 h => ?_
  refine we_int ?_
  refine eq_sh h fun b2 h => ?_
  obtain ⟨h3, h4⟩ := h
  refine ⟨fun e5 => ?_, fun e5 => ?_⟩
  · replace h := h3 e5
    exact ws_cons (w1_raise rfl x_NoBack ⟨_, hE _ h, back_ob hi_self hi_self ((obM_refl (g := g))).1, rfl⟩)
  · replace h := h4 e5
    refine ws_nil ?_
    obtain ⟨l9, y10, hq, h⟩ := h
    refine ws_cons (w1_fldPopS 0 hi_self na_Watch_stages rfl ⟨l9, y10, hq, fun s6 hn7 hm8 => ?_⟩)
    replace hn7 : IsOb "Watch" [("stages", .l l9)] s6 := hn7
    refine ws_env (env' := [s6]) rfl ?_
    exact ws_nil ⟨_, hK _ _ _ h hn7 ((obM_trans (obM_refl (g := g)) hm8)).1, back_ob hi_self hn7 ((obM_trans (obM_refl (g := g)) hm8)).1, rfl⟩
theorem ok__law_no_back (F : FnP K "_law_no_back" s__law_no_back f fd) (hm : mg "_law_no_back" = some (.ref f)) (hb : Binds K fd ["_law_watch"] []) (xg_NoBack : mg "NoBack" = some (.ref (He.ga K "NoBack"))) (xm_NoBack : ∀ m ∈ (["NoBack"] : List Str), ExM K (.own m) "NoBack" = some (isE m "NoBack")) (xg_PinchError : mg "PinchError" = some (.ref (He.ga K "PinchError"))) (xm_PinchError : ∀ m ∈ (["NoBack"] : List Str), ExM K (.own m) "PinchError" = some (isE m "PinchError")) (h_Watch__back : HasM P w K mg base k "Watch" "back" ["self"] c_Watch__back) :
    Has P w K mg base (k + 1) "_law_no_back" ["_law_watch"] c__law_no_back := by
  refine fn_has F hm sc__law_no_back hb rfl ?_
  rintro cdv A outer s H E g args Φ Ψ hr hp hM hl ⟨a_l_watch, l_watch_stages, Kf, Ef, hi_l_watch, rfl, h, hK, hE⟩
  unfold f__law_no_back at h
  refine ws_env (env' := [a_l_watch, .un]) rfl ?_
  refine ws_cons (w1_set 1 sc__law_no_back.nd ?_)
  refine we_str ?_
  refine ⟨rfl, ?_⟩
  refine ws_env (env' := [a_l_watch, .d (.str "told")]) rfl ?_
  refine ws_joinSC h (fun (s : (List PyData) × PyData) (u : {s : Sl // obM g a_l_watch s}) => [u.1, .d s.2]) (fun (s : (List PyData) × PyData) (u : {s : Sl // obM g a_l_watch s}) => IsOb "Watch" [("stages", .l s.1)] u.1) (fun Q h => ?_) ?_
  · refine w1_tryS h (.cons ⟨rfl, rfl, Or.inl xg_NoBack⟩ (.cons ⟨rfl, rfl, Or.inl xg_PinchError⟩ .nil)) (fun m1 hm2 h => ?_) (fun h pn3 xe4 F5 hp => ?_)
    · obtain ⟨h6, h7⟩ := h
      refine ⟨_, xm_NoBack m1 hm2, fun e8 a9 q10 pn11 => ?_, fun e8 => ?_⟩
      · replace h := h6 e8
        refine ws_cons (w1_set 1 sc__law_no_back.nd ?_)
        refine we_str ?_
        refine ⟨rfl, ?_⟩
        refine ws_env (env' := [a_l_watch, .d (.str "NoBack")]) rfl ?_
        exact ws_nil ⟨(l_watch_stages, (.str "NoBack")), ⟨a_l_watch, (obM_refl (g := g))⟩, h, hi_l_watch, rfl⟩
      replace h := h7 e8
      obtain ⟨h12, h13⟩ := h
      refine ⟨_, xm_PinchError m1 hm2, fun e14 a15 q16 pn17 => ?_, fun e14 => ?_⟩
      · replace h := h12 e14
        refine ws_cons (w1_set 1 sc__law_no_back.nd ?_)
        refine we_str ?_
        refine ⟨rfl, ?_⟩
        refine ws_env (env' := [a_l_watch, .d (.str "other")]) rfl ?_
        exact ws_nil ⟨(l_watch_stages, (.str "other")), ⟨a_l_watch, (obM_refl (g := g))⟩, h, hi_l_watch, rfl⟩
      replace h := h13 e14
      exact ⟨_, hE _ h, back_ob hi_l_watch hi_l_watch ((obM_refl (g := g))).1, rfl⟩
    · refine ws_cons (w1_exprM ?_)
      refine wm_meth 0 mcall0 h_Watch__back hr hi_l_watch rfl ?_
      refine waz_nil ?_
      refine ⟨rfl, a_l_watch, l_watch_stages, _, _, hi_l_watch, rfl, h, fun r19 stages_24 s20 h hn21 hid22 => ⟨s20, rfl, hid22, _, rfl, fun hm23 => ?_⟩, fun c hc => ⟨rfl, ⟨hc, rfl⟩⟩⟩
      refine ws_env (env' := [s20, .d (.str "told")]) rfl ?_
      exact ws_nil ⟨(stages_24, (.str "told")), ⟨s20, (obM_trans (obM_refl (g := g)) hm23)⟩, h, hn21, rfl⟩
  · rintro ⟨l_watch_stages_25, l_word26⟩ ⟨s27, nM28⟩ hc h
    refine ws_env (env' := [s27, .d l_word26]) rfl ?_
    refine ws_cons (w1_ret ?_)
    refine we_n 1 ?_
    refine ⟨rfl, ?_⟩
    exact ⟨_, hK _ _ _ h hc (nM28).1, trivial, back_ob hi_l_watch hc (nM28).1, rfl⟩
theorem ok_law (F : FnP K "law" s_law f fd) (ho__law_bag : Has P w K mg base k "_law_bag" ["_law_script"] o__law_bag) (h__law_bounds_held : Has P w K mg base k "_law_bounds_held" ["_law_far"] c__law_bounds_held) (h__law_pull : Has P w K mg base k "_law_pull" ["_law_bag_here", "_law_many"] c__law_pull) (m_list : mg "list" = none) (m_range : mg "range" = none) (m_len : mg "len" = none) (h__law_odd : Has P w K mg base k "_law_odd" ["_law_bag_here", "_law_many"] c__law_odd) (h__law_alike : Has P w K mg base k "_law_alike" ["_law_found", "_law_due"] c__law_alike) (h__law_no_back : Has P w K mg base k "_law_no_back" ["_law_watch"] c__law_no_back) (h__law_watch_do : Has P w K mg base k "_law_watch_do" ["_law_watch", "_law_sight"] c__law_watch_do) (m_max : mg "max" = none) (h_Watch__init : HasI P w K mg base k "Watch" ["self", "bound"] c_Watch__init) (h_Watch__left : HasM P w K mg base k "Watch" "left" ["self"] c_Watch__left) (hd_Watch__init : HasID P w K mg base k "Watch" ["self", "bound"] [.int 8] c_Watch__init) (h_Watch__twin : HasM P w K mg base k "Watch" "twin" ["self"] c_Watch__twin_v3) (h_Watch__back : HasM P w K mg base k "Watch" "back" ["self"] c_Watch__back) (h_Watch__met : HasM P w K mg base k "Watch" "met" ["self"] c_Watch__met) :
    FnOk P w K mg base (L2.CX P w) (k + 2) f fd ["_law_script"] (spOf K 1 cLaw) := by
  refine fn_ok (ps := ["_law_script"]) F sc_law rfl ?_
  rintro cdv A outer s H E g args Φ Ψ hr hp hM hl ⟨ns, rfl, hns, hΦ⟩
  have h := e_law_k48 ns hns
  unfold f_law_k48 at h
  have hK : ∀ r, r = PyData.bool true → Φ (.rd r) [.d (.list (ns.map .int))] := fun r e => e ▸ hΦ
  have hE : ∀ c, False → Ψ c [.d (.list (ns.map .int))] := fun c h => h.elim
  refine ws_env (env' := [.d (.list (ns.map .int)), .un, .un, .un, .un, .un, .un, .un, .un, .un, .un, .un, .un, .un]) rfl ?_
  refine ws_cons (w1_setN 1 sc_law.nd ?_)
  refine wn_call ho__law_bag hr ?_
  refine wa_d ?_
  refine we_n 0 ?_
  refine ⟨rfl, ?_⟩
  refine wa_nil ?_
  refine ⟨rfl, ns, rfl, hns, fun ds hds => ⟨rfl, ds, rfl, ?_⟩⟩
  intro a_bag n_bag
  refine ws_close 1 rfl hds ?_
  refine ws_env (env' := [.d (.list (ns.map .int)), .bg a_bag, .un, .un, .un, .un, .un, .un, .un, .un, .un, .un, .un, .un]) rfl ?_
  refine ws_cons (w1_if ?_)
  refine wt_not ?_
  refine wt_e ?_
  refine we_call h__law_bounds_held hr ?_
  refine wa_d ?_
  refine we_add ?_
  refine we_int ?_
  refine we_call h__law_pull hr ?_
  refine wa_s 1 ?_
  refine wa_d ?_
  refine we_pow ?_
  refine we_int ?_
  refine we_int ?_
  refine powP (v := 100000000000000000000) (by decide +kernel) ?_ (by unfold L2.CPow; decide)
  refine ⟨rfl, ?_⟩
  refine wa_nil ?_
  refine ⟨rfl, _, _, _, _, rfl, h, fun r1 h => ⟨rfl, _, rfl, ?_⟩, fun c hc => ⟨rfl, ⟨_, hE _ hc, rfl, rfl⟩⟩⟩
  refine add_sh h fun r2 h => ?_
  refine ⟨rfl, ?_⟩
  refine wa_nil ?_
  refine ⟨rfl, _, _, _, rfl, h, fun r3 h => ⟨rfl, _, rfl, ?_⟩, fun c hc => ⟨rfl, ⟨_, hE _ hc, rfl, rfl⟩⟩⟩
  refine bool_sh h fun b4 h => ?_
  obtain ⟨h5, h6⟩ := h
  refine ⟨fun e7 => ?_, fun e7 => ?_⟩
  · replace h := h5 e7
    refine ws_cons (w1_ret ?_)
    refine we_bool ?_
    exact ⟨rfl, _, hK _ h, trivial, rfl, rfl⟩
  · replace h := h6 e7
    refine ws_nil ?_
    refine ws_cons (w1_set 2 sc_law.nd ?_)
    refine we_add ?_
    refine we_int ?_
    refine we_call h__law_pull hr ?_
    refine wa_s 1 ?_
    refine wa_d ?_
    refine we_int ?_
    refine ⟨rfl, ?_⟩
    refine wa_nil ?_
    refine ⟨rfl, _, _, _, _, rfl, h, fun r8 h => ⟨rfl, _, rfl, ?_⟩, fun c hc => ⟨rfl, ⟨_, hE _ hc, rfl, rfl⟩⟩⟩
    refine add_sh h fun r9 h => ?_
    refine ⟨rfl, ?_⟩
    refine ws_env (env' := [.d (.list (ns.map .int)), .bg a_bag, .d r9, .un, .un, .un, .un, .un, .un, .un, .un, .un, .un, .un]) rfl ?_
    refine ws_cons (w1_setO 3 sc_law.nd (wo_lst1 (n := "Watch") (fw := (fun x : List PyData => ([("stages", .l x)] : List (Str × OF)))) ?_))
    refine wo_make mk1 h_Watch__init hr ?_
    refine waz_cons ?_
    refine wa_d ?_
    refine we_n 2 ?_
    refine ⟨rfl, ?_⟩
    refine wa_nil ?_
    refine ⟨rfl, fun s13 hi14 => ⟨s13, _, _, _, hi14, rfl, h, fun stages_10 s11 h hn12 _ => ⟨s11, rfl, rfl, ?_⟩, fun c hc => hc.elim⟩⟩
    refine ⟨stages_10, hn12, fun s15 hn16 nM17 => ?_⟩
    refine ws_env (env' := [.d (.list (ns.map .int)), .bg a_bag, .d r9, s15, .un, .un, .un, .un, .un, .un, .un, .un, .un, .un]) rfl ?_
    refine ws_cons (w1_setO 4 sc_law.nd (wo_lstN1 ?_))
    refine wn_list ?_
    refine wa_d ?_
    refine we_tuple ?_
    refine wa_d ?_
    refine we_of_wn ?_
    refine wn_listof m_list ?_
    refine we_methLo 3 mcall0 h_Watch__left h_Watch__init.ins hr hn16 ?_
    refine we_int ?_
    refine takeM_m h fun j18 w19 h => ?_
    refine ⟨rfl, rfl, fun s20 hn21 => ⟨s20, w19, _, _, hn21, rfl, h, fun r22 h => ⟨rfl, _, rfl, ?_⟩, fun c hc => ⟨rfl, ⟨_, hE _ hc, rfl, rfl⟩⟩⟩⟩
    refine list_sh h fun l23 h => ?_
    refine ⟨rfl, ?_⟩
    refine wa_d ?_
    refine we_int ?_
    refine ⟨rfl, ?_⟩
    refine wa_nil ?_
    refine ⟨_, rfl, szOk rfl, ?_⟩
    refine ⟨rfl, ?_⟩
    refine wa_nil ?_
    refine ⟨_, rfl, szOk rfl, ?_⟩
    intro s24 hn25 nM26
    refine ws_env (env' := [.d (.list (ns.map .int)), .bg a_bag, .d r9, s15, s24, .un, .un, .un, .un, .un, .un, .un, .un, .un]) rfl ?_
    refine ws_cons (w1_for hp rfl (pg_name (i := 5) sc_law.nd rfl (by first | exact Or.inl rfl | exact Or.inr rfl)) (tgd_name 5) ?_)
    refine wi_r1 m_range ?_
    refine we_ix ?_
    refine we_list ?_
    refine wa_d ?_
    refine we_int ?_
    refine ⟨rfl, ?_⟩
    refine wa_d ?_
    refine we_int ?_
    refine ⟨rfl, ?_⟩
    refine wa_d ?_
    refine we_int ?_
    refine ⟨rfl, ?_⟩
    refine wa_nil ?_
    refine ⟨_, rfl, szOk rfl, ?_⟩
    refine we_call h__law_pull hr ?_
    refine wa_s 1 ?_
    refine wa_d ?_
    refine we_int ?_
    refine ⟨rfl, ?_⟩
    refine wa_nil ?_
    refine ⟨rfl, _, _, _, _, rfl, h, fun r28 h => ⟨rfl, _, rfl, ?_⟩, fun c hc => ⟨rfl, ⟨_, hE _ hc, rfl, rfl⟩⟩⟩
    refine ix_sh h fun r29 h => ?_
    refine rng_sh h fun xs27 h => ?_
    refine forSC h (fun (s : (List (List PyData)) × (List PyData)) (u : {s : Sl // ∀ b ∈ s.fp, b ∉ g.M} × Sl × Sl × Sl × Sl × Sl × Sl × Sl × Sl × Sl × {s : Sl // ∀ b ∈ s.fp, b ∉ g.M}) => [.d (.list (ns.map .int)), .bg a_bag, .d r9, u.2.2.2.2.2.2.2.2.2.2.1, u.1.1, u.2.2.2.2.2.2.2.2.2.1, u.2.1, u.2.2.1, u.2.2.2.1, u.2.2.2.2.1, u.2.2.2.2.2.1, u.2.2.2.2.2.2.1, u.2.2.2.2.2.2.2.1, u.2.2.2.2.2.2.2.2.1]) (fun (s : (List (List PyData)) × (List PyData)) (u : {s : Sl // ∀ b ∈ s.fp, b ∉ g.M} × Sl × Sl × Sl × Sl × Sl × Sl × Sl × Sl × Sl × {s : Sl // ∀ b ∈ s.fp, b ∉ g.M}) => IsL "Watch" ((s.1 : List (List PyData)).map (fun x : List PyData => ([("stages", .l x)] : List (Str × OF)))) u.2.2.2.2.2.2.2.2.2.2.1 ∧ IsNest (.list s.2) u.1.1) (⟨s24, nM26⟩, (.un), (.un), (.un), (.un), (.un), (.un), (.un), (.un), (.un), ⟨s15, nM17⟩) rfl ⟨hn16, hn25⟩ ?_ ?_
    · rintro ⟨l_watches30, l_stands31⟩ ⟨⟨s32, nM33⟩, w34, w35, w36, w37, w38, w39, w40, w41, w42, ⟨s43, nM44⟩⟩ hc h
      refine ws_env (env' := [.d (.list (ns.map .int)), .bg a_bag, .d r9, s43, s32, w42, w34, w35, w36, w37, w38, w39, w40, w41]) rfl ?_
      refine ws_cons (w1_ret ?_)
      refine we_cp (op_eqA hr) ?_
      refine we_len m_len ?_
      refine we_of_wn ?_
      refine wn_methO mcall0 h_Watch__left h_Watch__init.ins hr ?_
      refine wo_makeD (dd := [.int 8]) (fun _ => .cons (.int _) .nil) mks0 hd_Watch__init hr ?_
      refine waz_nil ?_
      refine ⟨rfl, fun s48 hi49 => ⟨s48, _, _, _, hi49, rfl, h, fun stages_45 s46 h hn47 _ => ⟨s46, rfl, rfl, ?_⟩, fun c hc => ⟨rfl, ⟨_, hE _ hc, rfl, rfl⟩⟩⟩⟩
      refine ⟨[("stages", .l stages_45)], rfl, hn47, rfl, s46, stages_45, _, _, hn47, rfl, h, fun r50 h => ⟨rfl, _, rfl, ?_⟩, fun c hc => ⟨rfl, ⟨_, hE _ hc, rfl, rfl⟩⟩⟩
      refine len_sh h fun r51 h => ?_
      refine we_len m_len ?_
      refine we_of_wn ?_
      refine wn_methO mcall0 h_Watch__left h_Watch__init.ins hr ?_
      refine wo_make mk1 h_Watch__init hr ?_
      refine waz_cons ?_
      refine wa_d ?_
      refine we_int ?_
      refine ⟨rfl, ?_⟩
      refine wa_nil ?_
      refine ⟨rfl, fun s55 hi56 => ⟨s55, _, _, _, hi56, rfl, h, fun stages_52 s53 h hn54 _ => ⟨s53, rfl, rfl, ?_⟩, fun c hc => hc.elim⟩⟩
      refine ⟨[("stages", .l stages_52)], rfl, hn54, rfl, s53, stages_52, _, _, hn54, rfl, h, fun r57 h => ⟨rfl, _, rfl, ?_⟩, fun c hc => ⟨rfl, ⟨_, hE _ hc, rfl, rfl⟩⟩⟩
      refine len_sh h fun r58 h => ?_
      refine eq_sh h fun b59 h => ?_
      exact ⟨rfl, _, hK _ h, trivial, rfl, rfl⟩
    · rintro hend l_turn60 ⟨l_watches63, l_stands64⟩ ⟨⟨s65, nM66⟩, w67, w68, w69, w70, w71, w72, w73, w74, w75, ⟨s76, nM77⟩⟩ N61 hc h
      refine ⟨[(5, l_turn60)], rfl, rfl, ?_⟩
      refine ws_env (env' := [.d (.list (ns.map .int)), .bg a_bag, .d r9, s76, s65, .d l_turn60, w67, w68, w69, w70, w71, w72, w73, w74]) rfl ?_
      refine ws_joinSC h (fun (s : (List (List PyData)) × (List PyData)) (u : {s : Sl // ∀ b ∈ s.fp, b ∉ g.M} × {s : Sl // ∀ b ∈ s.fp, b ∉ g.M}) => [.d (.list (ns.map .int)), .bg a_bag, .d r9, u.2.1, u.1.1, .d l_turn60, w67, w68, w69, w70, w71, w72, w73, w74]) (fun (s : (List (List PyData)) × (List PyData)) (u : {s : Sl // ∀ b ∈ s.fp, b ∉ g.M} × {s : Sl // ∀ b ∈ s.fp, b ∉ g.M}) => IsL "Watch" ((s.1 : List (List PyData)).map (fun x : List PyData => ([("stages", .l x)] : List (Str × OF)))) u.2.1 ∧ IsNest (.list s.2) u.1.1) (fun Q h => ?_) ?_
      · refine w1_if ?_
        refine wt_cp (op_eqA hr) ?_
        refine we_n 5 ?_
        refine we_int ?_
        refine eq_sh h fun b78 h => ?_
        obtain ⟨h79, h80⟩ := h
        refine ⟨fun e81 => ?_, fun e81 => ?_⟩
        · replace h := h79 e81
          refine ws_cons (w1_appLo 3 hc.1 nM77 ?_)
          refine wo_methLo 3 mcall0 h_Watch__twin h_Watch__init.ins hr hc.1 ?_
          refine we_int ?_
          refine takeM_m h fun j82 w83 h => ?_
          refine ⟨rfl, rfl, fun s84 hn85 => ⟨s84, w83, _, _, hn85, rfl, h, fun r86 h => ⟨rfl, _, rfl, fun s87 hn88 => ?_⟩, fun c hc => ⟨rfl, ⟨_, hE _ hc, rfl, rfl⟩⟩⟩⟩
          obtain ⟨hl92, h⟩ := h
          refine ⟨r86, hn88, hl92, fun s89 hn90 nM91 => ?_⟩
          refine ws_env (env' := [.d (.list (ns.map .int)), .bg a_bag, .d r9, s89, s65, .d l_turn60, w67, w68, w69, w70, w71, w72, w73, w74]) rfl ?_
          refine ws_cons (w1_pushN 4 hc.2 nM66 ?_)
          refine wn_listof m_list ?_
          refine we_ixN 4 hc.2 ?_
          refine we_int ?_
          refine nestRow_m h fun l93 h => ?_
          refine list_sh h fun l94 h => ?_
          obtain ⟨hl95, h⟩ := h
          refine ⟨hl95, fun s96 hn97 nM98 => ?_⟩
          refine ws_env (env' := [.d (.list (ns.map .int)), .bg a_bag, .d r9, s89, s96, .d l_turn60, w67, w68, w69, w70, w71, w72, w73, w74]) rfl ?_
          exact ws_nil ⟨((l_watches63 ++ [r86]), (l_stands64 ++ ([(.list l94)] : List PyData))), (⟨s96, nM98⟩, ⟨s89, nM91⟩), h, ⟨hn90, hn97⟩, rfl⟩
        · replace h := h80 e81
          exact ws_nil ⟨(l_watches63, l_stands64), (⟨s65, nM66⟩, ⟨s76, nM77⟩), h, ⟨hc.1, hc.2⟩, rfl⟩
      · rintro ⟨l_watches99, l_stands100⟩ ⟨⟨s101, nM102⟩, ⟨s103, nM104⟩⟩ hc h
        refine ws_env (env' := [.d (.list (ns.map .int)), .bg a_bag, .d r9, s103, s101, .d l_turn60, w67, w68, w69, w70, w71, w72, w73, w74]) rfl ?_
        refine ws_cons (w1_set 6 sc_law.nd ?_)
        refine we_call h__law_pull hr ?_
        refine wa_s 1 ?_
        refine wa_d ?_
        refine we_lenLo 3 hc.1 m_len ?_
        refine ⟨rfl, ?_⟩
        refine wa_nil ?_
        refine ⟨rfl, _, _, _, _, rfl, h, fun r105 h => ⟨rfl, _, rfl, ?_⟩, fun c hc => ⟨rfl, ⟨_, hE _ hc, rfl, rfl⟩⟩⟩
        refine ⟨rfl, ?_⟩
        refine ws_env (env' := [.d (.list (ns.map .int)), .bg a_bag, .d r9, s103, s101, .d l_turn60, .d r105, w68, w69, w70, w71, w72, w73, w74]) rfl ?_
        refine ws_cons (w1_take 3 7 sc_law.nd hc.1 nM104 ?_)
        refine we_n 6 ?_
        refine takeM_m h fun j106 w107 h => ?_
        intro s108 s109 q110 hn111 hn112 hid113 nM114 nM115
        replace hn112 : IsOb "Watch" [("stages", .l w107)] s109 := hn112
        refine ws_env (env' := [.d (.list (ns.map .int)), .bg a_bag, .d r9, s108, s101, .d l_turn60, .d r105, s109, w69, w70, w71, w72, w73, w74]) rfl ?_
        refine ws_cons (w1_set 8 sc_law.nd ?_)
        refine we_ix ?_
        refine we_ix ?_
        refine we_ixN 4 hc.2 ?_
        refine we_n 6 ?_
        refine nestRow_m h fun l116 h => ?_
        refine we_neg ?_
        refine we_int ?_
        refine ⟨_, rfl, ?_⟩
        refine ix_sh h fun r117 h => ?_
        refine we_int ?_
        refine ix_sh h fun r118 h => ?_
        refine ⟨rfl, ?_⟩
        refine ws_env (env' := [.d (.list (ns.map .int)), .bg a_bag, .d r9, s108, s101, .d l_turn60, .d r105, s109, .d r118, w70, w71, w72, w73, w74]) rfl ?_
        refine ws_cons (w1_set 9 sc_law.nd ?_)
        refine we_ix ?_
        refine we_list ?_
        refine wa_d ?_
        refine we_str ?_
        refine ⟨rfl, ?_⟩
        refine wa_d ?_
        refine we_str ?_
        refine ⟨rfl, ?_⟩
        refine wa_d ?_
        refine we_str ?_
        refine ⟨rfl, ?_⟩
        refine wa_d ?_
        refine we_str ?_
        refine ⟨rfl, ?_⟩
        refine wa_d ?_
        refine we_str ?_
        refine ⟨rfl, ?_⟩
        refine wa_d ?_
        refine we_str ?_
        refine ⟨rfl, ?_⟩
        refine wa_nil ?_
        refine ⟨_, rfl, szOk rfl, ?_⟩
        refine we_call h__law_pull hr ?_
        refine wa_s 1 ?_
        refine wa_d ?_
        refine we_int ?_
        refine ⟨rfl, ?_⟩
        refine wa_nil ?_
        refine ⟨rfl, _, _, _, _, rfl, h, fun r119 h => ⟨rfl, _, rfl, ?_⟩, fun c hc => ⟨rfl, ⟨_, hE _ hc, rfl, rfl⟩⟩⟩
        refine ix_sh h fun r120 h => ?_
        refine ⟨rfl, ?_⟩
        refine ws_env (env' := [.d (.list (ns.map .int)), .bg a_bag, .d r9, s108, s101, .d l_turn60, .d r105, s109, .d r118, .d r120, w71, w72, w73, w74]) rfl ?_
        refine ws_cons (w1_set 10 sc_law.nd ?_)
        refine we_ix ?_
        refine we_list ?_
        refine wa_d ?_
        refine we_call h__law_pull hr ?_
        refine wa_s 1 ?_
        refine wa_d ?_
        refine we_add ?_
        refine we_n 8 ?_
        refine we_int ?_
        refine add_sh h fun r121 h => ?_
        refine ⟨rfl, ?_⟩
        refine wa_nil ?_
        refine ⟨rfl, _, _, _, _, rfl, h, fun r122 h => ⟨rfl, _, rfl, ?_⟩, fun c hc => ⟨rfl, ⟨_, hE _ hc, rfl, rfl⟩⟩⟩
        refine ⟨rfl, ?_⟩
        refine wa_d ?_
        refine we_call h__law_odd hr ?_
        refine wa_s 1 ?_
        refine wa_d ?_
        refine we_n 8 ?_
        refine ⟨rfl, ?_⟩
        refine wa_nil ?_
        refine ⟨rfl, _, _, _, _, rfl, h, fun r123 h => ⟨rfl, _, rfl, ?_⟩, fun c hc => ⟨rfl, ⟨_, hE _ hc, rfl, rfl⟩⟩⟩
        refine ⟨rfl, ?_⟩
        refine wa_nil ?_
        refine ⟨_, rfl, szOk rfl, ?_⟩
        refine we_div ?_
        refine we_call h__law_pull hr ?_
        refine wa_s 1 ?_
        refine wa_d ?_
        refine we_int ?_
        refine ⟨rfl, ?_⟩
        refine wa_nil ?_
        refine ⟨rfl, _, _, _, _, rfl, h, fun r124 h => ⟨rfl, _, rfl, ?_⟩, fun c hc => ⟨rfl, ⟨_, hE _ hc, rfl, rfl⟩⟩⟩
        refine we_int ?_
        refine div_sh h fun r125 h => ?_
        refine ix_sh h fun r126 h => ?_
        refine ⟨rfl, ?_⟩
        refine ws_env (env' := [.d (.list (ns.map .int)), .bg a_bag, .d r9, s108, s101, .d l_turn60, .d r105, s109, .d r118, .d r120, .d r126, w72, w73, w74]) rfl ?_
        refine ws_cons (w1_set 11 sc_law.nd ?_)
        refine we_ix ?_
        refine we_list ?_
        refine wa_d ?_
        refine we_str ?_
        refine ⟨rfl, ?_⟩
        refine wa_d ?_
        refine we_str ?_
        refine ⟨rfl, ?_⟩
        refine wa_d ?_
        refine we_str ?_
        refine ⟨rfl, ?_⟩
        refine wa_nil ?_
        refine ⟨_, rfl, szOk rfl, ?_⟩
        refine we_call h__law_pull hr ?_
        refine wa_s 1 ?_
        refine wa_d ?_
        refine we_int ?_
        refine ⟨rfl, ?_⟩
        refine wa_nil ?_
        refine ⟨rfl, _, _, _, _, rfl, h, fun r127 h => ⟨rfl, _, rfl, ?_⟩, fun c hc => ⟨rfl, ⟨_, hE _ hc, rfl, rfl⟩⟩⟩
        refine ix_sh h fun r128 h => ?_
        refine ⟨rfl, ?_⟩
        refine ws_env (env' := [.d (.list (ns.map .int)), .bg a_bag, .d r9, s108, s101, .d l_turn60, .d r105, s109, .d r118, .d r120, .d r126, .d r128, w73, w74]) rfl ?_
        refine ws_cons (w1_set 12 sc_law.nd ?_)
        refine we_none ?_
        refine ⟨rfl, ?_⟩
        refine ws_env (env' := [.d (.list (ns.map .int)), .bg a_bag, .d r9, s108, s101, .d l_turn60, .d r105, s109, .d r118, .d r120, .d r126, .d r128, .d PyData.none, w74]) rfl ?_
        refine ws_joinS h (fun (s : PyData) (u : Unit) => [.d (.list (ns.map .int)), .bg a_bag, .d r9, s108, s101, .d l_turn60, .d r105, s109, .d r118, .d r120, .d r126, .d r128, .d s, w74]) (fun Q h => ?_) ?_
        · refine w1_if ?_
          refine wt_ww ?_
          refine ww_andS h (fun Q h => ?_) (fun Q h => ?_) fun b129 h => ?_
          · refine wt_cp (op_neA hr) ?_
            refine we_n 11 ?_
            refine we_str ?_
            refine ne_sh h fun b130 h => ?_
            exact h
          · refine ww_and1 ?_
            refine wt_not ?_
            refine wt_ch (op_leA hr) (op_leA hr) ?_
            refine we_int ?_
            refine we_n 10 ?_
            refine ch_sh2 h (fun Q h => le_sh h fun _ h => h) (fun Q h => ?_) fun b131 h => ?_
            · refine we_n 8 ?_
              exact le_sh h fun _ h => h
            exact h
          obtain ⟨h133, h134⟩ := h
          refine ⟨fun e135 => ?_, fun e135 => ?_⟩
          · replace h := h133 e135
            refine ws_cons (w1_set 12 sc_law.nd ?_)
            refine we_str ?_
            refine ⟨rfl, ?_⟩
            refine ws_env (env' := [.d (.list (ns.map .int)), .bg a_bag, .d r9, s108, s101, .d l_turn60, .d r105, s109, .d r118, .d r120, .d r126, .d r128, .d (.str "BadNumber"), w74]) rfl ?_
            exact ws_nil ⟨(.str "BadNumber"), (), h, rfl⟩
          · replace h := h134 e135
            exact ws_nil ⟨PyData.none, (), h, rfl⟩
        · rintro l_due136 _ h
          refine ws_env (env' := [.d (.list (ns.map .int)), .bg a_bag, .d r9, s108, s101, .d l_turn60, .d r105, s109, .d r118, .d r120, .d r126, .d r128, .d l_due136, w74]) rfl ?_
          refine ws_joinS h (fun (s : PyData) (u : Unit) => [.d (.list (ns.map .int)), .bg a_bag, .d r9, s108, s101, .d l_turn60, .d r105, s109, .d r118, .d r120, .d r126, .d r128, .d s, w74]) (fun Q h => ?_) ?_
          · refine w1_if ?_
            refine wt_ww ?_
            refine ww_andS h (fun Q h => ?_) (fun Q h => ?_) fun b137 h => ?_
            · refine wt_cp (op_neA hr) ?_
              refine we_n 11 ?_
              refine we_str ?_
              refine ne_sh h fun b138 h => ?_
              exact h
            · refine ww_and1 ?_
              refine wt_cp (op_inA hr) ?_
              refine we_n 9 ?_
              refine we_tuple ?_
              refine wa_d ?_
              refine we_str ?_
              refine ⟨rfl, ?_⟩
              refine wa_d ?_
              refine we_str ?_
              refine ⟨rfl, ?_⟩
              refine wa_nil ?_
              refine ⟨_, rfl, szOk rfl, ?_⟩
              refine in_sh h fun b139 h => ?_
              exact h
            obtain ⟨h140, h141⟩ := h
            refine ⟨fun e142 => ?_, fun e142 => ?_⟩
            · replace h := h140 e142
              refine ws_cons (w1_set 12 sc_law.nd ?_)
              refine we_str ?_
              refine ⟨rfl, ?_⟩
              refine ws_env (env' := [.d (.list (ns.map .int)), .bg a_bag, .d r9, s108, s101, .d l_turn60, .d r105, s109, .d r118, .d r120, .d r126, .d r128, .d (.str "BadWay"), w74]) rfl ?_
              exact ws_nil ⟨(.str "BadWay"), (), h, rfl⟩
            · replace h := h141 e142
              exact ws_nil ⟨l_due136, (), h, rfl⟩
          · rintro l_due143 _ h
            refine ws_env (env' := [.d (.list (ns.map .int)), .bg a_bag, .d r9, s108, s101, .d l_turn60, .d r105, s109, .d r118, .d r120, .d r126, .d r128, .d l_due143, w74]) rfl ?_
            refine ws_cons (w1_if ?_)
            refine wt_cp (op_eqA hr) ?_
            refine we_call h__law_pull hr ?_
            refine wa_s 1 ?_
            refine wa_d ?_
            refine we_int ?_
            refine ⟨rfl, ?_⟩
            refine wa_nil ?_
            refine ⟨rfl, _, _, _, _, rfl, h, fun r144 h => ⟨rfl, _, rfl, ?_⟩, fun c hc => ⟨rfl, ⟨_, hE _ hc, rfl, rfl⟩⟩⟩
            refine we_int ?_
            refine eq_sh h fun b145 h => ?_
            obtain ⟨h146, h147⟩ := h
            refine ⟨fun e148 => ?_, fun e148 => ?_⟩
            · replace h := h146 e148
              refine ws_cons (w1_if ?_)
              refine wt_cp op_gt ?_
              refine we_len m_len ?_
              refine we_ixN 4 hc.2 ?_
              refine we_n 6 ?_
              refine nestRow_m h fun l149 h => ?_
              refine len_sh h fun r150 h => ?_
              refine we_int ?_
              refine gt_sh h fun b151 h => ?_
              obtain ⟨h152, h153⟩ := h
              refine ⟨fun e154 => ?_, fun e154 => ?_⟩
              · replace h := h152 e154
                refine ws_cons (w1_popRN 4 hc.2 nM102 ?_)
                refine we_n 6 ?_
                refine nestRow_m h fun l159 ⟨l160, y161, hq162, h⟩ => ⟨l160, y161, hq162, nestSetL_m h fun r155 h => ?_⟩
                intro s156 hn157 nM158
                refine ws_env (env' := [.d (.list (ns.map .int)), .bg a_bag, .d r9, s108, s156, .d l_turn60, .d r105, s109, .d r118, .d r120, .d r126, .d r128, .d l_due143, w74]) rfl ?_
                refine ws_cons (w1_ifM (wtm_cp op_notN ?_))
                refine wm_meth 7 mcall0 h_Watch__back hr hn112 rfl ?_
                refine waz_nil ?_
                refine ⟨rfl, s109, w107, _, _, hn112, rfl, h, fun r163 stages_168 s164 h hn165 hid166 => ⟨s164, rfl, hid166, _, rfl, fun hm167 => ?_⟩, fun c hc => ⟨rfl, ⟨_, hE _ hc, rfl, rfl⟩⟩⟩
                refine we_none ?_
                refine notN_sh ?_
                obtain ⟨h169, h170⟩ := h
                refine ⟨fun e171 => ?_, fun e171 => ?_⟩
                · replace h := h169 e171
                  refine ws_env (env' := [.d (.list (ns.map .int)), .bg a_bag, .d r9, s108, s156, .d l_turn60, .d r105, s164, .d r118, .d r120, .d r126, .d r128, .d l_due143, w74]) rfl ?_
                  refine ws_cons (w1_ret ?_)
                  refine we_bool ?_
                  exact ⟨rfl, _, hK _ h, trivial, rfl, rfl⟩
                · replace h := h170 e171
                  refine ws_env (env' := [.d (.list (ns.map .int)), .bg a_bag, .d r9, s108, s156, .d l_turn60, .d r105, s164, .d r118, .d r120, .d r126, .d r128, .d l_due143, w74]) rfl ?_
                  refine ws_nil ?_
                  refine ws_nil ?_
                  refine ws_nil ?_
                  refine ws_give 3 7 (w := stages_168) hn111 hn165 (hm167.1.trans hid113) nM114 (obM_loc hm167 nM115) ?_
                  intro s172 hn173 nM174
                  refine ws_env (env' := [.d (.list (ns.map .int)), .bg a_bag, .d r9, s172, s156, .d l_turn60, .d r105, .un, .d r118, .d r120, .d r126, .d r128, .d l_due143, w74]) rfl ?_
                  refine ws_cons (w1_for hp rfl (pg_name (i := 13) sc_law.nd rfl (by first | exact Or.inl rfl | exact Or.inr rfl)) (tgd_name 13) ?_)
                  refine wi_r1 m_range ?_
                  refine we_lenLo 3 hn173 m_len ?_
                  refine rng_sh h fun xs175 h => ?_
                  refine forS h (fun (s : Unit) (u : Sl) => [.d (.list (ns.map .int)), .bg a_bag, .d r9, s172, s156, .d l_turn60, .d r105, .un, .d r118, .d r120, .d r126, .d r128, .d l_due143, u]) (w74) rfl ?_ ?_
                  · rintro _ w176 h
                    refine ws_env (env' := [.d (.list (ns.map .int)), .bg a_bag, .d r9, s172, s156, .d l_turn60, .d r105, .un, .d r118, .d r120, .d r126, .d r128, .d l_due143, w176]) rfl ?_
                    exact ws_nil ⟨((l_watches99.set j106 stages_168), r155), (⟨s156, nM158⟩, (.d r105), (.un), (.d r118), (.d r120), (.d r126), (.d r128), (.d l_due143), (w176), (.d l_turn60), ⟨s172, nM174⟩), h, ⟨hn173, hn157⟩, rfl⟩
                  · rintro hend l_one177 _ w180 N178 h
                    refine ⟨[(13, l_one177)], rfl, rfl, ?_⟩
                    refine ws_env (env' := [.d (.list (ns.map .int)), .bg a_bag, .d r9, s172, s156, .d l_turn60, .d r105, .un, .d r118, .d r120, .d r126, .d r128, .d l_due143, .d l_one177]) rfl ?_
                    refine ws_cons (w1_if ?_)
                    refine wt_not ?_
                    refine wt_e ?_
                    refine we_call h__law_alike hr ?_
                    refine wa_d ?_
                    refine we_list ?_
                    refine wa_d ?_
                    refine we_methLo 3 mcall0 h_Watch__left h_Watch__init.ins hr hn173 ?_
                    refine we_n 13 ?_
                    refine takeM_m h fun j181 w182 h => ?_
                    refine ⟨rfl, rfl, fun s183 hn184 => ⟨s183, w182, _, _, hn184, rfl, h, fun r185 h => ⟨rfl, _, rfl, ?_⟩, fun c hc => ⟨rfl, ⟨_, hE _ hc, rfl, rfl⟩⟩⟩⟩
                    refine ⟨rfl, ?_⟩
                    refine wa_d ?_
                    refine we_methLo 3 mcall0 h_Watch__met h_Watch__init.ins hr hn173 ?_
                    refine we_n 13 ?_
                    refine takeM_m h fun j186 w187 h => ?_
                    refine ⟨rfl, rfl, fun s188 hn189 => ⟨s188, w187, _, _, hn189, rfl, h, fun r190 h => ⟨rfl, _, rfl, ?_⟩, fun c hc => ⟨rfl, ⟨_, hE _ hc, rfl, rfl⟩⟩⟩⟩
                    refine ⟨rfl, ?_⟩
                    refine wa_nil ?_
                    refine ⟨_, rfl, szOk rfl, ?_⟩
                    refine ⟨rfl, ?_⟩
                    refine wa_d ?_
                    refine we_of_wn ?_
                    refine wn_listof m_list ?_
                    refine we_ix ?_
                    refine we_ixN 4 hn157 ?_
                    refine we_n 13 ?_
                    refine nestRow_m h fun l191 h => ?_
                    refine we_neg ?_
                    refine we_int ?_
                    refine ⟨_, rfl, ?_⟩
                    refine ix_sh h fun r192 h => ?_
                    refine list_sh h fun l193 h => ?_
                    refine ⟨rfl, ?_⟩
                    refine wa_nil ?_
                    refine ⟨rfl, _, _, _, _, rfl, h, fun r194 h => ⟨rfl, _, rfl, ?_⟩, fun c hc => ⟨rfl, ⟨_, hE _ hc, rfl, rfl⟩⟩⟩
                    refine bool_sh h fun b195 h => ?_
                    obtain ⟨h196, h197⟩ := h
                    refine ⟨fun e198 => ?_, fun e198 => ?_⟩
                    · replace h := h196 e198
                      refine ws_cons (w1_ret ?_)
                      refine we_bool ?_
                      exact ⟨rfl, _, hK _ h, trivial, rfl, rfl⟩
                    · replace h := h197 e198
                      refine ws_nil ?_
                      exact ws_nil ⟨(), (.d l_one177), h, rfl⟩
              · replace h := h153 e154
                refine ws_cons (w1_ifM (wtm_cp (op_neA hr) ?_))
                refine wm_call 7 h__law_no_back hr rfl ?_
                refine wa_s 7 ?_ (hne := hn112.fpne)
                refine wa_nil ?_
                refine ⟨rfl, rfl, s109, w107, _, _, hn112, rfl, h, fun r199 stages_204 s200 h hn201 hid202 => ⟨s200, rfl, hid202, _, rfl, fun hm203 => ?_⟩, fun c hc => ⟨rfl, ⟨_, hE _ hc, rfl, rfl⟩⟩⟩
                refine we_str ?_
                refine ne_sh h fun b205 h => ?_
                obtain ⟨h206, h207⟩ := h
                refine ⟨fun e208 => ?_, fun e208 => ?_⟩
                · replace h := h206 e208
                  refine ws_env (env' := [.d (.list (ns.map .int)), .bg a_bag, .d r9, s108, s101, .d l_turn60, .d r105, s200, .d r118, .d r120, .d r126, .d r128, .d l_due143, w74]) rfl ?_
                  refine ws_cons (w1_ret ?_)
                  refine we_bool ?_
                  exact ⟨rfl, _, hK _ h, trivial, rfl, rfl⟩
                · replace h := h207 e208
                  refine ws_env (env' := [.d (.list (ns.map .int)), .bg a_bag, .d r9, s108, s101, .d l_turn60, .d r105, s200, .d r118, .d r120, .d r126, .d r128, .d l_due143, w74]) rfl ?_
                  refine ws_nil ?_
                  refine ws_nil ?_
                  refine ws_nil ?_
                  refine ws_give 3 7 (w := stages_204) hn111 hn201 (hm203.1.trans hid113) nM114 (obM_loc hm203 nM115) ?_
                  intro s209 hn210 nM211
                  refine ws_env (env' := [.d (.list (ns.map .int)), .bg a_bag, .d r9, s209, s101, .d l_turn60, .d r105, .un, .d r118, .d r120, .d r126, .d r128, .d l_due143, w74]) rfl ?_
                  refine ws_cons (w1_for hp rfl (pg_name (i := 13) sc_law.nd rfl (by first | exact Or.inl rfl | exact Or.inr rfl)) (tgd_name 13) ?_)
                  refine wi_r1 m_range ?_
                  refine we_lenLo 3 hn210 m_len ?_
                  refine rng_sh h fun xs212 h => ?_
                  refine forS h (fun (s : Unit) (u : Sl) => [.d (.list (ns.map .int)), .bg a_bag, .d r9, s209, s101, .d l_turn60, .d r105, .un, .d r118, .d r120, .d r126, .d r128, .d l_due143, u]) (w74) rfl ?_ ?_
                  · rintro _ w213 h
                    refine ws_env (env' := [.d (.list (ns.map .int)), .bg a_bag, .d r9, s209, s101, .d l_turn60, .d r105, .un, .d r118, .d r120, .d r126, .d r128, .d l_due143, w213]) rfl ?_
                    exact ws_nil ⟨((l_watches99.set j106 stages_204), l_stands100), (⟨s101, nM102⟩, (.d r105), (.un), (.d r118), (.d r120), (.d r126), (.d r128), (.d l_due143), (w213), (.d l_turn60), ⟨s209, nM211⟩), h, ⟨hn210, hc.2⟩, rfl⟩
                  · rintro hend l_one214 _ w217 N215 h
                    refine ⟨[(13, l_one214)], rfl, rfl, ?_⟩
                    refine ws_env (env' := [.d (.list (ns.map .int)), .bg a_bag, .d r9, s209, s101, .d l_turn60, .d r105, .un, .d r118, .d r120, .d r126, .d r128, .d l_due143, .d l_one214]) rfl ?_
                    refine ws_cons (w1_if ?_)
                    refine wt_not ?_
                    refine wt_e ?_
                    refine we_call h__law_alike hr ?_
                    refine wa_d ?_
                    refine we_list ?_
                    refine wa_d ?_
                    refine we_methLo 3 mcall0 h_Watch__left h_Watch__init.ins hr hn210 ?_
                    refine we_n 13 ?_
                    refine takeM_m h fun j218 w219 h => ?_
                    refine ⟨rfl, rfl, fun s220 hn221 => ⟨s220, w219, _, _, hn221, rfl, h, fun r222 h => ⟨rfl, _, rfl, ?_⟩, fun c hc => ⟨rfl, ⟨_, hE _ hc, rfl, rfl⟩⟩⟩⟩
                    refine ⟨rfl, ?_⟩
                    refine wa_d ?_
                    refine we_methLo 3 mcall0 h_Watch__met h_Watch__init.ins hr hn210 ?_
                    refine we_n 13 ?_
                    refine takeM_m h fun j223 w224 h => ?_
                    refine ⟨rfl, rfl, fun s225 hn226 => ⟨s225, w224, _, _, hn226, rfl, h, fun r227 h => ⟨rfl, _, rfl, ?_⟩, fun c hc => ⟨rfl, ⟨_, hE _ hc, rfl, rfl⟩⟩⟩⟩
                    refine ⟨rfl, ?_⟩
                    refine wa_nil ?_
                    refine ⟨_, rfl, szOk rfl, ?_⟩
                    refine ⟨rfl, ?_⟩
                    refine wa_d ?_
                    refine we_of_wn ?_
                    refine wn_listof m_list ?_
                    refine we_ix ?_
                    refine we_ixN 4 hc.2 ?_
                    refine we_n 13 ?_
                    refine nestRow_m h fun l228 h => ?_
                    refine we_neg ?_
                    refine we_int ?_
                    refine ⟨_, rfl, ?_⟩
                    refine ix_sh h fun r229 h => ?_
                    refine list_sh h fun l230 h => ?_
                    refine ⟨rfl, ?_⟩
                    refine wa_nil ?_
                    refine ⟨rfl, _, _, _, _, rfl, h, fun r231 h => ⟨rfl, _, rfl, ?_⟩, fun c hc => ⟨rfl, ⟨_, hE _ hc, rfl, rfl⟩⟩⟩
                    refine bool_sh h fun b232 h => ?_
                    obtain ⟨h233, h234⟩ := h
                    refine ⟨fun e235 => ?_, fun e235 => ?_⟩
                    · replace h := h233 e235
                      refine ws_cons (w1_ret ?_)
                      refine we_bool ?_
                      exact ⟨rfl, _, hK _ h, trivial, rfl, rfl⟩
                    · replace h := h234 e235
                      refine ws_nil ?_
                      exact ws_nil ⟨(), (.d l_one214), h, rfl⟩
            · replace h := h147 e148
              refine ws_cons (w1_ifM (wtm_cp (op_neA hr) ?_))
              refine wm_call 7 h__law_watch_do hr rfl ?_
              refine wa_s 7 ?_ (hne := hn112.fpne)
              refine wa_d ?_
              refine we_tuple ?_
              refine wa_d ?_
              refine we_n 11 ?_
              refine ⟨rfl, ?_⟩
              refine wa_d ?_
              refine we_n 9 ?_
              refine ⟨rfl, ?_⟩
              refine wa_d ?_
              refine we_n 10 ?_
              refine ⟨rfl, ?_⟩
              refine wa_nil ?_
              refine ⟨_, rfl, szOk rfl, ?_⟩
              refine ⟨rfl, ?_⟩
              refine wa_nil ?_
              refine ⟨rfl, rfl, s109, w107, _, _, _, hn112, rfl, h, fun r236 stages_241 s237 h hn238 hid239 => ⟨s237, rfl, hid239, _, rfl, fun hm240 => ?_⟩, fun c hc => ⟨rfl, ⟨_, hE _ hc, rfl, rfl⟩⟩⟩
              refine we_n 12 ?_
              refine ne_sh h fun b242 h => ?_
              obtain ⟨h243, h244⟩ := h
              refine ⟨fun e245 => ?_, fun e245 => ?_⟩
              · replace h := h243 e245
                refine ws_env (env' := [.d (.list (ns.map .int)), .bg a_bag, .d r9, s108, s101, .d l_turn60, .d r105, s237, .d r118, .d r120, .d r126, .d r128, .d l_due143, w74]) rfl ?_
                refine ws_cons (w1_ret ?_)
                refine we_bool ?_
                exact ⟨rfl, _, hK _ h, trivial, rfl, rfl⟩
              · replace h := h244 e245
                refine ws_env (env' := [.d (.list (ns.map .int)), .bg a_bag, .d r9, s108, s101, .d l_turn60, .d r105, s237, .d r118, .d r120, .d r126, .d r128, .d l_due143, w74]) rfl ?_
                refine ws_cons (w1_if ?_)
                refine wt_cp op_isN ?_
                refine we_n 12 ?_
                refine we_none ?_
                refine isN_sh ?_
                obtain ⟨h246, h247⟩ := h
                refine ⟨fun e248 => ?_, fun e248 => ?_⟩
                · replace h := h246 e248
                  refine ws_cons (w1_appN 4 hc.2 nM102 ?_)
                  refine we_n 6 ?_
                  refine nestRow_m h fun l253 h => ?_
                  refine we_tuple ?_
                  refine wa_d ?_
                  refine we_of_wn ?_
                  refine wn_listof m_list ?_
                  refine we_meth 7 mcall0 h_Watch__left hr hn238 rfl ?_
                  refine waz_nil ?_
                  refine ⟨rfl, s237, stages_241, _, _, hn238, rfl, h, fun r254 h => ⟨_, rfl, rfl, _, rfl, ?_⟩, fun c hc => ⟨rfl, ⟨_, hE _ hc, rfl, rfl⟩⟩⟩
                  refine list_sh h fun l255 h => ?_
                  refine ⟨rfl, ?_⟩
                  refine wa_d ?_
                  refine we_ifS h (fun Q h => ?_) (fun Q h => ?_) (fun Q h => ?_) fun r256 h => ?_
                  · refine wt_cp (op_eqA hr) ?_
                    refine we_n 11 ?_
                    refine we_str ?_
                    refine eq_sh h fun b257 h => ?_
                    exact h
                  · refine we_n 8 ?_
                    exact ⟨rfl, h⟩
                  · refine we_max2A m_max rfl ?_
                    refine we_n 8 ?_
                    refine we_add ?_
                    refine we_n 10 ?_
                    refine we_int ?_
                    refine add_sh h fun r258 h => ?_
                    refine max2_m h fun r259 h => ?_
                    exact ⟨rfl, h⟩
                  refine ⟨rfl, ?_⟩
                  refine wa_nil ?_
                  refine ⟨_, rfl, szOk rfl, ?_⟩
                  obtain ⟨hl260, h⟩ := h
                  refine ⟨rfl, hl260, nestSetL_m h fun r249 h => ?_⟩
                  intro s250 hn251 nM252
                  refine ws_env (env' := [.d (.list (ns.map .int)), .bg a_bag, .d r9, s108, s250, .d l_turn60, .d r105, s237, .d r118, .d r120, .d r126, .d r128, .d l_due143, w74]) rfl ?_
                  refine ws_nil ?_
                  refine ws_nil ?_
                  refine ws_nil ?_
                  refine ws_give 3 7 (w := stages_241) hn111 hn238 (hm240.1.trans hid113) nM114 (obM_loc hm240 nM115) ?_
                  intro s261 hn262 nM263
                  refine ws_env (env' := [.d (.list (ns.map .int)), .bg a_bag, .d r9, s261, s250, .d l_turn60, .d r105, .un, .d r118, .d r120, .d r126, .d r128, .d l_due143, w74]) rfl ?_
                  refine ws_cons (w1_for hp rfl (pg_name (i := 13) sc_law.nd rfl (by first | exact Or.inl rfl | exact Or.inr rfl)) (tgd_name 13) ?_)
                  refine wi_r1 m_range ?_
                  refine we_lenLo 3 hn262 m_len ?_
                  refine rng_sh h fun xs264 h => ?_
                  refine forS h (fun (s : Unit) (u : Sl) => [.d (.list (ns.map .int)), .bg a_bag, .d r9, s261, s250, .d l_turn60, .d r105, .un, .d r118, .d r120, .d r126, .d r128, .d l_due143, u]) (w74) rfl ?_ ?_
                  · rintro _ w265 h
                    refine ws_env (env' := [.d (.list (ns.map .int)), .bg a_bag, .d r9, s261, s250, .d l_turn60, .d r105, .un, .d r118, .d r120, .d r126, .d r128, .d l_due143, w265]) rfl ?_
                    exact ws_nil ⟨((l_watches99.set j106 stages_241), r249), (⟨s250, nM252⟩, (.d r105), (.un), (.d r118), (.d r120), (.d r126), (.d r128), (.d l_due143), (w265), (.d l_turn60), ⟨s261, nM263⟩), h, ⟨hn262, hn251⟩, rfl⟩
                  · rintro hend l_one266 _ w269 N267 h
                    refine ⟨[(13, l_one266)], rfl, rfl, ?_⟩
                    refine ws_env (env' := [.d (.list (ns.map .int)), .bg a_bag, .d r9, s261, s250, .d l_turn60, .d r105, .un, .d r118, .d r120, .d r126, .d r128, .d l_due143, .d l_one266]) rfl ?_
                    refine ws_cons (w1_if ?_)
                    refine wt_not ?_
                    refine wt_e ?_
                    refine we_call h__law_alike hr ?_
                    refine wa_d ?_
                    refine we_list ?_
                    refine wa_d ?_
                    refine we_methLo 3 mcall0 h_Watch__left h_Watch__init.ins hr hn262 ?_
                    refine we_n 13 ?_
                    refine takeM_m h fun j270 w271 h => ?_
                    refine ⟨rfl, rfl, fun s272 hn273 => ⟨s272, w271, _, _, hn273, rfl, h, fun r274 h => ⟨rfl, _, rfl, ?_⟩, fun c hc => ⟨rfl, ⟨_, hE _ hc, rfl, rfl⟩⟩⟩⟩
                    refine ⟨rfl, ?_⟩
                    refine wa_d ?_
                    refine we_methLo 3 mcall0 h_Watch__met h_Watch__init.ins hr hn262 ?_
                    refine we_n 13 ?_
                    refine takeM_m h fun j275 w276 h => ?_
                    refine ⟨rfl, rfl, fun s277 hn278 => ⟨s277, w276, _, _, hn278, rfl, h, fun r279 h => ⟨rfl, _, rfl, ?_⟩, fun c hc => ⟨rfl, ⟨_, hE _ hc, rfl, rfl⟩⟩⟩⟩
                    refine ⟨rfl, ?_⟩
                    refine wa_nil ?_
                    refine ⟨_, rfl, szOk rfl, ?_⟩
                    refine ⟨rfl, ?_⟩
                    refine wa_d ?_
                    refine we_of_wn ?_
                    refine wn_listof m_list ?_
                    refine we_ix ?_
                    refine we_ixN 4 hn251 ?_
                    refine we_n 13 ?_
                    refine nestRow_m h fun l280 h => ?_
                    refine we_neg ?_
                    refine we_int ?_
                    refine ⟨_, rfl, ?_⟩
                    refine ix_sh h fun r281 h => ?_
                    refine list_sh h fun l282 h => ?_
                    refine ⟨rfl, ?_⟩
                    refine wa_nil ?_
                    refine ⟨rfl, _, _, _, _, rfl, h, fun r283 h => ⟨rfl, _, rfl, ?_⟩, fun c hc => ⟨rfl, ⟨_, hE _ hc, rfl, rfl⟩⟩⟩
                    refine bool_sh h fun b284 h => ?_
                    obtain ⟨h285, h286⟩ := h
                    refine ⟨fun e287 => ?_, fun e287 => ?_⟩
                    · replace h := h285 e287
                      refine ws_cons (w1_ret ?_)
                      refine we_bool ?_
                      exact ⟨rfl, _, hK _ h, trivial, rfl, rfl⟩
                    · replace h := h286 e287
                      refine ws_nil ?_
                      exact ws_nil ⟨(), (.d l_one266), h, rfl⟩
                · replace h := h247 e248
                  refine ws_nil ?_
                  refine ws_nil ?_
                  refine ws_nil ?_
                  refine ws_give 3 7 (w := stages_241) hn111 hn238 (hm240.1.trans hid113) nM114 (obM_loc hm240 nM115) ?_
                  intro s288 hn289 nM290
                  refine ws_env (env' := [.d (.list (ns.map .int)), .bg a_bag, .d r9, s288, s101, .d l_turn60, .d r105, .un, .d r118, .d r120, .d r126, .d r128, .d l_due143, w74]) rfl ?_
                  refine ws_cons (w1_for hp rfl (pg_name (i := 13) sc_law.nd rfl (by first | exact Or.inl rfl | exact Or.inr rfl)) (tgd_name 13) ?_)
                  refine wi_r1 m_range ?_
                  refine we_lenLo 3 hn289 m_len ?_
                  refine rng_sh h fun xs291 h => ?_
                  refine forS h (fun (s : Unit) (u : Sl) => [.d (.list (ns.map .int)), .bg a_bag, .d r9, s288, s101, .d l_turn60, .d r105, .un, .d r118, .d r120, .d r126, .d r128, .d l_due143, u]) (w74) rfl ?_ ?_
                  · rintro _ w292 h
                    refine ws_env (env' := [.d (.list (ns.map .int)), .bg a_bag, .d r9, s288, s101, .d l_turn60, .d r105, .un, .d r118, .d r120, .d r126, .d r128, .d l_due143, w292]) rfl ?_
                    exact ws_nil ⟨((l_watches99.set j106 stages_241), l_stands100), (⟨s101, nM102⟩, (.d r105), (.un), (.d r118), (.d r120), (.d r126), (.d r128), (.d l_due143), (w292), (.d l_turn60), ⟨s288, nM290⟩), h, ⟨hn289, hc.2⟩, rfl⟩
                  · rintro hend l_one293 _ w296 N294 h
                    refine ⟨[(13, l_one293)], rfl, rfl, ?_⟩
                    refine ws_env (env' := [.d (.list (ns.map .int)), .bg a_bag, .d r9, s288, s101, .d l_turn60, .d r105, .un, .d r118, .d r120, .d r126, .d r128, .d l_due143, .d l_one293]) rfl ?_
                    refine ws_cons (w1_if ?_)
                    refine wt_not ?_
                    refine wt_e ?_
                    refine we_call h__law_alike hr ?_
                    refine wa_d ?_
                    refine we_list ?_
                    refine wa_d ?_
                    refine we_methLo 3 mcall0 h_Watch__left h_Watch__init.ins hr hn289 ?_
                    refine we_n 13 ?_
                    refine takeM_m h fun j297 w298 h => ?_
                    refine ⟨rfl, rfl, fun s299 hn300 => ⟨s299, w298, _, _, hn300, rfl, h, fun r301 h => ⟨rfl, _, rfl, ?_⟩, fun c hc => ⟨rfl, ⟨_, hE _ hc, rfl, rfl⟩⟩⟩⟩
                    refine ⟨rfl, ?_⟩
                    refine wa_d ?_
                    refine we_methLo 3 mcall0 h_Watch__met h_Watch__init.ins hr hn289 ?_
                    refine we_n 13 ?_
                    refine takeM_m h fun j302 w303 h => ?_
                    refine ⟨rfl, rfl, fun s304 hn305 => ⟨s304, w303, _, _, hn305, rfl, h, fun r306 h => ⟨rfl, _, rfl, ?_⟩, fun c hc => ⟨rfl, ⟨_, hE _ hc, rfl, rfl⟩⟩⟩⟩
                    refine ⟨rfl, ?_⟩
                    refine wa_nil ?_
                    refine ⟨_, rfl, szOk rfl, ?_⟩
                    refine ⟨rfl, ?_⟩
                    refine wa_d ?_
                    refine we_of_wn ?_
                    refine wn_listof m_list ?_
                    refine we_ix ?_
                    refine we_ixN 4 hc.2 ?_
                    refine we_n 13 ?_
                    refine nestRow_m h fun l307 h => ?_
                    refine we_neg ?_
                    refine we_int ?_
                    refine ⟨_, rfl, ?_⟩
                    refine ix_sh h fun r308 h => ?_
                    refine list_sh h fun l309 h => ?_
                    refine ⟨rfl, ?_⟩
                    refine wa_nil ?_
                    refine ⟨rfl, _, _, _, _, rfl, h, fun r310 h => ⟨rfl, _, rfl, ?_⟩, fun c hc => ⟨rfl, ⟨_, hE _ hc, rfl, rfl⟩⟩⟩
                    refine bool_sh h fun b311 h => ?_
                    obtain ⟨h312, h313⟩ := h
                    refine ⟨fun e314 => ?_, fun e314 => ?_⟩
                    · replace h := h312 e314
                      refine ws_cons (w1_ret ?_)
                      refine we_bool ?_
                      exact ⟨rfl, _, hK _ h, trivial, rfl, rfl⟩
                    · replace h := h313 e314
                      refine ws_nil ?_
                      exact ws_nil ⟨(), (.d l_one293), h, rfl⟩
end
end Tx
namespace Tx
open Hd PySem PySem.Spec PyProof.Rows L2 TL
set_option maxRecDepth 100000
theorem facts {P : Program} {w : World} {K0 K : PySem.W.Frag} (hK : K = markK tf K0) {h : Heap} {mg : Str → Option Value} {f : Addr} (X0 : K0.In h) (G : h.Ns mainGlobals mg) (hfa : mg ("law" : Str) = some (.ref f)) (sl : SaysL xf fa fn tf h K0) :
    ∃ fd : FuncData, (∀ (s : Shared) (v : Value), BindsTo s fd ⟨[v], []⟩ [("_law_script", v)]) ∧ ∀ base : Heap, K.In base → base.Ns mainGlobals mg → (∀ p ∈ csOf tf K0, LamX.TabB base mg p.1 p.2) → FnOk P w K mg base (L2.CX P w) 73 f fd ["_law_script"] (spOf K 1 cLaw) := by
  have X : K.In h := by rw [hK]; exact sl.kin X0
  have c : SaysX xf fa fn K := by rw [hK]; exact sl.x
  obtain ⟨fd_follows, F_follows⟩ := c.d.def_ 0 (d := d_follows) rfl
  obtain ⟨fd_pair_of, F_pair_of⟩ := c.d.def_ 1 (d := d_pair_of) rfl
  obtain ⟨fd_all_lines, F_all_lines⟩ := c.d.def_ 2 (d := d_all_lines) rfl
  obtain ⟨fd_neighbours, F_neighbours⟩ := c.d.def_ 3 (d := d_neighbours) rfl
  obtain ⟨fd_need_faces, F_need_faces⟩ := c.d.def_ 4 (d := d_need_faces) rfl
  obtain ⟨fd_ways_row, F_ways_row⟩ := c.d.def_ 5 (d := d_ways_row) rfl
  obtain ⟨fd_how_many, F_how_many⟩ := c.d.def_ 6 (d := d_how_many) rfl
  obtain ⟨fd_cut_by, F_cut_by⟩ := c.d.def_ 7 (d := d_cut_by) rfl
  obtain ⟨fd_plan_numbered, F_plan_numbered⟩ := c.d.def_ 8 (d := d_plan_numbered) rfl
  obtain ⟨fd_need_way, F_need_way⟩ := c.d.def_ 9 (d := d_need_way) rfl
  obtain ⟨fd_between, F_between⟩ := c.d.def_ 10 (d := d_between) rfl
  obtain ⟨fd_third_corner, F_third_corner⟩ := c.d.def_ 11 (d := d_third_corner) rfl
  obtain ⟨fd_beginnings, F_beginnings⟩ := c.d.def_ 12 (d := d_beginnings) rfl
  obtain ⟨fd_Watch__init, F_Watch__init⟩ := c.d.def_ 13 (d := d_Watch__init) rfl
  obtain ⟨fd_Watch__met, F_Watch__met⟩ := c.d.def_ 14 (d := d_Watch__met) rfl
  obtain ⟨fd_Watch__need_number, F_Watch__need_number⟩ := c.d.def_ 15 (d := d_Watch__need_number) rfl
  obtain ⟨fd_Watch__shown, F_Watch__shown⟩ := c.d.def_ 16 (d := d_Watch__shown) rfl
  obtain ⟨fd_Watch__went, F_Watch__went⟩ := c.d.def_ 17 (d := d_Watch__went) rfl
  obtain ⟨fd_Watch__stuck, F_Watch__stuck⟩ := c.d.def_ 18 (d := d_Watch__stuck) rfl
  obtain ⟨fd_Watch__turned_over, F_Watch__turned_over⟩ := c.d.def_ 19 (d := d_Watch__turned_over) rfl
  obtain ⟨fd_Watch__left, F_Watch__left⟩ := c.d.def_ 20 (d := d_Watch__left) rfl
  obtain ⟨fd_Watch__back, F_Watch__back⟩ := c.d.def_ 21 (d := d_Watch__back) rfl
  obtain ⟨fd_Watch__twin, F_Watch__twin⟩ := c.d.def_ 22 (d := d_Watch__twin) rfl
  obtain ⟨fd__law_alike, F__law_alike⟩ := c.d.def_ 23 (d := d__law_alike) rfl
  obtain ⟨fd__law_bag, F__law_bag⟩ := c.d.def_ 24 (d := d__law_bag) rfl
  obtain ⟨fd__law_bounds_held, F__law_bounds_held⟩ := c.d.def_ 25 (d := d__law_bounds_held) rfl
  obtain ⟨fd__law_no_back, F__law_no_back⟩ := c.d.def_ 26 (d := d__law_no_back) rfl
  obtain ⟨fd__law_odd, F__law_odd⟩ := c.d.def_ 27 (d := d__law_odd) rfl
  obtain ⟨fd__law_pull, F__law_pull⟩ := c.d.def_ 28 (d := d__law_pull) rfl
  obtain ⟨fd__law_watch_do, F__law_watch_do⟩ := c.d.def_ 29 (d := d__law_watch_do) rfl
  obtain ⟨fd__law_watch_word, F__law_watch_word⟩ := c.d.def_ 30 (d := d__law_watch_word) rfl
  obtain ⟨fd__law_whole, F__law_whole⟩ := c.d.def_ 31 (d := d__law_whole) rfl
  obtain ⟨fd_law, F_law⟩ := c.d.def_ 32 (d := d_law) rfl
  have e := hfa.symm.trans (He.glo_ok X G (c.d.fact 22 (f := .glo "law") rfl))
  cases e
  have bl := FunD.bindsA (ps := ["_law_script"]) F_law fun _ _ _ _ _ _ us hl => match us, hl with | [_], _ => rfl
  refine ⟨fd_law, fun s v => bl s [v] rfl, fun base _ _ hB => ?_⟩
  have h_o__law_bag := ok_o__law_bag (P := P) (w := w) (K := K) (mg := mg) (base := base) (k := 0) F__law_bag (He.glo_ok X G (c.d.fact 14 (f := .glo "_law_bag") rfl)) (F__law_bag.bindsN fun _ _ _ _ _ _ us hl => match us, hl with | [_], _ => rfl) (He.free_ok X G (c.d.fact 45 (f := .free "len") rfl)) (He.free_ok X G (c.d.fact 40 (f := .free "abs") rfl)) (He.free_ok X G (c.d.fact 43 (f := .free "int") rfl))
  have h_need_faces := ok_need_faces (P := P) (w := w) (K := K) (mg := mg) (base := base) (k := 0) F_need_faces (He.glo_ok X G (c.d.fact 4 (f := .glo "need_faces") rfl)) (F_need_faces.bindsN fun _ _ _ _ _ _ us hl => match us, hl with | [_], _ => rfl) (He.int_ok X G (c.d.fact 54 (f := .int "LEAST" 3) rfl)) (He.int_ok X G (c.d.fact 55 (f := .int "MOST" 40) rfl)) (exk_of (He.glo_ok X G (c.d.fact 36 (f := .glo "BadFaces") rfl)) (He.exc_ok (c.d.fact 60 (f := .exc "BadFaces") rfl)))
  have h_ways_row := ok_ways_row (P := P) (w := w) (K := K) (mg := mg) (base := base) (k := 0) F_ways_row (He.glo_ok X G (c.d.fact 5 (f := .glo "ways_row") rfl)) (F_ways_row.bindsN fun _ _ _ _ _ _ us hl => match us, hl with | [_], _ => rfl) (He.free_ok X G (c.d.fact 45 (f := .free "len") rfl)) (He.free_ok X G (c.d.fact 52 (f := .free "sum") rfl)) (He.free_ok X G (c.d.fact 49 (f := .free "range") rfl))
  have h_how_many := ok_how_many (P := P) (w := w) (K := K) (mg := mg) (base := base) (k := 1) F_how_many (He.glo_ok X G (c.d.fact 6 (f := .glo "how_many") rfl)) (F_how_many.bindsN fun _ _ _ _ _ _ us hl => match us, hl with | [_], _ => rfl) (h_need_faces.mono (by decide)) (h_ways_row.mono (by decide))
  have h_pair_of := ok_pair_of (P := P) (w := w) (K := K) (mg := mg) (base := base) (k := 0) F_pair_of (He.glo_ok X G (c.d.fact 1 (f := .glo "pair_of") rfl)) (F_pair_of.bindsN fun _ _ _ _ _ _ us hl => match us, hl with | [_, _], _ => rfl) (He.free_ok X G (c.d.fact 48 (f := .free "min") rfl)) (He.free_ok X G (c.d.fact 47 (f := .free "max") rfl))
  have h_cut_by := ok_cut_by (P := P) (w := w) (K := K) (mg := mg) (base := base) (k := 0) F_cut_by (He.glo_ok X G (c.d.fact 7 (f := .glo "cut_by") rfl)) (F_cut_by.bindsN fun _ _ _ _ _ _ us hl => match us, hl with | [_, _, _, _], _ => rfl) 64
  have h_plan_numbered := ok_plan_numbered (P := P) (w := w) (K := K) (mg := mg) (base := base) (k := 65) F_plan_numbered (He.glo_ok X G (c.d.fact 8 (f := .glo "plan_numbered") rfl)) (F_plan_numbered.bindsN fun _ _ _ _ _ _ us hl => match us, hl with | [_, _], _ => rfl) (h_need_faces.mono (by decide)) (h_ways_row.mono (by decide)) (exk_of (He.glo_ok X G (c.d.fact 38 (f := .glo "BadNumber") rfl)) (He.exc_ok (c.d.fact 62 (f := .exc "BadNumber") rfl))) (h_cut_by.mono (by decide)) (h_pair_of.mono (by decide)) (He.free_ok X G (c.d.fact 53 (f := .free "tuple") rfl)) (He.free_ok X G (c.d.fact 50 (f := .free "sorted") rfl))
  have h_follows := ok_follows (P := P) (w := w) (K := K) (mg := mg) (base := base) (k := 0) F_follows (He.glo_ok X G (c.d.fact 0 (f := .glo "follows") rfl)) (F_follows.bindsN fun _ _ _ _ _ _ us hl => match us, hl with | [_, _], _ => rfl)
  have h_all_lines := ok_all_lines (P := P) (w := w) (K := K) (mg := mg) (base := base) (k := 1) F_all_lines (He.glo_ok X G (c.d.fact 2 (f := .glo "all_lines") rfl)) (F_all_lines.bindsN fun _ _ _ _ _ _ us hl => match us, hl with | [_], _ => rfl) (He.free_ok X G (c.d.fact 50 (f := .free "sorted") rfl)) (He.free_ok X G (c.d.fact 49 (f := .free "range") rfl)) (h_pair_of.mono (by decide)) (h_follows.mono (by decide)) (He.free_ok X G (c.d.fact 46 (f := .free "list") rfl))
  have h_neighbours := ok_neighbours (P := P) (w := w) (K := K) (mg := mg) (base := base) (k := 2) F_neighbours (He.glo_ok X G (c.d.fact 3 (f := .glo "neighbours") rfl)) (F_neighbours.bindsN fun _ _ _ _ _ _ us hl => match us, hl with | [_], _ => rfl) (He.free_ok X G (c.d.fact 49 (f := .free "range") rfl)) (h_all_lines.mono (by decide)) (He.free_ok X G (c.d.fact 50 (f := .free "sorted") rfl))
  have h_beginnings := ok_beginnings (P := P) (w := w) (K := K) (mg := mg) (base := base) (k := 66) F_beginnings (He.glo_ok X G (c.d.fact 12 (f := .glo "beginnings") rfl)) (F_beginnings.bindsN fun _ _ _ _ _ _ us hl => match us, hl with | [_], _ => rfl) (He.free_ok X G (c.d.fact 49 (f := .free "range") rfl)) (He.int_ok X G (c.d.fact 57 (f := .int "FEWEST" 3) rfl)) (h_how_many.mono (by decide)) (h_plan_numbered.mono (by decide)) (h_neighbours.mono (by decide))
  have ok_Watch__init := ok_Watch__init (P := P) (w := w) (K := K) (mg := mg) (base := base) (k := 67) F_Watch__init (He.int_ok X G (c.d.fact 57 (f := .int "FEWEST" 3) rfl)) (He.int_ok X G (c.d.fact 58 (f := .int "GREATEST" 8) rfl)) (exk_of (He.glo_ok X G (c.d.fact 36 (f := .glo "BadFaces") rfl)) (He.exc_ok (c.d.fact 60 (f := .exc "BadFaces") rfl))) (h_beginnings.mono (by decide)) (He.noat_ok (c.d.fact 34 (f := .noat "Watch" "stages") rfl))
  have hb_Watch__init := binds_full (ps := ["self", "bound"]) F_Watch__init 2 rfl (fun T kV doc pm an cdv ct us its hu hi => match us, its, hu, hi with | [_, _], [_], _, _ => ⟨_, rfl, rfl⟩)
  obtain ⟨ds_Watch__init, vs_Watch__init, bd_Watch__init⟩ := binds_dfl (ps := ["self", "bound"]) F_Watch__init 1 rfl (fun T kV doc pm an cdv ct us its hu hi => match us, its, hu, hi with | [_], [_], _, _ => ⟨_, rfl, rfl⟩)
  have hd_Watch__init : HasID P w K mg base 68 "Watch" ["self", "bound"] _ _ := ⟨_, _, ds_Watch__init, (He.glo_ok X G (c.d.fact 23 (f := .glo "Watch") rfl)), (insB_ok (c.xf 1)), (He.mkr_ok (c.d.fact 33 (f := .mkr "Watch") rfl)), vs_Watch__init, bd_Watch__init, ok_Watch__init⟩
  have hk_Watch__init : HasIK P w K mg base 68 "Watch" "bound" ["self", "bound"] _ := ⟨_, _, (He.glo_ok X G (c.d.fact 23 (f := .glo "Watch") rfl)), (insB_ok (c.xf 1)), (He.mkr_ok (c.d.fact 33 (f := .mkr "Watch") rfl)), binds_kw F_Watch__init 1 "bound" (fun T kV doc pm an cdv ct us ws its hu hw hi => match us, ws, its, hu, hw, hi with | [_], [_], [_], _, _, _ => ⟨_, rfl, rfl⟩), ok_Watch__init⟩
  have h_Watch__init : HasI P w K mg base 68 "Watch" ["self", "bound"] _ := ⟨_, _, (He.glo_ok X G (c.d.fact 23 (f := .glo "Watch") rfl)), (insB_ok (c.xf 1)), (He.mkr_ok (c.d.fact 33 (f := .mkr "Watch") rfl)), hb_Watch__init, ok_Watch__init⟩
  have h__law_watch_word := ok__law_watch_word (P := P) (w := w) (K := K) (mg := mg) (base := base) (k := 68) F__law_watch_word (He.glo_ok X G (c.d.fact 20 (f := .glo "_law_watch_word") rfl)) (F__law_watch_word.bindsN fun _ _ _ _ _ _ us hl => match us, hl with | [_], _ => rfl) (He.glo_ok X G (c.d.fact 36 (f := .glo "BadFaces") rfl)) (exm_cons (He.exm_ok (c.d.fact 64 (f := .exm "BadFaces" "BadFaces" true) rfl)) (exm_cons (He.exm_ok (c.d.fact 74 (f := .exm "BadNumber" "BadFaces" false) rfl)) exm_nil)) (He.glo_ok X G (c.d.fact 35 (f := .glo "PinchError") rfl)) (exm_cons (He.exm_ok (c.d.fact 68 (f := .exm "BadFaces" "PinchError" true) rfl)) (exm_cons (He.exm_ok (c.d.fact 78 (f := .exm "BadNumber" "PinchError" true) rfl)) exm_nil)) (h_Watch__init.mono (by decide))
  have h__law_bounds_held := ok__law_bounds_held (P := P) (w := w) (K := K) (mg := mg) (base := base) (k := 70) F__law_bounds_held (He.glo_ok X G (c.d.fact 15 (f := .glo "_law_bounds_held") rfl)) (F__law_bounds_held.bindsN fun _ _ _ _ _ _ us hl => match us, hl with | [_], _ => rfl) (He.free_ok X G (c.d.fact 41 (f := .free "all") rfl)) (h__law_watch_word.mono (by decide))
  have h_o__law_pull := ok_o__law_pull (P := P) (w := w) (K := K) (mg := mg) (base := base) (k := 0) F__law_pull (He.glo_ok X G (c.d.fact 18 (f := .glo "_law_pull") rfl)) (F__law_pull.bindsN fun _ _ _ _ _ _ us hl => match us, hl with | [_, _], _ => rfl) (He.free_ok X G (c.d.fact 45 (f := .free "len") rfl))
  have h__law_pull := ok__law_pull (P := P) (w := w) (K := K) (mg := mg) (base := base) (k := 1) (h_o__law_pull.mono (by decide))
  have h_Watch__left := ok_Watch__left (P := P) (w := w) (K := K) (mg := mg) (base := base) (k := 0) F_Watch__left (He.meth_ok (c.d.fact 30 (f := .meth "Watch" "left") rfl)) (F_Watch__left.bindsN fun _ _ _ _ _ _ us hl => match us, hl with | [_], _ => rfl) (He.free_ok X G (c.d.fact 50 (f := .free "sorted") rfl)) (He.noat_ok (c.d.fact 34 (f := .noat "Watch" "stages") rfl))
  have h_Watch__twin := ok_Watch__twin (P := P) (w := w) (K := K) (mg := mg) (base := base) (k := 68) F_Watch__twin (He.meth_ok (c.d.fact 32 (f := .meth "Watch" "twin") rfl)) (F_Watch__twin.bindsN fun _ _ _ _ _ _ us hl => match us, hl with | [_], _ => rfl) (He.int_ok X G (c.d.fact 57 (f := .int "FEWEST" 3) rfl)) (He.free_ok X G (c.d.fact 46 (f := .free "list") rfl)) (h_Watch__init.mono (by decide)) (He.noat_ok (c.d.fact 34 (f := .noat "Watch" "stages") rfl))
  have h__law_odd := ok__law_odd (P := P) (w := w) (K := K) (mg := mg) (base := base) (k := 1) F__law_odd (He.glo_ok X G (c.d.fact 17 (f := .glo "_law_odd") rfl)) (F__law_odd.bindsN fun _ _ _ _ _ _ us hl => match us, hl with | [_, _], _ => rfl) (h__law_pull.mono (by decide))
  have h_need_way := ok_need_way (P := P) (w := w) (K := K) (mg := mg) (base := base) (k := 0) F_need_way (He.glo_ok X G (c.d.fact 9 (f := .glo "need_way") rfl)) (F_need_way.bindsN fun _ _ _ _ _ _ us hl => match us, hl with | [_], _ => rfl) (gtup_ok X G (c.d.fact 56 (f := .glo "WAYS") rfl) (c.xf 0)) (exk_of (He.glo_ok X G (c.d.fact 37 (f := .glo "BadWay") rfl)) (He.exc_ok (c.d.fact 61 (f := .exc "BadWay") rfl)))
  have h_Watch__met := ok_Watch__met (P := P) (w := w) (K := K) (mg := mg) (base := base) (k := 0) F_Watch__met (He.meth_ok (c.d.fact 24 (f := .meth "Watch" "met") rfl)) (F_Watch__met.bindsN fun _ _ _ _ _ _ us hl => match us, hl with | [_], _ => rfl) (He.noat_ok (c.d.fact 34 (f := .noat "Watch" "stages") rfl))
  have h_Watch__need_number := ok_Watch__need_number (P := P) (w := w) (K := K) (mg := mg) (base := base) (k := 1) F_Watch__need_number (He.meth_ok (c.d.fact 25 (f := .meth "Watch" "need_number") rfl)) (F_Watch__need_number.bindsN fun _ _ _ _ _ _ us hl => match us, hl with | [_, _], _ => rfl) (exk_of (He.glo_ok X G (c.d.fact 38 (f := .glo "BadNumber") rfl)) (He.exc_ok (c.d.fact 62 (f := .exc "BadNumber") rfl))) (h_Watch__met.mono (by decide))
  have h_Watch__shown := ok_Watch__shown (P := P) (w := w) (K := K) (mg := mg) (base := base) (k := 1) F_Watch__shown (He.meth_ok (c.d.fact 26 (f := .meth "Watch" "shown") rfl)) (F_Watch__shown.bindsN fun _ _ _ _ _ _ us hl => match us, hl with | [_, _, _], _ => rfl) (He.free_ok X G (c.d.fact 47 (f := .free "max") rfl)) (He.free_ok X G (c.d.fact 45 (f := .free "len") rfl)) (He.noat_ok (c.d.fact 34 (f := .noat "Watch" "stages") rfl)) (h_Watch__met.mono (by decide))
  have h_between := ok_between (P := P) (w := w) (K := K) (mg := mg) (base := base) (k := 0) F_between (He.glo_ok X G (c.d.fact 10 (f := .glo "between") rfl)) (F_between.bindsN fun _ _ _ _ _ _ us hl => match us, hl with | [_, _, _, _], _ => rfl)
  have h_third_corner := ok_third_corner (P := P) (w := w) (K := K) (mg := mg) (base := base) (k := 1) F_third_corner (He.glo_ok X G (c.d.fact 11 (f := .glo "third_corner") rfl)) (F_third_corner.bindsN fun _ _ _ _ _ _ us hl => match us, hl with | [_, _, _, _], _ => rfl) (h_between.mono (by decide))
  have h_Watch__went := ok_Watch__went (P := P) (w := w) (K := K) (mg := mg) (base := base) (k := 3) F_Watch__went (He.meth_ok (c.d.fact 27 (f := .meth "Watch" "went") rfl)) (F_Watch__went.bindsN fun _ _ _ _ _ _ us hl => match us, hl with | [_, _, _], _ => rfl) (h_need_way.mono (by decide)) (h_third_corner.mono (by decide)) (h_neighbours.mono (by decide)) (h_Watch__need_number.mono (by decide)) (He.noat_ok (c.d.fact 34 (f := .noat "Watch" "stages") rfl)) (h_Watch__shown.mono (by decide))
  have h_Watch__stuck := ok_Watch__stuck (P := P) (w := w) (K := K) (mg := mg) (base := base) (k := 3) F_Watch__stuck (He.meth_ok (c.d.fact 28 (f := .meth "Watch" "stuck") rfl)) (F_Watch__stuck.bindsN fun _ _ _ _ _ _ us hl => match us, hl with | [_, _], _ => rfl) (h_need_way.mono (by decide)) (h_third_corner.mono (by decide)) (h_neighbours.mono (by decide)) (He.noat_ok (c.d.fact 34 (f := .noat "Watch" "stages") rfl)) (h_Watch__met.mono (by decide))
  have h_Watch__turned_over := ok_Watch__turned_over (P := P) (w := w) (K := K) (mg := mg) (base := base) (k := 2) F_Watch__turned_over (He.meth_ok (c.d.fact 29 (f := .meth "Watch" "turned_over") rfl)) (F_Watch__turned_over.bindsN fun _ _ _ _ _ _ us hl => match us, hl with | [_, _], _ => rfl) (h_Watch__need_number.mono (by decide)) (He.noat_ok (c.d.fact 34 (f := .noat "Watch" "stages") rfl)) (h_Watch__shown.mono (by decide))
  have h__law_watch_do := ok__law_watch_do (P := P) (w := w) (K := K) (mg := mg) (base := base) (k := 4) F__law_watch_do (He.glo_ok X G (c.d.fact 19 (f := .glo "_law_watch_do") rfl)) (F__law_watch_do.bindsN fun _ _ _ _ _ _ us hl => match us, hl with | [_, _], _ => rfl) (He.glo_ok X G (c.d.fact 37 (f := .glo "BadWay") rfl)) (exm_cons (He.exm_ok (c.d.fact 71 (f := .exm "BadWay" "BadWay" true) rfl)) (exm_cons (He.exm_ok (c.d.fact 76 (f := .exm "BadNumber" "BadWay" false) rfl)) exm_nil)) (He.glo_ok X G (c.d.fact 38 (f := .glo "BadNumber") rfl)) (exm_cons (He.exm_ok (c.d.fact 70 (f := .exm "BadWay" "BadNumber" false) rfl)) (exm_cons (He.exm_ok (c.d.fact 75 (f := .exm "BadNumber" "BadNumber" true) rfl)) exm_nil)) (He.glo_ok X G (c.d.fact 35 (f := .glo "PinchError") rfl)) (exm_cons (He.exm_ok (c.d.fact 73 (f := .exm "BadWay" "PinchError" true) rfl)) (exm_cons (He.exm_ok (c.d.fact 78 (f := .exm "BadNumber" "PinchError" true) rfl)) exm_nil)) (h_Watch__went.mono (by decide)) (h_Watch__stuck.mono (by decide)) (h_Watch__turned_over.mono (by decide))
  have h__law_whole := ok__law_whole (P := P) (w := w) (K := K) (mg := mg) (base := base) (k := 0) F__law_whole (He.glo_ok X G (c.d.fact 21 (f := .glo "_law_whole") rfl)) (F__law_whole.bindsN fun _ _ _ _ _ _ us hl => match us, hl with | [_], _ => rfl) (He.free_ok X G (c.d.fact 44 (f := .free "isinstance") rfl)) (He.free_ok X G (c.d.fact 43 (f := .free "int") rfl)) (He.free_ok X G (c.d.fact 42 (f := .free "bool") rfl))
  have h_o__law_whole := ok_o__law_whole (P := P) (w := w) (K := K) (mg := mg) (base := base) (k := 0) F__law_whole (He.glo_ok X G (c.d.fact 21 (f := .glo "_law_whole") rfl)) (F__law_whole.bindsN fun _ _ _ _ _ _ us hl => match us, hl with | [_], _ => rfl) (He.free_ok X G (c.d.fact 44 (f := .free "isinstance") rfl)) (He.free_ok X G (c.d.fact 43 (f := .free "int") rfl)) (He.free_ok X G (c.d.fact 42 (f := .free "bool") rfl))
  have h_o__law_alike := ok_o__law_alike (P := P) (w := w) (K := K) (mg := mg) (base := base) F__law_alike (He.glo_ok X G (c.d.fact 13 (f := .glo "_law_alike") rfl)) (F__law_alike.bindsN fun _ _ _ _ _ _ us hl => match us, hl with | [_, _], _ => rfl) (He.free_ok X G (c.d.fact 44 (f := .free "isinstance") rfl)) (He.free_ok X G (c.d.fact 42 (f := .free "bool") rfl)) (He.free_ok X G (c.d.fact 43 (f := .free "int") rfl)) (He.free_ok X G (c.d.fact 51 (f := .free "str") rfl)) (He.free_ok X G (c.d.fact 41 (f := .free "all") rfl)) (h_o__law_whole.mono (by decide)) (He.free_ok X G (c.d.fact 46 (f := .free "list") rfl)) (He.free_ok X G (c.d.fact 53 (f := .free "tuple") rfl)) (He.free_ok X G (c.d.fact 45 (f := .free "len") rfl)) (He.free_ok X G (c.d.fact 49 (f := .free "range") rfl)) 0 8
  have h__law_alike := ok__law_alike (P := P) (w := w) (K := K) (mg := mg) (base := base) (k := 10) (h_o__law_alike.mono (by decide))
  have h_Watch__back := ok_Watch__back (P := P) (w := w) (K := K) (mg := mg) (base := base) (k := 0) F_Watch__back (He.meth_ok (c.d.fact 31 (f := .meth "Watch" "back") rfl)) (F_Watch__back.bindsN fun _ _ _ _ _ _ us hl => match us, hl with | [_], _ => rfl) (He.free_ok X G (c.d.fact 45 (f := .free "len") rfl)) (exk_of (He.glo_ok X G (c.d.fact 39 (f := .glo "NoBack") rfl)) (He.exc_ok (c.d.fact 63 (f := .exc "NoBack") rfl))) (He.noat_ok (c.d.fact 34 (f := .noat "Watch" "stages") rfl))
  have h__law_no_back := ok__law_no_back (P := P) (w := w) (K := K) (mg := mg) (base := base) (k := 1) F__law_no_back (He.glo_ok X G (c.d.fact 16 (f := .glo "_law_no_back") rfl)) (F__law_no_back.bindsN fun _ _ _ _ _ _ us hl => match us, hl with | [_], _ => rfl) (He.glo_ok X G (c.d.fact 39 (f := .glo "NoBack") rfl)) (exm_cons (He.exm_ok (c.d.fact 82 (f := .exm "NoBack" "NoBack" true) rfl)) exm_nil) (He.glo_ok X G (c.d.fact 35 (f := .glo "PinchError") rfl)) (exm_cons (He.exm_ok (c.d.fact 83 (f := .exm "NoBack" "PinchError" true) rfl)) exm_nil) (h_Watch__back.mono (by decide))
  exact ok_law (P := P) (w := w) (K := K) (mg := mg) (base := base) (k := 71) F_law (h_o__law_bag.mono (by decide)) (h__law_bounds_held.mono (by decide)) (h__law_pull.mono (by decide)) (He.free_ok X G (c.d.fact 46 (f := .free "list") rfl)) (He.free_ok X G (c.d.fact 49 (f := .free "range") rfl)) (He.free_ok X G (c.d.fact 45 (f := .free "len") rfl)) (h__law_odd.mono (by decide)) (h__law_alike.mono (by decide)) (h__law_no_back.mono (by decide)) (h__law_watch_do.mono (by decide)) (He.free_ok X G (c.d.fact 47 (f := .free "max") rfl)) (h_Watch__init.mono (by decide)) (h_Watch__left.mono (by decide)) (hd_Watch__init.mono (by decide)) (h_Watch__twin.mono (by decide)) (h_Watch__back.mono (by decide)) (h_Watch__met.mono (by decide))
end Tx
open PySem PySem.W PySem.Calls PyProof.Rows
theorem PySem.Challenge.cw_pinchfold_k48_watches_refused_and_taken_holds : PySem.Challenge.rw_pinchfold_k48_watches_refused_and_taken.Holds := by
  w_on; o_law
  refine HandSHeadRun.head_any (r := OpenLaw.row PySem.Challenge.rw_pinchfold_k48_watches_refused_and_taken) (q := view (OpenLaw.row PySem.Challenge.rw_pinchfold_k48_watches_refused_and_taken).prog [39]) (H := Tx.Hd.hk) (ob := Tx.Hd.ob) (M := 6000) (loose := Tx.Hd.loose) (d := HandSHeadRun.topDef (OpenLaw.row PySem.Challenge.rw_pinchfold_k48_watches_refused_and_taken).prog 39) (kwd := []) Tx.Hd.ob_eq
    (by kernel_rfl) (fun s => by kernel_rfl) Tx.Hd.run (by kernel_rfl) (by kernel_rfl) (by kernel_rfl) (by rfl) (by first | assumption | decide +kernel) (by decide +kernel) ⟨rfl, rfl, rfl, rfl, rfl, by decide +kernel⟩ ?hw ?hc
  case hw => w_witness2
  case hc =>
    refine TL.walk_xT (l := PySem.Challenge.rw_pinchfold_k48_watches_refused_and_taken) (m := 63) (j := 73) (x := "_law_script") rfl (by decide) (by kernel_rfl) ⟨rfl, by decide, by decide⟩ ?_
    intro w mg fa h Y G hmg0
    obtain ⟨K0, KX, c⟩ := Y
    have hmg : mg ("law" : PySem.Str) = some (.ref fa) := by
      have e : (HandSHeadRun.topDef (OpenLaw.row PySem.Challenge.rw_pinchfold_k48_watches_refused_and_taken).prog 39).name = ("law" : PySem.Str) := by kernel_rfl
      rw [← e]
      exact hmg0
    exact ⟨_, c.kin KX, TL.lawAt c KX (Tx.facts (P := (PySem.Challenge.rw_pinchfold_k48_watches_refused_and_taken).prog) (w := w) rfl KX G hmg c)⟩
