import PyProof.Rows.All
import Wide.All
import OpenK.AllK
import Wide.FinOn
import HandS.Base
import HandS.Call
import HandS.List
import HandS.Exc
import HandS.ExcOwn
import HandS.Defaults
import HandS.HeadHook1
import HandS.HeadHook2
import HandS.Lambda
import HandS.Deep
import HandS.Wide
import HandS.TupAny
import HandS.SortInts
import KE.SortData
import HandS.Comp
import HandS.TryMany
import HandS.TryOnly
import HandS.HeadEnd
import HandS.Words
import HandS.WordsExc
import HandS.EndBits
import HandS.Iter
import HandS.Walk
import KE.GoesEnum
import KE.GoesMore
import HandS.IsInst
import HandS.Text
import HandS.Dict
import HandS.Conv
import HandS.Style
import HandS.TupLe
import PyProof.StrOps2
import HandS.FStr
import HandS.RaiseMore
import HandS.TupSets
import HandS.HeadHook4
import HandS.HeadWalk
import KE.KDictDisplayH
import HandS.TupLen
import KE.DataMinMax
import HandS.MakeKwOnly
import HandS.More
import HandS.DictTup
import KE.KDictCopyH
import KE.KeyNested
import KE.KDictKeyed
import KE.GoesZip
import HandS.Zip
import HandS.HeadHook3
import HandS.ExcInit
import HandS.ExcField
import HandS.ReplaceLit
import PyProof.DictUpdate
import KE.IntTextLaws
import KE.KStateDown
import Lean
import HandS.Head0
import HandS.Head1
import HandS.Head2
import PySem.Challenge.RW_pinchfold_k50_texts_of_no_deed
set_option Elab.async false
set_option linter.all false
set_option maxRecDepth 100000
set_option maxHeartbeats 4000000
namespace TL
open PySem PySem.Spec PyProof.Rows L2
abbrev Frag := PySem.W.Frag
abbrev SS := L2.St
def Ex (H H' : Hp) : Prop := ∀ a o, H a = some o → H' a = some o
theorem Ex.refl (H : Hp) : Ex H H := fun _ _ h => h
theorem Ex.trans {H H1 H2 : Hp} (a : Ex H H1) (b : Ex H1 H2) : Ex H H2 := fun x o h => b x o (a x o h)
theorem Ex.new {H : Hp} {p : Addr} {o : HO} (h : H p = none) : Ex H (upd H p o) := fun a u e => by
  rw [upd_ne (ne_of_none e h)]; exact e
theorem Ex.mut {H H' : Hp} {p : Addr} {o : HO} (e : Ex H H') (h : H p = none) : Ex H (upd H' p o) := fun a u ha => by
  rw [upd_ne (ne_of_none ha h)]; exact e a u ha
theorem Ex.none {H H' : Hp} (e : Ex H H') {a : Addr} (h : H' a = none) : H a = none := by
  cases q : H a with
  | none => rfl
  | some o => rw [e a o q] at h; cases h
theorem ex_rd {H H' : Hp} {a : Addr} {u : HO} (e : Ex H H') (h : Rd H a u) : Rd H' a u := by
  rcases h with h | ⟨o, h⟩
  · exact .inl (e a _ h)
  · exact .inr ⟨o, e a _ h⟩
theorem ex_l {K : Frag} {H H' : Hp} {a : Addr} {xs : List V} (e : Ex H H') (h : SqL K H a xs) : SqL K H' a xs := by
  rcases h with h | h
  · exact .inl (ex_rd e h)
  · exact .inr h
theorem ex_t {K : Frag} {H H' : Hp} {a : Addr} {xs : List V} (e : Ex H H') (h : SqT K H a xs) : SqT K H' a xs := by
  rcases h with h | h
  · exact .inl (ex_rd e h)
  · exact .inr h
def kD : Key → PyData
  | .inl i => .int i
  | .inr s => .str s
def kitTys : List String := ["NoneType", "bool", "int", "str", "list", "tuple", "dict"]
/-- a class of the program's own that is none of the kit's types -/
structure InsK (K : Frag) (n : Str) : Prop where
  cls : Cls K (He.ga K n)
  c1 : PySem.W.findIn K (.ref (He.ga K n)) (Str.ofString "__class__") = some (some (.builtin "object.__class__"))
  c2 : PySem.W.specialIn K (.builtin "object.__class__") (Str.ofString "__get__") = some (some (.builtin "getset_descriptor.__get__"))
  c3 : PySem.W.takesIn K (.builtin "object.__class__") = some true
  c4 : PySem.W.mroIn K (He.ga K n) (.type "object") = some true
  kit : ∀ T ∈ kitTys, PySem.W.kitOne K (.ref (He.ga K n)) (.type T) = some false
/-- the one tuple of the module that becomes data -/
abbrev startD : PyData := .tuple [.int 0, .int 1, .int 0]
abbrev startV : List V := [.int 0, .int 1, .int 0]
mutual
inductive Dq (K : Frag) (H : Hp) : V → PyData → Prop
  | non : Dq K H .non .none
  | bl (b : Bool) : Dq K H (.bl b) (.bool b)
  | int (i : Int) : Dq K H (.int i) (.int i)
  | str (x : Str) : Dq K H (.str x) (.str x)
  | lst {a : Addr} {xs : List V} {ds : List PyData} : SqL K H a xs → DqAll K H xs ds → Dq K H (.ref a) (.list ds)
  | tup {a : Addr} {xs : List V} {ds : List PyData} : H a = some (.tup xs) → DqAll K H xs ds → Dq K H (.ref a) (.tuple ds)
  | ktup {a : Addr} : (∀ H, SqT K H a startV) → Dq K H (.ref a) startD
  | dct {a : Addr} {vs : List (List Key × V)} {kvs : List (PyData × PyData)} : H a = some (.dT vs) → DqT K H vs kvs → Dq K H (.ref a) (.dict ((.none, .none) :: kvs))
  | dck {a : Addr} {vs : List (Key × V)} {kvs : List (PyData × PyData)} : H a = some (.dK vs) → DqK K H vs kvs → Dq K H (.ref a) (.dict kvs)
  | ins {a dx : Addr} {n : Str} {vs : List (Str × V)} {kvs : List (PyData × PyData)} : InsK K n → H a = some (.ins (He.ga K n) dx vs) → DqF K H vs kvs → Dq K H (.ref a) (.dict ((.bool true, .str n) :: kvs))
inductive DqAll (K : Frag) (H : Hp) : List V → List PyData → Prop
  | nil : DqAll K H [] []
  | cons {v : V} {vs : List V} {d : PyData} {ds : List PyData} : Dq K H v d → DqAll K H vs ds → DqAll K H (v :: vs) (d :: ds)
inductive DqT (K : Frag) (H : Hp) : List (List Key × V) → List (PyData × PyData) → Prop
  | nil : DqT K H [] []
  | cons {k : List Key} {v : V} {vs : List (List Key × V)} {d : PyData} {ds : List (PyData × PyData)} : Dq K H v d → DqT K H vs ds → DqT K H ((k, v) :: vs) ((.tuple (k.map kD), d) :: ds)
inductive DqK (K : Frag) (H : Hp) : List (Key × V) → List (PyData × PyData) → Prop
  | nil : DqK K H [] []
  | cons {k : Key} {v : V} {vs : List (Key × V)} {d : PyData} {ds : List (PyData × PyData)} : Dq K H v d → DqK K H vs ds → DqK K H ((k, v) :: vs) ((kD k, d) :: ds)
inductive DqF (K : Frag) (H : Hp) : List (Str × V) → List (PyData × PyData) → Prop
  | nil : DqF K H [] []
  | cons {k : Str} {v : V} {vs : List (Str × V)} {d : PyData} {ds : List (PyData × PyData)} : Dq K H v d → DqF K H vs ds → DqF K H ((k, v) :: vs) ((.str k, d) :: ds)
end
section
variable {K : Frag} {H H' : Hp}
mutual
theorem dp_mono (e : Ex H H') : ∀ (d : PyData) (v : V), Dq K H v d → Dq K H' v d
  | _, _, .non => .non
  | _, _, .bl b => .bl b
  | _, _, .int i => .int i
  | _, _, .str x => .str x
  | _, _, .lst hs ha => .lst (ex_l e hs) (dpa_mono e _ _ ha)
  | _, _, .tup hs ha => .tup (e _ _ hs) (dpa_mono e _ _ ha)
  | _, _, .ktup hs => .ktup hs
  | _, _, .dct hs ha => .dct (e _ _ hs) (dqt_mono e _ _ ha)
  | _, _, .dck hs ha => .dck (e _ _ hs) (dqk_mono e _ _ ha)
  | _, _, .ins hk hs ha => .ins hk (e _ _ hs) (dqf_mono e _ _ ha)
theorem dpa_mono (e : Ex H H') : ∀ (ds : List PyData) (vs : List V), DqAll K H vs ds → DqAll K H' vs ds
  | _, _, .nil => .nil
  | _, _, .cons h1 h2 => .cons (dp_mono e _ _ h1) (dpa_mono e _ _ h2)
theorem dqt_mono (e : Ex H H') : ∀ (ds : List (PyData × PyData)) (vs : List (List Key × V)), DqT K H vs ds → DqT K H' vs ds
  | _, _, .nil => .nil
  | _, _, .cons h1 h2 => .cons (dp_mono e _ _ h1) (dqt_mono e _ _ h2)
theorem dqk_mono (e : Ex H H') : ∀ (ds : List (PyData × PyData)) (vs : List (Key × V)), DqK K H vs ds → DqK K H' vs ds
  | _, _, .nil => .nil
  | _, _, .cons h1 h2 => .cons (dp_mono e _ _ h1) (dqk_mono e _ _ h2)
theorem dqf_mono (e : Ex H H') : ∀ (ds : List (PyData × PyData)) (vs : List (Str × V)), DqF K H vs ds → DqF K H' vs ds
  | _, _, .nil => .nil
  | _, _, .cons h1 h2 => .cons (dp_mono e _ _ h1) (dqf_mono e _ _ h2)
end
mutual
theorem dq_dp : ∀ (d : PyData) (v : V), d.canLay0 = true → Dq K H v d → Dp K H v d
  | .none, _, _, h => by cases h; exact .non
  | .bool b, _, _, h => by cases h; exact .bl b
  | .int i, _, _, h => by cases h; exact .int i
  | .str x, _, _, h => by cases h; exact .str x
  | .list ds, _, c, h => by
    cases h with
    | lst hs ha => exact .lst hs (dqa_dpa ds _ (by simpa [PyData.canLay0] using c) ha)
  | .tuple ds, _, c, h => by
    cases h with
    | tup hs ha => exact .tup (SqT.of hs) (dqa_dpa ds _ (by simpa [PyData.canLay0] using c) ha)
    | ktup hs => exact .tup (hs H) (.cons (.int 0) (.cons (.int 1) (.cons (.int 0) .nil)))
  | .dict _, _, c, _ => nomatch c
theorem dqa_dpa : ∀ (ds : List PyData) (vs : List V), PyData.canLayAll0 ds = true → DqAll K H vs ds → DpAll K H vs ds
  | [], _, _, h => by cases h; exact .nil
  | d :: ds, _, c, h => by
    have c' : d.canLay0 = true ∧ PyData.canLayAll0 ds = true := by simpa [PyData.canLayAll0] using c
    cases h with
    | cons h1 h2 => exact .cons (dq_dp d _ c'.1 h1) (dqa_dpa ds _ c'.2 h2)
end
theorem shp_lay {d : PyData} (h : SeqAt.shaped d = true) : d.canLay0 = true := (Bool.and_eq_true_iff.mp h).1
theorem dp_int {v : V} {i : Int} (h : Dq K H v (.int i)) : v = .int i := by cases h; rfl
theorem dp_str {v : V} {i : Str} (h : Dq K H v (.str i)) : v = .str i := by cases h; rfl
theorem dp_bl {v : V} {i : Bool} (h : Dq K H v (.bool i)) : v = .bl i := by cases h; rfl
theorem dp_non {v : V} (h : Dq K H v .none) : v = .non := by cases h; rfl
theorem dp_lst {v : V} {ds : List PyData} (h : Dq K H v (.list ds)) : ∃ a xs, v = .ref a ∧ SqL K H a xs ∧ DqAll K H xs ds := by
  cases h with
  | lst hs ha => exact ⟨_, _, rfl, hs, ha⟩
theorem dp_tup {v : V} {ds : List PyData} (h : Dq K H v (.tuple ds)) : ∃ a xs, v = .ref a ∧ SqT K H a xs ∧ DqAll K H xs ds := by
  cases h with
  | tup hs ha => exact ⟨_, _, rfl, SqT.of hs, ha⟩
  | ktup hs => exact ⟨_, _, rfl, hs H, .cons (.int 0) (.cons (.int 1) (.cons (.int 0) .nil))⟩
theorem dpa_len : ∀ {vs : List V} {ds : List PyData}, DqAll K H vs ds → vs.length = ds.length
  | _, [], h => by cases h; rfl
  | _, _ :: _, h => by
    cases h with
    | cons h1 h2 => exact congrArg Nat.succ (dpa_len h2)
theorem dpa_get : ∀ {ds : List PyData} {vs : List V} {i : Nat} {d : PyData}, DqAll K H vs ds → ds[i]? = some d → ∃ v, vs[i]? = some v ∧ Dq K H v d
  | [], _, _, _, _, e => by simp at e
  | x :: ds, _, 0, d, h, e => by
    cases h with
    | cons h1 h2 =>
      have e' : x = d := Option.some.inj e
      subst e'
      exact ⟨_, rfl, h1⟩
  | x :: ds, _, i + 1, d, h, e => by
    cases h with
    | cons h1 h2 => exact dpa_get (i := i) h2 e
theorem dpa_of : ∀ {ds : List PyData} {vs : List V} {i : Nat} {v : V}, DqAll K H vs ds → vs[i]? = some v → ∃ d, ds[i]? = some d ∧ Dq K H v d
  | [], _, _, _, h, e => by cases h; simp at e
  | x :: ds, _, 0, v, h, e => by
    cases h with
    | cons h1 h2 =>
      have e' := Option.some.inj e
      subst e'
      exact ⟨_, rfl, h1⟩
  | x :: ds, _, i + 1, d, h, e => by
    cases h with
    | cons h1 h2 => exact dpa_of (i := i) h2 e
theorem dpa_app : ∀ {ds es : List PyData} {vs ws : List V}, DqAll K H vs ds → DqAll K H ws es → DqAll K H (vs ++ ws) (ds ++ es)
  | [], _, _, _, h, g => by cases h; exact g
  | _ :: _, _, _, _, h, g => by
    cases h with
    | cons h1 h2 => exact .cons h1 (dpa_app h2 g)
theorem dpa_one {v : V} {d : PyData} (h : Dq K H v d) : DqAll K H [v] [d] := .cons h .nil
theorem dpa_set : ∀ {ds : List PyData} {vs : List V} (i : Nat) {v : V} {d : PyData}, DqAll K H vs ds → Dq K H v d → DqAll K H (vs.set i v) (ds.set i d)
  | [], _, _, _, _, h, _ => by cases h; exact .nil
  | _ :: _, _, 0, _, _, h, g => by
    cases h with
    | cons h1 h2 => exact .cons g h2
  | _ :: _, _, i + 1, _, _, h, g => by
    cases h with
    | cons h1 h2 => exact .cons h1 (dpa_set i h2 g)
theorem dpa_take : ∀ (n : Nat) {ds : List PyData} {vs : List V}, DqAll K H vs ds → DqAll K H (vs.take n) (ds.take n)
  | 0, _, _, _ => .nil
  | _ + 1, [], _, h => by cases h; exact .nil
  | n + 1, _ :: _, _, h => by
    cases h with
    | cons h1 h2 => exact .cons h1 (dpa_take n h2)
theorem dpa_drop : ∀ (n : Nat) {ds : List PyData} {vs : List V}, DqAll K H vs ds → DqAll K H (vs.drop n) (ds.drop n)
  | 0, _, _, h => h
  | _ + 1, [], _, h => by cases h; exact .nil
  | n + 1, _ :: _, _, h => by
    cases h with
    | cons h1 h2 => exact dpa_drop n h2
theorem dpa_ints : ∀ (ns : List Int), DqAll K H (ns.map V.int) (ns.map PyData.int)
  | [] => .nil
  | n :: ns => .cons (.int n) (dpa_ints ns)
theorem dpa_ints_eq : ∀ {ns : List Int} {vs : List V}, DqAll K H vs (ns.map PyData.int) → vs = ns.map V.int
  | [], _, h => by
    have h' : DqAll K H _ [] := h
    cases h'; rfl
  | n :: ns, _, h => by
    have h' : DqAll K H _ (.int n :: ns.map PyData.int) := h
    cases h' with
    | cons h1 h2 => rw [dp_int h1, dpa_ints_eq h2]; rfl
end
structure Lam where
  q : Str
  ps : Arguments
  bd : Expr
  sc : Scope
  cl : List (Str × Addr)
abbrev Lam.ob (l : Lam) (c : Addr) (pm ct : Value) : Obj := PySem.W.kla_obj "<lambda>" l.q l.ps l.bd l.sc l.cl pm c ct
def LamO (f : Addr) (l : Lam) (c : Addr) : HO := .ext fun h => ∃ pm ct, h.get? f = some (l.ob c pm ct)
def IsLam (F : Hp) (v : V) (l : Lam) : Prop := ∃ f c, v = .ref f ∧ F f = some (LamO f l c) ∧ F c = some (LamX.CodeO c l.q)
def LamsAre (F : Hp) : List V → List Lam → Prop
  | [], [] => True
  | v :: vs, l :: ls => IsLam F v l ∧ LamsAre F vs ls
  | _, _ => False
theorem IsLam.mono {F F' : Hp} {v : V} {l : Lam} (h : IsLam F v l) (e : Ex F F') : IsLam F' v l := by
  obtain ⟨f, c, h1, h2, h3⟩ := h
  exact ⟨f, c, h1, e _ _ h2, e _ _ h3⟩
theorem LamsAre.mono {F F' : Hp} (e : Ex F F') : ∀ {vs : List V} {ls : List Lam}, LamsAre F vs ls → LamsAre F' vs ls
  | [], [], _ => trivial
  | _ :: _, _ :: _, ⟨h1, h2⟩ => ⟨h1.mono e, h2.mono e⟩
/-- a bag of draws -/
def BagD (ds : List PyData) : Prop := ∃ (cells : List Int) (i s t : Int), ds = [.list (cells.map .int), .int i, .int s, .int t] ∧ (∀ c ∈ cells, 0 ≤ c) ∧ 0 ≤ i ∧ 0 ≤ s ∧ 0 ≤ t ∧ t < 2147483629
def notbl : HO → Bool
  | .tbl _ => false
  | _ => true
structure OwT where
  id : Addr
  fp : List Addr
  ok : Frag → Hp → Hp → V → Prop
  isr : ∀ {K : Frag} {F H : Hp} {v : V}, ok K F H v → v = .ref id
  mono : ∀ {K : Frag} {F F' H H' : Hp} {v : V}, Ex F F' → (∀ a ∈ fp, ∀ u, H a = some u → H' a = some u) → ok K F H v → ok K F' H' v
  there : ∀ {K : Frag} {F H : Hp} {v : V}, ok K F H v → ∀ a ∈ fp, ∃ u, H a = some u ∧ notbl u = true
  /-- the lists in it -/
  rows : List (Addr × List PyData)
  held : ∀ {K : Frag} {F H : Hp} {v : V}, ok K F H v → ∀ r ∈ rows, ∃ vs, H r.1 = some (.lst vs) ∧ DqAll K F vs r.2
inductive Sl where
  | un
  | d (x : PyData)
  | ol (a : Addr) (ds : List PyData)
  | bg (b : Addr)
  | v (x : V)
  | dt (a : Addr) (kvs : List (List Key × PyData))
  | dk (a : Addr) (kvs : List (Key × PyData))
  | oo (a : Addr) (rows : List (Addr × List PyData))
  | fv (l : Lam)
  | fl (ls : List Lam)
  | ow (t : OwT)
def Sl.fp : Sl → List Addr
  | .ol a _ => [a]
  | .bg a => [a]
  | .dt a _ => [a]
  | .dk a _ => [a]
  | .oo a rows => a :: rows.map (·.1)
  | .ow t => t.fp
  | _ => []
def KVp {κ : Type} (K : Frag) (F : Hp) : List (κ × V) → List (κ × PyData) → Prop := Paired fun p q => p.1 = q.1 ∧ Dq K F p.2 q.2
def SlOk (K : Frag) (F H : Hp) (o : Option V) : Sl → Prop
  | .un => True
  | .d x => ∃ v, o = some v ∧ Dq K F v x
  | .ol a ds => o = some (.ref a) ∧ ∃ vs, H a = some (.lst vs) ∧ DqAll K F vs ds
  | .bg a => o = some (.ref a) ∧ ∃ ds vs, BagD ds ∧ H a = some (.lst vs) ∧ DqAll K F vs ds
  | .v x => o = some x
  | .dt a kvs => o = some (.ref a) ∧ ∃ kvs', H a = some (.dT kvs') ∧ KVp K F kvs' kvs
  | .dk a kvs => o = some (.ref a) ∧ ∃ kvs', H a = some (.dK kvs') ∧ KVp K F kvs' kvs
  | .fv l => ∃ v, o = some v ∧ IsLam F v l
  | .fl ls => ∃ a vs, o = some (.ref a) ∧ F a = some (.lst vs) ∧ LamsAre F vs ls
  | .ow t => ∃ v, o = some v ∧ t.ok K F H v
  | .oo a rows => o = some (.ref a) ∧ H a = some (.lst (rows.map fun r => .ref r.1)) ∧ (a :: rows.map (·.1)).Nodup ∧ ∀ r ∈ rows, ∃ vs, H r.1 = some (.lst vs) ∧ DqAll K F vs r.2
def Own (env : List Sl) (a : Addr) : Prop := ∃ (i : Nat) (s : Sl), env[i]? = some s ∧ a ∈ s.fp
theorem paired_imp {α β : Type} {R S : α → β → Prop} : ∀ {xs : List α} {ys : List β}, Paired R xs ys → (∀ a b, R a b → S a b) → Paired S xs ys
  | _, _, .nil, _ => .nil
  | _, _, .cons r t, f => .cons (f _ _ r) (paired_imp t f)
theorem kvp_mono {κ : Type} {K : Frag} {F F' : Hp} (e : Ex F F') {a : List (κ × V)} {b : List (κ × PyData)} (h : KVp K F a b) : KVp K F' a b :=
  paired_imp h fun _ _ z => ⟨z.1, dp_mono e _ _ z.2⟩
theorem slok_mono {K : Frag} {F F' H H' : Hp} {o : Option V} {s : Sl} (e : Ex F F') (k : ∀ a ∈ s.fp, ∀ u, H a = some u → H' a = some u) (h : SlOk K F H o s) : SlOk K F' H' o s := by
  cases s with
  | un => trivial
  | d x => obtain ⟨v, h1, h2⟩ := h; exact ⟨v, h1, dp_mono e _ _ h2⟩
  | ol a ds => obtain ⟨h1, vs, h2, h3⟩ := h; exact ⟨h1, vs, k a (by simp [Sl.fp]) _ h2, dpa_mono e _ _ h3⟩
  | bg a => obtain ⟨h1, ds, vs, h4, h2, h3⟩ := h; exact ⟨h1, ds, vs, h4, k a (by simp [Sl.fp]) _ h2, dpa_mono e _ _ h3⟩
  | v x => exact h
  | dt a kvs => obtain ⟨h1, vs, h2, h3⟩ := h; exact ⟨h1, vs, k a (by simp [Sl.fp]) _ h2, kvp_mono e h3⟩
  | dk a kvs => obtain ⟨h1, vs, h2, h3⟩ := h; exact ⟨h1, vs, k a (by simp [Sl.fp]) _ h2, kvp_mono e h3⟩
  | fv l => obtain ⟨v, h1, h2⟩ := h; exact ⟨v, h1, h2.mono e⟩
  | fl ls => obtain ⟨a, vs, h1, h2, h3⟩ := h; exact ⟨a, vs, h1, e _ _ h2, h3.mono e⟩
  | ow t => obtain ⟨v, h1, h2⟩ := h; exact ⟨v, h1, t.mono e k h2⟩
  | oo a rows =>
    obtain ⟨h1, h2, h3, h4⟩ := h
    refine ⟨h1, k a (by simp [Sl.fp]) _ h2, h3, fun r hr => ?_⟩
    obtain ⟨vs, q1, q2⟩ := h4 r hr
    exact ⟨vs, k r.1 (List.mem_cons_of_mem _ (List.mem_map_of_mem hr)) _ q1, dpa_mono e _ _ q2⟩
theorem slok_there {K : Frag} {F H : Hp} {o : Option V} {s : Sl} (h : SlOk K F H o s) {a : Addr} (ha : a ∈ s.fp) : H a ≠ none := by
  cases s with
  | un => cases ha
  | ow t => obtain ⟨v, _, h2⟩ := h; obtain ⟨u, h3, _⟩ := t.there h2 a ha; rw [h3]; intro z; cases z
  | fv l => cases ha
  | fl l => cases ha
  | d x => cases ha
  | v x => cases ha
  | ol b ds => obtain ⟨_, vs, h2, _⟩ := h; have e : a = b := by simpa [Sl.fp] using ha
               subst e; rw [h2]; intro z; cases z
  | bg b => obtain ⟨_, ds, vs, _, h2, _⟩ := h; have e : a = b := by simpa [Sl.fp] using ha
            subst e; rw [h2]; intro z; cases z
  | dt b ds => obtain ⟨_, vs, h2, _⟩ := h; have e : a = b := by simpa [Sl.fp] using ha
               subst e; rw [h2]; intro z; cases z
  | dk b ds => obtain ⟨_, vs, h2, _⟩ := h; have e : a = b := by simpa [Sl.fp] using ha
               subst e; rw [h2]; intro z; cases z
  | oo b rows =>
    obtain ⟨_, h2, _, h4⟩ := h
    have ha : a = b ∨ a ∈ rows.map (·.1) := List.mem_cons.mp ha
    rcases ha with rfl | ha
    · rw [h2]; intro z; cases z
    · obtain ⟨r, hr, rfl⟩ := List.mem_map.mp ha
      obtain ⟨vs, q1, _⟩ := h4 r hr
      rw [q1]; intro z; cases z
/-- what stood at a def's entry: the frozen part, the heap, the objects that may be changed -/
structure G where
  F0 : Hp
  H0 : Hp
  M : List Addr
def markOf (q : Addr × Obj) : Option (Addr × Str) := match q.2.data with
  | .fields vs => match vs.toList with
    | [.str m _, .ref P, .str n _] => if m = ("lam!" : Str) then some (P, n) else none
    | _ => none
  | _ => none
def tabsK (K : Frag) : List (Addr × Str) := K.filterMap markOf
def ntb (o : HO) : Prop := ∀ ps, o ≠ .tbl ps
def TabF (F H : Hp) (P : Addr) (q : Str) : Prop := ∃ ps : Array Value, H P = some (.tbl ps) ∧ TriplesOk ps.toList ∧ ∀ (pos : Pos) (cv : Value), codeAmong pos ps.toList = some cv → ∃ c, cv = .ref c ∧ F c = some (LamX.CodeO c q)
structure TkOk (K : Frag) (F H : Hp) : Prop where
  fn : ∀ a ps, F a ≠ some (.tbl ps)
  tb : ∀ p ∈ tabsK K, TabF F H p.1 p.2
structure Sk (K : Frag) (F H : Hp) (σ : SS) (env : List Sl) : Prop where
  len : σ.length = env.length
  sl : ∀ (i : Nat) (s : Sl), env[i]? = some s → SlOk K F H (σ[i]?.getD none) s
  nd : ∀ (i j : Nat) (s t : Sl) (a : Addr), env[i]? = some s → env[j]? = some t → a ∈ s.fp → a ∈ t.fp → i = j
  fr : ∀ a, Own env a → F a = none
  ex : Ex F H
  tf : ∀ (a : Addr) (vs : List V), H a = some (.tup vs) → F a = some (.tup vs)
  tk : TkOk K F H
structure GtOk (K : Frag) (g : G) (H : Hp) : Prop where
  g7 : ∀ a ps, g.H0 a = some (.tbl ps) → H a ≠ none
  g8 : ∀ p ∈ tabsK K, g.H0 p.1 ≠ none
structure St (K : Frag) (g : G) (F H : Hp) (σ : SS) (env : List Sl) : Prop extends Sk K F H σ env where
  g1 : ∀ a o, g.H0 a = some o → a ∉ g.M → ntb o → H a = some o
  g2 : ∀ a, Own env a → g.H0 a = none ∨ a ∈ g.M
  g3 : Ex g.F0 F
  g4 : ∀ a, F a ≠ none → g.F0 a ≠ none ∨ g.H0 a = none
  g5 : ∀ a ∈ g.M, H a ≠ none
  g6 : ∀ a ∈ g.M, g.H0 a ≠ none
  gt : GtOk K g H
section
variable {K : Frag} {g : G} {F F' H H' : Hp} {σ : SS} {env : List Sl} {p : Addr} {o : HO}
theorem TabF.mono {P : Addr} {q : Str} (t : TabF F H P q) (e : Ex F F') (h : ∀ u, H P = some u → H' P = some u) : TabF F' H' P q := by
  obtain ⟨ps, h1, h2, h3⟩ := t
  exact ⟨ps, h _ h1, h2, fun pos cv hc => by obtain ⟨c, e1, e2⟩ := h3 pos cv hc; exact ⟨c, e1, e _ _ e2⟩⟩
theorem TkOk.grow (t : TkOk K F H) (e : Ex H H') : TkOk K F H' := ⟨t.fn, fun p hp => (t.tb p hp).mono (Ex.refl F) fun u q => e _ u q⟩
theorem TkOk.put {p' : Addr} (t : TkOk K F H) (h : ∀ p ∈ tabsK K, p.1 ≠ p') : TkOk K F (upd H p' o) := ⟨t.fn, fun p hp => (t.tb p hp).mono (Ex.refl F) fun u q => by rw [upd_ne (h p hp)]; exact q⟩
theorem TkOk.ne (t : TkOk K F H) {a : Addr} (h : ∀ ps, H a ≠ some (.tbl ps)) : ∀ p ∈ tabsK K, p.1 ≠ a := fun p hp z => by
  obtain ⟨ps, h1, _⟩ := t.tb p hp
  exact h ps (z ▸ h1)
theorem slok_ntb {o : Option V} {s : Sl} (h : SlOk K F H o s) {a : Addr} (ha : a ∈ s.fp) : ∀ ps, H a ≠ some (.tbl ps) := by
  cases s with
  | un => cases ha
  | ow t => obtain ⟨v, _, h2⟩ := h; obtain ⟨u, h3, h4⟩ := t.there h2 a ha; rw [h3]; intro ps z; cases z; cases h4
  | fv l => cases ha
  | fl l => cases ha
  | d x => cases ha
  | v x => cases ha
  | ol b ds => obtain ⟨_, vs, h2, _⟩ := h; have e : a = b := by simpa [Sl.fp] using ha
               subst e; rw [h2]; intro _ z; cases z
  | bg b => obtain ⟨_, ds, vs, _, h2, _⟩ := h; have e : a = b := by simpa [Sl.fp] using ha
            subst e; rw [h2]; intro _ z; cases z
  | dt b ds => obtain ⟨_, vs, h2, _⟩ := h; have e : a = b := by simpa [Sl.fp] using ha
               subst e; rw [h2]; intro _ z; cases z
  | dk b ds => obtain ⟨_, vs, h2, _⟩ := h; have e : a = b := by simpa [Sl.fp] using ha
               subst e; rw [h2]; intro _ z; cases z
  | oo b rows =>
    obtain ⟨_, h2, _, h4⟩ := h
    have ha : a = b ∨ a ∈ rows.map (·.1) := List.mem_cons.mp ha
    rcases ha with rfl | ha
    · rw [h2]; intro _ z; cases z
    · obtain ⟨r, hr, rfl⟩ := List.mem_map.mp ha
      obtain ⟨vs, q1, _⟩ := h4 r hr
      rw [q1]; intro _ z; cases z
theorem Sk.ntb (st : Sk K F H σ env) {a : Addr} (h : Own env a) : ∀ ps, H a ≠ some (.tbl ps) := by
  obtain ⟨i, s, h1, h2⟩ := h
  exact slok_ntb (st.sl i s h1) h2
theorem GtOk.grow (t : GtOk K g H) (e : ∀ a, H' a = none → H a = none) : GtOk K g H' := ⟨fun a ps h z => t.g7 a ps h (e a z), t.g8⟩
theorem Sk.there (st : Sk K F H σ env) {a : Addr} (h : Own env a) : H a ≠ none := by
  obtain ⟨i, s, h1, h2⟩ := h
  exact slok_there (st.sl i s h1) h2
theorem Sk.notown (st : Sk K F H σ env) (h : H p = none) : ¬ Own env p := fun z => st.there z h
/-- the heap grows -/
theorem Sk.grow (st : Sk K F H σ env) (e : Ex H H') (t : ∀ (a : Addr) (vs : List V), H' a = some (.tup vs) → H a = some (.tup vs)) : Sk K F H' σ env :=
  ⟨st.len, fun i s h => slok_mono (Ex.refl F) (fun a _ u q => e a u q) (st.sl i s h), st.nd, st.fr, st.ex.trans e, fun a vs h => st.tf a vs (t a vs h), st.tk.grow e⟩
theorem St.grow (st : St K g F H σ env) (e : Ex H H') (t : ∀ (a : Addr) (vs : List V), H' a = some (.tup vs) → H a = some (.tup vs)) : St K g F H' σ env :=
  { st.toSk.grow e t with g1 := fun a o h m n => e a o (st.g1 a o h m n), gt := st.gt.grow fun a z => e.none z, g2 := st.g2, g3 := st.g3, g4 := st.g4, g5 := fun a m z => st.g5 a m (e.none z), g6 := st.g6 }
theorem St.alloc (st : St K g F H σ env) (h : H p = none) (ht : ∀ vs, o ≠ .tup vs := by intro _ z; cases z) : St K g F (upd H p o) σ env := st.grow (Ex.new h) fun a vs q => by
  by_cases e : a = p
  · subst e; rw [upd_same] at q; exact absurd (Option.some.inj q) (ht vs)
  · rw [upd_ne e] at q; exact q
/-- frozen part and heap grow by what is fresh -/
theorem St.h0 (st : St K g F H σ env) (h : H p = none) : g.H0 p = none := by
  cases q : g.H0 p with
  | none => rfl
  | some u =>
    by_cases m : p ∈ g.M
    · exact absurd h (st.g5 p m)
    · have hn : TL.ntb u := fun ps z => st.gt.g7 p ps (by rw [q, z]) h
      rw [st.g1 p u q m hn] at h; cases h
theorem Sk.freeze (st : Sk K F H σ env) (h : H p = some o) (hF : F p = none) (hn : ¬ Own env p) (hb : TL.ntb o := by intro _ z; cases z) : Sk K (upd F p o) H σ env where
  len := st.len
  sl := fun i s e => slok_mono (Ex.new hF) (fun a _ u q => q) (st.sl i s e)
  nd := st.nd
  fr := fun a ha => by
    have hne : a ≠ p := fun z => hn (z ▸ ha)
    rw [upd_ne hne]; exact st.fr a ha
  ex := fun a u q => by
    by_cases hp : a = p
    · subst hp; rw [upd_same] at q; cases q; exact h
    · rw [upd_ne hp] at q; exact st.ex a u q
  tf := fun a vs q => by
    by_cases hp : a = p
    · subst hp; rw [h] at q; cases q; exact upd_same
    · rw [upd_ne hp]; exact st.tf a vs q
  tk := ⟨fun a ps q => by
    by_cases hp : a = p
    · subst hp; rw [upd_same] at q; exact hb ps (Option.some.inj q)
    · rw [upd_ne hp] at q; exact st.tk.fn a ps q, fun r hr => (st.tk.tb r hr).mono (Ex.new hF) fun _ q => q⟩
theorem St.freeze (st : St K g F H σ env) (h : H p = some o) (hF : F p = none) (hn : ¬ Own env p) (h0 : g.H0 p = none) (hb : TL.ntb o := by intro _ z; cases z) : St K g (upd F p o) H σ env :=
  { st.toSk.freeze h hF hn hb with
    gt := st.gt,
    g1 := st.g1, g2 := st.g2, g3 := st.g3.trans (Ex.new hF), g5 := st.g5, g6 := st.g6,
    g4 := fun a ha => by
      by_cases hp : a = p
      · subst hp; exact .inr h0
      · rw [upd_ne hp] at ha; exact st.g4 a ha }
theorem St.allocF (st : St K g F H σ env) (h : H p = none) (hb : TL.ntb o := by intro _ z; cases z) : St K g (upd F p o) (upd H p o) σ env where
  len := st.len
  sl := fun i s e => slok_mono (Ex.new (st.ex.none h)) (fun a _ u q => Ex.new h a u q) (st.sl i s e)
  nd := st.nd
  fr := fun a ha => by
    have hne : a ≠ p := fun z => st.toSk.notown h (z ▸ ha)
    rw [upd_ne hne]; exact st.fr a ha
  ex := fun a u q => by
    by_cases e : a = p
    · subst e; rw [upd_same] at q; rw [upd_same]; exact q
    · rw [upd_ne e] at q; rw [upd_ne e]; exact st.ex a u q
  tf := fun a vs q => by
    by_cases e : a = p
    · subst e; rw [upd_same] at q; rw [upd_same]; exact q
    · rw [upd_ne e] at q; rw [upd_ne e]; exact st.tf a vs q
  tk := ⟨fun a ps q => by
    by_cases hp : a = p
    · subst hp; rw [upd_same] at q; exact hb ps (Option.some.inj q)
    · rw [upd_ne hp] at q; exact st.tk.fn a ps q, fun r hr => (st.tk.tb r hr).mono (Ex.new (st.ex.none h)) fun u q => Ex.new h _ u q⟩
  gt := st.gt.grow fun a z => by
    by_cases e : a = p
    · subst e; exact h
    · rw [upd_ne e] at z; exact z
  g1 := fun a u q m n => by
    have hne : a ≠ p := fun z => by subst z; have := st.g1 a u q m n; rw [h] at this; cases this
    rw [upd_ne hne]; exact st.g1 a u q m n
  g2 := st.g2
  g3 := st.g3.trans (Ex.new (st.ex.none h))
  g4 := fun a ha => by
    by_cases e : a = p
    · subst e; exact .inr (st.h0 h)
    · rw [upd_ne e] at ha; exact st.g4 a ha
  g5 := fun a m z => by
    by_cases e : a = p
    · subst e; rw [upd_same] at z; cases z
    · rw [upd_ne e] at z; exact st.g5 a m z
  g6 := st.g6
theorem getD_set {σ : SS} {i j : Nat} {v : V} (hl : i < σ.length) : ((σ.set i (some v))[j]?.getD none) = if i = j then some v else (σ[j]?.getD none) := by
  rw [List.getElem?_set]
  by_cases h : i = j
  · subst h; rw [if_pos rfl, if_pos rfl, if_pos hl]; rfl
  · rw [if_neg h, if_neg h]
theorem set_get {env : List Sl} {i j : Nat} {s t : Sl} (h : (env.set i s)[j]? = some t) : (i = j ∧ t = s) ∨ (i ≠ j ∧ env[j]? = some t) := by
  rw [List.getElem?_set] at h
  by_cases e : i = j
  · subst e
    rw [if_pos rfl] at h
    split at h
    · exact .inl ⟨rfl, (Option.some.inj h).symm⟩
    · cases h
  · rw [if_neg e] at h; exact .inr ⟨e, h⟩
theorem own_set {i : Nat} {s : Sl} {a : Addr} (h : Own (env.set i s) a) : a ∈ s.fp ∨ Own env a := by
  obtain ⟨j, t, h1, h2⟩ := h
  rcases set_get h1 with ⟨_, rfl⟩ | ⟨_, h1⟩
  · exact .inl h2
  · exact .inr ⟨j, t, h1, h2⟩
/-- a slot is stored: s is a new description, its footprint new or the slot's own -/
theorem Sk.set {i : Nat} {v : V} {s : Sl} (st : Sk K F H σ env) (hi : i < env.length) (h : SlOk K F H (some v) s) (hfr : ∀ a ∈ s.fp, F a = none)
    (hn : ∀ a ∈ s.fp, ∀ (j : Nat) (t : Sl), j ≠ i → env[j]? = some t → a ∉ t.fp) : Sk K F H (σ.set i (some v)) (env.set i s) where
  len := by rw [List.length_set, List.length_set]; exact st.len
  sl := fun j t e => by
    rw [getD_set (by rw [st.len]; exact hi)]
    rcases set_get e with ⟨rfl, rfl⟩ | ⟨ne, e⟩
    · rw [if_pos rfl]; exact h
    · rw [if_neg ne]; exact st.sl j t e
  nd := fun j k t u a ej ek ht hu => by
    rcases set_get ej with ⟨rfl, rfl⟩ | ⟨ne, ej2⟩
    · rcases set_get ek with ⟨rfl, rfl⟩ | ⟨ne2, ek⟩
      · rfl
      · exact absurd hu (hn a ht k u (Ne.symm ne2) ek)
    · rcases set_get ek with ⟨rfl, rfl⟩ | ⟨ne2, ek⟩
      · exact absurd ht (hn a hu j t (Ne.symm ne) ej2)
      · exact st.nd j k t u a ej2 ek ht hu
  fr := fun a ha => by
    rcases own_set ha with h1 | h1
    · exact hfr a h1
    · exact st.fr a h1
  ex := st.ex
  tf := st.tf
  tk := st.tk
theorem St.set {i : Nat} {v : V} {s : Sl} (st : St K g F H σ env) (hi : i < env.length) (h : SlOk K F H (some v) s) (hfr : ∀ a ∈ s.fp, F a = none)
    (hn : ∀ a ∈ s.fp, ∀ (j : Nat) (t : Sl), j ≠ i → env[j]? = some t → a ∉ t.fp) (hg : ∀ a ∈ s.fp, g.H0 a = none ∨ a ∈ g.M) : St K g F H (σ.set i (some v)) (env.set i s) :=
  { st.toSk.set hi h hfr hn with
    g1 := st.g1, gt := st.gt, g3 := st.g3, g4 := st.g4, g5 := st.g5, g6 := st.g6,
    g2 := fun a ha => by
      rcases own_set ha with h1 | h1
      · exact hg a h1
      · exact st.g2 a h1 }
theorem St.setD {i : Nat} {v : V} {x : PyData} (st : St K g F H σ env) (hi : i < env.length) (h : Dq K F v x) : St K g F H (σ.set i (some v)) (env.set i (.d x)) :=
  st.set hi ⟨v, rfl, h⟩ (fun _ h => by cases h) (fun _ h => by cases h) (fun _ h => by cases h)
theorem St.setL {i : Nat} {a : Addr} {vs : List V} {ds : List PyData} (st : St K g F H σ env) (hi : i < env.length) (hH : H a = some (.lst vs)) (hd : DqAll K F vs ds) (hF : F a = none) (hn : ¬ Own env a) (h0 : g.H0 a = none) :
    St K g F H (σ.set i (some (.ref a))) (env.set i (.ol a ds)) := by
  have one : ∀ b ∈ (Sl.ol a ds).fp, b = a := fun b hb => by simpa [Sl.fp] using hb
  exact st.set (s := .ol a ds) hi ⟨rfl, vs, hH, hd⟩ (fun b hb => by rw [one b hb]; exact hF) (fun b hb j t _ e ht => hn ⟨j, t, e, by rw [← one b hb]; exact ht⟩) (fun b hb => by rw [one b hb]; exact .inl h0)
/-- an object of a slot is changed in place -/
theorem St.write {i : Nat} {a : Addr} {s s' : Sl} {o' : HO} (st : St K g F H σ env) (hs : env[i]? = some s) (ha : s.fp = [a]) (ha' : s'.fp = [a]) (h : SlOk K F (upd H a o') (σ[i]?.getD none) s') (ht : ∀ vs, o' ≠ .tup vs := by intro _ z; cases z) : St K g F (upd H a o') σ (env.set i s') := by
  have own : Own env a := ⟨i, s, hs, by rw [ha]; simp⟩
  have hF : F a = none := st.fr a own
  have hi : i < env.length := (List.getElem?_eq_some_iff.mp hs).1
  have sub : ∀ b, Own (env.set i s') b → Own env b := fun b hb => by
    rcases own_set hb with h1 | h1
    · rw [ha'] at h1
      have e : b = a := by simpa using h1
      rw [e]; exact own
    · exact h1
  have oth : ∀ (j : Nat) (t : Sl), i ≠ j → env[j]? = some t → a ∉ t.fp := fun j t ne e ht => ne (st.nd i j s t a hs e (by rw [ha]; simp) ht)
  refine { len := by rw [List.length_set]; exact st.len, sl := fun j t e => ?_, nd := fun j k t u b ej ek ht hu => ?_, fr := fun b hb => st.fr b (sub b hb), ex := st.ex.mut hF, tf := fun b vs q => by
             by_cases e : b = a
             · subst e; rw [upd_same] at q; exact absurd (Option.some.inj q) (ht vs)
             · rw [upd_ne e] at q; exact st.tf b vs q, tk := st.tk.put (st.tk.ne (st.toSk.ntb own)), gt := st.gt.grow fun b z => by
             by_cases e : b = a
             · subst e; rw [upd_same] at z; cases z
             · rw [upd_ne e] at z; exact z, g1 := fun b u q m n => ?_, g2 := fun b hb => st.g2 b (sub b hb), g3 := st.g3, g4 := st.g4, g5 := fun b m z => ?_, g6 := st.g6 }
  · rcases set_get e with ⟨rfl, rfl⟩ | ⟨ne, e⟩
    · exact h
    · refine slok_mono (Ex.refl F) (fun b hb u q => ?_) (st.sl j t e)
      have hne : b ≠ a := fun z => oth j t ne e (z ▸ hb)
      rw [upd_ne hne]; exact q
  · rcases set_get ej with ⟨rfl, rfl⟩ | ⟨ne, ej2⟩
    · rcases set_get ek with ⟨rfl, rfl⟩ | ⟨ne2, ek⟩
      · rfl
      · rw [ha'] at ht
        have e : b = a := by simpa using ht
        exact absurd (e ▸ hu) (oth k u ne2 ek)
    · rcases set_get ek with ⟨rfl, rfl⟩ | ⟨ne2, ek⟩
      · rw [ha'] at hu
        have e : b = a := by simpa using hu
        exact absurd (e ▸ ht) (oth j t ne ej2)
      · exact st.nd j k t u b ej2 ek ht hu
  · have hne : b ≠ a := fun z => by
      subst z
      rcases st.g2 b own with h1 | h1
      · rw [h1] at q; cases q
      · exact m h1
    rw [upd_ne hne]; exact st.g1 b u q m n
  · by_cases hb : b = a
    · subst hb; rw [upd_same] at z; cases z
    · rw [upd_ne hb] at z; exact st.g5 b m z
/-- a slot's description is weakened -/
theorem St.weak {i : Nat} {s s' : Sl} (st : St K g F H σ env) (hs : env[i]? = some s) (hfp : ∀ a ∈ s'.fp, a ∈ s.fp) (h : SlOk K F H (σ[i]?.getD none) s → SlOk K F H (σ[i]?.getD none) s') : St K g F H σ (env.set i s') := by
  have sub : ∀ b, Own (env.set i s') b → Own env b := fun b hb => by
    rcases own_set hb with h1 | h1
    · exact ⟨i, s, hs, hfp b h1⟩
    · exact h1
  refine { len := by rw [List.length_set]; exact st.len, sl := fun j t e => ?_, nd := fun j k t u b ej ek ht hu => ?_, fr := fun b hb => st.fr b (sub b hb), ex := st.ex, tf := st.tf, tk := st.tk, gt := st.gt,
           g1 := st.g1, g2 := fun b hb => st.g2 b (sub b hb), g3 := st.g3, g4 := st.g4, g5 := st.g5, g6 := st.g6 }
  · rcases set_get e with ⟨rfl, rfl⟩ | ⟨ne, e⟩
    · exact h (st.sl i s hs)
    · exact st.sl j t e
  · rcases set_get ej with ⟨rfl, rfl⟩ | ⟨ne, ej2⟩
    · rcases set_get ek with ⟨rfl, rfl⟩ | ⟨ne2, ek⟩
      · rfl
      · exact st.nd i k s u b hs ek (hfp b ht) hu
    · rcases set_get ek with ⟨rfl, rfl⟩ | ⟨ne2, ek⟩
      · exact st.nd j i t s b ej2 hs ht (hfp b hu)
      · exact st.nd j k t u b ej2 ek ht hu
end
end TL
namespace TL
open PySem PySem.Spec PyProof.Rows L2
inductive Exc where
  | own (n : Str)
  | ownF (n : Str) (fs : List (Str × PyData))
/-- the value of an atom -/
def atV : PyData → Option V
  | .none => some .non
  | .bool b => some (.bl b)
  | .int i => some (.int i)
  | .str s => some (.str s)
  | _ => none
/-- an exception's own dict holds the fields -/
def XfOk (fs : List (Str × PyData)) (xs : List (Str × V)) : Prop := ∀ f d, fs.lookup f = some d → ∃ v, atV d = some v ∧ xs.lookup f = some v
def ExcW (K : Frag) (W : WX) (σ : SS) (H : Hp) : Exc → Prop
  | .own n => W (.ref (He.ga K n)) none σ H
  | .ownF n fs => ∀ d xs, H d = some (.xd xs) → XfOk fs xs → W (.ref (He.ga K n)) (some d) σ H
structure SemE (X : Cx) (e : Expr) (σ : SS) (H : Hp) (Q : VK) : Prop where
  run : ∀ (pins : List (Addr × Obj)) (s : Shared), Inv X pins σ H s → wpAny (model X.prog X.w) X.A (eval e X.env) (EP X pins σ Q) X.xe s
def semE (X : Cx) (e : Expr) : TE := fun σ H Q => SemE X e σ H Q
structure SemT (X : Cx) (e : Expr) (σ : SS) (H : Hp) (Q : Bool → Hp → Prop) : Prop where
  run : ∀ (pins : List (Addr × Obj)) (s : Shared), Inv X pins σ H s → wpAny (model X.prog X.w) X.A (isTrue e X.env (eval e X.env)) (TP X pins σ Q) X.xe s
def semT (X : Cx) (e : Expr) : TT := fun σ H Q => SemT X e σ H Q
structure SemS (X : Cx) (st : List Stmt) (D : Ends) (σ : SS) (H : Hp) : Prop where
  run : ∀ (pins : List (Addr × Obj)) (s : Shared), Inv X pins σ H s → wpAny (model X.prog X.w) X.A (execs st X.env) (SP X pins D) X.xe s
def semS (X : Cx) (st : List Stmt) : TS := fun D σ H => SemS X st D σ H
section
variable {X : Cx}
theorem peS (e : Expr) : PE X e (semE X e) := ⟨fun pins s _ _ _ I h => h.run pins s I⟩
theorem ptS (e : Expr) : PT X e (semT X e) := ⟨fun pins s _ _ _ I h => h.run pins s I⟩
theorem pssS (st : List Stmt) : PSs X st (semS X st) := ⟨fun pins s _ _ _ I h => h.run pins s I⟩
theorem semE_of {e : Expr} {t : TE} (h : PE X e t) {σ : SS} {H : Hp} {Q : VK} (q : t σ H Q) : semE X e σ H Q := ⟨fun pins s I => h.run pins s σ H Q I q⟩
theorem semT_of {e : Expr} {t : TT} (h : PT X e t) {σ : SS} {H : Hp} {Q : Bool → Hp → Prop} (q : t σ H Q) : semT X e σ H Q := ⟨fun pins s I => h.run pins s σ H Q I q⟩
theorem semS_of {st : List Stmt} {t : TS} (h : PSs X st t) {D : Ends} {σ : SS} {H : Hp} (q : t D σ H) : semS X st D σ H := ⟨fun pins s I => h.run pins s σ H D I q⟩
end
def Hld (env : List Sl) (a : Addr) (ds : List PyData) : Prop := (∃ i : Nat, env[i]? = some (Sl.ol a ds)) ∨ (∃ (i : Nat) (b : Addr) (rows : List (Addr × List PyData)), env[i]? = some (Sl.oo b rows) ∧ (a, ds) ∈ rows) ∨ ∃ (i : Nat) (t : OwT), env[i]? = some (Sl.ow t) ∧ (a, ds) ∈ t.rows
/-- how a value is known: z: by the frozen part; else it is an object that a slot holds -/
def Rd (K : Frag) (F : Hp) (env : List Sl) (z : Bool) (v : V) (d : PyData) : Prop :=
  match z with
  | true => Dq K F v d
  | false => ∃ a ds, Hld env a ds ∧ v = .ref a ∧ d = .list ds
def HX (X : Cx) (g : G) (env : List Sl) (Ψ : Exc → Prop) (W : WX) (σ : SS) : Prop := ∀ c F' H', Ψ c → St X.K g F' H' σ env → ExcW X.K W σ H' c
def WE (X : Cx) (g : G) (e : Expr) (env : List Sl) (Φ : PyData → Bool → Prop) (Ψ : Exc → Prop) : Prop :=
  ∀ (W : WX), Takes X W → ∀ (σ : SS) (F H : Hp), St X.K g F H σ env → HX X g env Ψ W σ →
    ∀ Q : VK, (∀ d z v F' H', Φ d z → St X.K g F' H' σ env → Ex F F' → Rd X.K F' env z v d → Q v H') → semE X e σ H Q
/-- a test -/
def WT (X : Cx) (g : G) (e : Expr) (env : List Sl) (Φ : Bool → Prop) (Ψ : Exc → Prop) : Prop :=
  ∀ (W : WX), Takes X W → ∀ (σ : SS) (F H : Hp), St X.K g F H σ env → HX X g env Ψ W σ →
    ∀ Q : Bool → Hp → Prop, (∀ b F' H', Φ b → St X.K g F' H' σ env → Ex F F' → Q b H') → semT X e σ H Q
/-- a new list, no slot's -/
def NewL (K : Frag) (g : G) (F H : Hp) (env : List Sl) (v : V) (ds : List PyData) : Prop :=
  ∃ p vs, v = .ref p ∧ H p = some (.lst vs) ∧ DqAll K F vs ds ∧ F p = none ∧ ¬ Own env p ∧ g.H0 p = none
def WN (X : Cx) (g : G) (e : Expr) (env : List Sl) (Φ : List PyData → Prop) (Ψ : Exc → Prop) : Prop :=
  ∀ (W : WX), Takes X W → ∀ (σ : SS) (F H : Hp), St X.K g F H σ env → HX X g env Ψ W σ →
    ∀ Q : VK, (∀ ds v F' H', Φ ds → St X.K g F' H' σ env → Ex F F' → NewL X.K g F' H' env v ds → Q v H') → semE X e σ H Q
/-- arguments: data, or a slot handed on -/
inductive Ar where
  | d (x : PyData)
  | s (i : Nat)
def ArOk (K : Frag) (F : Hp) (σ : SS) (v : V) : Ar → Prop
  | .d x => Dq K F v x
  | .s i => σ[i]? = some (some v)
def ArAll (K : Frag) (F : Hp) (σ : SS) : List V → List Ar → Prop
  | [], [] => True
  | v :: vs, a :: as => ArOk K F σ v a ∧ ArAll K F σ vs as
  | _, _ => False
section
variable {X : Cx} {g : G} {env : List Sl} {Ψ : Exc → Prop} {pos : Pos} {a b c e : Expr} {K : Frag} {F F' H : Hp} {σ : SS}
theorem rd_mono {z : Bool} {v : V} {d : PyData} (e : Ex F F') (h : Rd K F env z v d) : Rd K F' env z v d := by
  cases z with
  | true => exact dp_mono e _ _ h
  | false => exact h
theorem hld_at {a : Addr} {ds : List PyData} (st : Sk K F H σ env) (h : Hld env a ds) : ∃ vs, H a = some (.lst vs) ∧ DqAll K F vs ds := by
  rcases h with ⟨i, hi⟩ | ⟨i, b, rows, hi, hm⟩ | ⟨i, t, hi, hm⟩
  · exact (st.sl i _ hi).2
  · exact (st.sl i _ hi).2.2.2 _ hm
  · obtain ⟨v, _, h⟩ := st.sl i _ hi
    exact t.held h _ hm
/-- as it stands now -/
theorem rd_now {z : Bool} {v : V} {d : PyData} (st : Sk K F H σ env) (h : Rd K F env z v d) : Dq K H v d := by
  cases z with
  | true => exact dp_mono st.ex _ _ h
  | false =>
    obtain ⟨a, ds, hi, rfl, rfl⟩ := h
    obtain ⟨vs, h2, h3⟩ := hld_at st hi
    exact .lst (SqL.of h2) (dpa_mono st.ex _ _ h3)
theorem rd_nowP {z : Bool} {v : V} {d : PyData} (st : Sk K F H σ env) (h : Rd K F env z v d) (c : SeqAt.shaped d = true) : Dp K H v d := dq_dp _ _ (shp_lay c) (rd_now st h)
/-- a list: where it stands, its items by the frozen part -/
theorem rd_lst {z : Bool} {v : V} {ds : List PyData} (st : Sk K F H σ env) (h : Rd K F env z v (.list ds)) : ∃ a vs, v = .ref a ∧ SqL K H a vs ∧ DqAll K F vs ds := by
  cases z with
  | true =>
    obtain ⟨a, xs, rfl, h2, h3⟩ := dp_lst h
    exact ⟨a, xs, rfl, ex_l st.ex h2, h3⟩
  | false =>
    obtain ⟨a, ds', hi, rfl, e⟩ := h
    injection e with e
    subst e
    obtain ⟨vs, h2, h3⟩ := hld_at st hi
    exact ⟨a, vs, rfl, SqL.of h2, h3⟩
theorem rd_tup {z : Bool} {v : V} {ds : List PyData} (st : Sk K F H σ env) (h : Rd K F env z v (.tuple ds)) : ∃ a vs, v = .ref a ∧ SqT K H a vs ∧ DqAll K F vs ds := by
  cases z with
  | true =>
    obtain ⟨a, xs, rfl, h2, h3⟩ := dp_tup h
    exact ⟨a, xs, rfl, ex_t st.ex h2, h3⟩
  | false => obtain ⟨_, _, _, _, e⟩ := h; cases e
theorem rd_int {z : Bool} {v : V} {i : Int} (h : Rd K F env z v (.int i)) : v = .int i := by
  cases z with
  | true => exact dp_int h
  | false => obtain ⟨_, _, _, _, e⟩ := h; cases e
theorem rd_str {z : Bool} {v : V} {i : Str} (h : Rd K F env z v (.str i)) : v = .str i := by
  cases z with
  | true => exact dp_str h
  | false => obtain ⟨_, _, _, _, e⟩ := h; cases e
theorem rd_bl {z : Bool} {v : V} {i : Bool} (h : Rd K F env z v (.bool i)) : v = .bl i := by
  cases z with
  | true => exact dp_bl h
  | false => obtain ⟨_, _, _, _, e⟩ := h; cases e
theorem rd_non {z : Bool} {v : V} (h : Rd K F env z v .none) : v = .non := by
  cases z with
  | true => exact dp_non h
  | false => obtain ⟨_, _, _, _, e⟩ := h; cases e
theorem WE.mono {Φ Φ' : PyData → Bool → Prop} (h : WE X g e env Φ Ψ) (k : ∀ d z, Φ d z → Φ' d z) : WE X g e env Φ' Ψ :=
  fun W tk σ F H st hx Q hQ => h W tk σ F H st hx Q fun d z v F' H' p => hQ d z v F' H' (k d z p)
/-- a two-place operation on data -/
def DOp (K : Frag) (g : G) (env : List Sl) (r : R2) (d1 : PyData) (z1 : Bool) (d2 : PyData) (z2 : Bool) (Φ : PyData → Bool → Prop) : Prop :=
  ∀ (σ : SS) (F H : Hp) (v1 v2 : V), St K g F H σ env → Rd K F env z1 v1 d1 → Rd K F env z2 v2 d2 →
    ∀ Q : VK, (∀ d z v F' H', Φ d z → St K g F' H' σ env → Ex F F' → Rd K F' env z v d → Q v H') → r v1 v2 H Q
theorem we_op {Φ : PyData → Bool → Prop} {R : PyData → Bool → PyData → Bool → Prop} {r : R2} (hop : PE X e (tOp r (semE X a) (semE X b)))
    (hr : ∀ d1 z1 d2 z2, R d1 z1 d2 z2 → DOp X.K g env r d1 z1 d2 z2 Φ)
    (h : WE X g a env (fun d1 z1 => WE X g b env (fun d2 z2 => R d1 z1 d2 z2) Ψ) Ψ) : WE X g e env Φ Ψ := by
  intro W tk σ F H st hx Q hQ
  refine semE_of hop ?_
  refine h W tk σ F H st hx _ fun d1 z1 v1 F1 H1 h1 st1 e1 r1 => ?_
  refine h1 W tk σ F1 H1 st1 hx _ fun d2 z2 v2 F2 H2 h2 st2 e2 r2 => ?_
  exact hr _ _ _ _ h2 σ F2 H2 v1 v2 st2 (rd_mono e2 r1) r2 Q fun d z v F' H' hp s3 e3 r3 => hQ d z v F' H' hp s3 ((e1.trans e2).trans e3) r3
theorem wt_op {Φ : Bool → Prop} {R : PyData → Bool → PyData → Bool → Prop} {r : R2} (hop : PT X e (tTest (tOp r (semE X a) (semE X b))))
    (hr : ∀ d1 z1 d2 z2, R d1 z1 d2 z2 → DOp X.K g env r d1 z1 d2 z2 (fun d _ => ∃ k, d = .bool k ∧ Φ k))
    (h : WE X g a env (fun d1 z1 => WE X g b env (fun d2 z2 => R d1 z1 d2 z2) Ψ) Ψ) : WT X g e env Φ Ψ := by
  intro W tk σ F H st hx Q hQ
  refine semT_of hop ?_
  refine h W tk σ F H st hx _ fun d1 z1 v1 F1 H1 h1 st1 e1 r1 => ?_
  refine h1 W tk σ F1 H1 st1 hx _ fun d2 z2 v2 F2 H2 h2 st2 e2 r2 => ?_
  refine hr _ _ _ _ h2 σ F2 H2 v1 v2 st2 (rd_mono e2 r1) r2 _ fun d z v F' H' ⟨k, hd, hp⟩ s3 e3 r3 => ?_
  subst hd
  exact ⟨k, rd_bl r3, hQ k F' H' hp s3 ((e1.trans e2).trans e3)⟩
def DUn (K : Frag) (g : G) (env : List Sl) (r : V → Hp → VK → Prop) (d1 : PyData) (z1 : Bool) (Φ : PyData → Bool → Prop) : Prop :=
  ∀ (σ : SS) (F H : Hp) (v1 : V), St K g F H σ env → Rd K F env z1 v1 d1 →
    ∀ Q : VK, (∀ d z v F' H', Φ d z → St K g F' H' σ env → Ex F F' → Rd K F' env z v d → Q v H') → r v1 H Q
theorem dop_of {r : R2} {d1 d2 d : PyData} {z1 z2 z : Bool} {Φ : PyData → Bool → Prop} (hp : Φ d z)
    (h : ∀ (σ : SS) (F H : Hp) (v1 v2 : V) (Q : VK), St K g F H σ env → Rd K F env z1 v1 d1 → Rd K F env z2 v2 d2 → (∀ v, Rd K F env z v d → Q v H) → r v1 v2 H Q) : DOp K g env r d1 z1 d2 z2 Φ :=
  fun σ F H v1 v2 st r1 r2 Q hQ => h σ F H v1 v2 Q st r1 r2 fun v rv => hQ d z v F H hp st (Ex.refl F) rv
theorem dop_l {r r' : R2} {d1 d2 : PyData} {z1 z2 : Bool} {Φ : PyData → Bool → Prop} (h : DOp K g env r d1 z1 d2 z2 Φ) : DOp K g env (fun x y H Q => r x y H Q ∨ r' x y H Q) d1 z1 d2 z2 Φ :=
  fun σ F H v1 v2 st r1 r2 Q hQ => .inl (h σ F H v1 v2 st r1 r2 Q hQ)
theorem dop_r {r r' : R2} {d1 d2 : PyData} {z1 z2 : Bool} {Φ : PyData → Bool → Prop} (h : DOp K g env r' d1 z1 d2 z2 Φ) : DOp K g env (fun x y H Q => r x y H Q ∨ r' x y H Q) d1 z1 d2 z2 Φ :=
  fun σ F H v1 v2 st r1 r2 Q hQ => .inr (h σ F H v1 v2 st r1 r2 Q hQ)
/-- a new object, frozen at once -/
theorem put_lst {p : Addr} {vs : List V} {ds : List PyData} {Φ : PyData → Bool → Prop} {Q : VK} (st : St K g F H σ env) (hn : H p = none) (hd : DqAll K F vs ds) (hp : Φ (.list ds) true)
    (hQ : ∀ d z v F' H', Φ d z → St K g F' H' σ env → Ex F F' → Rd K F' env z v d → Q v H') : Q (.ref p) (upd H p (.lst vs)) := by
  have hF : F p = none := st.ex.none hn
  exact hQ (.list ds) true (.ref p) (upd F p (.lst vs)) _ hp (st.allocF hn) (Ex.new hF) (.lst (SqL.of upd_same) (dpa_mono (Ex.new hF) _ _ hd))
theorem put_tup {p : Addr} {vs : List V} {ds : List PyData} {Φ : PyData → Bool → Prop} {Q : VK} (st : St K g F H σ env) (hn : H p = none) (hd : DqAll K F vs ds) (hp : Φ (.tuple ds) true)
    (hQ : ∀ d z v F' H', Φ d z → St K g F' H' σ env → Ex F F' → Rd K F' env z v d → Q v H') : Q (.ref p) (upd H p (.tup vs)) := by
  have hF : F p = none := st.ex.none hn
  exact hQ (.tuple ds) true (.ref p) (upd F p (.tup vs)) _ hp (st.allocF hn) (Ex.new hF) (.tup upd_same (dpa_mono (Ex.new hF) _ _ hd))
theorem put_new {p : Addr} {vs : List V} {ds : List PyData} {Φ : List PyData → Prop} {Q : VK} (st : St K g F H σ env) (hn : H p = none) (hd : DqAll K F vs ds) (hp : Φ ds)
    (hQ : ∀ ds v F' H', Φ ds → St K g F' H' σ env → Ex F F' → NewL K g F' H' env v ds → Q v H') : Q (.ref p) (upd H p (.lst vs)) :=
  hQ ds (.ref p) F _ hp (st.alloc hn) (Ex.refl F) ⟨p, vs, rfl, upd_same, hd, st.ex.none hn, st.toSk.notown hn, st.h0 hn⟩
theorem we_of_wn {Φ : PyData → Bool → Prop} (h : WN X g e env (fun ds => Φ (.list ds) true) Ψ) : WE X g e env Φ Ψ := fun W tk σ F H st hx Q hQ =>
  h W tk σ F H st hx Q fun ds v F' H' hp st' e' ⟨p, vs, hv, h1, h2, h3, h4, h5⟩ => by
    subst hv
    have e2 := Ex.new (o := .lst vs) h3
    exact hQ (.list ds) true (.ref p) (upd F' p (.lst vs)) H' hp (st'.freeze h1 h3 h4 h5) (e'.trans e2) (.lst (SqL.of upd_same) (dpa_mono e2 _ _ h2))
section
variable {Φ : PyData → Bool → Prop}
theorem we_int {i : Int} {j : Nat} (h : Φ (.int i) true) : WE X g (.Constant (.int i) j pos) env Φ Ψ :=
  fun W tk σ F H st hx Q hQ => semE_of pe_int (hQ _ true _ F H h st (Ex.refl F) (.int i))
theorem we_str {i : Str} {j : Nat} (h : Φ (.str i) true) : WE X g (.Constant (.str i) j pos) env Φ Ψ :=
  fun W tk σ F H st hx Q hQ => semE_of pe_str (hQ _ true _ F H h st (Ex.refl F) (.str i))
theorem we_bool {i : Bool} {j : Nat} (h : Φ (.bool i) true) : WE X g (.Constant (.bool i) j pos) env Φ Ψ :=
  fun W tk σ F H st hx Q hQ => semE_of pe_bl (hQ _ true _ F H h st (Ex.refl F) (.bl i))
theorem we_none {j : Nat} (h : Φ .none true) : WE X g (.Constant .none j pos) env Φ Ψ :=
  fun W tk σ F H st hx Q hQ => semE_of pe_non (hQ _ true _ F H h st (Ex.refl F) .non)
theorem getD_some {σ : SS} {i : Nat} {v : V} (h : σ[i]?.getD none = some v) : σ[i]? = some (some v) := by
  cases e : σ[i]? with
  | none => rw [e] at h; cases h
  | some o => rw [e] at h; exact congrArg some h
/-- a name that holds data -/
theorem we_n (i : Nat) {d : PyData} {x : Str} (h : Φ d true) (he : env[i]? = some (.d d) := by rfl) (hN : X.N[i]? = some x := by rfl)
    (hv : Vis X.env.scope x := by first | exact Or.inl rfl | exact Or.inr (Or.inl rfl) | exact Or.inr (Or.inr rfl)) (hd : (x == ("__debug__" : Str)) = false := by decide)
    (hcd : (x == ("__classdict__" : Str)) = false := by decide) : WE X g (.Name x pos) env Φ Ψ := fun W tk σ F H st hx Q hQ => by
  obtain ⟨v, h1, h2⟩ := st.sl i _ he
  exact semE_of (pe_var hN hv hd hcd) ⟨v, getD_some h1, hQ d true v F H h st (Ex.refl F) h2⟩
/-- a name that holds a list of one's own -/
theorem we_nl (i : Nat) {al : Addr} {ds : List PyData} {x : Str} (h : Φ (.list ds) false) (he : env[i]? = some (.ol al ds) := by rfl) (hN : X.N[i]? = some x := by rfl)
    (hv : Vis X.env.scope x := by first | exact Or.inl rfl | exact Or.inr (Or.inl rfl) | exact Or.inr (Or.inr rfl)) (hd : (x == ("__debug__" : Str)) = false := by decide)
    (hcd : (x == ("__classdict__" : Str)) = false := by decide) : WE X g (.Name x pos) env Φ Ψ := fun W tk σ F H st hx Q hQ => by
  obtain ⟨h1, h2⟩ := st.sl i _ he
  exact semE_of (pe_var hN hv hd hcd) ⟨_, getD_some h1, hQ _ false _ F H h st (Ex.refl F) ⟨al, ds, .inl ⟨i, he⟩, rfl, rfl⟩⟩
/-- a module's int, a module's text -/
theorem we_gint {n : Int} {x : Str} (hm : ∃ t, X.mg x = some (.int n t)) (h : Φ (.int n) true) (hg : Gl X x := by rfl) (hd : (x == ("__debug__" : Str)) = false := by decide) : WE X g (.Name x pos) env Φ Ψ :=
  fun W tk σ F H st hx Q hQ => by
    obtain ⟨t, ht⟩ := hm
    exact semE_of (pe_glob hg ht (v := .int n) ⟨t, rfl⟩ hd) (hQ _ true _ F H h st (Ex.refl F) (.int n))
theorem we_gstr {n : Str} {x : Str} (hm : ∃ t, X.mg x = some (.str n t)) (h : Φ (.str n) true) (hg : Gl X x := by rfl) (hd : (x == ("__debug__" : Str)) = false := by decide) : WE X g (.Name x pos) env Φ Ψ :=
  fun W tk σ F H st hx Q hQ => by
    obtain ⟨t, ht⟩ := hm
    exact semE_of (pe_glob hg ht (v := .str n) ⟨t, rfl⟩ hd) (hQ _ true _ F H h st (Ex.refl F) (.str n))
end
end
end TL
namespace TL
open PySem PySem.Spec PyProof.Rows L2
section
variable {X : Cx} {g : G} {env : List Sl} {Ψ : Exc → Prop} {pos : Pos} {a b c e : Expr} {K : Frag} {F F' H : Hp} {σ : SS}
def rCatL (K : Frag) : R2 := fun x y H Q => ∃ l b xs zs, x = .ref l ∧ y = .ref b ∧ SqL K H l xs ∧ SqL K H b zs ∧ xs.length + zs.length ≤ sizeLine ∧ ∀ p, H p = none → Q (.ref p) (upd H p (.lst (xs ++ zs)))
theorem op_catL : OpR X (binaryOp .Add) (rCatL X.K) := by
  intro pins s σ H x y v u Q I rx ry h
  obtain ⟨l, b, xs, zs, rfl, rfl, hH, hB, hz, q⟩ := h
  cases rx
  cases ry
  obtain ⟨vs, r, ⟨⟨cls, dd, data, sl⟩, n, ho, hc, hdn, hd⟩, hl⟩ := I.list hH
  obtain ⟨ws, r2, ⟨⟨cls2, dd2, data2, sl2⟩, n2, ho2, hc2, hdn2, hd2⟩, hl2⟩ := I.list hB
  simp only at hc hd hc2 hd2
  subst hc hd hc2 hd2
  have e1 := r.length
  have e2 := r2.length
  have e : vs.toArray ++ ws.toArray = (vs ++ ws).toArray := by simp
  refine concat_meets ⟨_, ho, rfl⟩ ⟨_, ho2, rfl⟩ noFill_list_add seq_list_add PySem.F.slot_list_add PySem.F.entry_list_add (PySem.F.args_list_add_2 _ _) (list_addW l b vs.toArray ws.toArray n n2 dd dd2 sl sl2 (by simp only [List.size_toArray]; omega)) ⟨ho, ho2, ?_⟩
  rw [e]
  exact ⟨.ref _, _, I.lnew (t' := s.toks) (r.append r2) (by rw [List.length_append]; omega), rfl, q _ I.fresh⟩
theorem dop_I0 {f : Int → Int → V} {i j : Int} {z1 z2 : Bool} {Φ : PyData → Bool → Prop} {d : PyData} (h : Φ d true) (hf : ∀ F, Dq K F (f i j) d) : DOp K g env (rI0 f) (.int i) z1 (.int j) z2 Φ :=
  dop_of h fun σ F H v1 v2 Q st r1 r2 q => ⟨i, j, rd_int r1, rd_int r2, q _ (hf F)⟩
theorem dop_I {C : Int → Int → Prop} {f : Int → Int → V} {i j : Int} {z1 z2 : Bool} {Φ : PyData → Bool → Prop} {d : PyData} (hc : C i j) (h : Φ d true) (hf : ∀ F, Dq K F (f i j) d) : DOp K g env (rI C f) (.int i) z1 (.int j) z2 Φ :=
  dop_of h fun σ F H v1 v2 Q st r1 r2 q => ⟨i, j, rd_int r1, rd_int r2, hc, q _ (hf F)⟩
inductive AddP (Φ : PyData → Bool → Prop) : PyData → Bool → PyData → Bool → Prop
  | int {i j : Int} {z1 z2 : Bool} : Φ (.int (i + j)) true → AddP Φ (.int i) z1 (.int j) z2
  | str {i j : Str} {z1 z2 : Bool} : Φ (.str (i ++ j)) true → i.length + j.length ≤ sizeLine → AddP Φ (.str i) z1 (.str j) z2
  | lst {xs ys : List PyData} {z1 z2 : Bool} : Φ (.list (xs ++ ys)) true → xs.length + ys.length ≤ sizeLine → AddP Φ (.list xs) z1 (.list ys) z2
  | tup {xs ys : List PyData} {z1 z2 : Bool} : Φ (.tuple (xs ++ ys)) true → xs.length + ys.length ≤ sizeLine → AddP Φ (.tuple xs) z1 (.tuple ys) z2
abbrev rAddS : R2 := fun x y H Q => ∃ i j, x = .str i ∧ y = .str j ∧ i.length + j.length ≤ sizeLine ∧ Q (.str (i ++ j)) H
abbrev rAddA (K : Frag) : R2 := fun x y H Q => (rI0 fun i j => .int (i + j)) x y H Q ∨ (fun x y H Q => rAddS x y H Q ∨ (fun x y H Q => rCatL K x y H Q ∨ rCatA K x y H Q) x y H Q) x y H Q
theorem op_addA : OpR X (binaryOp .Add) (rAddA X.K) := op_add.or (op_add_str.or (op_catL.or op_catA))
theorem dop_add {Φ : PyData → Bool → Prop} {d1 d2 : PyData} {z1 z2 : Bool} (h : AddP Φ d1 z1 d2 z2) : DOp K g env (rAddA K) d1 z1 d2 z2 Φ := by
  cases h with
  | int h => exact dop_l (dop_I0 h fun F => .int _)
  | str h hl => exact dop_r (dop_l (dop_of h fun σ F H v1 v2 Q st r1 r2 q => ⟨_, _, rd_str r1, rd_str r2, hl, q _ (.str _)⟩))
  | lst h hl =>
    refine dop_r (dop_r (dop_l fun σ F H v1 v2 st r1 r2 Q hQ => ?_))
    obtain ⟨a1, vs1, rfl, s1, p1⟩ := rd_lst st.toSk r1
    obtain ⟨a2, vs2, rfl, s2, p2⟩ := rd_lst st.toSk r2
    exact ⟨a1, a2, vs1, vs2, rfl, rfl, s1, s2, by rw [dpa_len p1, dpa_len p2]; exact hl, fun p hp => put_lst st hp (dpa_app p1 p2) h hQ⟩
  | tup h hl =>
    refine dop_r (dop_r (dop_r fun σ F H v1 v2 st r1 r2 Q hQ => ?_))
    obtain ⟨a1, vs1, rfl, s1, p1⟩ := rd_tup st.toSk r1
    obtain ⟨a2, vs2, rfl, s2, p2⟩ := rd_tup st.toSk r2
    refine ⟨a1, a2, vs1, vs2, rfl, rfl, s1, s2, by rw [dpa_len p1, dpa_len p2]; exact hl, fun e => ?_, fun _ e => ?_, fun _ _ p hp => put_tup st hp (dpa_app p1 p2) h hQ⟩
    · subst e
      cases p1
      rw [List.nil_append] at h
      refine hQ _ z2 _ F H ?_ st (Ex.refl F) r2
      cases z2 with
      | true => exact h
      | false => obtain ⟨_, _, _, _, e⟩ := r2; cases e
    subst e
    cases p2
    rw [List.append_nil] at h
    refine hQ _ z1 _ F H ?_ st (Ex.refl F) r1
    cases z1 with
    | true => exact h
    | false => obtain ⟨_, _, _, _, e⟩ := r1; cases e
section
variable {Φ : PyData → Bool → Prop}
theorem we_add (h : WE X g a env (fun d1 z1 => WE X g b env (fun d2 z2 => AddP Φ d1 z1 d2 z2) Ψ) Ψ) : WE X g (.BinOp a .Add b pos) env Φ Ψ :=
  we_op (pe_op op_addA (peS a) (peS b)) (fun _ _ _ _ => dop_add) h
inductive IntP (C : Int → Int → Prop) (f : Int → Int → Int) (Φ : PyData → Bool → Prop) : PyData → Bool → PyData → Bool → Prop
  | mk {i j : Int} {z1 z2 : Bool} : Φ (.int (f i j)) true → C i j → IntP C f Φ (.int i) z1 (.int j) z2
theorem we_sub (h : WE X g a env (fun d1 z1 => WE X g b env (fun d2 z2 => IntP (fun _ _ => True) (fun i j => i - j) Φ d1 z1 d2 z2) Ψ) Ψ) : WE X g (.BinOp a .Sub b pos) env Φ Ψ :=
  we_op (pe_op op_sub (peS a) (peS b)) (fun _ _ _ _ ⟨h, _⟩ => dop_I0 h fun F => .int _) h
theorem we_mul (h : WE X g a env (fun d1 z1 => WE X g b env (fun d2 z2 => IntP CMul (fun i j => i * j) Φ d1 z1 d2 z2) Ψ) Ψ) : WE X g (.BinOp a .Mult b pos) env Φ Ψ :=
  we_op (pe_op op_mul (peS a) (peS b)) (fun _ _ _ _ ⟨h, hc⟩ => dop_I hc h fun F => .int _) h
theorem we_div (h : WE X g a env (fun d1 z1 => WE X g b env (fun d2 z2 => IntP CDivW (fun i j => i / j) Φ d1 z1 d2 z2) Ψ) Ψ) : WE X g (.BinOp a .FloorDiv b pos) env Φ Ψ :=
  we_op (pe_op op_fdivW (peS a) (peS b)) (fun _ _ _ _ ⟨h, hc⟩ => dop_I hc h fun F => .int _) h
theorem we_mod (h : WE X g a env (fun d1 z1 => WE X g b env (fun d2 z2 => IntP (fun _ j => 0 < j) (fun i j => i % j) Φ d1 z1 d2 z2) Ψ) Ψ) : WE X g (.BinOp a .Mod b pos) env Φ Ψ :=
  we_op (pe_op op_mod (peS a) (peS b)) (fun _ _ _ _ ⟨h, hc⟩ => dop_I hc h fun F => .int _) h
theorem we_pow (h : WE X g a env (fun d1 z1 => WE X g b env (fun d2 z2 => IntP CPow (fun i j => i ^ j.toNat) Φ d1 z1 d2 z2) Ψ) Ψ) : WE X g (.BinOp a .Pow b pos) env Φ Ψ :=
  we_op (pe_op op_pow (peS a) (peS b)) (fun _ _ _ _ ⟨h, hc⟩ => dop_I hc h fun F => .int _) h
theorem cdiv_small {j : Int} (i : Int) (h : 0 < j) (h2 : j < 4611686018427387904) : CDivW i j := wide_div h (b := 62) (by omega) (by decide) (by decide)
end
def CP (K : Frag) (g : G) (env : List Sl) (r : R2) (d1 : PyData) (z1 : Bool) (d2 : PyData) (z2 : Bool) (k : Bool) : Prop :=
  ∀ (σ : SS) (F H : Hp) (v1 v2 : V), St K g F H σ env → Rd K F env z1 v1 d1 → Rd K F env z2 v2 d2 → ∀ Q : VK, Q (.bl k) H → r v1 v2 H Q
theorem cp_l {r r' : R2} {d1 d2 : PyData} {z1 z2 k : Bool} (h : CP K g env r d1 z1 d2 z2 k) : CP K g env (fun x y H Q => r x y H Q ∨ r' x y H Q) d1 z1 d2 z2 k := fun σ F H v1 v2 st r1 r2 Q q => .inl (h σ F H v1 v2 st r1 r2 Q q)
theorem cp_r {r r' : R2} {d1 d2 : PyData} {z1 z2 k : Bool} (h : CP K g env r' d1 z1 d2 z2 k) : CP K g env (fun x y H Q => r x y H Q ∨ r' x y H Q) d1 z1 d2 z2 k := fun σ F H v1 v2 st r1 r2 Q q => .inr (h σ F H v1 v2 st r1 r2 Q q)
theorem we_cp {Φ : PyData → Bool → Prop} {op : CmpOp} {r : R2} (ho : OpR X (compareOp op) r) (h : WE X g a env (fun d1 z1 => WE X g b env (fun d2 z2 => ∃ k, CP X.K g env r d1 z1 d2 z2 k ∧ Φ (.bool k) true) Ψ) Ψ)
    (hm : behindInMarks op b = false := by first | exact nomark _ | rfl) : WE X g (.Compare a [op] [b] pos) env Φ Ψ :=
  we_op (pe_cmpR ho (peS a) (peS b) hm) (fun _ _ _ _ ⟨k, hc, hp⟩ σ F H v1 v2 st r1 r2 Q hQ => hc σ F H v1 v2 st r1 r2 Q (hQ _ true _ F H hp st (Ex.refl F) (.bl k))) h
theorem wt_cp {Φ : Bool → Prop} {op : CmpOp} {r : R2} (ho : OpR X (compareOp op) r) (h : WE X g a env (fun d1 z1 => WE X g b env (fun d2 z2 => ∃ k, CP X.K g env r d1 z1 d2 z2 k ∧ Φ k) Ψ) Ψ)
    (hm : behindInMarks op b = false := by first | exact nomark _ | rfl) : WT X g (.Compare a [op] [b] pos) env Φ Ψ :=
  wt_op (pt_cmpR ho (peS a) (peS b) hm) (fun _ _ _ _ ⟨k, hc, hp⟩ σ F H v1 v2 st r1 r2 Q hQ => hc σ F H v1 v2 st r1 r2 Q (hQ (.bool k) true _ F H ⟨k, rfl, hp⟩ st (Ex.refl F) (.bl k))) h
/-- a op b op' c -/
theorem chain_run {r r' : R2} {C : Bool → Prop} (h : WE X g a env (fun d1 z1 => WE X g b env (fun d2 z2 => ∃ k, CP X.K g env r d1 z1 d2 z2 k ∧ (k = true → WE X g c env (fun d3 z3 => ∃ k', CP X.K g env r' d2 z2 d3 z3 k' ∧ C k') Ψ) ∧ (k = false → C false)) Ψ) Ψ)
    {W : WX} (tk : Takes X W) {F H : Hp} (st : St X.K g F H σ env) (hx : HX X g env Ψ W σ) {Q : VK} (hQ : ∀ k F' H', C k → St X.K g F' H' σ env → Ex F F' → Q (.bl k) H') : tChain r r' (semE X a) (semE X b) (semE X c) σ H Q := by
  refine h W tk σ F H st hx _ fun d1 z1 v1 F1 H1 h1 st1 e1 r1 => ?_
  refine h1 W tk σ F1 H1 st1 hx _ fun d2 z2 v2 F2 H2 h2 st2 e2 r2 => ?_
  obtain ⟨k, hc, ht, hf⟩ := h2
  refine hc σ F2 H2 v1 v2 st2 (rd_mono e2 r1) r2 _ ⟨k, rfl, ?_⟩
  cases k with
  | true =>
    rw [if_pos rfl]
    refine ht rfl W tk σ F2 H2 st2 hx _ fun d3 z3 v3 F3 H3 h3 st3 e3 r3 => ?_
    obtain ⟨k', hc', hp⟩ := h3
    exact hc' σ F3 H3 v2 v3 st3 (rd_mono e3 r2) r3 Q (hQ k' F3 H3 hp st3 ((e1.trans e2).trans e3))
  | false =>
    rw [if_neg Bool.false_ne_true]
    exact hQ false F2 H2 (hf rfl) st2 (e1.trans e2)
theorem we_ch {Φ : PyData → Bool → Prop} {op op' : CmpOp} {r r' : R2} (ho : OpR X (compareOp op) r) (ho' : OpR X (compareOp op') r')
    (h : WE X g a env (fun d1 z1 => WE X g b env (fun d2 z2 => ∃ k, CP X.K g env r d1 z1 d2 z2 k ∧ (k = true → WE X g c env (fun d3 z3 => ∃ k', CP X.K g env r' d2 z2 d3 z3 k' ∧ Φ (.bool k') true) Ψ) ∧ (k = false → Φ (.bool false) true)) Ψ) Ψ)
    (hm : lastMarks [op, op'] [b, c] = false := by with_unfolding_all rfl) : WE X g (.Compare a [op, op'] [b, c] pos) env Φ Ψ := fun W tk σ F H st hx Q hQ =>
  semE_of (pe_chain ho ho' (peS a) (peS b) (peS c) hm) (chain_run (C := fun k => Φ (.bool k) true) h tk st hx fun k F' H' hp s e => hQ _ true _ F' H' hp s e (.bl k))
theorem wt_ch {Φ : Bool → Prop} {op op' : CmpOp} {r r' : R2} (ho : OpR X (compareOp op) r) (ho' : OpR X (compareOp op') r')
    (h : WE X g a env (fun d1 z1 => WE X g b env (fun d2 z2 => ∃ k, CP X.K g env r d1 z1 d2 z2 k ∧ (k = true → WE X g c env (fun d3 z3 => ∃ k', CP X.K g env r' d2 z2 d3 z3 k' ∧ Φ k') Ψ) ∧ (k = false → Φ false)) Ψ) Ψ)
    (hm : lastMarks [op, op'] [b, c] = false := by with_unfolding_all rfl) : WT X g (.Compare a [op, op'] [b, c] pos) env Φ Ψ := fun W tk σ F H st hx Q hQ =>
  semT_of (pt_chain ho ho' (peS a) (peS b) (peS c) hm) (chain_run h tk st hx fun k F' H' hp s e => ⟨k, rfl, hQ k F' H' hp s e⟩)
/-- the operators' rules, by what they take -/
abbrev rLtA (K : Frag) : R2 := fun x y H Q => (rI0 fun i j => .bl (decide (i < j))) x y H Q ∨ rLtT K x y H Q
theorem op_ltA {k : Nat} (hr : Room k X.A) : OpR X (compareOp .Lt) (rLtA X.K) := op_lt.or (op_ltT hr.units0)
abbrev rEqA (K : Frag) : R2 := fun x y H Q => rEq x y H Q ∨ rEqD K x y H Q
theorem op_eqA {k : Nat} (hr : Room k X.A) : OpR X (compareOp .Eq) (rEqA X.K) := op_eq.or (op_eqD hr.units)
abbrev rNeA (K : Frag) : R2 := fun x y H Q => rNe x y H Q ∨ rNeD K x y H Q
theorem op_neA {k : Nat} (hr : Room k X.A) : OpR X (compareOp .NotEq) (rNeA X.K) := op_ne.or (op_neD hr.units)
theorem units65 {k : Nat} {A : Around} (hr : Room k A) : A.units + 65 < cLine := by have := hr.un; omega
abbrev rInS : R2 := fun x y H Q => ∃ i j, x = .str i ∧ y = .str j ∧ Q (.bl (!(Builtin.Str.occurrences j i 0 j.length 1).isEmpty)) H
def rInTD (K : Frag) : R2 := fun x y H Q => ∃ d ds, Dp K H x d ∧ Dp K H y (.tuple ds) ∧ SeqAt.shaped d = true ∧ SeqAt.shaped (.tuple ds) = true ∧ Q (.bl (ds.any fun z => PyData.eqv z d)) H
theorem op_inTD (hu : X.A.units + 65 < cLine) : OpR X (compareOp .In) (rInTD X.K) := by
  intro pins s σ H x y v u Q I rx ry h
  obtain ⟨d, ds, hd, he, sd, se, q⟩ := h
  obtain ⟨as, r1⟩ := Dp.reads I d x v hd rx
  obtain ⟨bs, r2⟩ := Dp.reads I (.tuple ds) y u he ry
  exact SeqAt.in_tuple_reads r2 r1 (SeqAt.canLay_of_shaped se) (SeqAt.canLay_of_shaped sd) (room_in_shaped sd hu) ⟨.bl _, H, I, rfl, q⟩
abbrev rInA (K : Frag) : R2 := fun x y H Q => rIn K false x y H Q ∨ (fun x y H Q => rInD K x y H Q ∨ (fun x y H Q => rInS x y H Q ∨ rInTD K x y H Q) x y H Q) x y H Q
theorem op_inA {k : Nat} (hr : Room k X.A) : OpR X (compareOp .In) (rInA X.K) := op_in_seq.or ((op_inD (units65 hr)).or (op_in_str.or (op_inTD (units65 hr))))
abbrev rIsN : R2 := fun x y H Q => y = .non ∧ Q (.bl (decide (x = .non))) H
section
variable {z1 z2 : Bool} {i j : Int} {s t : Str} {d1 d2 : PyData}
theorem cp_I0 {f : Int → Int → Bool} : CP K g env (rI0 fun i j => .bl (f i j)) (.int i) z1 (.int j) z2 (f i j) := fun σ F H v1 v2 st r1 r2 Q q => ⟨i, j, rd_int r1, rd_int r2, q⟩
theorem cp_lt : CP K g env (rLtA K) (.int i) z1 (.int j) z2 (decide (i < j)) := cp_l cp_I0
theorem cp_le : CP K g env (rI0 fun i j => .bl (decide (i ≤ j))) (.int i) z1 (.int j) z2 (decide (i ≤ j)) := cp_I0
theorem cp_gt : CP K g env (rI0 fun i j => .bl (decide (j < i))) (.int i) z1 (.int j) z2 (decide (j < i)) := cp_I0 (f := fun i j => decide (j < i))
theorem cp_ge : CP K g env (rI0 fun i j => .bl (decide (j ≤ i))) (.int i) z1 (.int j) z2 (decide (j ≤ i)) := cp_I0 (f := fun i j => decide (j ≤ i))
theorem vint_dec : decide (V.int i = V.int j) = decide (i = j) := by
  by_cases h : i = j
  · subst h; simp
  · rw [decide_eq_false h, decide_eq_false fun z => h (V.int.inj z)]
theorem vstr_dec : decide (V.str s = V.str t) = decide (s = t) := by
  by_cases h : s = t
  · subst h; simp
  · rw [decide_eq_false h, decide_eq_false fun z => h (V.str.inj z)]
theorem vbl_dec {k l : Bool} : decide (V.bl k = V.bl l) = decide (k = l) := by
  by_cases h : k = l
  · subst h; simp
  · rw [decide_eq_false h, decide_eq_false fun z => h (V.bl.inj z)]
theorem cp_eqI : CP K g env (rEqA K) (.int i) z1 (.int j) z2 (decide (i = j)) := cp_l fun σ F H v1 v2 st r1 r2 Q q => by
  rw [rd_int r1, rd_int r2]; exact ⟨rfl, by rw [vint_dec]; exact q⟩
theorem cp_eqS : CP K g env (rEqA K) (.str s) z1 (.str t) z2 (decide (s = t)) := cp_l fun σ F H v1 v2 st r1 r2 Q q => by
  rw [rd_str r1, rd_str r2]; exact ⟨rfl, by rw [vstr_dec]; exact q⟩
theorem cp_eqB {k l : Bool} : CP K g env (rEqA K) (.bool k) z1 (.bool l) z2 (decide (k = l)) := cp_l fun σ F H v1 v2 st r1 r2 Q q => by
  rw [rd_bl r1, rd_bl r2]; exact ⟨rfl, by rw [vbl_dec]; exact q⟩
theorem cp_eqD (h1 : SeqAt.shaped d1 = true) (h2 : SeqAt.shaped d2 = true) : CP K g env (rEqA K) d1 z1 d2 z2 (PyData.eqv d1 d2) := cp_r fun σ F H v1 v2 st r1 r2 Q q => ⟨d1, d2, rd_nowP st.toSk r1 h1, rd_nowP st.toSk r2 h2, h1, h2, q⟩
theorem cp_neI : CP K g env (rNeA K) (.int i) z1 (.int j) z2 (!decide (i = j)) := cp_l fun σ F H v1 v2 st r1 r2 Q q => by
  rw [rd_int r1, rd_int r2]; exact ⟨rfl, by rw [vint_dec]; exact q⟩
theorem cp_neS : CP K g env (rNeA K) (.str s) z1 (.str t) z2 (!decide (s = t)) := cp_l fun σ F H v1 v2 st r1 r2 Q q => by
  rw [rd_str r1, rd_str r2]; exact ⟨rfl, by rw [vstr_dec]; exact q⟩
theorem cp_neB {k l : Bool} : CP K g env (rNeA K) (.bool k) z1 (.bool l) z2 (!decide (k = l)) := cp_l fun σ F H v1 v2 st r1 r2 Q q => by
  rw [rd_bl r1, rd_bl r2]; exact ⟨rfl, by rw [vbl_dec]; exact q⟩
theorem cp_neD (h1 : SeqAt.shaped d1 = true) (h2 : SeqAt.shaped d2 = true) : CP K g env (rNeA K) d1 z1 d2 z2 (!PyData.eqv d1 d2) := cp_r fun σ F H v1 v2 st r1 r2 Q q => ⟨d1, d2, rd_nowP st.toSk r1 h1, rd_nowP st.toSk r2 h2, h1, h2, q⟩
/-- x is None -/
def isNone : PyData → Bool
  | .none => true
  | _ => false
theorem dp_isnone {v : V} {d : PyData} (h : Dq K H v d) : decide (v = .non) = isNone d := by
  cases h <;> first | rfl | exact decide_eq_false (fun z => by cases z)
theorem cp_isN : CP K g env rIsN d1 z1 .none z2 (isNone d1) := fun σ F H v1 v2 st r1 r2 Q q => ⟨rd_non r2, by rw [dp_isnone (rd_now st.toSk r1)]; exact q⟩
/-- flat things in a list or tuple -/
def fl : PyData → Option V
  | .int i => some (.int i)
  | .str s => some (.str s)
  | .none => some .non
  | _ => none
theorem fl_dp {v x : V} {d : PyData} (h : Dq K H v d) (e : fl d = some x) : v = x := by
  cases h <;> first | exact Option.some.inj e | cases e
theorem fl_flat {x : V} {d : PyData} (e : fl d = some x) : flatV x = true := by
  cases d <;> first | (have e' := Option.some.inj e; subst e'; rfl) | cases e
/-- texts in a tuple, a list of texts -/
theorem eqV_str : eqV (.str s) (.str t) = decide (s = t) := by
  show (s == t) = _
  rw [Bool.beq_eq_decide_eq]
theorem inV_strs : ∀ (ns : List Str) (i : Str), inV (.str i) (ns.map V.str) = decide (i ∈ ns)
  | [], i => rfl
  | n :: ns, i => by
    have ih := inV_strs ns i
    show (eqV (.str n) (.str i) || inV (.str i) (ns.map V.str)) = _
    rw [ih, eqV_str]
    by_cases h : i = n
    · subst h; simp
    · simp [h, Ne.symm h]
theorem dpa_strs_eq : ∀ {ns : List Str} {vs : List V}, DqAll K H vs (ns.map PyData.str) → vs = ns.map V.str
  | [], _, h => by
    have h' : DqAll K H _ [] := h
    cases h'; rfl
  | n :: ns, _, h => by
    have h' : DqAll K H _ (.str n :: ns.map PyData.str) := h
    cases h' with
    | cons h1 h2 => rw [dp_str h1, dpa_strs_eq h2]; rfl
/-- data in a list -/
theorem cp_inD {ds : List PyData} (h1 : SeqAt.shaped d1 = true) (h2 : SeqAt.shaped (.list ds) = true) : CP K g env (rInA K) d1 z1 (.list ds) z2 (ds.any fun z => PyData.eqv z d1) :=
  cp_r (cp_l fun σ F H v1 v2 st r1 r2 Q q => ⟨d1, ds, rd_nowP st.toSk r1 h1, rd_nowP st.toSk r2 h2, h1, h2, q⟩)
theorem cp_inS : CP K g env (rInA K) (.str s) z1 (.str t) z2 (!(Builtin.Str.occurrences t s 0 t.length 1).isEmpty) := cp_r (cp_r (cp_l fun σ F H v1 v2 st r1 r2 Q q => ⟨s, t, rd_str r1, rd_str r2, q⟩))
theorem cp_inTD {ds : List PyData} (h1 : SeqAt.shaped d1 = true) (h2 : SeqAt.shaped (.tuple ds) = true) : CP K g env (rInA K) d1 z1 (.tuple ds) z2 (ds.any fun z => PyData.eqv z d1) :=
  cp_r (cp_r (cp_r fun σ F H v1 v2 st r1 r2 Q q => ⟨d1, ds, rd_nowP st.toSk r1 h1, rd_nowP st.toSk r2 h2, h1, h2, q⟩))
end
section
variable {Φ : Bool → Prop}
theorem WT.mono {Φ' : Bool → Prop} (h : WT X g e env Φ Ψ) (k : ∀ d, Φ d → Φ' d) : WT X g e env Φ' Ψ :=
  fun W tk σ F H st hx Q hQ => h W tk σ F H st hx Q fun d F' H' p => hQ d F' H' (k d p)
theorem wt_e (h : WE X g e env (fun d _ => ∃ k, d = .bool k ∧ Φ k) Ψ) (he : ∀ whole, isTrue e X.env whole = (do let v ← whole; standAt e.pos; holding [v] (truthy v)) := by intro _; rfl) : WT X g e env Φ Ψ := fun W tk σ F H st hx Q hQ => by
  refine semT_of (pt_val (peS e) he) ?_
  refine h W tk σ F H st hx _ fun d z v F' H' ⟨k, hd, hp⟩ s' e' r' => ?_
  subst hd
  exact ⟨k, rd_bl r', hQ k F' H' hp s' e'⟩
theorem wt_not (h : WT X g a env (fun k => Φ (!k)) Ψ) : WT X g (.UnaryOp .Not a pos) env Φ Ψ := fun W tk σ F H st hx Q hQ =>
  semT_of (pt_not (ptS a)) (h W tk σ F H st hx _ fun k F' H' hp s' e' => hQ _ F' H' hp s' e')
theorem we_not {Φ : PyData → Bool → Prop} (h : WE X g a env (fun d _ => ∃ k, d = .bool k ∧ Φ (.bool !k) true) Ψ) : WE X g (.UnaryOp .Not a pos) env Φ Ψ := fun W tk σ F H st hx Q hQ =>
  semE_of (pe_not (peS a)) (h W tk σ F H st hx _ fun d z v F' H' ⟨k, hd, hp⟩ s' e' r' => by
    subst hd
    exact ⟨k, rd_bl r', hQ _ true _ F' H' hp s' e' (.bl _)⟩)
/-- semantic reading of an and/or whatever its whole is -/
structure SemW (X : Cx) (e : Expr) (σ : SS) (H : Hp) (Q : Bool → Hp → Prop) : Prop where
  run : ∀ (whole : Sem Value) (pins : List (Addr × Obj)) (s : Shared), Inv X pins σ H s → wpAny (model X.prog X.w) X.A (isTrue e X.env whole) (TP X pins σ Q) X.xe s
def semW (X : Cx) (e : Expr) : TT := fun σ H Q => SemW X e σ H Q
theorem pwW (e : Expr) : PW X e (semW X e) := ⟨fun whole pins s σ H Q I q => q.run whole pins s I⟩
theorem semW_of {e : Expr} {t : TT} (h : PW X e t) {σ : SS} {H : Hp} {Q : Bool → Hp → Prop} (q : t σ H Q) : semW X e σ H Q := ⟨fun whole pins s I => h.run whole pins s σ H Q I q⟩
/-- a test, whatever its whole is -/
def WW (X : Cx) (g : G) (e : Expr) (env : List Sl) (Φ : Bool → Prop) (Ψ : Exc → Prop) : Prop :=
  ∀ (W : WX), Takes X W → ∀ (σ : SS) (F H : Hp), St X.K g F H σ env → HX X g env Ψ W σ →
    ∀ Q : Bool → Hp → Prop, (∀ b F' H', Φ b → St X.K g F' H' σ env → Ex F F' → Q b H') → semW X e σ H Q
theorem wt_ww (h : WW X g e env Φ Ψ) : WT X g e env Φ Ψ := fun W tk σ F H st hx Q hQ => semT_of (pwW e).pt (h W tk σ F H st hx Q hQ)
theorem ww_and {rest : List Expr} (h : WT X g a env (fun k => (k = true → WW X g (.BoolOp .And (b :: rest) pos) env Φ Ψ) ∧ (k = false → Φ false)) Ψ) : WW X g (.BoolOp .And (a :: b :: rest) pos) env Φ Ψ := fun W tk σ F H st hx Q hQ => by
  refine semW_of (pw_and (ptS a) (pwW _)) ?_
  refine h W tk σ F H st hx _ fun k F' H' ⟨ht, hf⟩ s' e' => ?_
  cases k with
  | true => rw [if_pos rfl]; exact ht rfl W tk σ F' H' s' hx Q fun k F2 H2 hp s2 e2 => hQ k F2 H2 hp s2 (e'.trans e2)
  | false => rw [if_neg Bool.false_ne_true]; exact hQ false F' H' (hf rfl) s' e'
theorem ww_or {rest : List Expr} (h : WT X g a env (fun k => (k = true → Φ true) ∧ (k = false → WW X g (.BoolOp .Or (b :: rest) pos) env Φ Ψ)) Ψ) : WW X g (.BoolOp .Or (a :: b :: rest) pos) env Φ Ψ := fun W tk σ F H st hx Q hQ => by
  refine semW_of (pw_or (ptS a) (pwW _)) ?_
  refine h W tk σ F H st hx _ fun k F' H' ⟨ht, hf⟩ s' e' => ?_
  cases k with
  | true => rw [if_pos rfl]; exact hQ true F' H' (ht rfl) s' e'
  | false => rw [if_neg Bool.false_ne_true]; exact hf rfl W tk σ F' H' s' hx Q fun k F2 H2 hp s2 e2 => hQ k F2 H2 hp s2 (e'.trans e2)
theorem ww_and1 (h : WT X g a env Φ Ψ) : WW X g (.BoolOp .And [a] pos) env Φ Ψ := fun W tk σ F H st hx Q hQ => semW_of (pw_and1 (ptS a)) (h W tk σ F H st hx Q hQ)
theorem ww_or1 (h : WT X g a env Φ Ψ) : WW X g (.BoolOp .Or [a] pos) env Φ Ψ := fun W tk σ F H st hx Q hQ => semW_of (pw_or1 (ptS a)) (h W tk σ F H st hx Q hQ)
end
section
variable {Φ : PyData → Bool → Prop}
/-- as values (truths) -/
theorem we_one {op : BoolOp} (h : WE X g a env Φ Ψ) : WE X g (.BoolOp op [a] pos) env Φ Ψ := fun W tk σ F H st hx Q hQ => semE_of (pe_one (peS a)) (h W tk σ F H st hx Q hQ)
theorem we_and {rest : List Expr} (h : WE X g a env (fun d _ => ∃ k, d = .bool k ∧ (k = true → WE X g (.BoolOp .And (b :: rest) pos) env Φ Ψ) ∧ (k = false → Φ (.bool false) true)) Ψ) : WE X g (.BoolOp .And (a :: b :: rest) pos) env Φ Ψ := fun W tk σ F H st hx Q hQ => by
  refine semE_of (pe_and (peS a) (peS _)) ?_
  refine h W tk σ F H st hx _ fun d z v F' H' ⟨k, hd, ht, hf⟩ s' e' r' => ?_
  subst hd
  refine ⟨k, rd_bl r', ?_⟩
  cases k with
  | true => rw [if_pos rfl]; exact ht rfl W tk σ F' H' s' hx Q fun d z v F2 H2 hp s2 e2 => hQ d z v F2 H2 hp s2 (e'.trans e2)
  | false => rw [if_neg Bool.false_ne_true]; exact hQ _ true _ F' H' (hf rfl) s' e' (.bl false)
theorem we_if (h : WT X g c env (fun k => (k = true → WE X g a env Φ Ψ) ∧ (k = false → WE X g b env Φ Ψ)) Ψ) : WE X g (.IfExp c a b pos) env Φ Ψ := fun W tk σ F H st hx Q hQ => by
  refine semE_of (pe_ifExp (ptS c) (peS a) (peS b)) ?_
  refine h W tk σ F H st hx _ fun k F' H' ⟨ht, hf⟩ s' e' => ?_
  cases k with
  | true => rw [if_pos rfl]; exact ht rfl W tk σ F' H' s' hx Q fun d z v F2 H2 hp s2 e2 => hQ d z v F2 H2 hp s2 (e'.trans e2)
  | false => rw [if_neg Bool.false_ne_true]; exact hf rfl W tk σ F' H' s' hx Q fun d z v F2 H2 hp s2 e2 => hQ d z v F2 H2 hp s2 (e'.trans e2)
end
inductive IxP (Φ : PyData → Bool → Prop) : PyData → Bool → PyData → Bool → Prop
  | lst {xs : List PyData} {i : Int} {x : PyData} {z1 z2 : Bool} : Φ x true → atI xs i = some x → IxP Φ (.list xs) z1 (.int i) z2
  | tup {xs : List PyData} {i : Int} {x : PyData} {z1 z2 : Bool} : Φ x true → atI xs i = some x → IxP Φ (.tuple xs) z1 (.int i) z2
  | str {s : Str} {i : Int} {c : Nat} {z1 z2 : Bool} : Φ (.str ⟨#[c]⟩) true → s.length ≤ sizeLine → atI s.cps.toList i = some c → IxP Φ (.str s) z1 (.int i) z2
theorem dpa_at {ds : List PyData} {vs : List V} {i : Int} {d : PyData} (h : DqAll K H vs ds) (e : atI ds i = some d) : ∃ v, atI vs i = some v ∧ Dq K H v d := by
  unfold atI at e ⊢
  rw [dpa_len h]
  cases q : ixN ds.length i with
  | none => rw [q] at e; cases e
  | some j =>
    rw [q] at e
    obtain ⟨v, h1, h2⟩ := dpa_get h (show ds[j]? = some d from e)
    exact ⟨v, h1, h2⟩
theorem dop_ix {Φ : PyData → Bool → Prop} {d1 d2 : PyData} {z1 z2 : Bool} (h : IxP Φ d1 z1 d2 z2) : DOp K g env (rIx K) d1 z1 d2 z2 Φ := by
  cases h with
  | lst hp ha =>
    refine dop_l fun σ F H v1 v2 st r1 r2 Q hQ => ?_
    obtain ⟨a1, vs1, rfl, s1, p1⟩ := rd_lst st.toSk r1
    obtain ⟨v, e1, e2⟩ := dpa_at p1 ha
    exact ⟨a1, vs1, _, v, rfl, rd_int r2, s1, e1, hQ _ true _ F H hp st (Ex.refl F) e2⟩
  | tup hp ha =>
    refine dop_r (dop_l fun σ F H v1 v2 st r1 r2 Q hQ => ?_)
    obtain ⟨a1, vs1, rfl, s1, p1⟩ := rd_tup st.toSk r1
    obtain ⟨v, e1, e2⟩ := dpa_at p1 ha
    exact ⟨a1, vs1, _, v, rfl, rd_int r2, s1, e1, hQ _ true _ F H hp st (Ex.refl F) e2⟩
  | str hp hl ha => exact dop_r (dop_r fun σ F H v1 v2 st r1 r2 Q hQ => ⟨_, _, _, rd_str r1, rd_int r2, hl, ha, hQ _ true _ F H hp st (Ex.refl F) (.str _)⟩)
theorem we_ix {Φ : PyData → Bool → Prop} (h : WE X g a env (fun d1 z1 => WE X g b env (fun d2 z2 => IxP Φ d1 z1 d2 z2) Ψ) Ψ) (hs : PlainIx b := by exact fun _ _ => rfl) : WE X g (.Subscript a b pos) env Φ Ψ :=
  we_op (pe_ix ix_seq (peS a) (peS b) hs) (fun _ _ _ _ => dop_ix) h
end
end TL
namespace TL
open PySem PySem.Spec PyProof.Rows L2
inductive PR where
  | rd (d : PyData)
  | nl (ds : List PyData)
  | ar (i : Nat)
  | nt (kvs : List (List Key × PyData))
  | nk (kvs : List (Key × PyData))
  | sl (C : Sl → Prop)
abbrev CT := List Sl → (PR → List Sl → Prop) → (Exc → List Sl → Prop) → Prop
def Step (F H : Hp) (args : List Sl) (F' H' : Hp) : Prop :=
  Ex F F' ∧ (∀ a o, H a = some o → ¬ Own args a → ntb o → H' a = some o) ∧ (∀ a, F' a ≠ none → F a ≠ none ∨ H a = none) ∧ ∀ a, H a ≠ none → H' a ≠ none
def PrOk (K : Frag) (vs : List V) (H F' H' : Hp) (args' : List Sl) (v : V) : PR → Prop
  | .rd d => Dq K F' v d
  | .nl ds => ∃ p xs, v = .ref p ∧ H' p = some (.lst xs) ∧ DqAll K F' xs ds ∧ F' p = none ∧ H p = none ∧ ¬ Own args' p
  | .ar i => vs[i]? = some v
  | .nt kvs => ∃ p xs, v = .ref p ∧ H' p = some (.dT xs) ∧ KVp K F' xs kvs ∧ F' p = none ∧ H p = none ∧ ¬ Own args' p
  | .nk kvs => ∃ p xs, v = .ref p ∧ H' p = some (.dK xs) ∧ KVp K F' xs kvs ∧ F' p = none ∧ H p = none ∧ ¬ Own args' p
  | .sl C => ∃ s, C s ∧ SlOk K F' H' (some v) s ∧ ∀ p ∈ s.fp, F' p = none ∧ H p = none ∧ ¬ Own args' p
def ExcE (K : Frag) (E : XK) (H : Hp) : Exc → Prop
  | .own n => E (.ref (He.ga K n)) none H
  | .ownF n fs => ∀ d xs, H d = some (.xd xs) → XfOk fs xs → E (.ref (He.ga K n)) (some d) H
def spOf (K : Frag) (n : Nat) (S : CT) : Sp := fun vs H Q E => vs.length = n ∧ ∃ F args Φ Ψ, S args Φ Ψ ∧ Sk K F H (vs.map some) args ∧
  (∀ r v args' F' H', Φ r args' → Sk K F' H' (vs.map some) args' → Step F H args F' H' → (∀ a, Own args' a → Own args a ∨ H a = none) → PrOk K vs H F' H' args' v r → Q v H') ∧
  (∀ c args' F' H', Ψ c args' → Sk K F' H' (vs.map some) args' → Step F H args F' H' → (∀ a, Own args' a → Own args a ∨ H a = none) → ExcE K E H' c)
structure Has (P : Program) (w : World) (K : Frag) (mg : Str → Option Value) (base : Heap) (k : Nat) (x : Str) (ps : List Str) (S : CT) : Prop where
  ex : ∃ f fd, mg x = some (.ref f) ∧ PySem.W.keepIn K (.ref f) = true ∧ Binds K fd ps [] ∧ FnOk P w K mg base (L2.CX P w) k f fd ps (spOf K ps.length S)
structure SemA (X : Cx) (es : List Expr) (σ : SS) (H : Hp) (Q : List V → Hp → Prop) : Prop where
  run : ∀ (pos : Pos) (pins : List (Addr × Obj)) (s : Shared), Inv X pins σ H s → wpAny (model X.prog X.w) X.A (spliced (backTo pos (starEach es X.env))) (AP X pins σ Q) X.xe s
def semA (X : Cx) (es : List Expr) : TA := fun σ H Q => SemA X es σ H Q
theorem paS {X : Cx} (es : List Expr) : PA X es (semA X es) := ⟨fun pos pins s σ H Q I h => h.run pos pins s I⟩
theorem semA_of {X : Cx} {es : List Expr} {t : TA} (h : PA X es t) {σ : SS} {H : Hp} {Q : List V → Hp → Prop} (q : t σ H Q) : semA X es σ H Q := ⟨fun pos pins s I => h.run pos pins s σ H Q I q⟩
def WAs (X : Cx) (g : G) (es : List Expr) (env : List Sl) (Φ : List Ar → Prop) (Ψ : Exc → Prop) : Prop :=
  ∀ (W : WX), Takes X W → ∀ (σ : SS) (F H : Hp), St X.K g F H σ env → HX X g env Ψ W σ →
    ∀ Q : List V → Hp → Prop, (∀ as vs F' H', Φ as → St X.K g F' H' σ env → Ex F F' → ArAll X.K F' σ vs as → Q vs H') → semA X es σ H Q
section
variable {X : Cx} {g : G} {env : List Sl} {Ψ : Exc → Prop} {pos p : Pos} {a b c e : Expr} {es : List Expr} {K : Frag} {F F' H H' : Hp} {σ : SS}
section
variable {Φ : List Ar → Prop}
theorem wa_nil (h : Φ []) : WAs X g [] env Φ Ψ := fun W tk σ F H st hx Q hQ => semA_of pa_nil (hQ [] [] F H h st (Ex.refl F) trivial)
/-- an argument that is data -/
theorem wa_d (he : WE X g e env (fun d z => z = true ∧ WAs X g es env (fun as => Φ (.d d :: as)) Ψ) Ψ) (hs : starEach (e :: es) X.env = (false, eval e X.env) :: starEach es X.env := by rfl) : WAs X g (e :: es) env Φ Ψ := fun W tk σ F H st hx Q hQ => by
  refine semA_of (pa_cons (peS e) (paS es) hs) ?_
  refine he W tk σ F H st hx _ fun d z v F1 H1 ⟨hz, hp⟩ s1 e1 r1 => ?_
  subst hz
  exact hp W tk σ F1 H1 s1 hx _ fun as vs F2 H2 hp2 s2 e2 r2 => hQ (.d d :: as) (v :: vs) F2 H2 hp2 s2 (e1.trans e2) ⟨dp_mono e2 _ _ r1, r2⟩
/-- an object that a slot holds -/
theorem wa_s (i : Nat) {x : Str} {s : Sl} (h : WAs X g es env (fun as => Φ (.s i :: as)) Ψ) (he : env[i]? = some s := by rfl) (hne : s.fp ≠ [] := by (intro h; cases h)) (hN : X.N[i]? = some x := by rfl)
    (hv : Vis X.env.scope x := by first | exact Or.inl rfl | exact Or.inr (Or.inl rfl) | exact Or.inr (Or.inr rfl)) (hd : (x == ("__debug__" : Str)) = false := by decide)
    (hcd : (x == ("__classdict__" : Str)) = false := by decide) (hs : starEach ((.Name x pos) :: es) X.env = (false, eval (.Name x pos) X.env) :: starEach es X.env := by rfl) : WAs X g (.Name x pos :: es) env Φ Ψ := fun W tk σ F H st hx Q hQ => by
  refine semA_of (pa_cons (pe_var hN hv hd hcd) (paS es) hs) ?_
  have q := st.sl i s he
  obtain ⟨v, hv⟩ : ∃ v, σ[i]?.getD none = some v := by
    cases s with
    | un => exact absurd rfl hne
    | d x => exact absurd rfl hne
    | v x => exact ⟨_, q⟩
    | ol a ds => exact ⟨_, q.1⟩
    | bg a => exact ⟨_, q.1⟩
    | dt a ds => exact ⟨_, q.1⟩
    | dk a ds => exact ⟨_, q.1⟩
    | fv l => exact absurd rfl hne
    | fl l => exact absurd rfl hne
    | oo a ds => exact ⟨_, q.1⟩
    | ow t => exact ⟨q.choose, q.choose_spec.1⟩
  exact ⟨v, getD_some hv, h W tk σ F H st hx _ fun as vs F2 H2 hp2 s2 e2 r2 => hQ (.s i :: as) (v :: vs) F2 H2 hp2 s2 e2 ⟨getD_some hv, r2⟩⟩
end
def datas : List Ar → Option (List PyData)
  | [] => some []
  | .d x :: r => (datas r).map (x :: ·)
  | .s _ :: _ => none
theorem dpa_datas : ∀ {as : List Ar} {ds : List PyData} {vs : List V}, datas as = some ds → ArAll K F σ vs as → DqAll K F vs ds
  | [], _, [], h, _ => by cases h; exact .nil
  | .d x :: r, _, _ :: _, h, ⟨h1, h2⟩ => by
    obtain ⟨ds, e1, e2⟩ := Option.map_eq_some_iff.mp (show (datas r).map (x :: ·) = some _ from h)
    subst e2
    exact .cons h1 (dpa_datas e1 h2)
  | .s _ :: _, _, _, h, _ => by cases h
theorem wn_list {Φ : List PyData → Prop} (h : WAs X g es env (fun as => ∃ ds, datas as = some ds ∧ ds.length ≤ sizeLine ∧ Φ ds) Ψ) : WN X g (.List es pos) env Φ Ψ := fun W tk σ F H st hx Q hQ => by
  refine semE_of (pe_lst (paS es)) ?_
  refine h W tk σ F H st hx _ fun as vs F1 H1 ⟨ds, e1, hl, hp⟩ s1 ex1 r1 => ?_
  have hd := dpa_datas e1 r1
  refine ⟨by rw [dpa_len hd]; exact hl, fun p hn => ?_⟩
  exact put_new s1 hn hd hp fun ds v F' H' hp s e r => hQ ds v F' H' hp s (ex1.trans e) r
theorem we_list {Φ : PyData → Bool → Prop} (h : WAs X g es env (fun as => ∃ ds, datas as = some ds ∧ ds.length ≤ sizeLine ∧ Φ (.list ds) true) Ψ) : WE X g (.List es pos) env Φ Ψ := we_of_wn (wn_list h)
theorem we_tuple {x1 : Nat} {Φ : PyData → Bool → Prop} (h : WAs X g es env (fun as => ∃ ds, datas as = some ds ∧ ds.length ≤ sizeLine ∧ Φ (.tuple ds) true) Ψ) : WE X g (.Tuple es x1 pos) env Φ Ψ := fun W tk σ F H st hx Q hQ => by
  refine semE_of (pe_tup (paS es)) ?_
  refine h W tk σ F H st hx _ fun as vs F1 H1 ⟨ds, e1, hl, hp⟩ s1 ex1 r1 => ?_
  have hd := dpa_datas e1 r1
  refine ⟨by rw [dpa_len hd]; exact hl, fun p hn => ?_⟩
  exact put_tup s1 hn hd hp fun d z v F' H' hp s e r => hQ d z v F' H' hp s (ex1.trans e) r
def slOf (env : List Sl) : Ar → Sl
  | .d x => .d x
  | .s i => env[i]?.getD .un
def arIx : List Ar → List Nat
  | [] => []
  | .s i :: r => i :: arIx r
  | .d _ :: r => arIx r
theorem arall_len : ∀ {vs : List V} {as : List Ar}, ArAll K F σ vs as → vs.length = as.length
  | [], [], _ => rfl
  | _ :: _, _ :: _, ⟨_, h⟩ => congrArg Nat.succ (arall_len h)
  | [], _ :: _, h => h.elim
  | _ :: _, [], h => h.elim
theorem arall_get : ∀ {vs : List V} {as : List Ar} {j : Nat} {a : Ar}, ArAll K F σ vs as → as[j]? = some a → ∃ v, vs[j]? = some v ∧ ArOk K F σ v a
  | [], [], j, a, _, h => by simp at h
  | v :: vs, x :: as, 0, a, ⟨h1, _⟩, h => by
    have e := Option.some.inj h
    subst e
    exact ⟨v, rfl, h1⟩
  | v :: vs, x :: as, j + 1, a, ⟨_, h2⟩, h => arall_get (j := j) h2 h
  | [], _ :: _, _, _, h, _ => h.elim
  | _ :: _, [], _, _, h, _ => h.elim
theorem arix_mem : ∀ {as : List Ar} {j i : Nat}, as[j]? = some (.s i) → i ∈ arIx as
  | .s k :: r, 0, i, h => by
    have e := Option.some.inj h
    injection e with e
    subst e
    exact List.mem_cons_self ..
  | .d x :: r, 0, i, h => by have e := Option.some.inj h; cases e
  | .s k :: r, j + 1, i, h => List.mem_cons_of_mem _ (arix_mem (as := r) (j := j) h)
  | .d x :: r, j + 1, i, h => arix_mem (as := r) (j := j) h
  | [], _, _, h => by simp at h
/-- the same slot is not handed on twice -/
theorem arix_inj : ∀ {as : List Ar} {j k i : Nat}, (arIx as).Nodup → as[j]? = some (.s i) → as[k]? = some (.s i) → j = k
  | [], _, _, _, _, h, _ => by simp at h
  | _ :: _, 0, 0, _, _, _, _ => rfl
  | .s l :: r, 0, k + 1, i, nd, h1, h2 => by
    have e := Option.some.inj h1
    injection e with e
    subst e
    exact absurd (arix_mem (as := r) (j := k) h2) (List.nodup_cons.mp nd).1
  | .s l :: r, j + 1, 0, i, nd, h1, h2 => by
    have e := Option.some.inj h2
    injection e with e
    subst e
    exact absurd (arix_mem (as := r) (j := j) h1) (List.nodup_cons.mp nd).1
  | .d l :: r, 0, k + 1, i, nd, h1, h2 => by have e := Option.some.inj h1; cases e
  | .d l :: r, j + 1, 0, i, nd, h1, h2 => by have e := Option.some.inj h2; cases e
  | .s l :: r, j + 1, k + 1, i, nd, h1, h2 => congrArg Nat.succ (arix_inj (as := r) (List.nodup_cons.mp nd).2 h1 h2)
  | .d l :: r, j + 1, k + 1, i, nd, h1, h2 => congrArg Nat.succ (arix_inj (as := r) nd h1 h2)
theorem map_get {α β : Type} {f : α → β} {l : List α} {j : Nat} {y : β} (h : (l.map f)[j]? = some y) : ∃ x, l[j]? = some x ∧ f x = y := by
  rw [List.getElem?_map] at h
  exact Option.map_eq_some_iff.mp h
theorem vmap_get {vs : List V} {j : Nat} {v : V} (h : vs[j]? = some v) : ((vs.map some)[j]?.getD none : Option V) = some v := by
  rw [List.getElem?_map, h]; rfl
/-- what the callee is handed -/
theorem Sk.callee {as : List Ar} {vs : List V} (st : Sk K F H σ env) (ha : ArAll K F σ vs as) (nd : (arIx as).Nodup) (hs : ∀ i ∈ arIx as, i < env.length) : Sk K F H (vs.map some) (as.map (slOf env)) where
  len := by rw [List.length_map, List.length_map]; exact arall_len ha
  sl := fun j s e => by
    obtain ⟨a, ea, es⟩ := map_get e
    obtain ⟨v, ev, hv⟩ := arall_get ha ea
    rw [vmap_get ev]
    cases a with
    | d x => rw [← es]; exact ⟨v, rfl, hv⟩
    | s i =>
      have hi := hs i (arix_mem ea)
      have q := st.sl i _ (List.getElem?_eq_getElem hi)
      have hv' : σ[i]? = some (some v) := hv
      rw [hv'] at q
      have e2 : s = env[i] := by rw [← es]; show env[i]?.getD .un = _; rw [List.getElem?_eq_getElem hi]; rfl
      rw [e2]; exact q
  nd := fun j k s t a ej ek h1 h2 => by
    obtain ⟨x, ex, rfl⟩ := map_get ej
    obtain ⟨y, ey, rfl⟩ := map_get ek
    cases x with
    | d z => cases h1
    | s i =>
      cases y with
      | d z => cases h2
      | s l =>
        have hi := hs i (arix_mem ex)
        have hl := hs l (arix_mem ey)
        have e1 : slOf env (.s i) = env[i] := by show env[i]?.getD .un = _; rw [List.getElem?_eq_getElem hi]; rfl
        have e2 : slOf env (.s l) = env[l] := by show env[l]?.getD .un = _; rw [List.getElem?_eq_getElem hl]; rfl
        rw [e1] at h1
        rw [e2] at h2
        have e := st.nd i l _ _ a (List.getElem?_eq_getElem hi) (List.getElem?_eq_getElem hl) h1 h2
        subst e
        exact arix_inj nd ex ey
  fr := fun a ⟨j, s, e, h1⟩ => by
    obtain ⟨x, ex, rfl⟩ := map_get e
    cases x with
    | d z => cases h1
    | s i =>
      have hi := hs i (arix_mem ex)
      have e1 : slOf env (.s i) = env[i] := by show env[i]?.getD .un = _; rw [List.getElem?_eq_getElem hi]; rfl
      exact st.fr a ⟨i, env[i], List.getElem?_eq_getElem hi, by rw [← e1]; exact h1⟩
  ex := st.ex
  tf := st.tf
  tk := st.tk
theorem own_args {as : List Ar} {a : Addr} (h : Own (as.map (slOf env)) a) : ∃ (j i : Nat) (s : Sl), as[j]? = some (.s i) ∧ env[i]? = some s ∧ a ∈ s.fp := by
  obtain ⟨j, s, e, h1⟩ := h
  obtain ⟨x, ex, rfl⟩ := map_get e
  cases x with
  | d z => cases h1
  | s i =>
    cases q : env[i]? with
    | none => have e1 : slOf env (.s i) = .un := by show env[i]?.getD .un = _; rw [q]; rfl
              rw [e1] at h1; cases h1
    | some s => have e1 : slOf env (.s i) = s := by show env[i]?.getD .un = _; rw [q]; rfl
                rw [e1] at h1; exact ⟨j, i, s, ex, q, h1⟩
/-- behind a call: the slots that were handed on are as the callee left them -/
theorem St.called {as : List Ar} {vs : List V} {args' env' : List Sl} (st : St K g F H σ env) (ha : ArAll K F σ vs as) (sk : Sk K F' H' (vs.map some) args') (hst : Step F H (as.map (slOf env)) F' H')
    (hl : env'.length = env.length) (hk : ∀ (i : Nat) (s : Sl), i ∉ arIx as → env'[i]? = some s → env[i]? = some s) (hp : ∀ (j i : Nat) (s : Sl), as[j]? = some (Ar.s i) → env'[i]? = some s → args'[j]? = some s)
    (hsub : ∀ (i : Nat) (s s' : Sl), env[i]? = some s → env'[i]? = some s' → ∀ a ∈ s'.fp, a ∈ s.fp ∨ H a = none) : St K g F' H' σ env' := by
  obtain ⟨e1, e2, e3, e4⟩ := hst
  have sub : ∀ a, Own env' a → Own env a ∨ H a = none := fun a ⟨i, s', h1, h2⟩ => by
    have hi : i < env.length := by rw [← hl]; exact (List.getElem?_eq_some_iff.mp h1).1
    rcases hsub i _ s' (List.getElem?_eq_getElem hi) h1 a h2 with q | q
    · exact .inl ⟨i, env[i], List.getElem?_eq_getElem hi, q⟩
    · exact .inr q
  have ownA : ∀ a, Own (as.map (slOf env)) a → Own env a := fun a h => by
    obtain ⟨j, i, s, _, h2, h3⟩ := own_args h
    exact ⟨i, s, h2, h3⟩
  have ixs : ∀ (i : Nat), i ∈ arIx as → ∃ j : Nat, as[j]? = some (Ar.s i) := fun i h => by
    clear hp hk ownA e2 ha
    induction as with
    | nil => cases h
    | cons x r ih =>
      cases x with
      | d z => obtain ⟨j, hj⟩ := ih h; exact ⟨j + 1, hj⟩
      | s l =>
        rcases List.mem_cons.mp (show i ∈ l :: arIx r from h) with e | h
        · subst e; exact ⟨0, rfl⟩
        · obtain ⟨j, hj⟩ := ih h; exact ⟨j + 1, hj⟩
  refine { len := by rw [hl]; exact st.len, sl := fun i s e => ?_, nd := fun i j s t a ei ej h1 h2 => ?_, fr := fun a h => ?_, ex := sk.ex, tf := sk.tf, tk := sk.tk, gt := st.gt.grow (fun a z => by
      cases q : H a with
      | none => rfl
      | some u => exact absurd z (e4 a (by rw [q]; intro y; cases y))), g1 := fun a o h m n => ?_, g2 := fun a h => (sub a h).elim (st.g2 a) fun z => .inl (st.h0 z), g3 := st.g3.trans e1, g4 := fun a h => ?_, g5 := fun a m z => ?_, g6 := st.g6 }
  · by_cases hi : i ∈ arIx as
    · obtain ⟨j, hj⟩ := ixs i hi
      have q := sk.sl j s (hp j i s hj e)
      obtain ⟨v, ev, hv⟩ := arall_get ha hj
      rw [vmap_get ev] at q
      have hv' : σ[i]? = some (some v) := hv
      rw [hv']; exact q
    · have e' := hk i s hi e
      refine slok_mono e1 (fun a h u q => e2 a u q (fun z => ?_) fun ps y => slok_ntb (st.sl i s e') h ps (by rw [q, y])) (st.sl i s e')
      obtain ⟨j, l, t, h3, h4, h5⟩ := own_args z
      have el := st.nd i l s t a e' h4 h h5
      subst el
      exact hi (arix_mem h3)
  · have hi : i < env.length := by rw [← hl]; exact (List.getElem?_eq_some_iff.mp ei).1
    have hj : j < env.length := by rw [← hl]; exact (List.getElem?_eq_some_iff.mp ej).1
    by_cases mi : i ∈ arIx as
    · by_cases mj : j ∈ arIx as
      · obtain ⟨p, hp1⟩ := ixs i mi
        obtain ⟨q, hq1⟩ := ixs j mj
        have e := sk.nd p q s t a (hp p i s hp1 ei) (hp q j t hq1 ej) h1 h2
        subst e
        rw [hp1] at hq1
        injection hq1 with z
        injection z
      · have ej' := hk j t mj ej
        rcases hsub i _ s (List.getElem?_eq_getElem hi) ei a h1 with z | z
        · exact st.nd i j _ t a (List.getElem?_eq_getElem hi) ej' z h2
        · exact absurd z (st.there ⟨j, t, ej', h2⟩)
    · have ei' := hk i s mi ei
      rcases hsub j _ t (List.getElem?_eq_getElem hj) ej a h2 with z | z
      · exact st.nd i j s _ a ei' (List.getElem?_eq_getElem hj) h1 z
      · exact absurd z (st.there ⟨i, s, ei', h1⟩)
  · obtain ⟨i, s, h1, h2⟩ := h
    by_cases mi : i ∈ arIx as
    · obtain ⟨p, hp1⟩ := ixs i mi
      exact sk.fr a ⟨p, s, hp p i s hp1 h1, h2⟩
    · have ho : Own env a := ⟨i, s, hk i s mi h1, h2⟩
      cases q : F' a with
      | none => rfl
      | some u =>
        rcases e3 a (by rw [q]; intro z; cases z) with z | z
        · exact absurd (st.fr a ho) z
        · exact absurd z (st.there ho)
  · refine e2 a o (st.g1 a o h m n) (fun z => ?_) n
    rcases st.g2 a (ownA a z) with q | q
    · rw [q] at h; cases h
    · exact m q
  · rcases e3 a h with z | z
    · exact st.g4 a z
    · exact .inr (st.h0 z)
  · exact e4 a (st.g5 a m) z
end
end TL
namespace TL
open PySem PySem.Spec PyProof.Rows L2
section
variable {X : Cx} {g : G} {env : List Sl} {Ψ : Exc → Prop} {pos p : Pos} {a b c e : Expr} {es : List Expr} {K : Frag} {F F' H H' : Hp} {σ : SS}
def PRd : PR → PyData → Prop
  | .rd d, d' => d' = d
  | .nl ds, d' => d' = .list ds
  | .ar _, _ => False
  | .nt _, _ => False
  | .nk _, _ => False
  | .sl _, _ => False
def natNd : List Nat → Bool
  | [] => true
  | x :: r => (r.all fun y => !Nat.beq x y) && natNd r
def callOk (as : List Ar) (m n : Nat) : Bool := Nat.beq as.length m && natNd (arIx as) && (arIx as).all fun i => Nat.blt i n
theorem natNd_ok : ∀ {l : List Nat}, natNd l = true → l.Nodup
  | [], _ => List.nodup_nil
  | x :: r, h => by
    have h' : (r.all fun y => !Nat.beq x y) = true ∧ natNd r = true := Bool.and_eq_true_iff.mp h
    refine List.nodup_cons.mpr ⟨fun hm => ?_, natNd_ok h'.2⟩
    have q := List.all_eq_true.mp h'.1 x hm
    rw [Nat.beq_refl] at q
    cases q
theorem callOk_ok {as : List Ar} {m n : Nat} (h : callOk as m n = true) : as.length = m ∧ (arIx as).Nodup ∧ ∀ i ∈ arIx as, i < n := by
  have h1 : (Nat.beq as.length m && natNd (arIx as)) = true ∧ ((arIx as).all fun i => Nat.blt i n) = true := Bool.and_eq_true_iff.mp h
  have h2 := Bool.and_eq_true_iff.mp h1.1
  refine ⟨Nat.eq_of_beq_eq_true h2.1, natNd_ok h2.2, fun i hi => ?_⟩
  have q := List.all_eq_true.mp h1.2 i hi
  exact Nat.le_of_ble_eq_true q
theorem st_same {as : List Ar} {vs : List V} {args' : List Sl} (st : St K g F H σ env) (ha : ArAll K F σ vs as) (sk : Sk K F' H' (vs.map some) args') (hst : Step F H (as.map (slOf env)) F' H') (e : args' = as.map (slOf env)) : St K g F' H' σ env := by
  subst e
  refine st.called ha sk hst rfl (fun _ _ _ h => h) (fun j i s h1 h2 => ?_) (fun i s s' h1 h2 a h3 => ?_)
  · rw [List.getElem?_map, h1]
    show some (env[i]?.getD .un) = some s
    rw [h2]; rfl
  · rw [h1] at h2; cases h2; exact .inl h3
/-- a def is called; what it was handed stays as it is described -/
theorem call_run {j k : Nat} {x : Str} {ps : List Str} {S : CT} {Φ : PR → Prop} (hf : Has X.prog X.w X.K X.mg X.base j x ps S) (hr : Room k X.A)
    (h : WAs X g (e :: es) env (fun as => callOk as ps.length env.length = true ∧ S (as.map (slOf env)) (fun r args' => args' = as.map (slOf env) ∧ Φ r) (fun c args' => args' = as.map (slOf env) ∧ Ψ c)) Ψ)
    (hj : j ≤ k) (hg : Gl X x) (hdb : (x == ("__debug__" : Str)) = false)
    (he : starEach (e :: es) X.env = (false, eval e X.env) :: starEach es X.env) (hpl : (backTo pos (starEach es X.env)).any (·.1) = false)
    {W : WX} (tk : Takes X W) (st : St X.K g F H σ env) (hx : HX X g env Ψ W σ) {Q : VK}
    (hQ : ∀ r vs v F1 H1 F' H' args', Φ r → St X.K g F' H' σ env → Ex F F' → St X.K g F1 H1 σ env → PrOk X.K vs H1 F' H' args' v r → Q v H') : semE X (.Call (.Name x p) (e :: es) [] pos) σ H Q := by
  obtain ⟨f, fd, hm, hk, hb, F0⟩ := hf.ex
  refine semE_of (pe_callS F0 (hr.mono hj) hg hm hk hb (fun σ => passAt tk σ) (paS (e :: es)) hdb he hpl) ?_
  refine h W tk σ F H st hx _ fun as vs F1 H1 ⟨hok, hS⟩ s1 e1 ra => ?_
  obtain ⟨h1, h2, h3⟩ := callOk_ok hok
  refine ⟨by rw [arall_len ra, h1], F1, as.map (slOf env), _, _, hS, s1.toSk.callee ra h2 h3, fun r v args' F' H' ⟨ea, hp⟩ sk hst _ pr => ?_, fun c args' F' H' ⟨ea, hp⟩ sk hst _ => ?_⟩
  · exact hQ r vs v F1 H1 F' H' args' hp (st_same s1 ra sk hst ea) (e1.trans hst.1) s1 pr
  · have := hx c F' H' hp (st_same s1 ra sk hst ea)
    cases c <;> exact this
theorem we_call {j k : Nat} {x : Str} {ps : List Str} {S : CT} {Φ : PyData → Bool → Prop} (hf : Has X.prog X.w X.K X.mg X.base j x ps S) (hr : Room k X.A)
    (h : WAs X g (e :: es) env (fun as => callOk as ps.length env.length = true ∧ S (as.map (slOf env)) (fun r args' => args' = as.map (slOf env) ∧ ∃ d, PRd r d ∧ Φ d true) (fun c args' => args' = as.map (slOf env) ∧ Ψ c)) Ψ)
    (hj : j ≤ k := by omega) (hg : Gl X x := by rfl) (hdb : (x == ("__debug__" : Str)) = false := by decide)
    (he : starEach (e :: es) X.env = (false, eval e X.env) :: starEach es X.env := by rfl) (hpl : (backTo pos (starEach es X.env)).any (·.1) = false := by rfl) : WE X g (.Call (.Name x p) (e :: es) [] pos) env Φ Ψ := fun W tk σ F H st hx Q hQ => by
  refine call_run (Φ := fun r => ∃ d, PRd r d ∧ Φ d true) hf hr h hj hg hdb he hpl tk st hx fun r vs v F1 H1 F' H' args' ⟨d, hd, hp⟩ s' e' s1 pr => ?_
  cases r with
  | rd d0 => subst hd; exact hQ _ true v F' H' hp s' e' pr
  | nl ds =>
    subst hd
    obtain ⟨q, xs, rfl, h1, h2, h3, h4, h5⟩ := pr
    have e2 := Ex.new (o := .lst xs) h3
    exact hQ (.list ds) true (.ref q) (upd F' q (.lst xs)) H' hp (s'.freeze h1 h3 (fun z => s1.there z h4) (s1.h0 h4)) (e'.trans e2) (.lst (SqL.of upd_same) (dpa_mono e2 _ _ h2))
  | ar i => exact hd.elim
  | nt _ => exact hd.elim
  | nk _ => exact hd.elim
  | sl _ => exact hd.elim
theorem wn_call {j k : Nat} {x : Str} {ps : List Str} {S : CT} {Φ : List PyData → Prop} (hf : Has X.prog X.w X.K X.mg X.base j x ps S) (hr : Room k X.A)
    (h : WAs X g (e :: es) env (fun as => callOk as ps.length env.length = true ∧ S (as.map (slOf env)) (fun r args' => args' = as.map (slOf env) ∧ ∃ ds, r = .nl ds ∧ Φ ds) (fun c args' => args' = as.map (slOf env) ∧ Ψ c)) Ψ)
    (hj : j ≤ k := by omega) (hg : Gl X x := by rfl) (hdb : (x == ("__debug__" : Str)) = false := by decide)
    (he : starEach (e :: es) X.env = (false, eval e X.env) :: starEach es X.env := by rfl) (hpl : (backTo pos (starEach es X.env)).any (·.1) = false := by rfl) : WN X g (.Call (.Name x p) (e :: es) [] pos) env Φ Ψ := fun W tk σ F H st hx Q hQ => by
  refine call_run (Φ := fun r => ∃ ds, r = .nl ds ∧ Φ ds) hf hr h hj hg hdb he hpl tk st hx fun r vs v F1 H1 F' H' args' ⟨ds, hd, hp⟩ s' e' s1 pr => ?_
  subst hd
  obtain ⟨q, xs, rfl, h1, h2, h3, h4, h5⟩ := pr
  exact hQ ds (.ref q) F' H' hp s' e' ⟨q, xs, rfl, h1, h2, h3, fun z => s1.there z h4, s1.h0 h4⟩
theorem we_b1 {Φ : PyData → Bool → Prop} {R : PyData → Bool → Prop} {x : Str} {id : String} {r : List V → Hp → VK → Prop} (hc : CallR X (.builtin id) r) (hm : X.mg x = none) (hv : bootBuiltins x = some (.builtin id))
    (hr : ∀ d1 z1, R d1 z1 → DUn X.K g env (fun v => r [v]) d1 z1 Φ) (h : WE X g a env R Ψ) (hg : Gl X x := by rfl) (hn : x ≠ "__name__" := by decide) (hdb : (x == ("__debug__" : Str)) = false := by decide)
    (he : starEach [a] X.env = (false, eval a X.env) :: starEach [] X.env := by rfl) (hpl : (backTo pos (starEach ([] : List Expr) X.env)).any (·.1) = false := by rfl) : WE X g (.Call (.Name x p) [a] [] pos) env Φ Ψ := fun W tk σ F H st hx Q hQ => by
  refine semE_of (pe_callB hc hg hm hv (pa_cons (peS a) pa_nil he) hn hdb he hpl) ?_
  refine h W tk σ F H st hx _ fun d1 z1 v1 F1 H1 h1 st1 e1 r1 => ?_
  exact hr _ _ h1 σ F1 H1 v1 st1 r1 Q fun d z v F' H' hp s3 e3 r3 => hQ d z v F' H' hp s3 (e1.trans e3) r3
theorem we_t1 {Φ : PyData → Bool → Prop} {R : PyData → Bool → Prop} {x : Str} {id : String} {r : List V → Hp → VK → Prop} (hc : CallR X (.type id) r) (hm : X.mg x = none) (hv : bootBuiltins x = some (.type id))
    (hr : ∀ d1 z1, R d1 z1 → DUn X.K g env (fun v => r [v]) d1 z1 Φ) (h : WE X g a env R Ψ) (hg : Gl X x := by rfl) (hn : x ≠ "__name__" := by decide) (hdb : (x == ("__debug__" : Str)) = false := by decide)
    (he : starEach [a] X.env = (false, eval a X.env) :: starEach [] X.env := by rfl) (hpl : (backTo pos (starEach ([] : List Expr) X.env)).any (·.1) = false := by rfl) : WE X g (.Call (.Name x p) [a] [] pos) env Φ Ψ := fun W tk σ F H st hx Q hQ => by
  refine semE_of (pe_callTy hc hg hm hv (pa_cons (peS a) pa_nil he) hn hdb he hpl) ?_
  refine h W tk σ F H st hx _ fun d1 z1 v1 F1 H1 h1 st1 e1 r1 => ?_
  exact hr _ _ h1 σ F1 H1 v1 st1 r1 Q fun d z v F' H' hp s3 e3 r3 => hQ d z v F' H' hp s3 (e1.trans e3) r3
section
variable {Φ : PyData → Bool → Prop}
inductive LenP (Φ : PyData → Bool → Prop) : PyData → Bool → Prop
  | lst {xs : List PyData} {z : Bool} : Φ (.int xs.length) true → LenP Φ (.list xs) z
  | tup {xs : List PyData} {z : Bool} : Φ (.int xs.length) true → LenP Φ (.tuple xs) z
  | str {s : Str} {z : Bool} : Φ (.int s.length) true → s.length ≤ sizeLine → LenP Φ (.str s) z
theorem we_len (hm : X.mg "len" = none) (h : WE X g a env (LenP Φ) Ψ) (hg : Gl X "len" := by rfl) (he : starEach [a] X.env = (false, eval a X.env) :: starEach [] X.env := by rfl) : WE X g (.Call (.Name "len" p) [a] [] pos) env Φ Ψ :=
  we_b1 call_len hm PySem.boot_len (fun d1 z1 q σ F H v1 st r1 Q hQ => by
    cases q with
    | @lst xs z q =>
      obtain ⟨a1, vs1, rfl, s1, p1⟩ := rd_lst st.toSk r1
      exact ⟨_, xs.length, rfl, .inl ⟨_, s1, (dpa_len p1).symm⟩, hQ _ true _ F H q st (Ex.refl F) (.int _)⟩
    | @tup xs z q =>
      obtain ⟨a1, vs1, rfl, s1, p1⟩ := rd_tup st.toSk r1
      exact ⟨_, xs.length, rfl, .inr ⟨_, s1, (dpa_len p1).symm⟩, hQ _ true _ F H q st (Ex.refl F) (.int _)⟩
    | @str s z q hl => exact ⟨_, s.length, rfl, by rw [rd_str r1]; exact ⟨hl, rfl⟩, hQ _ true _ F H q st (Ex.refl F) (.int _)⟩) h hg (he := he)
theorem we_abs (hm : X.mg "abs" = none) (h : WE X g a env (fun d _ => ∃ i, d = .int i ∧ Φ (.int (if i < 0 then -i else i)) true) Ψ) (hg : Gl X "abs" := by rfl) (he : starEach [a] X.env = (false, eval a X.env) :: starEach [] X.env := by rfl) : WE X g (.Call (.Name "abs" p) [a] [] pos) env Φ Ψ :=
  we_b1 call_abs hm (by decide +kernel) (fun d1 z1 ⟨i, e, q⟩ σ F H v1 st r1 Q hQ => by
    subst e
    exact ⟨i, by rw [rd_int r1], hQ _ true _ F H q st (Ex.refl F) (.int _)⟩) h hg (he := he)
theorem dpa_bools_eq : ∀ {ns : List Bool} {vs : List V}, DqAll K H vs (ns.map PyData.bool) → vs = ns.map V.bl
  | [], _, h => by
    have h' : DqAll K H _ [] := h
    cases h'; rfl
  | n :: ns, _, h => by
    have h' : DqAll K H _ (.bool n :: ns.map PyData.bool) := h
    cases h' with
    | cons h1 h2 => rw [dp_bl h1, dpa_bools_eq h2]; rfl
theorem we_all (hm : X.mg "all" = none) (hc : X.calm = true) (h : WE X g a env (fun d _ => ∃ ns : List Bool, d = .list (ns.map .bool) ∧ Φ (.bool (ns.all id)) true) Ψ) (hg : Gl X "all" := by rfl) (he : starEach [a] X.env = (false, eval a X.env) :: starEach [] X.env := by rfl) : WE X g (.Call (.Name "all" p) [a] [] pos) env Φ Ψ :=
  we_b1 (cr_all hc) hm (by decide +kernel) (fun d1 z1 ⟨ns, e, q⟩ σ F H v1 st r1 Q hQ => by
    subst e
    obtain ⟨a1, vs1, rfl, s1, p1⟩ := rd_lst st.toSk r1
    rw [dpa_bools_eq p1] at s1
    exact ⟨a1, ns, rfl, s1, hQ _ true _ F H q st (Ex.refl F) (.bl _)⟩) h hg (he := he)
inductive IntOfP (Φ : PyData → Bool → Prop) : PyData → Bool → Prop
  | int {i : Int} {z : Bool} : Φ (.int i) true → IntOfP Φ (.int i) z
  | bool {k : Bool} {z : Bool} : Φ (.int (if k then 1 else 0)) true → IntOfP Φ (.bool k) z
theorem we_intof (hm : X.mg "int" = none) (h : WE X g a env (IntOfP Φ) Ψ) (hg : Gl X "int" := by rfl) (he : starEach [a] X.env = (false, eval a X.env) :: starEach [] X.env := by rfl) : WE X g (.Call (.Name "int" p) [a] [] pos) env Φ Ψ :=
  we_t1 call_int1 hm (by decide +kernel) (fun d1 z1 q σ F H v1 st r1 Q hQ => by
    cases q with
    | @int i z q => exact .inl ⟨i, by rw [rd_int r1], hQ _ true _ F H q st (Ex.refl F) (.int _)⟩
    | @bool k z q => exact .inr ⟨k, by rw [rd_bl r1], hQ _ true _ F H q st (Ex.refl F) (.int _)⟩) h hg (he := he)
inductive TupP (Φ : PyData → Bool → Prop) : PyData → Bool → Prop
  | lst {xs : List PyData} {z : Bool} : Φ (.tuple xs) true → TupP Φ (.list xs) z
  | tup {xs : List PyData} : Φ (.tuple xs) true → TupP Φ (.tuple xs) true
theorem we_tupof (hm : X.mg "tuple" = none) (h : WE X g a env (TupP Φ) Ψ) (hg : Gl X "tuple" := by rfl) (he : starEach [a] X.env = (false, eval a X.env) :: starEach [] X.env := by rfl) : WE X g (.Call (.Name "tuple" p) [a] [] pos) env Φ Ψ :=
  we_t1 call_tuple_of hm (by decide +kernel) (fun d1 z1 q σ F H v1 st r1 Q hQ => by
    cases q with
    | @lst xs z q =>
      obtain ⟨a1, vs1, rfl, s1, p1⟩ := rd_lst st.toSk r1
      exact ⟨a1, vs1, rfl, .inl ⟨s1, fun l hl => put_tup st hl p1 q hQ⟩⟩
    | @tup xs q =>
      obtain ⟨a1, vs1, rfl, s1, p1⟩ := rd_tup st.toSk r1
      exact ⟨a1, vs1, rfl, .inr ⟨s1, hQ _ true _ F H q st (Ex.refl F) r1⟩⟩) h hg (he := he)
end
def DNew (K : Frag) (g : G) (env : List Sl) (r : V → Hp → VK → Prop) (d1 : PyData) (z1 : Bool) (Φ : List PyData → Prop) : Prop :=
  ∀ (σ : SS) (F H : Hp) (v1 : V), St K g F H σ env → Rd K F env z1 v1 d1 →
    ∀ Q : VK, (∀ ds v F' H', Φ ds → St K g F' H' σ env → Ex F F' → NewL K g F' H' env v ds → Q v H') → r v1 H Q
theorem wn_b1 {Φ : List PyData → Prop} {R : PyData → Bool → Prop} {x : Str} {id : String} {r : List V → Hp → VK → Prop} (hc : CallR X (.builtin id) r) (hm : X.mg x = none) (hv : bootBuiltins x = some (.builtin id))
    (hr : ∀ d1 z1, R d1 z1 → DNew X.K g env (fun v => r [v]) d1 z1 Φ) (h : WE X g a env R Ψ) (hg : Gl X x := by rfl) (hn : x ≠ "__name__" := by decide) (hdb : (x == ("__debug__" : Str)) = false := by decide)
    (he : starEach [a] X.env = (false, eval a X.env) :: starEach [] X.env := by rfl) (hpl : (backTo pos (starEach ([] : List Expr) X.env)).any (·.1) = false := by rfl) : WN X g (.Call (.Name x p) [a] [] pos) env Φ Ψ := fun W tk σ F H st hx Q hQ => by
  refine semE_of (pe_callB hc hg hm hv (pa_cons (peS a) pa_nil he) hn hdb he hpl) ?_
  refine h W tk σ F H st hx _ fun d1 z1 v1 F1 H1 h1 st1 e1 r1 => ?_
  exact hr _ _ h1 σ F1 H1 v1 st1 r1 Q fun ds v F' H' hp s3 e3 r3 => hQ ds v F' H' hp s3 (e1.trans e3) r3
/-- sorted(xs), any data that can be put in order -/
def rSortD (K : Frag) : List V → Hp → VK → Prop := fun vs H Q => ∃ (a : Addr) (xs : List V) (ds : List PyData) (F : Hp), vs = [V.ref a] ∧ SqL K H a xs ∧ DqAll K F xs ds ∧ Ex F H ∧ PySem.W.AllAlike ds ∧ PySem.W.Sortable ds ∧ (∀ d ∈ ds, SeqAt.shaped d = true) ∧
  ∀ (ys : List V) (p : Addr), DqAll K F ys (ds.mergeSort (PySem.W.dataLe false id)) → H p = none → Q (.ref p) (upd H p (.lst ys))
theorem each_of {X : Cx} {pins : List (Addr × Obj)} {s : Shared} {F : Hp} (I : Inv X pins σ H s) (e : Ex F H) : ∀ {ds : List PyData} {xs : List V} {its : List Value}, (∀ d ∈ ds, SeqAt.shaped d = true) → Vals xs its → DqAll X.K F xs ds →
    PySem.W.EachIs (fun u d => ∃ x : V, RelV x u ∧ Dq X.K F x d) its ds ∧ PySem.W.EachIs (fun u d => ∃ as, Reads s.heap u (id d) as) its ds
  | [], _, _, _, r, h => by
    cases h
    cases r
    exact ⟨.nil, .nil⟩
  | d :: ds, _, _, c, r, h => by
    cases h with
    | cons h1 h2 =>
      cases r with
      | cons r1 r2 =>
        obtain ⟨q1, q2⟩ := each_of I e (fun b hb => c b (List.mem_cons_of_mem _ hb)) r2 h2
        exact ⟨.cons ⟨_, r1, h1⟩ q1, .cons (Dp.reads I d _ _ (dq_dp _ _ (shp_lay (c d (List.mem_cons_self ..))) (dp_mono e _ _ h1)) r1) q2⟩
theorem each_back {F : Hp} : ∀ {ds : List PyData} {out : List Value}, PySem.W.EachIs (fun u d => ∃ x : V, RelV x u ∧ Dq K F x d) out ds → ∃ ys, Vals ys out ∧ DqAll K F ys ds
  | _, _, .nil => ⟨[], .nil, .nil⟩
  | _, _, .cons ⟨x, h1, h2⟩ t => by
    obtain ⟨ys, q1, q2⟩ := each_back t
    exact ⟨x :: ys, .cons h1 q1, .cons h2 q2⟩
theorem cr_sortD {k : Nat} (hr : Room k X.A) : CallR X (.builtin "sorted") (rSortD X.K) := by
  intro pins s σ H vs us Q I r h
  obtain ⟨a, xs, ds, F, rfl, hs, hd, eF, hal, hk, hdp, q⟩ := h
  obtain ⟨its, rv, hl, hz⟩ := I.list hs
  rw [Vals.ref1 r]
  obtain ⟨q1, q2⟩ := each_of I eF hdp rv hd
  have hids : ds.map id = ds := List.map_id ds
  have hu := hr.un
  refine PySem.W.sorted_data (enc := id) hl.isList q1 q2 (by rw [hids]; exact hal) (by rw [hids]; exact hk) (by rw [← dpa_len hd]; exact hz) (fun b hb => by have : b.depth ≤ 64 := of_decide_eq_true (Bool.and_eq_true_iff.mp (hdp b hb)).2; show X.A.units + 2 + b.depth < cLine; omega) fun out h1 h2 => ?_
  obtain ⟨ys, k1, k2⟩ := each_back h2
  obtain ⟨ep, he'⟩ := PyProof.Rows.sortedAll_at s.heap its out.toArray
  have hlen : ys.length ≤ sizeLine := by rw [k1.length, h1, ← dpa_len hd]; exact hz
  exact ⟨.ref _, upd H (s.heap.objs.size + 1) (.lst ys), I.laid (t' := s.toks) (fun _ _ => PyProof.Rows.sortedAll_old) (Nat.le_succ _) ⟨hlen, out, ep, k1, he'⟩, rfl, q _ _ k2 (I.hok.fresh (Nat.le_succ _))⟩
/-- the list in order -/
def srt (ds : List PyData) : List PyData := ds.mergeSort (PySem.W.dataLe false id)
theorem wn_sorted {k : Nat} {Φ : List PyData → Prop} (hm : X.mg "sorted" = none) (hr : Room k X.A) (h : WE X g a env (fun d _ => ∃ ds, d = .list ds ∧ PySem.W.AllAlike ds ∧ PySem.W.Sortable ds ∧ (∀ d ∈ ds, SeqAt.shaped d = true) ∧ Φ (srt ds)) Ψ) (hg : Gl X "sorted" := by rfl) (he : starEach [a] X.env = (false, eval a X.env) :: starEach [] X.env := by rfl) : WN X g (.Call (.Name "sorted" p) [a] [] pos) env Φ Ψ :=
  wn_b1 (cr_sortD hr) hm (by decide +kernel) (fun d1 z1 ⟨ds, e, h1, h2, h3, q⟩ σ F H v1 st r1 Q hQ => by
    subst e
    obtain ⟨a1, vs1, rfl, s1, p1⟩ := rd_lst st.toSk r1
    exact ⟨a1, vs1, ds, F, rfl, s1, p1, st.ex, h1, h2, h3, fun ys p hy hn => put_new st hn hy q hQ⟩) h hg (he := he)
theorem we_b2 {Φ : PyData → Bool → Prop} {R : PyData → Bool → PyData → Bool → Prop} {x : Str} {id : String} {r : List V → Hp → VK → Prop} (hc : CallR X (.builtin id) r) (hm : X.mg x = none) (hv : bootBuiltins x = some (.builtin id))
    (hr : ∀ d1 z1 d2 z2, R d1 z1 d2 z2 → DOp X.K g env (fun v w => r [v, w]) d1 z1 d2 z2 Φ) (h : WE X g a env (fun d1 z1 => WE X g b env (fun d2 z2 => R d1 z1 d2 z2) Ψ) Ψ) (hg : Gl X x := by rfl) (hn : x ≠ "__name__" := by decide) (hdb : (x == ("__debug__" : Str)) = false := by decide)
    (he : starEach [a, b] X.env = (false, eval a X.env) :: starEach [b] X.env := by rfl) (he2 : starEach [b] X.env = (false, eval b X.env) :: starEach [] X.env := by rfl) (hpl : (backTo pos (starEach [b] X.env)).any (·.1) = false := by rfl) : WE X g (.Call (.Name x p) [a, b] [] pos) env Φ Ψ := fun W tk σ F H st hx Q hQ => by
  refine semE_of (pe_callB hc hg hm hv (pa_cons (peS a) (pa_cons (peS b) pa_nil he2) he) hn hdb he hpl) ?_
  refine h W tk σ F H st hx _ fun d1 z1 v1 F1 H1 h1 st1 e1 r1 => ?_
  refine h1 W tk σ F1 H1 st1 hx _ fun d2 z2 v2 F2 H2 h2 st2 e2 r2 => ?_
  exact hr _ _ _ _ h2 σ F2 H2 v1 v2 st2 (rd_mono e2 r1) r2 Q fun d z v F' H' hp s3 e3 r3 => hQ d z v F' H' hp s3 ((e1.trans e2).trans e3) r3
theorem we_min2 {Φ : PyData → Bool → Prop} (hm : X.mg "min" = none) (hc : X.calm = true) (h : WE X g a env (fun d1 z1 => WE X g b env (fun d2 z2 => ∃ i j, d1 = .int i ∧ d2 = .int j ∧ Φ (.int (if j < i then j else i)) true) Ψ) Ψ) (hg : Gl X "min" := by rfl) (he : starEach [a, b] X.env = (false, eval a X.env) :: starEach [b] X.env := by rfl) (he2 : starEach [b] X.env = (false, eval b X.env) :: starEach [] X.env := by rfl) (hpl : (backTo pos (starEach [b] X.env)).any (·.1) = false := by rfl) : WE X g (.Call (.Name "min" p) [a, b] [] pos) env Φ Ψ :=
  we_b2 (call_min2 hc) hm (by decide +kernel) (fun d1 z1 d2 z2 ⟨i, j, e1, e2, q⟩ => by
    subst e1 e2
    exact dop_of q fun σ F H v1 v2 Q st r1 r2 k => ⟨i, j, by rw [rd_int r1, rd_int r2], k _ (.int _)⟩) h hg (he := he) (he2 := he2) (hpl := hpl)
theorem we_max2 {Φ : PyData → Bool → Prop} (hm : X.mg "max" = none) (hc : X.calm = true) (h : WE X g a env (fun d1 z1 => WE X g b env (fun d2 z2 => ∃ i j, d1 = .int i ∧ d2 = .int j ∧ Φ (.int (if j > i then j else i)) true) Ψ) Ψ) (hg : Gl X "max" := by rfl) (he : starEach [a, b] X.env = (false, eval a X.env) :: starEach [b] X.env := by rfl) (he2 : starEach [b] X.env = (false, eval b X.env) :: starEach [] X.env := by rfl) (hpl : (backTo pos (starEach [b] X.env)).any (·.1) = false := by rfl) : WE X g (.Call (.Name "max" p) [a, b] [] pos) env Φ Ψ :=
  we_b2 (call_max2 hc) hm (by decide +kernel) (fun d1 z1 d2 z2 ⟨i, j, e1, e2, q⟩ => by
    subst e1 e2
    exact dop_of q fun σ F H v1 v2 Q st r1 r2 k => ⟨i, j, by rw [rd_int r1, rd_int r2], k _ (.int _)⟩) h hg (he := he) (he2 := he2) (hpl := hpl)
def WP (X : Cx) (g : G) (e : Option Expr) (env : List Sl) (Φ : Option Int → Prop) (Ψ : Exc → Prop) : Prop := match e with
  | none => Φ none
  | some e => WE X g e env (fun d _ => ∃ i, d = .int i ∧ Φ (some i)) Ψ
def semO (X : Cx) : Option Expr → TO
  | none => tNoPart
  | some e => tPart (semE X e)
theorem poS : ∀ e : Option Expr, PO X e (semO X e)
  | none => po_none
  | some e => po_some (peS e)
theorem wp_run {o : Option Expr} {Φ : Option Int → Prop} (h : WP X g o env Φ Ψ) {W : WX} (tk : Takes X W) (st : St X.K g F H σ env) (hx : HX X g env Ψ W σ) {Q : Option Int → Hp → Prop}
    (hQ : ∀ i F' H', Φ i → St X.K g F' H' σ env → Ex F F' → Q i H') : semO X o σ H Q := by
  cases o with
  | none => exact hQ none F H h st (Ex.refl F)
  | some e =>
    refine h W tk σ F H st hx _ fun d z v F' H' ⟨i, hd, hp⟩ s' e' r' => ?_
    subst hd
    exact ⟨i, rd_int r', hQ (some i) F' H' hp s' e'⟩
/-- the items of xs[lo:hi] -/
def cut {α : Type} (xs : List α) (lo hi : Option Int) : List α := (xs.drop (HT.sIx xs.length 0 lo)).take (HT.sIx xs.length xs.length hi - HT.sIx xs.length 0 lo)
theorem dpa_cut {ds : List PyData} {vs : List V} (h : DqAll K H vs ds) (lo hi : Option Int) : DqAll K H (cutV vs lo hi) (cut ds lo hi) := by
  unfold cutV cut
  rw [dpa_len h]
  exact dpa_take _ (dpa_drop _ h)
theorem wn_sliceL {lo hi : Option Expr} {p2 : Pos} {Φ : List PyData → Prop} (h : WE X g a env (fun d1 _ => ∃ xs, d1 = .list xs ∧ WP X g lo env (fun l => WP X g hi env (fun u => Φ (cut xs l u)) Ψ) Ψ) Ψ) : WN X g (.Subscript a (.Slice lo hi none p2) pos) env Φ Ψ := fun W tk σ F H st hx Q hQ => by
  refine semE_of (pe_slice sl_list (peS a) (poS lo) (poS hi)) ?_
  refine h W tk σ F H st hx _ fun d1 z1 v1 F1 H1 ⟨xs, hd, h1⟩ st1 e1 r1 => ?_
  subst hd
  refine wp_run h1 tk st1 hx fun l F2 H2 h2 st2 e2 => wp_run h2 tk st2 hx fun u F3 H3 h3 st3 e3 => ?_
  obtain ⟨a1, vs1, rfl, s1, p1⟩ := rd_lst st3.toSk (rd_mono (e2.trans e3) r1)
  exact ⟨a1, vs1, rfl, s1, fun p hp => put_new st3 hp (dpa_cut p1 l u) h3 fun ds v F' H' hp s e r => hQ ds v F' H' hp s (((e1.trans e2).trans e3).trans e) r⟩
end
end TL
namespace TL
open PySem PySem.Spec PyProof.Rows L2
def fps (env : List Sl) : List Addr := env.flatMap Sl.fp
theorem own_fps {env : List Sl} {a : Addr} : Own env a ↔ a ∈ fps env := by
  unfold fps
  rw [List.mem_flatMap]
  constructor
  · rintro ⟨i, s, h1, h2⟩
    exact ⟨s, List.mem_of_getElem? h1, h2⟩
  · rintro ⟨s, h1, h2⟩
    obtain ⟨i, hi⟩ := List.getElem?_of_mem h1
    exact ⟨i, s, hi, h2⟩
section
variable {X : Cx} {g : G} {env env' : List Sl} {Ψ : Exc → Prop} {pos p : Pos} {a b c e : Expr} {es : List Expr} {K : Frag} {F F' H H' : Hp} {σ σ' : SS}
theorem Sk.base (st : Sk K F H σ env) : St K ⟨F, H, fps env⟩ F H σ env :=
  { st with g1 := fun _ _ h _ _ => h, gt := ⟨fun a ps h => (by show H a ≠ none; rw [show H a = _ from h]; intro z; cases z), fun p hp z => (by obtain ⟨ps, h1, _⟩ := st.tk.tb p hp; have z : H p.1 = none := z; rw [h1] at z; cases z)⟩, g2 := fun a h => .inr (own_fps.mp h), g3 := Ex.refl F, g4 := fun a h => .inl h, g5 := fun a h => st.there (own_fps.mpr h), g6 := fun a h => st.there (own_fps.mpr h) }
theorem St.rebase (st : St K g F H σ env) (st' : St K ⟨F, H, fps env⟩ F' H' σ' env') (sub : ∀ a, Own env' a → Own env a) : St K g F' H' σ' env' :=
  { st'.toSk with
    g1 := fun a o h m n => st'.g1 a o (st.g1 a o h m n) (fun z => by
      rcases st.g2 a (own_fps.mpr z) with q | q
      · rw [q] at h; cases h
      · exact m q) n
    gt := st.gt.grow fun a z => by
      cases q : H a with
      | none => rfl
      | some u =>
        by_cases hm : a ∈ fps env
        · exact absurd z (st'.g5 a hm)
        · by_cases ht : ∃ ps, u = .tbl ps
          · obtain ⟨ps, rfl⟩ := ht; exact absurd z (st'.gt.g7 a ps q)
          · rw [st'.g1 a u q hm fun ps y => ht ⟨ps, y⟩] at z; cases z
    g2 := fun a h => st.g2 a (sub a h)
    g3 := st.g3.trans st'.g3
    g4 := fun a h => by
      rcases st'.g4 a h with q | q
      · exact st.g4 a q
      · exact .inr (st.h0 q)
    g5 := fun a m z => by
      by_cases h : a ∈ fps env
      · exact st'.g5 a h z
      · cases q : H a with
        | none => exact st.g5 a m q
        | some u =>
          by_cases ht : ∃ ps, u = .tbl ps
          · obtain ⟨ps, rfl⟩ := ht; exact st'.gt.g7 a ps q z
          · rw [st'.g1 a u q h fun ps y => ht ⟨ps, y⟩] at z; cases z
    g6 := st.g6 }
def putsE (env : List Sl) : List (Nat × PyData) → List Sl
  | [] => env
  | (i, d) :: r => putsE (env.set i (.d d)) r
def putsV (σ : SS) : List (Nat × V) → SS
  | [] => σ
  | (i, v) :: r => putsV (σ.set i (some v)) r
def SetsP (K : Frag) (F : Hp) : List (Nat × V) → List (Nat × PyData) → Prop
  | [], [] => True
  | (i, v) :: r, (j, d) :: l => i = j ∧ Dq K F v d ∧ SetsP K F r l
  | _, _ => False
theorem setsP_app : ∀ {r r' : List (Nat × V)} {l l' : List (Nat × PyData)}, SetsP K F r l → SetsP K F r' l' → SetsP K F (r ++ r') (l ++ l')
  | [], _, [], _, _, h => h
  | _ :: _, _, _ :: _, _, ⟨h1, h2, h3⟩, h => ⟨h1, h2, setsP_app h3 h⟩
  | [], _, _ :: _, _, h, _ => h.elim
  | _ :: _, _, [], _, h, _ => h.elim
theorem putsV_app (σ : SS) : ∀ (r r' : List (Nat × V)), putsV σ (r ++ r') = putsV (putsV σ r) r'
  | [], _ => rfl
  | (i, v) :: r, r' => putsV_app (σ.set i (some v)) r r'
theorem putsE_len : ∀ (l : List (Nat × PyData)) (env : List Sl), (putsE env l).length = env.length
  | [], _ => rfl
  | (i, d) :: r, env => by rw [putsE, putsE_len r, List.length_set]
theorem St.sets : ∀ {r : List (Nat × V)} {l : List (Nat × PyData)} {σ : SS} {env : List Sl}, St K g F H σ env → SetsP K F r l → (∀ q ∈ l, q.1 < env.length) → St K g F H (putsV σ r) (putsE env l)
  | [], [], _, _, st, _, _ => st
  | (i, v) :: r, (j, d) :: l, σ, env, st, ⟨h1, h2, h3⟩, hl => by
    have h1' : i = j := h1
    subst h1'
    have s2 : St K g F H (σ.set i (some v)) (env.set i (.d d)) := st.setD (hl (i, d) (List.mem_cons_self ..)) h2
    exact St.sets (r := r) (l := l) s2 h3 fun q hq => by rw [List.length_set]; exact hl q (List.mem_cons_of_mem _ hq)
  | [], _ :: _, _, _, _, h, _ => h.elim
  | _ :: _, [], _, _, _, h, _ => h.elim
theorem setsP_idx {vs : List Nat} : ∀ {r : List (Nat × V)} {l : List (Nat × PyData)}, SetsP K F r l → (∀ q ∈ l, q.1 ∈ vs) → ∀ q ∈ r, q.1 ∈ vs
  | [], _, _, _, q, hq => by cases hq
  | a :: r, b :: l, ⟨h1, _, h3⟩, hl, q, hq => by
    rcases List.mem_cons.mp hq with z | z
    · rw [z, show a.1 = b.1 from h1]; exact hl b (List.mem_cons_self ..)
    · exact setsP_idx h3 (fun q hq => hl q (List.mem_cons_of_mem _ hq)) q z
  | _ :: _, [], h, _, _, _ => h.elim
theorem putsV_len : ∀ (r : List (Nat × V)) (σ : SS), (putsV σ r).length = σ.length
  | [], _ => rfl
  | (i, v) :: r, σ => by rw [putsV, putsV_len r, List.length_set]
theorem putsV_get {i : Nat} : ∀ {r : List (Nat × V)} {σ : SS}, (∀ q ∈ r, q.1 ≠ i) → (putsV σ r)[i]? = σ[i]?
  | [], _, _ => rfl
  | (j, v) :: r, σ, h => by
    rw [putsV, putsV_get fun q hq => h q (List.mem_cons_of_mem _ hq), List.getElem?_set, if_neg (h (j, v) (List.mem_cons_self ..))]
theorem putsE_get {i : Nat} : ∀ {r : List (Nat × PyData)} {env : List Sl}, (∀ q ∈ r, q.1 ≠ i) → (putsE env r)[i]? = env[i]?
  | [], _, _ => rfl
  | (j, v) :: r, env, h => by
    rw [putsE, putsE_get fun q hq => h q (List.mem_cons_of_mem _ hq), List.getElem?_set, if_neg (h (j, v) (List.mem_cons_self ..))]
/-- a new object that no slot holds is changed -/
theorem St.untracked {D : Addr} {o' : HO} (st : St K g F H σ env) (hF : F D = none) (hn : ¬ Own env D) (h0 : g.H0 D = none) (ht : ∀ vs, o' ≠ .tup vs := by intro _ z; cases z) : St K g F (upd H D o') σ env where
  len := st.len
  sl := fun i s e => slok_mono (Ex.refl F) (fun a ha u q => by
    have hne : a ≠ D := fun z => hn ⟨i, s, e, z ▸ ha⟩
    rw [upd_ne hne]; exact q) (st.sl i s e)
  nd := st.nd
  fr := st.fr
  ex := st.ex.mut hF
  tf := fun a vs q => by
    by_cases e : a = D
    · subst e; rw [upd_same] at q; exact absurd (Option.some.inj q) (ht vs)
    · rw [upd_ne e] at q; exact st.tf a vs q
  tk := st.tk.put fun p hp z => st.gt.g8 p hp (by rw [z]; exact h0)
  gt := st.gt.grow fun a z => by
    by_cases e : a = D
    · subst e; rw [upd_same] at z; cases z
    · rw [upd_ne e] at z; exact z
  g1 := fun a o h m n => by
    have hne : a ≠ D := fun z => by rw [z, h0] at h; cases h
    rw [upd_ne hne]; exact st.g1 a o h m n
  g2 := st.g2
  g3 := st.g3
  g4 := st.g4
  g5 := fun a m z => by
    by_cases hb : a = D
    · subst hb; rw [upd_same] at z; cases z
    · rw [upd_ne hb] at z; exact st.g5 a m z
  g6 := st.g6
/-- what a target does with data -/
def TGd (K : Frag) (t : TG) (A : PyData → Option (List (Nat × PyData))) : Prop :=
  ∀ (x : PyData) (l : List (Nat × PyData)) (σ : SS) (F H : Hp) (v : V) (Q : SS → Hp → Prop), A x = some l → Ex F H → Dq K F v x → (∀ r, SetsP K F r l → Q (putsV σ r) H) → t v σ H Q
theorem tgd_name (j : Nat) : TGd K (gName j) (fun x => some [(j, x)]) := fun x l σ F H v Q e eF hd h => by
  have e' := Option.some.inj e
  subst e'
  exact h [(j, v)] ⟨rfl, hd, trivial⟩
def tgs : List (PyData → Option (List (Nat × PyData))) → List PyData → Option (List (Nat × PyData))
  | [], [] => some []
  | A :: As, x :: xs => match A x, tgs As xs with
    | some l, some r => some (l ++ r)
    | _, _ => none
  | _, _ => none
def TGds (K : Frag) (t : TGs) (As : List (PyData → Option (List (Nat × PyData)))) : Prop :=
  ∀ (xs : List PyData) (l : List (Nat × PyData)) (σ : SS) (F H : Hp) (vs : List V) (Q : SS → Hp → Prop), tgs As xs = some l → Ex F H → DqAll K F vs xs → (∀ r, SetsP K F r l → Q (putsV σ r) H) → t vs σ H Q
theorem tgds_nil : TGds K gNil [] := fun xs l σ F H vs Q e eF hd h => by
  cases xs with
  | nil =>
    cases hd
    have e' := Option.some.inj e
    subst e'
    exact ⟨rfl, h [] trivial⟩
  | cons x r => cases e
theorem tgds_cons {t : TG} {u : TGs} {A : PyData → Option (List (Nat × PyData))} {As : List (PyData → Option (List (Nat × PyData)))} (h1 : TGd K t A) (h2 : TGds K u As) : TGds K (gCons t u) (A :: As) := fun xs l σ F H vs Q e eF hd h => by
  cases xs with
  | nil => cases e
  | cons x r =>
    cases hd with
    | @cons v vs d ds hd1 hd2 =>
      have e0 : (match A x, tgs As r with | some l, some r => some (l ++ r) | _, _ => none) = some l := e
      cases q1 : A x with
      | none => rw [q1] at e0; cases e0
      | some l1 =>
        cases q2 : tgs As r with
        | none => rw [q1, q2] at e0; cases e0
        | some l2 =>
          rw [q1, q2] at e0
          have e' := Option.some.inj e0
          subst e'
          refine ⟨v, vs, rfl, h1 x l1 σ F H v _ q1 eF hd1 fun r1 s1 => h2 r l2 _ F H vs Q q2 eF hd2 fun r2 s2 => ?_⟩
          rw [← putsV_app]
          exact h (r1 ++ r2) (setsP_app s1 s2)
def tgTup (As : List (PyData → Option (List (Nat × PyData)))) : PyData → Option (List (Nat × PyData))
  | .tuple xs => tgs As xs
  | _ => none
theorem tgs_len : ∀ {As : List (PyData → Option (List (Nat × PyData)))} {xs : List PyData} {l : List (Nat × PyData)}, tgs As xs = some l → xs.length = As.length
  | [], [], _, _ => rfl
  | A :: As, x :: xs, l, e => by
    have e0 : (match A x, tgs As xs with | some l, some r => some (l ++ r) | _, _ => none) = some l := e
    cases q2 : tgs As xs with
    | none => rw [q2] at e0; cases q1 : A x <;> rw [q1] at e0 <;> cases e0
    | some l2 => exact congrArg Nat.succ (tgs_len q2)
  | [], _ :: _, _, e => by cases e
  | _ :: _, [], _, e => by cases e
theorem tgd_tup {u : TGs} {n : Nat} {As : List (PyData → Option (List (Nat × PyData)))} (h : TGds K u As) (hn : As.length = n) : TGd K (gTup K n u) (tgTup As) := fun x l σ F H v Q e eF hd hQ => by
  cases x with
  | tuple xs =>
    obtain ⟨a, vs, rfl, h1, h2⟩ := dp_tup hd
    exact ⟨a, vs, rfl, ex_t eF h1, by rw [dpa_len h2, tgs_len e, hn], h xs l σ F H vs Q e eF h2 hQ⟩
  | _ => cases e
def wipeE (env : List Sl) : List Nat → List Sl
  | [] => env
  | v :: vs => (wipeE env vs).set v .un
def wipeOk (env : List Sl) (vs : List Nat) : Bool := vs.all fun i => match env[i]? with
  | some s => s.fp.isEmpty
  | none => true
theorem wipeE_len (env : List Sl) : ∀ vs : List Nat, (wipeE env vs).length = env.length
  | [] => rfl
  | v :: vs => by rw [wipeE, List.length_set, wipeE_len env vs]
theorem wipe_get (σ : SS) (i : Nat) : ∀ vs : List Nat, (wipe σ vs)[i]? = if i ∈ vs then (σ[i]?.map fun _ => none) else σ[i]?
  | [] => by rw [if_neg (by simp)]; rfl
  | v :: vs => by
    show ((wipe σ vs).set v none)[i]? = _
    rw [List.getElem?_set]
    by_cases h : v = i
    · subst h
      rw [if_pos rfl, if_pos (List.mem_cons_self ..), wipe_length]
      by_cases hl : v < σ.length
      · rw [if_pos hl, List.getElem?_eq_getElem hl]; rfl
      · rw [if_neg hl, List.getElem?_eq_none (by omega)]; rfl
    · rw [if_neg h, wipe_get σ i vs]
      by_cases hm : i ∈ vs
      · rw [if_pos hm, if_pos (List.mem_cons_of_mem _ hm)]
      · rw [if_neg hm, if_neg fun z => by
          rcases List.mem_cons.mp z with z | z
          · exact h z.symm
          · exact hm z]
theorem wipeE_get (env : List Sl) (i : Nat) : ∀ vs : List Nat, (wipeE env vs)[i]? = if i ∈ vs then (env[i]?.map fun _ => .un) else env[i]?
  | [] => by rw [if_neg (by simp)]; rfl
  | v :: vs => by
    show ((wipeE env vs).set v .un)[i]? = _
    rw [List.getElem?_set]
    by_cases h : v = i
    · subst h
      rw [if_pos rfl, if_pos (List.mem_cons_self ..), wipeE_len]
      by_cases hl : v < env.length
      · rw [if_pos hl, List.getElem?_eq_getElem hl]; rfl
      · rw [if_neg hl, List.getElem?_eq_none (by omega)]; rfl
    · rw [if_neg h, wipeE_get env i vs]
      by_cases hm : i ∈ vs
      · rw [if_pos hm, if_pos (List.mem_cons_of_mem _ hm)]
      · rw [if_neg hm, if_neg fun z => by
          rcases List.mem_cons.mp z with z | z
          · exact h z.symm
          · exact hm z]
theorem wipe_set {σ : SS} {i : Nat} {x : Option V} {vs : List Nat} (hi : i ∈ vs) : wipe (σ.set i x) vs = wipe σ vs := by
  apply List.ext_getElem?
  intro j
  rw [wipe_get, wipe_get]
  by_cases h : j ∈ vs
  · rw [if_pos h, if_pos h, List.getElem?_set]
    by_cases e : i = j
    · subst e
      rw [if_pos rfl]
      by_cases hl : i < σ.length
      · rw [if_pos hl, List.getElem?_eq_getElem hl]; rfl
      · rw [if_neg hl, List.getElem?_eq_none (by omega)]
    · rw [if_neg e]
  · rw [if_neg h, if_neg h, List.getElem?_set, if_neg (fun z : i = j => h (by rw [← z]; exact hi))]
theorem wipe_wipe (σ : SS) (vs : List Nat) : wipe (wipe σ vs) vs = wipe σ vs := by
  apply List.ext_getElem?
  intro j
  rw [wipe_get, wipe_get]
  by_cases h : j ∈ vs
  · rw [if_pos h, if_pos h, Option.map_map]; rfl
  · rw [if_neg h, if_neg h]
theorem wipe_putsV {vs : List Nat} : ∀ {r : List (Nat × V)} {σ : SS}, (∀ q ∈ r, q.1 ∈ vs) → wipe (putsV σ r) vs = wipe σ vs
  | [], _, _ => rfl
  | (i, v) :: r, σ, h => by
    rw [putsV, wipe_putsV fun q hq => h q (List.mem_cons_of_mem _ hq)]
    exact wipe_set (h _ (List.mem_cons_self ..))
theorem own_wipe {vs : List Nat} {a : Addr} (h : Own (wipeE env vs) a) : Own env a := by
  obtain ⟨i, s, h1, h2⟩ := h
  rw [wipeE_get] at h1
  by_cases hm : i ∈ vs
  · rw [if_pos hm] at h1
    obtain ⟨t, _, e⟩ := Option.map_eq_some_iff.mp h1
    subst e
    cases h2
  · rw [if_neg hm] at h1
    exact ⟨i, s, h1, h2⟩
theorem own_wipe' {vs : List Nat} (ok : wipeOk env vs = true) {a : Addr} (h : Own env a) : Own (wipeE env vs) a := by
  obtain ⟨i, s, h1, h2⟩ := h
  refine ⟨i, s, ?_, h2⟩
  rw [wipeE_get]
  by_cases hm : i ∈ vs
  · have q := List.all_eq_true.mp ok i hm
    rw [h1] at q
    have q' : s.fp.isEmpty = true := q
    cases hs : s.fp with
    | nil => rw [hs] at h2; cases h2
    | cons x r => rw [hs] at q'; cases q'
  · rw [if_neg hm]; exact h1
/-- into a block -/
theorem St.wiped (st : St K g F H σ env) (vs : List Nat) : St K g F H (wipe σ vs) (wipeE env vs) where
  len := by rw [wipe_length, wipeE_len]; exact st.len
  sl := fun i s e => by
    rw [wipeE_get] at e
    by_cases hm : i ∈ vs
    · rw [if_pos hm] at e
      obtain ⟨t, _, e⟩ := Option.map_eq_some_iff.mp e
      subst e
      trivial
    · rw [if_neg hm] at e
      rw [wipe_get, if_neg hm]
      exact st.sl i s e
  nd := fun i j s t a ei ej h1 h2 => by
    rw [wipeE_get] at ei ej
    by_cases hi : i ∈ vs
    · rw [if_pos hi] at ei
      obtain ⟨_, _, e⟩ := Option.map_eq_some_iff.mp ei
      subst e
      cases h1
    · by_cases hj : j ∈ vs
      · rw [if_pos hj] at ej
        obtain ⟨_, _, e⟩ := Option.map_eq_some_iff.mp ej
        subst e
        cases h2
      · rw [if_neg hi] at ei
        rw [if_neg hj] at ej
        exact st.nd i j s t a ei ej h1 h2
  fr := fun a h => st.fr a (own_wipe h)
  ex := st.ex
  tf := st.tf
  tk := st.tk
  gt := st.gt
  g1 := st.g1
  g2 := fun a h => st.g2 a (own_wipe h)
  g3 := st.g3
  g4 := st.g4
  g5 := st.g5
  g6 := st.g6
/-- out of a block -/
theorem St.unwiped {vs : List Nat} (st : St K g F H σ env) (ok : wipeOk env vs = true) (st' : St K g F' H' (wipe σ vs) (wipeE env vs)) (e : Ex F F') : St K g F' H' σ env where
  len := st.len
  sl := fun i s e1 => by
    by_cases hm : i ∈ vs
    · have q := List.all_eq_true.mp ok i hm
      rw [e1] at q
      have q' : s.fp.isEmpty = true := q
      refine slok_mono e (fun a ha => ?_) (st.sl i s e1)
      cases hs : s.fp with
      | nil => rw [hs] at ha; cases ha
      | cons x r => rw [hs] at q'; cases q'
    · have q := st'.sl i s (by rw [wipeE_get, if_neg hm]; exact e1)
      rw [wipe_get, if_neg hm] at q
      exact q
  nd := st.nd
  fr := fun a h => st'.fr a (own_wipe' ok h)
  ex := st'.ex
  tf := st'.tf
  tk := st'.tk
  gt := st'.gt
  g1 := st'.g1
  g2 := fun a h => st.g2 a h
  g3 := st'.g3
  g4 := st'.g4
  g5 := st'.g5
  g6 := st'.g6
abbrev BX (X : Cx) (scope : Scope) (s : Shared) (H : Hp) (C : Addr) (cl : List (Str × Addr)) (fp : List Addr) : Cx := X.blk s H scope (compEnvC scope cl C X.env) fp
def semEB (X : Cx) (scope : Scope) (e : Expr) : TE := fun σ H Q => ∀ s H0 C cl fp, semE (BX X scope s H0 C cl fp) e σ H Q
def semTB (X : Cx) (scope : Scope) : List Expr → TT
  | [] => tYes
  | c :: _ => fun σ H Q => ∀ s H0 C cl fp, semT (BX X scope s H0 C cl fp) c σ H Q
/-- the tests of a clause: none or one -/
def WTs (X : Cx) (g : G) (ifs : List Expr) (env : List Sl) (Φ : Bool → Prop) : Prop := match ifs with
  | [] => Φ true
  | c :: _ => WT X g c env Φ (fun _ => False)
theorem takesB {scope : Scope} {s : Shared} {H0 : Hp} {C : Addr} {cl : List (Str × Addr)} {fp : List Addr} : Takes (BX X scope s H0 C cl fp) (fun _ _ _ _ => False) := fun _ _ x => by
  obtain ⟨_, _, _, _, _, _, _, _, _, _, _, _, _, _, _, _, z⟩ := x
  exact z.elim
theorem hxF {W : WX} : HX X g env (fun _ => False) W σ := fun _ _ _ h => h.elim
/-- the state within a comprehension -/
def LJ (K : Frag) (g : G) (F1 : Hp) (σ : SS) (env : List Sl) (Pv : Nat → List PyData → Prop) (D : Addr) (i : Nat) (H : Hp) : Prop :=
  ∃ F acc avs, St K g F H σ env ∧ Ex F1 F ∧ H D = some (.lst avs) ∧ DqAll K F avs acc ∧ F D = none ∧ ¬ Own env D ∧ g.H0 D = none ∧ Pv i acc ∧ acc.length ≤ i
theorem lc_turn {scope : Scope} {ifs : List Expr} {elt : Expr} {t : TG} {A : PyData → Option (List (Nat × PyData))} {F1 : Hp} {vs : List Nat} {Pv : Nat → List PyData → Prop} {D : Addr} {i : Nat} {x : PyData} {v : V} {l : List (Nat × PyData)}
    (htd : TGd X.K t A) (hA : A x = some l) (hl : ∀ q ∈ l, q.1 ∈ vs ∧ q.1 < env.length) (hsz : i < sizeLine) (hv : Dq X.K F1 v x) (hJ : LJ X.K g F1 (wipe σ vs) (wipeE env vs) Pv D i H)
    (hb : ∀ acc, Pv i acc → ∀ (g' : G) s H0 C cl fp, WTs (BX X scope s H0 C cl fp) g' ifs (putsE (wipeE env vs) l) (fun b => (b = true → ∀ s H0 C cl fp, WE (BX X scope s H0 C cl fp) g' elt (putsE (wipeE env vs) l) (fun y z => z = true ∧ Pv (i + 1) (acc ++ [y])) (fun _ => False)) ∧ (b = false → Pv (i + 1) acc))) :
    t v (wipe σ vs) H fun σ2 H2 => wipe σ2 vs = wipe σ vs ∧ semTB X scope ifs σ2 H2 fun b H3 =>
      if b = true then semEB X scope elt σ2 H3 fun y H4 => ∃ acc, H4 D = some (.lst acc) ∧ acc.length < sizeLine ∧ LJ X.K g F1 (wipe σ vs) (wipeE env vs) Pv D (i + 1) (upd H4 D (.lst (acc ++ [y]))) else LJ X.K g F1 (wipe σ vs) (wipeE env vs) Pv D (i + 1) H3 := by
  obtain ⟨F, acc, avs, st, eF, hD, hd, fD, oD, gD, hp, hlen⟩ := hJ
  refine htd x l (wipe σ vs) F H v _ hA st.ex (dp_mono eF _ _ hv) fun r sr => ?_
  have hidx : ∀ q ∈ r, q.1 ∈ vs := setsP_idx sr fun q hq => (hl q hq).1
  refine ⟨by rw [wipe_putsV hidx]; exact wipe_wipe σ vs, ?_⟩
  -- the state within the turn, over a ground of its own
  have st1 : St X.K ⟨F, H, fps (wipeE env vs)⟩ F H (putsV (wipe σ vs) r) (putsE (wipeE env vs) l) := St.sets st.toSk.base sr fun q hq => by rw [wipeE_len]; exact (hl q hq).2
  have back : ∀ {F' H'}, St X.K ⟨F, H, fps (wipeE env vs)⟩ F' H' (putsV (wipe σ vs) r) (putsE (wipeE env vs) l) → Ex F F' → St X.K ⟨F, H, fps (wipeE env vs)⟩ F' H' (wipe σ vs) (wipeE env vs) := fun {F' H'} s' e' =>
    { len := by rw [wipe_length, wipeE_len]; have := s'.len; rw [putsE_len, wipeE_len] at this; rw [← this, putsV_len, wipe_length]
      sl := fun k s e => by
        by_cases hm : k ∈ vs
        · rw [wipeE_get, if_pos hm] at e
          obtain ⟨_, _, e⟩ := Option.map_eq_some_iff.mp e
          subst e
          trivial
        · have e2 : (putsE (wipeE env vs) l)[k]? = some s := by rw [putsE_get (i := k) fun q hq (z : q.1 = k) => hm (by rw [← z]; exact (hl q hq).1)]; exact e
          have q := s'.sl k s e2
          rw [putsV_get (i := k) fun q hq (z : q.1 = k) => hm (by rw [← z]; exact hidx q hq)] at q
          exact q
      nd := st.nd
      fr := fun a h => by
        obtain ⟨k, s, h1, h2⟩ := h
        by_cases hm : k ∈ vs
        · rw [wipeE_get, if_pos hm] at h1
          obtain ⟨_, _, e⟩ := Option.map_eq_some_iff.mp h1
          subst e
          cases h2
        · exact s'.fr a ⟨k, s, by rw [putsE_get (i := k) fun q hq (z : q.1 = k) => hm (by rw [← z]; exact (hl q hq).1)]; exact h1, h2⟩
      ex := s'.ex
      tf := s'.tf
      tk := s'.tk
      gt := s'.gt
      g1 := s'.g1
      g2 := fun a h => .inr (own_fps.mp h)
      g3 := s'.g3
      g4 := s'.g4
      g5 := s'.g5
      g6 := s'.g6 }
  have keepD : ∀ {F' H'}, St X.K ⟨F, H, fps (wipeE env vs)⟩ F' H' (putsV (wipe σ vs) r) (putsE (wipeE env vs) l) → H' D = some (.lst avs) ∧ F' D = none := fun {F' H'} s' => by
    refine ⟨s'.g1 D _ hD (fun z => oD (own_fps.mpr z)) (fun _ z => by cases z), ?_⟩
    cases q : F' D with
    | none => rfl
    | some u =>
      rcases s'.g4 D (by rw [q]; intro z; cases z) with z | z
      · exact absurd fD z
      · have z' : H D = none := z
        rw [hD] at z'; cases z'
  have tests : ∀ (Q : Bool → Hp → Prop), (∀ b F' H', ((b = true → ∀ s H0 C cl fp, WE (BX X scope s H0 C cl fp) ⟨F, H, fps (wipeE env vs)⟩ elt (putsE (wipeE env vs) l) (fun y z => z = true ∧ Pv (i + 1) (acc ++ [y])) (fun _ => False)) ∧ (b = false → Pv (i + 1) acc)) →
      St X.K ⟨F, H, fps (wipeE env vs)⟩ F' H' (putsV (wipe σ vs) r) (putsE (wipeE env vs) l) → Ex F F' → Q b H') → semTB X scope ifs (putsV (wipe σ vs) r) H Q := fun Q hQ => by
    cases ifs with
    | nil =>
      exact hQ true F H ⟨fun _ s H0 C cl fp => (hb acc hp _ (X.s_0) H0 C cl fp).1 rfl s H0 C cl fp, fun z => by cases z⟩ st1 (Ex.refl F)
    | cons c cs =>
      intro s H0 C cl fp
      refine hb acc hp _ s H0 C cl fp _ takesB _ F H st1 hxF Q fun b F' H' hbb s' e' => hQ b F' H' hbb s' e'
  refine tests _ fun b F' H' ⟨h1, h2⟩ s' e' => ?_
  cases b with
  | true =>
    rw [if_pos rfl]
    intro s H0 C cl fp
    refine h1 rfl s H0 C cl fp _ takesB _ F' H' s' hxF _ fun y z w F2 H2 ⟨hz, hp2⟩ s2 e2 rd => ?_
    subst hz
    obtain ⟨hD2, fD2⟩ := keepD s2
    refine ⟨avs, hD2, by rw [dpa_len hd]; omega, F2, acc ++ [y], avs ++ [w], ?_, eF.trans (e'.trans e2), upd_same, ?_, fD2, oD, gD, hp2, by rw [List.length_append, List.length_singleton]; omega⟩
    · have s3 := st.rebase (back s2 (e'.trans e2)) fun a h => h
      exact s3.untracked fD2 oD gD
    · exact dpa_app (dpa_mono (e'.trans e2) _ _ hd) (dpa_one rd)
  | false =>
    rw [if_neg Bool.false_ne_true]
    obtain ⟨hD2, fD2⟩ := keepD s'
    exact ⟨F', acc, avs, st.rebase (back s' e') fun a h => h, eF.trans e', hD2, dpa_mono e' _ _ hd, fD2, oD, gD, h2 rfl, by omega⟩
/-- the state is one of the model's too -/
def tI (X : Cx) (t : TE) : TE := fun σ H Q => t σ H fun v H' => (∃ pins s, Inv X pins σ H' s) → Q v H'
theorem peI (e : Expr) : PE X e (tI X (semE X e)) := ⟨fun pins s σ H Q I h => thn (h.run pins s I) fun u s' ⟨v, H', I', r, q⟩ => ⟨v, H', I', r, q ⟨pins, s', I'⟩⟩⟩
theorem ptsB {scope : Scope} {ifs : List Expr} (h1 : ifs.length ≤ 1) (s : Shared) (H0 : Hp) (C : Addr) (cl : List (Str × Addr)) (fp : List Addr) : PTs (BX X scope s H0 C cl fp) ifs (semTB X scope ifs) := by
  match ifs, h1 with
  | [], _ => exact pts_nil
  | [c], _ => exact pts_one ⟨fun pins s2 σ H Q I h => (h s H0 C cl fp).run pins s2 I⟩
theorem peB {scope : Scope} {e : Expr} (s : Shared) (H0 : Hp) (C : Addr) (cl : List (Str × Addr)) (fp : List Addr) : PE (BX X scope s H0 C cl fp) e (semEB X scope e) := ⟨fun pins s2 σ H Q I h => (h s H0 C cl fp).run pins s2 I⟩
/-- one turn's wish -/
def LT (X : Cx) (env : List Sl) (scope : Scope) (ifs : List Expr) (elt : Expr) (vs : List Nat) (A : PyData → Option (List (Nat × PyData))) (Pv : Nat → List PyData → Prop) (i : Nat) (x : PyData) : Prop :=
  ∃ l, A x = some l ∧ (l.all fun q => vs.elem q.1 && Nat.blt q.1 env.length) = true ∧ ∀ acc, Pv i acc → ∀ (g' : G) s H0 C cl fp, WTs (BX X scope s H0 C cl fp) g' ifs (putsE (wipeE env vs) l) (fun b =>
    (b = true → ∀ s H0 C cl fp, WE (BX X scope s H0 C cl fp) g' elt (putsE (wipeE env vs) l) (fun y z => z = true ∧ Pv (i + 1) (acc ++ [y])) (fun _ => False)) ∧ (b = false → Pv (i + 1) acc))
theorem lt_idx {vs : List Nat} {l : List (Nat × PyData)} {n : Nat} (h : (l.all fun q => vs.elem q.1 && Nat.blt q.1 n) = true) : ∀ q ∈ l, q.1 ∈ vs ∧ q.1 < n := fun q hq => by
  have h1 := Bool.and_eq_true_iff.mp (List.all_eq_true.mp h q hq)
  exact ⟨List.elem_iff.mp h1.1, Nat.le_of_ble_eq_true h1.2⟩
def WNt (X : Cx) (g : G) (t : TE) (env : List Sl) (Φ : List PyData → Prop) (Ψ : Exc → Prop) : Prop :=
  ∀ (W : WX), Takes X W → ∀ (σ : SS) (F H : Hp), St X.K g F H σ env → HX X g env Ψ W σ →
    ∀ Q : VK, (∀ ds v F' H', Φ ds → St X.K g F' H' σ env → Ex F F' → NewL X.K g F' H' env v ds → Q v H') → t σ H Q
section
variable {tg iter elt : Expr} {ifs : List Expr} {scope : Scope} {own : List (Str × Nat)} {t : TG} {A : PyData → Option (List (Nat × PyData))} {Φ : List PyData → Prop}
/-- [elt for tg in a list] -/
theorem nt_lcL (htd : TGd X.K t A) (hwo : wipeOk env (own.map (·.2)) = true)
    (hi : WE X g iter env (fun d z => z = true ∧ ∃ (xs : List PyData) (Pv : Nat → List PyData → Prop), d = .list xs ∧ Pv 0 [] ∧ (∀ i x, xs[i]? = some x → LT X env scope ifs elt (own.map (·.2)) A Pv i x) ∧ ∀ acc, Pv xs.length acc → Φ acc) Ψ) : WNt X g (tLc (iList X.K (tI X (semE X iter))) t (semTB X scope ifs) (semEB X scope elt) (own.map (·.2))) env Φ Ψ := fun W tk σ F H st hx Q hQ => by
  refine hi W tk σ F H st hx _ fun d z v F1 H1 ⟨hz, xs, Pv, hd, p0, pt, pe⟩ s1 e1 rd inv => ?_
  subst hz hd
  obtain ⟨a, vs, rfl, hsq, hda⟩ := dp_lst rd
  obtain ⟨pins, sh, I⟩ := inv
  have hlen : vs.length ≤ sizeLine := by
    obtain ⟨_, _, _, hz⟩ := I.list (ex_l s1.ex hsq)
    exact hz
  refine ⟨a, rfl, ⟨vs, ex_l s1.ex hsq⟩, fun D hD => ?_⟩
  have st2 : St X.K g F1 (upd H1 D (.lst [])) (wipe σ (own.map (·.2))) (wipeE env (own.map (·.2))) := (s1.alloc hD).wiped _
  refine lc_list (xs := vs) (LJ X.K g F1 (wipe σ (own.map (·.2))) (wipeE env (own.map (·.2))) Pv D) ⟨F1, [], [], st2, Ex.refl F1, upd_same, .nil, s1.ex.none hD, fun z => s1.there (own_wipe z) hD, s1.h0 hD, p0, Nat.le_refl 0⟩ (fun i H2 _ ⟨F2, _, _, s3, e3, _⟩ => ex_l s3.ex (ex_l e3 hsq)) (fun i x H2 hx2 hJ => ?_) (fun H2 ⟨F2, acc, avs, s3, e3, hD3, hd3, fD, oD, gD, hp, _⟩ => ?_)
  · obtain ⟨d, hd1, hd2⟩ := dpa_of hda hx2
    obtain ⟨l, hA, hl, hb⟩ := pt i d hd1
    exact lc_turn htd hA (lt_idx hl) (by have := (List.getElem?_eq_some_iff.mp hx2).1; omega) hd2 hJ hb
  · rw [dpa_len hda] at hp
    exact hQ acc (.ref D) F2 H2 (pe acc hp) (s1.unwiped hwo s3 e3) (e1.trans e3) ⟨D, avs, rfl, hD3, hd3, fD, fun z => s1.there z hD, gD⟩
theorem wn_lcL (hc : X.calm = true) (hN : X.N.Nodup) (ok : BlkOk X.N X.env.scope scope own) (hpg : ∀ s H C cl fp, PG (BX X scope s H C cl fp) tg t) (htd : TGd X.K t A) (h1 : ifs.length ≤ 1) (hwo : wipeOk env (own.map (·.2)) = true)
    (hi : WE X g iter env (fun d z => z = true ∧ ∃ (xs : List PyData) (Pv : Nat → List PyData → Prop), d = .list xs ∧ Pv 0 [] ∧ (∀ i x, xs[i]? = some x → LT X env scope ifs elt (own.map (·.2)) A Pv i x) ∧ ∀ acc, Pv xs.length acc → Φ acc) Ψ)
    (hs : ∀ x, foldedSetIterable iter X.env x = pure x := by intro _; rfl) : WN X g (.ListComp elt [⟨tg, iter, ifs, 0⟩] scope pos) env Φ Ψ := fun W tk σ F H st hx Q hQ =>
  semE_of (pe_lc hc hN (pi_list (peI iter)) ok hpg (ptsB h1) peB hs) (nt_lcL htd hwo hi W tk σ F H st hx Q hQ)
/-- .. over range(n) -/
theorem nt_lcR1 (htd : TGd X.K t A) (hwo : wipeOk env (own.map (·.2)) = true)
    (hi : WE X g a env (fun d z => ∃ (n : Int) (Pv : Nat → List PyData → Prop), d = .int n ∧ (-1000000 ≤ n ∧ n ≤ 16777216) ∧ Pv 0 [] ∧ (∀ i : Nat, (i : Int) < n → LT X env scope ifs elt (own.map (·.2)) A Pv i (.int i)) ∧ ∀ acc, Pv n.toNat acc → Φ acc) Ψ) : WNt X g (tLc (iRng1 (tCons (semE X a) tNil)) t (semTB X scope ifs) (semEB X scope elt) (own.map (·.2))) env Φ Ψ := fun W tk σ F H st hx Q hQ => by
  have hsl := sizeLine_eq
  refine hi W tk σ F H st hx _ fun d z v F1 H1 ⟨n, Pv, hd, hn, p0, pt, pe⟩ s1 e1 rd => ?_
  subst hd
  rw [rd_int rd]
  refine ⟨n, rfl, by omega, by omega, fun D hD => ?_⟩
  have st2 : St X.K g F1 (upd H1 D (.lst [])) (wipe σ (own.map (·.2))) (wipeE env (own.map (·.2))) := (s1.alloc hD).wiped _
  refine lc_range (lo := 0) (n := n.toNat) (LJ X.K g F1 (wipe σ (own.map (·.2))) (wipeE env (own.map (·.2))) Pv D) ⟨F1, [], [], st2, Ex.refl F1, upd_same, .nil, s1.ex.none hD, fun z => s1.there (own_wipe z) hD, s1.h0 hD, p0, Nat.le_refl 0⟩ (fun i H2 hi2 hJ => ?_) (fun H2 ⟨F2, acc, avs, s3, e3, hD3, hd3, fD, oD, gD, hp, _⟩ => ?_)
  · obtain ⟨l, hA, hl, hb⟩ := pt i (by omega)
    rw [Int.zero_add]
    exact lc_turn htd hA (lt_idx hl) (by omega) (.int _) hJ hb
  · exact hQ acc (.ref D) F2 H2 (pe acc hp) (s1.unwiped hwo s3 e3) (e1.trans e3) ⟨D, avs, rfl, hD3, hd3, fD, fun z => s1.there z hD, gD⟩
theorem wn_lcR1 {p1 p2 : Pos} (hm : X.mg "range" = none) (hc : X.calm = true) (hN : X.N.Nodup) (ok : BlkOk X.N X.env.scope scope own) (hpg : ∀ s H C cl fp, PG (BX X scope s H C cl fp) tg t) (htd : TGd X.K t A) (h1 : ifs.length ≤ 1) (hwo : wipeOk env (own.map (·.2)) = true)
    (hi : WE X g a env (fun d z => ∃ (n : Int) (Pv : Nat → List PyData → Prop), d = .int n ∧ (-1000000 ≤ n ∧ n ≤ 16777216) ∧ Pv 0 [] ∧ (∀ i : Nat, (i : Int) < n → LT X env scope ifs elt (own.map (·.2)) A Pv i (.int i)) ∧ ∀ acc, Pv n.toNat acc → Φ acc) Ψ)
    (hs : ∀ x, foldedSetIterable (.Call (.Name "range" p1) [a] [] p2) X.env x = pure x := by intro _; rfl) (hg : Gl X "range" := by rfl) (he : starEach [a] X.env = [(false, eval a X.env)] := by rfl) :
    WN X g (.ListComp elt [⟨tg, .Call (.Name "range" p1) [a] [] p2, ifs, 0⟩] scope pos) env Φ Ψ := fun W tk σ F H st hx Q hQ =>
  semE_of (pe_lc hc hN (pi_range1 hg hm (pa_cons (peS a) pa_nil (by rw [he]; rfl)) he) ok hpg (ptsB h1) peB hs) (nt_lcR1 htd hwo hi W tk σ F H st hx Q hQ)
end
end
end TL
namespace TL
open PySem PySem.Spec PyProof.Rows L2
/-- a new dict, no slot's; its keys tuples, atoms -/
def NewT (K : Frag) (g : G) (F H : Hp) (env : List Sl) (v : V) (kvs : List (List Key × PyData)) : Prop :=
  ∃ p xs, v = .ref p ∧ H p = some (.dT xs) ∧ KVp K F xs kvs ∧ F p = none ∧ ¬ Own env p ∧ g.H0 p = none
def NewK (K : Frag) (g : G) (F H : Hp) (env : List Sl) (v : V) (kvs : List (Key × PyData)) : Prop :=
  ∃ p xs, v = .ref p ∧ H p = some (.dK xs) ∧ KVp K F xs kvs ∧ F p = none ∧ ¬ Own env p ∧ g.H0 p = none
/-- what is wanted behind a statement -/
structure Po where
  nx : List Sl → Prop
  rt : PR → List Sl → Prop
  bk : List Sl → Prop := fun _ => False
  ct : List Sl → Prop := fun _ => False
  ex : Exc → List Sl → Prop
/-- the same, another end -/
abbrev Po.thn (P : Po) (q : List Sl → Prop) : Po := ⟨q, P.rt, P.bk, P.ct, P.ex⟩
abbrev Po.turn (P : Po) (q : List Sl → Prop) : Po := ⟨q, P.rt, P.nx, q, P.ex⟩
abbrev Po.exn (P : Po) (q : Exc → List Sl → Prop) : Po := ⟨P.nx, P.rt, P.bk, P.ct, q⟩
def RtOk (K : Frag) (g : G) (v : V) (σ' : SS) (F' H' : Hp) (env' : List Sl) : PR → Prop
  | .rd d => Dq K F' v d
  | .nl ds => NewL K g F' H' env' v ds
  | .ar i => σ'[i]? = some (some v) ∧ ∃ s, env'[i]? = some s ∧ s.fp ≠ []
  | .nt kvs => NewT K g F' H' env' v kvs
  | .nk kvs => NewK K g F' H' env' v kvs
  | .sl C => ∃ s, C s ∧ SlOk K F' H' (some v) s ∧ ∀ p ∈ s.fp, F' p = none ∧ ¬ Own env' p ∧ g.H0 p = none
structure DOk (X : Cx) (g : G) (F : Hp) (P : Po) (D : Ends) : Prop where
  nx : ∀ env' σ' F' H', P.nx env' → St X.K g F' H' σ' env' → Ex F F' → D.nx σ' H'
  rt : ∀ r v env' σ' F' H', P.rt r env' → St X.K g F' H' σ' env' → RtOk X.K g v σ' F' H' env' r → D.rt v H'
  bk : ∀ env' σ' F' H', P.bk env' → St X.K g F' H' σ' env' → Ex F F' → D.bk σ' H'
  ct : ∀ env' σ' F' H', P.ct env' → St X.K g F' H' σ' env' → Ex F F' → D.ct σ' H'
def XOk (X : Cx) (g : G) (P : Po) (W : WX) : Prop := ∀ c env' σ' F' H', P.ex c env' → St X.K g F' H' σ' env' → ExcW X.K W σ' H' c
structure SemP (X : Cx) (st : Stmt) (D : Ends) (σ : SS) (H : Hp) : Prop where
  run : ∀ (pins : List (Addr × Obj)) (s : Shared), Inv X pins σ H s → wpAny (model X.prog X.w) X.A (exec st X.env) (SP X pins D) X.xe s
def semP (X : Cx) (st : Stmt) : TS := fun D σ H => SemP X st D σ H
def WS (X : Cx) (g : G) (sts : List Stmt) (env : List Sl) (P : Po) : Prop :=
  ∀ (W : WX), Takes X W → XOk X g P W → ∀ (σ : SS) (F H : Hp), St X.K g F H σ env → ∀ D : Ends, DOk X g F P D → semS X sts D σ H
def W1 (X : Cx) (g : G) (st : Stmt) (env : List Sl) (P : Po) : Prop :=
  ∀ (W : WX), Takes X W → XOk X g P W → ∀ (σ : SS) (F H : Hp), St X.K g F H σ env → ∀ D : Ends, DOk X g F P D → semP X st D σ H
section
variable {X : Cx} {g : G} {env env' : List Sl} {P : Po} {pos p : Pos} {a b c e : Expr} {es : List Expr} {st : Stmt} {rest body orelse : List Stmt} {K : Frag} {F F' H H' : Hp} {σ σ' : SS} {D : Ends} {W : WX}
theorem psP (st : Stmt) : PS X st (semP X st) := ⟨fun pins s _ _ _ I h => h.run pins s I⟩
theorem semP_of {t : TS} (h : PS X st t) (q : t D σ H) : semP X st D σ H := ⟨fun pins s I => h.run pins s σ H D I q⟩
theorem DOk.mono (h : DOk X g F P D) (e : Ex F F') : DOk X g F' P D :=
  ⟨fun a b c d h1 h2 h3 => h.nx a b c d h1 h2 (e.trans h3), h.rt, fun a b c d h1 h2 h3 => h.bk a b c d h1 h2 (e.trans h3), fun a b c d h1 h2 h3 => h.ct a b c d h1 h2 (e.trans h3)⟩
theorem XOk.hx (h : XOk X g P W) (env : List Sl) (σ : SS) : HX X g env (fun c => P.ex c env) W σ := fun c F' H' hc s => h c env σ F' H' hc s
theorem ws_nil (h : P.nx env) : WS X g [] env P := fun W tk hx σ F H st D hD => semS_of pss_nil (hD.nx env σ F H h st (Ex.refl F))
theorem ws_cons (h : W1 X g st env (P.thn fun env' => WS X g rest env' P)) : WS X g (st :: rest) env P := fun W tk hx σ F H s0 D hD => by
  refine semS_of (pss_cons (psP st) (pssS rest)) ?_
  refine h W tk hx σ F H s0 _ ⟨fun env' σ' F' H' hw s' e' => ?_, hD.rt, hD.bk, hD.ct⟩
  exact hw W tk hx σ' F' H' s' D (hD.mono e')
theorem WS.mono {P' : Po} (h : WS X g rest env P) (h1 : ∀ e, P.nx e → P'.nx e) (h2 : ∀ r e, P.rt r e → P'.rt r e) (h3 : ∀ e, P.bk e → P'.bk e) (h4 : ∀ e, P.ct e → P'.ct e) (h5 : ∀ c e, P.ex c e → P'.ex c e) : WS X g rest env P' :=
  fun W tk hx σ F H st D hD => h W tk (fun c e σ' F' H' hc => hx c e σ' F' H' (h5 c e hc)) σ F H st D
    ⟨fun e σ' F' H' q => hD.nx e σ' F' H' (h1 e q), fun r v e σ' F' H' q => hD.rt r v e σ' F' H' (h2 r e q), fun e σ' F' H' q => hD.bk e σ' F' H' (h3 e q), fun e σ' F' H' q => hD.ct e σ' F' H' (h4 e q)⟩
theorem ltB {n m : Nat} (h : Nat.blt n m = true) : n < m := Nat.le_of_ble_eq_true h
/-- x = e -/
theorem w1_set (i : Nat) {x : Str} {pos' : Pos} (hN : X.N.Nodup) (h : WE X g e env (fun d z => z = true ∧ P.nx (env.set i (.d d))) (fun c => P.ex c env)) (hi : X.N[i]? = some x := by rfl) (hx : Loc X.env.scope x := by first | exact Or.inl rfl | exact Or.inr rfl) (hl : Nat.blt i env.length = true := by rfl)
    (hs : swapsWith e (some (.Name x pos')) pos.line X.env = pure false := by rfl) (hf : X.fn x = true ∨ X.env.scope.names.lookup x = some .local := by first | exact .inl rfl | exact .inr rfl) : W1 X g (.Assign [.Name x pos'] e pos) env P := fun W tk hx2 σ F H s0 D hD => by
  refine semP_of (ps_set hN hi hx (peS e) hs hf) ?_
  refine h W tk σ F H s0 (hx2.hx env σ) _ fun d z v F' H' ⟨hz, hp⟩ s' e' r' => ?_
  subst hz
  exact hD.nx _ _ F' H' hp (s'.setD (ltB hl) r') e'
/-- x = e, a new list that x alone holds -/
theorem w1_setN (i : Nat) {x : Str} {pos' : Pos} (hN : X.N.Nodup) (h : WN X g e env (fun ds => ∀ a, a ∉ g.M → P.nx (env.set i (.ol a ds))) (fun c => P.ex c env)) (hi : X.N[i]? = some x := by rfl) (hx : Loc X.env.scope x := by first | exact Or.inl rfl | exact Or.inr rfl) (hl : Nat.blt i env.length = true := by rfl)
    (hs : swapsWith e (some (.Name x pos')) pos.line X.env = pure false := by rfl) (hf : X.fn x = true ∨ X.env.scope.names.lookup x = some .local := by first | exact .inl rfl | exact .inr rfl) : W1 X g (.Assign [.Name x pos'] e pos) env P := fun W tk hx2 σ F H s0 D hD => by
  refine semP_of (ps_set hN hi hx (peS e) hs hf) ?_
  refine h W tk σ F H s0 (hx2.hx env σ) _ fun ds v F' H' hp s' e' ⟨q, vs, hv, h1, h2, h3, h4, h5⟩ => ?_
  subst hv
  exact hD.nx _ _ F' H' (hp q fun m => s'.g6 q m h5) (s'.setL (ltB hl) h1 h2 h3 h4 h5) e'
/-- x = [..] on one line -/
theorem w1_setLc (i : Nat) {y : Str} {py : Pos} {elt tg iter : Expr} {ifs : List Expr} {scope : Scope} {own : List (Str × Nat)} {wi : TI} {t : TG} (hc : X.calm = true) (hN : X.N.Nodup) (hi : PI X tg iter wi) (ok : BlkOk X.N X.env.scope scope own) (hpg : ∀ s H C cl fp, PG (BX X scope s H C cl fp) tg t) (h1 : ifs.length ≤ 1)
    (h : WNt X g (tLc wi t (semTB X scope ifs) (semEB X scope elt) (own.map (·.2))) env (fun ds => P.nx (env.set i (.d (.list ds)))) (fun c => P.ex c env))
    (hy : X.N[i]? = some y := by rfl) (hyl : X.env.scope.names.lookup y = some .local := by rfl) (hl : Nat.blt i env.length = true := by rfl)
    (hsw : swapsWith (.ListComp elt [⟨tg, iter, ifs, 0⟩] scope pos) (some (.Name y py)) p.line X.env = pure true := by exact sw_true rfl rfl rfl (by decide +kernel)) (hs : ∀ x, foldedSetIterable iter X.env x = pure x := by intro _; rfl) :
    W1 X g (.Assign [.Name y py] (.ListComp elt [⟨tg, iter, ifs, 0⟩] scope pos) p) env P := fun W tk hx2 σ F H s0 D hD => by
  refine semP_of (ps_setLc hc hN hy hyl hsw hi ok hpg (ptsB h1) peB hs) ?_
  refine h W tk σ F H s0 (hx2.hx env σ) _ fun ds v F' H' hp s' e' ⟨q, vs, hv, h1, h2, h3, h4, h5⟩ => ?_
  subst hv
  have e2 := Ex.new (o := .lst vs) h3
  exact hD.nx _ _ _ H' hp ((s'.freeze h1 h3 h4 h5).setD (ltB hl) (.lst (SqL.of upd_same) (dpa_mono e2 _ _ h2))) (e'.trans e2)
/-- return e -/
theorem w1_ret (h : WE X g e env (fun d z => z = true ∧ P.rt (.rd d) env) (fun c => P.ex c env)) : W1 X g (.Return (some e) pos) env P := fun W tk hx2 σ F H s0 D hD =>
  semP_of (ps_ret (peS e)) (h W tk σ F H s0 (hx2.hx env σ) _ fun d z v F' H' ⟨hz, hp⟩ s' e' r' => by
    subst hz
    exact hD.rt _ v env σ F' H' hp s' r')
theorem w1_retN (h : WN X g e env (fun ds => P.rt (.nl ds) env) (fun c => P.ex c env)) : W1 X g (.Return (some e) pos) env P := fun W tk hx2 σ F H s0 D hD =>
  semP_of (ps_ret (peS e)) (h W tk σ F H s0 (hx2.hx env σ) _ fun ds v F' H' hp s' e' r' => hD.rt _ v env σ F' H' hp s' r')
/-- return x, x an object that was handed in -/
theorem w1_retA (i : Nat) {x : Str} {q : Pos} {s : Sl} (he : env[i]? = some s) (hne : s.fp ≠ []) (h : P.rt (.ar i) env) (hN : X.N[i]? = some x := by rfl)
    (hv : Vis X.env.scope x := by first | exact Or.inl rfl | exact Or.inr (Or.inl rfl) | exact Or.inr (Or.inr rfl)) (hd : (x == ("__debug__" : Str)) = false := by decide)
    (hcd : (x == ("__classdict__" : Str)) = false := by decide) : W1 X g (.Return (some (.Name x q)) pos) env P := fun W tk hx2 σ F H s0 D hD => by
  refine semP_of (ps_ret (pe_var hN hv hd hcd)) ?_
  have h0 := s0.sl i s he
  obtain ⟨v, hv⟩ : ∃ v, σ[i]?.getD none = some v := by
    cases s with
    | un => exact absurd rfl hne
    | d x => exact absurd rfl hne
    | v x => exact ⟨_, h0⟩
    | ol a ds => exact ⟨_, h0.1⟩
    | bg a => exact ⟨_, h0.1⟩
    | dt a ds => exact ⟨_, h0.1⟩
    | dk a ds => exact ⟨_, h0.1⟩
    | fv l => exact absurd rfl hne
    | fl l => exact absurd rfl hne
    | oo a ds => exact ⟨_, h0.1⟩
    | ow t => exact ⟨h0.choose, h0.choose_spec.1⟩
  exact ⟨v, getD_some hv, hD.rt _ v env σ F H h s0 ⟨getD_some hv, s, he, hne⟩⟩
theorem w1_if (h : WT X g c env (fun k => (k = true → WS X g body env P) ∧ (k = false → WS X g orelse env P)) (fun c => P.ex c env)) : W1 X g (.If c body orelse pos) env P := fun W tk hx2 σ F H s0 D hD => by
  refine semP_of (ps_if (ptS c) (pssS body) (pssS orelse)) ?_
  refine h W tk σ F H s0 (hx2.hx env σ) _ fun k F' H' ⟨h1, h2⟩ s' e' => ?_
  cases k with
  | true => rw [if_pos rfl]; exact h1 rfl W tk hx2 σ F' H' s' D (hD.mono e')
  | false => rw [if_neg Bool.false_ne_true]; exact h2 rfl W tk hx2 σ F' H' s' D (hD.mono e')
/-- x.append(e) -/
theorem w1_append (i : Nat) {x : Str} {q apos cpos : Pos} {al : Addr} {ds : List PyData} (he : env[i]? = some (.ol al ds)) (h : WE X g e env (fun d z => z = true ∧ ds.length < sizeLine ∧ P.nx (env.set i (.ol al (ds ++ [d])))) (fun c => P.ex c env)) (hN : X.N[i]? = some x := by rfl)
    (hv : Vis X.env.scope x := by first | exact Or.inl rfl | exact Or.inr (Or.inl rfl) | exact Or.inr (Or.inr rfl)) (hd : (x == ("__debug__" : Str)) = false := by decide)
    (hcd : (x == ("__classdict__" : Str)) = false := by decide)
    (hbase : attributeBase (.Name x q) "append" X.env (eval (.Name x q) X.env) = eval (.Name x q) X.env := by rfl)
    (hfew : ((backTo cpos (starEach [e] X.env)).all (fun x => !x.1) && (backToKw cpos (keywordEach [] X.env)).all (fun x => x.1.isSome)
      && decide ([e].length + ([] : List Keyword).length + (if ([] : List Keyword).isEmpty then 0 else 1) < 30)) = true := by rfl)
    (hline : (apos.endLine == cpos.line) = true := by rfl) (hs1 : starEach [e] X.env = (false, eval e X.env) :: starEach [] X.env := by rfl) (hplain : (backTo cpos (starEach ([] : List Expr) X.env)).any (·.1) = false := by rfl)
    (hs : swapsWith (.Call (.Attribute (.Name x q) "append" apos) [e] [] cpos) none pos.line X.env = pure false := by rfl) :
    W1 X g (.Expr (.Call (.Attribute (.Name x q) "append" apos) [e] [] cpos) pos) env P := fun W tk hx2 σ F H s0 D hD => by
  refine semP_of (ps_expr (pe_bm PySem.F.plainAttrs_list PySem.F.slot_list_append PySem.F.type_list_append mt_append (pe_var hN hv hd hcd) (pa_cons (peS e) pa_nil hs1) hbase hfew hline hs1 hplain) hs) ?_
  obtain ⟨h1, vs, h2, h3⟩ := s0.sl i _ he
  refine ⟨_, getD_some h1, .inl ⟨rfl, vs, SqL.of h2⟩, ?_⟩
  refine h W tk σ F H s0 (hx2.hx env σ) _ fun d z v F' H' ⟨hz, hl, hp⟩ s' e' r' => ?_
  subst hz
  obtain ⟨h1', vs', h2', h3'⟩ := s'.sl i _ he
  refine ⟨al, vs', v, rfl, rfl, h2', by rw [dpa_len h3']; exact hl, ?_⟩
  exact hD.nx _ _ F' _ hp (s'.write he rfl rfl ⟨h1', vs' ++ [v], upd_same, dpa_app h3' (dpa_one r')⟩) e'
/-- x[k] = e -/
theorem w1_setix (i : Nat) {x : Str} {ix : Expr} {q tpos : Pos} {al : Addr} {ds : List PyData} (he : env[i]? = some (.ol al ds)) (h : WE X g e env (fun d z => z = true ∧ WE X g ix env (fun k _ => ∃ n j, k = .int n ∧ ixN ds.length n = some j ∧ P.nx (env.set i (.ol al (ds.set j d)))) (fun c => P.ex c env)) (fun c => P.ex c env)) (hN : X.N[i]? = some x := by rfl)
    (hv : Vis X.env.scope x := by first | exact Or.inl rfl | exact Or.inr (Or.inl rfl) | exact Or.inr (Or.inr rfl)) (hd : (x == ("__debug__" : Str)) = false := by decide)
    (hcd : (x == ("__classdict__" : Str)) = false := by decide)
    (ha : ∀ v, assign (.Subscript (.Name x q) ix tpos) X.env v = (do
      let ov ← holding [v] (eval (.Name x q) X.env)
      let iv ← holding [v, ov] (eval ix X.env)
      standAt tpos
      holding [v, ov, iv] (setItem ov iv v)
      release [v, ov, iv] []) := by intro _; rfl)
    (hs : swapsWithSole [.Subscript (.Name x q) ix tpos] e pos.line X.env = pure false := by rfl) (hw : swappedStores [.Subscript (.Name x q) ix tpos] e X.env = pure none := by rfl)
    (h1 : (assignEach [.Subscript (.Name x q) ix tpos] X.env).map (·.2) = [assign (.Subscript (.Name x q) ix tpos) X.env] := by rfl) : W1 X g (.Assign [.Subscript (.Name x q) ix tpos] e pos) env P := fun W tk hx2 σ F H s0 D hD => by
  refine semP_of (ps_asg (peS e) (pg_sub (pe_var hN hv hd hcd) (peS ix) set_list ha) hs hw h1) ?_
  refine h W tk σ F H s0 (hx2.hx env σ) _ fun d z v F1 H1 ⟨hz, hp⟩ s1 e1 r1 => ?_
  subst hz
  obtain ⟨h1, vs, h2, h3⟩ := s1.sl i _ he
  refine ⟨_, getD_some h1, ?_⟩
  refine hp W tk σ F1 H1 s1 (hx2.hx env σ) _ fun k z2 w F2 H2 ⟨n, j, hk, hj, hp2⟩ s2 e2 r2 => ?_
  subst hk
  obtain ⟨h1', vs', h2', h3'⟩ := s2.sl i _ he
  refine ⟨al, vs', n, j, rfl, rd_int r2, h2', by rw [dpa_len h3']; exact hj, ?_⟩
  exact hD.nx _ _ F2 _ hp2 (s2.write he rfl rfl ⟨h1', vs'.set j v, upd_same, dpa_set j h3' (dp_mono e2 _ _ r1)⟩) (e1.trans e2)
/-- x[k] read, for an augmented store -/
def rGetL : V → V → Hp → VK → Prop := fun o i H Q => ∃ p xs k v, o = .ref p ∧ i = .int k ∧ H p = some (.lst xs) ∧ atI xs k = some v ∧ Q v H
theorem get_list : PGet X rGetL := fun pins s σ H o i ov iv Q I ro ri ⟨p, xs, k, v, ho, hi, hH, ha, q⟩ => by
  subst ho hi
  cases ro
  obtain ⟨t, rfl⟩ := ri
  obtain ⟨its, r, pl, hz⟩ := I.list (SqL.of hH)
  obtain ⟨j, h1, h2, h3, h4, h5⟩ := atI_get ha
  obtain ⟨w, ew, rw'⟩ := r.get h2
  have hl := r.length
  have hn := line63
  have fin : EP X pins σ Q w s := ⟨v, H, I, rw', q⟩
  by_cases h0 : 0 ≤ k
  · have hj : k.toNat = j := by
      rw [seqIndex_of h0 h5] at h1
      exact Option.some.inj h1
    exact wpAny_getItem_list pl.isList h0 (by omega) (by rw [hj]; simpa using ew) fin
  · have hj : (k + (its.toArray.size : Int)).toNat = j := by
      rw [seqIndex_neg (by omega) h4] at h1
      rw [List.size_toArray, ← hl]
      exact Option.some.inj h1
    exact wpAny_getItem_list_neg pl.isList (by omega) (by rw [List.size_toArray]; omega) (by omega) (by rw [hj]; simpa using ew) fin
/-- x[k] += e, ints -/
theorem w1_augix (i : Nat) {x : Str} {ix : Expr} {q tpos : Pos} {al : Addr} {ds : List PyData} (he : env[i]? = some (.ol al ds))
    (h : WE X g ix env (fun k _ => ∃ n j u, k = .int n ∧ ixN ds.length n = some j ∧ ds[j]? = some (.int u) ∧ WE X g e env (fun d _ => ∃ m, d = .int m ∧ P.nx (env.set i (.ol al (ds.set j (.int (u + m)))))) (fun c => P.ex c env)) (fun c => P.ex c env)) (hN : X.N[i]? = some x := by rfl)
    (hv : Vis X.env.scope x := by first | exact Or.inl rfl | exact Or.inr (Or.inl rfl) | exact Or.inr (Or.inr rfl)) (hd : (x == ("__debug__" : Str)) = false := by decide)
    (hcd : (x == ("__classdict__" : Str)) = false := by decide)
    (ha : ∀ ov iv new, augStore ix ov iv new = (do holding [new, ov, iv] (setItem ov iv new); release [new, ov, iv] []; pure .next) := by intros; rfl) : W1 X g (.AugAssign (.Subscript (.Name x q) ix tpos) .Add e pos) env P := fun W tk hx2 σ F H s0 D hD => by
  refine semP_of (ps_augS (pe_var hN hv hd hcd) (peS ix) get_list (peS e) ip_add set_list ha) ?_
  obtain ⟨h1, vs, h2, h3⟩ := s0.sl i _ he
  refine ⟨_, getD_some h1, ?_⟩
  refine h W tk σ F H s0 (hx2.hx env σ) _ fun k z1 w F1 H1 ⟨n, j, u, hk, hj, hu, hp⟩ s1 e1 r1 => ?_
  subst hk
  obtain ⟨h1', vs', h2', h3'⟩ := s1.sl i _ he
  obtain ⟨v0, hv0, hdv⟩ := dpa_get h3' hu
  have hat : atI vs' n = some v0 := by
    unfold atI
    rw [dpa_len h3', hj]
    exact hv0
  refine ⟨al, vs', n, v0, rfl, rd_int r1, h2', hat, ?_⟩
  refine hp W tk σ F1 H1 s1 (hx2.hx env σ) _ fun d z2 w2 F2 H2 ⟨m, hm, hp2⟩ s2 e2 r2 => ?_
  subst hm
  obtain ⟨h1'', vs'', h2'', h3''⟩ := s2.sl i _ he
  refine ⟨u, m, dp_int hdv, rd_int r2, al, vs'', n, j, rfl, rd_int r1, h2'', by rw [dpa_len h3'']; exact hj, ?_⟩
  exact hD.nx _ _ F2 _ hp2 (s2.write he rfl rfl ⟨h1'', vs''.set j (.int (u + m)), upd_same, dpa_set j h3'' (.int _)⟩) (e1.trans e2)
/-- the state between turns -/
def FJ (K : Frag) (g : G) (F1 : Hp) (Pv : Nat → List Sl → Prop) (i : Nat) (σ : SS) (H : Hp) : Prop := ∃ F env', St K g F H σ env' ∧ Ex F1 F ∧ Pv i env'
section
variable {tg iter : Expr} {t : TG} {A : PyData → Option (List (Nat × PyData))}
/-- one turn -/
def FT (X : Cx) (g : G) (body : List Stmt) (A : PyData → Option (List (Nat × PyData))) (P : Po) (Pv : Nat → List Sl → Prop) (i : Nat) (x : PyData) : Prop :=
  ∀ env', Pv i env' → ∃ l, A x = some l ∧ (l.all fun q => Nat.blt q.1 env'.length) = true ∧ WS X g body (putsE env' l) (P.turn (Pv (i + 1)))
theorem for_turn {F1 : Hp} {Pv : Nat → List Sl → Prop} {i : Nat} {x : PyData} {v : V} (tk : Takes X W) (hx2 : XOk X g P W) (hD : DOk X g F1 P D) (htd : TGd X.K t A) (hv : Dq X.K F1 v x) (hJ : FJ X.K g F1 Pv i σ H) (h : FT X g body A P Pv i x) :
    t v σ H fun σ2 H2 => semS X body { D with nx := FJ X.K g F1 Pv (i + 1), ct := FJ X.K g F1 Pv (i + 1), bk := D.nx } σ2 H2 := by
  obtain ⟨F, env', s1, e1, hp⟩ := hJ
  obtain ⟨l, hA, hl, hw⟩ := h env' hp
  refine htd x l σ F H v _ hA s1.ex (dp_mono e1 _ _ hv) fun r sr => ?_
  have s2 := s1.sets sr fun q hq => ltB (List.all_eq_true.mp hl q hq)
  exact hw W tk hx2 _ F H s2 _ ⟨fun e2 σ' F' H' q s' ex => ⟨F', e2, s', e1.trans ex, q⟩, hD.rt, fun e2 σ' F' H' q s' ex => hD.nx e2 σ' F' H' q s' (e1.trans ex), fun e2 σ' F' H' q s' ex => ⟨F', e2, s', e1.trans ex, q⟩⟩
theorem w1_forL (hp : PassesOwn (model X.prog X.w) X.A X.env X.xe) (hc : X.calm = true) (hpg : PG X tg t) (htd : TGd X.K t A)
    (hi : WE X g iter env (fun d z => z = true ∧ ∃ (xs : List PyData) (Pv : Nat → List Sl → Prop), d = .list xs ∧ Pv 0 env ∧ (∀ i x, xs[i]? = some x → FT X g body A P Pv i x) ∧ ∀ e, Pv xs.length e → P.nx e) (fun c => P.ex c env))
    (hs : ∀ x, foldedSetIterable iter X.env x = pure x := by intro _; rfl) : W1 X g (.For tg iter body [] pos) env P := fun W tk hx2 σ F H s0 D hD => by
  refine semP_of (ps_for hp hc (pi_list (peS iter)) hpg (pssS body) hs) ?_
  refine hi W tk σ F H s0 (hx2.hx env σ) _ fun d z v F1 H1 ⟨hz, xs, Pv, hd, p0, pt, pe⟩ s1 e1 rd => ?_
  subst hz hd
  obtain ⟨a, vs, rfl, hsq, hda⟩ := dp_lst rd
  refine ⟨a, rfl, ⟨vs, ex_l s1.ex hsq⟩, ?_⟩
  refine for_list (xs := vs) (FJ X.K g F1 Pv) ⟨F1, env, s1, Ex.refl F1, p0⟩ (fun i σ' H' _ ⟨F2, e2, s2, ex2, _⟩ => ex_l s2.ex (ex_l ex2 hsq)) (fun i x σ' H' hx hJ => ?_) (fun σ' H' ⟨F2, e2, s2, ex2, hp2⟩ => ?_)
  · obtain ⟨d, hd1, hd2⟩ := dpa_of hda hx
    exact for_turn tk hx2 (hD.mono e1) htd hd2 hJ (pt i d hd1)
  · rw [dpa_len hda] at hp2
    exact hD.nx e2 σ' F2 H' (pe e2 hp2) s2 (e1.trans ex2)
end
end
end TL
namespace TL
open PySem PySem.Spec PyProof.Rows L2
def BackS : Sl → Sl → Sl → Prop
  | .un, _, s' => s' = .un
  | .d x, _, s' => s' = .d x
  | .v x, _, s' => s' = .v x
  | .ol a _, .ol b ds', s' => b = a ∧ s' = .ol a ds'
  | .bg a, .bg b, s' => b = a ∧ s' = .bg a
  | .bg a, .ol b ds, s' => b = a ∧ BagD ds ∧ s' = .bg a
  | .dt a _, .dt b kvs, s' => b = a ∧ s' = .dt a kvs
  | .dk a _, .dk b kvs, s' => b = a ∧ s' = .dk a kvs
  | .ow t, .ow u, s' => u.id = t.id ∧ s' = .ow u
  | _, _, _ => False
def Back : List Sl → List Sl → List Sl → Prop
  | [], _, r => r = []
  | s :: r, e :: env, s' :: r' => BackS s e s' ∧ Back r env r'
  | _, _, _ => False
theorem backS_sub {s e s' : Sl} (h : BackS s e s') : ∀ a ∈ s'.fp, a ∈ e.fp := by
  cases s with
  | un => rw [show s' = _ from h]; intro a z; cases z
  | d x => rw [show s' = _ from h]; intro a z; cases z
  | v x => rw [show s' = _ from h]; intro a z; cases z
  | ol a ds => cases e <;> first | exact h.elim | (obtain ⟨rfl, rfl⟩ := h; exact fun _ z => z)
  | bg a => cases e <;> first | exact h.elim | (obtain ⟨rfl, rfl⟩ := h; exact fun _ z => z) | (obtain ⟨rfl, _, rfl⟩ := h; exact fun _ z => z)
  | dt a ds => cases e <;> first | exact h.elim | (obtain ⟨rfl, rfl⟩ := h; exact fun _ z => z)
  | dk a ds => cases e <;> first | exact h.elim | (obtain ⟨rfl, rfl⟩ := h; exact fun _ z => z)
  | oo a ds => cases e <;> exact h.elim
  | fv l => cases e <;> exact h.elim
  | fl l => cases e <;> exact h.elim
  | ow t => cases e <;> first | exact h.elim | (obtain ⟨_, rfl⟩ := h; exact fun _ z => z)
theorem backS_val {K : Frag} {F F' H H' : Hp} {o o' : Option V} {s e s' : Sl} (h : BackS s e s') (hne : e.fp ≠ []) (hs : s'.fp ≠ []) (h0 : SlOk K F H o s) (h1 : SlOk K F' H' o' e) : o = o' := by
  cases s with
  | un => rw [show s' = _ from h] at hs; exact absurd rfl hs
  | d x => rw [show s' = _ from h] at hs; exact absurd rfl hs
  | v x => rw [show s' = _ from h] at hs; exact absurd rfl hs
  | ol a ds => cases e <;> first | exact h.elim | exact h0.1.trans (by rw [h1.1, h.1])
  | bg a => cases e <;> first | exact h.elim | exact h0.1.trans (by rw [h1.1, h.1])
  | dt a ds => cases e <;> first | exact h.elim | exact h0.1.trans (by rw [h1.1, h.1])
  | dk a ds => cases e <;> first | exact h.elim | exact h0.1.trans (by rw [h1.1, h.1])
  | oo a ds => cases e <;> exact h.elim
  | fv l => cases e <;> exact h.elim
  | fl l => cases e <;> exact h.elim
  | ow t => cases e <;> first
      | exact h.elim
      | (obtain ⟨v, q1, q2⟩ := h0; obtain ⟨w, q3, q4⟩ := h1; rw [q1, q3, t.isr q2, OwT.isr _ q4, h.1])
theorem back_len : ∀ {args env args' : List Sl}, Back args env args' → args'.length = args.length
  | [], _, _, h => by rw [show _ = [] from h]
  | s :: r, e :: env, s' :: r', h => congrArg Nat.succ (back_len h.2)
  | _ :: _, [], _, h => h.elim
  | _ :: _, _ :: _, [], h => h.elim
theorem back_get : ∀ {args env args' : List Sl} {i : Nat} {s' : Sl}, Back args env args' → args'[i]? = some s' → ∃ s e, args[i]? = some s ∧ env[i]? = some e ∧ BackS s e s'
  | [], _, _, i, s', h, e => by rw [show _ = [] from h] at e; simp at e
  | s :: r, e :: env, t :: r', 0, s', h, q => by
    have e' := Option.some.inj q
    subst e'
    exact ⟨s, e, rfl, rfl, h.1⟩
  | s :: r, e :: env, t :: r', i + 1, s', h, q => back_get (i := i) h.2 q
  | _ :: _, [], _, _, _, h, _ => h.elim
  | _ :: _, _ :: _, [], _, _, h, _ => h.elim
theorem slok_back {K : Frag} {F F' H H' : Hp} {o o' : Option V} {s e s' : Sl} (h : BackS s e s') (e0 : Ex F F') (h0 : SlOk K F H o s) (h1 : SlOk K F' H' o' e) : SlOk K F' H' o s' := by
  cases s with
  | un => rw [show s' = .un from h]; trivial
  | d x => rw [show s' = .d x from h]; obtain ⟨v, q1, q2⟩ := h0; exact ⟨v, q1, dp_mono e0 _ _ q2⟩
  | v x => rw [show s' = .v x from h]; exact h0
  | ol a ds =>
    cases e <;> first
      | exact h.elim
      | (obtain ⟨rfl, rfl⟩ := h; exact ⟨h0.1, h1.2⟩)
  | bg a =>
    cases e <;> first
      | exact h.elim
      | (obtain ⟨rfl, rfl⟩ := h; exact ⟨h0.1, h1.2⟩)
      | (obtain ⟨rfl, hb, rfl⟩ := h; obtain ⟨_, vs, q1, q2⟩ := h1; exact ⟨h0.1, _, vs, hb, q1, q2⟩)
  | dt a ds =>
    cases e <;> first
      | exact h.elim
      | (obtain ⟨rfl, rfl⟩ := h; exact ⟨h0.1, h1.2⟩)
  | dk a ds =>
    cases e <;> first
      | exact h.elim
      | (obtain ⟨rfl, rfl⟩ := h; exact ⟨h0.1, h1.2⟩)
  | oo a ds => cases e <;> exact h.elim
  | fv l => cases e <;> exact h.elim
  | fl l => cases e <;> exact h.elim
  | ow t =>
    cases e <;> first
      | exact h.elim
      | (obtain ⟨hi, rfl⟩ := h
         obtain ⟨v, q1, q2⟩ := h0
         obtain ⟨w, q3, q4⟩ := h1
         have e1 := t.isr q2
         have e2 := OwT.isr _ q4
         rw [hi, ← e1] at e2
         subst e2
         exact ⟨w, q1, q4⟩)
def prIx (args args' : List Sl) : PR → Prop
  | .ar i => i < args.length ∧ ∀ s', args'[i]? = some s' → s'.fp ≠ []
  | _ => True
/-- what a body is to reach -/
def endOf (args : List Sl) (Φ : PR → List Sl → Prop) (Ψ : Exc → List Sl → Prop) : Po where
  nx := fun env' => ∃ args', Φ (.rd .none) args' ∧ Back args env' args'
  rt := fun r env' => ∃ args', Φ r args' ∧ prIx args args' r ∧ Back args env' args'
  ex := fun c env' => ∃ args', Ψ c args' ∧ Back args env' args'
theorem pad_get {args : List Sl} {n i : Nat} {s : Sl} (h : (args ++ List.replicate n .un)[i]? = some s) : args[i]? = some s ∨ s = .un := by
  by_cases hi : i < args.length
  · rw [List.getElem?_append_left hi] at h; exact .inl h
  · rw [List.getElem?_append_right (by omega)] at h
    rw [List.getElem?_replicate] at h
    split at h
    · exact .inr (Option.some.inj h).symm
    · cases h
theorem Sk.pad {K : Frag} {F H : Hp} {vs : List V} {args : List Sl} {N : List Str} (sk : Sk K F H (vs.map some) args) (hl : vs.length ≤ N.length) : Sk K F H (L2.start N vs) (args ++ List.replicate (N.length - vs.length) .un) := by
  have hlen : args.length = vs.length := by have := sk.len; rw [List.length_map] at this; exact this.symm
  have ow : ∀ a, Own (args ++ List.replicate (N.length - vs.length) .un) a → Own args a := fun a ⟨i, s, h1, h2⟩ => by
    rcases pad_get h1 with q | q
    · exact ⟨i, s, q, h2⟩
    · subst q; cases h2
  refine ⟨by unfold L2.start; simp only [List.length_append, List.length_map, List.length_replicate]; omega, fun i s h => ?_, fun i j s t a h1 h2 h3 h4 => ?_, fun a h => sk.fr a (ow a h), sk.ex, sk.tf, sk.tk⟩
  · rcases pad_get h with q | q
    · have hi : i < (vs.map some).length := by rw [List.length_map, ← hlen]; exact (List.getElem?_eq_some_iff.mp q).1
      have e : (L2.start N vs)[i]? = (vs.map some)[i]? := by unfold L2.start; rw [List.getElem?_append_left hi]
      rw [e]; exact sk.sl i s q
    · subst q; trivial
  · rcases pad_get h1 with q | q
    · rcases pad_get h2 with q2 | q2
      · exact sk.nd i j s t a q q2 h3 h4
      · subst q2; cases h4
    · subst q; cases h3
section
variable {P : Program} {w : World} {K : Frag} {mg : Str → Option Value} {base : Heap} {f : Addr} {fd : FuncData} {N ps : List Str} {k : Nat} {S : CT}
theorem fn_okL {m x : Str} {st : Stmt} {dvs : List V} {kws : List (Str × V)} (F : FunD K m x (defArgs st) (defBody st) (defScope st) dvs kws f fd) (sc : FnScope N ps (defScope st)) (hln : Nat.ble ps.length N.length = true)
    (body : ∀ (cdv : Value) (A : Around) (outer : List Env) (s : Shared) (H : Hp) (E : XK) (g : G) (args : List Sl) (Φ : PR → List Sl → Prop) (Ψ : Exc → List Sl → Prop),
      Room k (cxOf (L2.CX P w) P w K mg base N x (defScope st) f cdv A outer s H E).A →
      PassesOwn (model P w) (cxOf (L2.CX P w) P w K mg base N x (defScope st) f cdv A outer s H E).A (cxOf (L2.CX P w) P w K mg base N x (defScope st) f cdv A outer s H E).env (cxOf (L2.CX P w) P w K mg base N x (defScope st) f cdv A outer s H E).xe →
      g.M = fps args → args.length = ps.length → S args Φ Ψ →
      fd.code = cdv → WS (cxOf (L2.CX P w) P w K mg base N x (defScope st) f cdv A outer s H E) g (defBody st) (args ++ List.replicate (N.length - ps.length) .un) (endOf args Φ Ψ)) : FnOk P w K mg base (L2.CX P w) (k + 1) f fd ps (spOf K ps.length S) := by
  obtain ⟨oc, od, dV, kV, doc, pm, an, cdv, ct, osl, rfl, lk, hcd, _, _⟩ := F.ex
  refine fn_of lk hcd sc (fun vs H Q E h => h.1) fun A outer s H vs Q E hr h => ?_
  obtain ⟨hvl, F0, args, Φ, Ψ, hS, sk, hret, hexc⟩ := h
  have hal : args.length = ps.length := by have := sk.len; rw [List.length_map] at this; omega
  have hln' : ps.length ≤ N.length := Nat.le_of_ble_eq_true hln
  refine ⟨semS _ _, pssS _, ?_⟩
  have skp := sk.pad (N := N) (by omega)
  rw [hvl] at skp
  have fpe : ∀ a, a ∈ fps args ↔ Own args a := fun a => own_fps.symm
  have st0 : St K ⟨F0, H, fps args⟩ F0 H (L2.start N vs) (args ++ List.replicate (N.length - ps.length) .un) :=
    { skp with
      gt := ⟨fun a ps h => (by show H a ≠ none; rw [show H a = _ from h]; intro z; cases z), fun p hp z => (by obtain ⟨ps, h1, _⟩ := sk.tk.tb p hp; have z : H p.1 = none := z; rw [h1] at z; cases z)⟩
      g1 := fun _ _ h _ _ => h, g3 := Ex.refl F0, g4 := fun a h => .inl h
      g2 := fun a ⟨i, s, h1, h2⟩ => by
        rcases pad_get h1 with q | q
        · exact .inr ((fpe a).mpr ⟨i, s, q, h2⟩)
        · subst q; cases h2
      g5 := fun a h => sk.there ((fpe a).mp h)
      g6 := fun a h => sk.there ((fpe a).mp h) }
  -- what holds at every end
  have fin : ∀ {F' H' : Hp} {σ' : SS} {env' args' : List Sl}, St K ⟨F0, H, fps args⟩ F' H' σ' env' → Back args env' args' →
      Sk K F' H' (vs.map some) args' ∧ Step F0 H args F' H' ∧ (∀ a, Own args' a → Own args a ∨ H a = none) ∧ ∀ a, Own args' a → Own env' a := fun {F' H' σ' env' args'} s' hbk => by
    have sub : ∀ a, Own args' a → (Own args a ∨ H a = none) ∧ Own env' a := fun a ⟨i, t, h1, h2⟩ => by
      obtain ⟨s, e, q1, q2, q3⟩ := back_get hbk h1
      have oe : Own env' a := ⟨i, e, q2, backS_sub q3 a h2⟩
      refine ⟨?_, oe⟩
      rcases s'.g2 a oe with z | z
      · exact .inr z
      · exact .inl ((fpe a).mp z)
    refine ⟨⟨by rw [List.length_map, back_len hbk]; omega, fun i t h => ?_, fun i j s t a h1 h2 h3 h4 => ?_, fun a h => s'.fr a (sub a h).2, s'.ex, s'.tf, s'.tk⟩, ⟨s'.g3, fun a o h hn n => s'.g1 a o h (fun m => hn ((fpe a).mp m)) n, fun a h => s'.g4 a h, fun a h => ?_⟩, fun a h => (sub a h).1, fun a h => (sub a h).2⟩
    · obtain ⟨s, e, q1, q2, q3⟩ := back_get hbk h
      exact slok_back q3 s'.g3 (sk.sl i s q1) (s'.sl i e q2)
    · obtain ⟨s1, e1, _, q2, q3⟩ := back_get hbk h1
      obtain ⟨s2, e2, _, q5, q6⟩ := back_get hbk h2
      exact s'.nd i j e1 e2 a q2 q5 (backS_sub q3 a h3) (backS_sub q6 a h4)
    · intro z
      by_cases m : a ∈ fps args
      · exact s'.g5 a m z
      · cases q : H a with
        | none => exact h q
        | some u =>
          by_cases ht : ∃ ps, u = .tbl ps
          · obtain ⟨ps, rfl⟩ := ht; exact s'.gt.g7 a ps q z
          · rw [s'.g1 a u q m fun ps y => ht ⟨ps, y⟩] at z; cases z
  have hb0 := body cdv A outer s H E ⟨F0, H, fps args⟩ args Φ Ψ hr (passes_of rfl) rfl hal hS rfl
  refine hb0 (fun cls d _ H => E cls d H) (takes_of rfl rfl rfl rfl) (fun c env' σ' F' H' ⟨args', hp, hbk⟩ s' => ?_) (L2.start N vs) F0 H st0 _ ⟨fun env' σ' F' H' ⟨args', hp, hbk⟩ s' e' => ?_, fun r v env' σ' F' H' ⟨args', hp, hix, hbk⟩ s' ro => ?_, fun _ _ _ _ h => h.elim, fun _ _ _ _ h => h.elim⟩
  · obtain ⟨h1, h2, h3, h4⟩ := fin s' hbk
    have := hexc c args' F' H' hp h1 h2 h3
    cases c <;> exact this
  · obtain ⟨h1, h2, h3, h4⟩ := fin s' hbk
    exact hret (.rd .none) .non args' F' H' hp h1 h2 h3 .non
  · obtain ⟨h1, h2, h3, h4⟩ := fin s' hbk
    refine hret r v args' F' H' hp h1 h2 h3 ?_
    cases r with
    | rd d => exact ro
    | nl ds =>
      obtain ⟨p, xs, q1, q2, q3, q4, q5, q6⟩ := ro
      exact ⟨p, xs, q1, q2, q3, q4, q6, fun z => q5 (h4 p z)⟩
    | nt ds =>
      obtain ⟨p, xs, q1, q2, q3, q4, q5, q6⟩ := ro
      exact ⟨p, xs, q1, q2, q3, q4, q6, fun z => q5 (h4 p z)⟩
    | nk ds =>
      obtain ⟨p, xs, q1, q2, q3, q4, q5, q6⟩ := ro
      exact ⟨p, xs, q1, q2, q3, q4, q6, fun z => q5 (h4 p z)⟩
    | sl C =>
      obtain ⟨t, c1, c2, c3⟩ := ro
      exact ⟨t, c1, c2, fun p hp => by obtain ⟨y1, y2, y3⟩ := c3 p hp; exact ⟨y1, y3, fun z => y2 (h4 p z)⟩⟩
    | ar i =>
      obtain ⟨q1, e, q2, q3⟩ := ro
      obtain ⟨hi, hown⟩ : i < args.length ∧ ∀ s', args'[i]? = some s' → s'.fp ≠ [] := hix
      have hi' : i < args'.length := by rw [back_len hbk]; exact hi
      obtain ⟨s0, e0, q4, q5, q6⟩ := back_get hbk (List.getElem?_eq_getElem hi')
      rw [q2] at q5
      have q5' := Option.some.inj q5
      subst q5'
      have k2 := s'.sl i e q2
      rw [q1] at k2
      show vs[i]? = some v
      have hv : i < vs.length := by omega
      have k1 := sk.sl i s0 q4
      have ev : ((vs.map some)[i]?.getD none : Option V) = some vs[i] := vmap_get (List.getElem?_eq_getElem hv)
      rw [ev] at k1
      have z := backS_val q6 q3 (hown _ (List.getElem?_eq_getElem hi')) k1 k2
      rw [List.getElem?_eq_getElem hv]
      exact z
theorem fn_ok {m x : Str} {st : Stmt} {dvs : List V} {kws : List (Str × V)} (F : FunD K m x (defArgs st) (defBody st) (defScope st) dvs kws f fd) (sc : FnScope N ps (defScope st)) (hln : Nat.ble ps.length N.length = true)
    (body : ∀ (cdv : Value) (A : Around) (outer : List Env) (s : Shared) (H : Hp) (E : XK) (g : G) (args : List Sl) (Φ : PR → List Sl → Prop) (Ψ : Exc → List Sl → Prop),
      Room k (cxOf (L2.CX P w) P w K mg base N x (defScope st) f cdv A outer s H E).A →
      PassesOwn (model P w) (cxOf (L2.CX P w) P w K mg base N x (defScope st) f cdv A outer s H E).A (cxOf (L2.CX P w) P w K mg base N x (defScope st) f cdv A outer s H E).env (cxOf (L2.CX P w) P w K mg base N x (defScope st) f cdv A outer s H E).xe →
      g.M = fps args → args.length = ps.length → S args Φ Ψ →
      WS (cxOf (L2.CX P w) P w K mg base N x (defScope st) f cdv A outer s H E) g (defBody st) (args ++ List.replicate (N.length - ps.length) .un) (endOf args Φ Ψ)) : FnOk P w K mg base (L2.CX P w) (k + 1) f fd ps (spOf K ps.length S) :=
  fn_okL F sc hln fun cdv A outer s H E g args Φ Ψ h1 h2 h3 h4 h5 _ => body cdv A outer s H E g args Φ Ψ h1 h2 h3 h4 h5
theorem fn_has {x : Str} {st : Stmt} {dvs : List V} {kws : List (Str × V)} (F : FunD K x x (defArgs st) (defBody st) (defScope st) dvs kws f fd) (hm : mg x = some (.ref f)) (sc : FnScope N ps (defScope st)) (hb : Binds K fd ps []) (hln : Nat.ble ps.length N.length = true)
    (body : ∀ (cdv : Value) (A : Around) (outer : List Env) (s : Shared) (H : Hp) (E : XK) (g : G) (args : List Sl) (Φ : PR → List Sl → Prop) (Ψ : Exc → List Sl → Prop),
      Room k (cxOf (L2.CX P w) P w K mg base N x (defScope st) f cdv A outer s H E).A →
      PassesOwn (model P w) (cxOf (L2.CX P w) P w K mg base N x (defScope st) f cdv A outer s H E).A (cxOf (L2.CX P w) P w K mg base N x (defScope st) f cdv A outer s H E).env (cxOf (L2.CX P w) P w K mg base N x (defScope st) f cdv A outer s H E).xe →
      g.M = fps args → args.length = ps.length → S args Φ Ψ →
      WS (cxOf (L2.CX P w) P w K mg base N x (defScope st) f cdv A outer s H E) g (defBody st) (args ++ List.replicate (N.length - ps.length) .un) (endOf args Φ Ψ)) : Has P w K mg base (k + 1) x ps S := ⟨f, fd, hm, F.kp, hb, fn_ok F sc hln body⟩
end
def ExM (K : Frag) : Exc → Str → Option Bool
  | .own m, n => PySem.W.exmOne K (.ref (He.ga K m)) (.ref (He.ga K n))
  | .ownF m _, n => PySem.W.exmOne K (.ref (He.ga K m)) (.ref (He.ga K n))
section
variable {X : Cx} {g : G} {env env' : List Sl} {P : Po} {pos p : Pos} {body : List Stmt} {F F' H H' : Hp} {σ σ' : SS} {D : Ends} {W : WX}
theorem St.at {K : Frag} (st : St K g F H σ env) : St K { g with F0 := F } F H σ env :=
  { st.toSk with gt := ⟨st.gt.g7, st.gt.g8⟩, g1 := st.g1, g2 := st.g2, g3 := Ex.refl F, g4 := fun a h => .inl h, g5 := st.g5, g6 := st.g6 }
theorem St.ofAt {K : Frag} (st : St K g F H σ env) (s' : St K { g with F0 := F } F' H' σ' env') : St K g F' H' σ' env' :=
  { s'.toSk with gt := ⟨s'.gt.g7, s'.gt.g8⟩, g1 := s'.g1, g2 := s'.g2, g3 := st.g3.trans s'.g3, g5 := s'.g5, g6 := s'.g6
                 g4 := fun a h => by
                   rcases s'.g4 a h with q | q
                   · exact st.g4 a q
                   · exact .inr q }
end
def cLaw : CT := fun args Φ Ψ => ∃ ns : List Int, args = [.d (.list (ns.map .int))] ∧ ns.length ≤ 63 ∧ Φ (.rd (.bool true)) args
def noTb (H : Hp) : Hp := fun b => match H b with
  | some (.tbl _) => none
  | o => o
theorem noTb_of {H : Hp} {b : Addr} {u : HO} (h : H b = some u) (n : ntb u) : noTb H b = some u := by
  unfold noTb
  split
  · rename_i ps e; rw [h] at e; exact absurd (Option.some.inj e) (n ps)
  · exact h
theorem noTb_to {H : Hp} {b : Addr} {u : HO} (h : noTb H b = some u) : H b = some u ∧ ntb u := by
  unfold noTb at h
  split at h
  · cases h
  · rename_i e
    exact ⟨h, fun ps z => e ps (by rw [h, z])⟩
theorem noTb_sql {K : Frag} {H : Hp} {a : Addr} {xs : List V} (h : SqL K H a xs) : SqL K (noTb H) a xs := by
  rcases h with (h | ⟨o, h⟩) | h
  · exact .inl (.inl (noTb_of h fun _ z => by cases z))
  · exact .inl (.inr ⟨o, noTb_of h fun _ z => by cases z⟩)
  · exact .inr h
theorem law_sp {K : Frag} {H : Hp} {a : Addr} {ns : List Int} (hl : ns.length ≤ 63) (hT : ∀ p ∈ tabsK K, H p.1 = some (.tbl #[])) (hS : SqL K H a (ns.map V.int)) : spOf K 1 cLaw [.ref a] H (fun v _ => v = .bl true) (fun _ _ _ => False) := by
  refine ⟨rfl, noTb H, [.d (.list (ns.map .int))], fun r args' => r = .rd (.bool true), fun _ _ => False, ⟨ns, rfl, hl, rfl⟩, ⟨rfl, fun i s h => ?_, fun i j s t b h1 h2 h3 h4 => ?_, fun b ⟨i, s, h1, h2⟩ => ?_, fun b u z => (noTb_to z).1, fun b vs h => noTb_of h (fun _ z => by cases z), ⟨fun b ps z => (noTb_to z).2 ps rfl, fun p hp => ⟨#[], hT p hp, trivial, fun pos cv hc => ?_⟩⟩⟩, fun r v args' F' H' hp _ _ _ pr => ?_, fun c _ _ _ hp _ _ _ => hp.elim⟩
  · match i, h with
    | 0, h =>
      have e := Option.some.inj h
      subst e
      exact ⟨.ref a, rfl, .lst (noTb_sql hS) (dpa_ints ns)⟩
    | i + 1, h => simp at h
  · match i, h1 with
    | 0, h1 =>
      have e := Option.some.inj h1
      subst e
      cases h3
    | i + 1, h => simp at h
  · match i, h1 with
    | 0, h1 =>
      have e := Option.some.inj h1
      subst e
      cases h2
    | i + 1, h => simp at h
  · have z : codeAmong pos [] = some cv := hc
    simp [codeAmong] at z
  · subst hp
    exact dp_bl pr
end TL
namespace TL
open PySem PySem.Spec PyProof.Rows L2
section
variable {X : Cx} {g : G} {env env' : List Sl} {Ψ : Exc → Prop} {P : Po} {pos p : Pos} {a b c e : Expr} {es : List Expr} {rest : List Stmt} {K : Frag} {F F' H H' : Hp} {σ σ' : SS}
/-- a statement, what holds behind it, the rest -/
theorem ws_mid {st : Stmt} (M : List Sl → Prop) (h1 : W1 X g st env (P.thn M)) (h2 : ∀ e, M e → WS X g rest e P) : WS X g (st :: rest) env P := fun W tk hx σ F H s0 D hD => by
  refine semS_of (pss_cons (psP st) (pssS rest)) ?_
  refine h1 W tk hx σ F H s0 _ ⟨fun env' σ' F' H' hw s' e' => ?_, hD.rt, hD.bk, hD.ct⟩
  exact h2 env' hw W tk hx σ' F' H' s' D (hD.mono e')
theorem ws_close (i : Nat) {al : Addr} {ds : List PyData} (he : env[i]? = some (.ol al ds)) (hb : BagD ds) (h : WS X g rest (env.set i (.bg al)) P) : WS X g rest env P := fun W tk hx σ F H st D hD =>
  h W tk hx σ F H (st.weak he (fun a m => m) fun ⟨h1, vs, h2, h3⟩ => ⟨h1, ds, vs, hb, h2, h3⟩) D hD
theorem ws_open (i : Nat) {al : Addr} (he : env[i]? = some (.bg al)) (h : ∀ (cells : List Int) (j s t : Int), (∀ c ∈ cells, (0 : Int) ≤ c) → 0 ≤ j → 0 ≤ s → 0 ≤ t → t < 2147483629 → WS X g rest (env.set i (.ol al [.list (cells.map .int), .int j, .int s, .int t])) P) : WS X g rest env P := fun W tk hx σ F H st D hD => by
  obtain ⟨h1, ds, vs, ⟨cells, j, s, t, rfl, q1, q2, q3, q4, q5⟩, h2, h3⟩ := st.sl i _ he
  exact h cells j s t q1 q2 q3 q4 q5 W tk hx σ F H (st.weak he (fun a m => m) fun _ => ⟨h1, vs, h2, h3⟩) D hD
end
theorem szOk {n m : Nat} (h : Nat.ble n m = true) : n ≤ m := Nat.le_of_ble_eq_true h
theorem nb {m : Int} (h : m.natAbs < 2 ^ 120) : m.natAbs < 2 ^ 8000 := Nat.lt_of_lt_of_le h (Nat.pow_le_pow_right (by decide) (by decide))
theorem at_nat {α : Type} {xs : List α} {i : Int} {x : α} (h0 : 0 ≤ i) (h : xs[i.toNat]? = some x) : atI xs i = some x := by
  have hl := (List.getElem?_eq_some_iff.mp h).1
  unfold atI ixN
  rw [if_pos h0, if_pos (by omega)]
  exact h
theorem at_ints {ns : List Int} {i : Int} (h0 : 0 ≤ i) (h1 : i < ns.length) : ∃ n, n ∈ ns ∧ ns[i.toNat]? = some n ∧ atI (ns.map PyData.int) i = some (.int n) := by
  have hl : i.toNat < ns.length := by omega
  refine ⟨ns[i.toNat], List.getElem_mem hl, by simp [hl], at_nat h0 (by simp [hl])⟩
theorem wp_none {X : Cx} {g : G} {env : List Sl} {Φ : Option Int → Prop} {Ψ : Exc → Prop} (h : Φ none) : WP X g none env Φ Ψ := h
theorem wp_e {X : Cx} {g : G} {env : List Sl} {e : Expr} {Φ : Option Int → Prop} {Ψ : Exc → Prop} (h : WE X g e env (fun d _ => ∃ i, d = .int i ∧ Φ (some i)) Ψ) : WP X g (some e) env Φ Ψ := h
theorem cut_le {α : Type} (xs : List α) (k : Int) (h0 : 0 ≤ k) (h : (xs.length : Int) ≤ k) : cut xs none (some k) = xs := by
  unfold cut HT.sIx
  have e : ¬ k < 0 := by omega
  simp only [e, if_false]
  rw [List.drop_zero, Nat.min_eq_right (by omega), Nat.sub_zero, List.take_length]
theorem ints_get {ns : List Int} {i : Nat} {x : PyData} (h : (ns.map PyData.int)[i]? = some x) : ∃ n, x = .int n ∧ ns[i]? = some n := by
  obtain ⟨n, h1, h2⟩ := map_get h
  exact ⟨n, h2.symm, h1⟩
theorem tk_succ {α : Type} {ns : List α} {i : Nat} {n : α} (f : α → PyData) (h : ns[i]? = some n) : (ns.take i).map f ++ [f n] = (ns.take (i + 1)).map f := by
  rw [List.take_succ, h]
  simp
def ppD (p : Int × Int) : PyData := .tuple [.int p.1, .int p.2]
theorem pairs_alike (ps : List (Int × Int)) : PySem.W.AllAlike (ps.map ppD) := fun d hd d' hd' => by
  obtain ⟨p, _, rfl⟩ := List.mem_map.mp hd
  obtain ⟨q, _, rfl⟩ := List.mem_map.mp hd'
  rfl
theorem pairs_sortable (ps : List (Int × Int)) : PySem.W.Sortable (ps.map ppD) := .inl fun d hd => by
  obtain ⟨p, _, rfl⟩ := List.mem_map.mp hd
  exact ⟨_, _, rfl⟩
theorem pairs_depth (ps : List (Int × Int)) : ∀ d ∈ ps.map ppD, SeqAt.shaped d = true := fun d hd => by
  obtain ⟨p, _, rfl⟩ := List.mem_map.mp hd
  rfl
section
variable {Φ : PyData → Bool → Prop} {m : Nat} {f : Nat → PyData} {k : Int} {z1 z2 : Bool}
theorem ix_lst (h0 : 0 ≤ k) {xs : List PyData} {x : PyData} (h : xs[k.toNat]? = some x) (hp : Φ x true) : IxP Φ (.list xs) z1 (.int k) z2 := .lst hp (at_nat h0 h)
theorem ix_tup (h0 : 0 ≤ k) {xs : List PyData} {x : PyData} (h : xs[k.toNat]? = some x) (hp : Φ x true) : IxP Φ (.tuple xs) z1 (.int k) z2 := .tup hp (at_nat h0 h)
def isInt : PyData → Bool
  | .int _ => true
  | _ => false
/-- an item of a row of ints, any -/
theorem ix_any (n : Nat) (h0 : 0 ≤ k) (h1 : k < n) {xs : List PyData} (hp : ∀ n, Φ (.int n) true) (hn : xs.length = n := by rfl) (hx : xs.all isInt = true := by rfl) : IxP Φ (.list xs) z1 (.int k) z2 := by
  have hl : k.toNat < xs.length := by omega
  have hi := List.all_eq_true.mp hx _ (List.getElem_mem hl)
  obtain ⟨v, hv⟩ : ∃ v, xs[k.toNat] = .int v := by
    cases e : xs[k.toNat] with
    | int v => exact ⟨v, rfl⟩
    | _ => rw [e] at hi; cases hi
  exact .lst (hp v) (at_nat h0 (by rw [← hv]; simp [hl]))
theorem ix_ints (h0 : 0 ≤ k) {ns : List Int} (h1 : k < ns.length) (hp : ∀ n ∈ ns, Φ (.int n) true) : IxP Φ (.list (ns.map .int)) z1 (.int k) z2 := by
  obtain ⟨n, q1, _, q2⟩ := at_ints h0 h1
  exact .lst (hp n q1) q2
end
theorem Has.mono {P : Program} {w : World} {K : Frag} {mg : Str → Option Value} {base : Heap} {j k : Nat} {x : Str} {ps : List Str} {S : CT} (h : Has P w K mg base j x ps S) (le : j ≤ k) : Has P w K mg base k x ps S := by
  obtain ⟨f, fd, h1, h2, h3, h4⟩ := h.ex
  exact ⟨f, fd, h1, h2, h3, h4.mono le⟩
end TL
namespace TL
open PySem PySem.Spec PyProof.Rows L2
section
variable {X : Cx} {g : G} {env env' : List Sl} {Ψ : Exc → Prop} {P : Po} {pos p p2 p3 : Pos} {a b c e : Expr} {es : List Expr} {rest body : List Stmt} {K : Frag} {F F' H H' : Hp} {σ σ' : SS}
def tyN : PyData → String
  | .none => "NoneType"
  | .bool _ => "bool"
  | .int _ => "int"
  | .str _ => "str"
  | .list _ => "list"
  | .tuple _ => "tuple"
  | .dict _ => "dict"
def isTyB (T : String) (d : PyData) : Bool := match d with
  | .dict ((.bool true, _) :: _) => false
  | d => (kitB (tyN d) T).getD false
def kitOk (T : String) : Bool := (kitTys.all fun t => (kitB t T).isSome) && kitTys.contains T
theorem kitB_some (T : String) (d : PyData) (h : kitOk T = true) : kitB (tyN d) T = some ((kitB (tyN d) T).getD false) := by
  have m : tyN d ∈ kitTys := by cases d <;> simp [tyN, kitTys]
  have q := List.all_eq_true.mp (Bool.and_eq_true_iff.mp h).1 _ m
  cases e : kitB (tyN d) T with
  | none => rw [e] at q; cases q
  | some r => rfl
theorem tyx_of {z : Bool} {v : V} {d : PyData} (st : Sk K F H σ env) (h : Rd K F env z v d) : ∃ t, TyX K H v t ∧ ∀ T, kitOk T = true → PySem.W.kitOne K t (.type T) = some (isTyB T d) := by
  have h := rd_now st h
  cases h with
  | non => exact ⟨_, .base .non, fun T hT => kit_ty (kitB_some T .none hT)⟩
  | bl b => exact ⟨_, .base (.bl b), fun T hT => kit_ty (kitB_some T (.bool b) hT)⟩
  | int i => exact ⟨_, .base (.int i), fun T hT => kit_ty (kitB_some T (.int i) hT)⟩
  | str s => exact ⟨_, .base (.str s), fun T hT => kit_ty (kitB_some T (.str s) hT)⟩
  | @lst a xs ds s _ =>
    rcases s with s | ⟨o, _, _, s, q, _⟩
    · rcases s with s | ⟨o, s⟩
      · exact ⟨_, .base (.lst s), fun T hT => kit_ty (kitB_some T (.list ds) hT)⟩
      · exact ⟨_, .base (.frz s), fun T hT => kit_ty (kitB_some T (.list ds) hT)⟩
    · exact ⟨_, .kList s q, fun T hT => kit_ty (kitB_some T (.list ds) hT)⟩
  | @tup a xs ds s _ => exact ⟨_, .base (.tup s), fun T hT => kit_ty (kitB_some T (.tuple ds) hT)⟩
  | @ktup a s =>
    rcases s H with s | ⟨o, _, _, s, q, _⟩
    · rcases s with s | ⟨o, s⟩
      · exact ⟨_, .base (.tup s), fun T hT => kit_ty (kitB_some T startD hT)⟩
      · exact ⟨_, .fTuple s, fun T hT => kit_ty (kitB_some T startD hT)⟩
    · exact ⟨_, .kTuple s q, fun T hT => kit_ty (kitB_some T startD hT)⟩
  | @dct a vs kvs s _ => exact ⟨_, .base (.dT s), fun T hT => kit_ty (kitB_some T (.dict ((.none, .none) :: kvs)) hT)⟩
  | @dck a vs kvs s hk =>
    refine ⟨_, .base (.dK s), fun T hT => ?_⟩
    have e : isTyB T (.dict kvs) = (kitB "dict" T).getD false := by
      cases hk with
      | nil => rfl
      | @cons k _ _ _ _ _ _ => cases k <;> rfl
    rw [e]
    exact kit_ty (kitB_some T (.dict kvs) hT)
  | ins hk s _ => exact ⟨_, .base (.ins s hk.cls hk.c1 hk.c2 hk.c3 hk.c4), fun T hT => hk.kit T (by simpa using (Bool.and_eq_true_iff.mp hT).2)⟩
theorem pa_ty {T : String} {y : Str} (hm : X.mg y = none) (hv : bootBuiltins y = some (.type T)) (hg : Gl X y) (hn : y ≠ "__name__" := by decide) (hd : (y == ("__debug__" : Str)) = false := by decide) : PE X (.Name y p) (tC (.ty T)) := pe_bltn hg hm hv rfl hn hd
theorem we_isi (T : String) {y : Str} {Φ : PyData → Bool → Prop} (hm : X.mg "isinstance" = none) (hy : X.mg y = none) (h : WE X g a env (fun d _ => Φ (.bool (isTyB T d)) true) Ψ) (hv : bootBuiltins y = some (.type T) := by decide +kernel) (hg2 : Gl X y := by rfl)
    (hk : kitOk T = true := by decide +kernel) (hn : y ≠ "__name__" := by decide) (hd : (y == ("__debug__" : Str)) = false := by decide) (hg : Gl X "isinstance" := by rfl)
    (he : starEach [a, .Name y p2] X.env = (false, eval a X.env) :: starEach [.Name y p2] X.env := by rfl) (he2 : starEach [.Name y p2] X.env = (false, eval (.Name y p2) X.env) :: starEach [] X.env := by rfl) (hpl : (backTo pos (starEach [.Name y p2] X.env)).any (·.1) = false := by rfl) :
    WE X g (.Call (.Name "isinstance" p) [a, .Name y p2] [] pos) env Φ Ψ := fun W tk σ F H st hx Q hQ => by
  refine semE_of (pe_callB call_isi hg hm boot_isinstance (pa_cons (peS a) (pa_cons (pa_ty hy hv hg2 hn hd) pa_nil he2) he) (by decide) (by decide) he hpl) ?_
  refine h W tk σ F H st hx _ fun d1 z1 v1 F1 H1 h1 st1 e1 r1 => ?_
  obtain ⟨t, y1, y2⟩ := tyx_of st1.toSk r1
  exact ⟨v1, .ty T, t, .type T, isTyB T d1, rfl, .ty T, y1, y2 T hk, hQ _ true _ F1 H1 h1 st1 e1 (.bl _)⟩
/-- isinstance(x, (list, tuple)) -/
theorem we_isiLT {Φ : PyData → Bool → Prop} {p4 : Pos} {x1 : Nat} (hm : X.mg "isinstance" = none) (hl : X.mg "list" = none) (ht : X.mg "tuple" = none) (h : WE X g a env (fun d _ => Φ (.bool (isTyB "list" d || isTyB "tuple" d)) true) Ψ)
    (hg : Gl X "isinstance" := by rfl) (hgl : Gl X "list" := by rfl) (hgt : Gl X "tuple" := by rfl)
    (he : starEach [a, .Tuple [.Name "list" p2, .Name "tuple" p3] x1 p4] X.env = (false, eval a X.env) :: starEach [.Tuple [.Name "list" p2, .Name "tuple" p3] x1 p4] X.env := by rfl)
    (he2 : starEach [.Tuple [.Name "list" p2, .Name "tuple" p3] x1 p4] X.env = (false, eval (.Tuple [.Name "list" p2, .Name "tuple" p3] x1 p4) X.env) :: starEach [] X.env := by rfl)
    (hpl : (backTo pos (starEach [.Tuple [.Name "list" p2, .Name "tuple" p3] x1 p4] X.env)).any (·.1) = false := by rfl)
    (he3 : starEach [.Name "list" p2, .Name "tuple" p3] X.env = (false, eval (.Name "list" p2) X.env) :: starEach [.Name "tuple" p3] X.env := by rfl) (he4 : starEach [.Name "tuple" p3] X.env = (false, eval (.Name "tuple" p3) X.env) :: starEach [] X.env := by rfl) :
    WE X g (.Call (.Name "isinstance" p) [a, .Tuple [.Name "list" p2, .Name "tuple" p3] x1 p4] [] pos) env Φ Ψ := fun W tk σ F H st hx Q hQ => by
  refine semE_of (pe_callB call_isiT hg hm boot_isinstance (pa_cons (peS a) (pa_cons (pe_tup (pa_cons (pa_ty (T := "list") hl (by decide +kernel) hgl) (pa_cons (pa_ty (T := "tuple") ht (by decide +kernel) hgt) pa_nil he4) he3)) pa_nil he2) he) (by decide) (by decide) he hpl) ?_
  refine h W tk σ F H st hx _ fun d1 z1 v1 F1 H1 h1 st1 e1 r1 => ?_
  refine ⟨by decide, fun tp hn => ?_⟩
  have st2 := st1.allocF (o := .tup [.ty "list", .ty "tuple"]) hn
  have hF : F1 tp = none := st1.ex.none hn
  obtain ⟨t, y1, y2⟩ := tyx_of st2.toSk (rd_mono (Ex.new hF) r1)
  refine ⟨v1, tp, [.ty "list", .ty "tuple"], t, [.type "list", .type "tuple"], isTyB "list" d1 || isTyB "tuple" d1, rfl, upd_same, .cons (.ty _) (.cons (.ty _) .nil), y1, ?_, hQ _ true _ _ _ h1 st2 (e1.trans (Ex.new hF)) (.bl _)⟩
  refine kitAny_cons (y2 "list" (by decide +kernel)) (fun q => ?_) fun q => by rw [q]; rfl
  rw [q, Bool.false_or]
  refine kitAny_cons (y2 "tuple" (by decide +kernel)) (fun q => ?_) fun q => q
  rw [q]
  rfl
theorem cut_whole {α : Type} {xs : List α} {lo hi : Option Int} (h : HT.sIx xs.length 0 lo = 0 ∧ HT.sIx xs.length xs.length hi = xs.length) : cut xs lo hi = xs := by
  unfold cut
  rw [h.1, h.2, List.drop_zero, Nat.sub_zero, List.take_length]
theorem for_turn2 {t : TG} {A : PyData → Option (List (Nat × PyData))} {F1 F : Hp} {Pv : Nat → List Sl → Prop} {i : Nat} {x : PyData} {v : V} {D : Ends} {W : WX} (tk : Takes X W) (hx2 : XOk X g P W) (hD : DOk X g F1 P D) (htd : TGd X.K t A) (hv : Dq X.K F v x) (s1 : St X.K g F H σ env) (e1 : Ex F1 F) (hp : Pv i env) (h : FT X g body A P Pv i x) :
    t v σ H fun σ2 H2 => semS X body { D with nx := FJ X.K g F1 Pv (i + 1), ct := FJ X.K g F1 Pv (i + 1), bk := D.nx } σ2 H2 := by
  obtain ⟨l, hA, hl, hw⟩ := h env hp
  refine htd x l σ F H v _ hA s1.ex hv fun r sr => ?_
  have s2 := s1.sets sr fun q hq => ltB (List.all_eq_true.mp hl q hq)
  exact hw W tk hx2 _ F H s2 _ ⟨fun e2 σ' F' H' q s' ex => ⟨F', e2, s', e1.trans ex, q⟩, hD.rt, fun e2 σ' F' H' q s' ex => hD.nx e2 σ' F' H' q s' (e1.trans ex), fun e2 σ' F' H' q s' ex => ⟨F', e2, s', e1.trans ex, q⟩⟩
end
end TL
namespace TL
open PySem PySem.Spec PyProof.Rows L2
def backE (env : List Sl) : List Ar → List Sl → List Sl
  | .s i :: as, s :: ss => (backE env as ss).set i s
  | .d _ :: as, _ :: ss => backE env as ss
  | _, _ => env
section
variable {X : Cx} {g : G} {env env' : List Sl} {Ψ : Exc → Prop} {P : Po} {pos p lp : Pos} {a b c e : Expr} {es : List Expr} {rest body : List Stmt} {K : Frag} {F F' H H' : Hp} {σ σ' : SS}
theorem backE_len : ∀ (as : List Ar) (ss : List Sl), (backE env as ss).length = env.length
  | .s i :: as, s :: ss => by rw [backE, List.length_set, backE_len as ss]
  | .d _ :: as, _ :: ss => backE_len as ss
  | [], _ => rfl
  | .s _ :: _, [] => rfl
  | .d _ :: _, [] => rfl
theorem backE_out : ∀ {as : List Ar} {ss : List Sl} {i : Nat}, i ∉ arIx as → (backE env as ss)[i]? = env[i]?
  | .s j :: as, s :: ss, i, h => by
    have h1 : i ≠ j := fun z => h (by rw [z]; exact List.mem_cons_self ..)
    rw [backE, List.getElem?_set, if_neg (Ne.symm h1)]
    exact backE_out fun z => h (List.mem_cons_of_mem _ z)
  | .d _ :: as, _ :: ss, i, h => backE_out (as := as) h
  | [], _, _, _ => rfl
  | .s _ :: _, [], _, _ => rfl
  | .d _ :: _, [], _, _ => rfl
theorem backE_in : ∀ {as : List Ar} {ss : List Sl} {i j : Nat} {s : Sl}, (arIx as).Nodup → ss.length = as.length → as[j]? = some (.s i) → (backE env as ss)[i]? = some s → ss[j]? = some s
  | .s k :: as, t :: ss, i, 0, s, nd, hl, h1, h2 => by
    have e := Option.some.inj h1
    injection e with e
    subst e
    rw [backE, List.getElem?_set, if_pos rfl] at h2
    split at h2
    · exact h2
    · cases h2
  | .s k :: as, t :: ss, i, j + 1, s, nd, hl, h1, h2 => by
    have nd2 := List.nodup_cons.mp nd
    have hm : i ∈ arIx as := arix_mem (as := as) (j := j) h1
    have ne : k ≠ i := fun z => nd2.1 (z ▸ hm)
    rw [backE, List.getElem?_set, if_neg ne] at h2
    exact backE_in (as := as) (j := j) nd2.2 (Nat.succ.inj hl) h1 h2
  | .d _ :: as, t :: ss, i, 0, s, nd, hl, h1, h2 => by
    have e := Option.some.inj h1
    cases e
  | .d _ :: as, t :: ss, i, j + 1, s, nd, hl, h1, h2 => backE_in (as := as) (j := j) (ss := ss) nd (Nat.succ.inj hl) h1 h2
  | [], _, _, _, _, _, _, h1, _ => by simp at h1
  | _ :: _, [], _, _, _, _, hl, _, _ => by cases hl
theorem ix_of : ∀ {as : List Ar} {i : Nat}, i ∈ arIx as → ∃ j : Nat, as[j]? = some (Ar.s i)
  | .d z :: r, i, h => by
    obtain ⟨j, hj⟩ := ix_of (as := r) h
    exact ⟨j + 1, hj⟩
  | .s l :: r, i, h => by
    rcases List.mem_cons.mp (show i ∈ l :: arIx r from h) with e | h
    · subst e; exact ⟨0, rfl⟩
    · obtain ⟨j, hj⟩ := ix_of h; exact ⟨j + 1, hj⟩
theorem st_back {as : List Ar} {vs : List V} {args' : List Sl} (st : St K g F H σ env) (ha : ArAll K F σ vs as) (nd : (arIx as).Nodup) (hs : ∀ i ∈ arIx as, i < env.length) (sk : Sk K F' H' (vs.map some) args') (hst : Step F H (as.map (slOf env)) F' H')
    (hf : args'.map Sl.fp = (as.map (slOf env)).map Sl.fp) : St K g F' H' σ (backE env as args') := by
  have hl : args'.length = as.length := by have := congrArg List.length hf; simpa using this
  refine st.called ha sk hst (backE_len _ _) (fun i s h1 h2 => by rw [backE_out h1] at h2; exact h2) (fun j i s h1 h2 => backE_in nd hl h1 h2) (fun i s s' h1 h2 a h3 => ?_)
  by_cases hi : i ∈ arIx as
  · obtain ⟨j, hj⟩ := ix_of hi
    have q := backE_in nd hl hj h2
    have q2 : (args'.map Sl.fp)[j]? = some s'.fp := by rw [List.getElem?_map, q]; rfl
    rw [hf, List.getElem?_map, List.getElem?_map, hj] at q2
    have e : slOf env (.s i) = s := by show env[i]?.getD .un = _; rw [h1]; rfl
    have q3 : some (slOf env (.s i)).fp = some s'.fp := q2
    rw [e] at q3
    rw [Option.some.inj q3]
    exact .inl h3
  · rw [backE_out hi, h1] at h2
    cases h2
    exact .inl h3
/-- f(..) as a statement, what it was handed changed -/
theorem w1_callM {j k : Nat} {x : Str} {ps : List Str} {S : CT} (hf : Has X.prog X.w X.K X.mg X.base j x ps S) (hr : Room k X.A)
    (h : WAs X g (e :: es) env (fun as => callOk as ps.length env.length = true ∧ S (as.map (slOf env)) (fun _ args' => args'.map Sl.fp = (as.map (slOf env)).map Sl.fp ∧ P.nx (backE env as args')) (fun c args' => args' = as.map (slOf env) ∧ P.ex c env)) (fun c => P.ex c env))
    (hj : j ≤ k := by omega) (hg : Gl X x := by rfl) (hdb : (x == ("__debug__" : Str)) = false := by decide)
    (he : starEach (e :: es) X.env = (false, eval e X.env) :: starEach es X.env := by rfl) (hpl : (backTo p (starEach es X.env)).any (·.1) = false := by rfl) {p1 : Pos}
    (hs : swapsWith (.Call (.Name x p1) (e :: es) [] p) none pos.line X.env = pure false := by rfl) : W1 X g (.Expr (.Call (.Name x p1) (e :: es) [] p) pos) env P := fun W tk hx2 σ F H s0 D hD => by
  obtain ⟨f, fd, hm, hk, hb, F0⟩ := hf.ex
  refine semP_of (ps_expr (pe_callS F0 (hr.mono hj) hg hm hk hb (fun σ => passAt tk σ) (paS (e :: es)) hdb he hpl) hs) ?_
  refine h W tk σ F H s0 (hx2.hx env σ) _ fun as vs F1 H1 ⟨hok, hS⟩ s1 e1 ra => ?_
  obtain ⟨h1, h2, h3⟩ := callOk_ok hok
  refine ⟨by rw [arall_len ra, h1], F1, as.map (slOf env), _, _, hS, s1.toSk.callee ra h2 h3, fun r v args' F' H' ⟨ea, hp⟩ sk hst _ pr => ?_, fun c args' F' H' ⟨ea, hp⟩ sk hst _ => ?_⟩
  · exact hD.nx _ _ F' H' hp (st_back s1 ra h2 h3 sk hst ea) (e1.trans hst.1)
  · have := hx2 c env σ F' H' hp (st_same s1 ra sk hst ea)
    cases c <;> exact this
def WAn (X : Cx) (g : G) (es : List Expr) (env : List Sl) (Φ : List Ar → Prop) (Ψ : Exc → Prop) : Prop :=
  ∀ (W : WX), Takes X W → ∀ (σ : SS) (F H : Hp), St X.K g F H σ env → HX X g env Ψ W σ →
    ∀ Q : List V → Hp → Prop, (∀ as vs q F' H', Φ as → St X.K g F' H' σ env → Ex F F' → ArAll X.K F' σ vs as → H' q = some (.lst []) → F' q = none → ¬ Own env q → g.H0 q = none → Q (vs ++ [.ref q]) H') → semA X es σ H Q
section
variable {Φ : List Ar → Prop}
theorem wan_l (h : Φ []) (hs : starEach [.List [] lp] X.env = (false, eval (.List [] lp) X.env) :: starEach [] X.env := by rfl) : WAn X g [.List [] lp] env Φ Ψ := fun W tk σ F H st hx Q hQ => by
  refine semA_of (pa_cons (pe_lst pa_nil) pa_nil hs) ?_
  refine ⟨Nat.zero_le _, fun q hn => ?_⟩
  exact hQ [] [] q F _ h (st.alloc hn) (Ex.refl F) trivial upd_same (st.ex.none hn) (st.toSk.notown hn) (st.h0 hn)
theorem wan_d (he : WE X g e env (fun d z => z = true ∧ WAn X g es env (fun as => Φ (.d d :: as)) Ψ) Ψ) (hs : starEach (e :: es) X.env = (false, eval e X.env) :: starEach es X.env := by rfl) : WAn X g (e :: es) env Φ Ψ := fun W tk σ F H st hx Q hQ => by
  refine semA_of (pa_cons (peS e) (paS es) hs) ?_
  refine he W tk σ F H st hx _ fun d z v F1 H1 ⟨hz, hp⟩ s1 e1 r1 => ?_
  subst hz
  exact hp W tk σ F1 H1 s1 hx _ fun as vs q F2 H2 hp2 s2 e2 r2 => hQ (.d d :: as) (v :: vs) q F2 H2 hp2 s2 (e1.trans e2) ⟨dp_mono e2 _ _ r1, r2⟩
theorem wan_s (i : Nat) {x : Str} {s : Sl} (h : WAn X g es env (fun as => Φ (.s i :: as)) Ψ) (he : env[i]? = some s := by rfl) (hne : s.fp ≠ [] := by (intro h; cases h)) (hN : X.N[i]? = some x := by rfl)
    (hv : Vis X.env.scope x := by first | exact Or.inl rfl | exact Or.inr (Or.inl rfl) | exact Or.inr (Or.inr rfl)) (hd : (x == ("__debug__" : Str)) = false := by decide)
    (hcd : (x == ("__classdict__" : Str)) = false := by decide) (hs : starEach ((.Name x pos) :: es) X.env = (false, eval (.Name x pos) X.env) :: starEach es X.env := by rfl) : WAn X g (.Name x pos :: es) env Φ Ψ := fun W tk σ F H st hx Q hQ => by
  refine semA_of (pa_cons (pe_var hN hv hd hcd) (paS es) hs) ?_
  have q := st.sl i s he
  obtain ⟨v, hv⟩ : ∃ v, σ[i]?.getD none = some v := by
    cases s with
    | un => exact absurd rfl hne
    | d x => exact absurd rfl hne
    | v x => exact ⟨_, q⟩
    | ol a ds => exact ⟨_, q.1⟩
    | bg a => exact ⟨_, q.1⟩
    | dt a ds => exact ⟨_, q.1⟩
    | dk a ds => exact ⟨_, q.1⟩
    | fv l => exact absurd rfl hne
    | fl l => exact absurd rfl hne
    | oo a ds => exact ⟨_, q.1⟩
    | ow t => exact ⟨q.choose, q.choose_spec.1⟩
  exact ⟨v, getD_some hv, h W tk σ F H st hx _ fun as vs q F2 H2 hp2 s2 e2 r2 => hQ (.s i :: as) (v :: vs) q F2 H2 hp2 s2 e2 ⟨getD_some hv, r2⟩⟩
end
theorem snoc_get {α : Type} {l : List α} {x y : α} {i : Nat} (h : (l ++ [x])[i]? = some y) : l[i]? = some y ∨ (i = l.length ∧ y = x) := by
  by_cases hi : i < l.length
  · rw [List.getElem?_append_left hi] at h; exact .inl h
  · by_cases e : i = l.length
    · subst e
      rw [List.getElem?_append_right (Nat.le_refl _), Nat.sub_self] at h
      exact .inr ⟨rfl, (Option.some.inj h).symm⟩
    · rw [List.getElem?_append_right (by omega)] at h
      have := (List.getElem?_eq_some_iff.mp h).1
      simp at this
      omega
theorem own_snoc {q a : Addr} {ds : List PyData} (h : Own (env ++ [.ol q ds]) a) : Own env a ∨ a = q := by
  obtain ⟨i, s, h1, h2⟩ := h
  rcases snoc_get h1 with h3 | ⟨_, rfl⟩
  · exact .inl ⟨i, s, h3, h2⟩
  · exact .inr (by simpa [Sl.fp] using h2)
theorem Sk.snoc {q : Addr} {xs : List V} {ds : List PyData} (st : Sk K F H σ env) (h1 : H q = some (.lst xs)) (h2 : DqAll K F xs ds) (h3 : F q = none) (h4 : ¬ Own env q) : Sk K F H (σ ++ [some (.ref q)]) (env ++ [.ol q ds]) where
  len := by rw [List.length_append, List.length_append, st.len]; rfl
  sl := fun i s h => by
    rcases snoc_get h with h | ⟨rfl, rfl⟩
    · have hi : i < σ.length := by rw [st.len]; exact (List.getElem?_eq_some_iff.mp h).1
      rw [List.getElem?_append_left hi]
      exact st.sl i s h
    · rw [← st.len, List.getElem?_append_right (Nat.le_refl _), Nat.sub_self]
      exact ⟨rfl, xs, h1, h2⟩
  nd := fun i j s t a hi hj m1 m2 => by
    rcases snoc_get hi with hi | ⟨rfl, rfl⟩
    · rcases snoc_get hj with hj | ⟨rfl, rfl⟩
      · exact st.nd i j s t a hi hj m1 m2
      · have e : a = q := by simpa [Sl.fp] using m2
        exact absurd ⟨i, s, hi, e ▸ m1⟩ h4
    · rcases snoc_get hj with hj | ⟨rfl, rfl⟩
      · have e : a = q := by simpa [Sl.fp] using m1
        exact absurd ⟨j, t, hj, e ▸ m2⟩ h4
      · rfl
  fr := fun a h => by
    rcases own_snoc h with h | rfl
    · exact st.fr a h
    · exact h3
  ex := st.ex
  tf := st.tf
  tk := st.tk
theorem St.snoc {q : Addr} {xs : List V} {ds : List PyData} (st : St K g F H σ env) (h1 : H q = some (.lst xs)) (h2 : DqAll K F xs ds) (h3 : F q = none) (h4 : ¬ Own env q) (h5 : g.H0 q = none) : St K g F H (σ ++ [some (.ref q)]) (env ++ [.ol q ds]) :=
  { st.toSk.snoc h1 h2 h3 h4 with
    gt := st.gt, g1 := st.g1, g3 := st.g3, g4 := st.g4, g5 := st.g5, g6 := st.g6
    g2 := fun a h => by
      rcases own_snoc h with h | rfl
      · exact st.g2 a h
      · exact .inl h5 }
theorem own_l {s : Sl} {a : Addr} (h : Own env a) : Own (env ++ [s]) a := by
  obtain ⟨i, t, h1, h2⟩ := h
  exact ⟨i, t, by rw [List.getElem?_append_left (List.getElem?_eq_some_iff.mp h1).1]; exact h1, h2⟩
theorem St.unsnoc {x : Option V} {s : Sl} (st : St K g F H (σ ++ [x]) (env ++ [s])) : St K g F H σ env where
  len := by have := st.len; rw [List.length_append, List.length_append] at this; exact Nat.add_right_cancel this
  sl := fun i t h => by
    have hi := (List.getElem?_eq_some_iff.mp h).1
    have hl := st.len
    rw [List.length_append, List.length_append] at hl
    have hl : σ.length = env.length := Nat.add_right_cancel hl
    have q := st.sl i t (by rw [List.getElem?_append_left hi]; exact h)
    rw [List.getElem?_append_left (by omega)] at q
    exact q
  nd := fun i j t u a h1 h2 => st.nd i j t u a (by rw [List.getElem?_append_left (List.getElem?_eq_some_iff.mp h1).1]; exact h1) (by rw [List.getElem?_append_left (List.getElem?_eq_some_iff.mp h2).1]; exact h2)
  fr := fun a h => st.fr a (own_l h)
  ex := st.ex
  tf := st.tf
  tk := st.tk
  gt := st.gt
  g1 := st.g1
  g2 := fun a h => st.g2 a (own_l h)
  g3 := st.g3
  g4 := st.g4
  g5 := st.g5
  g6 := st.g6
theorem arall_snoc {x : Option V} {q : Addr} (hx : x = some (.ref q)) {n : Nat} (hn : n = σ.length) : ∀ {vs : List V} {as : List Ar}, ArAll K F σ vs as → ArAll K F (σ ++ [x]) (vs ++ [.ref q]) (as ++ [.s n])
  | [], [], _ => ⟨by
      show (σ ++ [x])[n]? = some (some (.ref q))
      rw [hn, List.getElem?_append_right (Nat.le_refl _), Nat.sub_self, hx]
      rfl, trivial⟩
  | v :: vs, .d d :: as, ⟨h1, h2⟩ => ⟨h1, arall_snoc hx hn h2⟩
  | v :: vs, .s i :: as, ⟨h1, h2⟩ => ⟨by
      have h1' : σ[i]? = some (some v) := h1
      show (σ ++ [x])[i]? = some (some v)
      rw [List.getElem?_append_left (List.getElem?_eq_some_iff.mp h1').1]
      exact h1', arall_snoc hx hn h2⟩
theorem arix_snoc {n : Nat} : ∀ (as : List Ar), arIx (as ++ [Ar.s n]) = arIx as ++ [n]
  | [] => rfl
  | .d _ :: as => arix_snoc as
  | .s i :: as => congrArg (i :: ·) (arix_snoc as)
theorem map_snoc {s : Sl} : ∀ {as : List Ar}, (∀ i ∈ arIx as, i < env.length) → (as ++ [Ar.s env.length]).map (slOf (env ++ [s])) = as.map (slOf env) ++ [s]
  | [], _ => by
    show [(env ++ [s])[env.length]?.getD .un] = [s]
    rw [List.getElem?_append_right (Nat.le_refl _), Nat.sub_self]
    rfl
  | .d d :: as, h => congrArg (Sl.d d :: ·) (map_snoc (as := as) h)
  | .s i :: as, h => by
    have hi := h i (List.mem_cons_self ..)
    show (env ++ [s])[i]?.getD .un :: _ = env[i]?.getD .un :: _
    rw [List.getElem?_append_left hi]
    exact congrArg (_ :: ·) (map_snoc (as := as) fun j hj => h j (List.mem_cons_of_mem _ hj))
theorem wn_callN {j k : Nat} {x : Str} {ps : List Str} {S : CT} {Φ : List PyData → Prop} (hf : Has X.prog X.w X.K X.mg X.base j x ps S) (hr : Room k X.A)
    (h : WAn X g (e :: es) env (fun as => callOk as (ps.length - 1) env.length = true ∧ 1 ≤ ps.length ∧ ∀ q, S (as.map (slOf env) ++ [.ol q []]) (fun r args' => ∃ ds, args' = as.map (slOf env) ++ [.ol q ds] ∧ r = .ar as.length ∧ Φ ds) (fun _ _ => False)) Ψ)
    (hj : j ≤ k := by omega) (hg : Gl X x := by rfl) (hdb : (x == ("__debug__" : Str)) = false := by decide)
    (he : starEach (e :: es) X.env = (false, eval e X.env) :: starEach es X.env := by rfl) (hpl : (backTo pos (starEach es X.env)).any (·.1) = false := by rfl) : WN X g (.Call (.Name x p) (e :: es) [] pos) env Φ Ψ := fun W tk σ F H st hx Q hQ => by
  obtain ⟨f, fd, hm, hk, hb, F0⟩ := hf.ex
  refine semE_of (pe_callS F0 (hr.mono hj) hg hm hk hb (fun σ => passAt tk σ) (paS (e :: es)) hdb he hpl) ?_
  refine h W tk σ F H st hx _ fun as vs q F1 H1 ⟨hok, hn1, hS⟩ s1 e1 ra g1 g2 g3 g4 => ?_
  obtain ⟨h1, h2, h3⟩ := callOk_ok hok
  have s2 := s1.snoc g1 .nil g2 g3 g4
  have ra2 := arall_snoc (x := some (.ref q)) (q := q) rfl (n := env.length) s1.len.symm ra
  have nd2 : (arIx (as ++ [Ar.s env.length])).Nodup := by
    rw [arix_snoc]
    refine List.nodup_append.mpr ⟨h2, by simp, fun a ha b hb z => ?_⟩
    have : b = env.length := by simpa using hb
    have := h3 a ha
    omega
  have hs2 : ∀ i ∈ arIx (as ++ [Ar.s env.length]), i < (env ++ [Sl.ol q []]).length := fun i hi => by
    rw [arix_snoc] at hi
    rw [List.length_append]
    rcases List.mem_append.mp hi with hi | hi
    · have := h3 i hi; simp; omega
    · have : i = env.length := by simpa using hi
      simp; omega
  have sk2 := s2.toSk.callee ra2 nd2 hs2
  rw [map_snoc h3] at sk2
  refine ⟨by rw [List.length_append, arall_len ra, h1]; simp; omega, F1, as.map (slOf env) ++ [.ol q []], _, _, hS q, sk2, fun r v args' F' H' ⟨ds, ea, hr2, hp⟩ sk hst _ pr => ?_, fun c args' F' H' hp _ _ _ => hp.elim⟩
  subst ea hr2
  have hst2 : Step F1 H1 ((as ++ [Ar.s env.length]).map (slOf (env ++ [Sl.ol q []]))) F' H' := by rw [map_snoc h3]; exact hst
  have s3 := st_back s2 ra2 nd2 hs2 sk hst2 (by rw [map_snoc h3, List.map_append, List.map_append]; rfl)
  have eb : ∀ (as : List Ar) (env : List Sl) (n : Nat), n = env.length → (∀ i ∈ arIx as, i < env.length) → backE (env ++ [Sl.ol q []]) (as ++ [Ar.s n]) (as.map (slOf env) ++ [Sl.ol q ds]) = env ++ [Sl.ol q ds] := fun as env n hn => by
    subst hn
    induction as with
    | nil =>
      intro _
      show (env ++ [Sl.ol q []]).set env.length (.ol q ds) = _
      rw [List.set_append_right _ _ (Nat.le_refl _), Nat.sub_self]
      rfl
    | cons a as ih =>
      intro hh
      cases a with
      | d d => exact ih hh
      | s i =>
        have hi := hh i (List.mem_cons_self ..)
        show (backE (env ++ [.ol q []]) (as ++ [.s env.length]) (as.map (slOf env) ++ [.ol q ds])).set i (env[i]?.getD .un) = _
        rw [ih fun j hj => hh j (List.mem_cons_of_mem _ hj), List.getElem?_eq_getElem hi, List.set_append_left _ _ hi]
        show env.set i env[i] ++ _ = _
        rw [List.set_getElem_self hi]
  rw [eb as env _ rfl h3] at s3
  have hv : v = .ref q := by
    have pr' : (vs ++ [V.ref q])[as.length]? = some v := pr
    rw [← arall_len ra, List.getElem?_append_right (Nat.le_refl _), Nat.sub_self] at pr'
    exact (Option.some.inj pr').symm
  subst hv
  have hl : (env ++ [Sl.ol q ds])[env.length]? = some (Sl.ol q ds) := by rw [List.getElem?_append_right (Nat.le_refl _), Nat.sub_self]; rfl
  obtain ⟨_, xs, y1, y2⟩ := s3.sl env.length _ hl
  refine hQ ds (.ref q) F' H' hp s3.unsnoc (e1.trans hst.1) ⟨q, xs, rfl, y1, y2, s3.fr q ⟨_, _, hl, by simp [Sl.fp]⟩, fun ⟨i, s, z1, z2⟩ => ?_, g4⟩
  have hi := (List.getElem?_eq_some_iff.mp z1).1
  have := s3.nd i env.length s _ q (by rw [List.getElem?_append_left hi]; exact z1) hl z2 (by simp [Sl.fp])
  omega
end
theorem tkf_t {α : Type} {ns : List α} {i : Nat} {n : α} {f : α → Bool} (h : α → PyData) (e : ns[i]? = some n) (hf : f n = true) : ((ns.take i).filter f).map h ++ [h n] = ((ns.take (i + 1)).filter f).map h := by
  rw [List.take_succ, e]
  simp [List.filter_append, hf]
theorem tkf_f {α : Type} {ns : List α} {i : Nat} {n : α} {f : α → Bool} (h : α → PyData) (e : ns[i]? = some n) (hf : f n = false) : ((ns.take i).filter f).map h = ((ns.take (i + 1)).filter f).map h := by
  rw [List.take_succ, e]
  simp [List.filter_append, hf]
section
variable {Φ : PyData → Bool → Prop} {k : Int} {z1 z2 : Bool}
theorem ix_mem (n : Nat) (h0 : 0 ≤ k) (h1 : k < n) {xs : List PyData} (hp : ∀ x ∈ xs, Φ x true) (hn : xs.length = n := by rfl) : IxP Φ (.list xs) z1 (.int k) z2 := by
  have hl : k.toNat < xs.length := by omega
  exact .lst (hp _ (List.getElem_mem hl)) (at_nat h0 (by simp [hl]))
end
theorem ne_b (b : Bool) : (!decide (b = b)) = false := by simp
end TL
namespace TL
open PySem PySem.Spec PyProof.Rows L2
theorem key_eq {K : Frag} {F : Hp} {v : V} {k : Key} (h : Dq K F v (kD k)) : v = kV k := by
  cases k with
  | inl i => exact dp_int h
  | inr s => exact dp_str h
section
variable {κ : Type} [DecidableEq κ]
def putP (kvs : List (κ × PyData)) (k : κ) (d : PyData) : List (κ × PyData) := if (kvs.any fun kv => decide (kv.1 = k)) = true then kvs.map (fun kv => if kv.1 = k then (kv.1, d) else kv) else kvs ++ [(k, d)]
def valP (kvs : List (κ × PyData)) (k : κ) : Option PyData := (kvs.find? fun kv => decide (kv.1 = k)).map (·.2)
variable {K : Frag} {F : Hp}
theorem kvp_any {k : κ} : ∀ {xs : List (κ × V)} {kvs : List (κ × PyData)}, KVp K F xs kvs → (xs.any fun kv => decide (kv.1 = k)) = kvs.any fun kv => decide (kv.1 = k)
  | _, _, .nil => rfl
  | _, _, .cons h t => by
    rw [List.any_cons, List.any_cons, kvp_any t, h.1]
theorem kvp_map {k : κ} {v : V} {d : PyData} (hd : Dq K F v d) : ∀ {xs : List (κ × V)} {kvs : List (κ × PyData)}, KVp K F xs kvs → KVp K F (xs.map fun kv => if kv.1 = k then (kv.1, v) else kv) (kvs.map fun kv => if kv.1 = k then (kv.1, d) else kv)
  | _, _, .nil => .nil
  | (k1, v1) :: _, (k2, d2) :: _, .cons h t => by
    obtain ⟨h1, h2⟩ := h
    have h1 : k1 = k2 := h1
    subst h1
    refine .cons ?_ (kvp_map hd t)
    show (if k1 = k then (k1, v) else (k1, v1)).1 = (if k1 = k then (k1, d) else (k1, d2)).1 ∧ Dq K F (if k1 = k then (k1, v) else (k1, v1)).2 (if k1 = k then (k1, d) else (k1, d2)).2
    by_cases e : k1 = k
    · rw [if_pos e, if_pos e]; exact ⟨rfl, hd⟩
    · rw [if_neg e, if_neg e]; exact ⟨rfl, h2⟩
theorem kvp_app {v : V} {k : κ} {d : PyData} (hd : Dq K F v d) : ∀ {xs : List (κ × V)} {kvs : List (κ × PyData)}, KVp K F xs kvs → KVp K F (xs ++ [(k, v)]) (kvs ++ [(k, d)])
  | _, _, .nil => .cons ⟨rfl, hd⟩ .nil
  | _, _, .cons h t => .cons h (kvp_app hd t)
theorem kvp_put {xs : List (κ × V)} {kvs : List (κ × PyData)} {k : κ} {v : V} {d : PyData} (h : KVp K F xs kvs) (hd : Dq K F v d) : KVp K F (putK xs k v) (putP kvs k d) := by
  unfold putK putP
  rw [kvp_any h]
  by_cases e : (kvs.any fun kv => decide (kv.1 = k)) = true
  · rw [if_pos e, if_pos e]; exact kvp_map hd h
  · rw [if_neg e, if_neg e]; exact kvp_app hd h
theorem kvp_len : ∀ {xs : List (κ × V)} {kvs : List (κ × PyData)}, KVp K F xs kvs → xs.length = kvs.length
  | _, _, .nil => rfl
  | _, _, .cons _ t => congrArg Nat.succ (kvp_len t)
end
end TL
namespace TL
open PySem PySem.Spec PyProof.Rows L2
open Sem (wp)
def DGetS (K : Frag) (H : Hp) (a : Addr) (y : V) (r : Option V) : Prop :=
  DGet H a y r ∨ ∃ kvs k b, L2.Rd H a (.dT kvs) ∧ y = .ref b ∧ SqT K H b (k.map kV) ∧ r = valV kvs k
theorem DGetS.k {K : Frag} {H : Hp} {a : Addr} {kvs : List (Key × V)} {k : Key} (e : H a = some (.dK kvs)) : DGetS K H a (kV k) (valV kvs k) := .inl (DGet.k e)
theorem DGetS.t {K : Frag} {H : Hp} {a b : Addr} {kvs : List (List Key × V)} {k : List Key} (e : H a = some (.dT kvs)) (eb : SqT K H b (k.map kV)) : DGetS K H a (.ref b) (valV kvs k) := .inr ⟨kvs, k, b, .inl e, rfl, eb, rfl⟩
section
variable {X : Cx} {pins : List (Addr × Obj)} {σ : L2.St} {H : Hp} {s : Shared} {a : Addr} {y v d : V} {u r : Value} {o : Option V} {A : Around} {E : Value → Shared → Prop}
theorem keyS_of {b : Addr} {k : List Key} (I : Inv X pins σ H s) (h : SqT X.K H b (k.map kV)) : (tupleKind (mixKind X.prog X.w)).is s.heap k b := by
  obtain ⟨its, r, ⟨o, h1, h2, n, h3⟩, _⟩ := I.tuple h
  exact ⟨o, its.toArray, n, h1, h2, h3, by simpa using items_are r⟩
theorem dS_getItem {Q : Value → Shared → Prop} (hu : A.units + 1 < cLine) (I : Inv X pins σ H s) (g : DGetS X.K H a y (some v)) (ry : RelV y u) (h : ∀ w' s', Inv X pins σ H s' → RelV v w' → Q w' s') :
    wpAny (model X.prog X.w) A (getItem (.ref a) u) Q E s := by
  rcases g with g | ⟨kvs, k, b, e, ey, eb, l⟩
  · exact d_getItem hu I g ry h
  · subst ey
    cases (show u = Value.ref b from ry)
    obtain ⟨z, hd, xs, rel, dd⟩ := dt_rd I.hok e
    obtain ⟨w', hw, rw'⟩ := RelO.some_of (v := v) (o := (atKey xs k).map (·.2)) (by rw [l]; exact rel.val k)
    obtain ⟨p, hp, hp2⟩ := Option.map_eq_some_iff.mp hw
    refine wpAny_getItem_heap (tupleKind_room_in1 hu) (keyS_of I eb) dd hp ?_
    rw [hp2]
    exact h w' _ (I.tok _) rw'
theorem dS_notIn {Q : Value → Shared → Prop} (hu : A.units + 1 < cLine) (I : Inv X pins σ H s) (g : DGetS X.K H a y o) (ry : RelV y u) (h : ∀ s', Inv X pins σ H s' → Q (.bool (!o.isSome)) s') :
    wpAny (model X.prog X.w) A (compareOp .NotIn u (.ref a)) Q E s := by
  rcases g with g | ⟨kvs, k, b, e, ey, eb, l⟩
  · exact d_notIn hu I g ry h
  · subst ey
    cases (show u = Value.ref b from ry)
    obtain ⟨z, hd, xs, rel, dd⟩ := dt_rd I.hok e
    refine wpAny_notIn_heap (tupleKind_room_in1 hu) (keyS_of I eb) hd dd ?_
    have q := (rel.val k).isSome_eq
    rw [Option.isSome_map] at q
    rw [← q, ← l]
    exact h _ (I.tok _)
theorem dS_get2 {Q : Value → Shared → Prop} (hu : A.units + 1 < cLine) (I : Inv X pins σ H s) (g : DGetS X.K H a y o) (ry : RelV y u) (rd : RelV d r) (h : ∀ w' s', Inv X pins σ H s' → RelV (o.getD d) w' → Q w' s') :
    wpAny (model X.prog X.w) A (call (.builtin "dict.get") [.ref a, u, r]) Q E s := by
  rcases g with g | ⟨kvs, k, b, e, ey, eb, l⟩
  · exact d_get2 hu I g ry rd h
  · subst ey
    cases (show u = Value.ref b from ry)
    obtain ⟨z, hd, xs, rel, dd⟩ := dt_rd I.hok e
    refine call_meetsIn PySem.F.slot_dict_get dd.typeIs PySem.F.entry_dict_get (PySem.F.args_dict_get_3 _ _ _) (meetsH_dict_get_default (tupleKind (mixKind X.prog X.w)) a b hd r) ⟨tupleKind_room_in1 hu, k, xs, keyS_of I eb, dd, h _ _ (I.tok _) ?_⟩
    rw [l]
    exact (rel.val k).getD rd
theorem dS_typeIs (I : Inv X pins σ H s) (g : DGetS X.K H a y o) : s.TypeIs (.ref a) "dict" := by
  rcases g with g | ⟨kvs, k, b, e, _, _, _⟩
  · exact dict_typeIs I g
  · obtain ⟨_, _, xs, _, dd⟩ := dt_rd I.hok e
    exact dd.typeIs
end
def tDGetS (K : Frag) (td ty : TE) : TE := fun σ H Q => td σ H fun x H1 => ty σ H1 fun y H2 => ∃ a v, x = .ref a ∧ DGetS K H2 a y (some v) ∧ Q v H2
def tDNotInS (K : Frag) (ty td : TE) : TE := fun σ H Q => ty σ H fun y H1 => td σ H1 fun x H2 => ∃ a o, x = .ref a ∧ DGetS K H2 a y o ∧ Q (.bl (!o.isSome)) H2
def tDGet2S (K : Frag) (td ty tx : TE) : TE := fun σ H Q => td σ H fun x H1 => ∃ a, x = .ref a ∧ IsD H1 a ∧ ty σ H1 fun y H2 => tx σ H2 fun z H3 => ∃ o, DGetS K H3 a y o ∧ Q (o.getD z) H3
section
variable {X : Cx} {o i e f : Expr} {pos apos cpos : Pos} {td ty tx : TE}
theorem pe_dgetS (hu : X.A.units + 1 < cLine) (ho : PE X o td) (hi : PE X i ty) (hs : NoSl i) : PE X (.Subscript o i pos) (tDGetS X.K td ty) := by
  refine ⟨fun pins s σ H Q I h => ?_⟩
  refine subD_of PySem.F.slot_dict_getitem.lookup hs (thn (ho.run pins s σ H _ I h) fun u s1 ⟨x, H1, I1, rx, q1⟩ => thn (hi.run pins s1 σ H1 _ I1 q1) fun iv s2 ⟨y, H2, I2, ry, a, v, ex, g, q2⟩ => ?_)
  subst ex
  obtain rfl : u = Value.ref a := rx
  exact ⟨dS_typeIs I2 g, dS_getItem hu I2 g ry fun w' s3 I3 rw' => ⟨v, H2, I3, rw', q2⟩⟩
theorem pc_dnotinS (hu : X.A.units + 1 < cLine) (hi : PE X i ty) (ho : PE X o td) : PC X .NotIn i o (tDNotInS X.K ty td) := by
  refine ⟨fun pins s σ H Q I h => ?_⟩
  refine thn (hi.run pins s σ H _ I h) fun iv s1 ⟨y, H1, I1, ry, q1⟩ => thn (ho.run pins s1 σ H1 _ I1 q1) fun u s2 ⟨x, H2, I2, rx, a, ov, ex, g, q2⟩ => ?_
  subst ex
  obtain rfl : u = Value.ref a := rx
  exact dS_notIn hu I2 g ry fun s3 I3 => ⟨.bl (!ov.isSome), H2, I3, rfl, q2⟩
theorem pe_dget2S (hu : X.A.units + 1 < cLine) (ho : PE X o td) (he : PE X e ty) (hf : PE X f tx) (m : M2 X o "get" apos e f cpos) : PE X (.Call (.Attribute o "get" apos) [e, f] [] cpos) (tDGet2S X.K td ty tx) := by
  refine ⟨fun pins s σ H Q I h => ?_⟩
  refine wpAny_Call_method m.base m.few m.line PySem.F.plainAttrs_dict PySem.F.slot_dict_get PySem.F.type_dict_get (thn (ho.run pins s σ H _ I h) fun u s1 ⟨x, H1, I1, rx, a, ex, d, q1⟩ => ?_)
  subst ex
  obtain rfl : u = Value.ref a := rx
  obtain ⟨t1, t2, _⟩ := isD_at I1 d
  refine ⟨t1, t2, ?_⟩
  rw [m.trees]
  refine Calls.callWith_builtin rfl (Calls.evalArgs_plain (Calls.spliced_cons (thn (he.run pins s1 σ H1 _ I1 q1) fun iv s2 ⟨y, H2, I2, ry, q2⟩ =>
    Calls.spliced_cons (thn (hf.run pins s2 σ H2 _ I2 q2) fun fv s3 ⟨z, H3, I3, rz, ov, g, q3⟩ => Calls.spliced_nil ?_))))
  exact dS_get2 hu I3 g ry rz fun w' s4 I4 rw' => ⟨_, H3, I4, rw', q3⟩
end
end TL
namespace TL
open PySem PySem.Spec PyProof.Rows L2
structure SemI (X : Cx) (tg iter : Expr) (σ : SS) (H : Hp) (R : It → Hp → Prop) : Prop where
  run : ∀ (pins : List (Addr × Obj)) (s : Shared), Inv X pins σ H s →
    wpAny (model X.prog X.w) X.A (eval iter X.env) (fun v s1 => wpAny (model X.prog X.w) X.A (pyIter v) (PIE X pins σ tg R) X.xe s1) X.xe s
def semI (X : Cx) (tg iter : Expr) : TI := fun σ H R => SemI X tg iter σ H R
def ItOk (K : Frag) (J : It) (xs : List PyData) (F : Hp) : Prop := ∃ (G : Hp → Prop) (Y : Nat → Hp → V → Hp → Prop), Walk J xs.length G Y ∧ (∀ H, Ex F H → G H) ∧
  ∀ i d, xs[i]? = some d → ∀ H v H', Y i H v H' → ∀ g F1 σ env, St K g F1 H σ env → Ex F F1 → ∃ F2, St K g F2 H' σ env ∧ Ex F1 F2 ∧ Dq K F2 v d ∧ Ex H H' ∧ ∀ a, F2 a ≠ none → F1 a ≠ none ∨ H a = none
def WI (X : Cx) (g : G) (tg iter : Expr) (env : List Sl) (Φ : List PyData → Prop) (Ψ : Exc → Prop) : Prop :=
  ∀ (W : WX), Takes X W → ∀ (σ : SS) (F H : Hp), St X.K g F H σ env → HX X g env Ψ W σ →
    ∀ R : It → Hp → Prop, (∀ xs J F' H', Φ xs → xs.length ≤ sizeLine → St X.K g F' H' σ env → Ex F F' → ItOk X.K J xs F' → R J H') → semI X tg iter σ H R
section
variable {X : Cx} {g : G} {env env' : List Sl} {Ψ : Exc → Prop} {P : Po} {pos p lp : Pos} {a b c e tg iter : Expr} {es : List Expr} {rest body : List Stmt} {K : Frag} {F F' H H' : Hp} {σ σ' : SS}
theorem piS : PI X tg iter (semI X tg iter) := ⟨fun pins s σ H R I h => h.run pins s I⟩
theorem semI_of {wi : TI} (h : PI X tg iter wi) {R : It → Hp → Prop} (q : wi σ H R) : semI X tg iter σ H R := ⟨fun pins s I => h.run pins s σ H R I q⟩
def iAny (K : Frag) (tl : TE) : TI := fun σ H R => tl σ H fun x H1 => (∃ a xs, x = .ref a ∧ SqL K H1 a xs ∧ (xs.length ≤ sizeLine → R (Itl K a) H1)) ∨ (∃ a xs, x = .ref a ∧ SqT K H1 a xs ∧ (xs.length ≤ sizeLine → R (Itt K a) H1)) ∨ ∃ z, x = .str z ∧ R (Its z) H1
theorem pi_any {l : Expr} {tl : TE} (hl : PE X l tl) : PI X tg l (iAny X.K tl) := by
  refine ⟨fun pins s σ H R I h => ?_⟩
  refine thn (hl.run pins s σ H _ I h) fun v s1 ⟨x, H1, I1, r1, q1⟩ => ?_
  rcases q1 with ⟨a, xs, e, hq, q⟩ | ⟨a, xs, e, hq, q⟩ | ⟨z, e, q⟩
  · subst e
    cases r1
    obtain ⟨its, rv, p, hz⟩ := I1.list hq
    refine wpAny_pyIter_list p.isList ?_
    refine ⟨s1.heap.objs.size, [s1.heap.objs.size], _, _, H1, rfl, I1.kept (t' := s1.toks) fun b o e => Heap.get?_push_of_some _ e, turn_list a _, ⟨_, Heap.get?_push_size _ rfl, rfl, rfl⟩, fun b hb => ?_, q hz⟩
    have e : b = s1.heap.objs.size := by simpa using hb
    subst e
    exact I1.fpOk (Nat.le_refl _) (I1.hok.fresh (Nat.le_refl _))
  · subst e
    cases r1
    obtain ⟨its, rv, p, hz⟩ := I1.tuple hq
    refine wpAny_pyIter_tuple (show s1.heap.IsTuple a its.toArray from p) ?_
    refine ⟨s1.heap.objs.size, [s1.heap.objs.size], _, _, H1, rfl, I1.kept (t' := s1.toks) fun b o e => Heap.get?_push_of_some _ e, turn_tuple a _, ⟨_, Heap.get?_push_size _ rfl, rfl, rfl⟩, fun b hb => ?_, q hz⟩
    have e : b = s1.heap.objs.size := by simpa using hb
    subst e
    exact I1.fpOk (Nat.le_refl _) (I1.hok.fresh (Nat.le_refl _))
  · subst e
    obtain ⟨t, rfl⟩ := r1
    cases ha : z.cps.all (· < 128)
    · exact wpAny_pyIter_wide ha (pi_one (tk := s1.toks) I1 _ (turn_str _ z t "str_iterator" (.inr rfl)) ⟨_, Heap.get?_push_size _ rfl, rfl, rfl⟩ q)
    · exact wpAny_pyIter_ascii ha (pi_one (tk := s1.toks) I1 _ (turn_str _ z t "str_ascii_iterator" (.inl rfl)) ⟨_, Heap.get?_push_size _ rfl, rfl, rfl⟩ q)
def sgn (c : Nat) : PyData := .str ⟨#[c]⟩
/-- the items of data -/
def itM : PyData → (List PyData → Prop) → Prop
  | .list xs, K => K xs
  | .tuple xs, K => K xs
  | .str s, K => s.cps.size ≤ sizeLine ∧ K (s.cps.toList.map sgn)
  | _, _ => False
theorem itok_at {xs : List PyData} {vs : List V} {J : It} {G : Hp → Prop} (w : Walk J vs.length G (YAt vs)) (hG : ∀ H, Ex F H → G H) (h : DqAll K F vs xs) : ItOk K J xs F := by
  refine ⟨G, YAt vs, by rw [← dpa_len h]; exact w, hG, fun i d hd H v H' ⟨y1, y2⟩ g F1 σ env st e1 => ?_⟩
  subst y1
  obtain ⟨v', h1, h2⟩ := dpa_get h hd
  rw [y2] at h1
  cases h1
  exact ⟨F1, st, Ex.refl F1, dp_mono e1 _ _ h2, Ex.refl _, fun a h => .inl h⟩
theorem itok_str {z : Str} : ItOk K (Its z) (z.cps.toList.map sgn) F := by
  refine ⟨_, _, by rw [List.length_map, Array.length_toList]; exact walk_str, fun _ _ => trivial, fun i d hd H v H' hy g F1 σ env st e1 => ?_⟩
  obtain ⟨y1, c, y2, y3⟩ := hy
  subst y1 y3
  obtain ⟨c', h1, rfl⟩ := map_get hd
  rw [Array.getElem?_toList, y2] at h1
  cases h1
  exact ⟨F1, st, Ex.refl F1, .str _, Ex.refl _, fun a h => .inl h⟩
theorem wi_d {Φ : List PyData → Prop} (h : WE X g iter env (fun d z => z = true ∧ itM d Φ) Ψ) : WI X g tg iter env Φ Ψ := fun W tk σ F H st hx R hR => by
  refine semI_of (pi_any (peS iter)) ?_
  refine h W tk σ F H st hx _ fun d z v F1 H1 ⟨hz, hi⟩ s1 e1 rd => ?_
  subst hz
  cases d with
  | list xs =>
    obtain ⟨a, vs, rfl, hsq, hda⟩ := dp_lst rd
    have hi : Φ xs := hi
    exact .inl ⟨a, vs, rfl, ex_l s1.ex hsq, fun hl => hR xs _ F1 H1 hi (by rw [← dpa_len hda]; exact hl) s1 e1 (itok_at walk_list (fun H eH => ex_l eH hsq) hda)⟩
  | tuple xs =>
    obtain ⟨a, vs, rfl, hsq, hda⟩ := dp_tup rd
    have hi : Φ xs := hi
    exact .inr (.inl ⟨a, vs, rfl, ex_t s1.ex hsq, fun hl => hR xs _ F1 H1 hi (by rw [← dpa_len hda]; exact hl) s1 e1 (itok_at walk_tup (fun H eH => ex_t eH hsq) hda)⟩)
  | str s =>
    obtain ⟨hl, hi⟩ : s.cps.size ≤ sizeLine ∧ Φ (s.cps.toList.map sgn) := hi
    have e := dp_str rd
    subst e
    exact .inr (.inr ⟨s, rfl, hR _ _ F1 H1 hi (by rw [List.length_map, Array.length_toList]; exact hl) s1 e1 itok_str⟩)
  | none => exact hi.elim
  | bool b => exact hi.elim
  | int i => exact hi.elim
  | dict k => exact hi.elim
def rangeL (lo hi : Int) : List PyData := (List.range (hi - lo).toNat).map fun i => .int (lo + (i : Nat))
theorem itok_rng {lo hi : Int} : ItOk K (Itr lo (hi - lo).toNat) (rangeL lo hi) F := by
  refine ⟨_, _, by unfold rangeL; rw [List.length_map, List.length_range]; exact walk_range, fun _ _ => trivial, fun i d hd H v H' hy g F1 σ env st e1 => ?_⟩
  obtain ⟨y1, y2⟩ := hy
  subst y1 y2
  obtain ⟨j, h1, rfl⟩ := map_get hd
  have hj := (List.getElem?_eq_some_iff.mp h1)
  have hj : i = j := by
    obtain ⟨h3, h4⟩ := hj
    simpa using h4
  subst hj
  exact ⟨F1, st, Ex.refl F1, .int _, Ex.refl _, fun a h => .inl h⟩
def rngM : PyData → PyData → (List PyData → Prop) → Prop
  | .int lo, .int hi, K => (-1000000 ≤ lo ∧ lo ≤ 1000000 ∧ -1000000 ≤ hi ∧ hi ≤ 1000000) ∧ K (rangeL lo hi)
  | _, _, _ => False
theorem range_len {lo hi : Int} (h : -1000000 ≤ lo ∧ lo ≤ 1000000 ∧ -1000000 ≤ hi ∧ hi ≤ 1000000) : (rangeL lo hi).length ≤ sizeLine := by
  unfold rangeL
  rw [List.length_map, List.length_range, sizeLine_eq]
  omega
theorem wi_r1 {Φ : List PyData → Prop} {p1 p2 : Pos} (hm : X.mg "range" = none) (h : WE X g a env (fun d1 _ => rngM (.int 0) d1 Φ) Ψ) (hg : Gl X "range" := by rfl)
    (he : starEach [a] X.env = [(false, eval a X.env)] := by rfl) : WI X g tg (.Call (.Name "range" p1) [a] [] p2) env Φ Ψ := fun W tk σ F H st hx R hR => by
  refine semI_of (pi_range1 hg hm (pa_cons (peS a) pa_nil (by rw [he]; rfl)) he) ?_
  refine h W tk σ F H st hx _ fun d2 z2 v2 F2 H2 h2 s2 e2 r2 => ?_
  cases d2 with
  | int j =>
    obtain ⟨hb, hi⟩ : (-1000000 ≤ (0 : Int) ∧ (0 : Int) ≤ 1000000 ∧ -1000000 ≤ j ∧ j ≤ 1000000) ∧ Φ (rangeL 0 j) := h2
    rw [rd_int r2]
    have := itok_rng (K := X.K) (F := F2) (lo := 0) (hi := j)
    rw [Int.sub_zero] at this
    exact ⟨j, rfl, by omega, by omega, hR _ _ F2 H2 hi (range_len hb) s2 e2 this⟩
  | _ => exact h2.elim
def enumL (xs : List PyData) : List PyData := xs.mapIdx fun i x => .tuple [.int (i : Nat), x]
def enuM : PyData → (List PyData → Prop) → Prop
  | .list xs, K => K (enumL xs)
  | .tuple xs, K => K (enumL xs)
  | _, _ => False
theorem w1_for {t : TG} {A : PyData → Option (List (Nat × PyData))} (hp : PassesOwn (model X.prog X.w) X.A X.env X.xe) (hc : X.calm = true) (hpg : PG X tg t) (htd : TGd X.K t A)
    (hi : WI X g tg iter env (fun xs => ∃ Pv : Nat → List Sl → Prop, Pv 0 env ∧ (∀ i x, xs[i]? = some x → FT X g body A P Pv i x) ∧ ∀ e, Pv xs.length e → P.nx e) (fun c => P.ex c env))
    (hs : ∀ x, foldedSetIterable iter X.env x = pure x := by intro _; rfl) : W1 X g (.For tg iter body [] pos) env P := fun W tk hx2 σ F H s0 D hD => by
  refine semP_of (ps_for hp hc piS hpg (pssS body) hs) ?_
  refine hi W tk σ F H s0 (hx2.hx env σ) _ fun xs J F1 H1 ⟨Pv, p0, pt, pe⟩ hlen s1 e1 ⟨GG, Y, hw, hG, hy⟩ => ?_
  refine for_it hw (FJ X.K g F1 Pv) ⟨F1, env, s1, Ex.refl F1, p0⟩ (fun i σ' H' _ ⟨F2, e2, s2, ex2, _⟩ => hG _ (ex2.trans s2.ex)) (fun i x σ' H2 H3 hi2 hJ hY => ?_) (fun σ' H' ⟨F2, e2, s2, ex2, hp2⟩ => ?_)
  · obtain ⟨F2, e2, s2, ex2, hp2⟩ := hJ
    obtain ⟨d, hd⟩ : ∃ d, xs[i]? = some d := ⟨xs[i], by simp [hi2]⟩
    obtain ⟨F3, s3, ex3, hv, _, _⟩ := hy i d hd _ _ _ hY _ _ _ _ s2 ex2
    exact for_turn2 tk hx2 (hD.mono e1) htd hv s3 (ex2.trans ex3) hp2 (pt i d hd)
  · exact hD.nx e2 σ' F2 H' (pe e2 hp2) s2 (e1.trans ex2)
theorem lc_turn2 {scope : Scope} {ifs : List Expr} {elt : Expr} {t : TG} {A : PyData → Option (List (Nat × PyData))} {F1 : Hp} {vs : List Nat} {Pv : Nat → List PyData → Prop} {D : Addr} {i : Nat} {x : PyData} {v : V} {l : List (Nat × PyData)}
    (htd : TGd X.K t A) (hA : A x = some l) (hl : ∀ q ∈ l, q.1 ∈ vs ∧ q.1 < env.length) (hsz : i < sizeLine) {F : Hp} {acc : List PyData} {avs : List V} (st : St X.K g F H (wipe σ vs) (wipeE env vs)) (eF : Ex F1 F) (hv : Dq X.K F v x) (hD : H D = some (.lst avs)) (hd : DqAll X.K F avs acc) (fD : F D = none) (oD : ¬ Own (wipeE env vs) D) (gD : g.H0 D = none) (hp : Pv i acc) (hlen : acc.length ≤ i)
    (hb : ∀ (g' : G) s H0 C cl fp, WTs (BX X scope s H0 C cl fp) g' ifs (putsE (wipeE env vs) l) (fun b => (b = true → ∀ s H0 C cl fp, WE (BX X scope s H0 C cl fp) g' elt (putsE (wipeE env vs) l) (fun y z => z = true ∧ Pv (i + 1) (acc ++ [y])) (fun _ => False)) ∧ (b = false → Pv (i + 1) acc))) :
    t v (wipe σ vs) H fun σ2 H2 => wipe σ2 vs = wipe σ vs ∧ semTB X scope ifs σ2 H2 fun b H3 =>
      if b = true then semEB X scope elt σ2 H3 fun y H4 => ∃ acc, H4 D = some (.lst acc) ∧ acc.length < sizeLine ∧ LJ X.K g F1 (wipe σ vs) (wipeE env vs) Pv D (i + 1) (upd H4 D (.lst (acc ++ [y]))) else LJ X.K g F1 (wipe σ vs) (wipeE env vs) Pv D (i + 1) H3 := by
  refine htd x l (wipe σ vs) F H v _ hA st.ex hv fun r sr => ?_
  have hidx : ∀ q ∈ r, q.1 ∈ vs := setsP_idx sr fun q hq => (hl q hq).1
  refine ⟨by rw [wipe_putsV hidx]; exact wipe_wipe σ vs, ?_⟩
  -- the state within the turn, over a ground of its own
  have st1 : St X.K ⟨F, H, fps (wipeE env vs)⟩ F H (putsV (wipe σ vs) r) (putsE (wipeE env vs) l) := St.sets st.toSk.base sr fun q hq => by rw [wipeE_len]; exact (hl q hq).2
  have back : ∀ {F' H'}, St X.K ⟨F, H, fps (wipeE env vs)⟩ F' H' (putsV (wipe σ vs) r) (putsE (wipeE env vs) l) → Ex F F' → St X.K ⟨F, H, fps (wipeE env vs)⟩ F' H' (wipe σ vs) (wipeE env vs) := fun {F' H'} s' e' =>
    { len := by rw [wipe_length, wipeE_len]; have := s'.len; rw [putsE_len, wipeE_len] at this; rw [← this, putsV_len, wipe_length]
      sl := fun k s e => by
        by_cases hm : k ∈ vs
        · rw [wipeE_get, if_pos hm] at e
          obtain ⟨_, _, e⟩ := Option.map_eq_some_iff.mp e
          subst e
          trivial
        · have e2 : (putsE (wipeE env vs) l)[k]? = some s := by rw [putsE_get (i := k) fun q hq (z : q.1 = k) => hm (by rw [← z]; exact (hl q hq).1)]; exact e
          have q := s'.sl k s e2
          rw [putsV_get (i := k) fun q hq (z : q.1 = k) => hm (by rw [← z]; exact hidx q hq)] at q
          exact q
      nd := st.nd
      fr := fun a h => by
        obtain ⟨k, s, h1, h2⟩ := h
        by_cases hm : k ∈ vs
        · rw [wipeE_get, if_pos hm] at h1
          obtain ⟨_, _, e⟩ := Option.map_eq_some_iff.mp h1
          subst e
          cases h2
        · exact s'.fr a ⟨k, s, by rw [putsE_get (i := k) fun q hq (z : q.1 = k) => hm (by rw [← z]; exact (hl q hq).1)]; exact h1, h2⟩
      ex := s'.ex
      tf := s'.tf
      tk := s'.tk
      gt := s'.gt
      g1 := s'.g1
      g2 := fun a h => .inr (own_fps.mp h)
      g3 := s'.g3
      g4 := s'.g4
      g5 := s'.g5
      g6 := s'.g6 }
  have keepD : ∀ {F' H'}, St X.K ⟨F, H, fps (wipeE env vs)⟩ F' H' (putsV (wipe σ vs) r) (putsE (wipeE env vs) l) → H' D = some (.lst avs) ∧ F' D = none := fun {F' H'} s' => by
    refine ⟨s'.g1 D _ hD (fun z => oD (own_fps.mpr z)) (fun _ z => by cases z), ?_⟩
    cases q : F' D with
    | none => rfl
    | some u =>
      rcases s'.g4 D (by rw [q]; intro z; cases z) with z | z
      · exact absurd fD z
      · have z' : H D = none := z
        rw [hD] at z'; cases z'
  have tests : ∀ (Q : Bool → Hp → Prop), (∀ b F' H', ((b = true → ∀ s H0 C cl fp, WE (BX X scope s H0 C cl fp) ⟨F, H, fps (wipeE env vs)⟩ elt (putsE (wipeE env vs) l) (fun y z => z = true ∧ Pv (i + 1) (acc ++ [y])) (fun _ => False)) ∧ (b = false → Pv (i + 1) acc)) →
      St X.K ⟨F, H, fps (wipeE env vs)⟩ F' H' (putsV (wipe σ vs) r) (putsE (wipeE env vs) l) → Ex F F' → Q b H') → semTB X scope ifs (putsV (wipe σ vs) r) H Q := fun Q hQ => by
    cases ifs with
    | nil =>
      exact hQ true F H ⟨fun _ s H0 C cl fp => (hb _ (X.s_0) H0 C cl fp).1 rfl s H0 C cl fp, fun z => by cases z⟩ st1 (Ex.refl F)
    | cons c cs =>
      intro s H0 C cl fp
      refine hb _ s H0 C cl fp _ takesB _ F H st1 hxF Q fun b F' H' hbb s' e' => hQ b F' H' hbb s' e'
  refine tests _ fun b F' H' ⟨h1, h2⟩ s' e' => ?_
  cases b with
  | true =>
    rw [if_pos rfl]
    intro s H0 C cl fp
    refine h1 rfl s H0 C cl fp _ takesB _ F' H' s' hxF _ fun y z w F2 H2 ⟨hz, hp2⟩ s2 e2 rd => ?_
    subst hz
    obtain ⟨hD2, fD2⟩ := keepD s2
    refine ⟨avs, hD2, by rw [dpa_len hd]; omega, F2, acc ++ [y], avs ++ [w], ?_, eF.trans (e'.trans e2), upd_same, ?_, fD2, oD, gD, hp2, by rw [List.length_append, List.length_singleton]; omega⟩
    · have s3 := st.rebase (back s2 (e'.trans e2)) fun a h => h
      exact s3.untracked fD2 oD gD
    · exact dpa_app (dpa_mono (e'.trans e2) _ _ hd) (dpa_one rd)
  | false =>
    rw [if_neg Bool.false_ne_true]
    obtain ⟨hD2, fD2⟩ := keepD s'
    exact ⟨F', acc, avs, st.rebase (back s' e') fun a h => h, eF.trans e', hD2, dpa_mono e' _ _ hd, fD2, oD, gD, h2 rfl, by omega⟩
def LT2 (X : Cx) (env : List Sl) (scope : Scope) (ifs : List Expr) (elt : Expr) (vs : List Nat) (A : PyData → Option (List (Nat × PyData))) (Pv : Nat → List PyData → Prop) (i : Nat) (x : PyData) : Prop :=
  ∀ acc, Pv i acc → ∃ l, A x = some l ∧ (l.all fun q => vs.elem q.1 && Nat.blt q.1 env.length) = true ∧ ∀ (g' : G) s H0 C cl fp, WTs (BX X scope s H0 C cl fp) g' ifs (putsE (wipeE env vs) l) (fun b =>
    (b = true → ∀ s H0 C cl fp, WE (BX X scope s H0 C cl fp) g' elt (putsE (wipeE env vs) l) (fun y z => z = true ∧ Pv (i + 1) (acc ++ [y])) (fun _ => False)) ∧ (b = false → Pv (i + 1) acc))
section
variable {elt : Expr} {ifs : List Expr} {scope : Scope} {own : List (Str × Nat)} {t : TG} {A : PyData → Option (List (Nat × PyData))} {Φ : List PyData → Prop}
theorem nt_lc (htd : TGd X.K t A) (hwo : wipeOk env (own.map (·.2)) = true)
    (hi : WI X g tg iter env (fun xs => ∃ Pv : Nat → List PyData → Prop, Pv 0 [] ∧ (∀ i x, xs[i]? = some x → LT2 X env scope ifs elt (own.map (·.2)) A Pv i x) ∧ ∀ acc, Pv xs.length acc → Φ acc) Ψ) : WNt X g (tLc (semI X tg iter) t (semTB X scope ifs) (semEB X scope elt) (own.map (·.2))) env Φ Ψ := fun W tk σ F H st hx Q hQ => by
  refine hi W tk σ F H st hx _ fun xs J F1 H1 ⟨Pv, p0, pt, pe⟩ hlen s1 e1 ⟨GG, Y, hw, hG, hy⟩ => fun D hD => ?_
  have st2 : St X.K g F1 (upd H1 D (.lst [])) (wipe σ (own.map (·.2))) (wipeE env (own.map (·.2))) := (s1.alloc hD).wiped _
  refine lc_it hw (LJ X.K g F1 (wipe σ (own.map (·.2))) (wipeE env (own.map (·.2))) Pv D) ⟨F1, [], [], st2, Ex.refl F1, upd_same, .nil, s1.ex.none hD, fun z => s1.there (own_wipe z) hD, s1.h0 hD, p0, Nat.le_refl 0⟩ (fun i H2 _ ⟨F2, _, _, s3, e3, _⟩ => hG _ (e3.trans s3.ex)) (fun i x H2 H3 hi2 hJ hY => ?_) (fun H2 ⟨F2, acc, avs, s3, e3, hD3, hd3, fD, oD, gD, hp, _⟩ => ?_)
  · obtain ⟨F2, acc, avs, s3, e3, hD3, hd3, fD, oD, gD, hp, hl2⟩ := hJ
    obtain ⟨d, hd⟩ : ∃ d, xs[i]? = some d := ⟨xs[i], by simp [hi2]⟩
    obtain ⟨F3, s4, ex4, hv, exH, hF⟩ := hy i d hd _ _ _ hY _ _ _ _ s3 e3
    obtain ⟨l, hA, hl, hb⟩ := pt i d hd acc hp
    have fD3 : F3 D = none := by
      cases q : F3 D with
      | none => rfl
      | some u =>
        rcases hF D (by rw [q]; intro z; cases z) with z | z
        · exact absurd fD z
        · rw [hD3] at z; cases z
    exact lc_turn2 htd hA (lt_idx hl) (by omega) s4 (e3.trans ex4) hv (exH _ _ hD3) (dpa_mono ex4 _ _ hd3) fD3 oD gD hp hl2 hb
  · exact hQ acc (.ref D) F2 H2 (pe acc hp) (s1.unwiped hwo s3 e3) (e1.trans e3) ⟨D, avs, rfl, hD3, hd3, fD, fun z => s1.there z hD, gD⟩
theorem wn_lc (hc : X.calm = true) (hN : X.N.Nodup) (ok : BlkOk X.N X.env.scope scope own) (hpg : ∀ s H C cl fp, PG (BX X scope s H C cl fp) tg t) (htd : TGd X.K t A) (h1 : ifs.length ≤ 1) (hwo : wipeOk env (own.map (·.2)) = true)
    (hi : WI X g tg iter env (fun xs => ∃ Pv : Nat → List PyData → Prop, Pv 0 [] ∧ (∀ i x, xs[i]? = some x → LT2 X env scope ifs elt (own.map (·.2)) A Pv i x) ∧ ∀ acc, Pv xs.length acc → Φ acc) Ψ)
    (hs : ∀ x, foldedSetIterable iter X.env x = pure x := by intro _; rfl) : WN X g (.ListComp elt [⟨tg, iter, ifs, 0⟩] scope pos) env Φ Ψ := fun W tk σ F H st hx Q hQ =>
  semE_of (pe_lc hc hN piS ok hpg (ptsB h1) peB hs) (nt_lc htd hwo hi W tk σ F H st hx Q hQ)
end
end
end TL
namespace TL
open PySem PySem.Spec PyProof.Rows L2
abbrev KD := PyData → Prop
abbrev KL := List PyData → Prop
abbrev KB := Bool → Prop
abbrev KX := Exc → Prop
def addM : PyData → PyData → KD → Prop
  | .int i, .int j, K => K (.int (i + j))
  | .str i, .str j, K => i.length + j.length ≤ sizeLine ∧ K (.str (i ++ j))
  | .list xs, .list ys, K => xs.length + ys.length ≤ sizeLine ∧ K (.list (xs ++ ys))
  | .tuple xs, .tuple ys, K => xs.length + ys.length ≤ sizeLine ∧ K (.tuple (xs ++ ys))
  | _, _, _ => False
def addLM : PyData → PyData → KL → Prop
  | .list xs, .list ys, K => xs.length + ys.length ≤ sizeLine ∧ K (xs ++ ys)
  | _, _, _ => False
def subM : PyData → PyData → KD → Prop
  | .int i, .int j, K => K (.int (i - j))
  | _, _, _ => False
def mulM : PyData → PyData → KD → Prop
  | .int i, .int j, K => (CMul i j ∨ CMulW i j) ∧ K (.int (i * j))
  | _, _, _ => False
def divM : PyData → PyData → KD → Prop
  | .int i, .int j, K => CDivW i j ∧ K (.int (i / j))
  | _, _, _ => False
def modM : PyData → PyData → KD → Prop
  | .int i, .int j, K => 0 < j ∧ K (.int (i % j))
  | _, _, _ => False
def negM : PyData → KD → Prop
  | .int i, K => K (.int (-i))
  | _, _ => False
def boolM : PyData → KB → Prop
  | .bool b, K => K b
  | _, _ => False
def eqM : PyData → PyData → KB → Prop
  | .int i, .int j, K => K (decide (i = j))
  | .str i, .str j, K => K (decide (i = j))
  | .bool i, .bool j, K => K (decide (i = j))
  | x, y, K => SeqAt.shaped x = true ∧ SeqAt.shaped y = true ∧ K (PyData.eqv x y)
def neM : PyData → PyData → KB → Prop
  | .int i, .int j, K => K (!decide (i = j))
  | .str i, .str j, K => K (!decide (i = j))
  | .bool i, .bool j, K => K (!decide (i = j))
  | x, y, K => SeqAt.shaped x = true ∧ SeqAt.shaped y = true ∧ K (!PyData.eqv x y)
def intsOf : List PyData → Option (List Int)
  | [] => some []
  | .int i :: r => match intsOf r with
    | some l => some (i :: l)
    | none => none
  | _ :: _ => none
def ltM : PyData → PyData → KB → Prop
  | .int i, .int j, K => K (decide (i < j))
  | .tuple xs, .tuple ys, K => match intsOf xs, intsOf ys with
    | some ns, some ms => K (HT.lexLt ns ms)
    | _, _ => False
  | _, _, _ => False
def leTup (ns ms : List Int) : Bool := Ob.lexAt (fun j => decide (ns.getD j 0 = ms.getD j 0)) (fun j => decide (ns.getD j 0 ≤ ms.getD j 0)) (decide (ns.length ≤ ms.length)) 0 (min ns.length ms.length)
def leM : PyData → PyData → KB → Prop
  | .int i, .int j, K => K (decide (i ≤ j))
  | .tuple xs, .tuple ys, K => match intsOf xs, intsOf ys with
    | some ns, some ms => K (leTup ns ms)
    | _, _ => False
  | _, _, _ => False
def gtM : PyData → PyData → KB → Prop
  | .int i, .int j, K => K (decide (j < i))
  | _, _, _ => False
def geM : PyData → PyData → KB → Prop
  | .int i, .int j, K => K (decide (j ≤ i))
  | _, _, _ => False
def flAll : List PyData → Option (List V)
  | [] => some []
  | d :: r => match fl d, flAll r with
    | some v, some l => some (v :: l)
    | _, _ => none
def inLstM (x : PyData) (ds : List PyData) (K : KB) : Prop := match fl x, flAll ds with
  | some v, some vs => K (inV v vs)
  | _, _ => SeqAt.shaped x = true ∧ SeqAt.shaped (.list ds) = true ∧ K (ds.any fun z => PyData.eqv z x)
def inTupM (x : PyData) (ds : List PyData) (K : KB) : Prop := match fl x, flAll ds with
  | some v, some vs => K (inV v vs)
  | _, _ => False
def inTplM (x : PyData) (ds : List PyData) (K : KB) : Prop := match fl x, flAll ds with
  | some v, some vs => K (inV v vs)
  | _, _ => SeqAt.shaped x = true ∧ SeqAt.shaped (.tuple ds) = true ∧ K (ds.any fun z => PyData.eqv z x)
def inM (x : PyData) : PyData → KB → Prop
  | .list ds, K => inLstM x ds K
  | .tuple ds, K => inTplM x ds K
  | .str t, K => match x with
    | .str s => K (!(Builtin.Str.occurrences t s 0 t.length 1).isEmpty)
    | _ => False
  | _, _ => False
def notInM (x c : PyData) (K : KB) : Prop := inM x c fun b => K (!b)
def ixM : PyData → PyData → KD → Prop
  | .list xs, .int i, K => match atI xs i with
    | some y => K y
    | none => False
  | .tuple xs, .int i, K => match atI xs i with
    | some y => K y
    | none => False
  | .str s, .int i, K => s.length ≤ sizeLine ∧ match atI s.cps.toList i with
    | some c => K (sgn c)
    | none => False
  | _, _, _ => False
def intO : PyData → (Int → Prop) → Prop
  | .int i, K => K i
  | _, _ => False
def slM : PyData → Option Int → Option Int → KD → Prop
  | .list xs, lo, hi, K => K (.list (cut xs lo hi))
  | .tuple xs, lo, hi, K => K (.tuple (cut xs lo hi))
  | .str z, lo, hi, K => z.length ≤ sizeLine ∧ K (.str (cutS z lo hi))
  | _, _, _, _ => False
def slLM : PyData → Option Int → Option Int → KL → Prop
  | .list xs, lo, hi, K => K (cut xs lo hi)
  | _, _, _, _ => False
def revM : PyData → KL → Prop
  | .list xs, K => K xs.reverse
  | _, _ => False
def lenM : PyData → KD → Prop
  | .list xs, K => K (.int xs.length)
  | .tuple xs, K => K (.int xs.length)
  | .str s, K => s.length ≤ sizeLine ∧ K (.int s.length)
  | _, _ => False
def absM : PyData → KD → Prop
  | .int i, K => K (.int (if i < 0 then -i else i))
  | _, _ => False
def sumM : PyData → KD → Prop
  | .list xs, K => match intsOf xs with
    | some ns => K (.int ns.sum)
    | none => False
  | _, _ => False
def boolsOf : List PyData → Option (List Bool)
  | [] => some []
  | .bool i :: r => match boolsOf r with
    | some l => some (i :: l)
    | none => none
  | _ :: _ => none
def allM : PyData → KD → Prop
  | .list xs, K => match boolsOf xs with
    | some ns => K (.bool (ns.all id))
    | none => False
  | _, _ => False
def anyM : PyData → KD → Prop
  | .list xs, K => match boolsOf xs with
    | some ns => K (.bool (ns.any id))
    | none => False
  | _, _ => False
def intM : PyData → KD → Prop
  | .int i, K => K (.int i)
  | .bool b, K => K (.int (if b then 1 else 0))
  | _, _ => False
def tupM : PyData → KD → Prop
  | .list xs, K => K (.tuple xs)
  | .tuple xs, K => K (.tuple xs)
  | _, _ => False
def listM : PyData → KL → Prop
  | .list xs, K => K xs
  | .tuple xs, K => K xs
  | _, _ => False
def sortM : PyData → KL → Prop
  | .list ds, K => (PySem.W.AllAlike ds ∧ PySem.W.Sortable ds ∧ ∀ d ∈ ds, SeqAt.shaped d = true) ∧ K (srt ds)
  | _, _ => False
def min2M : PyData → PyData → KD → Prop
  | .int i, .int j, K => K (.int (if j < i then j else i))
  | _, _, _ => False
def max2M : PyData → PyData → KD → Prop
  | .int i, .int j, K => K (.int (if j > i then j else i))
  | _, _, _ => False
def andM (ma mb : KB → Prop) (K : KB) : Prop := ma fun b => (b = true → mb K) ∧ (b = false → K false)
def orM (ma mb : KB → Prop) (K : KB) : Prop := ma fun b => (b = true → K true) ∧ (b = false → mb K)
def ifM {α : Type} (mt : KB → Prop) (ma mb : (α → Prop) → Prop) (K : α → Prop) : Prop := mt fun b => (b = true → ma K) ∧ (b = false → mb K)
def un2 : PyData → (PyData → PyData → Prop) → Prop
  | .tuple [a, b], K => K a b
  | _, _ => False
def un3 : PyData → (PyData → PyData → PyData → Prop) → Prop
  | .tuple [a, b, c], K => K a b c
  | _, _ => False
def un4 : PyData → (PyData → PyData → PyData → PyData → Prop) → Prop
  | .tuple [a, b, c, d], K => K a b c d
  | _, _ => False
theorem un2_sh {d : PyData} {K} (h : un2 d K) : ∃ a b, d = .tuple [a, b] ∧ K a b := by
  unfold un2 at h
  split at h
  · exact ⟨_, _, rfl, h⟩
  · exact h.elim
def forM {σ : Type} (bd : PyData → σ → (σ → Prop) → (σ → Prop) → Prop) (K : σ → Prop) : List PyData → σ → Prop
  | [], s => K s
  | x :: xs, s => bd x s (fun s' => forM bd K xs s') K
def lcM {β : Type} (bd : PyData → (β → Prop) → Prop → Prop) (K : List β → Prop) : List PyData → List β → Prop
  | [], acc => K acc
  | x :: xs, acc => bd x (fun y => lcM bd K xs (acc ++ [y])) (lcM bd K xs acc)
/-- ways that come together -/
def joinM {σ : Type} (bd : (σ → Prop) → Prop) (K : σ → Prop) : Prop := bd K
section
variable {X : Cx} {g : G} {env env' : List Sl} {Ψ : Exc → Prop} {P : Po} {pos p lp : Pos} {a b c e tg iter : Expr} {es : List Expr} {rest body : List Stmt} {K : Frag} {F F' H H' : Hp} {σ σ' : SS} {x y : PyData} {z1 z2 : Bool}
theorem ws_env {env' : List Sl} (h : env = env') (k : WS X g rest env' P) : WS X g rest env P := h ▸ k
section
variable {Q : KD} {Φ : PyData → Bool → Prop}
theorem add_sh (h : addM x y Q) (k : ∀ r, Q r → Φ r true) : AddP Φ x z1 y z2 := by
  unfold addM at h
  split at h
  · exact .int (k _ h)
  · exact .str (k _ h.2) h.1
  · exact .lst (k _ h.2) h.1
  · exact .tup (k _ h.2) h.1
  · exact h.elim
theorem sub_sh (h : subM x y Q) (k : ∀ r, Q r → Φ r true) : IntP (fun _ _ => True) (fun i j => i - j) Φ x z1 y z2 := by
  unfold subM at h
  split at h
  · exact ⟨k _ h, trivial⟩
  · exact h.elim
theorem ix_sh (h : ixM x y Q) (k : ∀ r, Q r → Φ r true) : IxP Φ x z1 y z2 := by
  unfold ixM at h
  split at h
  · split at h
    · rename_i e; exact .lst (k _ h) e
    · exact h.elim
  · split at h
    · rename_i e; exact .tup (k _ h) e
    · exact h.elim
  · obtain ⟨h1, h⟩ := h
    split at h
    · rename_i e; exact .str (k _ h) h1 e
    · exact h.elim
  · exact h.elim
theorem len_sh (h : lenM x Q) (k : ∀ r, Q r → Φ r true) : LenP Φ x z1 := by
  unfold lenM at h
  split at h
  · exact .lst (k _ h)
  · exact .tup (k _ h)
  · exact .str (k _ h.2) h.1
  · exact h.elim
theorem intsOf_eq : ∀ {xs : List PyData} {ns : List Int}, intsOf xs = some ns → xs = ns.map .int
  | [], _, h => by cases h; rfl
  | d :: r, ns, h => by
    cases d with
    | int i =>
      unfold intsOf at h
      split at h
      · rename_i l e; cases h; rw [intsOf_eq e]; rfl
      · cases h
    | _ => cases h
theorem ints_of (ns : List Int) : intsOf (ns.map .int) = some ns := by
  induction ns with
  | nil => rfl
  | cons n ns ih => show (match intsOf (ns.map .int) with | some l => some (n :: l) | none => none) = _; rw [ih]
theorem boolsOf_eq : ∀ {xs : List PyData} {ns : List Bool}, boolsOf xs = some ns → xs = ns.map .bool
  | [], _, h => by cases h; rfl
  | d :: r, ns, h => by
    cases d with
    | bool i =>
      unfold boolsOf at h
      split at h
      · rename_i l e; cases h; rw [boolsOf_eq e]; rfl
      · cases h
    | _ => cases h
theorem bools_of (ns : List Bool) : boolsOf (ns.map .bool) = some ns := by
  induction ns with
  | nil => rfl
  | cons n ns ih => show (match boolsOf (ns.map .bool) with | some l => some (n :: l) | none => none) = _; rw [ih]
theorem all_sh (h : allM x Q) (k : ∀ r, Q r → Φ r true) : ∃ ns : List Bool, x = .list (ns.map .bool) ∧ Φ (.bool (ns.all id)) true := by
  unfold allM at h
  split at h
  · split at h
    · rename_i e; exact ⟨_, by rw [boolsOf_eq e], k _ h⟩
    · exact h.elim
  · exact h.elim
theorem tup_sh (h : tupM x Q) (k : ∀ r, Q r → Φ r true) (hz : z1 = true ∨ isTyB "tuple" x = false := by exact Or.inl rfl) : TupP Φ x z1 := by
  unfold tupM at h
  split at h
  · exact .lst (k _ h)
  · rcases hz with hz | hz
    · subst hz; exact .tup (k _ h)
    · rename_i xs
      have e : isTyB "tuple" (.tuple xs) = true := by show (L2.kitB "tuple" "tuple").getD false = true; decide +kernel
      rw [e] at hz; cases hz
  · exact h.elim
theorem min2_sh (h : min2M x y Q) (k : ∀ r, Q r → Φ r true) : ∃ i j, x = .int i ∧ y = .int j ∧ Φ (.int (if j < i then j else i)) true := by
  unfold min2M at h
  split at h
  · exact ⟨_, _, rfl, rfl, k _ h⟩
  · exact h.elim
theorem max2_sh (h : max2M x y Q) (k : ∀ r, Q r → Φ r true) : ∃ i j, x = .int i ∧ y = .int j ∧ Φ (.int (if j > i then j else i)) true := by
  unfold max2M at h
  split at h
  · exact ⟨_, _, rfl, rfl, k _ h⟩
  · exact h.elim
end
theorem bool_sh {Q : KB} {Φ : Bool → Prop} (h : boolM x Q) (k : ∀ r, Q r → Φ r) : ∃ b, x = .bool b ∧ Φ b := by
  unfold boolM at h
  split at h
  · exact ⟨_, rfl, k _ h⟩
  · exact h.elim
theorem sl_sh {Q : KD} {Φ : KD} {lo hi : Option Int} (h : slM x lo hi Q) (k : ∀ r, Q r → Φ r) : slM x lo hi Φ := by
  unfold slM at *
  split at h
  · exact k _ h
  · exact k _ h
  · exact ⟨h.1, k _ h.2⟩
  · exact h.elim
theorem we_slA {lo hi : Option Expr} {p2 : Pos} {Φ : PyData → Bool → Prop} (h : WE X g a env (fun d1 z => z = true ∧ WP X g lo env (fun l => WP X g hi env (fun u => slM d1 l u fun r => Φ r true) Ψ) Ψ) Ψ) : WE X g (.Subscript a (.Slice lo hi none p2) pos) env Φ Ψ := fun W tk σ F H st hx Q hQ => by
  refine semE_of (pe_slice (sl_list.or (sl_tupA.or sl_str)) (peS a) (poS lo) (poS hi)) ?_
  refine h W tk σ F H st hx _ fun d1 z1 v1 F1 H1 ⟨hz, h1⟩ st1 e1 r1 => ?_
  subst hz
  refine wp_run h1 tk st1 hx fun l F2 H2 h2 st2 e2 => wp_run h2 tk st2 hx fun u F3 H3 h3 st3 e3 => ?_
  have E := (e1.trans e2).trans e3
  have r3 := rd_mono (e2.trans e3) r1
  cases d1 with
  | list xs =>
    have h3 : Φ (.list (cut xs l u)) true := h3
    obtain ⟨a1, vs1, rfl, s1, p1⟩ := rd_lst st3.toSk r3
    exact .inl ⟨a1, vs1, rfl, s1, fun p hp => put_lst st3 hp (dpa_cut p1 l u) h3 fun d z v F' H' q1 q2 q3 q4 => hQ d z v F' H' q1 q2 (E.trans q3) q4⟩
  | tuple xs =>
    have h3 : Φ (.tuple (cut xs l u)) true := h3
    obtain ⟨a1, vs1, rfl, s1, p1⟩ := rd_tup st3.toSk r3
    refine .inr (.inl ⟨a1, vs1, rfl, s1, fun hw => ?_, fun _ p hp => put_tup st3 hp (dpa_cut p1 l u) h3 fun d z v F' H' q1 q2 q3 q4 => hQ d z v F' H' q1 q2 (E.trans q3) q4⟩)
    rw [dpa_len p1] at hw
    rw [cut_whole hw] at h3
    exact hQ _ true _ F3 H3 h3 st3 E r3
  | str s =>
    obtain ⟨hl, h3⟩ : s.length ≤ sizeLine ∧ Φ (.str (cutS s l u)) true := h3
    rw [rd_str r3]
    exact .inr (.inr ⟨s, rfl, hl, hQ _ true _ F3 H3 h3 st3 E (.str _)⟩)
  | _ => exact h3.elim
theorem into_sh {Q : Int → Prop} {Φ : Int → Prop} (h : intO x Q) (k : ∀ r, Q r → Φ r) : ∃ i, x = .int i ∧ Φ i := by
  unfold intO at h
  split at h
  · exact ⟨_, rfl, k _ h⟩
  · exact h.elim
section
variable {Q : KB} {Φ : KB}
theorem eq_sh (h : eqM x y Q) (k : ∀ b, Q b → Φ b) : ∃ b, CP K g env (rEqA K) x z1 y z2 b ∧ Φ b := by
  unfold eqM at h
  split at h
  · exact ⟨_, cp_eqI, k _ h⟩
  · exact ⟨_, cp_eqS, k _ h⟩
  · exact ⟨_, cp_eqB, k _ h⟩
  · exact ⟨_, cp_eqD h.1 h.2.1, k _ h.2.2⟩
theorem ne_sh (h : neM x y Q) (k : ∀ b, Q b → Φ b) : ∃ b, CP K g env (rNeA K) x z1 y z2 b ∧ Φ b := by
  unfold neM at h
  split at h
  · exact ⟨_, cp_neI, k _ h⟩
  · exact ⟨_, cp_neS, k _ h⟩
  · exact ⟨_, cp_neB, k _ h⟩
  · exact ⟨_, cp_neD h.1 h.2.1, k _ h.2.2⟩
abbrev rLeA (K : Frag) : R2 := fun x y H Q => (rI0 fun i j => .bl (decide (i ≤ j))) x y H Q ∨ rLeT K x y H Q
theorem op_leA {k : Nat} (hr : Room k X.A) : OpR X (compareOp .LtE) (rLeA X.K) := op_le.or (op_leT hr.units0)
theorem cp_leA {i j : Int} : CP K g env (rLeA K) (.int i) z1 (.int j) z2 (decide (i ≤ j)) := cp_l cp_le
theorem cp_leTA (ns ms : List Int) : CP K g env (rLeA K) (.tuple (ns.map .int)) z1 (.tuple (ms.map .int)) z2 (leTup ns ms) := cp_r fun σ F H v1 v2 st r1 r2 Q q => by
  obtain ⟨a1, vs1, rfl, s1, p1⟩ := rd_tup st.toSk r1
  obtain ⟨a2, vs2, rfl, s2, p2⟩ := rd_tup st.toSk r2
  rw [dpa_ints_eq p1] at s1
  rw [dpa_ints_eq p2] at s2
  exact ⟨a1, a2, ns, ms, rfl, rfl, s1, s2, q⟩
theorem le_sh (h : leM x y Q) (k : ∀ b, Q b → Φ b) : ∃ b, CP K g env (rLeA K) x z1 y z2 b ∧ Φ b := by
  unfold leM at h
  split at h
  · exact ⟨_, cp_leA, k _ h⟩
  · split at h
    · rename_i e1 e2
      rw [intsOf_eq e1, intsOf_eq e2]
      exact ⟨_, cp_leTA _ _, k _ h⟩
    · exact h.elim
  · exact h.elim
theorem gt_sh (h : gtM x y Q) (k : ∀ b, Q b → Φ b) : ∃ b, CP K g env (rI0 fun i j => .bl (decide (j < i))) x z1 y z2 b ∧ Φ b := by
  unfold gtM at h
  split at h
  · exact ⟨_, cp_gt, k _ h⟩
  · exact h.elim
theorem flAll_dp : ∀ {ds : List PyData} {vs xs : List V}, flAll ds = some xs → DqAll K F vs ds → vs = xs
  | [], _, _, h, q => by cases q; cases h; rfl
  | d :: r, _, _, h, q => by
    cases q with
    | cons q1 q2 =>
      unfold flAll at h
      split at h
      · rename_i e1 e2
        cases h
        rw [fl_dp q1 e1, flAll_dp e2 q2]
      · cases h
theorem flAll_flat : ∀ {ds : List PyData} {xs : List V}, flAll ds = some xs → xs.all flatV = true
  | [], _, h => by cases h; rfl
  | d :: r, _, h => by
    unfold flAll at h
    split at h
    · rename_i e1 e2
      cases h
      rw [List.all_cons, fl_flat e1, flAll_flat e2]; rfl
    · cases h
theorem in_sh (h : inM x y Q) (k : ∀ b, Q b → Φ b) : ∃ b, CP K g env (rInA K) x z1 y z2 b ∧ Φ b := by
  cases y with
  | list ds =>
    have h : inLstM x ds Q := h
    unfold inLstM at h
    split at h
    · rename_i v vs e1 e2
      refine ⟨_, cp_l fun σ F H v1 v2 st r1 r2 Q q => ?_, k _ h⟩
      obtain ⟨a2, vs2, rfl, s2, p2⟩ := rd_lst st.toSk r2
      have e3 := fl_dp (rd_now st.toSk r1) e1
      have e4 := flAll_dp e2 p2
      subst e3 e4
      exact ⟨a2, vs2, rfl, .inl s2, fl_flat e1, flAll_flat e2, q⟩
    · exact ⟨_, cp_inD h.1 h.2.1, k _ h.2.2⟩
  | tuple ds =>
    have h : inTplM x ds Q := h
    unfold inTplM at h
    split at h
    · rename_i v vs e1 e2
      refine ⟨_, cp_l fun σ F H v1 v2 st r1 r2 Q q => ?_, k _ h⟩
      obtain ⟨a2, vs2, rfl, s2, p2⟩ := rd_tup st.toSk r2
      have e3 := fl_dp (rd_now st.toSk r1) e1
      have e4 := flAll_dp e2 p2
      subst e3 e4
      exact ⟨a2, vs2, rfl, .inr s2, fl_flat e1, flAll_flat e2, q⟩
    · exact ⟨_, cp_inTD h.1 h.2.1, k _ h.2.2⟩
  | str t =>
    cases x with
    | str s => exact ⟨_, cp_inS, k _ h⟩
    | _ => exact (show False from h).elim
  | _ => exact (show False from h).elim
theorem isN_sh (k : Φ (isNone x)) : ∃ b, CP K g env rIsN x z1 .none z2 b ∧ Φ b := ⟨_, cp_isN, k⟩
end
section
variable {ma mb mt : KB → Prop} {Q : KB} {Φ : KB}
theorem WW.mono {Φ' : Bool → Prop} (h : WW X g e env Φ Ψ) (k : ∀ d, Φ d → Φ' d) : WW X g e env Φ' Ψ :=
  fun W tk σ F H st hx Q hQ => h W tk σ F H st hx Q fun b F' H' p => hQ b F' H' (k b p)
theorem ww_andS {re : List Expr} (h : andM ma mb Q) (ha : ∀ Q, ma Q → WT X g a env Q Ψ) (hb : ∀ Q, mb Q → WW X g (.BoolOp .And (b :: re) pos) env Q Ψ) (k : ∀ r, Q r → Φ r) : WW X g (.BoolOp .And (a :: b :: re) pos) env Φ Ψ :=
  ww_and ((ha _ h).mono fun r ⟨h1, h2⟩ => ⟨fun e => (hb _ (h1 e)).mono k, fun e => k _ (h2 e)⟩)
theorem ww_orS {re : List Expr} (h : orM ma mb Q) (ha : ∀ Q, ma Q → WT X g a env Q Ψ) (hb : ∀ Q, mb Q → WW X g (.BoolOp .Or (b :: re) pos) env Q Ψ) (k : ∀ r, Q r → Φ r) : WW X g (.BoolOp .Or (a :: b :: re) pos) env Φ Ψ :=
  ww_or ((ha _ h).mono fun r ⟨h1, h2⟩ => ⟨fun e => k _ (h1 e), fun e => (hb _ (h2 e)).mono k⟩)
theorem we_andS {re : List Expr} {Φ : PyData → Bool → Prop} (h : andM ma mb Q) (ha : ∀ Q, ma Q → WE X g a env (fun d _ => ∃ k, d = .bool k ∧ Q k) Ψ) (hb : ∀ Q, mb Q → WE X g (.BoolOp .And (b :: re) pos) env (fun d _ => ∃ k, d = .bool k ∧ Q k) Ψ) (k : ∀ r, Q r → Φ (.bool r) true) : WE X g (.BoolOp .And (a :: b :: re) pos) env Φ Ψ :=
  we_and ((ha _ h).mono fun d z ⟨r, hd, h1, h2⟩ => ⟨r, hd, fun e => by
    intro W tk σ F H st hx Q' hQ'
    refine hb _ (h1 e) W tk σ F H st hx Q' fun d z v F' H' ⟨r2, hd2, h3⟩ s1 e1 r1 => ?_
    subst hd2
    have := rd_bl r1
    subst this
    exact hQ' _ true _ F' H' (k _ h3) s1 e1 (.bl _), fun e => k _ (h2 e)⟩)
theorem we_ifS {m1 m2 : KD → Prop} {Q : KD} {Φ : PyData → Bool → Prop} (h : ifM mt m1 m2 Q) (ht : ∀ Q, mt Q → WT X g c env Q Ψ) (h1 : ∀ Q, m1 Q → WE X g a env (fun d z => z = true ∧ Q d) Ψ) (h2 : ∀ Q, m2 Q → WE X g b env (fun d z => z = true ∧ Q d) Ψ) (k : ∀ d, Q d → Φ d true) : WE X g (.IfExp c a b pos) env Φ Ψ :=
  we_if ((ht _ h).mono fun r ⟨q1, q2⟩ => ⟨fun e => (h1 _ (q1 e)).mono fun d z ⟨hz, hd⟩ => hz ▸ k d hd, fun e => (h2 _ (q2 e)).mono fun d z ⟨hz, hd⟩ => hz ▸ k d hd⟩)
end
section
variable {t : TG} {A : PyData → Option (List (Nat × PyData))} {τ υ : Type}
theorem forS {bd : PyData → τ → (τ → Prop) → (τ → Prop) → Prop} {Q : τ → Prop} {xs : List PyData} {s0 : τ} (h : forM bd Q xs s0) (mk : τ → υ → List Sl) (u0 : υ) (h0 : env = mk s0 u0) (hend : ∀ s u, Q s → P.nx (mk s u))
    (hturn : (∀ s u, Q s → P.nx (mk s u)) → ∀ x s u (N : τ → Prop), bd x s N Q → ∃ l, A x = some l ∧ (l.all fun q => Nat.blt q.1 (mk s u).length) = true ∧ WS X g body (putsE (mk s u) l) (P.turn fun e => ∃ s' u', N s' ∧ e = mk s' u')) :
    ∃ Pv : Nat → List Sl → Prop, Pv 0 env ∧ (∀ i x, xs[i]? = some x → FT X g body A P Pv i x) ∧ ∀ e, Pv xs.length e → P.nx e := by
  refine ⟨fun i e => ∃ s u, forM bd Q (xs.drop i) s ∧ e = mk s u, ⟨s0, u0, h, h0⟩, fun i x hx e ⟨s, u, hf, he⟩ => ?_, fun e ⟨s, u, hf, he⟩ => ?_⟩
  · subst he
    have hi := (List.getElem?_eq_some_iff.mp hx).1
    have ed : xs.drop i = x :: xs.drop (i + 1) := by
      rw [List.drop_eq_getElem_cons hi]
      congr 1
      exact (List.getElem?_eq_some_iff.mp hx).2
    rw [ed] at hf
    obtain ⟨l, h1, h2, h3⟩ := hturn hend x s u _ hf
    exact ⟨l, h1, h2, h3⟩
  · subst he
    rw [List.drop_length] at hf
    exact hend s u hf
theorem lcS {bd : PyData → KD → Prop → Prop} {Q : KL} {xs : List PyData} {scope : Scope} {ifs : List Expr} {elt : Expr} {vs : List Nat} {Φ : List PyData → Prop} (h : lcM bd Q xs []) 
    (ht : ∀ x (kp : KD) (sk : Prop), bd x kp sk → ∃ l, A x = some l ∧ (l.all fun q => vs.elem q.1 && Nat.blt q.1 env.length) = true ∧ ∀ (g' : G) s H0 C cl fp, WTs (BX X scope s H0 C cl fp) g' ifs (putsE (wipeE env vs) l) (fun b =>
      (b = true → ∀ s H0 C cl fp, WE (BX X scope s H0 C cl fp) g' elt (putsE (wipeE env vs) l) (fun y z => z = true ∧ kp y) (fun _ => False)) ∧ (b = false → sk))) (k : ∀ acc, Q acc → Φ acc) :
    ∃ Pv : Nat → List PyData → Prop, Pv 0 [] ∧ (∀ i x, xs[i]? = some x → LT2 X env scope ifs elt vs A Pv i x) ∧ ∀ acc, Pv xs.length acc → Φ acc := by
  refine ⟨fun i acc => lcM bd Q (xs.drop i) acc, h, fun i x hx acc hq => ?_, fun acc hq => k acc (by
    have hq : lcM bd Q (xs.drop xs.length) acc := hq
    rw [List.drop_length] at hq; exact hq)⟩
  have hi := (List.getElem?_eq_some_iff.mp hx).1
  have ed : xs.drop i = x :: xs.drop (i + 1) := by
    rw [List.drop_eq_getElem_cons hi]
    congr 1
    exact (List.getElem?_eq_some_iff.mp hx).2
  have hq : lcM bd Q (xs.drop i) acc := hq
  rw [ed] at hq
  exact ht x _ _ hq
end
/-- behind ways that come together -/
theorem ws_joinS {τ υ : Type} {st : Stmt} {bd : (τ → Prop) → Prop} {Q : τ → Prop} (h : joinM bd Q) (mk : τ → υ → List Sl) (h1 : ∀ Q, bd Q → W1 X g st env (P.thn fun e => ∃ s u, Q s ∧ e = mk s u)) (h2 : ∀ s u, Q s → WS X g rest (mk s u) P) : WS X g (st :: rest) env P :=
  ws_mid (fun e => ∃ s u, Q s ∧ e = mk s u) (h1 Q h) fun e ⟨s, u, hq, he⟩ => he ▸ h2 s u hq
end
end TL
namespace TL
open PySem PySem.Spec PyProof.Rows L2
def keyA : PyData → Option Key
  | .int i => some (.inl i)
  | .str s => some (.inr s)
  | _ => none
def getKM (kvs : List (Key × PyData)) (key : PyData) (K : KD) : Prop := match keyA key with
  | some k => match valP kvs k with
    | some d => K d
    | none => False
  | none => False
def inKM (kvs : List (Key × PyData)) (key : PyData) (K : KB) : Prop := match keyA key with
  | some k => K (valP kvs k).isSome
  | none => False
def putKM (kvs : List (Key × PyData)) (key v : PyData) (K : List (Key × PyData) → Prop) : Prop := match keyA key with
  | some k => kvs.length < sizeLine ∧ K (putP kvs k v)
  | none => False
theorem keyA_eq {d : PyData} {k : Key} (h : keyA d = some k) : d = kD k := by
  unfold keyA at h
  split at h
  · cases h; rfl
  · cases h; rfl
  · cases h
section
variable {X : Cx} {g : G} {env env' : List Sl} {Ψ : Exc → Prop} {P : Po} {pos p lp : Pos} {a b c e tg iter : Expr} {es : List Expr} {rest body : List Stmt} {K : Frag} {F F' H H' : Hp} {σ σ' : SS} {x y : PyData} {z1 z2 : Bool}
theorem rng_sh {lo hi : PyData} {Q Φ : KL} (h : rngM lo hi Q) (k : ∀ r, Q r → Φ r) : rngM lo hi Φ := by
  unfold rngM at *
  split at h
  · exact ⟨h.1, k _ h.2⟩
  · exact h.elim
theorem it_sh {Q Φ : KL} (h : itM x Q) (k : ∀ r, Q r → Φ r) : itM x Φ := by
  unfold itM at *
  split at h
  · exact k _ h
  · exact k _ h
  · exact ⟨h.1, k _ h.2⟩
  · exact h.elim
theorem ch_sh2 {ma mb : KB → Prop} {Q Φ : KB} {r r' : R2} (h : andM ma mb Q) (h1 : ∀ Q, ma Q → ∃ k, CP X.K g env r x z1 y z2 k ∧ Q k) (h2 : ∀ Q, mb Q → WE X g c env (fun d3 z3 => ∃ k', CP X.K g env r' y z2 d3 z3 k' ∧ Q k') Ψ) (k : ∀ b, Q b → Φ b) :
    ∃ k, CP X.K g env r x z1 y z2 k ∧ (k = true → WE X g c env (fun d3 z3 => ∃ k', CP X.K g env r' y z2 d3 z3 k' ∧ Φ k') Ψ) ∧ (k = false → Φ false) := by
  obtain ⟨b, hb, q1, q2⟩ := h1 _ h
  exact ⟨b, hb, fun e => (h2 _ (q1 e)).mono fun d z ⟨k', c1, c2⟩ => ⟨k', c1, k _ c2⟩, fun e => k _ (q2 e)⟩
theorem kvp_val {κ : Type} [DecidableEq κ] {k : κ} : ∀ {xs : List (κ × V)} {kvs : List (κ × PyData)}, KVp K F xs kvs → (∀ d, valP kvs k = some d → ∃ v, valV xs k = some v ∧ Dq K F v d) ∧ (valV xs k).isSome = (valP kvs k).isSome
  | _, _, .nil => ⟨fun d h => (by cases h), rfl⟩
  | p :: xs, q :: kvs, .cons r t => by
    obtain ⟨i1, i2⟩ := kvp_val (k := k) t
    unfold valV valP
    rw [List.find?_cons, List.find?_cons, r.1]
    by_cases h : q.1 = k
    · rw [decide_eq_true h]
      refine ⟨fun d hd => ?_, rfl⟩
      have e : q.2 = d := Option.some.inj hd
      exact ⟨p.2, rfl, e ▸ r.2⟩
    · rw [decide_eq_false h]
      exact ⟨i1, i2⟩
section
variable {kT : List (List Key × PyData)} {kA : List (Key × PyData)} {key v : PyData}
theorem inK_sh {Q Φ : KB} (h : inKM kA key Q) (k : ∀ r, Q r → Φ r) : ∃ q, keyA key = some q ∧ Φ (valP kA q).isSome := by
  unfold inKM at h
  split at h
  · rename_i e1; exact ⟨_, e1, k _ h⟩
  · exact h.elim
theorem notInK_sh {Q Φ : KB} (h : inKM kA key Q) (k : ∀ r, Q r → Φ (!r)) : ∃ q, keyA key = some q ∧ Φ (!(valP kA q).isSome) := inK_sh (Φ := fun r => Φ (!r)) h k
theorem putK_sh {Q Φ : List (Key × PyData) → Prop} (h : putKM kA key v Q) (k : ∀ r, Q r → Φ r) : ∃ q, keyA key = some q ∧ kA.length < sizeLine ∧ Φ (putP kA q v) := by
  unfold putKM at h
  split at h
  · rename_i e1; exact ⟨_, e1, h.1, k _ h.2⟩
  · exact h.elim
end
section
variable {k0 : Nat} {xn : Str} {q tpos : Pos} {al : Addr}
theorem keyA_dp {v : V} {k : Key} {d : PyData} (h : Dq K F v d) (e : keyA d = some k) : v = kV k := key_eq (keyA_eq e ▸ h)
theorem we_getK (i : Nat) {kvs : List (Key × PyData)} {Φ : PyData → Bool → Prop} (hr : Room k0 X.A) (he : env[i]? = some (.dk al kvs) := by rfl) (h : WE X g a env (fun kd z => z = true ∧ ∃ k, keyA kd = some k ∧ ∃ d, valP kvs k = some d ∧ Φ d true) Ψ) (hN : X.N[i]? = some xn := by rfl)
    (hv : Vis X.env.scope xn := by first | exact Or.inl rfl | exact Or.inr (Or.inl rfl) | exact Or.inr (Or.inr rfl)) (hd : (xn == ("__debug__" : Str)) = false := by decide)
    (hcd : (xn == ("__classdict__" : Str)) = false := by decide) (hs : NoSl a := by exact fun _ _ => rfl) : WE X g (.Subscript (.Name xn q) a pos) env Φ Ψ := fun W tk σ F H st hx Q hQ => by
  refine semE_of (pe_dgetS (by have := hr.units; omega) (pe_var hN hv hd hcd) (peS a) hs) ?_
  obtain ⟨h1, vs, h2, h3⟩ := st.sl i _ he
  refine ⟨_, getD_some h1, ?_⟩
  refine h W tk σ F H st hx _ fun kd z v F1 H1 ⟨hz, k, hk, d, hd, hp⟩ s1 e1 r1 => ?_
  subst hz
  have hv := keyA_dp r1 hk
  subst hv
  obtain ⟨_, vs', h2', h3'⟩ := s1.sl i _ he
  obtain ⟨w, hw, dw⟩ := (kvp_val h3').1 d hd
  exact ⟨al, w, rfl, hw ▸ DGetS.k h2', hQ d true w F1 H1 hp s1 e1 dw⟩
theorem wt_notInK (i : Nat) {kvs : List (Key × PyData)} {Φ : KB} (hr : Room k0 X.A) (he : env[i]? = some (.dk al kvs) := by rfl) (h : WE X g a env (fun kd z => z = true ∧ ∃ k, keyA kd = some k ∧ Φ (!(valP kvs k).isSome)) Ψ) (hN : X.N[i]? = some xn := by rfl)
    (hv : Vis X.env.scope xn := by first | exact Or.inl rfl | exact Or.inr (Or.inl rfl) | exact Or.inr (Or.inr rfl)) (hd : (xn == ("__debug__" : Str)) = false := by decide)
    (hcd : (xn == ("__classdict__" : Str)) = false := by decide) (hm : behindInMarks .NotIn (.Name xn q) = false := by first | exact nomark _ | rfl) : WT X g (.Compare a [.NotIn] [.Name xn q] pos) env Φ Ψ := fun W tk σ F H st hx Q hQ => by
  refine semT_of (pt_cmp (pc_dnotinS (by have := hr.units; omega) (peS a) (pe_var hN hv hd hcd)) hm) ?_
  refine h W tk σ F H st hx _ fun kd z v F1 H1 ⟨hz, k, hk, hp⟩ s1 e1 r1 => ?_
  subst hz
  have hv := keyA_dp r1 hk
  subst hv
  obtain ⟨h1, vs', h2', h3'⟩ := s1.sl i _ he
  refine ⟨_, getD_some h1, al, valV vs' k, rfl, DGetS.k h2', _, rfl, ?_⟩
  rw [(kvp_val h3').2]
  exact hQ _ F1 H1 hp s1 e1
theorem w1_storeKA (i : Nat) {kvs : List (Key × PyData)} (hr : Room k0 X.A) (he : env[i]? = some (.dk al kvs) := by rfl)
    (h : WE X g e env (fun d z => z = true ∧ WE X g a env (fun kd z => z = true ∧ ∃ k, keyA kd = some k ∧ kvs.length < sizeLine ∧ P.nx (env.set i (.dk al (putP kvs k d)))) (fun c => P.ex c env)) (fun c => P.ex c env)) (hN : X.N[i]? = some xn := by rfl)
    (hv : Vis X.env.scope xn := by first | exact Or.inl rfl | exact Or.inr (Or.inl rfl) | exact Or.inr (Or.inr rfl)) (hd : (xn == ("__debug__" : Str)) = false := by decide)
    (hcd : (xn == ("__classdict__" : Str)) = false := by decide)
    (hs : swapsWith e (some (.Subscript (.Name xn q) a tpos)) pos.line X.env = pure false := by rfl) : W1 X g (.Assign [.Subscript (.Name xn q) a tpos] e pos) env P := fun W tk hx2 σ F H s0 D hD => by
  refine semP_of (ps_dput (by have := hr.units; omega) (pe_var hN hv hd hcd) (peS a) (peS e) hs) ?_
  refine h W tk σ F H s0 (hx2.hx env σ) _ fun d z v F1 H1 ⟨hz, hw⟩ s1 e1 r1 => ?_
  subst hz
  obtain ⟨h1, vs, h2, h3⟩ := s1.sl i _ he
  refine ⟨_, getD_some h1, ?_⟩
  refine hw W tk σ F1 H1 s1 (hx2.hx env σ) _ fun kd z w F2 H2 ⟨hz, k, hk, hlen, hp⟩ s2 e2 r2 => ?_
  subst hz
  have hv := keyA_dp r2 hk
  subst hv
  obtain ⟨h1', vs', h2', h3'⟩ := s2.sl i _ he
  refine ⟨al, _, rfl, DPut.k h2' (by rw [kvp_len h3']; exact hlen), ?_⟩
  exact hD.nx _ _ _ _ hp (s2.write he rfl rfl ⟨h1', _, upd_same, kvp_put h3' (dp_mono e2 _ _ r1)⟩) (e1.trans e2)
end
structure GTup (K : Frag) (mg : Str → Option Value) (x : Str) (ds : List PyData) : Prop where
  ex : ∃ a vs, mg x = some (.ref a) ∧ flAll ds = some vs ∧ ∀ H, SqT K H a vs
theorem inG_sh {ds : List PyData} {Q Φ : KB} (h : inTupM x ds Q) (k : ∀ r, Q r → Φ r) : inTupM x ds Φ := by
  unfold inTupM at *
  split at h
  · exact k _ h
  · exact h.elim
end
theorem Has.imp {P : Program} {w : World} {K : Frag} {mg : Str → Option Value} {base : Heap} {j : Nat} {x : Str} {ps : List Str} {S S' : CT} (h : Has P w K mg base j x ps S) (i : ∀ args Φ Ψ, S' args Φ Ψ → S args Φ Ψ) : Has P w K mg base j x ps S' := by
  obtain ⟨f, fd, h1, h2, h3, h4⟩ := h.ex
  have up : ∀ vs H Q E, spOf K ps.length S' vs H Q E → spOf K ps.length S vs H Q E := fun vs H Q E ⟨q1, F, args, Φ, Ψ, q2, q3⟩ => ⟨q1, F, args, Φ, Ψ, i _ _ _ q2, q3⟩
  exact ⟨f, fd, h1, h2, h3, ⟨fun vs H Q E q => h4.len vs H Q E (up _ _ _ _ q), fun A outer s H args us vs Q E r e b v q => h4.run A outer s H args us vs Q E r e b v (up _ _ _ _ q)⟩⟩
end TL
namespace TL
open PySem PySem.Spec PyProof.Rows L2
section
variable {X : Cx} {g : G} {env env' : List Sl} {Ψ : Exc → Prop} {P : Po} {pos p lp : Pos} {a b c e tg iter : Expr} {es : List Expr} {rest body : List Stmt} {K : Frag} {F F' H H' : Hp} {σ σ' : SS} {x y : PyData} {z1 z2 : Bool} {Φ : PyData → Bool → Prop}
theorem all_m {Q Q' : KD} (h : allM x Q) (k : ∀ r, Q r → Q' r) : allM x Q' := by
  unfold allM at *
  split at h
  · split at h
    · exact k _ h
    · exact h.elim
  · exact h.elim
theorem min2_m {Q Q' : KD} (h : min2M x y Q) (k : ∀ r, Q r → Q' r) : min2M x y Q' := by
  unfold min2M at *
  split at h
  · exact k _ h
  · exact h.elim
theorem max2_m {Q Q' : KD} (h : max2M x y Q) (k : ∀ r, Q r → Q' r) : max2M x y Q' := by
  unfold max2M at *
  split at h
  · exact k _ h
  · exact h.elim
section
variable {kT : List (List Key × PyData)} {kA : List (Key × PyData)} {key v : PyData}
theorem inK_m {Q Q' : KB} (h : inKM kA key Q) (k : ∀ r, Q r → Q' r) : inKM kA key Q' := by
  unfold inKM at *
  split at h
  · exact k _ h
  · exact h.elim
theorem putK_m {Q Q' : List (Key × PyData) → Prop} (h : putKM kA key v Q) (k : ∀ r, Q r → Q' r) : putKM kA key v Q' := by
  unfold putKM at *
  split at h
  · exact ⟨h.1, k _ h.2⟩
  · exact h.elim
end
theorem we_allA (hm : X.mg "all" = none) (hc : X.calm = true) (h : WE X g a env (fun d _ => allM d fun r => Φ r true) Ψ) (hg : Gl X "all" := by rfl) (he : starEach [a] X.env = (false, eval a X.env) :: starEach [] X.env := by rfl) (hpl : (backTo pos (starEach ([] : List Expr) X.env)).any (·.1) = false := by rfl) : WE X g (.Call (.Name "all" p) [a] [] pos) env Φ Ψ :=
  we_all hm hc (h.mono fun d z h => all_sh (Φ := Φ) h fun _ h => h) hg he
theorem we_min2A (hm : X.mg "min" = none) (hc : X.calm = true) (h : WE X g a env (fun d1 _ => WE X g b env (fun d2 _ => min2M d1 d2 fun r => Φ r true) Ψ) Ψ) (hg : Gl X "min" := by rfl) (he : starEach [a, b] X.env = (false, eval a X.env) :: starEach [b] X.env := by rfl) (he2 : starEach [b] X.env = (false, eval b X.env) :: starEach [] X.env := by rfl) (hpl : (backTo pos (starEach [b] X.env)).any (·.1) = false := by rfl) : WE X g (.Call (.Name "min" p) [a, b] [] pos) env Φ Ψ :=
  we_min2 hm hc (h.mono fun d z h => h.mono fun d z h => min2_sh (Φ := Φ) h fun _ h => h) hg he he2 hpl
theorem we_max2A (hm : X.mg "max" = none) (hc : X.calm = true) (h : WE X g a env (fun d1 _ => WE X g b env (fun d2 _ => max2M d1 d2 fun r => Φ r true) Ψ) Ψ) (hg : Gl X "max" := by rfl) (he : starEach [a, b] X.env = (false, eval a X.env) :: starEach [b] X.env := by rfl) (he2 : starEach [b] X.env = (false, eval b X.env) :: starEach [] X.env := by rfl) (hpl : (backTo pos (starEach [b] X.env)).any (·.1) = false := by rfl) : WE X g (.Call (.Name "max" p) [a, b] [] pos) env Φ Ψ :=
  we_max2 hm hc (h.mono fun d z h => h.mono fun d z h => max2_sh (Φ := Φ) h fun _ h => h) hg he he2 hpl
section
variable {k0 : Nat} {xn : Str} {q tpos : Pos} {al : Addr}
theorem wt_notInKA (i : Nat) {kvs : List (Key × PyData)} {Φ : KB} (hr : Room k0 X.A) (h : WE X g a env (fun kd z => z = true ∧ inKM kvs kd fun r => Φ (!r)) Ψ) (he : env[i]? = some (.dk al kvs) := by rfl) (hN : X.N[i]? = some xn := by rfl)
    (hv : Vis X.env.scope xn := by first | exact Or.inl rfl | exact Or.inr (Or.inl rfl) | exact Or.inr (Or.inr rfl)) (hd : (xn == ("__debug__" : Str)) = false := by decide)
    (hcd : (xn == ("__classdict__" : Str)) = false := by decide) (hm : behindInMarks .NotIn (.Name xn q) = false := by first | exact nomark _ | rfl) : WT X g (.Compare a [.NotIn] [.Name xn q] pos) env Φ Ψ :=
  wt_notInK i hr he (h.mono fun d z ⟨hz, h⟩ => ⟨hz, notInK_sh (Φ := Φ) h fun _ h => h⟩) hN hv hd hcd hm
theorem w1_storeKB (i : Nat) {kvs : List (Key × PyData)} (hr : Room k0 X.A)
    (h : WE X g e env (fun d z => z = true ∧ WE X g a env (fun kd z => z = true ∧ putKM kvs kd d fun r => P.nx (env.set i (.dk al r))) (fun c => P.ex c env)) (fun c => P.ex c env)) (he : env[i]? = some (.dk al kvs) := by rfl) (hN : X.N[i]? = some xn := by rfl)
    (hv : Vis X.env.scope xn := by first | exact Or.inl rfl | exact Or.inr (Or.inl rfl) | exact Or.inr (Or.inr rfl)) (hd : (xn == ("__debug__" : Str)) = false := by decide)
    (hcd : (xn == ("__classdict__" : Str)) = false := by decide)
    (hs : swapsWith e (some (.Subscript (.Name xn q) a tpos)) pos.line X.env = pure false := by rfl) : W1 X g (.Assign [.Subscript (.Name xn q) a tpos] e pos) env P :=
  w1_storeKA i hr he (h.mono fun d z ⟨hz, h⟩ => ⟨hz, h.mono fun d z ⟨hz, h⟩ => ⟨hz, putK_sh (Φ := fun r => P.nx (env.set i (.dk al r))) h fun _ h => h⟩⟩) hN hv hd hcd hs
end
end
end TL
namespace TL
open PySem PySem.Spec PyProof.Rows L2
section
variable {i j : Int} {s t : Str} {b c : Bool} {xs ys : List PyData} {x y z u : PyData} {K : KD} {KL' : KL} {KB' : KB} {E : KX}
theorem q_add_ii : addM (.int i) (.int j) K = K (.int (i + j)) := rfl
theorem q_add_ss : addM (.str s) (.str t) K = (s.length + t.length ≤ sizeLine ∧ K (.str (s ++ t))) := rfl
theorem q_add_ll : addM (.list xs) (.list ys) K = (xs.length + ys.length ≤ sizeLine ∧ K (.list (xs ++ ys))) := rfl
theorem q_add_tt : addM (.tuple xs) (.tuple ys) K = (xs.length + ys.length ≤ sizeLine ∧ K (.tuple (xs ++ ys))) := rfl
theorem q_addL : addLM (.list xs) (.list ys) KL' = (xs.length + ys.length ≤ sizeLine ∧ KL' (xs ++ ys)) := rfl
theorem q_sub : subM (.int i) (.int j) K = K (.int (i - j)) := rfl
theorem q_mul : mulM (.int i) (.int j) K = ((CMul i j ∨ CMulW i j) ∧ K (.int (i * j))) := rfl
theorem q_div : divM (.int i) (.int j) K = (CDivW i j ∧ K (.int (i / j))) := rfl
theorem q_mod : modM (.int i) (.int j) K = (0 < j ∧ K (.int (i % j))) := rfl
theorem q_neg : negM (.int i) K = K (.int (-i)) := rfl
theorem q_bool : boolM (.bool b) KB' = KB' b := rfl
theorem q_eq_ii : eqM (.int i) (.int j) KB' = KB' (decide (i = j)) := rfl
theorem q_eq_ss : eqM (.str s) (.str t) KB' = KB' (decide (s = t)) := rfl
theorem q_eq_bb : eqM (.bool b) (.bool c) KB' = KB' (decide (b = c)) := rfl
theorem q_ne_ii : neM (.int i) (.int j) KB' = KB' (!decide (i = j)) := rfl
theorem q_ne_ss : neM (.str s) (.str t) KB' = KB' (!decide (s = t)) := rfl
theorem q_ne_bb : neM (.bool b) (.bool c) KB' = KB' (!decide (b = c)) := rfl
theorem q_lt : ltM (.int i) (.int j) KB' = KB' (decide (i < j)) := rfl
theorem q_le : leM (.int i) (.int j) KB' = KB' (decide (i ≤ j)) := rfl
theorem q_gt : gtM (.int i) (.int j) KB' = KB' (decide (j < i)) := rfl
theorem q_ge : geM (.int i) (.int j) KB' = KB' (decide (j ≤ i)) := rfl
theorem q_un2 {K : PyData → PyData → Prop} : un2 (.tuple [x, y]) K = K x y := rfl
theorem q_un3 {K : PyData → PyData → PyData → Prop} : un3 (.tuple [x, y, z]) K = K x y z := rfl
theorem q_un4 {K : PyData → PyData → PyData → PyData → Prop} : un4 (.tuple [x, y, z, u]) K = K x y z u := rfl
theorem q_intO {K : Int → Prop} : intO (.int i) K = K i := rfl
theorem q_ix_l : ixM (.list xs) (.int i) K = (match atI xs i with
    | some y => K y
    | none => False) := rfl
theorem q_ix_s : ixM (.str s) (.int i) K = (s.length ≤ sizeLine ∧ match atI s.cps.toList i with
    | some c => K (sgn c)
    | none => False) := rfl
theorem q_len_l : lenM (.list xs) K = K (.int xs.length) := rfl
theorem q_len_t : lenM (.tuple xs) K = K (.int xs.length) := rfl
theorem q_len_s : lenM (.str s) K = (s.length ≤ sizeLine ∧ K (.int s.length)) := rfl
theorem q_abs : absM (.int i) K = K (.int (if i < 0 then -i else i)) := rfl
theorem q_int_i : intM (.int i) K = K (.int i) := rfl
theorem q_int_b : intM (.bool b) K = K (.int (if b then 1 else 0)) := rfl
theorem q_tup_l : tupM (.list xs) K = K (.tuple xs) := rfl
theorem q_tup_t : tupM (.tuple xs) K = K (.tuple xs) := rfl
theorem q_list_l : listM (.list xs) KL' = KL' xs := rfl
theorem q_list_t : listM (.tuple xs) KL' = KL' xs := rfl
theorem q_min : min2M (.int i) (.int j) K = K (.int (if j < i then j else i)) := rfl
theorem q_max : max2M (.int i) (.int j) K = K (.int (if j > i then j else i)) := rfl
theorem q_it_l : itM (.list xs) KL' = KL' xs := rfl
theorem q_it_t : itM (.tuple xs) KL' = KL' xs := rfl
theorem q_rng : rngM (.int i) (.int j) KL' = ((-1000000 ≤ i ∧ i ≤ 1000000 ∧ -1000000 ≤ j ∧ j ≤ 1000000) ∧ KL' (rangeL i j)) := rfl
theorem q_enu_l : enuM (.list xs) KL' = KL' (enumL xs) := rfl
theorem q_enu_t : enuM (.tuple xs) KL' = KL' (enumL xs) := rfl
theorem q_rev : revM (.list xs) KL' = KL' xs.reverse := rfl
theorem q_sl_l {lo hi : Option Int} : slM (.list xs) lo hi K = K (.list (cut xs lo hi)) := rfl
theorem q_sl_t {lo hi : Option Int} : slM (.tuple xs) lo hi K = K (.tuple (cut xs lo hi)) := rfl
theorem q_sl_s {lo hi : Option Int} : slM (.str s) lo hi K = (s.length ≤ sizeLine ∧ K (.str (cutS s lo hi))) := rfl
theorem q_slL {lo hi : Option Int} : slLM (.list xs) lo hi KL' = KL' (cut xs lo hi) := rfl
theorem q_all (ns : List Bool) : allM (.list (ns.map .bool)) K = K (.bool (ns.all id)) := by
  show (match boolsOf (ns.map .bool) with | some ns => K (.bool (ns.all id)) | none => False) = _
  rw [bools_of]
theorem q_any (ns : List Bool) : anyM (.list (ns.map .bool)) K = K (.bool (ns.any id)) := by
  show (match boolsOf (ns.map .bool) with | some ns => K (.bool (ns.any id)) | none => False) = _
  rw [bools_of]
theorem q_sum (ns : List Int) : sumM (.list (ns.map .int)) K = K (.int ns.sum) := by
  show (match intsOf (ns.map .int) with | some ns => K (.int ns.sum) | none => False) = _
  rw [ints_of]
theorem q_sort_pp (L : List (Int × Int)) : sortM (.list (L.map ppD)) KL' = KL' (srt (L.map ppD)) := by
  unfold sortM
  exact propext ⟨fun h => h.2, fun h => ⟨⟨pairs_alike _, pairs_sortable _, pairs_depth _⟩, h⟩⟩
theorem q_and {b1 b2 : Bool} : andM (fun Q => Q b1) (fun Q => Q b2) KB' = KB' (b1 && b2) := by
  unfold andM; cases b1 <;> simp
theorem q_or {b1 b2 : Bool} : orM (fun Q => Q b1) (fun Q => Q b2) KB' = KB' (b1 || b2) := by
  unfold orM; cases b1 <;> simp
theorem q_ite {b : Bool} {A B : Prop} : ((b = true → A) ∧ (b = false → B)) = cond b A B := by cases b <;> simp
theorem q_join {σ : Type} {bd : (σ → Prop) → Prop} {K : σ → Prop} : joinM bd K = bd K := rfl
theorem q_lc_cons {β : Type} {bd : PyData → (β → Prop) → Prop → Prop} {K : List β → Prop} {acc : List β} : lcM bd K (x :: xs) acc = bd x (fun y => lcM bd K xs (acc ++ [y])) (lcM bd K xs acc) := rfl
theorem q_for_cons {σ : Type} {bd : PyData → σ → (σ → Prop) → (σ → Prop) → Prop} {K : σ → Prop} {s : σ} : forM bd K (x :: xs) s = bd x s (fun s' => forM bd K xs s') K := rfl
/-- a comprehension told at once -/
theorem q_lc_map {α β : Type} {bd : PyData → (β → Prop) → Prop → Prop} {K : List β → Prop} (L : List α) (d : α → PyData) (f : α → β) (h : ∀ a ∈ L, ∀ k s, bd (d a) k s = k (f a)) (acc : List β) : lcM bd K (L.map d) acc = K (acc ++ L.map f) := by
  induction L generalizing acc with
  | nil => rw [List.map_nil, List.map_nil, List.append_nil]; rfl
  | cons a L ih =>
    rw [List.map_cons, q_lc_cons, h a (by simp), ih fun b hb => h b (List.mem_cons_of_mem _ hb)]
    simp
end
end TL
namespace TL
open PySem PySem.Spec PyProof.Rows L2 He
abbrev XF := PySem.W.Frag → Bool
def obsX (ex : List XF) (fa : List Fa) (fn : List DefD) (K : PySem.W.Frag) : AlD := ((obsD fa fn K).1 && ex.all fun e => e K, (obsD fa fn K).2)
def SaysX (ex : List XF) (fa : List Fa) (fn : List DefD) (K : PySem.W.Frag) : Prop := obsX ex fa fn K = valD fn
section
variable {ex : List XF} {fa : List Fa} {fn : List DefD} {K : PySem.W.Frag} {mg : Str → Option Value} {h : Heap}
theorem SaysX.d (c : SaysX ex fa fn K) : SaysD fa fn K := by
  have c1 : ((obsD fa fn K).1 && ex.all fun e => e K) = true := congrArg (fun z : AlD => z.1) c
  have c2 : (obsD fa fn K).2 = fn.map DefD.val := congrArg (fun z : AlD => z.2) c
  exact Prod.ext (ba c1).1 c2
theorem SaysX.xf (c : SaysX ex fa fn K) (i : Nat) {e : XF} (h : ex[i]? = some e := by rfl) : e K = true := by
  have c1 : ((obsD fa fn K).1 && ex.all fun e => e K) = true := congrArg (fun z : AlD => z.1) c
  exact List.all_eq_true.mp (ba c1).2 e (List.mem_of_getElem? h)
theorem gtup_ok (X : K.In h) (G : h.Ns mainGlobals mg) {x : Str} {vs : List Dv} {ds : List PyData} (c : (Fa.glo x).ok K = true) (t : tupB K x vs = true) (hd : flAll ds = some (vs.map (Dv.v K)) := by rfl) : GTup K mg x ds :=
  ⟨ga K x, _, glo_ok X G c, hd, fun H => tupB_ok t H⟩
end
end TL
namespace TL
open PySem PySem.Spec PyProof.Rows L2
abbrev ooS (a : Addr) (as : List Addr) (ds : List (List PyData)) : Sl := .oo a (as.zip ds)
theorem getK_s {kA : List (Key × PyData)} {key : PyData} {Q : KD} {Φ : PyData → Prop} (h : getKM kA key Q) (k : ∀ r, Q r → Φ r) : ∃ q, keyA key = some q ∧ ∃ d, valP kA q = some d ∧ Φ d := by
  unfold getKM at h
  split at h
  · rename_i e1
    split at h
    · rename_i e2; exact ⟨_, e1, _, e2, k _ h⟩
    · exact h.elim
  · exact h.elim
end TL
namespace TL
open PySem PySem.Spec PyProof.Rows L2
def isE (m n : Str) : Bool := decide (m = n) || decide (n = "PinchError")
theorem exm_nil {K : Frag} {n : Str} : ∀ m ∈ ([] : List Str), ExM K (.own m) n = some (isE m n) := fun _ h => by cases h
theorem exm_cons {K : Frag} {n a : Str} {l : List Str} {b : Bool} (h : ExM K (.own a) n = some b) (r : ∀ m ∈ l, ExM K (.own m) n = some (isE m n)) (e : isE a n = b := by rfl) : ∀ m ∈ a :: l, ExM K (.own m) n = some (isE m n) := fun m hm => by
  rcases List.mem_cons.mp hm with rfl | hm
  · rw [h, e]
  · exact r m hm
end TL
namespace TL
open PySem PySem.Spec PyProof.Rows L2
def asK : List (PyData × PyData) → Option (List (Key × PyData))
  | [] => some []
  | (k, d) :: r => match keyA k, asK r with
    | some q, some l => some ((q, d) :: l)
    | _, _ => none
theorem asK_eq : ∀ {l : List (PyData × PyData)} {m : List (Key × PyData)}, asK l = some m → l = m.map fun kv => (kD kv.1, kv.2)
  | [], _, h => by cases h; rfl
  | (k, d) :: r, _, h => by
    unfold asK at h
    split at h
    · rename_i e1 e2
      cases h
      rw [keyA_eq e1, asK_eq e2]; rfl
    · cases h
end TL
namespace TL
open PySem PySem.Spec PyProof.Rows L2
section
variable {X : Cx} {g : G} {env env' : List Sl} {Ψ : Exc → Prop} {P : Po} {pos p lp : Pos} {a b c e o tg iter : Expr} {es : List Expr} {rest body : List Stmt} {K : Frag} {F F' H H' : Hp} {σ σ' : SS} {x y : PyData} {z1 z2 : Bool} {k0 : Nat} {al : Addr} {xn : Str}
def strsOf : List PyData → Option (List Str)
  | [] => some []
  | .str i :: r => match strsOf r with
    | some l => some (i :: l)
    | none => none
  | _ :: _ => none
theorem strsOf_eq : ∀ {xs : List PyData} {ns : List Str}, strsOf xs = some ns → xs = ns.map .str
  | [], _, h => by cases h; rfl
  | d :: r, ns, h => by
    cases d with
    | str i =>
      unfold strsOf at h
      split at h
      · rename_i l e; cases h; rw [strsOf_eq e]; rfl
      · cases h
    | _ => cases h
theorem strs_of (ns : List Str) : strsOf (ns.map .str) = some ns := by
  induction ns with
  | nil => rfl
  | cons n ns ih => show (match strsOf (ns.map .str) with | some l => some (n :: l) | none => none) = _; rw [ih]
def tjoinM : PyData → PyData → KD → Prop
  | .str a, .list xs, K => match strsOf xs with
    | some ys => (ys.map (·.length)).sum + ys.length * a.length ≤ 16777216 ∧ K (.str (Txt.join a ys))
    | none => False
  | _, _, _ => False
def splitM : PyData → PyData → KL → Prop
  | .str a, .str b, K => (b.length == 0) = false ∧ a.length + 2 ≤ sizeLine ∧ K ((Txt.split a b).map .str)
  | _, _, _ => False
def upperM : PyData → KD → Prop
  | .str a, K => a.length ≤ 5592405 ∧ K (.str (Txt.upper a))
  | _, _ => False
def strO : PyData → (Str → Prop) → Prop
  | .str a, K => K a
  | _, _ => False
theorem strO_ob {Q : Str → Prop} (h : strO x Q) : ∃ s, x = .str s ∧ Q s := by
  unfold strO at h
  split at h
  · exact ⟨_, rfl, h⟩
  · exact h.elim
section
variable {Φ : PyData → Bool → Prop} {apos : Pos}
theorem tjoin_m {Q Q' : KD} (h : tjoinM x y Q) (k : ∀ r, Q r → Q' r) : tjoinM x y Q' := by
  unfold tjoinM at *
  split at h
  · split at h
    · exact ⟨h.1, k _ h.2⟩
    · exact h.elim
  · exact h.elim
theorem split_m {Q Q' : KL} (h : splitM x y Q) (k : ∀ r, Q r → Q' r) : splitM x y Q' := by
  unfold splitM at *
  split at h
  · exact ⟨h.1, h.2.1, k _ h.2.2⟩
  · exact h.elim
theorem upper_m {Q Q' : KD} (h : upperM x Q) (k : ∀ r, Q r → Q' r) : upperM x Q' := by
  unfold upperM at *
  split at h
  · exact ⟨h.1, k _ h.2⟩
  · exact h.elim
theorem we_join (h : WE X g o env (fun d1 _ => ∃ s, d1 = .str s ∧ WE X g e env (fun d2 _ => tjoinM (.str s) d2 fun r => Φ r true) Ψ) Ψ) (hs : starEach [e] X.env = [(false, eval e X.env)] := by rfl)
    (hbase : attributeBase o "join" X.env (eval o X.env) = eval o X.env := by rfl) (hline : (apos.endLine == pos.line) = true := by rfl) : WE X g (.Call (.Attribute o "join" apos) [e] [] pos) env Φ Ψ := fun W tk σ F H st hx Q hQ => by
  refine semE_of (pe_join (peS o) (peS e) hs hbase hline) ?_
  refine h W tk σ F H st hx _ fun d1 z1 v1 F1 H1 ⟨s, hd, hw⟩ s1 e1 r1 => ?_
  subst hd
  refine ⟨⟨s, rd_str r1⟩, ?_⟩
  refine hw W tk σ F1 H1 s1 hx _ fun d2 z2 v2 F2 H2 hj s2 e2 r2 => ?_
  rw [rd_str r1]
  cases d2 with
  | list xs =>
    unfold tjoinM at hj
    dsimp only at hj
    split at hj
    · rename_i ys ey
      obtain ⟨p, vs, rfl, hl, hds⟩ := rd_lst s2.toSk r2
      rw [strsOf_eq ey] at hds
      rw [dpa_strs_eq hds] at hl
      exact ⟨s, p, ys, rfl, rfl, .inl hl, hj.1, hQ _ true _ F2 H2 hj.2 s2 (e1.trans e2) (.str _)⟩
    · exact hj.elim
  | _ => exact hj.elim
theorem dpa_strs : ∀ (ns : List Str), DqAll K H (ns.map V.str) (ns.map PyData.str)
  | [] => .nil
  | n :: ns => .cons (.str n) (dpa_strs ns)
theorem wn_split {Φ : KL} (h : WE X g o env (fun d1 _ => ∃ s, d1 = .str s ∧ WE X g e env (fun d2 _ => splitM (.str s) d2 Φ) Ψ) Ψ) (hs : starEach [e] X.env = [(false, eval e X.env)] := by rfl)
    (hbase : attributeBase o "split" X.env (eval o X.env) = eval o X.env := by rfl) (hline : (apos.endLine == pos.line) = true := by rfl) : WN X g (.Call (.Attribute o "split" apos) [e] [] pos) env Φ Ψ := fun W tk σ F H st hx Q hQ => by
  refine semE_of (pe_split (peS o) (peS e) hs hbase hline) ?_
  refine h W tk σ F H st hx _ fun d1 z1 v1 F1 H1 ⟨s, hd, hw⟩ s1 e1 r1 => ?_
  subst hd
  refine ⟨⟨s, rd_str r1⟩, ?_⟩
  refine hw W tk σ F1 H1 s1 hx _ fun d2 z2 v2 F2 H2 hj s2 e2 r2 => ?_
  rw [rd_str r1]
  cases d2 with
  | str t =>
    exact ⟨s, t, rfl, by rw [rd_str r2], hj.1, hj.2.1, fun p hp => put_new s2 hp (dpa_strs _) hj.2.2 fun ds v F' H' q1 q2 q3 q4 => hQ ds v F' H' q1 q2 ((e1.trans e2).trans q3) q4⟩
  | _ => exact hj.elim
theorem we_upper (h : WE X g o env (fun d1 _ => upperM d1 fun r => Φ r true) Ψ) (hbase : attributeBase o "upper" X.env (eval o X.env) = eval o X.env := by rfl) (hline : (apos.endLine == pos.line) = true := by rfl) : WE X g (.Call (.Attribute o "upper" apos) [] [] pos) env Φ Ψ := fun W tk σ F H st hx Q hQ => by
  refine semE_of (pe_upper (peS o) hbase hline) ?_
  refine h W tk σ F H st hx _ fun d1 z1 v1 F1 H1 hj s1 e1 r1 => ?_
  cases d1 with
  | str t => exact ⟨⟨t, rd_str r1⟩, t, rd_str r1, rfl, hj.1, hQ _ true _ F1 H1 hj.2 s1 e1 (.str _)⟩
  | _ => exact hj.elim
/-- str(x) -/
def strM : PyData → KD → Prop
  | .int i, K => i.natAbs.log2 < 1920 ∧ K (.str (toString i))
  | .str s, K => K (.str s)
  | _, _ => False
theorem str_m {Q Q' : KD} (h : strM x Q) (k : ∀ r, Q r → Q' r) : strM x Q' := by
  unfold strM at *
  split at h
  · exact ⟨h.1, k _ h.2⟩
  · exact k _ h
  · exact h.elim
end
end
end TL
namespace TL
open PySem PySem.Spec PyProof.Rows L2
def getdKM (kvs : List (Key × PyData)) (key dflt : PyData) (K : KD) : Prop := match keyA key with
  | some k => K ((valP kvs k).getD dflt)
  | none => False
section
variable {kT : List (List Key × PyData)} {kA : List (Key × PyData)} {key d dflt : PyData}
theorem getdK_m {Q Q' : KD} (h : getdKM kA key dflt Q) (k : ∀ r, Q r → Q' r) : getdKM kA key dflt Q' := by
  unfold getdKM at *
  split at h
  · exact k _ h
  · exact h.elim
end
section
variable {X : Cx} {g : G} {env env' : List Sl} {Ψ : Exc → Prop} {P : Po} {pos p lp : Pos} {a b c e f o tg iter : Expr} {es : List Expr} {rest body : List Stmt} {K : Frag} {F F' H H' : Hp} {σ σ' : SS} {x y : PyData} {z1 z2 : Bool} {k0 : Nat} {al : Addr} {xn : Str} {apos : Pos}
section
variable {Φ : PyData → Bool → Prop}
theorem we_getdK (i : Nat) {kvs : List (Key × PyData)} {q : Pos} (hr : Room k0 X.A) (h : WE X g e env (fun kd z => z = true ∧ WE X g f env (fun fd z => z = true ∧ getdKM kvs kd fd fun r => Φ r true) Ψ) Ψ) (he : env[i]? = some (.dk al kvs) := by rfl) (hN : X.N[i]? = some xn := by rfl)
    (hv : Vis X.env.scope xn := by first | exact Or.inl rfl | exact Or.inr (Or.inl rfl) | exact Or.inr (Or.inr rfl)) (hd : (xn == ("__debug__" : Str)) = false := by decide)
    (hcd : (xn == ("__classdict__" : Str)) = false := by decide)
    (m : M2 X (.Name xn q) "get" apos e f pos := by exact ⟨by rfl, by rfl, by rfl, by rfl⟩) : WE X g (.Call (.Attribute (.Name xn q) "get" apos) [e, f] [] pos) env Φ Ψ := fun W tk σ F H st hx Q hQ => by
  refine semE_of (pe_dget2S (by have := hr.units; omega) (pe_var hN hv hd hcd) (peS e) (peS f) m) ?_
  obtain ⟨h1, vs, h2, h3⟩ := st.sl i _ he
  refine ⟨_, getD_some h1, al, rfl, .inl ⟨vs, .inl h2⟩, ?_⟩
  refine h W tk σ F H st hx _ fun kd z v F1 H1 ⟨hz, hw⟩ s1 e1 r1 => ?_
  subst hz
  refine hw W tk σ F1 H1 s1 hx _ fun fd z u F2 H2 ⟨hz, hp⟩ s2 e2 r2 => ?_
  subst hz
  unfold getdKM at hp
  split at hp
  · rename_i k hk
    have hv := keyA_dp (dp_mono e2 _ _ r1) hk
    subst hv
    obtain ⟨_, vs', h2', h3'⟩ := s2.sl i _ he
    refine ⟨_, DGetS.k h2', hQ _ true _ F2 H2 hp s2 (e1.trans e2) ?_⟩
    obtain ⟨w1, w2⟩ := kvp_val (k := k) h3'
    cases hq : valP kvs k with
    | some x =>
      obtain ⟨w', e', dw⟩ := w1 x hq
      rw [e']; exact dw
    | none =>
      rw [hq] at w2
      cases e' : valV vs' k with
      | some _ => rw [e'] at w2; cases w2
      | none => exact r2
  · exact hp.elim
end
def zipE : List (Option Expr) → List Expr → List (Expr × Expr)
  | some k :: ks, v :: vs => (k, v) :: zipE ks vs
  | _, _ => []
def DqPs (K : Frag) (F : Hp) : List (V × V) → List (PyData × PyData) → Prop
  | [], [] => True
  | (v, w) :: r, (d, c) :: s => (Dq K F v d ∧ Dq K F w c) ∧ DqPs K F r s
  | _, _ => False
def WPs (X : Cx) (g : G) (ps : List (Expr × Expr)) (env : List Sl) (Φ : List (PyData × PyData) → Prop) (Ψ : Exc → Prop) : Prop :=
  ∀ (W : WX), Takes X W → ∀ (σ : SS) (F H : Hp), St X.K g F H σ env → HX X g env Ψ W σ →
    ∀ Q : List (V × V) → Hp → Prop, (∀ ds vs F' H', Φ ds → St X.K g F' H' σ env → Ex F F' → DqPs X.K F' vs ds → Q vs H') → tPairs (ps.map fun q => (semE X q.1, semE X q.2)) σ H Q
theorem wps_nil {Φ : List (PyData × PyData) → Prop} (h : Φ []) : WPs X g [] env Φ Ψ := fun W tk σ F H st hx Q hQ => hQ [] [] F H h st (Ex.refl F) trivial
theorem wps_cons {ps : List (Expr × Expr)} {Φ : List (PyData × PyData) → Prop} (h : WE X g a env (fun d1 z1 => z1 = true ∧ WE X g b env (fun d2 z2 => z2 = true ∧ WPs X g ps env (fun l => Φ ((d1, d2) :: l)) Ψ) Ψ) Ψ) : WPs X g ((a, b) :: ps) env Φ Ψ := fun W tk σ F H st hx Q hQ => by
  show semE X a σ H _
  refine h W tk σ F H st hx _ fun d1 z1 v1 F1 H1 ⟨hz, h2⟩ s1 e1 r1 => ?_
  subst hz
  refine h2 W tk σ F1 H1 s1 hx _ fun d2 z2 v2 F2 H2 ⟨hz, h3⟩ s2 e2 r2 => ?_
  subst hz
  refine h3 W tk σ F2 H2 s2 hx _ fun ds vs F3 H3 hp s3 e3 r3 => ?_
  exact hQ _ _ F3 H3 hp s3 ((e1.trans e2).trans e3) ⟨⟨dp_mono (e2.trans e3) _ _ r1, dp_mono e3 _ _ r2⟩, r3⟩
theorem pps_zip : ∀ {ks : List (Option Expr)} {vs : List Expr}, ks.all (·.isSome) = true → ks.length = vs.length → PPs X pos ks vs ((zipE ks vs).map fun q => (semE X q.1, semE X q.2))
  | [], [], _, _ => pps_nil
  | some k :: ks, v :: vs, h, hl => pps_cons (peS k) (peS v) (pps_zip (by simpa using h) (by simpa using hl))
  | [], _ :: _, _, hl => by cases hl
  | none :: _, _, h, _ => by simp at h
  | some _ :: _, [], _, hl => by cases hl
/-- the dict that pairs make: later ones win -/
def mergeP (kvs : List (Key × PyData)) : List (Key × PyData) := kvs.foldl (fun acc kv => putP acc kv.1 kv.2) []
theorem kvp_merge {xs : List (Key × V)} {kvs : List (Key × PyData)} (h : KVp K F xs kvs) : KVp K F (mergeK [] xs) (mergeP kvs) := by
  unfold mergeK mergeP
  have go : ∀ {xs : List (Key × V)} {kvs : List (Key × PyData)} {a : List (Key × V)} {b : List (Key × PyData)}, KVp K F xs kvs → KVp K F a b → KVp K F (xs.foldl (fun acc kv => putK acc kv.1 kv.2) a) (kvs.foldl (fun acc kv => putP acc kv.1 kv.2) b) := by
    intro xs kvs a b h
    induction h generalizing a b with
    | nil => exact id
    | cons r t ih =>
      intro hab
      refine ih ?_
      show KVp K F (putK _ _ _) (putP _ _ _)
      rw [r.1]
      exact kvp_put hab r.2
  exact go h .nil
theorem dqps_kv : ∀ {kvs : List (Key × PyData)} {vs : List (V × V)}, DqPs K F vs (kvs.map fun kv => (kD kv.1, kv.2)) → ∃ xs : List (Key × V), vs = xs.map (fun kv => (kV kv.1, kv.2)) ∧ KVp K F xs kvs
  | [], [], _ => ⟨[], rfl, .nil⟩
  | [], _ :: _, h => h.elim
  | _ :: _, [], h => h.elim
  | (k, d) :: kvs, (v, w) :: vs, ⟨⟨h1, h2⟩, h3⟩ => by
    obtain ⟨xs, e, h4⟩ := dqps_kv h3
    have hv := key_eq h1
    subst hv
    exact ⟨(k, w) :: xs, by rw [e]; rfl, .cons ⟨rfl, h2⟩ h4⟩
def WDk (X : Cx) (g : G) (e : Expr) (env : List Sl) (Φ : List (Key × PyData) → Prop) (Ψ : Exc → Prop) : Prop :=
  ∀ (W : WX), Takes X W → ∀ (σ : SS) (F H : Hp), St X.K g F H σ env → HX X g env Ψ W σ →
    ∀ Q : VK, (∀ kvs v F' H', Φ kvs → St X.K g F' H' σ env → Ex F F' → NewK X.K g F' H' env v kvs → Q v H') → semE X e σ H Q
def dispM (ps : List (PyData × PyData)) (K : List (Key × PyData) → Prop) : Prop := match asK ps with
  | some m => K (mergeP m)
  | none => False
theorem wdk_disp {ks : List (Option Expr)} {vs : List Expr} {Φ : List (Key × PyData) → Prop} (h : ∀ g' : G, WPs X g' (zipE ks vs) env (fun ps => ps.length ≤ 15 ∧ dispM ps Φ) Ψ) (hall : ks.all (·.isSome) = true := by rfl) (hl : ks.length = vs.length := by rfl)
    (h0 : ks ≠ [] := by (intro z; cases z)) (h15 : ks.length ≤ 15 := by decide) : WDk X g (.Dict ks vs pos) env Φ Ψ := fun W tk σ F H st hx Q hQ => by
  refine semE_of (pe_disp (pps_zip hall hl) hall hl h0 h15) fun p hn => ?_
  have s1 := st.alloc (o := .dK []) hn
  have no : ¬ Own env p := st.toSk.notown hn
  have hF : F p = none := st.ex.none hn
  have hpM : p ∉ fps env := fun z => no (own_fps.mpr z)
  refine h ⟨F, upd H p (.dK []), fps env⟩ W tk σ F _ s1.toSk.base (fun c F' H' hc s2 => hx c F' H' hc (s1.rebase s2 fun _ q => q)) _ fun ds vs' F2 H2 ⟨hlen, hd⟩ s2 e2 r2 => ?_
  have hp2 : H2 p = some (.dK []) := s2.g1 p _ upd_same hpM (fun _ z => by cases z)
  unfold dispM at hd
  split at hd
  · rename_i m em
    rw [asK_eq em] at r2 hlen
    obtain ⟨xs, ex, hkv⟩ := dqps_kv r2
    refine ⟨hp2, xs, ex, by rw [kvp_len hkv]; simpa using hlen, ?_⟩
    have s3 := s1.rebase s2 fun _ q => q
    have hF2 : F2 p = none := by
      cases z : F2 p with
      | none => rfl
      | some u =>
        rcases s2.g4 p (by rw [z]; intro y; cases y) with y | y
        · exact absurd hF y
        · have y : upd H p (.dK []) p = none := y
          rw [upd_same] at y; cases y
    have h0' : g.H0 p = none := st.h0 hn
    have s4 := s3.untracked (D := p) (o' := .dK (mergeK [] xs)) hF2 no h0'
    exact hQ _ (.ref p) F2 _ hd s4 e2 ⟨p, _, rfl, upd_same, kvp_merge hkv, hF2, no, h0'⟩
  · exact hd.elim
theorem St.setK {i : Nat} {q : Addr} {xs : List (Key × V)} {kvs : List (Key × PyData)} (st : St K g F H σ env) (hi : i < env.length) (hH : H q = some (.dK xs)) (hd : KVp K F xs kvs) (hF : F q = none) (hn : ¬ Own env q) (h0 : g.H0 q = none) :
    St K g F H (σ.set i (some (.ref q))) (env.set i (.dk q kvs)) := by
  have one : ∀ b ∈ (Sl.dk q kvs).fp, b = q := fun b hb => by simpa [Sl.fp] using hb
  exact st.set (s := .dk q kvs) hi ⟨rfl, xs, hH, hd⟩ (fun b hb => by rw [one b hb]; exact hF) (fun b hb j t _ e ht => hn ⟨j, t, e, by rw [← one b hb]; exact ht⟩) (fun b hb => by rw [one b hb]; exact .inl h0)
theorem w1_setKd (i : Nat) {x : Str} {pos' : Pos} (hN : X.N.Nodup) (h : WDk X g e env (fun kvs => ∀ q, q ∉ g.M → P.nx (env.set i (.dk q kvs))) (fun c => P.ex c env)) (hi : X.N[i]? = some x := by rfl) (hx : Loc X.env.scope x := by first | exact Or.inl rfl | exact Or.inr rfl) (hl : Nat.blt i env.length = true := by rfl)
    (hs : swapsWith e (some (.Name x pos')) pos.line X.env = pure false := by rfl) (hf : X.fn x = true ∨ X.env.scope.names.lookup x = some .local := by first | exact .inl rfl | exact .inr rfl) : W1 X g (.Assign [.Name x pos'] e pos) env P := fun W tk hx2 σ F H s0 D hD => by
  refine semP_of (ps_set hN hi hx (peS e) hs hf) ?_
  refine h W tk σ F H s0 (hx2.hx env σ) _ fun kvs v F' H' hp s' e' ⟨q, xs, hv, h1, h2, h3, h4, h5⟩ => ?_
  subst hv
  exact hD.nx _ _ F' _ (hp q fun m => s'.g6 q m h5) (s'.setK (ltB hl) h1 h2 h3 h4 h5) e'
theorem disp_m {ps : List (PyData × PyData)} {Q Q' : List (Key × PyData) → Prop} (h : dispM ps Q) (k : ∀ r, Q r → Q' r) : dispM ps Q' := by
  unfold dispM at *
  split at h
  · exact k _ h
  · exact h.elim
section
variable {Φ : PyData → Bool → Prop}
theorem call_strA : CallR X (.type "str") (fun xs H Q => (∃ i : Int, xs = [.int i] ∧ i.natAbs.log2 < 1920 ∧ Q (.str (toString i)) H) ∨ ∃ a, xs = [.str a] ∧ Q (.str a) H) := by
  intro pins s σ H xs us Q I r h
  rcases h with h | h
  · exact call_str_int pins s σ H xs us Q I r h
  · exact SkE.call_str_str pins s σ H xs us Q I r h
theorem we_str1 (hm : X.mg "str" = none) (h : WE X g a env (fun d _ => strM d fun r => Φ r true) Ψ) (hg : Gl X "str" := by rfl) (he : starEach [a] X.env = (false, eval a X.env) :: starEach [] X.env := by rfl) : WE X g (.Call (.Name "str" p) [a] [] pos) env Φ Ψ :=
  we_t1 call_strA hm (by decide +kernel) (fun d1 z1 h σ F H v1 st r1 Q hQ => by
    unfold strM at h
    split at h
    · exact .inl ⟨_, by rw [rd_int r1], h.1, hQ _ true _ F H h.2 st (Ex.refl F) (.str _)⟩
    · exact .inr ⟨_, by rw [rd_str r1], hQ _ true _ F H h st (Ex.refl F) (.str _)⟩
    · exact h.elim) h hg (he := he)
end
end
end TL
namespace TL
open PySem PySem.Spec PyProof.Rows L2
section
variable {X : Cx} {g : G} {env env' : List Sl} {Ψ : Exc → Prop} {P : Po} {pos p lp : Pos} {a b c e f o tg iter : Expr} {es : List Expr} {rest body : List Stmt} {K : Frag} {F F' H H' : Hp} {σ σ' : SS} {x y : PyData} {z1 z2 : Bool} {k0 : Nat} {al : Addr} {xn : Str} {apos : Pos}
theorem ws_forget (i : Nat) (h : WS X g rest (env.set i .un) P) (hi : env[i]?.isSome = true := by rfl) : WS X g rest env P := fun W tk hx σ F H st D hD => by
  obtain ⟨s, hs⟩ := Option.isSome_iff_exists.mp hi
  exact h W tk hx σ F H (st.weak hs (fun a m => by cases m) fun _ => trivial) D hD
end
end TL
namespace TL
open PySem PySem.Spec PyProof.Rows L2
section
variable {X : Cx} {g : G} {env env' : List Sl} {Ψ : Exc → Prop} {P : Po} {pos p lp : Pos} {a b c e f o tg iter : Expr} {es : List Expr} {rest body : List Stmt} {K : Frag} {F F' H H' : Hp} {σ σ' : SS} {x y : PyData} {z1 z2 : Bool} {k0 : Nat} {al : Addr} {xn : Str} {apos : Pos}
/-- each row once -/
def dd : List (List Int) → List (List Int)
  | [] => []
  | a :: l => if a ∈ l then dd l else a :: dd l
end
end TL
namespace TL
open PySem PySem.Spec PyProof.Rows L2 LamX
theorem lamO_ntb {f c : Addr} {l : Lam} : ntb (LamO f l c) := fun _ z => by unfold LamO at z; cases z
theorem codeO_ntb {c : Addr} {q : Str} : ntb (CodeO c q) := fun _ z => by unfold CodeO at z; cases z
/-- the heap behind the making: as it was, or the table is longer by a new code object -/
inductive LmRes (H : Hp) (P : Addr) (ps : Array Value) (q : Str) (c : Addr) : Hp → Prop
  | hit (pos : Pos) : codeAmong pos ps.toList = some (.ref c) → LmRes H P ps q c H
  | new (more : Array Value) : H c = none → c ≠ P → TriplesOk (ps ++ more).toList → (∀ (pos : Pos) (cv : Value), codeAmong pos (ps ++ more).toList = some cv → codeAmong pos ps.toList = some cv ∨ cv = .ref c) →
      LmRes H P ps q c (upd (upd H P (.tbl (ps ++ more))) c (CodeO c q))
theorem upd_comm {H : Hp} {a b : Addr} {x y : HO} (h : a ≠ b) : upd (upd H a x) b y = upd (upd H b y) a x := by
  funext c
  by_cases h1 : c = b
  · subst h1; rw [upd_same, upd_ne (Ne.symm h), upd_same]
  · by_cases h2 : c = a
    · subst h2; rw [upd_ne h1, upd_same, upd_same]
    · rw [upd_ne h1, upd_ne h2, upd_ne h2, upd_ne h1]
section
variable {K : Frag} {g : G} {env : List Sl} {F H H1 : Hp} {σ : SS} {P : Addr} {ps ps' : Array Value} {q : Str}
theorem St.tabw (st : St K g F H σ env) (hP : H P = some (.tbl ps)) (ht : TriplesOk ps'.toList) (hc : ∀ q, (P, q) ∈ tabsK K → ∀ (pos : Pos) (cv : Value), codeAmong pos ps'.toList = some cv → ∃ c, cv = .ref c ∧ F c = some (CodeO c q)) : St K g F (upd H P (.tbl ps')) σ env where
  len := st.len
  sl := fun i s e => slok_mono (Ex.refl F) (fun a ha u z => by
    have ne : a ≠ P := fun y => slok_ntb (st.sl i s e) ha ps (y ▸ hP)
    rw [upd_ne ne]; exact z) (st.sl i s e)
  nd := st.nd
  fr := st.fr
  ex := fun a u z => by
    by_cases y : a = P
    · subst y
      have z2 := st.ex a u z
      rw [hP] at z2; cases z2
      exact absurd z (st.tk.fn a ps)
    · rw [upd_ne y]; exact st.ex a u z
  tf := fun a vs z => by
    by_cases y : a = P
    · subst y; rw [upd_same] at z; cases z
    · rw [upd_ne y] at z; exact st.tf a vs z
  tk := ⟨st.tk.fn, fun p hp => by
    by_cases y : p.1 = P
    · obtain ⟨p1, p2⟩ := p
      have y : p1 = P := y
      subst y
      exact ⟨ps', upd_same, ht, hc p2 hp⟩
    · exact (st.tk.tb p hp).mono (Ex.refl F) fun u z => by rw [upd_ne y]; exact z⟩
  gt := st.gt.grow fun a z => by
    by_cases y : a = P
    · subst y; rw [upd_same] at z; cases z
    · rw [upd_ne y] at z; exact z
  g1 := fun a o z m n => by
    have z2 := st.g1 a o z m n
    have ne : a ≠ P := fun y => by
      subst y; rw [hP] at z2; exact n ps (Option.some.inj z2).symm
    rw [upd_ne ne]; exact z2
  g2 := st.g2
  g3 := st.g3
  g4 := st.g4
  g5 := fun a m z => by
    by_cases y : a = P
    · subst y; rw [upd_same] at z; cases z
    · rw [upd_ne y] at z; exact st.g5 a m z
  g6 := st.g6
theorem St.lam {l : Lam} {f c : Addr} (st : St K g F H σ env) (r : LmRes H P ps l.q c H1) (hP : H P = some (.tbl ps)) (hk : ∀ (pos : Pos) (cv : Value), codeAmong pos ps.toList = some cv → ∃ c, cv = .ref c ∧ F c = some (CodeO c l.q)) (hu : ∀ p ∈ tabsK K, p.1 = P → p.2 = l.q) (hn : H1 f = none) :
    ∃ F1, St K g F1 (upd H1 f (LamO f l c)) σ env ∧ Ex F F1 ∧ IsLam F1 (.ref f) l := by
  cases r with
  | hit pos hc =>
    obtain ⟨c0, e0, e1⟩ := hk pos _ hc
    cases e0
    have e := Ex.new (o := LamO f l c) (st.ex.none hn)
    exact ⟨upd F f (LamO f l c), st.allocF hn lamO_ntb, e, f, c, rfl, upd_same, e _ _ e1⟩
  | new more hc hcP ht hco =>
    rw [upd_comm (Ne.symm hcP)] at hn ⊢
    have hF := st.ex.none hc
    have e1 := Ex.new (o := CodeO c l.q) hF
    have s1 := st.allocF (o := CodeO c l.q) hc codeO_ntb
    have s2 : St K g (upd F c (CodeO c l.q)) (upd (upd H c (CodeO c l.q)) P (.tbl (ps ++ more))) σ env := s1.tabw (P := P) (ps := ps) (by rw [upd_ne (Ne.symm hcP)]; exact hP) ht fun q hq pos cv hcv => by
      have eq := hu (P, q) hq rfl
      have eq : q = l.q := eq
      subst eq
      rcases hco pos cv hcv with z | z
      · obtain ⟨c0, z1, z2⟩ := hk pos cv z
        exact ⟨c0, z1, e1 _ _ z2⟩
      · exact ⟨c, z, upd_same⟩
    have e2 := Ex.new (o := LamO f l c) (s2.ex.none hn)
    exact ⟨_, s2.allocF hn lamO_ntb, e1.trans e2, f, c, rfl, upd_same, e2 _ _ upd_same⟩
end
end TL
namespace TL
open PySem PySem.Spec PyProof.Rows L2 He LamX
abbrev LamD : Type := Defn × Str
def markObj (P : Addr) (q : Str) : Obj := { cls := .none, data := .fields #[.str "lam!" 0, .ref P, .str q 0] }
def markK (tf : List LamD) (K : Frag) : Frag := K ++ tf.map fun p => ((cT K p.1).1, markObj (cT K p.1).2 p.2)
def lamB (g : Addr → Option Obj) (tf : List LamD) (K : Frag) : Bool :=
  (tf.all fun p => PySem.W.codeHdIn K (cT K p.1).1 (cT K p.1).2 && (match g (cT K p.1).2 with
    | some o => emptyTab o
    | none => false)) && (decide (tabsK (markK tf K) = tf.map fun p => ((cT K p.1).2, p.2)) && decide ((tf.map fun p => (cT K p.1).2).Nodup))
abbrev AlL : Type := AlD × Bool
def obsL (ex : List XF) (fa : List Fa) (fn : List DefD) (tf : List LamD) (g : Addr → Option Obj) (K : Frag) : AlL := (obsX ex fa fn (markK tf K), lamB g tf K)
structure SaysL (ex : List XF) (fa : List Fa) (fn : List DefD) (tf : List LamD) (h : Heap) (K0 : Frag) : Prop where
  x : SaysX ex fa fn (markK tf K0)
  hd : ∀ p ∈ tf, PySem.W.codeHdIn K0 (cT K0 p.1).1 (cT K0 p.1).2 = true
  out : ∀ p ∈ tf, K0.lookup (cT K0 p.1).2 = none
  empty : ∀ p ∈ tf, h.get? (cT K0 p.1).2 = some { cls := .none, data := .fields #[] }
  tabs : tabsK (markK tf K0) = tf.map fun p => ((cT K0 p.1).2, p.2)
  nd : (tf.map fun p => (cT K0 p.1).2).Nodup
theorem lookup_app {a : Addr} : ∀ {K M : Frag}, (K ++ M).lookup a = match K.lookup a with | some o => some o | none => M.lookup a
  | [], _ => rfl
  | (b, o) :: r, M => by
    show (match a == b with | true => some o | false => (r ++ M).lookup a) = match (match a == b with | true => some o | false => r.lookup a) with | some o => some o | none => M.lookup a
    cases a == b with
    | true => rfl
    | false => exact lookup_app (K := r) (M := M)
theorem codeHd_some {K : Frag} {c P : Addr} (h : PySem.W.codeHdIn K c P = true) : ∃ o, K.lookup c = some o := by
  unfold PySem.W.codeHdIn at h
  cases q : K.lookup c with
  | none => rw [q] at h; cases h
  | some o => exact ⟨o, rfl⟩
section
variable {ex : List XF} {fa : List Fa} {fn : List DefD} {tf : List LamD} {h : Heap} {K0 : Frag}
theorem SaysL.marks (c : SaysL ex fa fn tf h K0) {a : Addr} {o : Obj} (e : (tf.map fun p => ((cT K0 p.1).1, markObj (cT K0 p.1).2 p.2)).lookup a = some o) : ∃ o, K0.lookup a = some o := by
  obtain ⟨p, hp, ep⟩ := List.mem_map.mp (He.lookup_mem e)
  have e1 : (cT K0 p.1).1 = a := congrArg Prod.fst ep
  rw [← e1]
  exact codeHd_some (c.hd p hp)
theorem SaysL.look (c : SaysL ex fa fn tf h K0) (a : Addr) : (markK tf K0).lookup a = K0.lookup a := by
  unfold markK
  rw [lookup_app]
  cases q : K0.lookup a with
  | some o => rfl
  | none =>
    cases z : (tf.map fun p => ((cT K0 p.1).1, markObj (cT K0 p.1).2 p.2)).lookup a with
    | none => rfl
    | some o =>
      obtain ⟨o', e⟩ := c.marks z
      rw [q] at e; cases e
theorem SaysL.kin (c : SaysL ex fa fn tf h K0) (k : K0.In h) : (markK tf K0).In h := fun a o e => k a o (by rw [← c.look a]; exact e)
end
section
variable {ex : List XF} {fa : List Fa} {fn : List DefD} {tf : List LamD} {h base : Heap} {K0 : Frag} {mg : Str → Option Value}
/-- the code objects and tables of the defs that make lambdas -/
def csOf (tf : List LamD) (K0 : Frag) : List (Addr × Addr) := tf.map fun p => cT K0 p.1
end
/-- the end, with tables -/
theorem walk_xT {l : PySem.W.OpenLaw} {m j : Nat} {q : Program} {lo : List Str} {XP : (Str → Option Value) → Heap → Prop} {YP : World → Heap → Prop} {d : DefRec} {x : Str} (h1 : l.most = some m) (h2 : m ≤ sizeLine) (h3 : d.params.defaults = []) (h4 : Room j callerA)
    (h : ∀ (u : World) (mg : Str → Option Value) (a : Addr) (hp : Heap), YP u hp → hp.Ns mainGlobals mg → mg d.name = some (.ref a) → ∃ K : Frag, K.In hp ∧ LawAtS l u K (L2.CX l.prog u) j m x mg a hp) :
    PySem.W.WalkO q lo XP YP l.row.toRowW d [] (fun f vs => PySem.call f vs) :=
  walk_ofTsE h1 h2 h3 h4 h fun w H s e s' z => by
    obtain ⟨_, _, _, _, _, _, _, _, _, _, _, _, z⟩ := z
    exact z
theorem lawAt {l : PySem.W.OpenLaw} {u : World} {j : Nat} {x : Str} {mg : Str → Option Value} {a : Addr} {hp : Heap} {ex : List XF} {fa : List Fa} {fn : List DefD} {tf : List LamD} {K0 : Frag} (c : SaysL ex fa fn tf hp K0) (k : K0.In hp)
    (h : ∃ fd : FuncData, (∀ (s : Shared) (y : Value), BindsTo s fd ⟨[y], []⟩ [(x, y)]) ∧ ∀ base : Heap, (markK tf K0).In base → base.Ns mainGlobals mg → (∀ p ∈ csOf tf K0, TabB base mg p.1 p.2) → FnOk l.prog u (markK tf K0) mg base (L2.CX l.prog u) j a fd [x] (spOf (markK tf K0) 1 cLaw)) :
    LawAtS l u (markK tf K0) (L2.CX l.prog u) j 63 x mg a hp := by
  obtain ⟨fd, hb, hF⟩ := h
  have mem : ∀ p ∈ csOf tf K0, ∃ r ∈ tf, cT K0 r.1 = p := fun p hp => by
    obtain ⟨r, hr, e⟩ := List.mem_map.mp hp
    exact ⟨r, hr, e⟩
  refine ⟨fd, csOf tf K0, _, fun p hp => ?_, fun p hp => ?_, fun p hp => ?_, hb, fun H b ns hl _ hT hS => law_sp hl (fun p hp => ?_) hS, hF⟩
  · obtain ⟨r, hr, rfl⟩ := mem p hp; exact c.empty r hr
  · obtain ⟨r, hr, rfl⟩ := mem p hp; rw [c.look]; exact c.out r hr
  · obtain ⟨r, hr, rfl⟩ := mem p hp; exact PySem.W.codeHd_of_K k (c.hd r hr)
  · rw [c.tabs] at hp
    obtain ⟨r, hr, rfl⟩ := List.mem_map.mp hp
    exact hT _ (List.mem_map.mpr ⟨r, hr, rfl⟩)
end TL
namespace TL
open PySem PySem.Spec PyProof.Rows L2 LamX
section
variable {X : Cx} {g : G} {env : List Sl} {Ψ : Exc → Prop} {Φ : PyData → Bool → Prop} {P : Po} {pos lp apos : Pos} {k : Nat} {ps : Arguments} {bd : Expr} {sc : Scope} {c T : Addr} {es : List Expr} {a : Expr}
inductive LmAll (N : Lam → Prop) : List Lam → List Prop → Prop
  | nil : LmAll N [] []
  | cons {l : Lam} {R : Prop} {ls : List Lam} {Rs : List Prop} (h : R → N l) (t : LmAll N ls Rs) : LmAll N (l :: ls) (R :: Rs)
theorem LmAll.len {N : Lam → Prop} : ∀ {ls : List Lam} {Rs : List Prop}, LmAll N ls Rs → ls.length = Rs.length
  | _, _, .nil => rfl
  | _, _, .cons _ t => congrArg Nat.succ t.len
theorem LmAll.get {N : Lam → Prop} : ∀ {ls : List Lam} {Rs : List Prop} {n : Nat} {l : Lam}, LmAll N ls Rs → ls[n]? = some l → Rs[n]?.getD False → N l
  | _, _, 0, _, .cons h _, e, r => by
    have e := Option.some.inj e
    subst e
    exact h r
  | _, _, n + 1, _, .cons _ t, e, r => t.get (n := n) e r
  | _, _, _, _, .nil, e, _ => by simp at e
end
end TL
namespace TL
open PySem PySem.Spec PyProof.Rows L2
open Classical in
noncomputable def cutS (F : Hp) (S : Addr → Prop) : Hp := fun b => if S b then none else F b
end TL
namespace TL
open PySem PySem.Spec PyProof.Rows L2
def NewS (K : Frag) (g : G) (F H : Hp) (env : List Sl) (v : V) (s : Sl) : Prop := SlOk K F H (some v) s ∧ ∀ p ∈ s.fp, F p = none ∧ ¬ Own env p ∧ g.H0 p = none
def WO (X : Cx) (g : G) (e : Expr) (env : List Sl) (Φ : Sl → Prop) (Ψ : Exc → Prop) : Prop :=
  ∀ (W : WX), Takes X W → ∀ (σ : SS) (F H : Hp), St X.K g F H σ env → HX X g env Ψ W σ →
    ∀ Q : VK, (∀ s v F' H', Φ s → St X.K g F' H' σ env → Ex F F' → NewS X.K g F' H' env v s → Q v H') → semE X e σ H Q
section
variable {X : Cx} {g : G} {env env' : List Sl} {Ψ : Exc → Prop} {P : Po} {pos p lp : Pos} {a b c e e1 e2 : Expr} {es : List Expr} {rest body : List Stmt} {K : Frag} {F F' F1 F2 H H' H1 H2 : Hp} {σ σ' : SS} {s : Sl} {v : V} {x : PyData}
theorem WO.mono {Φ Φ' : Sl → Prop} (h : WO X g e env Φ Ψ) (k : ∀ s, Φ s → Φ' s) : WO X g e env Φ' Ψ :=
  fun W tk σ F H st hx Q hQ => h W tk σ F H st hx Q fun s v F' H' p => hQ s v F' H' (k s p)
end
end TL
namespace TL
open PySem PySem.Spec PyProof.Rows L2
def otT (a : Addr) (as : List Addr) (ds : List (List PyData)) : OwT where
  id := a
  fp := (as.zip ds).map (·.1)
  ok := fun K F H v => v = .ref a ∧ F a = some (.tup ((as.zip ds).map fun r => .ref r.1)) ∧ ((as.zip ds).map (·.1)).Nodup ∧ ∀ r ∈ as.zip ds, ∃ vs, H r.1 = some (.lst vs) ∧ DqAll K F vs r.2
  isr := fun h => h.1
  mono := fun {K F F' H H' v} e k h => by
    obtain ⟨h1, h2, h3, h4⟩ := h
    refine ⟨h1, e _ _ h2, h3, fun r hr => ?_⟩
    obtain ⟨vs, q1, q2⟩ := h4 r hr
    exact ⟨vs, k r.1 (List.mem_map_of_mem hr) _ q1, dpa_mono e _ _ q2⟩
  there := fun {K F H v} h b hb => by
    obtain ⟨r, hr, rfl⟩ := List.mem_map.mp hb
    obtain ⟨vs, q1, _⟩ := h.2.2.2 r hr
    exact ⟨_, q1, rfl⟩
  rows := as.zip ds
  held := fun {K F H v} h r hr => h.2.2.2 r hr
def IsNest (x : PyData) (s : Sl) : Prop := (∃ ds al as, x = .list (ds.map .list) ∧ s = ooS al as ds ∧ as.length = ds.length) ∨ ∃ ds a as, x = .tuple (ds.map .list) ∧ s = .ow (otT a as ds) ∧ as.length = ds.length
section
variable {X : Cx} {g : G} {env env' : List Sl} {Ψ : Exc → Prop} {P : Po} {pos p lp : Pos} {a b c e e1 e2 : Expr} {es : List Expr} {rest body : List Stmt} {K : Frag} {F F' F1 F2 H H' H1 H2 : Hp} {σ σ' : SS} {s : Sl} {v : V} {x kd : PyData}
theorem IsNest.ne (h : IsNest x s) : s ≠ .un := by
  rcases h with ⟨_, _, _, _, rfl, _⟩ | ⟨_, _, _, _, rfl, _⟩ <;> (intro z; cases z)
end
end TL
namespace TL
open PySem PySem.Spec PyProof.Rows L2
section
variable {X : Cx} {g : G} {env env' : List Sl} {Ψ : Exc → Prop} {P : Po} {pos p lp : Pos} {a b c e e1 e2 elt tg iter : Expr} {es : List Expr} {rest body : List Stmt} {K : Frag} {F F' F1 F2 H H' H1 H2 : Hp} {σ σ' : SS} {s : Sl} {v : V} {x kd : PyData}
/-- what stood and no slot owns stays as it is, out of the frozen part -/
theorem St.keeps {D : Addr} {u : HO} (s2 : St K ⟨F, H, fps env⟩ F' H' σ' env') (hD : H D = some u) (hu : ntb u) (fD : F D = none) (oD : ¬ Own env D) : H' D = some u ∧ F' D = none := by
  refine ⟨s2.g1 D _ hD (fun z => oD (own_fps.mpr z)) hu, ?_⟩
  cases q : F' D with
  | none => rfl
  | some w =>
    rcases s2.g4 D (by rw [q]; intro z; cases z) with z | z
    · exact absurd fD z
    · have z' : H D = none := z
      rw [hD] at z'; cases z'
end
end TL
namespace TL
open PySem PySem.Spec PyProof.Rows L2
structure HasD (P : Program) (w : World) (K : Frag) (mg : Str → Option Value) (base : Heap) (k : Nat) (x : Str) (ps : List Str) (dvs : List V) (S : CT) : Prop where
  ex : ∃ f fd ds, mg x = some (.ref f) ∧ PySem.W.keepIn K (.ref f) = true ∧ Vals dvs ds ∧ Binds K fd ps ds ∧ FnOk P w K mg base (L2.CX P w) k f fd ps (spOf K ps.length S)
structure HasN (P : Program) (w : World) (K : Frag) (mg : Str → Option Value) (base : Heap) (k : Nat) (x : Str) (ps : List Str) (n : Nat) (ks : List Str) (S : CT) : Prop where
  ex : ∃ f fd, mg x = some (.ref f) ∧ PySem.W.keepIn K (.ref f) = true ∧ L2.KBn K fd ps n ks (fun us ws => us ++ ws) (fun us ws => us ++ ws) ∧ FnOk P w K mg base (L2.CX P w) k f fd ps (spOf K ps.length S)
theorem HasD.mono {P : Program} {w : World} {K : Frag} {mg : Str → Option Value} {base : Heap} {k k' : Nat} {x : Str} {ps : List Str} {dvs : List V} {S : CT} (h : HasD P w K mg base k x ps dvs S) (le : k ≤ k') : HasD P w K mg base k' x ps dvs S := by
  obtain ⟨f, fd, ds, h1, h2, h3, h4, h5⟩ := h.ex
  exact ⟨f, fd, ds, h1, h2, h3, h4, h5.mono le⟩
theorem HasN.mono {P : Program} {w : World} {K : Frag} {mg : Str → Option Value} {base : Heap} {k k' n : Nat} {x : Str} {ps ks : List Str} {S : CT} (h : HasN P w K mg base k x ps n ks S) (le : k ≤ k') : HasN P w K mg base k' x ps n ks S := by
  obtain ⟨f, fd, h1, h2, h3, h5⟩ := h.ex
  exact ⟨f, fd, h1, h2, h3, h5.mono le⟩
end TL
namespace TL
open PySem PySem.Spec PyProof.Rows L2
inductive OF where
  | d (x : PyData)
  | l (ds : List PyData)
inductive OA where
  | d (x : PyData)
  | l (q : Addr) (ds : List PyData)
def OA.fp : OA → List Addr
  | .d _ => []
  | .l q _ => [q]
def OA.of : OA → OF
  | .d x => .d x
  | .l _ ds => .l ds
def ofp (fs : List (Str × OA)) : List Addr := fs.flatMap fun p => p.2.fp
def FOk (K : Frag) (F H : Hp) : List (Str × V) → List (Str × OA) → Prop
  | [], [] => True
  | (f, v) :: vs, (g, o) :: fs => f = g ∧ (match o with
    | .d x => Dq K F v x
    | .l q ds => v = .ref q ∧ ∃ us, H q = some (.lst us) ∧ DqAll K F us ds) ∧ FOk K F H vs fs
  | _, _ => False
theorem fok_mono {K : Frag} {F F' H H' : Hp} (e : Ex F F') : ∀ {vs : List (Str × V)} {fs : List (Str × OA)}, (∀ b ∈ ofp fs, ∀ u, H b = some u → H' b = some u) → FOk K F H vs fs → FOk K F' H' vs fs
  | [], [], _, _ => trivial
  | (f, v) :: vs, (g, .d x) :: fs, k, ⟨h1, h2, h3⟩ => ⟨h1, dp_mono e _ _ h2, fok_mono e (fun b hb => k b (by unfold ofp at *; rw [List.flatMap_cons]; exact List.mem_append_right _ hb)) h3⟩
  | (f, v) :: vs, (g, .l q ds) :: fs, k, ⟨h1, ⟨h2, us, h4, h5⟩, h3⟩ =>
    ⟨h1, ⟨h2, us, k q (by unfold ofp; rw [List.flatMap_cons]; exact List.mem_append_left _ (List.mem_singleton.mpr rfl)) _ h4, dpa_mono e _ _ h5⟩, fok_mono e (fun b hb => k b (by unfold ofp at *; rw [List.flatMap_cons]; exact List.mem_append_right _ hb)) h3⟩
  | [], _ :: _, _, h => h.elim
  | _ :: _, [], _, h => h.elim
theorem fok_there {K : Frag} {F H : Hp} : ∀ {vs : List (Str × V)} {fs : List (Str × OA)}, FOk K F H vs fs → ∀ b ∈ ofp fs, ∃ us, H b = some (.lst us)
  | [], [], _, b, hb => by cases hb
  | (f, v) :: vs, (g, .d x) :: fs, ⟨h1, h2, h3⟩, b, hb => by
    unfold ofp at hb; rw [List.flatMap_cons] at hb
    exact fok_there h3 b hb
  | (f, v) :: vs, (g, .l q ds) :: fs, ⟨h1, ⟨h2, us, h4, h5⟩, h3⟩, b, hb => by
    unfold ofp at hb; rw [List.flatMap_cons] at hb
    rcases List.mem_append.mp hb with z | z
    · rw [List.mem_singleton.mp z]; exact ⟨us, h4⟩
    · exact fok_there h3 b z
  | [], _ :: _, h, _, _ => h.elim
  | _ :: _, [], h, _, _ => h.elim
def oarows (fs : List (Str × OA)) : List (Addr × List PyData) := fs.flatMap fun p => match p.2 with
  | .d _ => []
  | .l q ds => [(q, ds)]
theorem fok_held {K : Frag} {F H : Hp} : ∀ {vs : List (Str × V)} {fs : List (Str × OA)}, FOk K F H vs fs → ∀ r ∈ oarows fs, ∃ us, H r.1 = some (.lst us) ∧ DqAll K F us r.2
  | [], [], _, b, hb => by cases hb
  | (f, v) :: vs, (g, .d x) :: fs, ⟨h1, h2, h3⟩, b, hb => by
    unfold oarows at hb; rw [List.flatMap_cons] at hb
    exact fok_held h3 b hb
  | (f, v) :: vs, (g, .l q ds) :: fs, ⟨h1, ⟨h2, us, h4, h5⟩, h3⟩, b, hb => by
    unfold oarows at hb; rw [List.flatMap_cons] at hb
    rcases List.mem_append.mp hb with z | z
    · rw [List.mem_singleton.mp z]; exact ⟨us, h4, h5⟩
    · exact fok_held h3 b z
  | [], _ :: _, h, _, _ => h.elim
  | _ :: _, [], h, _, _ => h.elim
def obT (n : Str) (a dx : Addr) (fs : List (Str × OA)) : OwT where
  id := a
  fp := a :: dx :: ofp fs
  ok := fun K F H v => v = .ref a ∧ InsK K n ∧ (ofp fs).Nodup ∧ H dx = some (.own a) ∧ ∃ vs, H a = some (.ins (He.ga K n) dx vs) ∧ FOk K F H vs fs
  isr := fun h => h.1
  mono := fun e k ⟨h1, h2, h3, h4, vs, h5, h6⟩ => ⟨h1, h2, h3, k dx (by simp) _ h4, vs, k a (by simp) _ h5, fok_mono e (fun b hb => k b (by simp [hb])) h6⟩
  there := fun ⟨h1, h2, h3, h4, vs, h5, h6⟩ b hb => by
    rcases List.mem_cons.mp hb with rfl | hb
    · exact ⟨_, h5, rfl⟩
    · rcases List.mem_cons.mp hb with rfl | hb
      · exact ⟨_, h4, rfl⟩
      · obtain ⟨us, h⟩ := fok_there h6 b hb
        exact ⟨_, h, rfl⟩
  rows := oarows fs
  held := fun ⟨h1, h2, h3, h4, vs, h5, h6⟩ r hr => fok_held h6 r hr
/-- an object of the class n with these fields -/
def IsOb (n : Str) (fs : List (Str × OF)) (s : Sl) : Prop := ∃ a dx fa, s = .ow (obT n a dx fa) ∧ fs = fa.map fun p => (p.1, p.2.of)
theorem IsOb.ne {n : Str} {fs : List (Str × OF)} {s : Sl} (h : IsOb n fs s) : s ≠ .un := by
  obtain ⟨a, dx, fa, rfl, _⟩ := h
  intro z; cases z
def OF.dat : OF → PyData
  | .d x => x
  | .l ds => .list ds
end TL
namespace TL
open PySem PySem.Spec PyProof.Rows L2
structure HasM (P : Program) (w : World) (K : Frag) (mg : Str → Option Value) (base : Heap) (k : Nat) (n m : Str) (ps : List Str) (S : CT) : Prop where
  ex : ∃ f fd, Meth K (He.ga K n) m f ∧ Binds K fd ps [] ∧ FnOk P w K mg base (L2.CX P w) k f fd ps (spOf K ps.length S)
theorem HasM.mono {P : Program} {w : World} {K : Frag} {mg : Str → Option Value} {base : Heap} {k k' : Nat} {n m : Str} {ps : List Str} {S : CT} (h : HasM P w K mg base k n m ps S) (le : k ≤ k') : HasM P w K mg base k' n m ps S := by
  obtain ⟨f, fd, h1, h2, h3⟩ := h.ex
  exact ⟨f, fd, h1, h2, h3.mono le⟩
end TL
namespace TL
open PySem PySem.Spec PyProof.Rows L2
structure HasI (P : Program) (w : World) (K : Frag) (mg : Str → Option Value) (base : Heap) (k : Nat) (n : Str) (ps : List Str) (S : CT) : Prop where
  ex : ∃ f fd, mg n = some (.ref (He.ga K n)) ∧ InsK K n ∧ Mk K (He.ga K n) f ∧ Binds K fd ps [] ∧ FnOk P w K mg base (L2.CX P w) k f fd ps (spOf K ps.length S)
theorem HasI.mono {P : Program} {w : World} {K : Frag} {mg : Str → Option Value} {base : Heap} {k k' : Nat} {n : Str} {ps : List Str} {S : CT} (h : HasI P w K mg base k n ps S) (le : k ≤ k') : HasI P w K mg base k' n ps S := by
  obtain ⟨f, fd, h1, h2, h3, h4, h5⟩ := h.ex
  exact ⟨f, fd, h1, h2, h3, h4, h5.mono le⟩
section
variable {X : Cx} {g : G} {env env' : List Sl} {Ψ : Exc → Prop} {P : Po} {pos p apos q lp : Pos} {a b c e ex o : Expr} {es : List Expr} {rest body orelse : List Stmt} {K : Frag} {F F' F1 F2 H H' H1 H2 : Hp} {σ σ' : SS} {s s' : Sl} {v : V} {x kd : PyData} {n m xn : Str} {fs : List (Str × OF)}
structure HasIK (P : Program) (w : World) (K : Frag) (mg : Str → Option Value) (base : Heap) (k : Nat) (n nm : Str) (ps : List Str) (S : CT) : Prop where
  ex : ∃ f fd, mg n = some (.ref (He.ga K n)) ∧ InsK K n ∧ Mk K (He.ga K n) f ∧ L2.KBn K fd ps 1 [nm] (fun us ws => us ++ ws) (fun us ws => us ++ ws) ∧ FnOk P w K mg base (L2.CX P w) k f fd ps (spOf K ps.length S)
theorem HasIK.mono {P : Program} {w : World} {K : Frag} {mg : Str → Option Value} {base : Heap} {k k' : Nat} {n nm : Str} {ps : List Str} {S : CT} (h : HasIK P w K mg base k n nm ps S) (le : k ≤ k') : HasIK P w K mg base k' n nm ps S := by
  obtain ⟨f, fd, h1, h2, h3, h4, h5⟩ := h.ex
  exact ⟨f, fd, h1, h2, h3, h4, h5.mono le⟩
structure HasID (P : Program) (w : World) (K : Frag) (mg : Str → Option Value) (base : Heap) (k : Nat) (n : Str) (ps : List Str) (dvs : List V) (S : CT) : Prop where
  ex : ∃ f fd ds, mg n = some (.ref (He.ga K n)) ∧ InsK K n ∧ Mk K (He.ga K n) f ∧ Vals dvs ds ∧ Binds K fd ps ds ∧ FnOk P w K mg base (L2.CX P w) k f fd ps (spOf K ps.length S)
theorem HasID.mono {P : Program} {w : World} {K : Frag} {mg : Str → Option Value} {base : Heap} {k k' : Nat} {n : Str} {ps : List Str} {dvs : List V} {S : CT} (h : HasID P w K mg base k n ps dvs S) (le : k ≤ k') : HasID P w K mg base k' n ps dvs S := by
  obtain ⟨f, fd, ds, h1, h2, h3, h4, h5, h6⟩ := h.ex
  exact ⟨f, fd, ds, h1, h2, h3, h4, h5, h6.mono le⟩
end
end TL
namespace TL
open PySem PySem.Spec PyProof.Rows L2
section
variable {X : Cx} {g : G} {env env' : List Sl} {Ψ : Exc → Prop} {P : Po} {pos p apos q : Pos} {a b c e ex o : Expr} {es : List Expr} {rest body : List Stmt} {K : Frag} {F F' F1 F2 H H' H1 H2 : Hp} {σ σ' : SS} {s s' : Sl} {v : V} {x kd : PyData} {n m xn : Str} {fs : List (Str × OF)}
theorem HasI.ins {P : Program} {w : World} {K : Frag} {mg : Str → Option Value} {base : Heap} {k : Nat} {n : Str} {ps : List Str} {S : CT} (h : HasI P w K mg base k n ps S) : InsK K n := by
  obtain ⟨f, fd, h1, h2, h3⟩ := h.ex
  exact h2
end
end TL
namespace TL
open PySem PySem.Spec PyProof.Rows L2
open Sem (wp)
mutual
inductive NKv (H : Hp) : NestedKey → V → Prop
  | num (i : Int) : NKv H (.num i) (.int i)
  | text (x : Str) : NKv H (.text x) (.str x)
  | tup {a : Addr} {vs : List V} {ks : List NestedKey} : H a = some (.tup vs) → NKvs H ks vs → NKv H (.tup ks) (.ref a)
inductive NKvs (H : Hp) : List NestedKey → List V → Prop
  | nil : NKvs H [] []
  | cons {k : NestedKey} {v : V} {ks : List NestedKey} {vs : List V} : NKv H k v → NKvs H ks vs → NKvs H (k :: ks) (v :: vs)
end
section
variable {P : Program} {w : World} {H H' F : Hp} {h : Heap} {K : Frag}
mutual
theorem NKv.mono (e : ∀ a vs, H a = some (.tup vs) → H' a = some (.tup vs)) : ∀ {k : NestedKey} {v : V}, NKv H k v → NKv H' k v
  | _, _, .num i => .num i
  | _, _, .text x => .text x
  | _, _, .tup h1 h2 => .tup (e _ _ h1) (NKvs.mono e h2)
theorem NKvs.mono (e : ∀ a vs, H a = some (.tup vs) → H' a = some (.tup vs)) : ∀ {k : List NestedKey} {v : List V}, NKvs H k v → NKvs H' k v
  | _, _, .nil => .nil
  | _, _, .cons h1 h2 => .cons (NKv.mono e h1) (NKvs.mono e h2)
end
mutual
theorem NKv.is (ok : HOk P w H h) : ∀ {k : NestedKey} {v : V} {u : Value}, NKv H k v → RelV v u → NestedIs h k u
  | _, _, _, .num i, r => by obtain ⟨t, rfl⟩ := (show ∃ t, _ = Value.int i t from r); exact .int i t
  | _, _, _, .text x, r => by obtain ⟨t, rfl⟩ := (show ∃ t, _ = Value.str x t from r); exact .text x t
  | _, _, _, @NKv.tup _ a vs ks h1 h2, r => by
    cases (show _ = Value.ref a from r)
    obtain ⟨_, its, r, o, g1, g2, n, g3⟩ := (show ObjOk P w H h a (.tup vs) from ok a _ h1)
    exact .tup g1 g2 g3 (by simpa using NKvs.is ok h2 r)
theorem NKvs.is (ok : HOk P w H h) : ∀ {k : List NestedKey} {v : List V} {u : List Value}, NKvs H k v → Vals v u → NestedAll h k u
  | _, _, _, .nil, r => by cases r; exact .nil
  | _, _, _, .cons h1 h2, r => by
    cases r with
    | cons r1 r2 => exact .cons (NKv.is ok h1 r1) (NKvs.is ok h2 r2)
end
abbrev NXs (F : Hp) : List (NestedKey × V) → List (NestedKey × Addr × Value) → Prop := Paired fun p q => p.1 = q.1 ∧ (NKv F q.1 (.ref q.2.1) ∧ q.1.depth ≤ 8) ∧ RelV p.2 q.2.2
def rawO (a : Addr) (o : Obj) : HO := .ext fun h => h.get? a = some o
structure DNx (P : Program) (w : World) (F : Hp) (a : Addr) (o : Obj) (kvs : List (NestedKey × V)) : Prop where
  ns : (a == sysModules) = false
  ln : kvs.length ≤ sizeLine
  ex : ∃ es ep xs, o.ExactDict ∧ o.data = .dict es ep ∧ es.toList = xs.map (entryOfKey (nestedKind P w)) ∧ (xs.map (·.1)).Nodup ∧ NXs F kvs xs
theorem NXs.mono (e : ∀ a vs, F a = some (.tup vs) → H' a = some (.tup vs)) {kvs : List (NestedKey × V)} {xs : List (NestedKey × Addr × Value)} (h : NXs F kvs xs) : NXs H' kvs xs := Paired.mapP h fun _ _ z => ⟨z.1, ⟨z.2.1.1.mono e, z.2.1.2⟩, z.2.2⟩
theorem DNx.mono {a : Addr} {o : Obj} {kvs : List (NestedKey × V)} (e : ∀ a vs, F a = some (.tup vs) → H' a = some (.tup vs)) (h : DNx P w F a o kvs) : DNx P w H' a o kvs := by
  obtain ⟨h1, h2, es, ep, xs, g1, g2, g3, g4, g5⟩ := h
  exact ⟨h1, h2, es, ep, xs, g1, g2, g3, g4, g5.mono e⟩
theorem rawO_get {a : Addr} {o : Obj} (ok : HOk P w H h) (e : H a = some (rawO a o)) : h.get? a = some o := (ok a _ e).1
theorem NXs.keys (ok : HOk P w H h) : ∀ {kvs : List (NestedKey × V)} {xs : List (NestedKey × Addr × Value)}, NXs H kvs xs → ∀ x ∈ xs, (nestedKind P w).is h x.1 x.2.1
  | _, _, .nil, x, hx => nomatch hx
  | _, _, .cons r t, x, hx => by
    rcases List.mem_cons.mp hx with e | hx
    · subst e; exact ⟨NKv.is ok r.2.1.1 rfl, r.2.1.2⟩
    · exact NXs.keys ok t x hx
theorem DNx.of {a : Addr} {o : Obj} {kvs : List (NestedKey × V)} (ok : HOk P w H h) (e : H a = some (rawO a o)) (d : DNx P w H a o kvs) : ∃ xs, NXs H kvs xs ∧ h.DictOfH (nestedKind P w) a xs := by
  obtain ⟨_, _, es, ep, xs, g1, g2, g3, g4, g5⟩ := d
  exact ⟨xs, g5, o, es, ep, rawO_get ok e, g1, g2, g3, NXs.keys ok g5, g4⟩
theorem NXs.val {kvs : List (NestedKey × V)} {xs : List (NestedKey × Addr × Value)} (r : NXs H kvs xs) (k : NestedKey) : RelO (valV kvs k) ((atKey xs k).map (·.2)) := by
  induction r with
  | nil => exact True.intro
  | @cons p q ps qs h t ih =>
    obtain ⟨h1, _, h2⟩ := h
    by_cases e : p.1 = k
    · have e' : q.1 = k := h1.symm.trans e
      have b : atKey (q :: qs) k = some q.2 := by simp [atKey, List.find?_cons, e']
      rw [valV_pos e, b]; exact h2
    · have e' : ¬ q.1 = k := fun z => e (h1.trans z)
      have b : atKey (q :: qs) k = atKey qs k := by simp [atKey, List.find?_cons, e']
      rw [valV_neg e, b]; exact ih
theorem NXs.repl {kvs : List (NestedKey × V)} {xs : List (NestedKey × Addr × Value)} (r : NXs H kvs xs) (k : NestedKey) {y : V} {u : Value} (ry : RelV y u) :
    NXs H (kvs.map fun kv => if kv.1 = k then (kv.1, y) else kv) (xs.map (putAt k u)) := by
  induction r with
  | nil => exact .nil
  | @cons p q ps qs h t ih =>
    rw [List.map_cons, List.map_cons]
    refine .cons ?_ ih
    obtain ⟨h1, h2, h3⟩ := h
    unfold putAt
    by_cases e : p.1 = k
    · rw [if_pos e, if_pos (h1.symm.trans e)]; exact ⟨h1, h2, ry⟩
    · rw [if_neg e, if_neg (fun z => e (h1.trans z))]; exact ⟨h1, h2, h3⟩
theorem NXs.put {kvs : List (NestedKey × V)} {xs : List (NestedKey × Addr × Value)} (r : NXs H kvs xs) (k : NestedKey) {b : Addr} {y : V} {u : Value} (hb : NKv H k (.ref b)) (hd : k.depth ≤ 8) (ry : RelV y u) :
    NXs H (putK kvs k y) (storedH xs k b u) := by
  have e : (kvs.any fun kv => decide (kv.1 = k)) = (atKey xs k).isSome := by
    rw [valV_any, (r.val k).isSome_eq, Option.isSome_map]
  unfold putK storedH
  rw [e]
  by_cases q : (atKey xs k).isSome = true
  · rw [if_pos q, if_pos q]; exact r.repl k ry
  · rw [if_neg q, if_neg q]; exact Paired.snoc r ⟨rfl, ⟨hb, hd⟩, ry⟩
end
end TL
namespace TL
open PySem PySem.Spec PyProof.Rows L2
def dnT (P : Program) (w : World) (a : Addr) (kvs : List (NestedKey × PyData)) : OwT where
  id := a
  fp := [a]
  ok := fun K F H v => v = .ref a ∧ ∃ o kvs', H a = some (rawO a o) ∧ DNx P w F a o kvs' ∧ KVp K F kvs' kvs
  isr := fun h => h.1
  mono := fun e k ⟨h1, o, kvs', h2, h3, h4⟩ => ⟨h1, o, kvs', k _ (by simp) _ h2, h3.mono fun a vs z => e a _ z, kvp_mono e h4⟩
  there := fun ⟨h1, o, kvs', h2, h3, h4⟩ b hb => by
    have e : b = a := by simpa using hb
    subst e
    exact ⟨_, h2, rfl⟩
  rows := []
  held := fun _ r hr => by cases hr
def IsDN (P : Program) (w : World) (kvs : List (NestedKey × PyData)) (s : Sl) : Prop := ∃ a, s = .ow (dnT P w a kvs)
section
variable {X : Cx} {g : G} {env env' : List Sl} {Ψ : Exc → Prop} {P : Po} {pos p lp tpos apos : Pos} {a b c e f : Expr} {es : List Expr} {K : Frag} {F F' H H' : Hp} {σ σ' : SS} {x y : PyData} {k0 : Nat} {s : Sl} {kvs : List (NestedKey × PyData)} {key v dflt : PyData}
theorem IsDN.ne {P : Program} {w : World} (h : IsDN P w kvs s) : s ≠ .un := by
  obtain ⟨a, rfl⟩ := h
  intro z; cases z
end
end TL
namespace TL
open PySem PySem.Spec PyProof.Rows L2
def ItzS (K : Frag) (a : Addr) (z : Str) : It :=
  ⟨fun i H => ∃ (xs : List V) (x : V) (c : Nat), SqL K H a xs ∧ xs[i]? = some x ∧ z.cps[i]? = some c,
    fun i H v H' => ∃ T x c, v = .ref T ∧ H T = none ∧ H' = upd H T (.tup [x, .str ⟨#[c]⟩]) ∧ (∀ xs, SqL K H a xs → xs[i]? = some x) ∧ z.cps[i]? = some c,
    fun i H => ∃ xs : List V, SqL K H a xs ∧ i ≤ xs.length ∧ i ≤ z.cps.size ∧ (xs.length ≤ i ∨ z.cps.size ≤ i)⟩
theorem ne_n {x y : Nat} (h : x ≠ y) : (show Addr from x) ≠ y := h
theorem sep2 {n a : Nat} (h : a < n) : ZipSep2 (n + 4) (n + 2) (n + 3) n (n + 1) [n, a] [n + 1] :=
  have m2 : ∀ x : Nat, x ≠ n → x ≠ a → x ∉ [n, a] := fun x h1 h2 z => by
    rcases List.mem_cons.mp z with z | z
    · exact h1 z
    · exact h2 (List.mem_singleton.mp z)
  have m1 : ∀ x : Nat, x ≠ n + 1 → x ∉ [n + 1] := fun x h1 z => h1 (List.mem_singleton.mp z)
  ⟨ne_n (x := n + 2) (y := n + 4) (by omega), ne_n (x := n + 3) (y := n + 4) (by omega), ne_n (x := n + 2) (y := n + 3) (by omega), ne_n (x := n + 2) (y := n) (by omega), List.mem_cons_self .., m2 (n + 4) (by omega) (by omega), m2 (n + 3) (by omega) (by omega),
    ne_n (x := n + 2) (y := n + 1) (by omega), List.mem_cons_self .., m1 (n + 4) (by omega), m1 (n + 3) (by omega), m1 n (by omega), m2 (n + 1) (by omega) (by omega)⟩
theorem turn_zipS {P : Program} {w : World} {K : Frag} {elts : List Expr} {kk : Nat} {tpos : Pos} {a z TI TO i1 i2 : Addr} {x : Str} {t : Tok} (D : ZipSep2 z TI TO i1 i2 [i1, a] [i2]) :
    Turn P w K (.Tuple elts kk tpos) (ItzS K a x) [z, TI, TO, i1, i2] z (fun i h => IsZip h z TI TO .none ∧ IsTupOf2 h TI (.ref i1) (.ref i2) ∧ (∃ x y, IsTupOf2 h TO x y) ∧ h.IsListIter i1 a i ∧ h.IsStrIter i2 (strIterType x) x t i) where
  mem := by simp
  obj := fun i h st c hc => by
    obtain ⟨hz, hTI, ⟨x, y, hTO⟩, ⟨o1, e1, _, d1⟩, ⟨o2, e2, _, d2⟩⟩ := st
    have e' : c = z ∨ c = TI ∨ c = TO ∨ c = i1 ∨ c = i2 := by simpa using hc
    rcases e' with q | q | q | q | q
    · rw [q]; exact ⟨_, hz, fun v q => nomatch q⟩
    · rw [q]; exact ⟨_, hTI, fun v q => nomatch q⟩
    · rw [q]; exact ⟨_, hTO, fun v q => nomatch q⟩
    · rw [q]; exact ⟨o1, e1, fun v q => by rw [d1] at q; cases q⟩
    · rw [q]; exact ⟨o2, e2, fun v q => by rw [d2] at q; cases q⟩
  keep := fun i h h' st k => by
    obtain ⟨hz, hTI, ⟨x, y, hTO⟩, h1, ⟨o2, e2, c2, d2⟩⟩ := st
    exact ⟨k z (by simp) _ hz, k TI (by simp) _ hTI, ⟨x, y, k TO (by simp) _ hTO⟩, h1.at fun o q => k i1 (by simp) o q, o2, k i2 (by simp) _ e2, c2, d2⟩
  item := by
    intro X hP hw hK hc i pins s σ H E I hf st hg
    subst hP hw hK
    obtain ⟨hz, hTI, ⟨x0, y0, hTO⟩, h1, h2⟩ := st
    obtain ⟨xs, y, c0, hqx, hx, hcx⟩ := hg
    obtain ⟨its, rv, p, _⟩ := I.list hqx
    obtain ⟨u, hu, ru⟩ := rv.get hx
    have hzl : z < s.heap.objs.size := Heap.lt_size hz
    have hne : a ≠ i1 := fun e => by
      obtain ⟨o1, e1, cl1, _⟩ := h1
      obtain ⟨o2, _, e2, cl2, _⟩ := p
      rw [e, e1] at e2
      cases e2
      rw [cl1] at cl2
      exact absurd cl2 (by decide)
    have hlt1 : i < its.toArray.size := by have := (List.getElem?_eq_some_iff.mp hu).1; simpa using this
    have hlt2 : i < x.cps.size := (Array.getElem?_eq_some_iff.mp hcx).1
    have hh : X.A.in1.handled = none := I.ok.hd hc
    refine wpAny_pyNext_zipD2_item D (Draws.list hh i1 a hne its.toArray) (Draws.text hh i2 x t) hz hTI hTO ⟨h1, p.isList⟩ h2 hlt1 hlt2 fun x1 x2 h' tk px1 px2 z' TO' st1' st2' hT hsz hk => ?_
    obtain ⟨c, u2, pc, rfl⟩ := px2
    have e1 : x1 = u := by
      have hx1 : its[i]? = some x1 := by simpa using px1
      rw [hu] at hx1
      exact (Option.some.inj hx1).symm
    subst e1
    rw [hcx] at pc
    cases pc
    refine ⟨_, rfl, wpAny_letOwnedTupleGo_zip (s := { s with heap := h', toks := tk }) z' fun h'' z'' sb => ?_⟩
    have hT2 : h''.get? s.heap.objs.size = some { cls := .type "tuple", data := .seq #[x1, .str ⟨#[c0]⟩ u2] } := (sb.2 _ (Nat.ne_of_gt hzl)).trans hT
    have new : ObjOk X.prog X.w (upd H s.heap.objs.size (.tup [y, .str ⟨#[c0]⟩])) h'' s.heap.objs.size (.tup [y, .str ⟨#[c0]⟩]) :=
      ⟨by show 2 ≤ sizeLine; decide, [x1, .str ⟨#[c0]⟩ u2], .cons ru (.cons ⟨u2, rfl⟩ .nil), ⟨_, hT2, rfl, _, rfl⟩⟩
    have I1 : Inv X pins σ (upd H s.heap.objs.size (.tup [y, .str ⟨#[c0]⟩])) { s with heap := h'', toks := tk } :=
      I.turnedNew (t' := tk) (ch := [z, TI, TO, i1, i2]) (fun c o hb q => (sb.2 c (fun q' => hb (by simp [q']))).trans (hk c o (fun q' => hb (by simp [q'])) (fun q' => hb (by simp [q'])) (fun q' => hb (by simp [q'])) (fun q' => hb (by simp [q'])) q)) hf (Nat.le_refl _) new
    have lts : ∀ c, c ∈ [z, TI, TO, i1, i2] → c < s.heap.objs.size := fun c hcm => by
      have e' : c = z ∨ c = TI ∨ c = TO ∨ c = i1 ∨ c = i2 := by simpa using hcm
      rcases e' with q | q | q | q | q
      · rw [q]; exact hzl
      · rw [q]; exact Heap.lt_size hTI
      · rw [q]; exact Heap.lt_size hTO
      · rw [q]; obtain ⟨_, e1, _⟩ := h1; exact Heap.lt_size e1
      · rw [q]; obtain ⟨_, e2, _⟩ := h2; exact Heap.lt_size e2
    refine ⟨.ref s.heap.objs.size, _, I1, rfl, ⟨_, y, c0, rfl, I.hok.fresh (Nat.le_refl _), rfl, fun l hl => by rw [I.list_inj hl hqx]; exact hx, hcx⟩, ⟨z'', ?_, ⟨x1, .str ⟨#[c0]⟩ u2, ?_⟩, ?_, ?_⟩, fun c hcm => ?_⟩
    · exact (sb.2 _ D.TIz).trans (hk _ _ D.TIz D.TITO D.TIi1 D.TIi2 hTI)
    · exact (sb.2 _ D.TOz).trans TO'
    · exact st1'.1.at fun o q => (sb.2 _ (Ne.symm D.zi1)).trans q
    · obtain ⟨o2, e2, c2, d2⟩ := st2'
      exact ⟨o2, (sb.2 _ (Ne.symm D.zi2)).trans e2, c2, d2⟩
    · rw [upd_ne (Nat.ne_of_lt (lts c hcm))]
      exact (hf c hcm).1
  done := by
    intro X hP hw hK hc i pins s σ H E I hf st hg
    subst hP hw hK
    obtain ⟨hz, hTI, ⟨x0, y0, hTO⟩, h1, h2⟩ := st
    obtain ⟨xs, hqx, l1, l2, hend⟩ := hg
    obtain ⟨its, rv, p, _⟩ := I.list hqx
    have hl := rv.length
    have hne : a ≠ i1 := fun e => by
      obtain ⟨o1, e1, cl1, _⟩ := h1
      obtain ⟨o2, _, e2, cl2, _⟩ := p
      rw [e, e1] at e2
      cases e2
      rw [cl1] at cl2
      exact absurd cl2 (by decide)
    have hh : X.A.in1.handled = none := I.ok.hd hc
    have hend' : i = its.toArray.size ∨ i = x.cps.size := by
      rcases hend with q | q
      · exact .inl (by simp; omega)
      · exact .inr (by omega)
    refine wpAny_pyNext_zipD2_end D (Draws.list hh i1 a hne its.toArray) (Draws.text hh i2 x t) hz hTI hTO ⟨h1, p.isList⟩ h2 (by simp; omega) l2 hend' fun h' tk hk => ⟨rfl, I.turnedL (t' := tk) (ch := [z, TI, TO, i1, i2]) (fun c o hb q =>
      hk c o (fun q' => hb (by simp [q'])) (fun q' => hb (by simp [q'])) (fun q' => hb (by simp [q'])) (fun q' => hb (by simp [q'])) q) hf⟩
  self := fun A i s Q E st h => wpAny_pyIter_zip st.1 h
def iZipS (K : Frag) (ta : TA) : TI := fun σ H R => ta σ H fun vs H1 => ∃ a x xs, vs = [.ref a, .str x] ∧ SqL K H1 a xs ∧ (xs.length ≤ sizeLine → R (ItzS K a x) H1)
theorem pi_zipS {X : Cx} {e e2 : Expr} {ta : TA} {p pos tpos : Pos} {elts : List Expr} {kk : Nat} (hg : Gl X "zip") (hm : X.mg "zip" = none) (ha : PA X [e, e2] ta)
    (hs : starEach [e, e2] X.env = (false, eval e X.env) :: starEach [e2] X.env := by rfl) (hpl : (backTo pos (starEach [e2] X.env)).any (·.1) = false := by rfl) :
    PI X (.Tuple elts kk tpos) (.Call (.Name "zip" p) [e, e2] [] pos) (iZipS X.K ta) := by
  refine ⟨fun pins s σ H R I h => ?_⟩
  refine Call_ (ld_blt I hg hm PyProof.Rows.boot_zip (PyProof.Rows.callWith_type1 (thn (ha.run pos pins s σ H _ I h) fun us s1 ⟨vs, H1, I1, r1, q1⟩ => ?_) hs hpl))
  obtain ⟨a, x, xs, ex, hqx, q⟩ := q1
  subst ex
  cases r1 with
  | cons r rr =>
    cases rr with
    | cons r' rr =>
      cases rr
      cases r
      obtain ⟨t, rfl⟩ := r'
      obtain ⟨its, rv, p1, hsz0⟩ := I1.list hqx
      have la : a < s1.heap.objs.size := p1.lt
      refine zip_begins2 (begins_list a its.toArray) (begins_text x t) p1.isList trivial fun h' hz hTI hTO h1 h2 hsz hk => wpAny_pyIter_zip hz ?_
      have I2 : Inv X pins σ H1 { s1 with heap := h' } := I1.kept (t' := s1.toks) hk
      refine ⟨s1.heap.objs.size + 4, [s1.heap.objs.size + 4, s1.heap.objs.size + 2, s1.heap.objs.size + 3, s1.heap.objs.size, s1.heap.objs.size + 1], _, _, H1, rfl, I2, turn_zipS (sep2 la), ⟨hz, hTI, ⟨_, _, hTO⟩, ⟨_, h1, rfl, rfl⟩, ⟨_, h2, rfl, rfl⟩⟩, fun c hcm => ?_, q hsz0⟩
      have e' : c = s1.heap.objs.size + 4 ∨ c = s1.heap.objs.size + 2 ∨ c = s1.heap.objs.size + 3 ∨ c = s1.heap.objs.size ∨ c = s1.heap.objs.size + 1 := by simpa using hcm
      have hle : s1.heap.objs.size ≤ c := by
        rcases e' with z | z | z | z | z
        · rw [z]; exact Nat.le_add_right _ _
        · rw [z]; exact Nat.le_add_right _ _
        · rw [z]; exact Nat.le_add_right _ _
        · rw [z]; exact Nat.le_refl _
        · rw [z]; exact Nat.le_add_right _ _
      exact I1.fpOk hle (I1.hok.fresh hle)
end TL
namespace TL
open PySem PySem.Spec PyProof.Rows L2
def sgnD (c : Nat) : PyData := .str ⟨#[c]⟩
def zipLS (xs : List PyData) (z : Str) : List PyData := List.zipWith (fun x c => .tuple [x, sgnD c]) xs z.cps.toList
def zipM (d e : PyData) (K : KL) : Prop := match d, e with
  | .list xs, .str z => K (zipLS xs z)
  | _, _ => False
theorem zip_m {d e : PyData} {Q Q' : KL} (h : zipM d e Q) (k : ∀ r, Q r → Q' r) : zipM d e Q' := by
  unfold zipM at *
  split at h
  · exact k _ h
  · exact h.elim
section
variable {X : Cx} {g : G} {env : List Sl} {Ψ : Exc → Prop} {pos p p1 : Pos} {a b : Expr} {K : Frag} {F F' H H' : Hp}
theorem walk_zipS {q : Addr} {xs : List V} {z : Str} : Walk (ItzS K q z) (min xs.length z.cps.size) (fun H => SqL K H q xs) (YPair (fun i => xs[i]?) fun i => (z.cps[i]?).map fun c => .str ⟨#[c]⟩) := by
  refine ⟨fun i _ hi h => ?_, fun _ h => ⟨xs, h, by omega, by omega, by omega⟩, fun i H v H' _ h y => ?_⟩
  · have h1 : i < xs.length := by omega
    have h2 : i < z.cps.size := by omega
    exact ⟨xs, xs[i], z.cps[i], h, List.getElem?_eq_getElem h1, Array.getElem?_eq_getElem h2⟩
  · obtain ⟨T, x, c, y1, y2, y3, y4, y5⟩ := y
    exact ⟨T, x, .str ⟨#[c]⟩, y1, y2, y3, y4 xs h, by show (z.cps[i]?).map _ = _; rw [y5]; rfl⟩
theorem itok_zip {xs : List PyData} {vs : List V} {J : It} {G : Hp → Prop} {z : Str} (w : Walk J (min vs.length z.cps.size) G (YPair (fun i => vs[i]?) fun i => (z.cps[i]?).map fun c => .str ⟨#[c]⟩)) (hG : ∀ H, Ex F H → G H) (h : DqAll K F vs xs) : ItOk K J (zipLS xs z) F := by
  refine ⟨G, _, by unfold zipLS; rw [List.length_zipWith, ← dpa_len h, Array.length_toList]; exact w, hG, fun i d hd H v H' hy g F1 σ env st e1 => ?_⟩
  obtain ⟨T, x, y, y1, y2, y3, y4, y5⟩ := hy
  unfold zipLS at hd
  rw [List.getElem?_zipWith] at hd
  have y4 : vs[i]? = some x := y4
  obtain ⟨d', hd', dx⟩ := dpa_of h y4
  obtain ⟨c, hc, ey⟩ := Option.map_eq_some_iff.mp y5
  have hc2 : z.cps.toList[i]? = some c := by rw [Array.getElem?_toList]; exact hc
  rw [hd', hc2] at hd
  have hd : some (PyData.tuple [d', sgnD c]) = some d := hd
  cases hd
  subst y1 y3 ey
  have hF := st.ex.none y2
  refine ⟨upd F1 T (.tup [x, .str ⟨#[c]⟩]), st.allocF y2, Ex.new hF, .tup upd_same (.cons (dp_mono (e1.trans (Ex.new hF)) _ _ dx) (.cons (.str _) .nil)), Ex.new y2, fun a h => ?_⟩
  by_cases e : a = T
  · exact .inr (by subst e; exact y2)
  · exact .inl (by rw [upd_ne e] at h; exact h)
theorem wi_zip {Φ : List PyData → Prop} {elts : List Expr} {kk : Nat} {tpos : Pos} (hm : X.mg "zip" = none) (h : WE X g a env (fun d z => z = true ∧ WE X g b env (fun e z => z = true ∧ zipM d e Φ) Ψ) Ψ) (hg : Gl X "zip" := by rfl)
    (hs : starEach [a, b] X.env = (false, eval a X.env) :: starEach [b] X.env := by rfl) (hs2 : starEach [b] X.env = (false, eval b X.env) :: starEach [] X.env := by rfl) (hpl : (backTo pos (starEach [b] X.env)).any (·.1) = false := by rfl) :
    WI X g (.Tuple elts kk tpos) (.Call (.Name "zip" p1) [a, b] [] pos) env Φ Ψ := fun W tk σ F H st hx R hR => by
  refine semI_of (pi_zipS hg hm (pa_cons (peS a) (pa_cons (peS b) pa_nil hs2) hs) hs hpl) ?_
  refine h W tk σ F H st hx _ fun d z v F1 H1 ⟨hz, hi⟩ s1 e1 rd => ?_
  subst hz
  refine hi W tk σ F1 H1 s1 hx _ fun e z u F2 H2 ⟨hz, hp⟩ s2 e2 rd2 => ?_
  subst hz
  cases d with
  | list ds =>
    cases e with
    | str t =>
      have hp : Φ (zipLS ds t) := hp
      obtain ⟨q, vs, rfl, hsq, hda⟩ := dp_lst (dp_mono e2 _ _ rd)
      have hu := dp_str rd2
      subst hu
      refine ⟨q, t, vs, rfl, ex_l s2.ex hsq, fun hl => hR _ _ F2 H2 hp ?_ s2 (e1.trans e2) (itok_zip walk_zipS (fun H eH => ex_l eH hsq) hda)⟩
      unfold zipLS
      rw [List.length_zipWith, ← dpa_len hda]
      exact Nat.le_trans (Nat.min_le_left ..) hl
    | _ => exact (show False from hp).elim
  | _ => exact (show False from hp).elim
end
end TL
namespace TL
open PySem PySem.Spec PyProof.Rows L2 He
abbrev AlM : Type := AlL × List (Option (List (Option (Str × Int))))
def obsM (ex : List XF) (fa : List Fa) (fn : List DefD) (tf : List LamD) (ts : List Tab) (g : Addr → Option Obj) (K : Frag) : AlM := (obsL ex fa fn tf g K, ts.map fun t => dicW (markK tf K) (t.1 (markK tf K)))
def valM (fn : List DefD) (ts : List Tab) (w : World) : AlM := ((valD fn, true), ts.map fun t => some (keysIn w.params t.2))
def SaysTb (tf : List LamD) (ts : List Tab) (w : World) (K0 : Frag) : Prop := ∀ (i : Nat) (t : Tab), ts[i]? = some t → dicW (markK tf K0) (t.1 (markK tf K0)) = some (keysIn w.params t.2)
theorem saysTb_of {ex : List XF} {fa : List Fa} {fn : List DefD} {tf : List LamD} {ts : List Tab} {g : Addr → Option Obj} {K : Frag} {w : World} (e : obsM ex fa fn tf ts g K = valM fn ts w) : SaysTb tf ts w K := fun i t h => by
  have e1 : (ts.map fun t => dicW (markK tf K) (t.1 (markK tf K))) = ts.map fun t => some (keysIn w.params t.2) := congrArg (fun z : AlM => z.2) e
  have e2 : (ts.map fun t => dicW (markK tf K) (t.1 (markK tf K)))[i]? = (ts.map fun t => some (keysIn w.params t.2))[i]? := by rw [e1]
  rw [List.getElem?_map, List.getElem?_map, h] at e2
  exact Option.some.inj e2
/-- x is a written dict of the module with text keys, its values numbers or texts -/
structure GDct (K : Frag) (w : World) (mg : Str → Option Value) (x : Str) (ds : List (Str × PyData)) : Prop where
  ex : ∃ d es n, mg x = some (.ref d) ∧ KDict K w d es n ∧ ∀ z, match ds.lookup z with
    | some v => ∃ u0 v0, fl v = some v0 ∧ PySem.W.nsIn K d z = some (some u0) ∧ RelV v0 u0
    | none => PySem.W.nsIn K d z = some none
theorem keysIn_look {P : Params} : ∀ {l : List DictEntry} {ks : List Str} {z : Str}, l.map He.keyOf = keysIn P ks → z ∉ ks → l.find? (·.key.isStr z) = none ∧ l.any (·.refKey) = false
  | [], _, _, _, _ => ⟨rfl, rfl⟩
  | e :: r, [], _, h, _ => by cases h
  | e :: r, k :: ks, z, h, hn => by
    have h1 : He.keyOf e :: r.map He.keyOf = some (k, PyData.keyHash P k) :: keysIn P ks := h
    injection h1 with h2 h3
    obtain ⟨i1, i2⟩ := keysIn_look h3 fun m => hn (List.mem_cons_of_mem _ m)
    unfold He.keyOf at h2
    split at h2
    · rename_i x t q
      have h4 := Option.some.inj h2
      obtain ⟨h5, h6⟩ := Prod.mk.inj h4
      subst h5
      have ne : (e.key.isStr z) = false := by
        rw [q]
        show (x == z) = false
        exact beq_eq_false_iff_ne.mpr fun y => hn (y ▸ List.mem_cons_self ..)
      refine ⟨by rw [List.find?_cons, ne]; exact i1, ?_⟩
      rw [List.any_cons, i2, Bool.or_false]
      unfold DictEntry.refKey
      rw [q]
    · cases h2
theorem nsIn_none {K : Frag} {P : Params} {a : Addr} {ks : List Str} {z : Str} (h : dicW K a = some (keysIn P ks)) (hn : z ∉ ks) : PySem.W.nsIn K a z = some none := by
  unfold dicW at h
  cases q : K.lookup a with
  | none => rw [q] at h; cases h
  | some o =>
    obtain ⟨oc, od, dt, osl⟩ := o
    rw [q] at h
    cases oc with
    | type c =>
      cases od with
      | none =>
        cases dt with
        | dict es n =>
          have h1 : (match decide (c = "dict") && (osl.isEmpty && !(a == sysModules)) with
            | true => some (es.toList.map He.keyOf)
            | false => none) = some (keysIn P ks) := h
          cases y : decide (c = "dict") && (osl.isEmpty && !(a == sysModules)) with
          | false => rw [y] at h1; cases h1
          | true =>
            rw [y] at h1
            obtain ⟨i1, i2⟩ := keysIn_look (Option.some.inj h1) hn
            unfold PySem.W.nsIn
            rw [q]
            dsimp only
            rw [i1, i2]
            rfl
        | _ => cases h
      | some b => cases dt <;> cases h
    | _ => cases od <;> cases dt <;> cases h
theorem gdct_ok {K : Frag} {w : World} {h : Heap} {mg : Str → Option Value} (X : K.In h) (G : h.Ns mainGlobals mg) {x : Str} {kvs : List (Str × Dv)} {ds : List (Str × PyData)} {ks : List Str} (c : (Fa.glo x).ok K = true) (t : dicW K (ga K x) = some (keysIn w.params ks)) (v : valsB K (ga K x) kvs = true)
    (hk : ks = ds.map (·.1)) (hd : ds.map (fun p => (p.1, fl p.2)) = kvs.map (fun q => (q.1, some (q.2.v K)))) : GDct K w mg x ds := by
  obtain ⟨es, n, kd⟩ := dicW_ok t
  refine ⟨ga K x, es, n, glo_ok X G c, kd, fun z => ?_⟩
  have go : ∀ (ds : List (Str × PyData)) (kvs : List (Str × Dv)), ds.map (fun p => (p.1, fl p.2)) = kvs.map (fun q => (q.1, some (q.2.v K))) → ∀ r, ds.lookup z = some r → ∃ q ∈ kvs, q.1 = z ∧ fl r = some (q.2.v K) := fun ds => by
    induction ds with
    | nil => intro _ _ r h; cases h
    | cons p ds ih =>
      intro kvs e r h
      cases kvs with
      | nil => cases e
      | cons q kvs =>
        rw [List.map_cons, List.map_cons] at e
        injection e with e1 e2
        injection e1 with e3 e4
        rw [List.lookup_cons] at h
        cases y : z == p.1 with
        | true =>
          rw [y] at h
          have h := Option.some.inj h
          subst h
          exact ⟨q, List.mem_cons_self .., by rw [← e3]; exact (beq_iff_eq.mp y).symm, e4⟩
        | false =>
          rw [y] at h
          obtain ⟨q', m, a, b⟩ := ih kvs e2 r h
          exact ⟨q', List.mem_cons_of_mem _ m, a, b⟩
  cases e : ds.lookup z with
  | some r =>
    dsimp only
    obtain ⟨q, hq, rfl, e2⟩ := go ds kvs hd r e
    obtain ⟨u, h1, h2⟩ := valsB_ok v hq
    exact ⟨u, _, e2, h1, h2⟩
  | none =>
    dsimp only
    refine nsIn_none t fun m => ?_
    rw [hk] at m
    obtain ⟨p, hp, rfl⟩ := List.mem_map.mp m
    have := List.lookup_eq_none_iff.mp e p hp
    simp at this
def dctM (ds : List (Str × PyData)) (key : PyData) (K : KD) : Prop := match key with
  | .str z => match ds.lookup z with
    | some v => K v
    | none => False
  | _ => False
def inDctM (ds : List (Str × PyData)) (key : PyData) (K : KB) : Prop := match key with
  | .str z => K (ds.lookup z).isSome
  | _ => False
theorem dct_m {ds : List (Str × PyData)} {key : PyData} {Q Q' : KD} (h : dctM ds key Q) (k : ∀ r, Q r → Q' r) : dctM ds key Q' := by
  unfold dctM at *
  split at h
  · split at h
    · exact k _ h
    · exact h
  · exact h
theorem inDct_m {ds : List (Str × PyData)} {key : PyData} {Q Q' : KB} (h : inDctM ds key Q) (k : ∀ r, Q r → Q' r) : inDctM ds key Q' := by
  unfold inDctM at *
  split at h
  · exact k _ h
  · exact h
theorem flv_dq {K : Frag} {F : Hp} {d : PyData} {v : V} (h : fl d = some v) : Dq K F v d := by
  cases d with
  | int i => cases h; exact .int i
  | str s => cases h; exact .str s
  | none => cases h; exact .non
  | _ => cases h
section
variable {X : Cx} {g : G} {env : List Sl} {Ψ : Exc → Prop} {pos p : Pos} {a b c e : Expr} {es : List Expr}
theorem we_ixGD {xn : Str} {q : Pos} {ds : List (Str × PyData)} {Φ : PyData → Bool → Prop} (hG : GDct X.K X.w X.mg xn ds) (h : WE X g a env (fun d z => dctM ds d fun r => Φ r true) Ψ) (hg : Gl X xn := by rfl) (hd : (xn == ("__debug__" : Str)) = false := by decide) (hs : PlainIx a := by exact fun _ _ => rfl) :
    WE X g (.Subscript (.Name xn q) a pos) env Φ Ψ := fun W tk σ F H st hx Q hQ => by
  obtain ⟨d, es, n, hm, kd, hv⟩ := hG.ex
  refine semE_of (pe_ix ix_kdict (pe_glob hg hm (v := .ref d) rfl hd) (peS a) hs) ?_
  refine h W tk σ F H st hx _ fun key z v F1 H1 hp s1 e1 r1 => ?_
  unfold dctM at hp
  cases key with
  | str x =>
    have hz := rd_str r1
    subst hz
    dsimp only at hp
    have hv := hv x
    cases q : ds.lookup x with
    | none => rw [q] at hp; exact hp.elim
    | some r =>
      rw [q] at hp hv
      obtain ⟨u0, v0, f1, f2, f3⟩ := hv
      exact ⟨d, x, v0, rfl, rfl, ⟨es, n, u0, kd.at_, kd.lit, f2, f3⟩, hQ r true v0 F1 H1 hp s1 e1 (flv_dq f1)⟩
  | _ => exact hp.elim
theorem inGD_run {neg : Bool} {op : CmpOp} {xn : Str} {q : Pos} {ds : List (Str × PyData)} {Φ : KB} (hop : ∀ {d es n}, KDict X.K X.w d es n → OpR X (compareOp op) (fun x y H Q => ∃ (z : Str) (r : Option Value), x = .str z ∧ y = .ref d ∧ PySem.W.nsIn X.K d z = some r ∧ Q (.bl (if neg then !r.isSome else r.isSome)) H)) (hm' : behindInMarks op (.Name xn q) = false)
    (hG : GDct X.K X.w X.mg xn ds) (h : WE X g a env (fun d z => inDctM ds d fun b => Φ (if neg then !b else b)) Ψ) (hg : Gl X xn) (hd : (xn == ("__debug__" : Str)) = false) : WT X g (.Compare a [op] [.Name xn q] pos) env Φ Ψ := fun W tk σ F H st hx Q hQ => by
  obtain ⟨d, es, n, hm, kd, hv⟩ := hG.ex
  refine semT_of (pt_cmpR (hop kd) (peS a) (pe_glob hg hm (v := .ref d) rfl hd) hm') ?_
  refine h W tk σ F H st hx _ fun key z v F1 H1 hp s1 e1 r1 => ?_
  unfold inDctM at hp
  cases key with
  | str x =>
    have hz := rd_str r1
    subst hz
    dsimp only at hp
    have hv := hv x
    cases q : ds.lookup x with
    | none =>
      rw [q] at hp hv
      exact ⟨x, none, rfl, rfl, hv, _, rfl, hQ _ F1 H1 hp s1 e1⟩
    | some r =>
      rw [q] at hp hv
      obtain ⟨u0, v0, f1, f2, f3⟩ := hv
      exact ⟨x, some u0, rfl, rfl, f2, _, rfl, hQ _ F1 H1 hp s1 e1⟩
  | _ => exact hp.elim
theorem wt_notInGD {xn : Str} {q : Pos} {ds : List (Str × PyData)} {Φ : KB} (hG : GDct X.K X.w X.mg xn ds) (h : WE X g a env (fun d z => inDctM ds d fun b => Φ (!b)) Ψ) (hg : Gl X xn := by rfl) (hd : (xn == ("__debug__" : Str)) = false := by decide) (hm' : behindInMarks .NotIn (.Name xn q) = false := by first | exact nomark _ | rfl) : WT X g (.Compare a [.NotIn] [.Name xn q] pos) env Φ Ψ :=
  inGD_run (neg := true) (fun D => op_notIn_kd D) hm' hG h hg hd
end
end TL
namespace TL
open PySem PySem.Spec PyProof.Rows L2
def fmtM (d : PyData) (K : Str → Prop) : Prop := match d with
  | .str y => y.length ≤ sizeLine ∧ K y
  | .int i => i.natAbs.log2 < 1920 ∧ K (toString i)
  | _ => False
def intSM (d : PyData) (K : KD) : Prop := match d with
  | .str a => match PySem.intText? a with
    | some n => a.length ≤ 640 ∧ K (.int n)
    | none => False
  | _ => False
theorem intS_m {d : PyData} {Q Q' : KD} (h : intSM d Q) (k : ∀ r, Q r → Q' r) : intSM d Q' := by
  unfold intSM at *
  split at h
  · split at h
    · exact ⟨h.1, k _ h.2⟩
    · exact h
  · exact h
section
variable {X : Cx} {g : G} {env : List Sl} {Ψ : Exc → Prop} {pos p : Pos} {a b c e : Expr} {es : List Expr} {acc : Str}
theorem we_intS {Φ : PyData → Bool → Prop} (hm : X.mg "int" = none) (h : WE X g a env (fun d z => intSM d fun r => Φ r true) Ψ) (hg : Gl X "int" := by rfl) (he : starEach [a] X.env = (false, eval a X.env) :: starEach [] X.env := by rfl) : WE X g (.Call (.Name "int" p) [a] [] pos) env Φ Ψ :=
  we_t1 call_int_str hm (by decide +kernel) (fun d1 z1 q σ F H v1 st r1 Q hQ => by
    unfold intSM at q
    cases d1 with
    | str x =>
      dsimp only at q
      cases hn : PySem.intText? x with
      | none => rw [hn] at q; exact q.elim
      | some n =>
        rw [hn] at q
        have hv := rd_str r1
        subst hv
        exact ⟨x, n, rfl, hn, q.1, hQ _ true _ F H q.2 st (Ex.refl F) (.int _)⟩
    | _ => exact q.elim) h hg (he := he)
theorem we_inG {xn : Str} {q : Pos} {ds : List PyData} {Φ : PyData → Bool → Prop} (hG : GTup X.K X.mg xn ds) (h : WE X g a env (fun d z => inTupM d ds fun b => Φ (.bool b) true) Ψ) (hg : Gl X xn := by rfl) (hd : (xn == ("__debug__" : Str)) = false := by decide) (hm' : behindInMarks .In (.Name xn q) = false := by first | exact nomark _ | rfl) : WE X g (.Compare a [.In] [.Name xn q] pos) env Φ Ψ := fun W tk σ F H st hx Q hQ => by
  obtain ⟨ad, vs, hm, hf, hs⟩ := hG.ex
  refine semE_of (pe_cmpR op_in_seq (peS a) (pe_glob hg hm (v := .ref ad) rfl hd) hm') ?_
  refine h W tk σ F H st hx _ fun d z v F1 H1 hp s1 e1 r1 => ?_
  unfold inTupM at hp
  rw [hf] at hp
  cases e2 : fl d with
  | none => rw [e2] at hp; exact hp.elim
  | some v' =>
    rw [e2] at hp
    have hv := fl_dp (rd_now s1.toSk r1) e2
    subst hv
    exact ⟨ad, vs, rfl, .inr (hs H1), fl_flat e2, flAll_flat hf, hQ (.bool _) true _ F1 H1 hp s1 e1 (.bl _)⟩
end
end TL
namespace TL
open PySem PySem.Spec PyProof.Rows L2 He
def oexB (K : Frag) (C : Addr) : Bool := (match K.lookup C with
  | some ⟨.type "type", _, .cls cd, sl⟩ => (match cd.mro, sl.toList with
    | .ref C' :: bm, [_, _, _, _, some (.builtin n), _] => C' == C && n == "ValueError.__new__" && !cd.hasDel && cd.hasDict && PySem.HandSPX.refsVE bm
    | _, _ => false)
  | _ => false) && (eqO (PySem.W.findIn K (.ref C) "__setattr__") (some (some (.builtin "object.__setattr__"))) && (decide (PySem.W.subIn K (.ref C) (.type "BaseException") = some true) && (decide (PySem.W.typeIn K (.ref C) = some (.type "type")) && PySem.W.keepIn K (.ref C))))
theorem oexB_ok {K : Frag} {C : Addr} (h : oexB K C = true) : OexC K C := by
  unfold oexB at h
  obtain ⟨q, h⟩ := ba h
  obtain ⟨h2, h⟩ := ba h
  obtain ⟨h3, h⟩ := ba h
  obtain ⟨h4, h5⟩ := ba h
  refine ⟨?_, eqO_ok h2, of_decide_eq_true h3, of_decide_eq_true h4, h5⟩
  split at q
  · rename_i dd cd sl ho
    split at q
    · rename_i C' bm k0 k1 k2 k3 n k5 hm hs
      simp only [Bool.and_eq_true, beq_iff_eq, Bool.not_eq_true'] at q
      obtain ⟨⟨⟨⟨rfl, rfl⟩, hdel⟩, hdct⟩, ht⟩ := q
      obtain ⟨nm, bs, mro, ns, qn, hd, sn, sub, ab, col, del⟩ := cd
      dsimp only at hm hdel hdct
      subst hm hdel hdct
      have hsl : sl = #[k0, k1, k2, k3, some (.builtin "ValueError.__new__"), k5] := by
        obtain ⟨l⟩ := sl
        simp only at hs
        rw [hs]
      subst hsl
      exact ⟨nm, qn, ns, bs, bm, sn, sub, ab, col, dd, k0, k1, k2, k3, k5, ho, ht⟩
    · cases q
  · cases q
/-- the base that a class hands its making on to -/
structure PinK (K : Frag) (P : Addr) : Prop where
  hg : PySem.W.specialIn K (.ref P) "__getattribute__" = some (some (.builtin "type.__getattribute__"))
  hr : PySem.W.readsIn K P (.type "type") = true
  e : PySem.W.findCls K (.ref P) (.type "type") "__init__" = some (.val (.builtin "ValueError.__init__"))
def pinB (K : Frag) (P : Addr) : Bool := eqO (PySem.W.specialIn K (.ref P) "__getattribute__") (some (some (.builtin "type.__getattribute__"))) && (PySem.W.readsIn K P (.type "type") && (match PySem.W.findCls K (.ref P) (.type "type") "__init__" with
  | some (.val v) => decide (v = .builtin "ValueError.__init__")
  | _ => false))
theorem pinB_ok {K : Frag} {P : Addr} (h : pinB K P = true) : PinK K P := by
  unfold pinB at h
  obtain ⟨h1, h⟩ := ba h
  obtain ⟨h2, h3⟩ := ba h
  refine ⟨eqO_ok h1, h2, ?_⟩
  split at h3
  · rename_i v e
    rw [e, of_decide_eq_true h3]
  · cases h3
/-- all that the making of x's instances leans on but its __init__ -/
structure ExF (K : Frag) (x : Str) (fs : List Str) : Prop where
  oc : OexC K (ga K x)
  xf : XfC K (ga K x)
  no : ∀ f ∈ fs, PySem.W.findIn K (.ref (ga K x)) f = some none
  it : PySem.W.findIn K (.ref (ga K x)) "__init__" = some (some (.ref (ma K (ga K x) "__init__")))
  ty : PySem.W.typeIn K (.ref (ma K (ga K x) "__init__")) = some (.type "function")
def exfB (K : Frag) (x : Str) (fs : List Str) : Bool := oexB K (ga K x) && (xfB K (ga K x) && ((fs.all fun f => eqO (PySem.W.findIn K (.ref (ga K x)) f) (some none)) && (eqO (PySem.W.findIn K (.ref (ga K x)) "__init__") (some (some (.ref (ma K (ga K x) "__init__")))) && decide (PySem.W.typeIn K (.ref (ma K (ga K x) "__init__")) = some (.type "function")))))
theorem exfB_ok {K : Frag} {x : Str} {fs : List Str} (h : exfB K x fs = true) : ExF K x fs := by
  unfold exfB at h
  obtain ⟨h1, h⟩ := ba h
  obtain ⟨h2, h⟩ := ba h
  obtain ⟨h3, h⟩ := ba h
  obtain ⟨h4, h5⟩ := ba h
  exact ⟨oexB_ok h1, xfB_ok h2, fun f hf => eqO_ok (List.all_eq_true.mp h3 f hf), eqO_ok h4, of_decide_eq_true h5⟩
def fxM (d : PyData) (K : Prop) : Prop := fmtM d fun s => s.length ≤ 100000 ∧ K
def FxOk (v : V) : Prop := ∃ d, atV d = some v ∧ fxM d True
theorem fx_dq {K : Frag} {F : Hp} {v : V} {d : PyData} {P : Prop} (h : Dq K F v d) (f : fxM d P) : atV d = some v ∧ FxOk v ∧ P := by
  cases d with
  | int i =>
    have e := rd_int (z := true) (K := K) (F := F) (env := []) h
    subst e
    exact ⟨rfl, ⟨.int i, rfl, f.1, f.2.1, trivial⟩, f.2.2⟩
  | str s =>
    have e := rd_str (z := true) (K := K) (F := F) (env := []) h
    subst e
    exact ⟨rfl, ⟨.str s, rfl, f.1, f.2.1, trivial⟩, f.2.2⟩
  | _ => exact (show False from f).elim
/-- the promise of such an __init__ -/
def XInit (K : Frag) (C : Addr) (fs : List Str) : Sp := fun vs H Q _ => ∃ a ws, vs = .ref a :: ws ∧ ws.length = fs.length ∧ (∀ w ∈ ws, FxOk w) ∧ H a = some (exo a C none) ∧
  ∀ d H2, H d = none → d ≠ a → H2 a = some (exo a C (some d)) → H2 d = some (exd d (fs.zip ws).reverse) → (∀ b, b ≠ a → b ≠ d → H2 b = H b) → Q .non H2
structure XHas (P : Program) (w : World) (K : Frag) (mg : Str → Option Value) (base : Heap) (k : Nat) (x : Str) (fs : List Str) : Prop where
  ex : ∃ fd, mg x = some (.ref (ga K x)) ∧ ExF K x fs ∧ Binds K fd ("self" :: fs) [] ∧ FnOk P w K mg base (L2.CX P w) k (ma K (ga K x) "__init__") fd ("self" :: fs) (XInit K (ga K x) fs)
theorem XHas.mono {P : Program} {w : World} {K : Frag} {mg : Str → Option Value} {base : Heap} {k j : Nat} {x : Str} {fs : List Str} (h : XHas P w K mg base k x fs) (hj : k ≤ j) : XHas P w K mg base j x fs := by
  obtain ⟨fd, h1, h2, h3, h4⟩ := h.ex
  exact ⟨fd, h1, h2, h3, h4.mono hj⟩
section
variable {X : Cx} {g : G} {env env' : List Sl} {Ψ : Exc → Prop} {P : Po} {pos p p1 p2 : Pos} {e : Expr} {es : List Expr} {ta : TA}
/-- PinchError.__init__(self, ..) -/
theorem pe_pinit {pn : Str} {P0 : Addr} {pl : Sem Bool} (hm : X.mg pn = some (.ref P0)) (pk : PinK X.K P0) (ha : PA X (e :: es) ta) (hg : Gl X pn := by rfl)
    (hc : eval (.Call (.Attribute (.Name pn p1) "__init__" p2) (e :: es) [] pos) X.env = (do
      let ov ← eval (.Name pn p1) X.env
      standAt p2.atName
      let (f, first) ← holding [ov] (getMethod ov "__init__" pl)
      callWith pos f first (backTo pos (starEach (e :: es) X.env)) (backToKw pos (keywordEach [] X.env))) := by rfl)
    (he : starEach (e :: es) X.env = (false, eval e X.env) :: starEach es X.env := by rfl) (hpl : (backTo pos (starEach es X.env)).any (·.1) = false := by rfl) (hdb : (pn == ("__debug__" : Str)) = false := by decide) :
    PE X (.Call (.Attribute (.Name pn p1) "__init__" p2) (e :: es) [] pos) (tVeI X.K ta) := by
  refine ⟨fun pins s σ H Q I h => ?_⟩
  refine PySem.W.methodCall_KW (ld_glob I hg hm ?_ hdb) hc
  refine PySem.W.method_cls I.kIn pk.hg (PySem.W.cls_value I.kIn pk.hr pk.e (by decide +kernel) ?_)
  show wpAny _ _ (callWith pos (Value.builtin "ValueError.__init__") [] (backTo pos (starEach (e :: es) X.env)) []) _ _ _
  refine PyProof.Rows.callWith_method1 (thn (ha.run pos pins _ σ H _ (I.tok _) h) fun us s1 ⟨vs, H1, I1, r1, a, C, ws, ev, hl, T, ea, q⟩ => ?_) he hpl
  subst ev
  cases r1 with
  | @cons _ u0 _ ur ra rw' =>
    obtain rfl : u0 = Value.ref a := ra
    have hlen : ur.length ≤ sizeLine := by
      rw [← Paired.length rw', sizeLine_eq]
      omega
    exact oinit_ok T I1 ea hlen fun s' J => ⟨.non, H1, J, rfl, q⟩
end
theorem xinit_of {P : Program} {w : World} {K : Frag} {mg : Str → Option Value} {base : Heap} {f : Addr} {fd : FuncData} {k : Nat} {qual : Str} {st : Stmt} {fs : List Str} {C : Addr}
    (F : FunD K "__init__" qual (defArgs st) (defBody st) (defScope st) [] [] f fd) (sc : FnScope ("self" :: fs) ("self" :: fs) (defScope st))
    (hbody : ∀ (cdv : Value) (A : Around) (outer : List Env) (s : Shared) (H : Hp) (E : XK), ∃ t, PSs (cxOf (L2.CX P w) P w K mg base ("self" :: fs) qual (defScope st) f cdv A outer s H E) (defBody st) t ∧
      ∀ vs H Q E, XInit K C fs vs H Q E → t { nx := fun _ H' => Q .non H', rt := Q } (L2.start ("self" :: fs) vs) H) : FnOk P w K mg base (L2.CX P w) (k + 1) f fd ("self" :: fs) (XInit K C fs) :=
  F.ok sc (fun vs H Q E h => by
    obtain ⟨a, ws, rfl, hl, _⟩ := h
    rw [List.length_cons, List.length_cons, hl]) fun cdv A outer s H vs Q E hr h => by
    obtain ⟨t, h1, h2⟩ := hbody cdv A outer s H E
    exact ⟨t, h1, h2 vs H Q E h⟩
abbrev tXj (c : Str) (i : Nat) : TE := fun σ H Q => tJs [tC (.str c), tFmt (tVar i)] Str.empty σ H fun out H1 => Q (.str out) H1
theorem len_add' {a b : Str} : (a ++ b).length = a.length + b.length := by
  show (Str.append a b).length = _
  unfold Str.append Str.length
  rw [Array.size_append]
theorem xj_ok {c : Str} {i : Nat} {σ : SS} {H : Hp} {Q : VK} {v : V} (hc : c.length ≤ 1000) (hs : σ[i]? = some (some v)) (hv : FxOk v) (q : ∀ s : Str, Q (.str s) H) : tXj c i σ H Q := by
  have e0 : (Str.empty : Str).length = 0 := rfl
  have hsl := sizeLine_eq
  obtain ⟨d, h1, h2⟩ := hv
  simp only [tXj, tJs, tC, tFmt, tVar]
  refine ⟨c, rfl, by rw [len_add', e0]; omega, v, hs, ?_⟩
  cases d with
  | int n =>
    cases h1
    obtain ⟨g1, g2, _⟩ := (show n.natAbs.log2 < 1920 ∧ (toString n : Str).length ≤ 100000 ∧ True from h2)
    refine .inr ⟨n, rfl, g1, _, rfl, ?_, q _⟩
    rw [len_add', len_add', e0]; omega
  | str s =>
    cases h1
    obtain ⟨g1, g2, _⟩ := (show s.length ≤ sizeLine ∧ s.length ≤ 100000 ∧ True from h2)
    refine .inl ⟨s, rfl, g1, s, rfl, ?_, q _⟩
    rw [len_add', len_add', e0]; omega
  | _ => exact (show False from h2).elim
theorem xfin1 {K : Frag} {C : Addr} {f1 c : Str} {vs : List V} {H : Hp} {Q : VK} {E : XK} (oc : OexC K C) (no : PySem.W.findIn K (.ref C) f1 = some none) (hc : c.length ≤ 1000) (h : XInit K C [f1] vs H Q E) :
    tSeq (tDrop (tVeI K (tCons (tVar 0) (tCons (tXj c 1) tNil)))) (tSeq (tOst K f1 (tVar 0) (tVar 1)) tNext) { nx := fun _ H' => Q .non H', rt := Q } (L2.start ["self", f1] vs) H := by
  obtain ⟨a, ws, rfl, hl, hw, ha, hq⟩ := h
  match ws, hl with
  | [v], _ =>
  refine ⟨.ref a, rfl, ?_⟩
  dsimp only [tCons, tNil]
  refine xj_ok (c := c) (i := 1) (v := v) (σ := L2.start ["self", f1] [.ref a, v]) hc rfl (hw v (List.mem_singleton.mpr rfl)) fun s => ?_
  refine ⟨a, C, [.str s], rfl, Nat.le_of_ble_eq_true rfl, oc, ha, ?_⟩
  refine ⟨v, rfl, .ref a, rfl, a, C, rfl, oc, no, .inl ⟨ha, fun dx hd hne => ?_⟩⟩
  exact hq dx _ hd hne upd_same (by rw [upd_ne hne, upd_same]; rfl) fun b h1 h2 => by rw [upd_ne h1, upd_ne h2]
theorem xz1 {f : Str} {ws : List V} {ds : List PyData} (h : Paired (fun v d => atV d = some v) ws ds) (hl : ds.length = [f].length) : XfOk ([f].zip ds) ([f].zip ws).reverse := by
  cases h with
  | nil => cases hl
  | cons h1 h2 =>
    cases h2 with
    | cons _ _ => cases hl
    | nil =>
      rename_i v d
      intro f' d' e
      have e : [(f, d)].lookup f' = some d' := e
      refine ⟨v, ?_⟩
      show atV d' = some v ∧ [(f, v)].lookup f' = some v
      rw [List.lookup_cons] at e ⊢
      cases y : f' == f with
      | true => rw [y] at e; cases e; exact ⟨h1, rfl⟩
      | false => rw [y] at e; cases e
section
variable {X : Cx} {g : G} {env env' : List Sl} {Ψ : Exc → Prop} {P : Po} {pos p p1 p2 : Pos} {e : Expr} {es : List Expr} {ta : TA}
theorem passN : Passes (L2.CX X.prog X.w) X (fun _ _ _ => False) := fun _ _ _ _ _ _ _ h => by
  obtain ⟨_, _, _, _, _, _, _, _, _, _, _, _, z⟩ := h
  exact z.elim
theorem fx_all {K : Frag} {F : Hp} : ∀ {vs : List V} {ds : List PyData}, DqAll K F vs ds → (∀ d ∈ ds, fxM d True) → Paired (fun v d => atV d = some v) vs ds ∧ ∀ v ∈ vs, FxOk v
  | _, _, .nil, _ => ⟨.nil, fun _ h => by cases h⟩
  | _, _, .cons h1 h2, hf => by
    obtain ⟨q1, q2, _⟩ := fx_dq h1 (hf _ (List.mem_cons_self ..))
    obtain ⟨q3, q4⟩ := fx_all h2 fun d hd => hf d (List.mem_cons_of_mem _ hd)
    exact ⟨.cons q1 q3, fun v hv => by
      rcases List.mem_cons.mp hv with rfl | hv
      · exact q2
      · exact q4 v hv⟩
theorem w1_raiseX {k : Nat} {x : Str} {fs : List Str} {q : Pos} (hc : X.calm = true) (hk : XHas X.prog X.w X.K X.mg X.base k x fs) (hr : Room (k + 1) X.A)
    (h : WAs X g (e :: es) env (fun as => ∃ ds, datas as = some ds ∧ ds.length = fs.length ∧ (∀ d ∈ ds, fxM d True) ∧ P.ex (.ownF x (fs.zip ds)) env) (fun c => P.ex c env))
    (hz : ∀ (ws : List V) (ds : List PyData), Paired (fun v d => atV d = some v) ws ds → ds.length = fs.length → XfOk (fs.zip ds) (fs.zip ws).reverse) (hlf : fs.length ≤ 1000 := by decide)
    (hg : Gl X x := by rfl) (hdb : (x == ("__debug__" : Str)) = false := by decide) (he : starEach (e :: es) X.env = (false, eval e X.env) :: starEach es X.env := by rfl) (hpl : (backTo q (starEach es X.env)).any (·.1) = false := by rfl) :
    W1 X g (.Raise (some (.Call (.Name x p) (e :: es) [] q)) none pos) env P := fun W tk hx2 σ F H s0 D hD => by
  obtain ⟨fd, hm, xk, hb, F0⟩ := hk.ex
  refine semP_of (ps_raise hc tk (pmk_oex (CX := L2.CX X.prog X.w) (dvs := []) xk.oc xk.it xk.ty F0 hr hb .nil passN hg hm (paS (e :: es)) hdb he hpl)) ?_
  refine h W tk σ F H s0 (hx2.hx env σ) _ fun as vs F1 H1 ⟨ds, e1, hl, hf, hp⟩ s1 ex1 r1 => ?_
  have hd := dpa_datas e1 r1
  have hl2 := dpa_len hd
  obtain ⟨q1, q2⟩ := fx_all hd hf
  refine ⟨by omega, fun a hn => ⟨a, vs, by rw [List.append_nil], by omega, q2, upd_same, fun d H2 hd1 hne e3 e4 e5 => ?_⟩⟩
  have hd2 : H1 d = none := by
    rw [upd_ne hne] at hd1
    exact hd1
  refine ⟨rfl, d, _, e3, e4, hd2, ?_⟩
  have eH : upd (del H2 a) d (.xd (fs.zip vs).reverse) = upd H1 d (.xd (fs.zip vs).reverse) := by
    funext b
    by_cases hb : b = d
    · subst hb; rw [upd_same, upd_same]
    · rw [upd_ne hb, upd_ne hb]
      by_cases hba : b = a
      · subst hba; rw [del_same, hn]
      · rw [del_ne hba, e5 b hba hb, upd_ne hba]
  rw [eH]
  exact hx2 (.ownF x (fs.zip ds)) env σ F1 _ hp (s1.alloc hd2) d _ upd_same (hz vs ds q1 hl)
/-- what is read off the caught exception: a field or a text, or a tuple of such -/
inductive XAt (n : Str) (fs : List (Str × PyData)) : Expr → PyData → Prop
  | fld {f : Str} {d : PyData} {p1 p2 : Pos} (h : fs.lookup f = some d) : XAt n fs (.Attribute (.Name n p1) f p2) d
  | str {s : Str} {j : Nat} {p1 : Pos} : XAt n fs (.Constant (.str s) j p1) (.str s)
inductive XAts (n : Str) (fs : List (Str × PyData)) : List Expr → List PyData → Prop
  | nil : XAts n fs [] []
  | cons {e : Expr} {d : PyData} {es : List Expr} {ds : List PyData} (h : XAt n fs e d) (r : XAts n fs es ds) : XAts n fs (e :: es) (d :: ds)
inductive XVal (n : Str) (fs : List (Str × PyData)) : Expr → PyData → Prop
  | one {e : Expr} {d : PyData} (h : XAt n fs e d) : XVal n fs e d
  | tup {es : List Expr} {ds : List PyData} {x1 : Nat} {p1 : Pos} (h : XAts n fs es ds) (hl : ds.length ≤ sizeLine) : XVal n fs (.Tuple es x1 p1) (.tuple ds)
/-- the except's own reading -/
def tryAM (bd : (Exc → Prop) → Prop) (kn : List Str) (x : Str) (hf : Str → List (Str × PyData) → Prop) (E : Exc → Prop) : Prop := bd fun c => match c with
  | .own m => m ∈ kn ∧ isE m x = false ∧ E (.own m)
  | .ownF m fs => m ∈ kn ∧ (isE m x = true → hf m fs) ∧ (isE m x = false → E (.ownF m fs))
theorem St.un {K : Frag} {g : G} {F H : Hp} {σ : SS} {env : List Sl} {i : Nat} {o : Option V} (st : St K g F H σ env) (h : env[i]? = some .un) : St K g F H (σ.set i o) env :=
  { st with
    len := by rw [List.length_set]; exact st.len
    sl := fun j s hj => by
      by_cases e : j = i
      · subst e
        rw [h] at hj
        cases hj
        exact trivial
      · rw [List.getElem?_set_ne (Ne.symm e)]
        exact st.sl j s hj }
section
variable {X : Cx} {g : G} {env env' : List Sl} {P : Po} {pos p p1 p2 : Pos} {a dd : Addr} {oe : Obj} {cls : Value} {pn : List (Addr × Obj)} {n x : Str} {fs : List (Str × PyData)} {xs : List (Str × V)} {i : Nat} {σ : SS} {H F : Hp} {ks : List Str}
theorem at_dq {K : Frag} {F : Hp} {d : PyData} {v : V} (h : atV d = some v) : Dq K F v d := by
  cases d with
  | none => cases h; exact .non
  | bool b => cases h; exact .bl b
  | int i => cases h; exact .int i
  | str s => cases h; exact .str s
  | _ => cases h
theorem xat_sem {e : Expr} {d : PyData} (h : XAt n fs e d) (xk : ∀ f, fs.lookup f ≠ none → PySem.W.findIn X.K (.ref (ga X.K x)) f = some none) (xf : XfC X.K (ga X.K x)) (hz : Zc (.ref (ga X.K x)) (some dd) oe) (hd : ∃ vs, oe.data = .fields vs)
    (hN : X.N[i]? = some n) (hv : Vis X.env.scope n) (hdb : (n == ("__debug__" : Str)) = false) (hcd : (n == ("__classdict__" : Str)) = false)
    (hs : σ[i]? = some (some (.ref a))) (hx : H dd = some (.xd xs)) (ok : XfOk fs xs) {Q : VK} (q : ∀ v, atV d = some v → Q v H) : semE (X.suite a ((a, oe) :: pn)) e σ H Q := by
  cases h with
  | fld h =>
    rename_i f p1 p2
    obtain ⟨v, h1, h2⟩ := ok f d h
    exact semE_of (pe_xf (d := some dd) xf (xk f (by rw [h]; intro z; cases z)) hz hd (pe_var (X := X.suite a ((a, oe) :: pn)) (i := i) hN hv hdb hcd) rfl) ⟨.ref a, hs, rfl, rfl, dd, xs, v, rfl, hx, h2, q v h1⟩
  | str => exact semE_of pe_str (q _ rfl)
theorem xats_sem (xk : ∀ f, fs.lookup f ≠ none → PySem.W.findIn X.K (.ref (ga X.K x)) f = some none) (xf : XfC X.K (ga X.K x)) (hz : Zc (.ref (ga X.K x)) (some dd) oe) (hd : ∃ vs, oe.data = .fields vs)
    (hN : X.N[i]? = some n) (hv : Vis X.env.scope n) (hdb : (n == ("__debug__" : Str)) = false) (hcd : (n == ("__classdict__" : Str)) = false)
    (hs : σ[i]? = some (some (.ref a))) (hx : H dd = some (.xd xs)) (ok : XfOk fs xs) : ∀ {es : List Expr} {ds : List PyData}, XAts n fs es ds → ∀ {Q : List V → Hp → Prop}, (∀ vs, Paired (fun v d => atV d = some v) vs ds → Q vs H) → semA (X.suite a ((a, oe) :: pn)) es σ H Q
  | _, _, .nil, Q, q => semA_of pa_nil (q [] .nil)
  | _, _, .cons (e := e) (es := es) h r, Q, q => by
    have e1 : starEach (e :: es) (X.suite a ((a, oe) :: pn)).env = (false, eval e (X.suite a ((a, oe) :: pn)).env) :: starEach es (X.suite a ((a, oe) :: pn)).env := by cases h <;> rfl
    refine semA_of (pa_cons (peS e) (paS es) e1) ?_
    refine xat_sem h xk xf hz hd hN hv hdb hcd hs hx ok fun v hv2 => ?_
    exact xats_sem xk xf hz hd hN hv hdb hcd hs hx ok r fun vs hvs => q (v :: vs) (.cons hv2 hvs)
theorem at_dqs {K : Frag} {F : Hp} : ∀ {vs : List V} {ds : List PyData}, Paired (fun v d => atV d = some v) vs ds → DqAll K F vs ds
  | _, _, .nil => .nil
  | _, _, .cons h r => .cons (at_dq h) (at_dqs r)
theorem w1_tryX (i j : Nat) {y : Str} {ve : Expr} {body : List Stmt} {bd : (Exc → Prop) → Prop} {kn : List Str} {hf : Str → List (Str × PyData) → Prop} {E : Exc → Prop} {np pos' q1 q2 : Pos} (hm : tryAM bd kn x hf E)
    (hN : X.N.Nodup) (hc : Names X x (.ref (ga X.K x))) (hkn : ∀ m ∈ kn, ExM X.K (.own m) x = some (isE m x)) (xc : ExF X.K x ks) (hfk : ∀ m fs, hf m fs → fs.map (·.1) = ks) (hH : ∀ fs, hf x fs → ∃ d, XVal n fs ve d ∧ P.nx (env.set j (.d d))) (hE : ∀ c, E c → P.ex c env)
    (hb : bd (fun c => match c with
      | .own m => m ∈ kn ∧ isE m x = false ∧ E (.own m)
      | .ownF m fs => m ∈ kn ∧ (isE m x = true → hf m fs) ∧ (isE m x = false → E (.ownF m fs))) → ∀ (pn : List (Addr × Obj)) (xe : Value → Shared → Prop) (F : Hp), PassesOwn (model X.prog X.w) X.A X.env xe → WS (X.tr pn xe) { g with F0 := F } body env (P.exn fun c e => (match c with
      | .own m => m ∈ kn ∧ isE m x = false ∧ E (.own m)
      | .ownF m fs => m ∈ kn ∧ (isE m x = true → hf m fs) ∧ (isE m x = false → E (.ownF m fs))) ∧ e = env))
    (he : env[i]? = some .un := by rfl) (hij : i ≠ j := by decide) (hlt : Nat.blt j env.length = true := by rfl) (hxp : decide (x = "PinchError") = false := by decide) (hi : X.N[i]? = some n := by rfl) (hj : X.N[j]? = some y := by rfl) (hln : X.env.kindOf n = some .local := by rfl) (hy : Loc X.env.scope y := by first | exact Or.inl rfl | exact Or.inr rfl)
    (hv : Vis X.env.scope n := by first | exact Or.inl rfl | exact Or.inr (Or.inl rfl) | exact Or.inr (Or.inr rfl)) (hdb : (n == ("__debug__" : Str)) = false := by decide) (hcd : (n == ("__classdict__" : Str)) = false := by decide)
    (hsw : swapsWith ve (some (.Name y q1)) q2.line X.env = pure false := by rfl) (hfy : X.fn y = true ∨ X.env.scope.names.lookup y = some .local := by first | exact .inl rfl | exact .inr rfl)
    (hst : X.stack = X.env :: X.outer := by rfl) (hfr : X.env.frame = some X.env.locals := by rfl) : W1 X g (.Try body [.ExceptHandler (some (.Name x np)) (some n) [.Assign [.Name y q1] ve q2] pos'] [] [] pos) env P := fun W tk hx2 σ F H s0 D hD => by
  refine semP_of (ps_try_as (i := i) (ts := fun a cls d => fun D σ H => ∀ (oe : Obj) (pn : List (Addr × Obj)), Zc cls d oe → (∃ vs, oe.data = .fields vs) → semS (X.suite a ((a, oe) :: pn)) [.Assign [.Name y q1] ve q2] D σ H)
    (tb := fun W' => fun D' σ' H' => ∀ (pn : List (Addr × Obj)) (xe : Value → Shared → Prop), Takes (X.tr pn xe) W' → PassesOwn (model X.prog X.w) X.A X.env xe → semS (X.tr pn xe) body D' σ' H') hst hfr hN hi hln hc tk
    (fun W' pn xe tk' po => ⟨fun pins s σ H D I h => (h pn xe tk' po).run pins s I⟩) (fun a oe cls d pn hz hd => ⟨fun pins s σ H D I h => (h oe pn hz hd).run pins s I⟩)) ?_
  intro pn xe tk' po
  refine hb hm pn xe F po _ tk' (fun c env' σ' F' H' hcc s' => ?_) σ F H s0.at D ⟨fun e σ' F' H' q s' ex => hD.nx e σ' F' H' q (s0.ofAt s') ex, fun r v e σ' F' H' q s' ro => hD.rt r v e σ' F' H' q (s0.ofAt s') (by cases r <;> exact ro), fun e σ' F' H' q s' ex => hD.bk e σ' F' H' q (s0.ofAt s') ex, fun e σ' F' H' q s' ex => hD.ct e σ' F' H' q (s0.ofAt s') ex⟩
  obtain ⟨h1, h2⟩ := hcc
  subst h2
  have sx := s0.ofAt s'
  cases c with
  | own m =>
    obtain ⟨hmk, hne, hEm⟩ := h1
    exact ⟨false, by rw [← hne]; exact hkn m hmk, (fun z => by cases z), fun _ => hx2 (.own m) _ σ' F' H' (hE _ hEm) sx⟩
  | ownF m fs =>
    obtain ⟨hmk, hyes, hno⟩ := h1
    intro d xs hd hok
    refine ⟨isE m x, hkn m hmk, fun hb a ha => ?_, fun hb => hx2 (.ownF m fs) _ σ' F' H' (hE _ (hno hb)) sx d xs hd hok⟩
    have hmx : m = x := by
      unfold isE at hb
      rw [hxp, Bool.or_false] at hb
      exact of_decide_eq_true hb
    subst hmx
    have hfs := hyes hb
    have hks := hfk _ _ hfs
    obtain ⟨dat, hval, hp⟩ := hH fs hfs
    have xk : ∀ f, fs.lookup f ≠ none → PySem.W.findIn X.K (.ref (ga X.K m)) f = some none := fun f hf0 => by
      refine xc.no f ?_
      rw [← hks]
      cases q : fs.lookup f with
      | none => exact absurd q hf0
      | some d0 =>
        obtain ⟨a1, b1, q1⟩ := List.lookup_eq_some_iff.mp q
        rw [q1.1]
        simp
    intro oe pn2 hz hdd
    have hlen : i < σ'.length := by rw [sx.len]; exact (List.getElem?_eq_some_iff.mp he).1
    have hsi : (σ'.set i (some (V.ref a)))[i]? = some (some (V.ref a)) := List.getElem?_set_self hlen
    have s1 : St X.K g F' H' (σ'.set i (some (.ref a))) env' := sx.un he
    have eun : ∀ t : Sl, (env'.set j t)[i]? = some .un := fun t => by rw [List.getElem?_set_ne (Ne.symm hij)]; exact he
    refine semS_of (pss_one (ps_set (X := X.suite a ((a, oe) :: pn2)) hN hj hy (peS ve) hsw hfy)) ?_
    cases hval with
    | one h =>
      refine xat_sem h xk xc.xf hz hdd hi hv hdb hcd hsi hd hok fun v hv2 => ?_
      exact hD.nx _ _ F' H' hp ((s1.setD (ltB hlt) (at_dq hv2)).un (eun _)) s'.g3
    | tup h hl =>
      refine semE_of (pe_tup (paS _)) ?_
      refine xats_sem xk xc.xf hz hdd hi hv hdb hcd hsi hd hok h fun vs hvs => ?_
      have hds := at_dqs (K := X.K) (F := F') hvs
      refine ⟨by rw [dpa_len hds]; exact hl, fun p hn => ?_⟩
      have hF : F' p = none := s1.ex.none hn
      have s2 : St X.K g (upd F' p (.tup vs)) (upd H' p (.tup vs)) (σ'.set i (some (.ref a))) env' := s1.allocF hn
      exact hD.nx _ _ _ _ hp ((s2.setD (ltB hlt) (.tup upd_same (dpa_mono (Ex.new hF) _ _ hds))).un (eun _)) (s'.g3.trans (Ex.new hF))
end
end
theorem fx1 {d : PyData} {P : Prop} (h : fxM d P) : (∀ x ∈ [d], fxM x True) ∧ P := by
  have key : fxM d True ∧ P := by
    unfold fxM fmtM at *
    split at h
    · exact ⟨⟨h.1, h.2.1, trivial⟩, h.2.2⟩
    · exact ⟨⟨h.1, h.2.1, trivial⟩, h.2.2⟩
    · exact h.elim
  exact ⟨fun x hx => by rw [List.mem_singleton.mp hx]; exact key.1, key.2⟩
def xf1M (f : Str) (fs : List (Str × PyData)) (K : PyData → Prop) : Prop := match fs with
  | [(g, d)] => g = f ∧ K d
  | _ => False
theorem xf1_elim {f : Str} {fs : List (Str × PyData)} {K : PyData → Prop} (h : xf1M f fs K) : ∃ d, fs = [(f, d)] ∧ K d := by
  unfold xf1M at h
  split at h
  · obtain ⟨rfl, h⟩ := h; exact ⟨_, rfl, h⟩
  · exact h.elim
theorem xf1_keys {f : Str} {fs : List (Str × PyData)} {K : PyData → Prop} (h : xf1M f fs K) : fs.map (·.1) = [f] := by
  obtain ⟨d, rfl, _⟩ := xf1_elim h; rfl
end TL
namespace TL
open PySem PySem.Spec PyProof.Rows L2
def mergeQ (kvs more : List (Key × PyData)) : List (Key × PyData) := more.foldl (fun acc kv => putP acc kv.1 kv.2) kvs
theorem kvp_mergeQ {K : Frag} {F : Hp} {xs : List (Key × V)} {kvs : List (Key × PyData)} {a : List (Key × V)} {b : List (Key × PyData)} (h : KVp K F xs kvs) : KVp K F a b → KVp K F (mergeK a xs) (mergeQ b kvs) := by
  unfold mergeK mergeQ
  induction h generalizing a b with
  | nil => exact id
  | cons r t ih =>
    intro hab
    refine ih ?_
    show KVp K F (putK _ _ _) (putP _ _ _)
    rw [r.1]
    exact kvp_put hab r.2
def rUpdK : V → List V → Hp → VK → Prop := fun x xs H Q => ∃ a o kvs more, x = .ref a ∧ xs = [.ref o] ∧ a ≠ o ∧ H a = some (.dK kvs) ∧ H o = some (.dK more) ∧ kvs.length + more.length ≤ sizeLine ∧ Q .non (upd H a (.dK (mergeK kvs more)))
theorem mt_updK {X : Cx} : MtR X "dict.update" rUpdK := by
  intro pins s σ H x xs v us Q I rx rxs h
  obtain ⟨a, o, kvs, more, rfl, rfl, hne, ha, ho, hl, q⟩ := h
  cases rx
  cases rxs with
  | cons r1 r2 =>
  cases r2
  cases r1
  obtain ⟨z, hd, vs, rel, dd⟩ := dk_of I.hok ha
  obtain ⟨z2, hd2, ws, rel2, dd2⟩ := dk_of I.hok ho
  have hml : (mergeK kvs more).length ≤ sizeLine := Nat.le_trans (length_mergeK more kvs) hl
  refine call_meetsIn PySem.F.slot_dict_update dd.typeIs PySem.F.entry_dict_update (PySem.F.args_dict_update_2 _ _) (meets_dict_update (mixKind X.prog X.w) a o hne hd2)
    ⟨vs, ws, dd, dd2, by rw [← rel.length, ← rel2.length]; exact hl, fun h' dd' ddo' hs => ?_⟩
  have he : ∃ q, h'.get? a = some q := let ⟨q, _, _, hq, _⟩ := dd'; ⟨q, hq⟩
  exact ⟨.non, _, d_write (t' := s.toks) I (by rw [ha]; exact True.intro) hs he (dk_new hml hd (KV.merge rel2 rel) dd'), rfl, q⟩
section
variable {X : Cx} {g : G} {env env' : List Sl} {Ψ : Exc → Prop} {P : Po} {pos p p2 apos q cpos : Pos} {a e o : Expr} {es : List Expr} {al : Addr} {xn : Str} {k0 : Nat}
theorem w1_updK (i : Nat) {kvs : List (Key × PyData)} (h : WDk X g e env (fun m => kvs.length + m.length ≤ sizeLine ∧ P.nx (env.set i (.dk al (mergeQ kvs m)))) (fun c => P.ex c env)) (he : env[i]? = some (.dk al kvs) := by rfl) (hN : X.N[i]? = some xn := by rfl)
    (hv : Vis X.env.scope xn := by first | exact Or.inl rfl | exact Or.inr (Or.inl rfl) | exact Or.inr (Or.inr rfl)) (hd : (xn == ("__debug__" : Str)) = false := by decide)
    (hcd : (xn == ("__classdict__" : Str)) = false := by decide)
    (hbase : attributeBase (.Name xn q) "update" X.env (eval (.Name xn q) X.env) = eval (.Name xn q) X.env := by rfl)
    (hfew : ((backTo cpos (starEach [e] X.env)).all (fun x => !x.1) && (backToKw cpos (keywordEach [] X.env)).all (fun x => x.1.isSome)
      && decide ([e].length + ([] : List Keyword).length + (if ([] : List Keyword).isEmpty then 0 else 1) < 30)) = true := by rfl)
    (hline : (apos.endLine == cpos.line) = true := by rfl) (hs1 : starEach [e] X.env = (false, eval e X.env) :: starEach [] X.env := by rfl) (hplain : (backTo cpos (starEach ([] : List Expr) X.env)).any (·.1) = false := by rfl)
    (hs : swapsWith (.Call (.Attribute (.Name xn q) "update" apos) [e] [] cpos) none pos.line X.env = pure false := by rfl) :
    W1 X g (.Expr (.Call (.Attribute (.Name xn q) "update" apos) [e] [] cpos) pos) env P := fun W tk hx2 σ F H s0 D hD => by
  refine semP_of (ps_expr (pe_bm PySem.F.plainAttrs_dict PySem.F.slot_dict_update PySem.F.type_dict_update mt_updK (pe_var hN hv hd hcd) (pa_cons (peS e) pa_nil hs1) hbase hfew hline hs1 hplain) hs) ?_
  obtain ⟨h1, vs, h2, h3⟩ := s0.sl i _ he
  refine ⟨_, getD_some h1, .inr (.inr (.inl ⟨rfl, .inl ⟨_, h2⟩⟩)), ?_⟩
  refine h W tk σ F H s0 (hx2.hx env σ) _ fun m v F1 H1 ⟨hl, hp⟩ s1 e1 ⟨p0, xs, hv, g1, g2, g3, g4, g5⟩ => ?_
  subst hv
  obtain ⟨h1', vs', h2', h3'⟩ := s1.sl i _ he
  have hne : al ≠ p0 := fun z => g4 ⟨i, _, he, by rw [z]; exact List.mem_singleton.mpr rfl⟩
  refine ⟨al, p0, vs', xs, rfl, rfl, hne, h2', g1, by rw [kvp_len h3', kvp_len g2]; exact hl, ?_⟩
  exact hD.nx _ _ _ _ hp (s1.write he rfl rfl ⟨h1', _, upd_same, kvp_mergeQ g2 h3'⟩) e1
end
theorem isTup_l {xs : List PyData} : isTyB "tuple" (.list xs) = false := by show (L2.kitB "list" "tuple").getD false = false; decide +kernel
def replM (x : PyData) (y z : Str) (K : KD) : Prop := match x with
  | .str a => a.length + (a.length + 1) * z.length ≤ 16777216 ∧ K (.str (Txt.replace a y z))
  | _ => False
theorem repl_m {x : PyData} {y z : Str} {Q Q' : KD} (h : replM x y z Q) (k : ∀ r, Q r → Q' r) : replM x y z Q' := by
  unfold replM at *
  split at h
  · exact ⟨h.1, k _ h.2⟩
  · exact h
theorem addM_m {x y : PyData} {Q Q' : KD} (h : addM x y Q) (k : ∀ r, Q r → Q' r) : addM x y Q' := by
  unfold addM at *
  split at h
  · exact k _ h
  · exact ⟨h.1, k _ h.2⟩
  · exact ⟨h.1, k _ h.2⟩
  · exact ⟨h.1, k _ h.2⟩
  · exact h
structure SemAT (X : Cx) (es : List Expr) (σ : SS) (H : Hp) (Q : List V → Hp → Prop) : Prop where
  run : ∀ (pos : Pos) (pins : List (Addr × Obj)) (s : Shared), 1 ≤ s.toks → Inv X pins σ H s → wpAny (model X.prog X.w) X.A (spliced (backTo pos (starEach es X.env))) (AP X pins σ Q) X.xe s
def semAT (X : Cx) (es : List Expr) : TA := fun σ H Q => SemAT X es σ H Q
theorem patS {X : Cx} (es : List Expr) : PAT X es (semAT X es) := fun pos pins s σ H Q h0 I h => h.run pos pins s h0 I
theorem semAT_of {X : Cx} {es : List Expr} {t : TA} (h : PAT X es t) {σ : SS} {H : Hp} {Q : List V → Hp → Prop} (q : t σ H Q) : semAT X es σ H Q := ⟨fun pos pins s h0 I => h pos pins s σ H Q h0 I q⟩
def WAT (X : Cx) (g : G) (es : List Expr) (env : List Sl) (Φ : List Ar → Prop) (Ψ : Exc → Prop) : Prop :=
  ∀ (W : WX), Takes X W → ∀ (σ : SS) (F H : Hp), St X.K g F H σ env → HX X g env Ψ W σ →
    ∀ Q : List V → Hp → Prop, (∀ as vs F' H', Φ as → St X.K g F' H' σ env → Ex F F' → ArAll X.K F' σ vs as → Q vs H') → semAT X es σ H Q
section
variable {X : Cx} {g : G} {env env' : List Sl} {Ψ : Exc → Prop} {P : Po} {pos p p2 apos q cpos : Pos} {a e o : Expr} {es : List Expr} {Φ : List Ar → Prop} {c y z : Str} {j k : Nat} {c0 c1 : Pos}
theorem wat_nil (h : Φ []) : WAT X g [] env Φ Ψ := fun W tk σ F H st hx Q hQ => semAT_of pat_nil (hQ [] [] F H h st (Ex.refl F) trivial)
theorem wat_d (he : WE X g e env (fun d z => z = true ∧ WAT X g es env (fun as => Φ (.d d :: as)) Ψ) Ψ) (hs : starEach (e :: es) X.env = (false, eval e X.env) :: starEach es X.env := by rfl) : WAT X g (e :: es) env Φ Ψ := fun W tk σ F H st hx Q hQ => by
  refine semAT_of (pat_cons (CwR.PET.of (peS e)) (patS es) hs) ?_
  refine he W tk σ F H st hx _ fun d z v F1 H1 ⟨hz, hp⟩ s1 e1 r1 => ?_
  subst hz
  exact hp W tk σ F1 H1 s1 hx _ fun as vs F2 H2 hp2 s2 e2 r2 => hQ (.d d :: as) (v :: vs) F2 H2 hp2 s2 (e1.trans e2) ⟨dp_mono e2 _ _ r1, r2⟩
theorem wat_repl (he : WE X g o env (fun d _ => replM d y z fun r => WAT X g es env (fun as => Φ (.d r :: as)) Ψ) Ψ) (hyz : (y == z) = false := by decide)
    (hst : starEach [.Constant (.str y) j c0, .Constant (.str z) k c1] X.env = [(false, eval (.Constant (.str y) j c0) X.env), (false, eval (.Constant (.str z) k c1) X.env)] := by rfl)
    (hbase : attributeBase o "replace" X.env (eval o X.env) = eval o X.env := by rfl) (hline : (apos.endLine == pos.line) = true := by rfl)
    (hs : starEach (.Call (.Attribute o "replace" apos) [.Constant (.str y) j c0, .Constant (.str z) k c1] [] pos :: es) X.env = (false, eval (.Call (.Attribute o "replace" apos) [.Constant (.str y) j c0, .Constant (.str z) k c1] [] pos) X.env) :: starEach es X.env := by rfl) :
    WAT X g (.Call (.Attribute o "replace" apos) [.Constant (.str y) j c0, .Constant (.str z) k c1] [] pos :: es) env Φ Ψ := fun W tk σ F H st hx Q hQ => by
  refine semAT_of (pat_cons (CwR.pet_replC (peS o) hyz hst hbase hline) (patS es) hs) ?_
  refine he W tk σ F H st hx _ fun d z0 v F1 H1 hp s1 e1 r1 => ?_
  unfold replM at hp
  cases d with
  | str x =>
    have hv := rd_str r1
    subst hv
    dsimp only at hp
    exact ⟨x, rfl, hp.1, hp.2 W tk σ F1 H1 s1 hx _ fun as vs F2 H2 hp2 s2 e2 r2 => hQ (.d _ :: as) (_ :: vs) F2 H2 hp2 s2 (e1.trans e2) ⟨.str _, r2⟩⟩
  | _ => exact hp.elim
/-- text + c ahead: a token is out behind it -/
theorem pa_addT {ta : TE} {tr : TA} (ha : PE X a ta) (hr : PAT X es tr) (hs : starEach (.BinOp a .Add (.Constant (.str c) j p2) p :: es) X.env = (false, eval (.BinOp a .Add (.Constant (.str c) j p2) p) X.env) :: starEach es X.env := by rfl) :
    PA X (.BinOp a .Add (.Constant (.str c) j p2) p :: es) (fun σ H Q => ta σ H fun v H1 => ∃ x, v = .str x ∧ x.length + c.length ≤ sizeLine ∧ tr σ H1 fun vs H2 => Q (.str (x ++ c) :: vs) H2) := by
  refine ⟨fun pos pins s σ H Q I h => ?_⟩
  rw [hs]
  show wpAny _ _ (spliced ((false, eval (.BinOp a .Add (.Constant (.str c) j p2) p) X.env) :: backTo pos (starEach es X.env))) _ _ s
  refine Calls.spliced_cons (wpAny_BinOp (thn (ha.run pins s σ H _ I h) fun v s1 ⟨v', H1, I1, r1, x, ex, hz, q⟩ => Calls.Constant_str ?_))
  subst ex
  have I2 : Inv X pins σ H1 { s1 with toks := s1.toks + 1 } := I1.tok _
  refine wpAny_mono (PySem.wpAny_toks (op_add_str pins _ σ H1 (.str x) (.str c) v _ (fun w H2 => w = .str (x ++ c) ∧ H2 = H1) I2 r1 ⟨_, rfl⟩ ⟨x, c, rfl, rfl, hz, rfl, rfl⟩)) (fun u s3 ⟨hk, w, H3, I3, r3, e1, e2⟩ => ?_) fun _ _ z => z.2
  subst e1 e2
  have hk : s1.toks + 1 ≤ s3.toks := hk
  exact thn (hr pos pins s3 σ H3 _ (by omega) I3 q) fun us s4 ⟨xs, H4, I4, r4, q4⟩ => ⟨.str (x ++ c) :: xs, H4, I4, .cons r3 r4, q4⟩
theorem wa_addT (he : WE X g a env (fun d _ => addM d (.str c) fun r => WAT X g es env (fun as => Φ (.d r :: as)) Ψ) Ψ)
    (hs : starEach (.BinOp a .Add (.Constant (.str c) j p2) p :: es) X.env = (false, eval (.BinOp a .Add (.Constant (.str c) j p2) p) X.env) :: starEach es X.env := by rfl) : WAs X g (.BinOp a .Add (.Constant (.str c) j p2) p :: es) env Φ Ψ := fun W tk σ F H st hx Q hQ => by
  refine semA_of (pa_addT (peS a) (patS es) hs) ?_
  refine he W tk σ F H st hx _ fun d z0 v F1 H1 hp s1 e1 r1 => ?_
  cases d with
  | str x =>
    have hv := rd_str r1
    subst hv
    have hp : x.length + c.length ≤ sizeLine ∧ WAT X g es env (fun as => Φ (.d (.str (x ++ c)) :: as)) Ψ := hp
    exact ⟨x, rfl, hp.1, hp.2 W tk σ F1 H1 s1 hx _ fun as vs F2 H2 hp2 s2 e2 r2 => hQ (.d _ :: as) (_ :: vs) F2 H2 hp2 s2 (e1.trans e2) ⟨.str _, r2⟩⟩
  | _ => exact (show False from hp).elim
end
end TL
namespace TL
open PySem PySem.Spec PyProof.Rows L2 He LamX
theorem saysL_any {as : List Addr} {ex : List XF} {fa : List Fa} {fn : List DefD} {tf : List LamD} {h : Heap} (e : obsL ex fa fn tf h.get? (frT h.get? as) = (valD fn, true)) : SaysL ex fa fn tf h (frT h.get? as) := by
  have e1 : obsX ex fa fn (markK tf (frT h.get? as)) = valD fn := congrArg (fun z : AlL => z.1) e
  have e2 : lamB h.get? tf (frT h.get? as) = true := congrArg (fun z : AlL => z.2) e
  obtain ⟨h1, h2⟩ := ba e2
  obtain ⟨h3, h4⟩ := ba h2
  have key : ∀ p ∈ tf, PySem.W.codeHdIn (frT h.get? as) (cT (frT h.get? as) p.1).1 (cT (frT h.get? as) p.1).2 = true ∧ ∃ o, h.get? (cT (frT h.get? as) p.1).2 = some o ∧ emptyTab o = true := fun p hp => by
    obtain ⟨k1, k2⟩ := ba (List.all_eq_true.mp h1 p hp)
    refine ⟨k1, ?_⟩
    cases q : h.get? (cT (frT h.get? as) p.1).2 with
    | none => rw [q] at k2; cases k2
    | some o => rw [q] at k2; exact ⟨o, rfl, k2⟩
  exact ⟨e1, fun p hp => (key p hp).1, fun p hp => by
    obtain ⟨_, o, q, z⟩ := key p hp
    exact frT_none q z, fun p hp => by
    obtain ⟨_, o, q, z⟩ := key p hp
    rw [q, emptyTab_eq z], of_decide_eq_true h3, of_decide_eq_true h4⟩
def asS (g : Addr → Option Obj) (n : Nat) : List Addr := asD g n ++ [cStatics]
def obsSG (n : Nat) (ex : List XF) (fa : List Fa) (fn : List DefD) (tf : List LamD) (ts : List Tab) (g : Addr → Option Obj) : AlM := obsM ex fa fn tf ts g (frT g (asS g n))
def hookS (n : Nat) (ex : List XF) (fa : List Fa) (fn : List DefD) (tf : List LamD) (ts : List Tab) : PySem.W.Hook where
  α := AlM
  obs := fun s => obsSG n ex fa fn tf ts s.heap.get?
  val := fun w => valM fn ts w
  says := fun w h => ∃ K0 : Frag, K0.In h ∧ SaysL ex fa fn tf h K0 ∧ SaysTb tf ts w K0
  of := fun _ _ e => ⟨_, frT_in, saysL_any (congrArg (fun z : AlM => z.1) e), saysTb_of e⟩
  keeps := fun _ _ _ ⟨K0, hK, c, t⟩ k => ⟨K0, PySem.W.Frag.In.keeps hK k, ⟨c.x, c.hd, c.out, fun p hp => k _ _ (c.empty p hp), c.tabs, c.nd⟩, t⟩
theorem obsSG_eq {n : Nat} {ex : List XF} {fa : List Fa} {fn : List DefD} {tf : List LamD} {ts : List Tab} {g : Addr → Option Obj} {s : Shared} (h : ∀ a, g a = s.heap.get? a) : obsSG n ex fa fn tf ts g = (hookS n ex fa fn tf ts).obs s := by
  have e : g = s.heap.get? := funext h
  rw [e] <;> rfl
end TL
namespace Tx
open PySem PySem.Spec PyProof.Rows L2
set_option maxRecDepth 100000
def topS (i : Nat) : Stmt := PySem.Challenge.pw_pinchfold_k50_texts_of_no_deed.main.body.getD i (.Pass ⟨0, 0, 0, 0⟩)
abbrev s_is_name : Stmt := topS 8
abbrev s_is_letter : Stmt := topS 9
abbrev s_number_in : Stmt := topS 14
abbrev s_pair_in : Stmt := topS 15
abbrev s_plan_in : Stmt := topS 16
abbrev s_one_in : Stmt := topS 17
abbrev s_thing_in : Stmt := topS 18
abbrev s_deed_in : Stmt := topS 19
abbrev s_read_deed : Stmt := topS 20
abbrev s__law_alike : Stmt := topS 22
abbrev s__law_any_deed : Stmt := topS 23
abbrev s__law_bag : Stmt := topS 24
abbrev s__law_bent_text : Stmt := topS 25
abbrev s__law_cut_arc : Stmt := topS 26
abbrev s__law_deed_text : Stmt := topS 27
abbrev s__law_digits : Stmt := topS 28
abbrev s__law_drawn_plan : Stmt := topS 29
abbrev s__law_good_name : Stmt := topS 30
abbrev s__law_pair : Stmt := topS 31
abbrev s__law_plan : Stmt := topS 32
abbrev s__law_plan_read : Stmt := topS 33
abbrev s__law_plan_text : Stmt := topS 34
abbrev s__law_pull : Stmt := topS 35
abbrev s__law_read : Stmt := topS 36
abbrev s__law_told_text : Stmt := topS 37
abbrev s__law_whole : Stmt := topS 38
abbrev s_law : Stmt := topS 39
theorem sc_is_name : FnScope ["name", "sign"] ["name"] (defScope s_is_name) := ⟨rfl, rfl, rfl, by decide +kernel, rfl, by decide +kernel, by decide +kernel⟩
theorem sc_is_letter : FnScope ["letter"] ["letter"] (defScope s_is_letter) := ⟨rfl, rfl, rfl, by decide +kernel, rfl, by decide +kernel, by decide +kernel⟩
theorem sc_number_in : FnScope ["word", "sign"] ["word"] (defScope s_number_in) := ⟨rfl, rfl, rfl, by decide +kernel, rfl, by decide +kernel, by decide +kernel⟩
theorem sc_pair_in : FnScope ["word", "halves", "found", "half"] ["word"] (defScope s_pair_in) := ⟨rfl, rfl, rfl, by decide +kernel, rfl, by decide +kernel, by decide +kernel⟩
theorem sc_plan_in : FnScope ["word", "halves", "cuts", "half"] ["word"] (defScope s_plan_in) := ⟨rfl, rfl, rfl, by decide +kernel, rfl, by decide +kernel, by decide +kernel⟩
theorem sc_one_in : FnScope ["word", "good"] ["word", "good"] (defScope s_one_in) := ⟨rfl, rfl, rfl, by decide +kernel, rfl, by decide +kernel, by decide +kernel⟩
theorem sc_thing_in : FnScope ["word", "sign"] ["word", "sign"] (defScope s_thing_in) := ⟨rfl, rfl, rfl, by decide +kernel, rfl, by decide +kernel, by decide +kernel⟩
theorem sc_deed_in : FnScope ["text", "words", "found", "word", "sign"] ["text"] (defScope s_deed_in) := ⟨rfl, rfl, rfl, by decide +kernel, rfl, by decide +kernel, by decide +kernel⟩
theorem sc_read_deed : FnScope ["text", "found"] ["text"] (defScope s_read_deed) := ⟨rfl, rfl, rfl, by decide +kernel, rfl, by decide +kernel, by decide +kernel⟩
theorem sc__law_alike : FnScope ["_law_found", "_law_due", "_law_at"] ["_law_found", "_law_due"] (defScope s__law_alike) := ⟨rfl, rfl, rfl, by decide +kernel, rfl, by decide +kernel, by decide +kernel⟩
theorem sc__law_any_deed : FnScope ["_law_bag_here", "_law_words", "_law_word", "_law_name", "_law_k", "_law_plan_here", "_law_some", "_law_slot"] ["_law_bag_here"] (defScope s__law_any_deed) := ⟨rfl, rfl, rfl, by decide +kernel, rfl, by decide +kernel, by decide +kernel⟩
theorem sc__law_bag : FnScope ["_law_script", "_law_cells", "_law_one", "_law_salt"] ["_law_script"] (defScope s__law_bag) := ⟨rfl, rfl, rfl, by decide +kernel, rfl, by decide +kernel, by decide +kernel⟩
theorem sc__law_bent_text : FnScope ["_law_bag_here", "_law_text", "_law_at", "_law_sign", "_law_way", "_law_words", "_law_one", "_law_odd"] ["_law_bag_here", "_law_text"] (defScope s__law_bent_text) := ⟨rfl, rfl, rfl, by decide +kernel, rfl, by decide +kernel, by decide +kernel⟩
theorem sc__law_cut_arc : FnScope ["_law_bag_here", "_law_start", "_law_end", "_law_found", "_law_wide", "_law_way", "_law_middle"] ["_law_bag_here", "_law_start", "_law_end", "_law_found"] (defScope s__law_cut_arc) := ⟨rfl, rfl, rfl, by decide +kernel, rfl, by decide +kernel, by decide +kernel⟩
theorem sc__law_deed_text : FnScope ["_law_deed", "_law_words", "_law_thing"] ["_law_deed"] (defScope s__law_deed_text) := ⟨rfl, rfl, rfl, by decide +kernel, rfl, by decide +kernel, by decide +kernel⟩
theorem sc__law_digits : FnScope ["_law_word", "_law_sign"] ["_law_word"] (defScope s__law_digits) := ⟨rfl, rfl, rfl, by decide +kernel, rfl, by decide +kernel, by decide +kernel⟩
theorem sc__law_drawn_plan : FnScope ["_law_bag_here", "_law_faces", "_law_rows", "_law_low", "_law_high"] ["_law_bag_here", "_law_faces"] (defScope s__law_drawn_plan) := ⟨rfl, rfl, rfl, by decide +kernel, rfl, by decide +kernel, by decide +kernel⟩
theorem sc__law_good_name : FnScope ["_law_name", "_law_sign"] ["_law_name"] (defScope s__law_good_name) := ⟨rfl, rfl, rfl, by decide +kernel, rfl, by decide +kernel, by decide +kernel⟩
theorem sc__law_pair : FnScope ["_law_one", "_law_other"] ["_law_one", "_law_other"] (defScope s__law_pair) := ⟨rfl, rfl, rfl, by decide +kernel, rfl, by decide +kernel, by decide +kernel⟩
theorem sc__law_plan : FnScope ["_law_bag_here", "_law_most", "_law_faces"] ["_law_bag_here", "_law_most"] (defScope s__law_plan) := ⟨rfl, rfl, rfl, by decide +kernel, rfl, by decide +kernel, by decide +kernel⟩
theorem sc__law_plan_read : FnScope ["_law_word", "_law_halves", "_law_cuts", "_law_piece", "_law_corners", "_law_half"] ["_law_word"] (defScope s__law_plan_read) := ⟨rfl, rfl, rfl, by decide +kernel, rfl, by decide +kernel, by decide +kernel⟩
theorem sc__law_plan_text : FnScope ["_law_plan_here", "_law_low", "_law_high"] ["_law_plan_here"] (defScope s__law_plan_text) := ⟨rfl, rfl, rfl, by decide +kernel, rfl, by decide +kernel, by decide +kernel⟩
theorem sc__law_pull : FnScope ["_law_bag_here", "_law_many", "_law_seed", "_law_blend", "_law_drawn"] ["_law_bag_here", "_law_many"] (defScope s__law_pull) := ⟨rfl, rfl, rfl, by decide +kernel, rfl, by decide +kernel, by decide +kernel⟩
theorem sc__law_read : FnScope ["_law_text", "_law_forms", "_law_words", "_law_found", "_law_word", "_law_sign", "_law_good", "_law_thing"] ["_law_text"] (defScope s__law_read) := ⟨rfl, rfl, rfl, by decide +kernel, rfl, by decide +kernel, by decide +kernel⟩
theorem sc__law_told_text : FnScope ["_law_text", "_law_found", "e"] ["_law_text"] (defScope s__law_told_text) := ⟨rfl, rfl, rfl, by decide +kernel, rfl, by decide +kernel, by decide +kernel⟩
theorem sc__law_whole : FnScope ["_law_found"] ["_law_found"] (defScope s__law_whole) := ⟨rfl, rfl, rfl, by decide +kernel, rfl, by decide +kernel, by decide +kernel⟩
theorem sc_law : FnScope ["_law_script", "_law_bag_here", "_law_turn", "_law_text", "_law_bend", "_law_due"] ["_law_script"] (defScope s_law) := ⟨rfl, rfl, rfl, by decide +kernel, rfl, by decide +kernel, by decide +kernel⟩
abbrev s_BadText__init : Stmt := inClass (topS 2) 0
theorem sc_BadText__init : FnScope ["self", "at"] ["self", "at"] (defScope s_BadText__init) := ⟨rfl, rfl, rfl, by decide +kernel, rfl, by decide +kernel, by decide +kernel⟩
end Tx
namespace Tx
namespace Hd
open PySem PySem.Spec PyProof.Rows L2 TL
def d_is_name : He.DefD := ⟨("is_name", none), "is_name", "is_name", defArgs s_is_name, defBody s_is_name, defScope s_is_name, [], []⟩
def d_is_letter : He.DefD := ⟨("is_letter", none), "is_letter", "is_letter", defArgs s_is_letter, defBody s_is_letter, defScope s_is_letter, [], []⟩
def d_number_in : He.DefD := ⟨("number_in", none), "number_in", "number_in", defArgs s_number_in, defBody s_number_in, defScope s_number_in, [], []⟩
def d_pair_in : He.DefD := ⟨("pair_in", none), "pair_in", "pair_in", defArgs s_pair_in, defBody s_pair_in, defScope s_pair_in, [], []⟩
def d_plan_in : He.DefD := ⟨("plan_in", none), "plan_in", "plan_in", defArgs s_plan_in, defBody s_plan_in, defScope s_plan_in, [], []⟩
def d_one_in : He.DefD := ⟨("one_in", none), "one_in", "one_in", defArgs s_one_in, defBody s_one_in, defScope s_one_in, [], []⟩
def d_thing_in : He.DefD := ⟨("thing_in", none), "thing_in", "thing_in", defArgs s_thing_in, defBody s_thing_in, defScope s_thing_in, [], []⟩
def d_deed_in : He.DefD := ⟨("deed_in", none), "deed_in", "deed_in", defArgs s_deed_in, defBody s_deed_in, defScope s_deed_in, [], []⟩
def d_read_deed : He.DefD := ⟨("read_deed", none), "read_deed", "read_deed", defArgs s_read_deed, defBody s_read_deed, defScope s_read_deed, [], []⟩
def d__law_alike : He.DefD := ⟨("_law_alike", none), "_law_alike", "_law_alike", defArgs s__law_alike, defBody s__law_alike, defScope s__law_alike, [], []⟩
def d__law_any_deed : He.DefD := ⟨("_law_any_deed", none), "_law_any_deed", "_law_any_deed", defArgs s__law_any_deed, defBody s__law_any_deed, defScope s__law_any_deed, [], []⟩
def d__law_bag : He.DefD := ⟨("_law_bag", none), "_law_bag", "_law_bag", defArgs s__law_bag, defBody s__law_bag, defScope s__law_bag, [], []⟩
def d__law_bent_text : He.DefD := ⟨("_law_bent_text", none), "_law_bent_text", "_law_bent_text", defArgs s__law_bent_text, defBody s__law_bent_text, defScope s__law_bent_text, [], []⟩
def d__law_cut_arc : He.DefD := ⟨("_law_cut_arc", none), "_law_cut_arc", "_law_cut_arc", defArgs s__law_cut_arc, defBody s__law_cut_arc, defScope s__law_cut_arc, [], []⟩
def d__law_deed_text : He.DefD := ⟨("_law_deed_text", none), "_law_deed_text", "_law_deed_text", defArgs s__law_deed_text, defBody s__law_deed_text, defScope s__law_deed_text, [], []⟩
def d__law_digits : He.DefD := ⟨("_law_digits", none), "_law_digits", "_law_digits", defArgs s__law_digits, defBody s__law_digits, defScope s__law_digits, [], []⟩
def d__law_drawn_plan : He.DefD := ⟨("_law_drawn_plan", none), "_law_drawn_plan", "_law_drawn_plan", defArgs s__law_drawn_plan, defBody s__law_drawn_plan, defScope s__law_drawn_plan, [], []⟩
def d__law_good_name : He.DefD := ⟨("_law_good_name", none), "_law_good_name", "_law_good_name", defArgs s__law_good_name, defBody s__law_good_name, defScope s__law_good_name, [], []⟩
def d__law_pair : He.DefD := ⟨("_law_pair", none), "_law_pair", "_law_pair", defArgs s__law_pair, defBody s__law_pair, defScope s__law_pair, [], []⟩
def d__law_plan : He.DefD := ⟨("_law_plan", none), "_law_plan", "_law_plan", defArgs s__law_plan, defBody s__law_plan, defScope s__law_plan, [], []⟩
def d__law_plan_read : He.DefD := ⟨("_law_plan_read", none), "_law_plan_read", "_law_plan_read", defArgs s__law_plan_read, defBody s__law_plan_read, defScope s__law_plan_read, [], []⟩
def d__law_plan_text : He.DefD := ⟨("_law_plan_text", none), "_law_plan_text", "_law_plan_text", defArgs s__law_plan_text, defBody s__law_plan_text, defScope s__law_plan_text, [], []⟩
def d__law_pull : He.DefD := ⟨("_law_pull", none), "_law_pull", "_law_pull", defArgs s__law_pull, defBody s__law_pull, defScope s__law_pull, [], []⟩
def d__law_read : He.DefD := ⟨("_law_read", none), "_law_read", "_law_read", defArgs s__law_read, defBody s__law_read, defScope s__law_read, [], []⟩
def d__law_told_text : He.DefD := ⟨("_law_told_text", none), "_law_told_text", "_law_told_text", defArgs s__law_told_text, defBody s__law_told_text, defScope s__law_told_text, [], []⟩
def d__law_whole : He.DefD := ⟨("_law_whole", none), "_law_whole", "_law_whole", defArgs s__law_whole, defBody s__law_whole, defScope s__law_whole, [], []⟩
def d_law : He.DefD := ⟨("law", none), "law", "law", defArgs s_law, defBody s_law, defScope s_law, [], []⟩
def d_BadText__init : He.DefD := ⟨("BadText", some "__init__"), "__init__", "BadText.__init__", defArgs s_BadText__init, defBody s_BadText__init, defScope s_BadText__init, [], []⟩
def fn : List He.DefD := [d_is_name, d_is_letter, d_number_in, d_pair_in, d_plan_in, d_one_in, d_thing_in, d_deed_in, d_read_deed, d__law_alike, d__law_any_deed, d__law_bag, d__law_bent_text, d__law_cut_arc, d__law_deed_text, d__law_digits, d__law_drawn_plan, d__law_good_name, d__law_pair, d__law_plan, d__law_plan_read, d__law_plan_text, d__law_pull, d__law_read, d__law_told_text, d__law_whole, d_law, d_BadText__init]
def fa : List He.Fa := [.glo "is_name",
  .glo "is_letter",
  .glo "number_in",
  .glo "pair_in",
  .glo "plan_in",
  .glo "one_in",
  .glo "thing_in",
  .glo "deed_in",
  .glo "read_deed",
  .glo "_law_alike",
  .glo "_law_any_deed",
  .glo "_law_bag",
  .glo "_law_bent_text",
  .glo "_law_cut_arc",
  .glo "_law_deed_text",
  .glo "_law_digits",
  .glo "_law_drawn_plan",
  .glo "_law_good_name",
  .glo "_law_pair",
  .glo "_law_plan",
  .glo "_law_plan_read",
  .glo "_law_plan_text",
  .glo "_law_pull",
  .glo "_law_read",
  .glo "_law_told_text",
  .glo "_law_whole",
  .glo "law",
  .glo "PinchError",
  .glo "BadText",
  .free "abs",
  .free "all",
  .free "bool",
  .free "int",
  .free "isinstance",
  .free "len",
  .free "list",
  .free "max",
  .free "min",
  .free "range",
  .free "sorted",
  .free "str",
  .free "tuple",
  .free "zip",
  .glo "WAYS",
  .str "SIGNS" "abcdefghijklmnopqrstuvwxyz",
  .int "LONGEST" 8,
  .glo "COLOURS",
  .str "FIGURES" "0123456789",
  .int "MOST_FIGURES" 4,
  .glo "FORMS",
  .exc "PinchError",
  .exm "BadText" "BadText" true]
def xf : List XF := [fun K => He.tupB K "WAYS" [.str "even", .str "odd"],
  fun K => He.tupB K "COLOURS" [.str "red", .str "blue", .str "gold"],
  fun K => He.valsB K (He.ga K "FORMS") [("fold", .str "np"), ("drop", .str "n"), ("pinch", .str "nw"), ("unpinch", .str "nw"), ("over", .str "n"), ("about", .str "n"), ("paint", .str "nsc"), ("mark", .str "nsl"), ("wash", .str "ns"), ("unfold", .str "n"), ("refold", .str "np")],
  fun K => exfB K "BadText" ["at"],
  fun K => pinB K (He.ga K "PinchError")]
abbrev R : PySem.W.OpenRow := PySem.W.OpenLaw.row PySem.Challenge.rw_pinchfold_k50_texts_of_no_deed
def tf : List LamD := []
def ts : List He.Tab := [(fun K => He.ga K "FORMS", ["fold", "drop", "pinch", "unpinch", "over", "about", "paint", "mark", "wash", "unfold", "refold"])]
abbrev hk : PySem.W.Hook := hookS 4 xf fa fn tf ts
def ob (s : PySem.W.SharedT) : AlM := obsSG 4 xf fa fn tf ts (HandSHeadRun.getT s)
theorem ob_eq (s : PySem.W.SharedT) : ob s = hk.obs s.abs := obsSG_eq (HandSHeadRun.getT_eq s)
def loose : List PySem.Str := (["PinchError", "BadText", "WAYS", "SIGNS", "LONGEST", "COLOURS", "is_name", "is_letter", "FIGURES", "MOST_FIGURES", "FORMS", "number_in", "pair_in", "plan_in", "one_in", "thing_in", "deed_in", "read_deed", "_law_alike", "_law_any_deed", "_law_bag", "_law_bent_text", "_law_cut_arc", "_law_deed_text", "_law_digits", "_law_drawn_plan", "_law_good_name", "_law_pair", "_law_plan", "_law_plan_read"] : List PySem.Str) ++ (["_law_plan_text", "_law_pull", "_law_read", "_law_told_text", "_law_whole"] : List PySem.Str)
theorem run_false (w : World) : HandSHeadRun.RunEq R (PySem.W.view R.prog [39]) hk ob 6000 loose (w.withFollow "special-get-raises" false) := by
  intro os
  kernel_rfl
theorem run_true (w : World) : HandSHeadRun.RunEq R (PySem.W.view R.prog [39]) hk ob 6000 loose (w.withFollow "special-get-raises" true) := by
  intro os
  kernel_rfl
theorem run (w : World) : HandSHeadRun.RunEq R (PySem.W.view R.prog [39]) hk ob 6000 loose w := PySem.W.byRow2 "special-get-raises" (P := fun w => HandSHeadRun.RunEq R (PySem.W.view R.prog [39]) hk ob 6000 loose w) run_false run_true w
end Hd
end Tx
namespace Tx
open PySem PySem.Spec PyProof.Rows L2 TL
def lePP (p q : Int × Int) : Bool := decide (p.1 < q.1 ∨ (p.1 = q.1 ∧ p.2 ≤ q.2))
def ltPP (p q : Int × Int) : Bool := decide (p.1 < q.1 ∨ (p.1 = q.1 ∧ p.2 < q.2))
def sortPP (ps : List (Int × Int)) : List (Int × Int) := ps.mergeSort lePP
theorem srt_pp (ps : List (Int × Int)) : srt (ps.map ppD) = (sortPP ps).map ppD := by
  unfold srt sortPP
  have e := PySem.W.dataLe_ii (β := Int × Int) (fun p => p.1) (fun p => p.2)
  refine (List.map_mergeSort (r := lePP) (s := PySem.W.dataLe false id) fun a _ b _ => ?_).symm
  have e2 := congrFun (congrFun e a) b
  exact e2.symm
def planD (n : Int) (cs : List PyData) : PyData := .tuple [.int n, .tuple cs]
abbrev plD (n : Int) (cs : List (Int × Int)) : PyData := planD n (cs.map ppD)
def nrm (n : Int) (p : Int × Int) : Int × Int := (if p.2 % n < p.1 then p.2 % n else p.1, if p.2 % n > p.1 then p.2 % n else p.1)
def inF (p : Int × Int) (c : Int) : Bool := !decide (c = p.1) && !decide (c = p.2)
def inG (p : Int × Int) (c : Int) : Bool := decide (p.1 < c) && decide (c < p.2)
def two : List Bool → Bool
  | [a, b] => !decide (a = b)
  | _ => false
def crossB (p q : Int × Int) : Bool := two (([q.1, q.2].filter (inF p)).map (inG p))
theorem eqv_ii (a b c d : Int) : PyData.eqv (.tuple [.int a, .int b]) (.tuple [.int c, .int d]) = decide (a = c ∧ b = d) := by
  simp only [PyData.eqv, PyData.eqvAll, Bool.and_true]
  by_cases h1 : a = c
  · by_cases h2 : b = d
    · simp [h1, h2]
    · simp [h1, h2]
  · simp [h1]
theorem ltPP_lex (p q : Int × Int) : HT.lexLt [p.1, p.2] [q.1, q.2] = ltPP p q := by
  unfold ltPP
  rw [HT.lexLt_cons, HT.lexLt_cons, HT.lexLt_nil_nil]
  by_cases h : p.1 = q.1
  · rw [if_pos h]
    by_cases h2 : p.2 = q.2
    · rw [if_pos h2]; symm; apply decide_eq_false; omega
    · rw [if_neg h2]; apply decide_eq_decide.mpr; omega
  · rw [if_neg h]; apply decide_eq_decide.mpr; omega
structure IsPlan (n : Int) (cs : List (Int × Int)) : Prop where
  lo : 3 ≤ n
  hi : n ≤ 40
  len : (cs.length : Int) = n - 3
  cut : ∀ c ∈ cs, 0 ≤ c.1 ∧ c.1 + 1 < c.2 ∧ c.2 < n ∧ ¬ (c.1 = 0 ∧ c.2 = n - 1)
  srt : cs.Pairwise fun p q => ltPP p q = true
  noc : ∀ c ∈ cs, ∀ d ∈ cs, crossB c d = false
theorem inF_t {p : Int × Int} {c : Int} (h1 : c ≠ p.1) (h2 : c ≠ p.2) : inF p c = true := by unfold inF; simp [h1, h2]
theorem inF_1 {p : Int × Int} {c : Int} (h1 : c = p.1) : inF p c = false := by unfold inF; simp [h1]
theorem inF_2 {p : Int × Int} {c : Int} (h1 : c = p.2) : inF p c = false := by unfold inF; simp [h1]
theorem cross_eq (p q : Int × Int) : crossB p q = decide (q.1 ≠ p.1 ∧ q.1 ≠ p.2 ∧ q.2 ≠ p.1 ∧ q.2 ≠ p.2 ∧ ¬ ((p.1 < q.1 ∧ q.1 < p.2) ↔ (p.1 < q.2 ∧ q.2 < p.2))) := by
  unfold crossB
  have k1 : ∀ x y : Bool, inF p q.1 = x → inF p q.2 = y → two (([q.1, q.2].filter (inF p)).map (inG p)) = (x && y && !decide (inG p q.1 = inG p q.2)) := fun x y h1 h2 => by
    cases x <;> cases y <;> simp [List.filter, h1, h2, two]
  have g : ∀ c, inG p c = decide (p.1 < c ∧ c < p.2) := fun c => by unfold inG; simp
  have key : (!decide (inG p q.1 = inG p q.2)) = decide (¬ ((p.1 < q.1 ∧ q.1 < p.2) ↔ (p.1 < q.2 ∧ q.2 < p.2))) := by
    rw [g, g]
    by_cases a : p.1 < q.1 ∧ q.1 < p.2 <;> by_cases b : p.1 < q.2 ∧ q.2 < p.2 <;> simp [a, b]
  by_cases h1 : q.1 = p.1
  · rw [k1 _ _ (inF_1 h1) rfl]; simp [h1]
  · by_cases h2 : q.1 = p.2
    · rw [k1 _ _ (inF_2 h2) rfl]; simp [h2]
    · by_cases h3 : q.2 = p.1
      · rw [k1 _ _ rfl (inF_1 h3)]; simp [h3]
      · by_cases h4 : q.2 = p.2
        · rw [k1 _ _ rfl (inF_2 h4)]; simp [h4]
        · rw [k1 _ _ (inF_t h1 h2) (inF_t h3 h4), key]
          apply decide_eq_decide.mpr
          constructor
          · exact fun h => ⟨h1, h2, h3, h4, h⟩
          · exact fun h => h.2.2.2.2
theorem lePP_total (p q : Int × Int) : (lePP p q || lePP q p) = true := by
  unfold lePP
  by_cases h : p.1 < q.1 ∨ (p.1 = q.1 ∧ p.2 ≤ q.2)
  · rw [decide_eq_true h]; rfl
  · rw [decide_eq_true (show q.1 < p.1 ∨ (q.1 = p.1 ∧ q.2 ≤ p.2) by omega), Bool.or_true]
theorem lePP_trans (p q r : Int × Int) (h1 : lePP p q = true) (h2 : lePP q r = true) : lePP p r = true := by
  unfold lePP at *
  have h1 := of_decide_eq_true h1
  have h2 := of_decide_eq_true h2
  apply decide_eq_true
  omega
theorem sortPP_perm (ps : List (Int × Int)) : (sortPP ps).Perm ps := List.mergeSort_perm ps lePP
theorem sortPP_lt {ps : List (Int × Int)} (nd : ps.Nodup) : (sortPP ps).Pairwise fun p q => ltPP p q = true := by
  have h1 : (sortPP ps).Pairwise fun p q => lePP p q = true := List.pairwise_mergeSort lePP_trans lePP_total ps
  have h2 : (sortPP ps).Nodup := (sortPP_perm ps).nodup_iff.mpr nd
  refine (h1.and h2).imp fun {p q} h => ?_
  have h3 := of_decide_eq_true h.1
  have h4 : p ≠ q := h.2
  apply decide_eq_true
  have : ¬ (p.1 = q.1 ∧ p.2 = q.2) := fun z => h4 (Prod.ext z.1 z.2)
  omega
inductive Arcs : Int → Int → List (Int × Int) → Prop
  | leaf {s e : Int} : e - s ≤ 1 → Arcs s e []
  | node {s m e : Int} {a b : List (Int × Int)} : s < m → m < e → Arcs s m a → Arcs m e b → Arcs s e ((s, m) :: (m, e) :: (a ++ b))
theorem Arcs.len {s e : Int} {l : List (Int × Int)} (h : Arcs s e l) (hs : s < e) : (l.length : Int) ≤ 2 * (e - s) - 2 := by
  induction h with
  | leaf h => simp; omega
  | node h1 h2 _ _ ia ib =>
    have := ia h1
    have := ib h2
    simp only [List.length_cons, List.length_append]
    omega
def wide (p : Int × Int) : Bool := decide (p.2 - p.1 > 1)
def lam (p q : Int × Int) : Prop := p.2 ≤ q.1 ∨ q.2 ≤ p.1 ∨ (p.1 ≤ q.1 ∧ q.2 ≤ p.2) ∨ (q.1 ≤ p.1 ∧ p.2 ≤ q.2)
theorem Arcs.within {s e : Int} {l : List (Int × Int)} (h : Arcs s e l) (hs : s < e) : ∀ p ∈ l, s ≤ p.1 ∧ p.1 < p.2 ∧ p.2 ≤ e ∧ ¬ (p.1 = s ∧ p.2 = e) := by
  induction h with
  | leaf h => intro p hp; cases hp
  | node h1 h2 _ _ ia ib =>
    intro p hp
    rcases List.mem_cons.mp hp with rfl | hp
    · exact ⟨Int.le_refl _, h1, by omega, by omega⟩
    · rcases List.mem_cons.mp hp with rfl | hp
      · exact ⟨by omega, h2, Int.le_refl _, by omega⟩
      · rcases List.mem_append.mp hp with hp | hp
        · have := ia h1 p hp; omega
        · have := ib h2 p hp; omega
theorem Arcs.lams {s e : Int} {l : List (Int × Int)} (h : Arcs s e l) (hs : s < e) : ∀ p ∈ l, ∀ q ∈ l, lam p q := by
  induction h with
  | leaf h => intro p hp; cases hp
  | @node s m e a b h1 h2 ha hb ia ib =>
    have wa := ha.within h1
    have wb := hb.within h2
    have cases4 : ∀ p ∈ (s, m) :: (m, e) :: (a ++ b), p = (s, m) ∨ p = (m, e) ∨ p ∈ a ∨ p ∈ b := fun p hp => by
      rcases List.mem_cons.mp hp with h | hp
      · exact .inl h
      · rcases List.mem_cons.mp hp with h | hp
        · exact .inr (.inl h)
        · rcases List.mem_append.mp hp with h | h
          · exact .inr (.inr (.inl h))
          · exact .inr (.inr (.inr h))
    intro p hp q hq
    rcases cases4 p hp with rfl | rfl | hp | hp <;> rcases cases4 q hq with rfl | rfl | hq | hq
    all_goals first
      | exact ia h1 p hp q hq
      | exact ib h2 p hp q hq
      | (unfold lam; (try have x1 := wa p hp); (try have x2 := wb p hp); (try have x3 := wa q hq); (try have x4 := wb q hq); (try simp only at *); omega)
theorem Arcs.nodup {s e : Int} {l : List (Int × Int)} (h : Arcs s e l) (hs : s < e) : l.Nodup := by
  induction h with
  | leaf h => exact List.nodup_nil
  | @node s m e a b h1 h2 ha hb ia ib =>
    have wa := ha.within h1
    have wb := hb.within h2
    refine List.nodup_cons.mpr ⟨fun hm => ?_, List.nodup_cons.mpr ⟨fun hm => ?_, List.nodup_append.mpr ⟨ia h1, ib h2, fun x hx y hy z => ?_⟩⟩⟩
    · rcases List.mem_cons.mp hm with h | hm
      · have := congrArg Prod.fst h; simp only at this; omega
      · rcases List.mem_append.mp hm with h | h
        · exact (wa _ h).2.2.2 ⟨rfl, rfl⟩
        · exact absurd (show m ≤ s from (wb _ h).1) (by omega)
    · rcases List.mem_append.mp hm with h | h
      · exact absurd (show e ≤ m from (wa _ h).2.2.1) (by omega)
      · exact (wb _ h).2.2.2 ⟨rfl, rfl⟩
    · subst z
      have := wa _ hx
      have := wb _ hy
      omega
theorem Arcs.wides {s e : Int} {l : List (Int × Int)} (h : Arcs s e l) (hs : s < e) : ((l.filter wide).length : Int) = if e - s ≤ 1 then 0 else e - s - 2 := by
  induction h with
  | leaf h => rw [if_pos h]; rfl
  | @node s m e a b h1 h2 ha hb ia ib =>
    have x := ia h1
    have y := ib h2
    rw [if_neg (by omega)]
    have w1 : wide (s, m) = decide (m - s > 1) := rfl
    have w2 : wide (m, e) = decide (e - m > 1) := rfl
    by_cases c1 : m - s ≤ 1 <;> by_cases c2 : e - m ≤ 1
    all_goals
      (first | rw [if_pos c1] at x | rw [if_neg c1] at x)
      (first | rw [if_pos c2] at y | rw [if_neg c2] at y)
      have d1 : decide (m - s > 1) = !decide (m - s ≤ 1) := by by_cases h : m - s ≤ 1 <;> simp [h] <;> omega
      have d2 : decide (e - m > 1) = !decide (e - m ≤ 1) := by by_cases h : e - m ≤ 1 <;> simp [h] <;> omega
      simp only [List.filter_cons, List.filter_append, w1, w2, d1, d2, c1, c2, decide_true, decide_false, Bool.not_true, Bool.not_false, if_true, if_false, List.length_cons, List.length_append, Bool.false_eq_true]
      omega
/-- what a drawn row of arcs gives is a good plan -/
theorem arcs_plan {n : Int} {l : List (Int × Int)} (h3 : 3 ≤ n) (h40 : n ≤ 40) (h : Arcs 1 n l) : IsPlan n (sortPP ((l.filter wide).map (nrm n))) := by
  have hn : (1 : Int) < n := by omega
  have hw := h.within hn
  have hlm := h.lams hn
  have hlen := h.wides hn
  rw [if_neg (by omega)] at hlen
  have val : ∀ p ∈ l.filter wide, (p.2 < n ∧ nrm n p = p) ∨ (p.2 = n ∧ nrm n p = (0, p.1)) := fun p hp => by
    have hp1 := (List.mem_filter.mp hp).1
    have w := hw p hp1
    by_cases e : p.2 = n
    · right
      refine ⟨e, ?_⟩
      unfold nrm
      rw [e, Int.emod_self, if_pos (by omega), if_neg (by omega)]
    · left
      refine ⟨by omega, ?_⟩
      unfold nrm
      rw [Int.emod_eq_of_lt (by omega) (by omega), if_neg (by omega), if_pos (by omega)]
  have facts : ∀ p ∈ l.filter wide, 1 ≤ p.1 ∧ p.1 + 1 < p.2 ∧ p.2 ≤ n ∧ ¬ (p.1 = 1 ∧ p.2 = n) := fun p hp => by
    obtain ⟨hp1, hp2⟩ := List.mem_filter.mp hp
    have w := hw p hp1
    have w2 : p.2 - p.1 > 1 := of_decide_eq_true hp2
    omega
  have nd : ((l.filter wide).map (nrm n)).Nodup := by
    have nd0 : (l.filter wide).Nodup := (h.nodup hn).filter _
    refine List.pairwise_map.mpr (nd0.imp_of_mem fun {p q} hp hq hne z => hne ?_)
    have f1 := facts p hp
    have f2 := facts q hq
    rcases val p hp with ⟨a1, a2⟩ | ⟨a1, a2⟩ <;> rcases val q hq with ⟨b1, b2⟩ | ⟨b1, b2⟩
    · rw [a2, b2] at z; exact z
    · rw [a2, b2] at z
      have := congrArg Prod.fst z; simp only at this; omega
    · rw [a2, b2] at z
      have := congrArg Prod.fst z; simp only at this; omega
    · rw [a2, b2] at z
      have := congrArg Prod.snd z; simp only at this
      exact Prod.ext this (by omega)
  have mem : ∀ c ∈ sortPP ((l.filter wide).map (nrm n)), ∃ p ∈ l.filter wide, nrm n p = c := fun c hc => List.mem_map.mp ((sortPP_perm _).mem_iff.mp hc)
  refine ⟨h3, h40, ?_, fun c hc => ?_, sortPP_lt nd, fun c hc d hd => ?_⟩
  · rw [(sortPP_perm _).length_eq, List.length_map]; omega
  · obtain ⟨p, hp, rfl⟩ := mem c hc
    have f1 := facts p hp
    rcases val p hp with ⟨a1, a2⟩ | ⟨a1, a2⟩
    · rw [a2]; omega
    · rw [a2]; simp only; omega
  · obtain ⟨p, hp, rfl⟩ := mem c hc
    obtain ⟨q, hq, rfl⟩ := mem d hd
    have f1 := facts p hp
    have f2 := facts q hq
    have L := hlm p (List.mem_filter.mp hp).1 q (List.mem_filter.mp hq).1
    unfold lam at L
    rw [cross_eq]
    apply decide_eq_false
    rcases val p hp with ⟨a1, a2⟩ | ⟨a1, a2⟩ <;> rcases val q hq with ⟨b1, b2⟩ | ⟨b1, b2⟩ <;> rw [a2, b2] <;> (try simp only) <;> omega
def o__law_pair : CT := fun args Φ Ψ => ∃ i j : Int, args = [.d (.int i), .d (.int j)] ∧ Φ (.rd (ppD (if j < i then j else i, if j > i then j else i))) args
def absI (c : Int) : Int := if c < 0 then -c else c
theorem absI_nn (c : Int) : 0 ≤ absI c := by unfold absI; split <;> omega
def o__law_bag : CT := fun args Φ Ψ => ∃ ns : List Int, args = [.d (.list (ns.map .int))] ∧ ns.length ≤ 63 ∧ ∀ ds, BagD ds → Φ (.nl ds) args
def o__law_pull : CT := fun args Φ Ψ => ∃ (b : Addr) (many : Int), args = [.bg b, .d (.int many)] ∧ 0 < many ∧ many.natAbs < 2 ^ 8000 ∧ ∀ r : Int, 0 ≤ r → r < many → Φ (.rd (.int r)) args
def o__law_cut_arc (N : Nat) : CT := fun args Φ Ψ => ∃ (b : Addr) (st en : Int) (f : Addr) (ds : List PyData), args = [.bg b, .d (.int st), .d (.int en), .ol f ds] ∧ st < en ∧ en - st ≤ N ∧ (ds.length : Int) + 2 * (en - st) ≤ 10000 ∧ ∀ l, Arcs st en l → Φ (.ar 3) [.bg b, .d (.int st), .d (.int en), .ol f (ds ++ l.map ppD)]
/-- the plan of the lines within the arc 1 .. n -/
def planOf (n : Int) (l : List (Int × Int)) : List (Int × Int) := sortPP ((l.filter wide).map (nrm n))
def o__law_drawn_plan : CT := fun args Φ Ψ => ∃ (b : Addr) (n : Int), args = [.bg b, .d (.int n)] ∧ 3 ≤ n ∧ n ≤ 40 ∧ ∀ l, Arcs 1 n l → Φ (.rd (plD n (planOf n l))) args
theorem shp_pp (L : List (Int × Int)) : SeqAt.shaped (.list (L.map ppD)) = true := by
  have h1 : ∀ M : List (Int × Int), PyData.canLayAll0 (M.map ppD) = true ∧ PyData.depthAll (M.map ppD) ≤ 1 := fun M => by
    induction M with
    | nil => exact ⟨rfl, Nat.zero_le _⟩
    | cons a M ih =>
      refine ⟨?_, ?_⟩
      · show (PyData.canLay0 (ppD a) && PyData.canLayAll0 (M.map ppD)) = true
        rw [ih.1]; rfl
      · show max (PyData.depth (ppD a)) (PyData.depthAll (M.map ppD)) ≤ 1
        exact Nat.max_le.mpr ⟨Nat.le_of_ble_eq_true rfl, ih.2⟩
  unfold SeqAt.shaped
  have e1 : PyData.canLay0 (.list (L.map ppD)) = true := (h1 L).1
  have e2 : PyData.depth (.list (L.map ppD)) ≤ 64 := by
    show PyData.depthAll (L.map ppD) + 1 ≤ 64
    have := (h1 L).2
    omega
  rw [e1, decide_eq_true e2]
  rfl
theorem any_pp (L : List (Int × Int)) (p : Int × Int) : ((L.map ppD).any fun z => PyData.eqv z (ppD p)) = decide (p ∈ L) := by
  have e : ∀ q : Int × Int, PyData.eqv (ppD q) (ppD p) = decide (q = p) := fun q => by
    have h := eqv_ii q.1 q.2 p.1 p.2
    refine h.trans (decide_eq_decide.mpr ⟨fun z => Prod.ext z.1 z.2, fun z => by subst z; exact ⟨rfl, rfl⟩⟩)
  induction L with
  | nil => rfl
  | cons a L ih =>
    show (PyData.eqv (ppD a) (ppD p) || (L.map ppD).any fun z => PyData.eqv z (ppD p)) = _
    rw [e, ih]
    by_cases h1 : a = p
    · simp [h1]
    · by_cases h2 : p ∈ L
      · simp [h2]
      · have h3 : ¬ p = a := fun z => h1 z.symm
        simp [h1, h2, h3]
def o__law_whole : CT := fun args Φ Ψ => ∃ d, args = [.d d] ∧ Φ (.rd (.bool (isTyB "int" d && !isTyB "bool" d))) args
theorem ti_bool_bool (v : Bool) : isTyB "bool" (.bool v) = true := by show (L2.kitB "bool" "bool").getD false = true; decide +kernel
theorem ti_int_bool (v : Int) : isTyB "bool" (.int v) = false := by show (L2.kitB "int" "bool").getD false = false; decide +kernel
theorem ti_int_int (v : Int) : isTyB "int" (.int v) = true := by show (L2.kitB "int" "int").getD false = true; decide +kernel
theorem ti_str_bool (v : Str) : isTyB "bool" (.str v) = false := by show (L2.kitB "str" "bool").getD false = false; decide +kernel
theorem ti_str_int (v : Str) : isTyB "int" (.str v) = false := by show (L2.kitB "str" "int").getD false = false; decide +kernel
theorem ti_str_str (v : Str) : isTyB "str" (.str v) = true := by show (L2.kitB "str" "str").getD false = true; decide +kernel
theorem ti_list_bool (v : List PyData) : isTyB "bool" (.list v) = false := by show (L2.kitB "list" "bool").getD false = false; decide +kernel
theorem ti_list_int (v : List PyData) : isTyB "int" (.list v) = false := by show (L2.kitB "list" "int").getD false = false; decide +kernel
theorem ti_list_str (v : List PyData) : isTyB "str" (.list v) = false := by show (L2.kitB "list" "str").getD false = false; decide +kernel
theorem ti_list_list (v : List PyData) : isTyB "list" (.list v) = true := by show (L2.kitB "list" "list").getD false = true; decide +kernel
theorem ti_list_tuple (v : List PyData) : isTyB "tuple" (.list v) = false := by show (L2.kitB "list" "tuple").getD false = false; decide +kernel
theorem ti_tuple_bool (v : List PyData) : isTyB "bool" (.tuple v) = false := by show (L2.kitB "tuple" "bool").getD false = false; decide +kernel
theorem ti_tuple_int (v : List PyData) : isTyB "int" (.tuple v) = false := by show (L2.kitB "tuple" "int").getD false = false; decide +kernel
theorem ti_tuple_str (v : List PyData) : isTyB "str" (.tuple v) = false := by show (L2.kitB "tuple" "str").getD false = false; decide +kernel
theorem ti_tuple_list (v : List PyData) : isTyB "list" (.tuple v) = false := by show (L2.kitB "tuple" "list").getD false = false; decide +kernel
theorem ti_tuple_tuple (v : List PyData) : isTyB "tuple" (.tuple v) = true := by show (L2.kitB "tuple" "tuple").getD false = true; decide +kernel
def okD : Nat → PyData → Bool
  | _, .none => true
  | _, .bool _ => true
  | _, .int _ => true
  | _, .str _ => true
  | N + 1, .list xs => decide (xs.length ≤ 10000000) && xs.all (okD N)
  | N + 1, .tuple xs => decide (xs.length ≤ 10000000) && xs.all (okD N)
  | _, _ => false
def o__law_alike (N : Nat) : CT := fun args Φ Ψ => ∃ x, args = [.d x, .d x] ∧ okD N x = true ∧ Φ (.rd (.bool true)) args
end Tx
namespace Tx
open PySem PySem.Spec PyProof.Rows L2 TL
def f__law_pull : PyData → KD → KX → Prop
  | .int m, K, _ => (0 < m ∧ m.natAbs < 2 ^ 8000) ∧ ∀ r : Int, 0 ≤ r → r < m → K (.int r)
  | _, _, _ => False
def c__law_pull : CT := fun args Φ Ψ => ∃ (b : Addr) (m : PyData) (K : KD) (E : KX), args = [.bg b, .d m] ∧ f__law_pull m K E ∧ (∀ r, K r → Φ (.rd r) args) ∧ ∀ c, E c → Ψ c args
def f__law_drawn_plan : PyData → KD → KX → Prop
  | .int n, K, _ => (3 ≤ n ∧ n ≤ 40) ∧ ∀ l, Arcs 1 n l → K (plD n (planOf n l))
  | _, _, _ => False
def c__law_drawn_plan : CT := fun args Φ Ψ => ∃ (b : Addr) (m : PyData) (K : KD) (E : KX), args = [.bg b, .d m] ∧ f__law_drawn_plan m K E ∧ (∀ r, K r → Φ (.rd r) args) ∧ ∀ c, E c → Ψ c args
def f__law_alike (x y : PyData) (K : KD) (_ : KX) : Prop := x = y ∧ okD 8 x = true ∧ K (.bool true)
def c__law_alike : CT := fun args Φ Ψ => ∃ (x y : PyData) (K : KD) (E : KX), args = [.d x, .d y] ∧ f__law_alike x y K E ∧ (∀ r, K r → Φ (.rd r) args) ∧ ∀ c, E c → Ψ c args
section
variable {n : Int} {cs : List (Int × Int)} {p q : Int × Int} {K : KD} {K2 : PyData → PyData → Prop} {Kb : KB} {m : Int} {E : KX} {x y : PyData}
theorem p_un_pl : un2 (plD n cs) K2 = K2 (.int n) (.tuple (cs.map ppD)) := rfl
theorem p_ix_pl0 : ixM (plD n cs) (.int 0) K = K (.int n) := rfl
theorem p_ix_pl1 : ixM (plD n cs) (.int 1) K = K (.tuple (cs.map ppD)) := rfl
theorem p_un_pp : un2 (ppD p) K2 = K2 (.int p.1) (.int p.2) := rfl
theorem p_ix_pp0 : ixM (ppD p) (.int 0) K = K (.int p.1) := rfl
theorem p_ix_pp1 : ixM (ppD p) (.int 1) K = K (.int p.2) := rfl
theorem p_mk {i j : Int} : PyData.tuple [.int i, .int j] = ppD (i, j) := rfl
theorem shp_p (p : Int × Int) : SeqAt.shaped (ppD p) = true := rfl
theorem p_eq : eqM (ppD p) (ppD q) Kb = Kb (decide (p = q)) := by
  show (SeqAt.shaped (ppD p) = true ∧ SeqAt.shaped (ppD q) = true ∧ Kb (PyData.eqv (ppD p) (ppD q))) = _
  rw [show PyData.eqv (ppD p) (ppD q) = decide (p = q) by unfold ppD; rw [eqv_ii]; congr 1; exact propext ⟨fun h => Prod.ext h.1 h.2, fun h => by rw [h]; exact ⟨rfl, rfl⟩⟩]
  simp [shp_p]
theorem p_ne : neM (ppD p) (ppD q) Kb = Kb (!decide (p = q)) := by
  show (SeqAt.shaped (ppD p) = true ∧ SeqAt.shaped (ppD q) = true ∧ Kb (!PyData.eqv (ppD p) (ppD q))) = _
  rw [show PyData.eqv (ppD p) (ppD q) = decide (p = q) by unfold ppD; rw [eqv_ii]; congr 1; exact propext ⟨fun h => Prod.ext h.1 h.2, fun h => by rw [h]; exact ⟨rfl, rfl⟩⟩]
  simp [shp_p]
theorem p_in {L : List (Int × Int)} : inM (ppD p) (.list (L.map ppD)) Kb = Kb (decide (p ∈ L)) := by
  show inLstM (ppD p) (L.map ppD) Kb = _
  unfold inLstM
  rw [show fl (ppD p) = none from rfl]
  rw [any_pp]
  simp [shp_p, shp_pp]
theorem p_notIn {L : List (Int × Int)} : notInM (ppD p) (.list (L.map ppD)) Kb = Kb (!decide (p ∈ L)) := by unfold notInM; rw [p_in]
theorem p_lt : ltM (ppD p) (ppD q) Kb = Kb (ltPP p q) := by
  show Kb (HT.lexLt [p.1, p.2] [q.1, q.2]) = _
  rw [ltPP_lex]
theorem e__law_pull (h : 0 < m) (h2 : m < 1000000) : f__law_pull (.int m) K E = ∀ r : Int, 0 ≤ r → r < m → K (.int r) := by
  show ((0 < m ∧ m.natAbs < 2 ^ 8000) ∧ _) = _
  have e : m.natAbs < 2 ^ 8000 := nb (Nat.lt_of_lt_of_le (show m.natAbs < 2 ^ 20 by omega) (Nat.pow_le_pow_right (by decide) (by decide)))
  simp [h, e]
theorem e__law_drawn_plan (h : 3 ≤ m) (h2 : m ≤ 40) : f__law_drawn_plan (.int m) K E = ∀ l, Arcs 1 m l → K (plD m (planOf m l)) := by
  show ((3 ≤ m ∧ m ≤ 40) ∧ _) = _
  simp [h, h2]
theorem e__law_alike (h : okD 8 x = true) : f__law_alike x x K E = K (.bool true) := by unfold f__law_alike; simp [h]
end
end Tx
namespace Tx
open PySem PySem.Spec PyProof.Rows L2 TL
@[irreducible] def f__law_pair (l_one : PyData) (l_other : PyData) (K : KD) (E : KX) : Prop :=
  min2M l_one l_other fun r1 =>
  max2M l_one l_other fun r2 =>
  K (.tuple [r1, r2])
def c__law_pair : CT := fun args Φ Ψ => ∃ (l_one : PyData) (l_other : PyData) (K : KD) (E : KX), args = [.d l_one, .d l_other] ∧ f__law_pair l_one l_other K E ∧ (∀ r, K r → Φ (.rd r) args) ∧ ∀ c, E c → Ψ c args
@[irreducible] def f__law_plan (l_most : PyData) (K : KD) (E : KX) : Prop :=
  subM l_most (.int 2) fun r1 =>
  f__law_pull r1 (fun r2 =>
  addM (.int 3) r2 fun r3 =>
  f__law_drawn_plan r3 (fun r4 =>
  K r4) E) E
def c__law_plan : CT := fun args Φ Ψ => ∃ (a_l_bag_here : Addr) (l_most : PyData) (K : KD) (E : KX), args = [.bg a_l_bag_here, .d l_most] ∧ f__law_plan l_most K E ∧ (∀ r, K r → Φ (.rd r) args) ∧ ∀ c, E c → Ψ c args
@[irreducible] def f__law_whole (l_found : PyData) (K : KD) (E : KX) : Prop :=
  andM (fun Q => Q (isTyB "int" l_found)) (fun Q => Q (!(isTyB "bool" l_found))) fun b1 =>
  K (.bool b1)
def c__law_whole : CT := fun args Φ Ψ => ∃ (l_found : PyData) (K : KD) (E : KX), args = [.d l_found] ∧ f__law_whole l_found K E ∧ (∀ r, K r → Φ (.rd r) args) ∧ ∀ c, E c → Ψ c args
section
variable {K : KD} {Kl : KL} {E : KX} {n i j : Int} {cs : List (Int × Int)} {p q : Int × Int}
theorem e__law_plan {m : Int} (h : 3 ≤ m) (h2 : m ≤ 40) : f__law_plan (.int m) K E = ∀ n, 3 ≤ n → n ≤ m → ∀ l, Arcs 1 n l → K (plD n (planOf n l)) := by
  unfold f__law_plan
  simp only [q_add_ii, q_add_ss, q_add_ll, q_add_tt, q_addL, q_sub, q_mul, q_div, q_mod, q_neg, q_bool, q_eq_ii, q_eq_ss, q_eq_bb, q_ne_ii, q_ne_ss, q_ne_bb, q_lt, q_le, q_gt, q_ge, q_un2, q_un3, q_un4, q_intO, q_len_l, q_len_t, q_len_s, q_abs, q_int_i, q_int_b, q_tup_l, q_tup_t, q_list_l, q_list_t, q_min, q_max, q_it_l, q_it_t, q_rng, q_enu_l, q_enu_t, q_rev, q_sl_l, q_sl_t, q_sl_s, q_slL, q_all, q_any, q_sum, q_sort_pp, q_and, q_or, q_ite, q_join, cond_true, cond_false, true_and, and_true, decide_eq_true_eq, decide_true, decide_false, p_un_pl, p_ix_pl0, p_ix_pl1, p_un_pp, p_ix_pp0, p_ix_pp1, p_mk, p_eq, p_ne, p_in, p_notIn, p_lt]
  rw [e__law_pull (by omega) (by omega)]
  simp only [q_add_ii]
  refine propext ⟨fun hh n hn hn2 l hl => ?_, fun hh r r0 r1 => ?_⟩
  · have := hh (n - 3) (by omega) (by omega)
    rw [show 3 + (n - 3) = n by omega, e__law_drawn_plan hn (by omega)] at this
    exact this l hl
  · rw [e__law_drawn_plan (by omega) (by omega)]
    exact hh _ (by omega) (by omega)
end
end Tx
namespace Tx
open PySem PySem.Spec PyProof.Rows L2 TL
section
variable {K : KD} {Kl : KL} {E : KX} {n i j : Int} {cs : List (Int × Int)} {p q : Int × Int}
def wrF : Nat → Nat → Int → List (List (Int × Int))
  | 0, _, _ => [[]]
  | f + 1, w, s => if w ≤ 1 then [[]] else (List.range (w - 1)).flatMap fun j => (wrF f (1 + j) s).flatMap fun a => (wrF f (w - 1 - j) (s + 1 + (j : Int))).map fun b => a ++ b ++ [(s, s + 1 + (j : Int)), (s + 1 + (j : Int), s + (w : Int))]
def wr (w : Nat) (s : Int) : List (List (Int × Int)) := wrF w w s
theorem valP_put {κ : Type} [DecidableEq κ] {kvs : List (κ × PyData)} {k k' : κ} {d : PyData} : valP (putP kvs k d) k' = if k' = k then some d else valP kvs k' := by
  unfold putP valP
  by_cases h : (kvs.any fun kv => decide (kv.1 = k)) = true
  · rw [if_pos h]
    induction kvs with
    | nil => simp at h
    | cons kv r ih =>
      rw [List.map_cons]
      by_cases e : kv.1 = k
      · rw [if_pos e]
        by_cases e2 : k' = k
        · subst e2; simp [List.find?_cons, e]
        · rw [if_neg e2]
          have ne : ¬ kv.1 = k' := fun z => e2 (z ▸ e)
          simp only [List.find?_cons, ne, decide_false]
          clear ih h
          induction r with
          | nil => rfl
          | cons kv2 r ih2 =>
            rw [List.map_cons]
            by_cases e3 : kv2.1 = k
            · rw [if_pos e3]
              have ne : ¬ kv2.1 = k' := fun z => e2 (z ▸ e3)
              simp only [List.find?_cons, ne, decide_false]
              exact ih2
            · rw [if_neg e3]
              by_cases e4 : kv2.1 = k'
              · simp [List.find?_cons, e4]
              · simp only [List.find?_cons, e4, decide_false]
                exact ih2
      · rw [if_neg e]
        have h' : (r.any fun kv => decide (kv.1 = k)) = true := by simpa [e] using h
        by_cases e4 : kv.1 = k'
        · have : ¬ k' = k := fun z => e (e4.trans z)
          simp [List.find?_cons, e4, this]
        · simp only [List.find?_cons, e4, decide_false]
          exact ih h'
  · rw [if_neg h, List.find?_append]
    by_cases e2 : k' = k
    · subst e2
      have : (kvs.find? fun kv => decide (kv.1 = k')) = none := List.find?_eq_none.mpr fun x hx z => h (List.any_eq_true.mpr ⟨x, hx, z⟩)
      rw [this]; simp
    · have : ¬ k = k' := fun z => e2 z.symm
      rw [if_neg e2]
      cases kvs.find? fun kv => decide (kv.1 = k') <;> simp [this]
theorem putP_len {κ : Type} [DecidableEq κ] {kvs : List (κ × PyData)} {k : κ} {d : PyData} : (putP kvs k d).length ≤ kvs.length + 1 := by
  unfold putP
  split <;> simp
abbrev AT := List (List Key × PyData)
abbrev rowD (l : List (Int × Int)) : PyData := .list (l.map ppD)
abbrev kT (i j : Int) : List Key := [.inl i, .inl j]
/-- widths below w are told, and the first t starts of width w -/
structure Told (n : Int) (w t : Nat) (A : AT) : Prop where
  len : A.length ≤ 100 * w + t
  low : ∀ v : Nat, 1 ≤ v → v < w → ∀ s : Int, 1 ≤ s → s + v ≤ n → valP A (kT s (s + v)) = some (.list ((wr v s).map rowD))
  cur : ∀ s : Int, 1 ≤ s → s ≤ t → s + w ≤ n → valP A (kT s (s + w)) = some (.list ((wr w s).map rowD))
theorem Told.put {w t : Nat} {A : AT} (h : Told n w t A) {v : PyData} (hv : v = .list ((wr w (1 + (t : Int))).map rowD)) : Told n w (t + 1) (putP A (kT (1 + (t : Int)) (1 + (t : Int) + w)) v) := by
  refine ⟨?_, fun v' v1 v2 s s1 s2 => ?_, fun s s1 s2 s3 => ?_⟩
  · have := putP_len (kvs := A) (k := kT (1 + (t : Int)) (1 + (t : Int) + w)) (d := v)
    have := h.len
    omega
  · rw [valP_put, if_neg (fun e => by injection e with e1 e2; injection e1 with e1; injection e2 with e2; injection e2 with e2; omega)]
    exact h.low v' v1 v2 s s1 s2
  · rw [valP_put]
    by_cases e : s = 1 + (t : Int)
    · subst e
      rw [if_pos rfl, hv]
    · rw [if_neg (fun z => by injection z with e1 e2; injection e1 with e1; exact e e1)]
      exact h.cur s s1 (by omega) s3
end
end Tx
namespace Tx
open PySem PySem.Spec PyProof.Rows L2 TL
inductive Tr where
  | lf
  | nd (a b : Tr)
namespace Tr
def sz : Tr → Int
  | .lf => 1
  | .nd a b => a.sz + b.sz
def arcs : Tr → Int → List (Int × Int)
  | .lf, _ => []
  | .nd a b, s => (s, s + a.sz) :: (s + a.sz, s + a.sz + b.sz) :: (a.arcs s ++ b.arcs (s + a.sz))
end Tr
open Tr
theorem Arcs.tr {s e : Int} {l : List (Int × Int)} (h : Arcs s e l) (hs : s < e) : ∃ t : Tr, t.sz = e - s ∧ l = t.arcs s := by
  induction h with
  | leaf h => exact ⟨.lf, by show (1 : Int) = _; omega, rfl⟩
  | @node s m e a b h1 h2 _ _ ia ib =>
    obtain ⟨ta, a1, rfl⟩ := ia h1
    obtain ⟨tb, b1, rfl⟩ := ib h2
    have e1 : s + ta.sz = m := by omega
    have e2 : m + tb.sz = e := by omega
    refine ⟨.nd ta tb, by show ta.sz + tb.sz = _; omega, ?_⟩
    show _ = (s, s + ta.sz) :: (s + ta.sz, s + ta.sz + tb.sz) :: (ta.arcs s ++ tb.arcs (s + ta.sz))
    rw [e1, e2]
theorem shp_list {L : List PyData} (h : ∀ d ∈ L, d.canLay0 = true ∧ d.depth ≤ 50) : SeqAt.shaped (.list L) = true := by
  have h1 : PyData.canLayAll0 L = true ∧ PyData.depthAll L ≤ 50 := by
    induction L with
    | nil => exact ⟨rfl, Nat.zero_le _⟩
    | cons a L ih =>
      obtain ⟨i1, i2⟩ := ih fun d hd => h d (List.mem_cons_of_mem _ hd)
      obtain ⟨a1, a2⟩ := h a (List.mem_cons_self ..)
      refine ⟨?_, ?_⟩
      · show (PyData.canLay0 a && PyData.canLayAll0 L) = true
        rw [a1, i1]; rfl
      · show max (PyData.depth a) (PyData.depthAll L) ≤ 50
        exact Nat.max_le.mpr ⟨a2, i2⟩
  unfold SeqAt.shaped
  have e1 : PyData.canLay0 (.list L) = true := h1.1
  have e2 : PyData.depth (.list L) ≤ 64 := by
    show PyData.depthAll L + 1 ≤ 64
    omega
  rw [e1, decide_eq_true e2]
  rfl
end Tx
namespace Tx
open PySem PySem.Spec PyProof.Rows L2 TL
open Tr
def k3 (p : Int × Int × Int) : List Key := [.inl p.1, .inl p.2.1, .inl p.2.2]
end Tx
namespace Tx
open PySem PySem.Spec PyProof.Rows L2 TL
/-- the stretch from a on, ahead of b -/
def sb (R : List Bool) (a b : Nat) : List Bool := (R.drop a).take (b - a)
end Tx
namespace Tx
open PySem PySem.Spec PyProof.Rows L2 TL
open Tr
namespace Tr
/-- the hands of the leaves in order -/
def row : Tr → Bool → Bool → List Bool
  | .lf, _, h => [h]
  | .nd a b, x, h => if x then b.row (!x) (!h) ++ a.row (!x) (!h) else a.row (!x) (!h) ++ b.row (!x) (!h)
end Tr
end Tx
namespace Tx
open PySem PySem.Spec PyProof.Rows L2 TL
section
variable {K : KD} {Kl : KL} {E : KX} {Kb : KB} {R : List Bool}
theorem q_in_two {s a b : Str} : inM (.str s) (.tuple [.str a, .str b]) Kb = Kb (decide (s = a) || decide (s = b)) := by
  show Kb (inV (.str s) ([a, b].map V.str)) = _
  rw [inV_strs]
  congr 1
  rw [Bool.eq_iff_iff]
  simp
end
end Tx
namespace Tx
open PySem PySem.Spec PyProof.Rows L2 TL
open Tr
namespace Tr
/-- its own arc and the arcs of parts within, its own last -/
def cuts : Tr → Int → List (Int × Int)
  | .lf, _ => []
  | .nd a b, s => a.cuts s ++ b.cuts (s + a.sz) ++ [(s, s + a.sz + b.sz)]
end Tr
end Tx
namespace Tx
open PySem PySem.Spec PyProof.Rows L2 TL
@[irreducible] def f_number_in (word : PyData) (K : KD) (E : KX) : Prop :=
  orM (fun Q => lenM word fun r2 =>
  andM (fun Q => leM (.int 1) r2 Q) (fun Q => leM r2 (.int 4) Q) fun b3 =>
  Q (!b3)) (fun Q => itM word fun xs5 =>
  lcM (fun sign6 kp sk => inM sign6 (.str "0123456789") fun b8 =>
  kp (.bool b8)) (fun l7 =>
  allM (.list l7) fun r9 =>
  boolM r9 fun b10 =>
  Q (!b10)) xs5 []) fun b1 =>
  (b1 = true → (K PyData.none)) ∧ (b1 = false → (andM (fun Q => ixM word (.int 0) fun r15 =>
  eqM r15 (.str "0") fun b16 =>
  Q b16) (fun Q => lenM word fun r17 =>
  gtM r17 (.int 1) fun b18 =>
  Q b18) fun b14 =>
  (b14 = true → (K PyData.none)) ∧ (b14 = false → (intSM word fun r22 =>
  K r22))))
def c_number_in : CT := fun args Φ Ψ => ∃ (word : PyData) (K : KD) (E : KX), args = [.d word] ∧ f_number_in word K E ∧ (∀ r, K r → Φ (.rd r) args) ∧ ∀ c, E c → Ψ c args
@[irreducible] def f_pair_in (word : PyData) (K : KD) (E : KX) : Prop :=
  strO word fun s1 =>
  splitM (.str s1) (.str "-") fun l3 =>
  lenM (.list l3) fun r4 =>
  neM r4 (.int 2) fun b5 =>
  (b5 = true → (K PyData.none)) ∧ (b5 = false → (itM (.list l3) fun xs9 =>
  lcM (fun half10 kp sk => f_number_in half10 (fun r12 =>
  kp r12) (fun _ => False)) (fun l11 =>
  inM PyData.none (.list l11) fun b13 =>
  (b13 = true → (K PyData.none)) ∧ (b13 = false → (tupM (.list l11) fun r17 =>
  K r17))) xs9 []))
def c_pair_in : CT := fun args Φ Ψ => ∃ (word : PyData) (K : KD) (E : KX), args = [.d word] ∧ f_pair_in word K E ∧ (∀ r, K r → Φ (.rd r) args) ∧ ∀ c, E c → Ψ c args
@[irreducible] def f_plan_in (word : PyData) (K : KD) (E : KX) : Prop :=
  strO word fun s1 =>
  splitM (.str s1) (.str ":") fun l3 =>
  orM (fun Q => lenM (.list l3) fun r5 =>
  neM r5 (.int 2) fun b6 =>
  Q b6) (fun Q => ixM (.list l3) (.int 0) fun r7 =>
  f_number_in r7 (fun r8 =>
  Q (isNone r8)) E) fun b4 =>
  (b4 = true → (K PyData.none)) ∧ (b4 = false → (joinM (fun (Q : PyData → Prop) => ixM (.list l3) (.int 1) fun r12 =>
  neM r12 (.str "") fun b13 =>
  (b13 = true → (ixM (.list l3) (.int 1) fun r18 =>
  strO r18 fun s19 =>
  splitM (.str s19) (.str ",") fun l21 =>
  itM (.list l21) fun xs17 =>
  lcM (fun half22 kp sk => f_pair_in half22 (fun r24 =>
  kp r24) (fun _ => False)) (fun l23 =>
  Q (.list l23)) xs17 [])) ∧ (b13 = false → (Q (.list [])))) (fun cuts25 =>
  inM PyData.none cuts25 fun b26 =>
  (b26 = true → (K PyData.none)) ∧ (b26 = false → (ixM (.list l3) (.int 0) fun r30 =>
  f_number_in r30 (fun r31 =>
  tupM cuts25 fun r32 =>
  K (.tuple [r31, r32])) E)))))
def c_plan_in : CT := fun args Φ Ψ => ∃ (word : PyData) (K : KD) (E : KX), args = [.d word] ∧ f_plan_in word K E ∧ (∀ r, K r → Φ (.rd r) args) ∧ ∀ c, E c → Ψ c args
@[irreducible] def f_one_in (word : PyData) (good : PyData) (K : KD) (E : KX) : Prop :=
  boolM good fun b1 =>
  (b1 = true → (K word)) ∧ (b1 = false → (K PyData.none))
def c_one_in : CT := fun args Φ Ψ => ∃ (word : PyData) (good : PyData) (K : KD) (E : KX), args = [.d word, .d good] ∧ f_one_in word good K E ∧ (∀ r, K r → Φ (.rd r) args) ∧ ∀ c, E c → Ψ c args
@[irreducible] def f_is_name (name : PyData) (K : KD) (E : KX) : Prop :=
  andM (fun Q => lenM name fun r2 =>
  andM (fun Q => leM (.int 1) r2 Q) (fun Q => leM r2 (.int 8) Q) fun b3 =>
  Q b3) (fun Q => itM name fun xs5 =>
  lcM (fun sign6 kp sk => inM sign6 (.str "abcdefghijklmnopqrstuvwxyz") fun b8 =>
  kp (.bool b8)) (fun l7 =>
  allM (.list l7) fun r9 =>
  boolM r9 fun b10 =>
  Q b10) xs5 []) fun b1 =>
  K (.bool b1)
def c_is_name : CT := fun args Φ Ψ => ∃ (name : PyData) (K : KD) (E : KX), args = [.d name] ∧ f_is_name name K E ∧ (∀ r, K r → Φ (.rd r) args) ∧ ∀ c, E c → Ψ c args
@[irreducible] def f_is_letter (letter : PyData) (K : KD) (E : KX) : Prop :=
  andM (fun Q => lenM letter fun r2 =>
  eqM r2 (.int 1) fun b3 =>
  Q b3) (fun Q => inM letter (.str "abcdefghijklmnopqrstuvwxyz") fun b4 =>
  Q b4) fun b1 =>
  K (.bool b1)
def c_is_letter : CT := fun args Φ Ψ => ∃ (letter : PyData) (K : KD) (E : KX), args = [.d letter] ∧ f_is_letter letter K E ∧ (∀ r, K r → Φ (.rd r) args) ∧ ∀ c, E c → Ψ c args
@[irreducible] def f_thing_in (word : PyData) (sign : PyData) (K : KD) (E : KX) : Prop :=
  eqM sign (.str "n") fun b1 =>
  (b1 = true → (f_is_name word (fun r5 =>
  f_one_in word r5 (fun r6 =>
  K r6) E) E)) ∧ (b1 = false → (eqM sign (.str "w") fun b7 =>
  (b7 = true → (inTupM word [.str "even", .str "odd"] fun b11 =>
  f_one_in word (.bool b11) (fun r12 =>
  K r12) E)) ∧ (b7 = false → (eqM sign (.str "c") fun b13 =>
  (b13 = true → (inTupM word [.str "red", .str "blue", .str "gold"] fun b17 =>
  f_one_in word (.bool b17) (fun r18 =>
  K r18) E)) ∧ (b13 = false → (eqM sign (.str "l") fun b19 =>
  (b19 = true → (f_is_letter word (fun r23 =>
  f_one_in word r23 (fun r24 =>
  K r24) E) E)) ∧ (b19 = false → (eqM sign (.str "s") fun b25 =>
  (b25 = true → (f_number_in word (fun r29 =>
  K r29) E)) ∧ (b25 = false → (f_plan_in word (fun r30 =>
  K r30) E))))))))))
def c_thing_in : CT := fun args Φ Ψ => ∃ (word : PyData) (sign : PyData) (K : KD) (E : KX), args = [.d word, .d sign] ∧ f_thing_in word sign K E ∧ (∀ r, K r → Φ (.rd r) args) ∧ ∀ c, E c → Ψ c args
@[irreducible] def f_deed_in (text : PyData) (K : KD) (E : KX) : Prop :=
  strO text fun s1 =>
  splitM (.str s1) (.str " ") fun l3 =>
  orM (fun Q => ixM (.list l3) (.int 0) fun r5 =>
  inDctM [("fold", .str "np"), ("drop", .str "n"), ("pinch", .str "nw"), ("unpinch", .str "nw"), ("over", .str "n"), ("about", .str "n"), ("paint", .str "nsc"), ("mark", .str "nsl"), ("wash", .str "ns"), ("unfold", .str "n"), ("refold", .str "np")] r5 fun b6 =>
  Q (!b6)) (fun Q => lenM (.list l3) fun r7 =>
  ixM (.list l3) (.int 0) fun r8 =>
  dctM [("fold", .str "np"), ("drop", .str "n"), ("pinch", .str "nw"), ("unpinch", .str "nw"), ("over", .str "n"), ("about", .str "n"), ("paint", .str "nsc"), ("mark", .str "nsl"), ("wash", .str "ns"), ("unfold", .str "n"), ("refold", .str "np")] r8 fun r9 =>
  lenM r9 fun r10 =>
  addM r10 (.int 1) fun r11 =>
  neM r7 r11 fun b12 =>
  Q b12) fun b4 =>
  (b4 = true → (K PyData.none)) ∧ (b4 = false → (slM (.list l3) (some 1) none fun r17 =>
  ixM (.list l3) (.int 0) fun r18 =>
  dctM [("fold", .str "np"), ("drop", .str "n"), ("pinch", .str "nw"), ("unpinch", .str "nw"), ("over", .str "n"), ("about", .str "n"), ("paint", .str "nsc"), ("mark", .str "nsl"), ("wash", .str "ns"), ("unfold", .str "n"), ("refold", .str "np")] r18 fun r19 =>
  zipM r17 r19 fun xs16 =>
  lcM (fun p20 kp sk => un2 p20 fun word22 sign23 =>
  f_thing_in word22 sign23 (fun r25 =>
  kp r25) (fun _ => False)) (fun l21 =>
  inM PyData.none (.list l21) fun b26 =>
  (b26 = true → (K PyData.none)) ∧ (b26 = false → (ixM (.list l3) (.int 0) fun r30 =>
  addM (.list [r30]) (.list l21) fun r31 =>
  tupM r31 fun r32 =>
  K r32))) xs16 []))
def c_deed_in : CT := fun args Φ Ψ => ∃ (text : PyData) (K : KD) (E : KX), args = [.d text] ∧ f_deed_in text K E ∧ (∀ r, K r → Φ (.rd r) args) ∧ ∀ c, E c → Ψ c args
theorem len_le {s : Str} {K : KD} (h : s.length ≤ 100000) : lenM (.str s) K = K (.int (s.length : Nat)) := by
  have hsl := sizeLine_eq
  rw [q_len_s]; exact propext (and_iff_right (by omega))
theorem in_sgn {c : Nat} {S : Str} {K : KB} : inM (sgn c) (.str S) K = K (decide (c ∈ tl S)) := by
  show K (!(Builtin.Str.occurrences S ⟨#[c]⟩ 0 S.length 1).isEmpty) = _
  rw [StrLaws.found_one]
theorem it_str {s : Str} {K : KL} (h : s.length ≤ 100000) : itM (.str s) K = K ((tl s).map sgn) := by
  have hsl := sizeLine_eq
  show (s.cps.size ≤ sizeLine ∧ K (s.cps.toList.map sgn)) = _
  exact propext (and_iff_right (by have : s.length = s.cps.size := rfl; omega))
/-- all signs of a text are among S -/
theorem all_in {s S : Str} {Q : KB} (h : s.length ≤ 100000) : itM (.str s) (fun xs => lcM (fun sign kp sk => inM sign (.str S) fun b => kp (.bool b)) (fun l => allM (.list l) fun r => boolM r fun b => Q b) xs []) = Q ((tl s).all fun c => decide (c ∈ tl S)) := by
  rw [it_str h, q_lc_map (tl s) sgn (fun c => PyData.bool (decide (c ∈ tl S))) fun a _ k s => in_sgn, List.nil_append, show ((tl s).map fun c => PyData.bool (decide (c ∈ tl S))) = ((tl s).map fun c => decide (c ∈ tl S)).map .bool by rw [List.map_map]; rfl, q_all, q_bool, List.all_map]
  rfl
abbrev abcS : Str := "abcdefghijklmnopqrstuvwxyz"
abbrev figS : Str := "0123456789"
def nmB (s : Str) : Bool := (decide (1 ≤ s.length) && decide (s.length ≤ 8)) && (tl s).all fun c => decide (c ∈ tl abcS)
def lttB (s : Str) : Bool := decide (s.length = 1) && (tl s).all fun c => decide (c ∈ tl abcS)
section
variable {K : KD} {E : KX} {Kb : KB} {s : Str}
theorem and_b {b1 b2 : Bool} {ma mb : KB → Prop} (h1 : ∀ Q, ma Q = Q b1) (h2 : b1 = true → ∀ Q, mb Q = Q b2) : TL.andM ma mb Kb = Kb (b1 && b2) := by
  unfold TL.andM
  rw [h1]
  cases b1 with
  | false => exact propext ⟨fun z => z.2 rfl, fun z => ⟨fun q => (by cases q), fun _ => z⟩⟩
  | true => rw [h2 rfl]; exact propext ⟨fun z => z.1 rfl, fun z => ⟨fun _ => z, fun q => (by cases q)⟩⟩
theorem or_b {b1 b2 : Bool} {ma mb : KB → Prop} (h1 : ∀ Q, ma Q = Q b1) (h2 : b1 = false → ∀ Q, mb Q = Q b2) : TL.orM ma mb Kb = Kb (b1 || b2) := by
  unfold TL.orM
  rw [h1]
  cases b1 with
  | true => exact propext ⟨fun z => z.1 rfl, fun z => ⟨fun _ => z, fun q => (by cases q)⟩⟩
  | false => rw [h2 rfl]; exact propext ⟨fun z => z.2 rfl, fun z => ⟨fun q => (by cases q), fun _ => z⟩⟩
theorem if_b {b : Bool} {A B : Prop} : ((b = true → A) ∧ (b = false → B)) = cond b A B := q_ite
theorem e_is_name (h : s.length ≤ 100000) : f_is_name (.str s) K E = K (.bool (nmB s)) := by
  unfold f_is_name
  rw [and_b (b1 := decide (1 ≤ s.length) && decide (s.length ≤ 8)) (fun Q => ?_) (b2 := (tl s).all fun c => decide (c ∈ tl abcS)) fun _ Q => all_in h]
  · rfl
  · rw [len_le h]
    simp only [q_le, q_and]
    rw [show decide ((1 : Int) ≤ (s.length : Nat)) = decide (1 ≤ s.length) from decide_eq_decide.mpr (by omega), show decide (((s.length : Nat) : Int) ≤ 8) = decide (s.length ≤ 8) from decide_eq_decide.mpr (by omega)]
theorem e_is_letter (h : s.length ≤ 100000) : f_is_letter (.str s) K E = K (.bool (lttB s)) := by
  unfold f_is_letter
  rw [and_b (b1 := decide (s.length = 1)) (fun Q => ?_) (b2 := (tl s).all fun c => decide (c ∈ tl abcS)) fun h1 Q => ?_]
  · rfl
  · rw [len_le h, q_eq_ii, show decide (((s.length : Nat) : Int) = 1) = decide (s.length = 1) from decide_eq_decide.mpr (by omega)]
  · have h1 := of_decide_eq_true h1
    rw [len_tl] at h1
    obtain ⟨c, hc⟩ := List.length_eq_one_iff.mp h1
    have e : s = ⟨#[c]⟩ := ext_tl hc
    rw [e]
    show inM (sgn c) (.str abcS) _ = _
    rw [in_sgn]
    show Q _ = Q (([c] : List Nat).all fun c => decide (c ∈ tl abcS))
    simp
def digB (s : Str) : Bool := (decide (1 ≤ s.length) && decide (s.length ≤ 4)) && ((tl s).all (fun c => decide (c ∈ tl figS)) && !(decide ((tl s).head? = some 48) && decide (1 < s.length)))
def valN (s : Str) : Nat := NumText.digitsVal (tl s)
def numD (s : Str) : PyData := if digB s = true then .int (valN s : Nat) else .none
theorem mem_fig {c : Nat} : c ∈ tl figS ↔ 48 ≤ c ∧ c ≤ 57 := by
  have : tl figS = [48, 49, 50, 51, 52, 53, 54, 55, 56, 57] := by decide +kernel
  rw [this]
  simp only [List.mem_cons, List.not_mem_nil, or_false]
  omega
theorem ix_str0 {c : Nat} {r : List Nat} (h : s.length ≤ 100000) (e : tl s = c :: r) : ixM (.str s) (.int 0) K = K (sgn c) := by
  have hsl := sizeLine_eq
  show (s.length ≤ sizeLine ∧ match atI s.cps.toList 0 with | some c => K (sgn c) | none => False) = _
  have e : s.cps.toList = c :: r := e
  rw [e, at_nat (xs := c :: r) (Int.le_refl 0) (x := c) rfl]
  exact propext (and_iff_right (by omega))
theorem one_eq {c d : Nat} : decide ((⟨#[c]⟩ : Str) = ⟨#[d]⟩) = decide (c = d) := decide_eq_decide.mpr ⟨fun z => by
  have z2 := congrArg (fun s : Str => s.cps.toList) z
  have z3 : [c] = [d] := z2
  exact (List.cons.inj z3).1, fun z => by rw [z]⟩
theorem e_number_in (h : s.length ≤ 100000) : f_number_in (.str s) K E = K (numD s) := by
  unfold f_number_in
  rw [or_b (b1 := !(decide (1 ≤ s.length) && decide (s.length ≤ 4))) (fun Q => ?_) (b2 := !((tl s).all fun c => decide (c ∈ tl figS))) fun h1 Q => all_in (Q := fun b => Q (!b)) (S := figS) h, if_b]
  · unfold numD digB
    cases h1 : (decide (1 ≤ s.length) && decide (s.length ≤ 4)) with
    | false => rfl
    | true =>
      cases h2 : (tl s).all fun c => decide (c ∈ tl figS) with
      | false => rfl
      | true =>
        show cond (!true || !true) _ _ = _
        rw [show (!true || !true) = false from rfl, cond_false]
        obtain ⟨l1, l2⟩ := Bool.and_eq_true_iff.mp h1
        have l1 := of_decide_eq_true l1
        have l2 := of_decide_eq_true l2
        obtain ⟨c, r, e⟩ : ∃ c r, tl s = c :: r := by
          cases e : tl s with
          | nil => rw [len_tl, e] at l1; simp at l1
          | cons c r => exact ⟨c, r, rfl⟩
        rw [and_b (b1 := decide ((tl s).head? = some 48)) (fun Q => ?_) (b2 := decide (1 < s.length)) fun _ Q => ?_, if_b]
        · cases h3 : (decide ((tl s).head? = some 48) && decide (1 < s.length)) with
          | true => rfl
          | false =>
            rw [cond_false]
            have hd : NumText.AllDigits (tl s) := fun c hc => mem_fig.mp (of_decide_eq_true (List.all_eq_true.mp h2 c hc))
            have hi := PySem.intText_digits (x := s) hd (by rw [show s.cps.toList = tl s from rfl, e]; simp) (by omega)
            show (match PySem.intText? s with | some n => s.length ≤ 640 ∧ K (.int n) | none => False) = _
            rw [hi]
            exact propext (and_iff_right (by omega))
        · rw [ix_str0 h e]
          show eqM (.str ⟨#[c]⟩) (.str ⟨#[48]⟩) Q = _
          rw [q_eq_ss, one_eq, e]
          congr 1
          exact decide_eq_decide.mpr ⟨fun z => by rw [z]; rfl, fun z => Option.some.inj z⟩
        · rw [len_le h, q_gt]
          congr 1
          exact decide_eq_decide.mpr (by omega)
  · rw [len_le h]
    simp only [q_le, q_and]
    rw [show decide ((1 : Int) ≤ (s.length : Nat)) = decide (1 ≤ s.length) from decide_eq_decide.mpr (by omega), show decide (((s.length : Nat) : Int) ≤ 4) = decide (s.length ≤ 4) from decide_eq_decide.mpr (by omega)]
end
theorem joinL_len {y : List Nat} : ∀ {ps : List (List Nat)}, (∀ p ∈ ps, p.length ≤ (joinL y ps).length) ∧ ps.length ≤ (joinL y ps).length + (if y = [] then ps.length else 1)
  | [] => ⟨fun _ h => (by cases h), Nat.zero_le _⟩
  | [p] => ⟨fun q h => (by rw [List.mem_singleton.mp h]; exact Nat.le_refl _), (by
      by_cases hy : y = []
      · rw [if_pos hy]; exact Nat.le_add_left _ _
      · rw [if_neg hy]; exact Nat.le_add_left _ _)⟩
  | p :: q :: r => by
    obtain ⟨i1, i2⟩ := joinL_len (y := y) (ps := q :: r)
    have e : joinL y (p :: q :: r) = p ++ (y ++ joinL y (q :: r)) := rfl
    refine ⟨fun z hz => ?_, ?_⟩
    · rw [e, List.length_append, List.length_append]
      rcases List.mem_cons.mp hz with rfl | hz
      · omega
      · have := i1 z hz; omega
    · rw [e, List.length_append, List.length_append]
      by_cases h : y = []
      · rw [if_pos h]; omega
      · rw [if_neg h] at i2 ⊢
        have : 1 ≤ y.length := by cases y with
          | nil => exact absurd rfl h
          | cons _ _ => simp
        simp only [List.length_cons] at i2 ⊢
        omega
theorem split_len {x y : Str} (hy : y.length ≠ 0) : (∀ p ∈ Txt.split x y, p.length ≤ x.length) ∧ (Txt.split x y).length ≤ x.length + 1 := by
  have h := StrLaws.join_split x y
  have e : tl x = joinL (tl y) ((Txt.split x y).map tl) := by rw [← tl_join, h]
  obtain ⟨h1, h2⟩ := joinL_len (y := tl y) (ps := (Txt.split x y).map tl)
  rw [← e, ← len_tl] at h1 h2
  rw [if_neg fun z => hy (by rw [len_tl, z]; rfl), List.length_map] at h2
  refine ⟨fun p hp => ?_, h2⟩
  have := h1 (tl p) (List.mem_map.mpr ⟨p, hp, rfl⟩)
  rw [← len_tl] at this
  exact this
theorem q_split1 {x : Str} {c : Nat} {Kl : KL} (h : x.length ≤ 100000) : splitM (.str x) (.str ⟨#[c]⟩) Kl = Kl ((Txt.split x ⟨#[c]⟩).map .str) := by
  have hsl := sizeLine_eq
  show ((_ : Bool) = false ∧ x.length + 2 ≤ sizeLine ∧ _) = _
  exact propext ⟨fun z => z.2.2, fun z => ⟨rfl, by omega, z⟩⟩
theorem eqv_none {d : PyData} : PyData.eqv d .none = isNone d := by cases d <;> rfl
theorem none_inV : ∀ {ds : List PyData} {vs : List V}, flAll ds = some vs → inV .non vs = ds.any isNone
  | [], vs, e => by cases e; rfl
  | d :: ds, vs, e => by
    unfold flAll at e
    split at e
    · rename_i v l e1 e2
      cases e
      have ih := none_inV e2
      cases d with
      | int _ => cases e1; exact ih
      | str _ => cases e1; exact ih
      | none => cases e1; rfl
      | _ => cases e1
    · cases e
theorem none_in {ds : List PyData} {Kb : KB} (hs : SeqAt.shaped (.list ds) = true) : inM .none (.list ds) Kb = Kb (ds.any isNone) := by
  show inLstM .none ds Kb = _
  unfold inLstM
  have e0 : fl PyData.none = some V.non := rfl
  rw [e0]
  cases e : flAll ds with
  | none =>
    show (SeqAt.shaped .none = true ∧ SeqAt.shaped (.list ds) = true ∧ Kb (ds.any fun z => PyData.eqv z .none)) = _
    rw [show (fun z : PyData => PyData.eqv z .none) = isNone from funext fun z => eqv_none]
    exact propext ⟨fun z => z.2.2, fun z => ⟨rfl, hs, z⟩⟩
  | some vs =>
    show Kb (inV .non vs) = _
    rw [none_inV e]
theorem num_cases (s : Str) : numD s = .none ∨ ∃ i : Nat, numD s = .int i := by
  unfold numD
  split
  · exact .inr ⟨_, rfl⟩
  · exact .inl rfl
def pairO (s : Str) : PyData := match Txt.split s ⟨#[45]⟩ with
  | [a, b] => if isNone (numD a) || isNone (numD b) then .none else .tuple [numD a, numD b]
  | _ => .none
section
variable {K : KD} {E : KX} {Kb : KB} {s : Str}
theorem lc_num (L : List Str) (h : ∀ p ∈ L, p.length ≤ 100000) {Kl : KL} : lcM (fun half kp sk => f_number_in half (fun r => kp r) (fun _ => False)) Kl (L.map .str) [] = Kl (L.map numD) := by
  rw [q_lc_map L PyData.str numD fun a ha k s => e_number_in (h a ha), List.nil_append]
theorem shp_nums (L : List Str) : SeqAt.shaped (.list (L.map numD)) = true := shp_list fun d hd => by
  obtain ⟨p, _, rfl⟩ := List.mem_map.mp hd
  rcases num_cases p with e | ⟨i, e⟩ <;> rw [e] <;> exact ⟨rfl, Nat.zero_le _⟩
theorem e_pair_in (h : s.length ≤ 100000) : f_pair_in (.str s) K E = K (pairO s) := by
  obtain ⟨l1, l2⟩ := split_len (x := s) (y := ⟨#[45]⟩) (by decide)
  have e0 : f_pair_in (.str s) K E = splitM (.str s) (.str ⟨#[45]⟩) fun l3 => lenM (.list l3) fun r4 => neM r4 (.int 2) fun b5 => (b5 = true → (K PyData.none)) ∧ (b5 = false → (itM (.list l3) fun xs9 =>
      lcM (fun half10 kp sk => f_number_in half10 (fun r12 => kp r12) (fun _ => False)) (fun l11 => inM PyData.none (.list l11) fun b13 => (b13 = true → (K PyData.none)) ∧ (b13 = false → (tupM (.list l11) fun r17 => K r17))) xs9 [])) := by
    unfold f_pair_in; rfl
  rw [e0, q_split1 h, q_len_l, q_ne_ii, if_b, List.length_map]
  unfold pairO
  generalize hL : Txt.split s ⟨#[45]⟩ = L at l1 l2
  by_cases h2 : L.length = 2
  · rw [decide_eq_true (by omega : ((L.length : Nat) : Int) = 2), Bool.not_true, cond_false, q_it_l, lc_num L fun p hp => by have := l1 p hp; omega, none_in (shp_nums L), if_b, q_tup_l]
    obtain ⟨a, b, rfl⟩ : ∃ a b, L = [a, b] := by
      match L, h2 with
      | [a, b], _ => exact ⟨a, b, rfl⟩
    show cond ((isNone (numD a) || (isNone (numD b) || false))) _ _ = _
    rw [Bool.or_false]
    show _ = K (if (isNone (numD a) || isNone (numD b)) = true then _ else _)
    cases (isNone (numD a) || isNone (numD b)) <;> rfl
  · rw [decide_eq_false (by omega : ¬ ((L.length : Nat) : Int) = 2), Bool.not_false, cond_true]
    match L, h2 with
    | [], _ => rfl
    | [_], _ => rfl
    | [_, _], h2 => exact absurd rfl h2
    | _ :: _ :: _ :: _, _ => rfl
theorem pair_cases (s : Str) : pairO s = .none ∨ ∃ i j : Nat, pairO s = .tuple [.int i, .int j] := by
  unfold pairO
  split
  · rename_i a b _
    rcases num_cases a with e | ⟨i, e⟩ <;> rcases num_cases b with e' | ⟨j, e'⟩ <;> rw [e, e']
    · exact .inl rfl
    · exact .inl rfl
    · exact .inl rfl
    · exact .inr ⟨i, j, rfl⟩
  · exact .inl rfl
def cutsO (b : Str) : List PyData := if b = "" then [] else (Txt.split b ⟨#[44]⟩).map pairO
def planO (s : Str) : PyData := match Txt.split s ⟨#[58]⟩ with
  | [a, b] => if isNone (numD a) || (cutsO b).any isNone then .none else .tuple [numD a, .tuple (cutsO b)]
  | _ => .none
theorem shp_cuts (b : Str) : SeqAt.shaped (.list (cutsO b)) = true := shp_list fun d hd => by
  unfold cutsO at hd
  split at hd
  · cases hd
  · obtain ⟨p, _, rfl⟩ := List.mem_map.mp hd
    rcases pair_cases p with e | ⟨i, j, e⟩ <;> rw [e]
    · exact ⟨rfl, Nat.zero_le _⟩
    · exact ⟨rfl, by show (1 : Nat) ≤ 50; decide⟩
end
end Tx
namespace Tx
open PySem PySem.Spec PyProof.Rows L2 TL
section
variable {K : KD} {E : KX} {Kb : KB} {s : Str}
theorem lc_pair (L : List Str) (h : ∀ p ∈ L, p.length ≤ 100000) {Kl : KL} : lcM (fun half kp sk => f_pair_in half (fun r => kp r) (fun _ => False)) Kl (L.map .str) [] = Kl (L.map pairO) := by
  rw [q_lc_map L PyData.str pairO fun a ha k s => e_pair_in (h a ha), List.nil_append]
theorem e_plan_in (h : s.length ≤ 100000) : f_plan_in (.str s) K E = K (planO s) := by
  obtain ⟨l1, l2⟩ := split_len (x := s) (y := ⟨#[58]⟩) (by decide)
  have e0 : f_plan_in (.str s) K E = splitM (.str s) (.str ⟨#[58]⟩) fun l3 => TL.orM (fun Q => lenM (.list l3) fun r5 => neM r5 (.int 2) fun b6 => Q b6) (fun Q => ixM (.list l3) (.int 0) fun r7 => f_number_in r7 (fun r8 => Q (isNone r8)) E) fun b4 =>
      (b4 = true → (K PyData.none)) ∧ (b4 = false → (joinM (fun (Q : PyData → Prop) => ixM (.list l3) (.int 1) fun r12 => neM r12 (.str "") fun b13 =>
      (b13 = true → (ixM (.list l3) (.int 1) fun r18 => strO r18 fun s19 => splitM (.str s19) (.str ⟨#[44]⟩) fun l21 => itM (.list l21) fun xs17 =>
        lcM (fun half22 kp sk => f_pair_in half22 (fun r24 => kp r24) (fun _ => False)) (fun l23 => Q (.list l23)) xs17 [])) ∧ (b13 = false → (Q (.list [])))) (fun cuts25 => inM PyData.none cuts25 fun b26 =>
      (b26 = true → (K PyData.none)) ∧ (b26 = false → (ixM (.list l3) (.int 0) fun r30 => f_number_in r30 (fun r31 => tupM cuts25 fun r32 => K (.tuple [r31, r32])) E))))) := by
    unfold f_plan_in; rfl
  rw [e0, q_split1 h]
  unfold planO
  generalize hL : Txt.split s ⟨#[58]⟩ = L at l1 l2
  by_cases h2 : L.length = 2
  · obtain ⟨a, b, rfl⟩ : ∃ a b, L = [a, b] := by
      match L, h2 with
      | [a, b], _ => exact ⟨a, b, rfl⟩
    have ha := l1 a (by simp)
    have hb := l1 b (by simp)
    rw [or_b (b1 := false) (b2 := isNone (numD a)) (fun Q => ?_) (fun _ Q => ?_), Bool.false_or, if_b]
    · show _ = K (if (isNone (numD a) || (cutsO b).any isNone) = true then _ else _)
      cases isNone (numD a) with
      | true => rfl
      | false =>
        rw [Bool.false_or, cond_false]
        unfold joinM
        have i1 : ∀ Q : KD, ixM (.list ([a, b].map PyData.str)) (.int 1) Q = Q (.str b) := fun Q => rfl
        simp only [i1]
        rw [show ∀ Q : KB, neM (.str b) (.str "") Q = Q (!decide (b = "")) from fun Q => rfl, if_b]
        have key : ∀ cs : List PyData, SeqAt.shaped (.list cs) = true → (inM PyData.none (.list cs) fun b26 => (b26 = true → (K PyData.none)) ∧ (b26 = false → (ixM (.list ([a, b].map PyData.str)) (.int 0) fun r30 => f_number_in r30 (fun r31 => tupM (.list cs) fun r32 => K (.tuple [r31, r32])) E))) = K (if (cs.any isNone) = true then PyData.none else .tuple [numD a, .tuple cs]) := fun cs hs => by
          rw [none_in hs, if_b]
          cases cs.any isNone with
          | true => rfl
          | false =>
            show f_number_in (.str a) _ E = _
            rw [e_number_in (by omega)]
            rfl
        by_cases hbe : b = ""
        · rw [decide_eq_true hbe, Bool.not_true, cond_false, key [] rfl]
          unfold cutsO
          rw [if_pos hbe]
        · rw [decide_eq_false hbe, Bool.not_false, cond_true]
          rw [show ∀ Q : Str → Prop, strO (.str b) Q = Q b from fun Q => rfl]
          obtain ⟨m1, m2⟩ := split_len (x := b) (y := ⟨#[44]⟩) (by decide)
          rw [q_split1 (by omega), q_it_l, lc_pair _ fun p hp => (by have := m1 p hp; omega)]
          have ec : (Txt.split b ⟨#[44]⟩).map pairO = cutsO b := by unfold cutsO; rw [if_neg hbe]
          rw [ec, key _ (shp_cuts b)]
    · rfl
    · show f_number_in (.str a) _ E = _
      rw [e_number_in (by omega)]
  · rw [or_b (b1 := true) (b2 := false) (fun Q => ?_) (fun z => by cases z)]
    · rw [Bool.true_or, if_b, cond_true]
      match L, h2 with
      | [], _ => rfl
      | [_], _ => rfl
      | [_, _], h2 => exact absurd rfl h2
      | _ :: _ :: _ :: _, _ => rfl
    · rw [q_len_l, q_ne_ii, List.length_map, decide_eq_false (by omega : ¬ ((L.length : Nat) : Int) = 2), Bool.not_false]
def inB (w : Str) : List Str → Bool := fun l => l.any fun x => x == w
def thingO (w : Str) (c : Nat) : PyData :=
  if c = 110 then (if nmB w = true then .str w else .none)
  else if c = 119 then (if inB w ["even", "odd"] = true then .str w else .none)
  else if c = 99 then (if inB w ["red", "blue", "gold"] = true then .str w else .none)
  else if c = 108 then (if lttB w = true then .str w else .none)
  else if c = 115 then numD w
  else planO w
theorem e_one_in {w : Str} {b : Bool} : f_one_in (.str w) (.bool b) K E = K (if b = true then .str w else .none) := by
  unfold f_one_in
  rw [q_bool, if_b]
  cases b <;> rfl
theorem e_thing_in {c : Nat} (h : s.length ≤ 100000) : f_thing_in (.str s) (sgnD c) K E = K (thingO s c) := by
  have e0 : ∀ (d : Nat) (A B : Prop), (eqM (sgnD c) (.str ⟨#[d]⟩) fun b => (b = true → A) ∧ (b = false → B)) = if c = d then A else B := fun d A B => by
    show (eqM (.str ⟨#[c]⟩) (.str ⟨#[d]⟩) _) = _
    rw [q_eq_ss, one_eq, if_b]
    by_cases hc : c = d
    · rw [decide_eq_true hc, if_pos hc]; rfl
    · rw [decide_eq_false hc, if_neg hc]; rfl
  unfold f_thing_in
  show (eqM (sgnD c) (.str ⟨#[110]⟩) fun b => (b = true → _) ∧ (b = false → (eqM (sgnD c) (.str ⟨#[119]⟩) fun b => (b = true → _) ∧ (b = false → (eqM (sgnD c) (.str ⟨#[99]⟩) fun b => (b = true → _) ∧ (b = false → (eqM (sgnD c) (.str ⟨#[108]⟩) fun b => (b = true → _) ∧ (b = false → (eqM (sgnD c) (.str ⟨#[115]⟩) fun b => (b = true → _) ∧ (b = false → _)))))))))) = _
  rw [e0, e0, e0, e0, e0]
  unfold thingO
  split
  · rw [e_is_name h, e_one_in]
  · split
    · show f_one_in (.str s) (.bool (inB s ["even", "odd"])) K E = _
      rw [e_one_in]
    · split
      · show f_one_in (.str s) (.bool (inB s ["red", "blue", "gold"])) K E = _
        rw [e_one_in]
      · split
        · rw [e_is_letter h, e_one_in]
        · split
          · rw [e_number_in h]
          · rw [e_plan_in h]
end
end Tx
namespace Tx
open PySem PySem.Spec PyProof.Rows L2 TL
abbrev formsL : List (Str × Str) := [("fold", "np"), ("drop", "n"), ("pinch", "nw"), ("unpinch", "nw"), ("over", "n"), ("about", "n"), ("paint", "nsc"), ("mark", "nsl"), ("wash", "ns"), ("unfold", "n"), ("refold", "np")]
abbrev formsD : List (Str × PyData) := [("fold", .str "np"), ("drop", .str "n"), ("pinch", .str "nw"), ("unpinch", .str "nw"), ("over", .str "n"), ("about", .str "n"), ("paint", .str "nsc"), ("mark", .str "nsl"), ("wash", .str "ns"), ("unfold", .str "n"), ("refold", .str "np")]
theorem forms_lookup (z : Str) : formsD.lookup z = (formsL.lookup z).map .str := by
  have e : formsD = formsL.map fun p => (p.1, PyData.str p.2) := rfl
  rw [e]
  generalize formsL = L
  induction L with
  | nil => rfl
  | cons p L ih =>
    rw [List.map_cons, List.lookup_cons, List.lookup_cons, ih]
    cases z == p.1 <;> rfl
theorem forms_len {z f : Str} (h : formsL.lookup z = some f) : f.length ≤ 3 := by
  have key : ∀ L : List (Str × Str), (L.all fun p => decide (p.2.length ≤ 3)) = true → ∀ f, L.lookup z = some f → f.length ≤ 3 := fun L => by
    induction L with
    | nil => intro _ f h; cases h
    | cons p L ih =>
      intro ha f h
      rw [List.all_cons, Bool.and_eq_true] at ha
      rw [List.lookup_cons] at h
      cases e : z == p.1 with
      | true => rw [e] at h; cases h; exact of_decide_eq_true ha.1
      | false => rw [e] at h; exact ih ha.2 f h
  exact key formsL (by decide +kernel) f h
def foundO (ws : List Str) (f : Str) : List PyData := (ws.zip (tl f)).map fun q => thingO q.1 q.2
def deedW (w : Str) (ws : List Str) : PyData := match formsL.lookup w with
  | none => .none
  | some f => if ws.length = f.length then (if (foundO ws f).any isNone then .none else .tuple (.str w :: foundO ws f)) else .none
def deedO (s : Str) : PyData := match Txt.split s ⟨#[32]⟩ with
  | [] => .none
  | w :: ws => deedW w ws
/-- a plan that was read can be laid -/
theorem lay_plan (s : Str) : (planO s).canLay0 = true ∧ (planO s).depth ≤ 50 := by
  unfold planO
  split
  · rename_i a b _
    split
    · exact ⟨rfl, Nat.zero_le _⟩
    · have h1 : ∀ L : List PyData, (∀ d ∈ L, d.canLay0 = true ∧ d.depth ≤ 2) → PyData.canLayAll0 L = true ∧ PyData.depthAll L ≤ 2 := fun L => by
        induction L with
        | nil => exact fun _ => ⟨rfl, Nat.zero_le _⟩
        | cons a L ih =>
          intro h
          obtain ⟨i1, i2⟩ := ih fun d hd => h d (List.mem_cons_of_mem _ hd)
          obtain ⟨a1, a2⟩ := h a (List.mem_cons_self ..)
          refine ⟨?_, ?_⟩
          · show (PyData.canLay0 a && PyData.canLayAll0 L) = true
            rw [a1, i1]; rfl
          · show max (PyData.depth a) (PyData.depthAll L) ≤ 2
            exact Nat.max_le.mpr ⟨a2, i2⟩
      have h2 := h1 (cutsO b) fun d hd => by
        unfold cutsO at hd
        split at hd
        · cases hd
        · obtain ⟨p, _, rfl⟩ := List.mem_map.mp hd
          rcases pair_cases p with e | ⟨i, j, e⟩ <;> rw [e]
          · exact ⟨rfl, Nat.zero_le _⟩
          · exact ⟨rfl, by show (1 : Nat) ≤ 2; decide⟩
      have h3 : (numD a).canLay0 = true ∧ (numD a).depth ≤ 1 := by
        rcases num_cases a with e | ⟨i, e⟩ <;> rw [e] <;> exact ⟨rfl, Nat.zero_le _⟩
      refine ⟨?_, ?_⟩
      · show (PyData.canLay0 (numD a) && (PyData.canLayAll0 (cutsO b) && true)) = true
        rw [h3.1, h2.1]; rfl
      · show max (PyData.depth (numD a)) (max (PyData.depthAll (cutsO b) + 1) 0) + 1 ≤ 50
        have := h3.2
        have := h2.2
        omega
  · exact ⟨rfl, Nat.zero_le _⟩
theorem lay_str {s : Str} (h : ∀ c ∈ tl s, c < 1114112) : (PyData.str s).canLay0 = true := by
  show PyData.strOk s = true
  unfold PyData.strOk
  rw [← Array.all_toList, List.all_eq_true]
  exact fun c hc => decide_eq_true (h c hc)
theorem abc_low {c : Nat} (h : c ∈ tl abcS) : 97 ≤ c ∧ c ≤ 122 := by
  have : (tl abcS).all (fun c => decide (97 ≤ c) && decide (c ≤ 122)) = true := by decide +kernel
  have := List.all_eq_true.mp this c h
  simp only [Bool.and_eq_true, decide_eq_true_eq] at this
  exact this
theorem abc_all {s : Str} (h : ((tl s).all fun c => decide (c ∈ tl abcS)) = true) : ∀ c ∈ tl s, 97 ≤ c ∧ c ≤ 122 := fun c hc => abc_low (of_decide_eq_true (List.all_eq_true.mp h c hc))
theorem in_low {s : Str} {L : List Str} (h : inB s L = true) (hL : (L.all fun x => (tl x).all fun c => decide (c < 1114112)) = true) : ∀ c ∈ tl s, c < 1114112 := fun c hc => by
  obtain ⟨x, hx, e⟩ := List.any_eq_true.mp h
  have e := eq_of_beq e
  subst e
  exact of_decide_eq_true (List.all_eq_true.mp (List.all_eq_true.mp hL x hx) c hc)
theorem lay_thing (s : Str) (c : Nat) : (thingO s c).canLay0 = true ∧ (thingO s c).depth ≤ 50 := by
  have k : ∀ b : Bool, (b = true → ∀ c ∈ tl s, c < 1114112) → (if b = true then PyData.str s else .none).canLay0 = true ∧ (if b = true then PyData.str s else .none).depth ≤ 50 := fun b h => by
    cases b
    · rw [if_neg (by decide)]; exact ⟨rfl, Nat.zero_le _⟩
    · rw [if_pos rfl]; exact ⟨lay_str (h rfl), Nat.zero_le _⟩
  unfold thingO
  split
  · exact k _ fun h c hc => by have := abc_all (Bool.and_eq_true_iff.mp h).2 c hc; omega
  · split
    · exact k _ fun h => in_low h (by decide +kernel)
    · split
      · exact k _ fun h => in_low h (by decide +kernel)
      · split
        · exact k _ fun h c hc => by have := abc_all (Bool.and_eq_true_iff.mp h).2 c hc; omega
        · split
          · rcases num_cases s with e | ⟨i, e⟩ <;> rw [e] <;> exact ⟨rfl, Nat.zero_le _⟩
          · exact lay_plan s
theorem shp_found (ws : List Str) (f : Str) : SeqAt.shaped (.list (foundO ws f)) = true := shp_list fun d hd => by
  obtain ⟨q, _, rfl⟩ := List.mem_map.mp hd
  exact lay_thing _ _
theorem spl_ne {S : List Nat} : ∀ {l : List Nat} {k : Nat} {acc : List Nat}, spl S k acc l ≠ []
  | [], k, acc => by rw [spl_nil]; simp
  | c :: r, 0, acc => by
    cases h : pre S (c :: r) with
    | true => rw [spl_hit h]; simp
    | false => rw [spl_miss h]; exact spl_ne
  | c :: r, k + 1, acc => by
    rw [spl_pass]
    rw [List.drop_succ_cons, ← spl_pass]
    exact spl_ne
theorem split_ne (x : Str) {y : Str} (hy : tl y ≠ []) (hk : y.cps.all (· < 256) = true) : Txt.split x y ≠ [] := fun z => by
  have e := split_spl x y hy (kind_ok hk)
  rw [z] at e
  exact spl_ne e.symm
theorem cut_tail {x : PyData} {xs : List PyData} : cut (x :: xs) (some 1) none = xs := by
  unfold cut HT.sIx
  simp
theorem zip_words (ws : List Str) (f : Str) : zipLS (ws.map .str) f = (ws.zip (tl f)).map fun q => .tuple [.str q.1, sgnD q.2] := by
  unfold zipLS
  show List.zipWith _ _ (tl f) = _
  generalize tl f = cs
  induction ws generalizing cs with
  | nil => rfl
  | cons w ws ih => cases cs with
    | nil => rfl
    | cons c cs => exact congrArg (PyData.tuple [.str w, sgnD c] :: ·) (ih cs)
section
variable {K : KD} {E : KX} {Kb : KB} {s : Str}
theorem e_deed_in (h : s.length ≤ 100000) : f_deed_in (.str s) K E = K (deedO s) := by
  have hsl := sizeLine_eq
  obtain ⟨l1, l2⟩ := split_len (x := s) (y := ⟨#[32]⟩) (by decide)
  have e0 : f_deed_in (.str s) K E = splitM (.str s) (.str ⟨#[32]⟩) fun l3 => TL.orM (fun Q => ixM (.list l3) (.int 0) fun r5 => inDctM formsD r5 fun b6 => Q (!b6)) (fun Q => lenM (.list l3) fun r7 => ixM (.list l3) (.int 0) fun r8 => dctM formsD r8 fun r9 => lenM r9 fun r10 => addM r10 (.int 1) fun r11 => neM r7 r11 fun b12 => Q b12) fun b4 =>
      (b4 = true → (K PyData.none)) ∧ (b4 = false → (slM (.list l3) (some 1) none fun r17 => ixM (.list l3) (.int 0) fun r18 => dctM formsD r18 fun r19 => zipM r17 r19 fun xs16 =>
      lcM (fun p20 kp sk => un2 p20 fun word22 sign23 => f_thing_in word22 sign23 (fun r25 => kp r25) (fun _ => False)) (fun l21 =>
      inM PyData.none (.list l21) fun b26 => (b26 = true → (K PyData.none)) ∧ (b26 = false → (ixM (.list l3) (.int 0) fun r30 => addM (.list [r30]) (.list l21) fun r31 => tupM r31 fun r32 => K r32))) xs16 [])) := by
    unfold f_deed_in; rfl
  rw [e0, q_split1 h]
  unfold deedO
  generalize hL : Txt.split s ⟨#[32]⟩ = L at l1 l2
  obtain ⟨w, ws, rfl⟩ : ∃ w ws, L = w :: ws := by
    cases L with
    | nil =>
      exact absurd hL (split_ne s (by decide) (by decide +kernel))
    | cons w ws => exact ⟨w, ws, rfl⟩
  have i0 : ∀ Q : KD, ixM (.list ((w :: ws).map PyData.str)) (.int 0) Q = Q (.str w) := fun Q => by
    rw [q_ix_l, at_nat (xs := (w :: ws).map PyData.str) (Int.le_refl 0) (x := .str w) rfl]
  simp only [i0]
  show _ = K (deedW w ws)
  unfold deedW
  have d1 : ∀ Q : KB, inDctM formsD (.str w) Q = Q (formsD.lookup w).isSome := fun Q => rfl
  simp only [d1, forms_lookup]
  cases hf : formsL.lookup w with
  | none =>
    rw [or_b (b1 := true) (b2 := false) (fun Q => ?_) (fun z => by cases z), Bool.true_or, if_b]
    all_goals rfl
  | some f =>
    have hlf := forms_len hf
    have d2 : ∀ Q : KD, dctM formsD (.str w) Q = Q (.str f) := fun Q => by
      unfold dctM
      dsimp only
      rw [forms_lookup, hf]; rfl
    simp only [d2]
    rw [or_b (b1 := false) (b2 := !decide (ws.length = f.length)) (fun Q => ?_) (fun _ Q => ?_), Bool.false_or, if_b]
    · by_cases hw : ws.length = f.length
      · rw [decide_eq_true hw, if_pos hw, Bool.not_true, cond_false, q_sl_l]
        show zipM (.list (cut (.str w :: ws.map .str) (some 1) none)) (.str f) _ = _
        rw [cut_tail, show ∀ Q : KL, zipM (.list (ws.map .str)) (.str f) Q = Q (zipLS (ws.map .str) f) from fun Q => rfl, zip_words]
        rw [q_lc_map (ws.zip (tl f)) (fun q => PyData.tuple [.str q.1, sgnD q.2]) (fun q => thingO q.1 q.2) fun q hq k s => by
          show f_thing_in (.str q.1) (sgnD q.2) _ _ = _
          rw [e_thing_in (by have := l1 q.1 (List.mem_cons_of_mem _ (List.of_mem_zip hq).1); omega)]]
        rw [List.nil_append]
        show inM PyData.none (.list (foundO ws f)) _ = _
        rw [none_in (shp_found ws f), if_b]
        cases (foundO ws f).any isNone with
        | true => rfl
        | false =>
          rw [cond_false, q_add_ll]
          have hfl : (foundO ws f).length ≤ 3 := by unfold foundO; rw [List.length_map, List.length_zip, ← len_tl]; omega
          exact propext ⟨fun z => z.2, fun z => ⟨by show 1 + (foundO ws f).length ≤ sizeLine; omega, z⟩⟩
      · rw [decide_eq_false hw, if_neg hw]; rfl
    · rfl
    · rw [q_len_l, show lenM (.str f) = lenM (.str f) from rfl, len_le (by omega), q_add_ii, q_ne_ii, List.length_map]
      congr 2
      exact decide_eq_decide.mpr (by rw [List.length_cons]; omega)
end
end Tx
namespace Tx
open PySem PySem.Spec PyProof.Rows L2 TL
@[irreducible] def f__law_plan_text (l_plan_here : PyData) (K : KD) (E : KX) : Prop :=
  ixM l_plan_here (.int 0) fun r1 =>
  strM r1 fun r2 =>
  addM r2 (.str ":") fun r3 =>
  ixM l_plan_here (.int 1) fun r5 =>
  itM r5 fun xs4 =>
  lcM (fun p6 kp sk => un2 p6 fun l_low8 l_high9 =>
  strM l_low8 fun r11 =>
  addM r11 (.str "-") fun r12 =>
  strM l_high9 fun r13 =>
  addM r12 r13 fun r14 =>
  kp r14) (fun l7 =>
  tjoinM (.str ",") (.list l7) fun r15 =>
  addM r3 r15 fun r16 =>
  K r16) xs4 []
def c__law_plan_text : CT := fun args Φ Ψ => ∃ (l_plan_here : PyData) (K : KD) (E : KX), args = [.d l_plan_here] ∧ f__law_plan_text l_plan_here K E ∧ (∀ r, K r → Φ (.rd r) args) ∧ ∀ c, E c → Ψ c args
@[irreducible] def f__law_deed_text (l_deed : PyData) (K : KD) (E : KX) : Prop :=
  itM l_deed fun xs2 =>
  forM (fun l_thing7 l_words10 N8 B9 => ifM (fun Q => Q (isTyB "tuple" l_thing7)) (fun Q => f__law_plan_text l_thing7 (fun r14 =>
  Q r14) E) (fun Q => strM l_thing7 fun r15 =>
  Q r15) fun r13 =>
  l_words10.length < sizeLine ∧ (N8 (l_words10 ++ ([r13] : List PyData)))) (fun l_words3 =>
  tjoinM (.str " ") (.list l_words3) fun r6 =>
  K r6) xs2 []
def c__law_deed_text : CT := fun args Φ Ψ => ∃ (l_deed : PyData) (K : KD) (E : KX), args = [.d l_deed] ∧ f__law_deed_text l_deed K E ∧ (∀ r, K r → Φ (.rd r) args) ∧ ∀ c, E c → Ψ c args
abbrev nS (i : Int) : Str := toString i
def NumOk (i : Int) : Prop := 0 ≤ i ∧ i < 10000
section
variable {i : Int} {K : KD} {E : KX}
theorem tl_nS (h : NumOk i) : tl (nS i) = numL i.toNat := by
  have e : i = ((i.toNat : Nat) : Int) := by have := h.1; omega
  have z := tl_num i.toNat
  rw [← e] at z
  exact z
theorem nS_len (h : NumOk i) : 1 ≤ (nS i).length ∧ (nS i).length ≤ 4 := by
  rw [len_tl, tl_nS h]
  have h2 := h.2
  refine ⟨?_, numL_len (by decide) (by have := h.1; omega)⟩
  cases e : numL i.toNat with
  | nil => exact absurd e (numL_ne _)
  | cons a b => simp
theorem numL_head : ∀ n : Nat, (numL n).head? = some 48 → (numL n).length ≤ 1 := fun n => by
  have key : ∀ n : Nat, 1 ≤ n → (numL n).head? ≠ some 48 := fun n => by
    induction n using Nat.strongRecOn with
    | _ n ih =>
      intro h1
      by_cases h : n < 10
      · rw [numL_lt h]
        intro z
        have z : 48 + n = 48 := Option.some.inj z
        omega
      · rw [numL_step (by omega)]
        have := ih (n / 10) (by omega) (by omega)
        cases e : numL (n / 10) with
        | nil => exact absurd e (numL_ne _)
        | cons a b => rw [e] at this; exact this
  intro h
  cases n with
  | zero => rw [numL_lt (by decide)]; exact Nat.le_refl _
  | succ n => exact absurd h (key _ (by omega))
theorem nS_num (h : NumOk i) : numD (nS i) = .int i := by
  obtain ⟨l1, l2⟩ := nS_len h
  have e1 : digB (nS i) = true := by
    unfold digB
    rw [decide_eq_true l1, decide_eq_true l2, List.all_eq_true.mpr fun c hc => decide_eq_true (mem_fig.mpr (by rw [tl_nS h] at hc; exact numL_digits _ c hc))]
    simp only [Bool.true_and, Bool.not_eq_true', Bool.and_eq_false_iff, decide_eq_false_iff_not]
    by_cases z : (tl (nS i)).head? = some 48
    · right
      have := numL_head i.toNat (by rw [← tl_nS h]; exact z)
      rw [len_tl, tl_nS h]
      omega
    · exact .inl z
  unfold numD
  rw [if_pos e1]
  unfold valN
  rw [tl_nS h, numL_val]
  have := h.1
  congr 1
  omega
theorem nS_free (h : NumOk i) {c : Nat} (hc : c < 48 ∨ 57 < c) : c ∉ tl (nS i) := by rw [tl_nS h]; exact numL_free hc
theorem num_log (h : NumOk i) : i.natAbs.log2 < 1920 := by
  have : i.natAbs < 2 ^ 14 := by have := h.1; have := h.2; omega
  by_cases z : i.natAbs = 0
  · rw [z]; decide
  · have := (Nat.log2_lt z).mpr this
    omega
theorem q_str_i (h : NumOk i) : strM (.int i) K = K (.str (nS i)) := propext (and_iff_right (num_log h))
end
theorem mem_joinL {S : List Nat} {c : Nat} : ∀ {ps : List (List Nat)}, c ∈ joinL S ps → c ∈ S ∨ ∃ p ∈ ps, c ∈ p
  | [], h => by cases h
  | [p], h => .inr ⟨p, List.mem_singleton.mpr rfl, h⟩
  | p :: q :: r, h => by
    have h : c ∈ p ++ (S ++ joinL S (q :: r)) := h
    rcases List.mem_append.mp h with h | h
    · exact .inr ⟨p, List.mem_cons_self .., h⟩
    · rcases List.mem_append.mp h with h | h
      · exact .inl h
      · rcases mem_joinL h with h | ⟨z, hz, h⟩
        · exact .inl h
        · exact .inr ⟨z, List.mem_cons_of_mem _ hz, h⟩
theorem joinL_le {S : List Nat} {m : Nat} : ∀ {ps : List (List Nat)}, (∀ p ∈ ps, p.length ≤ m) → (joinL S ps).length ≤ ps.length * (m + S.length)
  | [], _ => Nat.zero_le _
  | [p], h => by
    have := h p (List.mem_singleton.mpr rfl)
    show p.length ≤ 1 * (m + S.length)
    omega
  | p :: q :: r, h => by
    have i := joinL_le (S := S) (m := m) (ps := q :: r) fun z hz => h z (List.mem_cons_of_mem _ hz)
    have := h p (List.mem_cons_self ..)
    show (p ++ (S ++ joinL S (q :: r))).length ≤ (q :: r).length.succ * (m + S.length)
    rw [List.length_append, List.length_append, Nat.succ_mul]
    omega
theorem join_mem {y : Str} {ps : List Str} {c : Nat} (h : c ∈ tl (Txt.join y ps)) : c ∈ tl y ∨ ∃ p ∈ ps, c ∈ tl p := by
  rw [join_eq, tl_join] at h
  rcases mem_joinL h with h | ⟨p, hp, h⟩
  · exact .inl h
  · obtain ⟨z, hz, rfl⟩ := List.mem_map.mp hp
    exact .inr ⟨z, hz, h⟩
theorem join_le {y : Str} {ps : List Str} {m : Nat} (h : ∀ p ∈ ps, p.length ≤ m) : (Txt.join y ps).length ≤ ps.length * (m + y.length) := by
  rw [join_eq, len_tl, tl_join, len_tl y]
  have := joinL_le (S := tl y) (m := m) (ps := ps.map tl) fun p hp => by
    obtain ⟨z, hz, rfl⟩ := List.mem_map.mp hp
    rw [← len_tl]; exact h z hz
  rw [List.length_map] at this
  exact this
theorem sumS_le {ps : List Str} {m : Nat} (h : ∀ p ∈ ps, p.length ≤ m) : (ps.map (fun s : Str => s.length)).sum ≤ ps.length * m := by
  induction ps with
  | nil => exact Nat.zero_le _
  | cons p ps ih =>
    have := ih fun z hz => h z (List.mem_cons_of_mem _ hz)
    have := h p (List.mem_cons_self ..)
    rw [List.map_cons, List.sum_cons, List.length_cons, Nat.succ_mul]
    omega
theorem q_tj {y : Str} {ps : List Str} {m : Nat} {K : KD} (h : ∀ p ∈ ps, p.length ≤ m) (h2 : ps.length * (m + y.length) ≤ 16777216) : tjoinM (.str y) (.list (ps.map .str)) K = K (.str (Txt.join y ps)) := by
  show (match strsOf (ps.map PyData.str) with
    | some (ys : List Str) => (ys.map (fun s : Str => s.length)).sum + ys.length * y.length ≤ 16777216 ∧ K (.str (Txt.join y ys))
    | none => False) = _
  rw [strs_of]
  have := sumS_le h
  exact propext (and_iff_right (by rw [Nat.mul_add] at h2; omega))
theorem len_app (x y : Str) : (x ++ y).length = x.length + y.length := by rw [len_tl, tl_append, List.length_append, ← len_tl, ← len_tl]
def pS (p : Int × Int) : Str := (nS p.1 ++ ⟨#[45]⟩) ++ nS p.2
def plS (n : Int) (cs : List (Int × Int)) : Str := (nS n ++ ⟨#[58]⟩) ++ Txt.join ⟨#[44]⟩ (cs.map pS)
def CutsOk (cs : List (Int × Int)) : Prop := (∀ p ∈ cs, NumOk p.1 ∧ NumOk p.2) ∧ cs.length ≤ 100
section
variable {n : Int} {cs : List (Int × Int)} {p : Int × Int} {K : KD} {E : KX}
theorem pS_len (h1 : NumOk p.1) (h2 : NumOk p.2) : 3 ≤ (pS p).length ∧ (pS p).length ≤ 9 := by
  unfold pS
  rw [len_app, len_app, show (⟨#[45]⟩ : Str).length = 1 from rfl]
  have := nS_len h1
  have := nS_len h2
  omega
theorem pS_mem (h1 : NumOk p.1) (h2 : NumOk p.2) {c : Nat} (hc : c ∈ tl (pS p)) : c = 45 ∨ (48 ≤ c ∧ c ≤ 57) := by
  unfold pS at hc
  rw [tl_append, tl_append] at hc
  rcases List.mem_append.mp hc with hc | hc
  · rcases List.mem_append.mp hc with hc | hc
    · rw [tl_nS h1] at hc; exact .inr (numL_digits _ c hc)
    · exact .inl (List.mem_singleton.mp hc)
  · rw [tl_nS h2] at hc; exact .inr (numL_digits _ c hc)
theorem pS_pair (h1 : NumOk p.1) (h2 : NumOk p.2) : pairO (pS p) = ppD p := by
  have e : pS p = Txt.join ⟨#[45]⟩ [nS p.1, nS p.2] := by rw [join_eq]; rfl
  unfold pairO
  rw [e, split_join (y := ⟨#[45]⟩) (s := 45) (S := []) rfl (by decide +kernel) (by simp) fun z hz => by
    rcases List.mem_cons.mp hz with rfl | hz
    · exact nS_free h1 (by decide)
    · rw [List.mem_singleton.mp hz]; exact nS_free h2 (by decide)]
  dsimp only
  rw [nS_num h1, nS_num h2]
  rfl
theorem cuts_mem (hc : CutsOk cs) {c : Nat} (h : c ∈ tl (Txt.join ⟨#[44]⟩ (cs.map pS))) : c = 44 ∨ c = 45 ∨ (48 ≤ c ∧ c ≤ 57) := by
  rcases join_mem h with h | ⟨z, hz, h⟩
  · exact .inl (List.mem_singleton.mp h)
  · obtain ⟨p, hp, rfl⟩ := List.mem_map.mp hz
    exact .inr (pS_mem (hc.1 p hp).1 (hc.1 p hp).2 h)
theorem cuts_read (hc : CutsOk cs) : cutsO (Txt.join ⟨#[44]⟩ (cs.map pS)) = cs.map ppD := by
  unfold cutsO
  cases cs with
  | nil => rfl
  | cons p cs =>
    have hne : Txt.join ⟨#[44]⟩ ((p :: cs).map pS) ≠ "" := fun z => by
      have e := congrArg tl z
      rw [join_eq, tl_join] at e
      have l := (joinL_len (y := tl (⟨#[44]⟩ : Str)) (ps := ((p :: cs).map pS).map tl)).1 (tl (pS p)) (by simp)
      rw [e] at l
      have := (pS_len (hc.1 p (by simp)).1 (hc.1 p (by simp)).2).1
      rw [len_tl] at this
      have l : (tl (pS p)).length ≤ 0 := l
      omega
    rw [if_neg hne, split_join (y := ⟨#[44]⟩) (s := 44) (S := []) rfl (by decide +kernel) (by simp) fun z hz => by
      obtain ⟨q, hq, rfl⟩ := List.mem_map.mp hz
      intro m
      rcases pS_mem (hc.1 q hq).1 (hc.1 q hq).2 m with m | m <;> omega, List.map_map]
    exact List.map_congr_left fun q hq => pS_pair (hc.1 q hq).1 (hc.1 q hq).2
theorem any_cuts : (cs.map ppD).any isNone = false := by rw [List.any_map]; exact List.any_eq_false.mpr fun p _ => by show ¬ (false = true); decide
theorem plS_read (hn : NumOk n) (hc : CutsOk cs) : planO (plS n cs) = plD n cs := by
  have e : plS n cs = Txt.join ⟨#[58]⟩ [nS n, Txt.join ⟨#[44]⟩ (cs.map pS)] := by rw [join_eq]; rfl
  unfold planO
  rw [e, split_join (y := ⟨#[58]⟩) (s := 58) (S := []) rfl (by decide +kernel) (by simp) fun z hz => by
    rcases List.mem_cons.mp hz with rfl | hz
    · exact nS_free hn (by decide)
    · rw [List.mem_singleton.mp hz]
      intro m
      rcases cuts_mem hc m with m | m | m <;> omega]
  dsimp only
  rw [nS_num hn, cuts_read hc, any_cuts]
  rfl
theorem plS_mem (hn : NumOk n) (hc : CutsOk cs) : 32 ∉ tl (plS n cs) := fun m => by
  unfold plS at m
  rw [tl_append, tl_append] at m
  rcases List.mem_append.mp m with m | m
  · rcases List.mem_append.mp m with m | m
    · exact nS_free hn (by decide) m
    · have := List.mem_singleton.mp m; omega
  · rcases cuts_mem hc m with m | m | m <;> omega
theorem pS_all (hc : CutsOk cs) : ∀ s ∈ cs.map pS, s.length ≤ 9 := fun s hs => by
  obtain ⟨q, hq, rfl⟩ := List.mem_map.mp hs
  exact (pS_len (hc.1 q hq).1 (hc.1 q hq).2).2
theorem plS_len (hn : NumOk n) (hc : CutsOk cs) : (plS n cs).length ≤ 1005 := by
  unfold plS
  rw [len_app, len_app]
  have := (nS_len hn).2
  have l := join_le (y := ⟨#[44]⟩) (m := 9) (pS_all hc)
  rw [List.length_map] at l
  have := hc.2
  have e1 : (⟨#[58]⟩ : Str).length = 1 := rfl
  have e2 : (⟨#[44]⟩ : Str).length = 1 := rfl
  rw [e2] at l
  omega
theorem q_tj44 (hc : CutsOk cs) : tjoinM (.str ⟨#[44]⟩) (.list ((cs.map pS).map .str)) K = K (.str (Txt.join ⟨#[44]⟩ (cs.map pS))) := q_tj (m := 9) (pS_all hc) (by
  have := hc.2
  have e2 : (⟨#[44]⟩ : Str).length = 1 := rfl
  rw [List.length_map, e2]; omega)
theorem q_adds {x y : Str} (h : x.length + y.length ≤ 5000) : addM (.str x) (.str y) K = K (.str (x ++ y)) := by
  have hsl := sizeLine_eq
  rw [q_add_ss]; exact propext (and_iff_right (by omega))
theorem str_pS : (cs.map fun p => PyData.str (pS p)) = (cs.map pS).map .str := by rw [List.map_map]; rfl
theorem e__law_plan_text (hn : NumOk n) (hc : CutsOk cs) : f__law_plan_text (plD n cs) K E = K (.str (plS n cs)) := by
  have i0 : ∀ Q : KD, ixM (plD n cs) (.int 0) Q = Q (.int n) := fun Q => rfl
  have i1 : ∀ Q : KD, ixM (plD n cs) (.int 1) Q = Q (.tuple (cs.map ppD)) := fun Q => rfl
  have l1 := (nS_len hn).2
  unfold f__law_plan_text
  rw [i0, q_str_i hn]
  show addM (.str (nS n)) (.str ⟨#[58]⟩) _ = _
  rw [q_adds (by have : (⟨#[58]⟩ : Str).length = 1 := rfl; omega), i1, q_it_t, q_lc_map cs ppD (fun p => PyData.str (pS p)) fun p hp k s => ?_, List.nil_append, str_pS]
  · show tjoinM (.str ⟨#[44]⟩) _ _ = _
    rw [q_tj44 hc, q_adds]
    · rfl
    · have := plS_len hn hc
      unfold plS at this
      rw [len_app] at this
      omega
  · obtain ⟨h1, h2⟩ := hc.1 p hp
    have l1 := (nS_len h1).2
    have l2 := (nS_len h2).2
    have e45 : (⟨#[45]⟩ : Str).length = 1 := rfl
    show strM (.int p.1) (fun r11 => addM r11 (.str ⟨#[45]⟩) fun r12 => strM (.int p.2) fun r13 => addM r12 r13 fun r14 => k r14) = _
    rw [q_str_i h1, q_adds (by omega), q_str_i h2, q_adds (by rw [len_app]; omega)]
    rfl
end
end Tx
namespace Tx
open PySem PySem.Spec PyProof.Rows L2 TL
@[irreducible] def f_read_deed (text : PyData) (K : KD) (E : KX) : Prop :=
  f_deed_in text (fun r1 =>
  ((isNone r1) = true → (fxM (.int 0) (E (.ownF "BadText" [("at", (.int 0))])))) ∧ ((isNone r1) = false → (K r1))) E
def c_read_deed : CT := fun args Φ Ψ => ∃ (text : PyData) (K : KD) (E : KX), args = [.d text] ∧ f_read_deed text K E ∧ (∀ r, K r → Φ (.rd r) args) ∧ ∀ c, E c → Ψ c args
@[irreducible] def f__law_any_deed  (K : KD) (E : KX) : Prop :=
  splitM (.str "fold drop pinch unpinch over about paint mark wash unfold refold") (.str " ") fun l1 =>
  f__law_pull (.int 11) (fun r2 =>
  ixM (.list l1) r2 fun r3 =>
  f__law_pull (.int 8) (fun r5 =>
  addM (.int 1) r5 fun r6 =>
  rngM (.int 0) r6 fun xs4 =>
  forM (fun l_k54 l_name57 N55 B56 => f__law_pull (.int 26) (fun r59 =>
  ixM (.str "abcdefghijklmnopqrstuvwxyz") r59 fun r60 =>
  addM l_name57 r60 fun r61 =>
  N55 r61) E) (fun l_name7 =>
  inM r3 (.tuple [(.str "fold"), (.str "refold")]) fun b9 =>
  (b9 = true → (f__law_pull (.int 3) (fun r13 =>
  ixM (.list [(.int 6), (.int 12), (.int 40)]) r13 fun r14 =>
  f__law_plan r14 (fun r15 =>
  joinM (fun (Q : PyData → Prop) => f__law_pull (.int 4) (fun r16 =>
  eqM r16 (.int 0) fun b17 =>
  (b17 = true → (rngM (.int 0) (.int 2) fun xs21 =>
  lcM (fun l_k22 kp sk => f__law_pull (.int 10000) (fun r24 =>
  f__law_pull (.int 50) (fun r25 =>
  kp (.tuple [r24, r25])) (fun _ => False)) (fun _ => False)) (fun l23 =>
  f__law_pull (.int 10000) (fun r26 =>
  tupM (.list l23) fun r27 =>
  Q (.tuple [r26, r27])) E) xs21 [])) ∧ (b17 = false → (Q r15))) E) (fun l_plan_here28 =>
  K (.tuple [r3, l_name7, l_plan_here28]))) E) E)) ∧ (b9 = false → (inM r3 (.tuple [(.str "pinch"), (.str "unpinch")]) fun b30 =>
  (b30 = true → (f__law_pull (.int 2) (fun r34 =>
  ixM (.list [(.str "even"), (.str "odd")]) r34 fun r35 =>
  K (.tuple [r3, l_name7, r35])) E)) ∧ (b30 = false → (f__law_pull (.int 6) (fun r36 =>
  f__law_pull (.int 10000) (fun r37 =>
  f__law_pull (.int 2) (fun r38 =>
  ixM (.list [r36, r37]) r38 fun r39 =>
  eqM r3 (.str "paint") fun b40 =>
  (b40 = true → (f__law_pull (.int 3) (fun r44 =>
  ixM (.list [(.str "red"), (.str "blue"), (.str "gold")]) r44 fun r45 =>
  K (.tuple [r3, l_name7, r39, r45])) E)) ∧ (b40 = false → (eqM r3 (.str "mark") fun b46 =>
  (b46 = true → (f__law_pull (.int 26) (fun r50 =>
  ixM (.str "abcdefghijklmnopqrstuvwxyz") r50 fun r51 =>
  K (.tuple [r3, l_name7, r39, r51])) E)) ∧ (b46 = false → (ifM (fun Q => eqM r3 (.str "wash") fun b53 =>
  Q b53) (fun Q => Q (.tuple [r3, l_name7, r39])) (fun Q => Q (.tuple [r3, l_name7])) fun r52 =>
  K r52))))) E) E) E))))) xs4 (.str "")) E) E
def c__law_any_deed : CT := fun args Φ Ψ => ∃ (a_l_bag_here : Addr) (K : KD) (E : KX), args = [.bg a_l_bag_here] ∧ f__law_any_deed  K E ∧ (∀ r, K r → Φ (.rd r) args) ∧ ∀ c, E c → Ψ c args
inductive Thg | tx (s : Str) | nu (i : Int) | pl (n : Int) (cs : List (Int × Int))
def Thg.D : Thg → PyData
  | .tx s => .str s
  | .nu i => .int i
  | .pl n cs => plD n cs
def Thg.S : Thg → Str
  | .tx s => s
  | .nu i => nS i
  | .pl n cs => plS n cs
def Thg.Ok : Thg → Prop
  | .tx s => 32 ∉ tl s ∧ s.length ≤ 8
  | .nu i => NumOk i
  | .pl n cs => NumOk n ∧ CutsOk cs
theorem Thg.len {t : Thg} (h : t.Ok) : t.S.length ≤ 1005 ∧ 32 ∉ tl t.S := by
  cases t with
  | tx s => exact ⟨by have := h.2; show s.length ≤ _; omega, h.1⟩
  | nu i => exact ⟨by have := (nS_len h).2; show (nS i).length ≤ _; omega, nS_free h (by decide)⟩
  | pl n cs => exact ⟨plS_len h.1 h.2, plS_mem h.1 h.2⟩
theorem ty_str {s : Str} : isTyB "tuple" (.str s) = false := by show (L2.kitB "str" "tuple").getD false = false; decide +kernel
theorem ty_int {i : Int} : isTyB "tuple" (.int i) = false := by show (L2.kitB "int" "tuple").getD false = false; decide +kernel
theorem ty_tup {xs : List PyData} : isTyB "tuple" (.tuple xs) = true := by show (L2.kitB "tuple" "tuple").getD false = true; decide +kernel
section
variable {K : KD} {E : KX}
theorem words_len {ts : List Thg} (h : ∀ t ∈ ts, t.Ok) : ∀ s ∈ ts.map Thg.S, s.length ≤ 1005 := fun s hs => by
  obtain ⟨t, ht, rfl⟩ := List.mem_map.mp hs
  exact (Thg.len (h t ht)).1
def dS (ts : List Thg) : Str := Txt.join ⟨#[32]⟩ (ts.map Thg.S)
def dD (ts : List Thg) : PyData := .tuple (ts.map Thg.D)
theorem q_tj32 {ts : List Thg} (h : ∀ t ∈ ts, t.Ok) (hl : ts.length ≤ 10) : tjoinM (.str ⟨#[32]⟩) (.list ((ts.map Thg.S).map .str)) K = K (.str (dS ts)) := q_tj (m := 1005) (words_len h) (by
  have e2 : (⟨#[32]⟩ : Str).length = 1 := rfl
  rw [List.length_map, e2]; omega)
theorem e__law_deed_text {ts : List Thg} (h : ∀ t ∈ ts, t.Ok) (hl : ts.length ≤ 10) : f__law_deed_text (dD ts) K E = K (.str (dS ts)) := by
  have hsl := sizeLine_eq
  have key : ∀ (us ws : List Thg) (KK : List PyData → Prop), (∀ t ∈ us, t.Ok) → ws.length + us.length ≤ 10 → forM (fun l_thing7 l_words10 N8 B9 => ifM (fun Q => Q (isTyB "tuple" l_thing7)) (fun Q => f__law_plan_text l_thing7 (fun r14 => Q r14) E) (fun Q => strM l_thing7 fun r15 => Q r15) fun r13 => l_words10.length < sizeLine ∧ (N8 (l_words10 ++ ([r13] : List PyData)))) KK (us.map Thg.D) ((ws.map Thg.S).map .str) = KK (((ws ++ us).map Thg.S).map .str) := fun us => by
    induction us with
    | nil => intro ws KK _ _; rw [List.append_nil]; rfl
    | cons u us ih =>
      intro ws KK hu hl
      rw [List.length_cons] at hl
      rw [List.map_cons, q_for_cons]
      have step : ∀ Q : KD, ifM (fun Q => Q (isTyB "tuple" u.D)) (fun Q => f__law_plan_text u.D (fun r14 => Q r14) E) (fun Q => strM u.D fun r15 => Q r15) Q = Q (.str u.S) := fun Q => by
        unfold ifM
        dsimp only
        rw [if_b]
        have hu := hu u (List.mem_cons_self ..)
        cases u with
        | tx s => show cond (isTyB "tuple" (.str s)) _ _ = _; rw [ty_str]; rfl
        | nu i => show cond (isTyB "tuple" (.int i)) _ _ = _; rw [ty_int]; exact q_str_i hu
        | pl n cs => show cond (isTyB "tuple" (.tuple _)) _ _ = _; rw [ty_tup]; exact e__law_plan_text hu.1 hu.2
      rw [step]
      have i := ih (ws ++ [u]) KK (fun t ht => hu t (List.mem_cons_of_mem _ ht)) (by rw [List.length_append, List.length_singleton]; omega)
      rw [List.append_assoc, List.map_append, List.map_append] at i
      rw [show ws ++ u :: us = ws ++ ([u] ++ us) from rfl, ← i]
      exact propext (and_iff_right (by rw [List.length_map, List.length_map]; omega))
  unfold f__law_deed_text dD
  rw [q_it_t]
  have e := key ts [] (fun l_words3 => tjoinM (.str " ") (.list l_words3) fun r6 => K r6) h (by simpa using hl)
  rw [List.nil_append] at e
  exact e.trans (q_tj32 h hl)
structure DOk (w : Str) (ts : List Thg) : Prop where
  w32 : 32 ∉ tl w
  wl : w.length ≤ 8
  ok : ∀ t ∈ ts, t.Ok
  len : ts.length ≤ 3
  rd : deedW w (ts.map Thg.S) = dD (.tx w :: ts)
  pl : w = "fold" ∨ w = "refold" → ∃ nm n cs, ts = [.tx nm, .pl n cs]
theorem DOk.all {w : Str} {ts : List Thg} (d : DOk w ts) : ∀ t ∈ (Thg.tx w :: ts), t.Ok := fun t ht => by
  rcases List.mem_cons.mp ht with rfl | ht
  · exact ⟨d.w32, d.wl⟩
  · exact d.ok t ht
abbrev wordsL : List Str := ["fold", "drop", "pinch", "unpinch", "over", "about", "paint", "mark", "wash", "unfold", "refold"]
theorem words_ok {w : Str} (h : w ∈ wordsL) : 32 ∉ tl w ∧ w.length ≤ 8 := by
  have k : (wordsL.all fun w => decide (32 ∉ tl w) && decide (w.length ≤ 8)) = true := by decide +kernel
  have := List.all_eq_true.mp k w h
  rw [Bool.and_eq_true, decide_eq_true_eq, decide_eq_true_eq] at this
  exact this
theorem thD_none (t : Thg) : isNone t.D = false := by cases t <;> rfl
theorem mk_ok {w f : Str} {ts : List Thg} (hw : w ∈ wordsL) (hf : formsL.lookup w = some f) (hl : ts.length = f.length) (h : ∀ q ∈ ts.zip (tl f), thingO q.1.S q.2 = q.1.D) (ok : ∀ t ∈ ts, t.Ok) (pl : w = "fold" ∨ w = "refold" → ∃ nm n cs, ts = [.tx nm, .pl n cs]) : DOk w ts := by
  obtain ⟨h1, h2⟩ := words_ok hw
  refine ⟨h1, h2, ok, by have := forms_len hf; omega, ?_, pl⟩
  have e : foundO (ts.map Thg.S) f = ts.map Thg.D := by
    unfold foundO
    rw [List.zip_map_left, List.map_map]
    have e1 : (ts.zip (tl f)).map ((fun q : Str × Nat => thingO q.1 q.2) ∘ Prod.map Thg.S id) = (ts.zip (tl f)).map fun q => q.1.D := List.map_congr_left fun q hq => h q hq
    rw [e1, show (fun q : Thg × Nat => q.1.D) = Thg.D ∘ Prod.fst from rfl, ← List.map_map, List.map_fst_zip (by rw [← len_tl]; omega)]
  unfold deedW
  rw [hf]
  dsimp only
  rw [List.length_map, if_pos hl, e, if_neg]
  · rfl
  · rw [List.any_map, List.any_eq_true]
    rintro ⟨t, _, ht⟩
    rw [show (isNone ∘ Thg.D) t = isNone t.D from rfl, thD_none] at ht
    cases ht
theorem ix_any {xs : List PyData} {i : Int} (h0 : 0 ≤ i) (h1 : i < xs.length) (h : ∀ x ∈ xs, K x) : ixM (.list xs) (.int i) K := by
  have hx : xs[i.toNat]? = some xs[i.toNat] := List.getElem?_eq_getElem (by omega)
  rw [q_ix_l, at_nat h0 hx]
  exact h _ (List.getElem_mem _)
theorem ix_anyS {s : Str} {i : Int} (hl : s.length ≤ 100000) (h0 : 0 ≤ i) (h1 : i < s.length) (h : ∀ c ∈ tl s, K (sgn c)) : ixM (.str s) (.int i) K := by
  have hsl := sizeLine_eq
  rw [len_tl] at h1
  have hx : (tl s)[i.toNat]? = some (tl s)[i.toNat] := List.getElem?_eq_getElem (by omega)
  rw [q_ix_s, show s.cps.toList = tl s from rfl, at_nat h0 hx]
  exact ⟨by omega, h _ (List.getElem_mem _)⟩
theorem lc_each {bd : PyData → (PyData → Prop) → Prop → Prop} {KK : List PyData → Prop} (S : PyData → Prop) : ∀ (xs : List PyData) (h : ∀ a ∈ xs, ∀ (k : PyData → Prop) (s : Prop), (∀ p, S p → k p) → bd a k s) (acc : List PyData), (∀ l : List PyData, l.length = acc.length + xs.length → (∀ d ∈ l, d ∈ acc ∨ S d) → KK l) → lcM bd KK xs acc
  | [], _, acc, hK => hK acc rfl fun d hd => .inl hd
  | x :: xs, h, acc, hK => h x (List.mem_cons_self ..) _ _ fun p hp => lc_each S xs (fun a ha => h a (List.mem_cons_of_mem _ ha)) (acc ++ [p]) fun l hl hd => hK l (by rw [hl, List.length_append, List.length_singleton, List.length_cons]; omega) fun d h => by
    rcases hd d h with h | h
    · rcases List.mem_append.mp h with h | h
      · exact .inl h
      · rw [List.mem_singleton.mp h]; exact .inr hp
    · exact .inr h
end
theorem rng_any {b : Int} {Q : KL} (h0 : 0 ≤ b) (h1 : b ≤ 1000000) (h : ∀ xs : List PyData, (xs.length : Int) = b → Q xs) : rngM (.int 0) (.int b) Q := by
  rw [q_rng]
  refine ⟨⟨by decide, by decide, by omega, h1⟩, h _ ?_⟩
  unfold rangeL
  rw [List.length_map, List.length_range]; omega
theorem words_split : Txt.split "fold drop pinch unpinch over about paint mark wash unfold refold" ⟨#[32]⟩ = wordsL := by
  have e : ("fold drop pinch unpinch over about paint mark wash unfold refold" : Str) = Txt.join ⟨#[32]⟩ wordsL := by rw [join_eq]; decide +kernel
  rw [e, split_join (y := ⟨#[32]⟩) (s := 32) (S := []) rfl (by decide +kernel) (by simp) fun z hz => (words_ok hz).1]
theorem len_one {c : Nat} : (⟨#[c]⟩ : Str).length = 1 := rfl
def NmOk (s : Str) : Prop := ∀ c ∈ tl s, c ∈ tl abcS
theorem nm_app {s : Str} {c : Nat} (h : NmOk s) (hc : c ∈ tl abcS) : NmOk (s ++ ⟨#[c]⟩) := fun d hd => by
  rw [tl_append] at hd
  rcases List.mem_append.mp hd with hd | hd
  · exact h d hd
  · rw [List.mem_singleton.mp hd]; exact hc
theorem nm_B {s : Str} (h : NmOk s) (l1 : 1 ≤ s.length) (l2 : s.length ≤ 8) : nmB s = true := by
  unfold nmB
  rw [decide_eq_true l1, decide_eq_true l2, List.all_eq_true.mpr fun c hc => decide_eq_true (h c hc)]
  rfl
theorem nm_32 {s : Str} (h : NmOk s) : 32 ∉ tl s := fun m => by have := abc_low (h 32 m); omega
theorem abc_len : abcS.length = 26 := by decide +kernel
section
variable {K : KD} {E : KX}
theorem i_name {bd : PyData → PyData → (PyData → Prop) → (PyData → Prop) → Prop} {KK : PyData → Prop} (hb : ∀ a s N, NmOk s → s.length ≤ 100 → (∀ c ∈ tl abcS, N (.str (s ++ ⟨#[c]⟩))) → bd a (.str s) N KK) : ∀ (xs : List PyData) (s : Str), NmOk s → s.length + xs.length ≤ 100 → (∀ t : Str, NmOk t → t.length = s.length + xs.length → KK (.str t)) → forM bd KK xs (.str s)
  | [], s, hs, _, h => h s hs rfl
  | x :: xs, s, hs, hl, h => by
    rw [List.length_cons] at hl
    rw [q_for_cons]
    refine hb x s _ hs (by omega) fun c hc => ?_
    refine i_name hb xs (s ++ ⟨#[c]⟩) (nm_app hs hc) (by rw [len_app, len_one]; omega) fun t ht hl2 => h t ht ?_
    rw [hl2, len_app, len_one, List.length_cons]; omega
theorem th_name {nm : Str} (h : NmOk nm) (l1 : 1 ≤ nm.length) (l2 : nm.length ≤ 8) : thingO nm 110 = .str nm := by
  show (if nmB nm = true then PyData.str nm else .none) = _
  rw [nm_B h l1 l2, if_pos rfl]
theorem th_way {w : Str} (h : inB w ["even", "odd"] = true) : thingO w 119 = .str w := by
  show (if inB w ["even", "odd"] = true then PyData.str w else .none) = _
  rw [if_pos h]
theorem th_colour {w : Str} (h : inB w ["red", "blue", "gold"] = true) : thingO w 99 = .str w := by
  show (if inB w ["red", "blue", "gold"] = true then PyData.str w else .none) = _
  rw [if_pos h]
theorem th_letter {c : Nat} (h : c ∈ tl abcS) : thingO ⟨#[c]⟩ 108 = .str ⟨#[c]⟩ := by
  show (if lttB ⟨#[c]⟩ = true then PyData.str ⟨#[c]⟩ else .none) = _
  have e : lttB ⟨#[c]⟩ = true := by
    unfold lttB
    rw [decide_eq_true len_one, List.all_eq_true.mpr fun d hd => decide_eq_true (by rw [List.mem_singleton.mp hd]; exact h)]
    rfl
  rw [e, if_pos rfl]
theorem th_num {i : Int} (h : NumOk i) : thingO (nS i) 115 = .int i := nS_num h
theorem th_plan {n : Int} {cs : List (Int × Int)} (hn : NumOk n) (hc : CutsOk cs) : thingO (plS n cs) 112 = plD n cs := plS_read hn hc
/-- a deed of a name alone, and more things behind it -/
theorem zip1 {a : Thg} {c : Nat} (h : thingO a.S c = a.D) : ∀ q ∈ [a].zip [c], thingO q.1.S q.2 = q.1.D := fun q hq => by
  rw [List.mem_singleton.mp hq]; exact h
theorem zip2 {a b : Thg} {c d : Nat} (h : thingO a.S c = a.D) (h2 : thingO b.S d = b.D) : ∀ q ∈ [a, b].zip [c, d], thingO q.1.S q.2 = q.1.D := fun q hq => by
  rcases List.mem_cons.mp hq with rfl | hq
  · exact h
  · exact zip1 h2 q hq
theorem zip3 {a b e : Thg} {c d f : Nat} (h : thingO a.S c = a.D) (h2 : thingO b.S d = b.D) (h3 : thingO e.S f = e.D) : ∀ q ∈ [a, b, e].zip [c, d, f], thingO q.1.S q.2 = q.1.D := fun q hq => by
  rcases List.mem_cons.mp hq with rfl | hq
  · exact h
  · exact zip2 h2 h3 q hq
theorem pps_of : ∀ L : List PyData, (∀ d ∈ L, d ∈ ([] : List PyData) ∨ ∃ p : Int × Int, d = ppD p ∧ NumOk p.1 ∧ NumOk p.2) → ∃ cs : List (Int × Int), L = cs.map ppD ∧ ∀ p ∈ cs, NumOk p.1 ∧ NumOk p.2
  | [], _ => ⟨[], rfl, fun _ h => by cases h⟩
  | d :: L, hd => by
    obtain ⟨cs, rfl, h2⟩ := pps_of L fun d' h => hd d' (List.mem_cons_of_mem _ h)
    rcases hd d (List.mem_cons_self ..) with h | ⟨p, rfl, h⟩
    · cases h
    · exact ⟨p :: cs, rfl, fun q hq => by
        rcases List.mem_cons.mp hq with rfl | hq
        · exact h
        · exact h2 q hq⟩
theorem i_any_deed (hK : ∀ w ts, DOk w ts → K (dD (.tx w :: ts))) : f__law_any_deed K E := by
  have hsl := sizeLine_eq
  unfold f__law_any_deed
  show splitM (.str "fold drop pinch unpinch over about paint mark wash unfold refold") (.str ⟨#[32]⟩) _
  rw [q_split1 (by decide +kernel), words_split]
  rw [e__law_pull (by decide) (by decide)]
  intro r2 a1 a2
  refine ix_any a1 a2 fun x hx => ?_
  obtain ⟨w, hw, rfl⟩ := List.mem_map.mp hx
  rw [e__law_pull (by decide) (by decide)]
  intro r5 b1 b2
  rw [q_add_ii]
  refine rng_any (by omega) (by omega) fun xs hxs => ?_
  refine i_name (fun a s N hs hl hN => ?_) xs "" (fun c hc => by cases hc) (by show 0 + _ ≤ 100; omega) fun nm hnm hl => ?_
  · rw [e__law_pull (by decide) (by decide)]
    intro r59 c1 c2
    refine ix_anyS (by decide +kernel) c1 (by show r59 < (abcS.length : Nat); rw [abc_len]; exact c2) fun c hc => ?_
    show addM (.str s) (.str ⟨#[c]⟩) _
    rw [q_adds (by rw [len_one]; omega)]
    exact hN c hc
  have l1 : 1 ≤ nm.length := by rw [hl]; omega
  have l2 : nm.length ≤ 8 := by rw [hl]; show 0 + _ ≤ 8; omega
  have hnok : (Thg.tx nm).Ok := ⟨nm_32 hnm, l2⟩
  have tnm : thingO (Thg.tx nm).S 110 = (Thg.tx nm).D := th_name hnm l1 l2
  rw [q_in_two]
  refine ⟨fun hf => ?_, fun hf => ?_⟩
  · simp only [Bool.or_eq_true, decide_eq_true_eq] at hf
    have hlk : formsL.lookup w = some "np" := by rcases hf with rfl | rfl <;> decide +kernel
    have fin : ∀ n cs, NumOk n → CutsOk cs → K (.tuple [.str w, .str nm, plD n cs]) := fun n cs hn hc => by
      refine hK w [.tx nm, .pl n cs] (mk_ok hw hlk rfl (zip2 tnm (th_plan hn hc)) (fun t ht => ?_) fun _ => ⟨nm, n, cs, rfl⟩)
      rcases List.mem_cons.mp ht with rfl | ht
      · exact hnok
      · rw [List.mem_singleton.mp ht]; exact ⟨hn, hc⟩
    rw [e__law_pull (by decide) (by decide)]
    intro r13 c1 c2
    refine ix_any c1 c2 fun m hm => ?_
    obtain ⟨m', rfl, m1, m2⟩ : ∃ m' : Int, m = .int m' ∧ 3 ≤ m' ∧ m' ≤ 40 := by
      simp only [List.mem_cons, List.not_mem_nil, or_false] at hm
      rcases hm with rfl | rfl | rfl
      · exact ⟨_, rfl, by decide, by decide⟩
      · exact ⟨_, rfl, by decide, by decide⟩
      · exact ⟨_, rfl, by decide, by decide⟩
    rw [e__law_plan m1 m2]
    intro n n1 n2 l hl
    have hp : IsPlan n (planOf n l) := arcs_plan n1 (by omega) hl
    unfold joinM
    dsimp only
    rw [e__law_pull (by decide) (by decide)]
    intro r16 d1 d2
    rw [q_eq_ii]
    refine ⟨fun _ => ?_, fun _ => ?_⟩
    · refine rng_any (by decide) (by decide) fun ys hys => ?_
      refine lc_each (fun d => ∃ p : Int × Int, d = ppD p ∧ NumOk p.1 ∧ NumOk p.2) ys (fun a _ k s hk => ?_) [] fun L hL hd => ?_
      · rw [e__law_pull (by decide) (by decide)]
        intro r24 e1 e2
        rw [e__law_pull (by decide) (by decide)]
        intro r25 e3 e4
        exact hk _ ⟨(r24, r25), rfl, ⟨e1, e2⟩, ⟨e3, by show r25 < 10000; omega⟩⟩
      · rw [e__law_pull (by decide) (by decide)]
        intro r26 e1 e2
        have hL : L.length = ys.length := by simpa using hL
        have := pps_of L hd
        obtain ⟨cs, rfl, h2⟩ := this
        rw [q_tup_l]
        rw [List.length_map] at hL
        exact fin r26 cs ⟨e1, e2⟩ ⟨h2, by omega⟩
    · refine fin n _ ⟨by omega, by omega⟩ ⟨fun p hp2 => ?_, by have := hp.len; omega⟩
      have := hp.cut p hp2
      exact ⟨⟨by omega, by omega⟩, ⟨by omega, by omega⟩⟩
  simp only [Bool.or_eq_false_iff, decide_eq_false_iff_not] at hf
  have npl : ∀ ts : List Thg, (w = "fold" ∨ w = "refold" → ∃ nm n cs, ts = [.tx nm, .pl n cs]) := fun ts h => (h.elim hf.1 hf.2).elim
  rw [q_in_two]
  refine ⟨fun hg => ?_, fun hg => ?_⟩
  · simp only [Bool.or_eq_true, decide_eq_true_eq] at hg
    have hlk : formsL.lookup w = some "nw" := by rcases hg with rfl | rfl <;> decide +kernel
    rw [e__law_pull (by decide) (by decide)]
    intro r34 c1 c2
    refine ix_any c1 c2 fun m hm => ?_
    have fin : ∀ y : Str, inB y ["even", "odd"] = true → y.length ≤ 8 → 32 ∉ tl y → K (.tuple [.str w, .str nm, .str y]) := fun y h1 h2 h3 => by
      refine hK w [.tx nm, .tx y] (mk_ok hw hlk rfl (zip2 tnm (th_way h1)) (fun t ht => ?_) (npl _))
      rcases List.mem_cons.mp ht with rfl | ht
      · exact hnok
      · rw [List.mem_singleton.mp ht]; exact ⟨h3, h2⟩
    simp only [List.mem_cons, List.not_mem_nil, or_false] at hm
    rcases hm with rfl | rfl
    · exact fin _ (by decide +kernel) (by decide +kernel) (by decide +kernel)
    · exact fin _ (by decide +kernel) (by decide +kernel) (by decide +kernel)
  simp only [Bool.or_eq_false_iff, decide_eq_false_iff_not] at hg
  rw [e__law_pull (by decide) (by decide)]
  intro r36 c1 c2
  rw [e__law_pull (by decide) (by decide)]
  intro r37 c3 c4
  rw [e__law_pull (by decide) (by decide)]
  intro r38 c5 c6
  refine ix_any c5 c6 fun m hm => ?_
  obtain ⟨sl, rfl, hsl⟩ : ∃ sl : Int, m = .int sl ∧ NumOk sl := by
    simp only [List.mem_cons, List.not_mem_nil, or_false] at hm
    rcases hm with rfl | rfl
    · exact ⟨r36, rfl, c1, by omega⟩
    · exact ⟨r37, rfl, c3, c4⟩
  have tsl : thingO (Thg.nu sl).S 115 = (Thg.nu sl).D := th_num hsl
  rw [q_eq_ss]
  refine ⟨fun hpt => ?_, fun hpt => ?_⟩
  · have hpt := of_decide_eq_true hpt
    have hlk : formsL.lookup w = some "nsc" := by rw [hpt]; decide +kernel
    rw [e__law_pull (by decide) (by decide)]
    intro r44 d1 d2
    refine ix_any d1 d2 fun m hm => ?_
    have fin : ∀ y : Str, inB y ["red", "blue", "gold"] = true → y.length ≤ 8 → 32 ∉ tl y → K (.tuple [.str w, .str nm, .int sl, .str y]) := fun y h1 h2 h3 => by
      refine hK w [.tx nm, .nu sl, .tx y] (mk_ok hw hlk rfl (zip3 tnm tsl (th_colour h1)) (fun t ht => ?_) (npl _))
      rcases List.mem_cons.mp ht with rfl | ht
      · exact hnok
      · rcases List.mem_cons.mp ht with rfl | ht
        · exact hsl
        · rw [List.mem_singleton.mp ht]; exact ⟨h3, h2⟩
    simp only [List.mem_cons, List.not_mem_nil, or_false] at hm
    rcases hm with rfl | rfl | rfl
    · exact fin _ (by decide +kernel) (by decide +kernel) (by decide +kernel)
    · exact fin _ (by decide +kernel) (by decide +kernel) (by decide +kernel)
    · exact fin _ (by decide +kernel) (by decide +kernel) (by decide +kernel)
  rw [q_eq_ss]
  refine ⟨fun hmk => ?_, fun hmk => ?_⟩
  · have hmk := of_decide_eq_true hmk
    have hlk : formsL.lookup w = some "nsl" := by rw [hmk]; decide +kernel
    rw [e__law_pull (by decide) (by decide)]
    intro r50 d1 d2
    refine ix_anyS (by decide +kernel) d1 (by show r50 < (abcS.length : Nat); rw [abc_len]; exact d2) fun c hc => ?_
    refine hK w [.tx nm, .nu sl, .tx ⟨#[c]⟩] (mk_ok hw hlk rfl (zip3 tnm tsl (th_letter hc)) (fun t ht => ?_) (npl _))
    rcases List.mem_cons.mp ht with rfl | ht
    · exact hnok
    · rcases List.mem_cons.mp ht with rfl | ht
      · exact hsl
      · rw [List.mem_singleton.mp ht]
        refine ⟨fun m => ?_, by rw [len_one]; decide⟩
        have := abc_low hc
        have := List.mem_singleton.mp m
        omega
  have hpt := of_decide_eq_false hpt
  have hmk := of_decide_eq_false hmk
  unfold ifM
  dsimp only
  rw [q_eq_ss]
  refine ⟨fun hws => ?_, fun hws => ?_⟩
  · have hws := of_decide_eq_true hws
    have hlk : formsL.lookup w = some "ns" := by rw [hws]; decide +kernel
    refine hK w [.tx nm, .nu sl] (mk_ok hw hlk rfl (zip2 tnm tsl) (fun t ht => ?_) (npl _))
    rcases List.mem_cons.mp ht with rfl | ht
    · exact hnok
    · rw [List.mem_singleton.mp ht]; exact hsl
  · have hws := of_decide_eq_false hws
    have hlk : formsL.lookup w = some "n" := by
      simp only [List.mem_cons, List.not_mem_nil, or_false] at hw
      rcases hw with rfl | rfl | rfl | rfl | rfl | rfl | rfl | rfl | rfl | rfl | rfl
      · exact absurd rfl hf.1
      · decide +kernel
      · exact absurd rfl hg.1
      · exact absurd rfl hg.2
      · decide +kernel
      · decide +kernel
      · exact absurd rfl hpt
      · exact absurd rfl hmk
      · exact absurd rfl hws
      · decide +kernel
      · exact absurd rfl hf.2
    refine hK w [.tx nm] (mk_ok hw hlk rfl (zip1 tnm) (fun t ht => ?_) (npl _))
    rw [List.mem_singleton.mp ht]; exact hnok
end
theorem for_each {bd : PyData → Unit → (Unit → Prop) → (Unit → Prop) → Prop} {K : Unit → Prop} : ∀ (xs : List PyData) (h : ∀ d ∈ xs, ∀ N : Unit → Prop, N () → bd d () N K), K () → forM bd K xs ()
  | [], _, hK => hK
  | x :: xs, h, hK => by
    rw [q_for_cons]
    exact h x (List.mem_cons_self ..) _ (for_each xs (fun d hd => h d (List.mem_cons_of_mem _ hd)) hK)
end Tx
namespace Tx
open PySem PySem.Spec PyProof.Rows L2 TL
@[irreducible] def f__law_good_name (l_name : PyData) (K : KD) (E : KX) : Prop :=
  andM (fun Q => lenM l_name fun r2 =>
  andM (fun Q => leM (.int 1) r2 Q) (fun Q => leM r2 (.int 8) Q) fun b3 =>
  Q b3) (fun Q => itM l_name fun xs5 =>
  lcM (fun l_sign6 kp sk => inM l_sign6 (.str "abcdefghijklmnopqrstuvwxyz") fun b8 =>
  kp (.bool b8)) (fun l7 =>
  allM (.list l7) fun r9 =>
  boolM r9 fun b10 =>
  Q b10) xs5 []) fun b1 =>
  K (.bool b1)
def c__law_good_name : CT := fun args Φ Ψ => ∃ (l_name : PyData) (K : KD) (E : KX), args = [.d l_name] ∧ f__law_good_name l_name K E ∧ (∀ r, K r → Φ (.rd r) args) ∧ ∀ c, E c → Ψ c args
@[irreducible] def f__law_digits (l_word : PyData) (K : KD) (E : KX) : Prop :=
  orM (fun Q => lenM l_word fun r2 =>
  andM (fun Q => leM (.int 1) r2 Q) (fun Q => leM r2 (.int 4) Q) fun b3 =>
  Q (!b3)) (fun Q => itM l_word fun xs5 =>
  lcM (fun l_sign6 kp sk => inM l_sign6 (.str "0123456789") fun b8 =>
  kp (.bool b8)) (fun l7 =>
  allM (.list l7) fun r9 =>
  boolM r9 fun b10 =>
  Q (!b10)) xs5 []) fun b1 =>
  (b1 = true → (K PyData.none)) ∧ (b1 = false → (andM (fun Q => neM l_word (.str "0") fun b15 =>
  Q b15) (fun Q => ixM l_word (.int 0) fun r16 =>
  eqM r16 (.str "0") fun b17 =>
  Q b17) fun b14 =>
  (b14 = true → (K PyData.none)) ∧ (b14 = false → (intSM l_word fun r21 =>
  K r21))))
def c__law_digits : CT := fun args Φ Ψ => ∃ (l_word : PyData) (K : KD) (E : KX), args = [.d l_word] ∧ f__law_digits l_word K E ∧ (∀ r, K r → Φ (.rd r) args) ∧ ∀ c, E c → Ψ c args
@[irreducible] def f__law_plan_read (l_word : PyData) (K : KD) (E : KX) : Prop :=
  strO l_word fun s1 =>
  splitM (.str s1) (.str ":") fun l3 =>
  orM (fun Q => lenM (.list l3) fun r5 =>
  neM r5 (.int 2) fun b6 =>
  Q b6) (fun Q => ixM (.list l3) (.int 0) fun r7 =>
  f__law_digits r7 (fun r8 =>
  Q (isNone r8)) E) fun b4 =>
  (b4 = true → (K PyData.none)) ∧ (b4 = false → (ixM (.list l3) (.int 1) fun r14 =>
  strO r14 fun s15 =>
  splitM (.str s15) (.str ",") fun l17 =>
  itM (.list l17) fun xs13 =>
  forM (fun l_piece25 l_cuts28 N26 B27 => strO l_piece25 fun s33 =>
  splitM (.str s33) (.str "-") fun l35 =>
  itM (.list l35) fun xs32 =>
  lcM (fun l_half36 kp sk => f__law_digits l_half36 (fun r38 =>
  kp r38) (fun _ => False)) (fun l37 =>
  orM (fun Q => neM l_piece25 (.str "") fun b40 =>
  Q b40) (fun Q => ixM (.list l3) (.int 1) fun r41 =>
  neM r41 (.str "") fun b42 =>
  Q b42) fun b39 =>
  (b39 = true → (orM (fun Q => lenM (.list l37) fun r47 =>
  neM r47 (.int 2) fun b48 =>
  Q b48) (fun Q => inM PyData.none (.list l37) fun b49 =>
  Q b49) fun b46 =>
  (b46 = true → (K PyData.none)) ∧ (b46 = false → (tupM (.list l37) fun r53 =>
  l_cuts28.length < sizeLine ∧ (N26 (l_cuts28 ++ ([r53] : List PyData))))))) ∧ (b39 = false → (N26 l_cuts28))) xs32 []) (fun l_cuts18 =>
  ixM (.list l3) (.int 0) fun r22 =>
  f__law_digits r22 (fun r23 =>
  tupM (.list l_cuts18) fun r24 =>
  K (.tuple [r23, r24])) E) xs13 []))
def c__law_plan_read : CT := fun args Φ Ψ => ∃ (l_word : PyData) (K : KD) (E : KX), args = [.d l_word] ∧ f__law_plan_read l_word K E ∧ (∀ r, K r → Φ (.rd r) args) ∧ ∀ c, E c → Ψ c args
section
variable {K : KD} {E : KX} {Kb : KB} {s : Str}
theorem e__law_good_name (h : s.length ≤ 100000) : f__law_good_name (.str s) K E = K (.bool (nmB s)) := by
  unfold f__law_good_name
  rw [and_b (b1 := decide (1 ≤ s.length) && decide (s.length ≤ 8)) (fun Q => ?_) (b2 := (tl s).all fun c => decide (c ∈ tl abcS)) fun _ Q => all_in h]
  · rfl
  · rw [len_le h]
    simp only [q_le, q_and]
    rw [show decide ((1 : Int) ≤ (s.length : Nat)) = decide (1 ≤ s.length) from decide_eq_decide.mpr (by omega), show decide (((s.length : Nat) : Int) ≤ 8) = decide (s.length ≤ 8) from decide_eq_decide.mpr (by omega)]
theorem e__law_digits (h : s.length ≤ 100000) : f__law_digits (.str s) K E = K (numD s) := by
  unfold f__law_digits
  rw [or_b (b1 := !(decide (1 ≤ s.length) && decide (s.length ≤ 4))) (fun Q => ?_) (b2 := !((tl s).all fun c => decide (c ∈ tl figS))) fun h1 Q => all_in (Q := fun b => Q (!b)) (S := figS) h, if_b]
  · unfold numD digB
    cases h1 : (decide (1 ≤ s.length) && decide (s.length ≤ 4)) with
    | false => rfl
    | true =>
      cases h2 : (tl s).all fun c => decide (c ∈ tl figS) with
      | false => rfl
      | true =>
        show cond (!true || !true) _ _ = _
        rw [show (!true || !true) = false from rfl, cond_false]
        obtain ⟨l1, l2⟩ := Bool.and_eq_true_iff.mp h1
        have l1 := of_decide_eq_true l1
        have l2 := of_decide_eq_true l2
        obtain ⟨c, r, e⟩ : ∃ c r, tl s = c :: r := by
          cases e : tl s with
          | nil => rw [len_tl, e] at l1; simp at l1
          | cons c r => exact ⟨c, r, rfl⟩
        have e3 : (!decide (s = (⟨#[48]⟩ : Str)) && decide ((tl s).head? = some 48)) = (decide ((tl s).head? = some 48) && decide (1 < s.length)) := by
          rw [Bool.and_comm]
          cases h4 : decide ((tl s).head? = some 48) with
          | false => rfl
          | true =>
            have h4 := of_decide_eq_true h4
            rw [Bool.true_and, Bool.true_and, ← decide_not]
            refine decide_eq_decide.mpr ⟨fun z => ?_, fun z y => ?_⟩
            · rw [e] at h4
              have h4 := Option.some.inj h4
              subst h4
              cases r with
              | nil => exact absurd (ext_tl (by rw [e])) z
              | cons _ _ => rw [len_tl, e]; simp
            · rw [y] at z
              exact absurd z (by decide)
        rw [and_b (b1 := !decide (s = (⟨#[48]⟩ : Str))) (fun Q => ?_) (b2 := decide ((tl s).head? = some 48)) fun _ Q => ?_, if_b, e3]
        · cases h3 : (decide ((tl s).head? = some 48) && decide (1 < s.length)) with
          | true => rfl
          | false =>
            rw [cond_false]
            have hd : NumText.AllDigits (tl s) := fun c hc => mem_fig.mp (of_decide_eq_true (List.all_eq_true.mp h2 c hc))
            have hi := PySem.intText_digits (x := s) hd (by rw [show s.cps.toList = tl s from rfl, e]; simp) (by omega)
            show (match PySem.intText? s with | some n => s.length ≤ 640 ∧ K (.int n) | none => False) = _
            rw [hi]
            exact propext (and_iff_right (by omega))
        · rfl
        · rw [ix_str0 h e]
          show eqM (.str ⟨#[c]⟩) (.str ⟨#[48]⟩) Q = _
          rw [q_eq_ss, one_eq, e]
          congr 1
          exact decide_eq_decide.mpr ⟨fun z => by rw [z]; rfl, fun z => Option.some.inj z⟩
  · rw [len_le h]
    simp only [q_le, q_and]
    rw [show decide ((1 : Int) ≤ (s.length : Nat)) = decide (1 ≤ s.length) from decide_eq_decide.mpr (by omega), show decide (((s.length : Nat) : Int) ≤ 4) = decide (s.length ≤ 4) from decide_eq_decide.mpr (by omega)]
def plB (l3 : List PyData) (K : KD) (l_piece25 : PyData) (l_cuts28 : List PyData) (N26 B27 : List PyData → Prop) : Prop := strO l_piece25 fun s33 =>
  splitM (.str s33) (.str ⟨#[45]⟩) fun l35 =>
  itM (.list l35) fun xs32 =>
  lcM (fun l_half36 kp sk => f__law_digits l_half36 (fun r38 => kp r38) (fun _ => False)) (fun l37 =>
  TL.orM (fun Q => neM l_piece25 (.str "") fun b40 => Q b40) (fun Q => ixM (.list l3) (.int 1) fun r41 => neM r41 (.str "") fun b42 => Q b42) fun b39 =>
  (b39 = true → (TL.orM (fun Q => lenM (.list l37) fun r47 => neM r47 (.int 2) fun b48 => Q b48) (fun Q => inM PyData.none (.list l37) fun b49 => Q b49) fun b46 =>
  (b46 = true → (K PyData.none)) ∧ (b46 = false → (tupM (.list l37) fun r53 => l_cuts28.length < sizeLine ∧ (N26 (l_cuts28 ++ ([r53] : List PyData))))))) ∧ (b39 = false → (N26 l_cuts28))) xs32 []
theorem lc_dig (L : List Str) (h : ∀ p ∈ L, p.length ≤ 100000) {Kl : KL} : lcM (fun half kp sk => f__law_digits half (fun r => kp r) (fun _ => False)) Kl (L.map .str) [] = Kl (L.map numD) := by
  rw [q_lc_map L PyData.str numD fun a ha k s => e__law_digits (h a ha), List.nil_append]
theorem pb_step {a b p : Str} {cuts : List PyData} {N B : List PyData → Prop} (hb : b ≠ "") (hp : p.length ≤ 100000) (hl : cuts.length < 300000) :
    plB [.str a, .str b] K (.str p) cuts N B = if isNone (pairO p) = true then K .none else N (cuts ++ [pairO p]) := by
  have hsl := sizeLine_eq
  obtain ⟨l1, l2⟩ := split_len (x := p) (y := ⟨#[45]⟩) (by decide)
  unfold plB
  rw [show ∀ Q : Str → Prop, strO (.str p) Q = Q p from fun Q => rfl, q_split1 hp, q_it_l, lc_dig _ fun q hq => by have := l1 q hq; omega]
  rw [or_b (b1 := !decide (p = "")) (b2 := true) (fun Q => ?_) (fun _ Q => ?_), Bool.or_true, if_b, cond_true]
  rotate_left
  · rfl
  · show Q (!decide (b = "")) = _
    rw [decide_eq_false hb]; rfl
  unfold pairO
  generalize hL : Txt.split p ⟨#[45]⟩ = L at l1 l2
  by_cases h2 : L.length = 2
  · obtain ⟨x, y, rfl⟩ : ∃ x y, L = [x, y] := by
      match L, h2 with
      | [x, y], _ => exact ⟨x, y, rfl⟩
    rw [or_b (b1 := false) (b2 := ([x, y].map numD).any isNone) (fun Q => ?_) (fun _ Q => ?_), Bool.false_or, if_b]
    rotate_left
    · rfl
    · exact none_in (shp_nums [x, y])
    show cond ((isNone (numD x) || (isNone (numD y) || false))) _ _ = if isNone (if (isNone (numD x) || isNone (numD y)) = true then _ else _) = true then _ else N (cuts ++ [if (isNone (numD x) || isNone (numD y)) = true then _ else _])
    rw [Bool.or_false]
    cases (isNone (numD x) || isNone (numD y)) with
    | true => rfl
    | false =>
      rw [cond_false]
      show (cuts.length < sizeLine ∧ N (cuts ++ [PyData.tuple [numD x, numD y]])) = _
      exact propext (and_iff_right (by omega))
  · rw [or_b (b1 := true) (b2 := false) (fun Q => ?_) (fun z => by cases z), Bool.true_or, if_b, cond_true]
    rotate_left
    · rw [q_len_l, q_ne_ii, List.length_map, decide_eq_false (by omega : ¬ ((L.length : Nat) : Int) = 2)]; rfl
    match L, h2 with
    | [], _ => rfl
    | [_], _ => rfl
    | [_, _], h2 => exact absurd rfl h2
    | _ :: _ :: _ :: _, _ => rfl
theorem pl_loop {a b : Str} {KK : List PyData → Prop} (hb : b ≠ "") : ∀ (L : List Str) (acc : List PyData), (∀ p ∈ L, p.length ≤ 100000) → acc.length + L.length ≤ 200000 →
    forM (plB [.str a, .str b] K) KK (L.map .str) acc = if (L.map pairO).any isNone = true then K .none else KK (acc ++ L.map pairO)
  | [], acc, _, _ => by
    show KK acc = KK (acc ++ [])
    rw [List.append_nil]
  | p :: L, acc, hL, hl => by
    rw [List.length_cons] at hl
    rw [List.map_cons, q_for_cons, pb_step hb (hL p (List.mem_cons_self ..)) (by omega), List.map_cons, List.any_cons]
    cases isNone (pairO p) with
    | true => rfl
    | false =>
      rw [Bool.false_or, if_neg (by decide), pl_loop hb L (acc ++ [pairO p]) (fun q hq => hL q (List.mem_cons_of_mem _ hq)) (by rw [List.length_append, List.length_singleton]; omega), List.append_assoc]
      rfl
theorem split_emp : Txt.split "" ⟨#[44]⟩ = [("" : Str)] := by
  have e : ("" : Str) = Txt.join ⟨#[44]⟩ [("" : Str)] := by rw [join_eq]; decide +kernel
  rw [e, split_join (y := ⟨#[44]⟩) (s := 44) (S := []) rfl (by decide +kernel) (by simp) fun z hz => by
    rw [List.mem_singleton.mp hz]; decide +kernel, ← e]
theorem e__law_plan_read (h : s.length ≤ 100000) : f__law_plan_read (.str s) K E = K (planO s) := by
  have hsl := sizeLine_eq
  obtain ⟨l1, l2⟩ := split_len (x := s) (y := ⟨#[58]⟩) (by decide)
  have e0 : f__law_plan_read (.str s) K E = splitM (.str s) (.str ⟨#[58]⟩) fun l3 => TL.orM (fun Q => lenM (.list l3) fun r5 => neM r5 (.int 2) fun b6 => Q b6) (fun Q => ixM (.list l3) (.int 0) fun r7 => f__law_digits r7 (fun r8 => Q (isNone r8)) E) fun b4 =>
      (b4 = true → (K PyData.none)) ∧ (b4 = false → (ixM (.list l3) (.int 1) fun r14 => strO r14 fun s15 => splitM (.str s15) (.str ⟨#[44]⟩) fun l17 => itM (.list l17) fun xs13 => forM (plB l3 K) (fun l_cuts18 =>
        ixM (.list l3) (.int 0) fun r22 => f__law_digits r22 (fun r23 => tupM (.list l_cuts18) fun r24 => K (.tuple [r23, r24])) E) xs13 [])) := by
    unfold f__law_plan_read; rfl
  rw [e0, q_split1 h]
  unfold planO
  generalize hL : Txt.split s ⟨#[58]⟩ = L at l1 l2
  by_cases h2 : L.length = 2
  · obtain ⟨a, b, rfl⟩ : ∃ a b, L = [a, b] := by
      match L, h2 with
      | [a, b], _ => exact ⟨a, b, rfl⟩
    have ha := l1 a (by simp)
    have hb := l1 b (by simp)
    rw [or_b (b1 := false) (b2 := isNone (numD a)) (fun Q => ?_) (fun _ Q => ?_), Bool.false_or, if_b]
    rotate_left
    · rfl
    · show f__law_digits (.str a) _ E = _
      rw [e__law_digits (by omega)]
    show _ = K (if (isNone (numD a) || (cutsO b).any isNone) = true then _ else _)
    cases isNone (numD a) with
    | true => rfl
    | false =>
      rw [Bool.false_or, cond_false]
      show (splitM (.str b) (.str ⟨#[44]⟩) fun l17 => itM (.list l17) fun xs13 => forM (plB [.str a, .str b] K) _ xs13 []) = _
      obtain ⟨m1, m2⟩ := split_len (x := b) (y := ⟨#[44]⟩) (by decide)
      rw [q_split1 (by omega), q_it_l]
      by_cases hbe : b = ""
      · subst hbe
        rw [split_emp]
        show plB [.str a, .str ""] K (.str "") [] _ _ = _
        have e1 : ∀ N B : List PyData → Prop, plB [.str a, .str ""] K (.str "") [] N B = N [] := fun N B => by
          obtain ⟨l1, l2⟩ := split_len (x := "") (y := ⟨#[45]⟩) (by decide)
          unfold plB
          rw [show ∀ Q : Str → Prop, strO (.str "") Q = Q "" from fun Q => rfl, q_split1 (by decide), q_it_l, lc_dig _ fun q hq => by have := l1 q hq; have e : ("" : Str).length = 0 := rfl; omega]
          rw [or_b (b1 := false) (b2 := false) (fun Q => ?_) (fun _ Q => ?_), if_b]
          all_goals rfl
        rw [e1]
        show f__law_digits (.str a) _ E = _
        rw [e__law_digits (by omega)]
        rfl
      · rw [pl_loop hbe _ [] (fun p hp => by have := m1 p hp; omega) (by rw [List.length_nil]; omega)]
        have ec : (Txt.split b ⟨#[44]⟩).map pairO = cutsO b := by unfold cutsO; rw [if_neg hbe]
        rw [ec, List.nil_append]
        cases (cutsO b).any isNone with
        | true => rfl
        | false =>
          show f__law_digits (.str a) _ E = _
          rw [e__law_digits (by omega)]
          rfl
  · rw [or_b (b1 := true) (b2 := false) (fun Q => ?_) (fun z => by cases z)]
    · rw [Bool.true_or, if_b, cond_true]
      match L, h2 with
      | [], _ => rfl
      | [_], _ => rfl
      | [_, _], h2 => exact absurd rfl h2
      | _ :: _ :: _ :: _, _ => rfl
    · rw [q_len_l, q_ne_ii, List.length_map, decide_eq_false (by omega : ¬ ((L.length : Nat) : Int) = 2), Bool.not_false]
end
end Tx
namespace Tx
open PySem PySem.Spec PyProof.Rows L2 TL
@[irreducible] def f__law_read (l_text : PyData) (K : KD) (E : KX) : Prop :=
  dispM [((.str "fold"), (.str "np")), ((.str "drop"), (.str "n")), ((.str "pinch"), (.str "nw")), ((.str "unpinch"), (.str "nw")), ((.str "over"), (.str "n")), ((.str "about"), (.str "n"))] fun m3 =>
  dispM [((.str "paint"), (.str "nsc")), ((.str "mark"), (.str "nsl")), ((.str "wash"), (.str "ns")), ((.str "unfold"), (.str "n")), ((.str "refold"), (.str "np"))] fun m5 =>
  m3.length + m5.length ≤ sizeLine ∧ (strO l_text fun s7 =>
  splitM (.str s7) (.str " ") fun l9 =>
  orM (fun Q => ixM (.list l9) (.int 0) fun r11 =>
  inKM (mergeQ m3 m5) r11 fun b12 =>
  Q (!b12)) (fun Q => lenM (.list l9) fun r13 =>
  ixM (.list l9) (.int 0) fun r14 =>
  getKM (mergeQ m3 m5) r14 fun r15 =>
  lenM r15 fun r16 =>
  addM (.int 1) r16 fun r17 =>
  neM r13 r17 fun b18 =>
  Q b18) fun b10 =>
  (b10 = true → (K PyData.none)) ∧ (b10 = false → (ixM (.list l9) (.int 0) fun r22 =>
  slM (.list l9) (some 1) none fun r25 =>
  ixM (.list l9) (.int 0) fun r26 =>
  getKM (mergeQ m3 m5) r26 fun r27 =>
  zipM r25 r27 fun xs24 =>
  forM (fun p35 l_found38 N36 B37 => un2 p35 fun l_word44 l_sign45 =>
  f__law_good_name l_word44 (fun r49 =>
  inM l_word44 (.tuple [(.str "even"), (.str "odd")]) fun b50 =>
  inM l_word44 (.tuple [(.str "red"), (.str "blue"), (.str "gold")]) fun b51 =>
  dispM [((.str "n"), r49), ((.str "w"), (.bool b50)), ((.str "c"), (.bool b51))] fun m52 =>
  andM (fun Q => lenM l_word44 fun r54 =>
  eqM r54 (.int 1) fun b55 =>
  Q b55) (fun Q => f__law_good_name l_word44 (fun r56 =>
  boolM r56 fun b57 =>
  Q b57) E) fun b53 =>
  putKM m52 (.str "l") (.bool b53) fun kv58 =>
  ifM (fun Q => getdKM kv58 l_sign45 (.bool false) fun r60 =>
  boolM r60 fun b61 =>
  Q b61) (fun Q => Q l_word44) (fun Q => Q PyData.none) fun r59 =>
  joinM (fun (Q : PyData → Prop) => eqM l_sign45 (.str "s") fun b62 =>
  (b62 = true → (f__law_digits l_word44 (fun r66 =>
  Q r66) E)) ∧ (b62 = false → (Q r59))) (fun l_thing67 =>
  joinM (fun (Q : PyData → Prop) => eqM l_sign45 (.str "p") fun b68 =>
  (b68 = true → (f__law_plan_read l_word44 (fun r72 =>
  Q r72) E)) ∧ (b68 = false → (Q l_thing67))) (fun l_thing73 =>
  ((isNone l_thing73) = true → (K PyData.none)) ∧ ((isNone l_thing73) = false → (l_found38.length < sizeLine ∧ (N36 (l_found38 ++ ([l_thing73] : List PyData)))))))) E) (fun l_found28 =>
  tupM (.list l_found28) fun r34 =>
  K r34) xs24 [r22])))
def c__law_read : CT := fun args Φ Ψ => ∃ (l_text : PyData) (K : KD) (E : KX), args = [.d l_text] ∧ f__law_read l_text K E ∧ (∀ r, K r → Φ (.rd r) args) ∧ ∀ c, E c → Ψ c args
def tm (L : List (Str × PyData)) : List (Key × PyData) := L.map fun p => (.inr p.1, p.2)
theorem valP_tm (L : List (Str × PyData)) (z : Str) : valP (tm L) (.inr z) = L.lookup z := by
  unfold valP tm
  induction L with
  | nil => rfl
  | cons p L ih =>
    rw [List.map_cons, List.find?_cons, List.lookup_cons]
    cases e : z == p.1 with
    | true =>
      have e := eq_of_beq e
      subst e
      rw [decide_eq_true rfl]; rfl
    | false =>
      have hne : ¬ ((Sum.inr p.1 : Key) = Sum.inr z) := fun q => by
        have q := Sum.inr.inj q
        rw [q, beq_self_eq_true] at e
        cases e
      rw [decide_eq_false hne]
      exact ih
def M3 : List (Key × PyData) := mergeP [(.inr "fold", .str "np"), (.inr "drop", .str "n"), (.inr "pinch", .str "nw"), (.inr "unpinch", .str "nw"), (.inr "over", .str "n"), (.inr "about", .str "n")]
def M5 : List (Key × PyData) := mergeP [(.inr "paint", .str "nsc"), (.inr "mark", .str "nsl"), (.inr "wash", .str "ns"), (.inr "unfold", .str "n"), (.inr "refold", .str "np")]
theorem disp3 {Q : List (Key × PyData) → Prop} : dispM [((.str "fold"), (.str "np")), ((.str "drop"), (.str "n")), ((.str "pinch"), (.str "nw")), ((.str "unpinch"), (.str "nw")), ((.str "over"), (.str "n")), ((.str "about"), (.str "n"))] Q = Q M3 := rfl
theorem disp5 {Q : List (Key × PyData) → Prop} : dispM [((.str "paint"), (.str "nsc")), ((.str "mark"), (.str "nsl")), ((.str "wash"), (.str "ns")), ((.str "unfold"), (.str "n")), ((.str "refold"), (.str "np"))] Q = Q M5 := rfl
theorem mf : mergeQ M3 M5 = tm formsD := by kernel_rfl
theorem mlen : M3.length + M5.length ≤ sizeLine := by
  have hsl := sizeLine_eq
  have e : M3.length + M5.length = 11 := by kernel_rfl
  omega
def goodL (b1 b2 b3 : Bool) : List (Str × PyData) := [("n", .bool b1), ("w", .bool b2), ("c", .bool b3)]
theorem disp_good {b1 b2 b3 : Bool} {Q : List (Key × PyData) → Prop} : dispM [((.str "n"), .bool b1), ((.str "w"), (.bool b2)), ((.str "c"), (.bool b3))] Q = Q (tm (goodL b1 b2 b3)) := by
  have e : mergeP [((.inr "n" : Key), PyData.bool b1), (.inr "w", .bool b2), (.inr "c", .bool b3)] = tm (goodL b1 b2 b3) := by kernel_rfl
  show Q (mergeP [((.inr "n" : Key), PyData.bool b1), (.inr "w", .bool b2), (.inr "c", .bool b3)]) = _
  rw [e]
def goodM (b1 b2 b3 b4 : Bool) : List (Str × PyData) := [("n", .bool b1), ("w", .bool b2), ("c", .bool b3), ("l", .bool b4)]
theorem put_good {b1 b2 b3 b4 : Bool} {Q : List (Key × PyData) → Prop} : putKM (tm (goodL b1 b2 b3)) (.str "l") (.bool b4) Q = Q (tm (goodM b1 b2 b3 b4)) := by
  have hsl := sizeLine_eq
  have e : putP (tm (goodL b1 b2 b3)) (.inr "l") (PyData.bool b4) = tm (goodM b1 b2 b3 b4) := by kernel_rfl
  show ((tm (goodL b1 b2 b3)).length < sizeLine ∧ Q (putP (tm (goodL b1 b2 b3)) (.inr "l") (PyData.bool b4))) = _
  rw [e]
  exact propext (and_iff_right (by show 3 < sizeLine; omega))
theorem getd_good {b1 b2 b3 b4 : Bool} {c : Nat} {Q : KD} : getdKM (tm (goodM b1 b2 b3 b4)) (sgnD c) (.bool false) Q = Q (((goodM b1 b2 b3 b4).lookup ⟨#[c]⟩).getD (.bool false)) := by
  show Q ((valP (tm (goodM b1 b2 b3 b4)) (.inr ⟨#[c]⟩)).getD (.bool false)) = _
  rw [valP_tm]
theorem look_one {c d : Nat} {v : PyData} {L : List (Str × PyData)} : ((⟨#[d]⟩, v) :: L).lookup ⟨#[c]⟩ = if c = d then some v else L.lookup ⟨#[c]⟩ := by
  rw [List.lookup_cons]
  have e : ((⟨#[c]⟩ : Str) == ⟨#[d]⟩) = decide (c = d) := by rw [← one_eq]; exact (Bool.beq_eq_decide_eq _ _)
  rw [e]
  by_cases h : c = d
  · rw [decide_eq_true h, if_pos h]
  · rw [decide_eq_false h, if_neg h]
theorem good_look {b1 b2 b3 b4 : Bool} {c : Nat} : ((goodM b1 b2 b3 b4).lookup ⟨#[c]⟩).getD (.bool false) = .bool (if c = 110 then b1 else if c = 119 then b2 else if c = 99 then b3 else if c = 108 then b4 else false) := by
  show ((([(⟨#[110]⟩, .bool b1), (⟨#[119]⟩, .bool b2), (⟨#[99]⟩, .bool b3), (⟨#[108]⟩, .bool b4)] : List (Str × PyData)).lookup ⟨#[c]⟩).getD (.bool false)) = _
  rw [look_one, look_one, look_one, look_one]
  split
  · rfl
  · split
    · rfl
    · split
      · rfl
      · split <;> rfl
theorem in_two' {w a b : Str} {Q : KB} : inM (.str w) (.tuple [.str a, .str b]) Q = Q (inB w [a, b]) := rfl
theorem in_three {w a b c : Str} {Q : KB} : inM (.str w) (.tuple [.str a, .str b, .str c]) Q = Q (inB w [a, b, c]) := rfl
theorem ltt_nm (w : Str) : (decide (w.length = 1) && nmB w) = lttB w := by
  unfold nmB lttB
  cases h : decide (w.length = 1) with
  | false => rfl
  | true =>
    have h := of_decide_eq_true h
    rw [h]; rfl
def lrB (K : KD) (E : KX) (p35 : PyData) (l_found38 : List PyData) (N36 B37 : List PyData → Prop) : Prop := un2 p35 fun l_word44 l_sign45 =>
  f__law_good_name l_word44 (fun r49 =>
  inM l_word44 (.tuple [(.str "even"), (.str "odd")]) fun b50 =>
  inM l_word44 (.tuple [(.str "red"), (.str "blue"), (.str "gold")]) fun b51 =>
  dispM [((.str "n"), r49), ((.str "w"), (.bool b50)), ((.str "c"), (.bool b51))] fun m52 =>
  TL.andM (fun Q => lenM l_word44 fun r54 =>
  eqM r54 (.int 1) fun b55 =>
  Q b55) (fun Q => f__law_good_name l_word44 (fun r56 =>
  boolM r56 fun b57 =>
  Q b57) E) fun b53 =>
  putKM m52 (.str "l") (.bool b53) fun kv58 =>
  ifM (fun Q => getdKM kv58 l_sign45 (.bool false) fun r60 =>
  boolM r60 fun b61 =>
  Q b61) (fun Q => Q l_word44) (fun Q => Q PyData.none) fun r59 =>
  joinM (fun (Q : PyData → Prop) => eqM l_sign45 (.str "s") fun b62 =>
  (b62 = true → (f__law_digits l_word44 (fun r66 =>
  Q r66) E)) ∧ (b62 = false → (Q r59))) (fun l_thing67 =>
  joinM (fun (Q : PyData → Prop) => eqM l_sign45 (.str "p") fun b68 =>
  (b68 = true → (f__law_plan_read l_word44 (fun r72 =>
  Q r72) E)) ∧ (b68 = false → (Q l_thing67))) (fun l_thing73 =>
  ((isNone l_thing73) = true → (K PyData.none)) ∧ ((isNone l_thing73) = false → (l_found38.length < sizeLine ∧ (N36 (l_found38 ++ ([l_thing73] : List PyData)))))))) E
section
variable {K : KD} {E : KX} {Kb : KB} {s : Str}
theorem lr_step {w : Str} {c : Nat} {acc : List PyData} {N B : List PyData → Prop} (hw : w.length ≤ 100000) (hc : c ∈ [110, 119, 99, 108, 115, 112]) (hl : acc.length < 2000) :
    lrB K E (.tuple [.str w, sgnD c]) acc N B = if isNone (thingO w c) = true then K .none else N (acc ++ [thingO w c]) := by
  have hsl := sizeLine_eq
  unfold lrB
  show f__law_good_name (.str w) _ E = _
  rw [e__law_good_name hw, in_two', in_three, disp_good]
  rw [and_b (b1 := decide (w.length = 1)) (b2 := nmB w) (fun Q => ?_) (fun _ Q => ?_), ltt_nm, put_good]
  rotate_left
  · rw [len_le hw, q_eq_ii]
    congr 1
    exact decide_eq_decide.mpr (by omega)
  · rw [e__law_good_name hw]; rfl
  unfold ifM
  dsimp only
  rw [getd_good, good_look, q_bool, if_b]
  have es : ∀ (d : Nat) (Q : KB), eqM (sgnD c) (.str ⟨#[d]⟩) Q = Q (decide (c = d)) := fun d Q => by
    show (eqM (.str ⟨#[c]⟩) (.str ⟨#[d]⟩) _) = _
    rw [q_eq_ss, one_eq]
  have fin : ∀ x : PyData, (((isNone x) = true → (K PyData.none)) ∧ ((isNone x) = false → (acc.length < sizeLine ∧ (N (acc ++ ([x] : List PyData)))))) = if isNone x = true then K .none else N (acc ++ [x]) := fun x => by
    rw [if_b]
    cases isNone x with
    | true => rfl
    | false => exact propext (and_iff_right (by omega))
  have tail : ∀ r59 : PyData, (joinM (fun (Q : PyData → Prop) => eqM (sgnD c) (.str "s") fun b62 =>
      (b62 = true → (f__law_digits (.str w) (fun r66 => Q r66) E)) ∧ (b62 = false → (Q r59))) (fun l_thing67 =>
      joinM (fun (Q : PyData → Prop) => eqM (sgnD c) (.str "p") fun b68 =>
      (b68 = true → (f__law_plan_read (.str w) (fun r72 => Q r72) E)) ∧ (b68 = false → (Q l_thing67))) (fun l_thing73 =>
      ((isNone l_thing73) = true → (K PyData.none)) ∧ ((isNone l_thing73) = false → (acc.length < sizeLine ∧ (N (acc ++ ([l_thing73] : List PyData)))))))) =
      (fun x => if isNone x = true then K .none else N (acc ++ [x])) (if c = 112 then planO w else if c = 115 then numD w else r59) := fun r59 => by
    unfold joinM
    show (eqM (sgnD c) (.str ⟨#[115]⟩) fun b62 => (b62 = true → (f__law_digits (.str w) (fun r66 => (eqM (sgnD c) (.str ⟨#[112]⟩) fun b68 => (b68 = true → (f__law_plan_read (.str w) (fun r72 => _) E)) ∧ (b68 = false → _))) E)) ∧ (b62 = false → (eqM (sgnD c) (.str ⟨#[112]⟩) fun b68 => (b68 = true → (f__law_plan_read (.str w) (fun r72 => _) E)) ∧ (b68 = false → _)))) = _
    rw [es, if_b, e__law_digits hw, es, es, if_b, if_b, e__law_plan_read hw, fin]
    dsimp only
    rw [fin, fin]
    by_cases h1 : c = 115
    · subst h1; rfl
    · rw [decide_eq_false h1, cond_false]
      by_cases h2 : c = 112
      · subst h2; rfl
      · rw [decide_eq_false h2, if_neg h2, if_neg h1, cond_false]
  rw [tail, tail]
  simp only [List.mem_cons, List.not_mem_nil, or_false] at hc
  rcases hc with rfl | rfl | rfl | rfl | rfl | rfl
  · show cond (nmB w) _ _ = if isNone (if nmB w = true then _ else _) = true then _ else N (acc ++ [if nmB w = true then _ else _])
    cases nmB w <;> rfl
  · show cond (inB w ["even", "odd"]) _ _ = if isNone (if inB w ["even", "odd"] = true then _ else _) = true then _ else N (acc ++ [if inB w ["even", "odd"] = true then _ else _])
    cases inB w ["even", "odd"] <;> rfl
  · show cond (inB w ["red", "blue", "gold"]) _ _ = if isNone (if inB w ["red", "blue", "gold"] = true then _ else _) = true then _ else N (acc ++ [if inB w ["red", "blue", "gold"] = true then _ else _])
    cases inB w ["red", "blue", "gold"] <;> rfl
  · show cond (lttB w) _ _ = if isNone (if lttB w = true then _ else _) = true then _ else N (acc ++ [if lttB w = true then _ else _])
    cases lttB w <;> rfl
  · rfl
  · rfl
theorem lr_loop {KK : List PyData → Prop} : ∀ (L : List (Str × Nat)) (acc : List PyData), (∀ q ∈ L, q.1.length ≤ 100000 ∧ q.2 ∈ [110, 119, 99, 108, 115, 112]) → acc.length + L.length ≤ 1000 →
    forM (lrB K E) KK (L.map fun q => PyData.tuple [.str q.1, sgnD q.2]) acc = if (L.map fun q => thingO q.1 q.2).any isNone = true then K .none else KK (acc ++ L.map fun q => thingO q.1 q.2)
  | [], acc, _, _ => by
    show KK acc = KK (acc ++ [])
    rw [List.append_nil]
  | q :: L, acc, hL, hl => by
    rw [List.length_cons] at hl
    obtain ⟨h1, h2⟩ := hL q (List.mem_cons_self ..)
    rw [List.map_cons, q_for_cons, lr_step h1 h2 (by omega), List.map_cons, List.any_cons]
    cases isNone (thingO q.1 q.2) with
    | true => rfl
    | false =>
      rw [Bool.false_or, if_neg (by decide), lr_loop L (acc ++ [thingO q.1 q.2]) (fun q hq => hL q (List.mem_cons_of_mem _ hq)) (by rw [List.length_append, List.length_singleton]; omega), List.append_assoc]
      rfl
theorem forms_signs {z f : Str} (h : formsL.lookup z = some f) : ∀ c ∈ tl f, c ∈ [110, 119, 99, 108, 115, 112] := by
  have key : ∀ L : List (Str × Str), (L.all fun p => (tl p.2).all fun c => decide (c ∈ [110, 119, 99, 108, 115, 112])) = true → ∀ f, L.lookup z = some f → ∀ c ∈ tl f, c ∈ [110, 119, 99, 108, 115, 112] := fun L => by
    induction L with
    | nil => intro _ f h; cases h
    | cons p L ih =>
      intro ha f h
      rw [List.all_cons, Bool.and_eq_true] at ha
      rw [List.lookup_cons] at h
      cases e : z == p.1 with
      | true => rw [e] at h; cases h; exact fun c hc => of_decide_eq_true (List.all_eq_true.mp ha.1 c hc)
      | false => rw [e] at h; exact ih ha.2 f h
  exact key formsL (by decide +kernel) f h
theorem e__law_read (h : s.length ≤ 100000) : f__law_read (.str s) K E = K (deedO s) := by
  have hsl := sizeLine_eq
  obtain ⟨l1, l2⟩ := split_len (x := s) (y := ⟨#[32]⟩) (by decide)
  unfold f__law_read
  rw [disp3, disp5, mf]
  refine (propext (and_iff_right mlen)).trans ?_
  show (splitM (.str s) (.str ⟨#[32]⟩) fun l9 => TL.orM (fun Q => ixM (.list l9) (.int 0) fun r11 => inKM (tm formsD) r11 fun b12 => Q (!b12)) (fun Q => lenM (.list l9) fun r13 => ixM (.list l9) (.int 0) fun r14 => getKM (tm formsD) r14 fun r15 => lenM r15 fun r16 => addM (.int 1) r16 fun r17 => neM r13 r17 fun b18 => Q b18) fun b10 =>
      (b10 = true → (K PyData.none)) ∧ (b10 = false → (ixM (.list l9) (.int 0) fun r22 => slM (.list l9) (some 1) none fun r25 => ixM (.list l9) (.int 0) fun r26 => getKM (tm formsD) r26 fun r27 => zipM r25 r27 fun xs24 =>
      forM (lrB K E) (fun l_found28 => tupM (.list l_found28) fun r34 => K r34) xs24 [r22]))) = _
  rw [q_split1 h]
  unfold deedO
  generalize hL : Txt.split s ⟨#[32]⟩ = L at l1 l2
  obtain ⟨w, ws, rfl⟩ : ∃ w ws, L = w :: ws := by
    cases L with
    | nil => exact absurd hL (split_ne s (by decide) (by decide +kernel))
    | cons w ws => exact ⟨w, ws, rfl⟩
  have i0 : ∀ Q : KD, ixM (.list ((w :: ws).map PyData.str)) (.int 0) Q = Q (.str w) := fun Q => by
    rw [q_ix_l, at_nat (xs := (w :: ws).map PyData.str) (Int.le_refl 0) (x := .str w) rfl]
  simp only [i0]
  show _ = K (deedW w ws)
  unfold deedW
  have d1 : ∀ Q : KB, inKM (tm formsD) (.str w) Q = Q (formsD.lookup w).isSome := fun Q => by
    show Q (valP (tm formsD) (.inr w)).isSome = _
    rw [valP_tm]
  simp only [d1, forms_lookup]
  cases hf : formsL.lookup w with
  | none =>
    rw [or_b (b1 := true) (b2 := false) (fun Q => ?_) (fun z => by cases z), Bool.true_or, if_b]
    all_goals rfl
  | some f =>
    have hlf := forms_len hf
    have d2 : ∀ Q : KD, getKM (tm formsD) (.str w) Q = Q (.str f) := fun Q => by
      show (match valP (tm formsD) (.inr w) with | some d => Q d | none => False) = _
      rw [valP_tm, forms_lookup, hf]; rfl
    simp only [d2]
    rw [or_b (b1 := false) (b2 := !decide (ws.length = f.length)) (fun Q => ?_) (fun _ Q => ?_), Bool.false_or, if_b]
    · by_cases hw : ws.length = f.length
      · rw [decide_eq_true hw, if_pos hw, Bool.not_true, cond_false, q_sl_l]
        show zipM (.list (cut (.str w :: ws.map .str) (some 1) none)) (.str f) _ = _
        rw [cut_tail, show ∀ Q : KL, zipM (.list (ws.map .str)) (.str f) Q = Q (zipLS (ws.map .str) f) from fun Q => rfl, zip_words]
        have hz : (ws.zip (tl f)).length ≤ 3 := by rw [List.length_zip, ← len_tl]; omega
        rw [lr_loop (ws.zip (tl f)) [.str w] (fun q hq => ⟨by have := l1 q.1 (List.mem_cons_of_mem _ (List.of_mem_zip hq).1); omega, forms_signs hf q.2 (List.of_mem_zip hq).2⟩) (by rw [List.length_singleton]; omega)]
        show (if (foundO ws f).any isNone = true then _ else _) = K (if (foundO ws f).any isNone = true then _ else _)
        cases (foundO ws f).any isNone with
        | true => rfl
        | false => rfl
      · rw [decide_eq_false hw, if_neg hw]; rfl
    · rfl
    · rw [q_len_l, len_le (by omega), q_add_ii, q_ne_ii, List.length_map]
      congr 2
      exact decide_eq_decide.mpr (by rw [List.length_cons]; omega)
end
end Tx
namespace Tx
open PySem PySem.Spec PyProof.Rows L2 TL
@[irreducible] def f__law_told_text (l_text : PyData) (K : KD) (E : KX) : Prop :=
  joinM (fun (Q : PyData → Prop) => tryAM (fun E6 => f_read_deed l_text (fun r7 =>
  Q r7) E6) ["BadText"] "BadText" (fun _ fs4 => xf1M "at" fs4 fun d5 => Q (.tuple [.str "BadText", d5])) E) (fun l_found8 =>
  K l_found8)
def c__law_told_text : CT := fun args Φ Ψ => ∃ (l_text : PyData) (K : KD) (E : KX), args = [.d l_text] ∧ f__law_told_text l_text K E ∧ (∀ r, K r → Φ (.rd r) args) ∧ ∀ c, E c → Ψ c args
@[irreducible] def f__law_bent_text (l_text : PyData) (K : KD) (E : KX) : Prop :=
  lenM l_text fun r1 =>
  addM r1 (.int 1) fun r2 =>
  f__law_pull r2 (fun r3 =>
  f__law_pull (.int 16) (fun r4 =>
  ixM (.str " \n0189azA-:,~+._") r4 fun r5 =>
  f__law_pull (.int 7) (fun r6 =>
  eqM r6 (.int 0) fun b7 =>
  (b7 = true → (intO r3 fun i11 =>
  slM l_text none (some i11) fun r12 =>
  addM r12 r5 fun r13 =>
  intO r3 fun i14 =>
  slM l_text (some i14) none fun r15 =>
  addM r13 r15 fun r16 =>
  K r16)) ∧ (b7 = false → (eqM r6 (.int 1) fun b17 =>
  (b17 = true → (intO r3 fun i21 =>
  slM l_text none (some i21) fun r22 =>
  addM r3 (.int 1) fun r23 =>
  intO r23 fun i24 =>
  slM l_text (some i24) none fun r25 =>
  addM r22 r25 fun r26 =>
  K r26)) ∧ (b17 = false → (eqM r6 (.int 2) fun b27 =>
  (b27 = true → (intO r3 fun i31 =>
  slM l_text none (some i31) fun r32 =>
  addM r32 r5 fun r33 =>
  addM r3 (.int 1) fun r34 =>
  intO r34 fun i35 =>
  slM l_text (some i35) none fun r36 =>
  addM r33 r36 fun r37 =>
  K r37)) ∧ (b27 = false → (strO l_text fun s38 =>
  splitM (.str s38) (.str " ") fun l40 =>
  lenM (.list l40) fun r41 =>
  f__law_pull r41 (fun r42 =>
  addM (.list [(.str ""), (.str "00"), (.str "01"), (.str "10000"), (.str "-1"), (.str "3:"), (.str "4:0-2"), (.str "4:"), (.str "5:0-2,"), (.str "3:0-1-2"), (.str "red"), (.str "even")]) (.list [(.str "abcdefghi"), (.str "A"), (.str "fold"), (.str "k")]) fun r43 =>
  eqM r6 (.int 3) fun b44 =>
  (b44 = true → (intO r42 fun i48 =>
  slM (.list l40) none (some i48) fun r49 =>
  addM r42 (.int 1) fun r50 =>
  intO r50 fun i51 =>
  slM (.list l40) (some i51) none fun r52 =>
  addM r49 r52 fun r53 =>
  tjoinM (.str " ") r53 fun r54 =>
  K r54)) ∧ (b44 = false → (eqM r6 (.int 4) fun b55 =>
  (b55 = true → (intO r42 fun i59 =>
  slM (.list l40) none (some i59) fun r60 =>
  ixM (.list l40) r42 fun r61 =>
  ixM (.list l40) r42 fun r62 =>
  addM r60 (.list [r61, r62]) fun r63 =>
  addM r42 (.int 1) fun r64 =>
  intO r64 fun i65 =>
  slM (.list l40) (some i65) none fun r66 =>
  addM r63 r66 fun r67 =>
  tjoinM (.str " ") r67 fun r68 =>
  K r68)) ∧ (b55 = false → (eqM r6 (.int 5) fun b69 =>
  (b69 = true → (intO r42 fun i73 =>
  slM (.list l40) none (some i73) fun r74 =>
  f__law_pull (.int 16) (fun r75 =>
  ixM r43 r75 fun r76 =>
  addM r74 (.list [r76]) fun r77 =>
  addM r42 (.int 1) fun r78 =>
  intO r78 fun i79 =>
  slM (.list l40) (some i79) none fun r80 =>
  addM r77 r80 fun r81 =>
  tjoinM (.str " ") r81 fun r82 =>
  K r82) E)) ∧ (b69 = false → (addM l_text (.str " ") fun r83 =>
  addM (.str " ") l_text fun r84 =>
  addM l_text (.str "\n") fun r85 =>
  replM l_text " " "  " fun r86 =>
  upperM l_text fun r87 =>
  f__law_pull (.int 5) (fun r88 =>
  ixM (.list [r83, r84, r85, r86, r87]) r88 fun r89 =>
  K r89) E))))))) E))))))) E) E) E
def c__law_bent_text : CT := fun args Φ Ψ => ∃ (a_l_bag_here : Addr) (l_text : PyData) (K : KD) (E : KX), args = [.bg a_l_bag_here, .d l_text] ∧ f__law_bent_text l_text K E ∧ (∀ r, K r → Φ (.rd r) args) ∧ ∀ c, E c → Ψ c args
@[irreducible] def f_law_k50 (script : PyData) (K : KD) (E : KX) : Prop :=
  f__law_pull (.int 3) (fun r2 =>
  ixM (.list [(.int 6), (.int 12), (.int 20)]) r2 fun r3 =>
  rngM (.int 0) r3 fun xs1 =>
  forM (fun l_turn10 (_ : Unit) N11 B12 => f__law_any_deed  (fun r17 =>
  f__law_deed_text r17 (fun r18 =>
  f__law_pull (.int 2) (fun r20 =>
  addM (.int 1) r20 fun r21 =>
  rngM (.int 0) r21 fun xs19 =>
  forM (fun l_bend35 l_text38 N36 B37 => f__law_bent_text l_text38 (fun r40 =>
  N36 r40) E) (fun l_text22 =>
  f__law_read l_text22 (fun r24 =>
  joinM (fun (Q : PyData → Prop) => ((isNone r24) = true → (Q (.tuple [(.str "BadText"), (.int 0)]))) ∧ ((isNone r24) = false → (Q r24))) (fun l_due28 =>
  f__law_told_text l_text22 (fun r29 =>
  f__law_alike r29 l_due28 (fun r30 =>
  boolM r30 fun b31 =>
  ((!b31) = true → (K (.bool false))) ∧ ((!b31) = false → (N11 ()))) E) E)) E) xs19 r18) E) E) E) (fun (_ : Unit) =>
  f__law_told_text (.str "") (fun r8 =>
  eqM r8 (.tuple [(.str "BadText"), (.int 0)]) fun b9 =>
  K (.bool b9)) E) xs1 ()) E
def toldO (s : Str) : PyData := if isNone (deedO s) = true then .tuple [.str "BadText", .int 0] else deedO s
theorem fx0 {P : Prop} (h : P) : fxM (.int 0) P := ⟨by decide, by decide +kernel, h⟩
section
variable {K : KD} {E : KX} {Kb : KB} {s : Str}
theorem e_read_any (h : s.length ≤ 100000) : f_read_deed (.str s) K E = if isNone (deedO s) = true then fxM (.int 0) (E (.ownF "BadText" [("at", .int 0)])) else K (deedO s) := by
  unfold f_read_deed
  rw [e_deed_in h, if_b]
  cases isNone (deedO s) <;> rfl
theorem i_told (h : s.length ≤ 100000) (hk : K (toldO s)) : f__law_told_text (.str s) K E := by
  unfold f__law_told_text joinM tryAM
  dsimp only
  rw [e_read_any h]
  unfold toldO at hk
  cases hd : isNone (deedO s) with
  | true =>
    rw [hd, if_pos rfl] at hk
    rw [if_pos rfl]
    exact fx0 ⟨List.mem_cons_self .., fun _ => ⟨rfl, hk⟩, fun z => absurd z (by decide +kernel)⟩
  | false =>
    rw [hd, if_neg (by decide)] at hk
    rw [if_neg (by decide)]
    exact hk
theorem okD_planO (h : s.length ≤ 100000) : okD 7 (planO s) = true := by
  obtain ⟨l1, l2⟩ := split_len (x := s) (y := ⟨#[58]⟩) (by decide)
  unfold planO
  split
  · rename_i a b hL
    split
    · rfl
    · have hb := l1 b (by rw [hL]; simp)
      obtain ⟨m1, m2⟩ := split_len (x := b) (y := ⟨#[44]⟩) (by decide)
      have e6 : okD 6 (.tuple (cutsO b)) = true := by
        show (decide ((cutsO b).length ≤ 10000000) && (cutsO b).all (okD 5)) = true
        have hl : (cutsO b).length ≤ 10000000 := by
          unfold cutsO
          split
          · exact Nat.zero_le _
          · rw [List.length_map]; omega
        rw [decide_eq_true hl, Bool.true_and, List.all_eq_true]
        intro d hd
        unfold cutsO at hd
        split at hd
        · cases hd
        · obtain ⟨p, _, rfl⟩ := List.mem_map.mp hd
          rcases pair_cases p with e | ⟨i, j, e⟩ <;> rw [e] <;> rfl
      have ea : okD 6 (numD a) = true := by rcases num_cases a with e | ⟨i, e⟩ <;> rw [e] <;> rfl
      show (decide (2 ≤ 10000000) && [numD a, .tuple (cutsO b)].all (okD 6)) = true
      rw [List.all_cons, List.all_cons, ea, e6]
      rfl
  · rfl
theorem okD_thingO {w : Str} {c : Nat} (h : w.length ≤ 100000) : okD 7 (thingO w c) = true := by
  have k : ∀ b : Bool, okD 7 (if b = true then PyData.str w else .none) = true := fun b => by cases b <;> rfl
  unfold thingO
  split
  · exact k _
  · split
    · exact k _
    · split
      · exact k _
      · split
        · exact k _
        · split
          · rcases num_cases w with e | ⟨i, e⟩ <;> rw [e] <;> rfl
          · exact okD_planO h
theorem okD_deedO (h : s.length ≤ 100000) : okD 8 (deedO s) = true := by
  obtain ⟨l1, l2⟩ := split_len (x := s) (y := ⟨#[32]⟩) (by decide)
  unfold deedO
  split
  · rfl
  · rename_i w ws hL
    unfold deedW
    split
    · rfl
    · rename_i f hf
      split
      · rename_i hw
        split
        · rfl
        · have hlf := forms_len hf
          have hl : (foundO ws f).length ≤ 3 := by unfold foundO; rw [List.length_map, List.length_zip, ← len_tl]; omega
          show (decide ((foundO ws f).length + 1 ≤ 10000000) && (PyData.str w :: foundO ws f).all (okD 7)) = true
          rw [decide_eq_true (by omega), Bool.true_and, List.all_cons]
          refine Bool.and_eq_true_iff.mpr ⟨rfl, List.all_eq_true.mpr fun d hd => ?_⟩
          unfold foundO at hd
          obtain ⟨q, hq, rfl⟩ := List.mem_map.mp hd
          exact okD_thingO (by have := l1 q.1 (by rw [hL]; exact List.mem_cons_of_mem _ (List.of_mem_zip hq).1); omega)
      · rfl
theorem okD_told (h : s.length ≤ 100000) : okD 8 (toldO s) = true := by
  unfold toldO
  split
  · rfl
  · exact okD_deedO h
def wl (ps : List Str) : Nat := (ps.map fun s : Str => s.length).sum + ps.length
theorem wl_app (a b : List Str) : wl (a ++ b) = wl a + wl b := by
  unfold wl
  rw [List.map_append, List.sum_append, List.length_append]; omega
theorem wl_cut {L : List Str} {lo hi : Option Int} : wl (cut L lo hi) ≤ wl L := by
  have h1 : ∀ (n : Nat) (L : List Str), wl (L.take n) ≤ wl L ∧ wl (L.drop n) ≤ wl L := fun n L => by
    have e := wl_app (L.take n) (L.drop n)
    rw [List.take_append_drop] at e
    omega
  unfold cut
  exact Nat.le_trans (h1 _ _).1 (h1 _ _).2
theorem cut_map' {α β : Type} {f : α → β} {L : List α} {lo hi : Option Int} : cut (L.map f) lo hi = (cut L lo hi).map f := by
  unfold cut
  rw [List.length_map, List.map_take, List.map_drop]
theorem joinL_one {c : Nat} : ∀ (ps : List (List Nat)), ps ≠ [] → (joinL [c] ps).length + 1 = (ps.map List.length).sum + ps.length
  | [], h => absurd rfl h
  | [p], _ => by show p.length + 1 = (p.length + 0) + 1; rfl
  | p :: q :: r, _ => by
    have i := joinL_one (c := c) (q :: r) (by simp)
    have e : joinL [c] (p :: q :: r) = p ++ ([c] ++ joinL [c] (q :: r)) := rfl
    have e2 : (p :: q :: r).length = (q :: r).length + 1 := rfl
    rw [e, List.length_append, List.length_append, List.map_cons, List.sum_cons, e2]
    show p.length + (1 + (joinL [c] (q :: r)).length) + 1 = _
    omega
theorem wl_tl (ps : List Str) : wl ps = ((ps.map tl).map List.length).sum + ps.length := by
  unfold wl
  rw [List.map_map]
  congr 1
theorem wl_split (x : Str) : wl (Txt.split x ⟨#[32]⟩) = x.length + 1 := by
  have h := StrLaws.join_split x ⟨#[32]⟩
  have e : tl x = joinL (tl (⟨#[32]⟩ : Str)) ((Txt.split x ⟨#[32]⟩).map tl) := by rw [← tl_join, h]
  have k := joinL_one (c := 32) ((Txt.split x ⟨#[32]⟩).map tl) fun z => split_ne x (by decide) (by decide +kernel) (List.map_eq_nil_iff.mp z)
  rw [wl_tl, len_tl, e]
  rw [List.length_map] at k
  exact k.symm
theorem wl_join (ps : List Str) : (Txt.join ⟨#[32]⟩ ps).length ≤ wl ps := by
  rw [join_eq, len_tl, tl_join, wl_tl]
  cases ps with
  | nil => exact Nat.zero_le _
  | cons p ps =>
    have k := joinL_one (c := 32) ((p :: ps).map tl) (by simp)
    rw [List.length_map] at k
    show (joinL [32] _).length ≤ _
    omega
theorem i_tj {ps : List Str} (h : wl ps ≤ 1000000) (hk : ∀ t : Str, t.length ≤ wl ps → K (.str t)) : tjoinM (.str ⟨#[32]⟩) (.list (ps.map .str)) K := by
  show (match strsOf (ps.map PyData.str) with
    | some (ys : List Str) => (ys.map (fun s : Str => s.length)).sum + ys.length * (⟨#[32]⟩ : Str).length ≤ 16777216 ∧ K (.str (Txt.join ⟨#[32]⟩ ys))
    | none => False)
  rw [strs_of]
  have e : (⟨#[32]⟩ : Str).length = 1 := rfl
  refine ⟨?_, hk _ (wl_join ps)⟩
  unfold wl at h
  rw [e]; omega
theorem cutS_le {s : Str} {lo hi : Option Int} : Str.length (cutS s lo hi) ≤ s.length := by
  rw [len_tl, len_tl]
  show (List.length (List.toArray (((tl s).drop _).take _)).toList) ≤ _
  rw [List.length_take, List.length_drop]; omega
theorem q_into {i : Int} {Q : Int → Prop} : intO (.int i) Q = Q i := rfl
theorem in_wl {ps : List Str} {p : Str} (h : p ∈ ps) : p.length + 1 ≤ wl ps := by
  obtain ⟨a, b, rfl⟩ := List.append_of_mem h
  rw [wl_app]
  have : wl (p :: b) = p.length + 1 + wl b := by unfold wl; rw [List.map_cons, List.sum_cons, List.length_cons]; omega
  omega
theorem wl_len (ps : List Str) : ps.length ≤ wl ps := Nat.le_add_left _ _
theorem i_bent (h : s.length ≤ 30000) (hk : ∀ t : Str, t.length ≤ 4 * s.length + 40 → K (.str t)) : f__law_bent_text (.str s) K E := by
  have hsl := sizeLine_eq
  have one : ∀ c : Nat, (⟨#[c]⟩ : Str).length = 1 := fun _ => rfl
  unfold f__law_bent_text
  rw [len_le (by omega), q_add_ii, e__law_pull (by omega) (by omega)]
  intro r3 a1 a2
  rw [e__law_pull (by decide) (by decide)]
  intro r4 b1 b2
  refine ix_anyS (by decide +kernel) b1 (by
    have e : (" \n0189azA-:,~+._" : Str).length = 16 := by decide +kernel
    rw [e]; exact b2) fun c hc => ?_
  rw [e__law_pull (by decide) (by decide)]
  intro r6 c1 c2
  rw [q_eq_ii]
  refine ⟨fun _ => ?_, fun _ => ?_⟩
  · rw [q_into, q_sl_s]
    refine ⟨by omega, ?_⟩
    show addM (.str (cutS s none (some r3))) (.str ⟨#[c]⟩) _
    have l1 := cutS_le (s := s) (lo := none) (hi := some r3)
    have l2 := cutS_le (s := s) (lo := some r3) (hi := none)
    rw [q_add_ss, one]
    refine ⟨by omega, ?_⟩
    rw [q_into, q_sl_s]
    refine ⟨by omega, ?_⟩
    rw [q_add_ss, len_app, one]
    exact ⟨by omega, hk _ (by rw [len_app, len_app, one]; omega)⟩
  rw [q_eq_ii]
  refine ⟨fun _ => ?_, fun _ => ?_⟩
  · rw [q_into, q_sl_s]
    refine ⟨by omega, ?_⟩
    have l1 := cutS_le (s := s) (lo := none) (hi := some r3)
    have l2 := cutS_le (s := s) (lo := some (r3 + 1)) (hi := none)
    rw [q_add_ii, q_into, q_sl_s]
    refine ⟨by omega, ?_⟩
    rw [q_add_ss]
    exact ⟨by omega, hk _ (by rw [len_app]; omega)⟩
  rw [q_eq_ii]
  refine ⟨fun _ => ?_, fun _ => ?_⟩
  · rw [q_into, q_sl_s]
    refine ⟨by omega, ?_⟩
    show addM (.str (cutS s none (some r3))) (.str ⟨#[c]⟩) _
    have l1 := cutS_le (s := s) (lo := none) (hi := some r3)
    have l2 := cutS_le (s := s) (lo := some (r3 + 1)) (hi := none)
    rw [q_add_ss, one]
    refine ⟨by omega, ?_⟩
    rw [q_add_ii, q_into, q_sl_s]
    refine ⟨by omega, ?_⟩
    rw [q_add_ss, len_app, one]
    exact ⟨by omega, hk _ (by rw [len_app, len_app, one]; omega)⟩
  have hw := wl_split s
  have hne : Txt.split s ⟨#[32]⟩ ≠ [] := split_ne s (by decide) (by decide +kernel)
  rw [show ∀ Q : Str → Prop, strO (.str s) Q = Q s from fun Q => rfl, show (" " : Str) = ⟨#[32]⟩ from rfl, q_split1 (by omega)]
  generalize Txt.split s ⟨#[32]⟩ = L at hw hne
  have hl := wl_len L
  have hl0 : 0 < L.length := List.length_pos_iff.mpr hne
  rw [q_len_l, List.length_map, e__law_pull (by omega) (by omega)]
  intro r42 d1 d2
  rw [q_add_ll]
  refine ⟨by show 16 ≤ sizeLine; omega, ?_⟩
  have cl : ∀ lo hi : Option Int, (cut L lo hi).length ≤ wl L := fun lo hi => Nat.le_trans (wl_len _) wl_cut
  have cw : ∀ lo hi : Option Int, wl (cut L lo hi) ≤ wl L := fun lo hi => wl_cut
  have q1 := cl none (some r42)
  have q2 := cl (some (r42 + 1)) none
  have p1 := cw none (some r42)
  have p2 := cw (some (r42 + 1)) none
  rw [q_eq_ii]
  refine ⟨fun _ => ?_, fun _ => ?_⟩
  · rw [q_into, q_sl_l, q_add_ii, q_into, q_sl_l, q_add_ll, cut_map', cut_map', List.length_map, List.length_map]
    refine ⟨by omega, ?_⟩
    rw [← List.map_append]
    exact i_tj (by rw [wl_app]; omega) fun t ht => hk t (by rw [wl_app] at ht; omega)
  rw [q_eq_ii]
  refine ⟨fun _ => ?_, fun _ => ?_⟩
  · rw [q_into, q_sl_l]
    refine ix_any d1 (by rw [List.length_map]; omega) fun x hx => ?_
    refine ix_any d1 (by rw [List.length_map]; omega) fun x' hx' => ?_
    obtain ⟨y, hy, rfl⟩ := List.mem_map.mp hx
    obtain ⟨y', hy', rfl⟩ := List.mem_map.mp hx'
    have w1 := in_wl hy
    have w2 := in_wl hy'
    rw [q_add_ll, cut_map', List.length_map]
    refine ⟨by show _ + 2 ≤ _; omega, ?_⟩
    rw [q_add_ii, q_into, q_sl_l, q_add_ll, cut_map', List.length_append, List.length_map, List.length_map]
    refine ⟨by show _ + 2 + _ ≤ _; omega, ?_⟩
    rw [show (cut L none (some r42)).map PyData.str ++ [PyData.str y, PyData.str y'] ++ (cut L (some (r42 + 1)) none).map PyData.str = (cut L none (some r42) ++ [y, y'] ++ cut L (some (r42 + 1)) none).map .str by rw [List.map_append, List.map_append]; rfl]
    have e2 : wl [y, y'] = y.length + y'.length + 2 := by unfold wl; simp
    exact i_tj (by rw [wl_app, wl_app]; omega) fun t ht => hk t (by rw [wl_app, wl_app] at ht; omega)
  rw [q_eq_ii]
  refine ⟨fun _ => ?_, fun _ => ?_⟩
  · rw [q_into, q_sl_l, e__law_pull (by decide) (by decide)]
    intro r75 e1 e2
    refine ix_any e1 e2 fun x hx => ?_
    obtain ⟨y, rfl, hy⟩ : ∃ y : Str, x = .str y ∧ y.length ≤ 10 := by
      have k : (([("" : Str), "00", "01", "10000", "-1", "3:", "4:0-2", "4:", "5:0-2,", "3:0-1-2", "red", "even"] ++ [("abcdefghi" : Str), "A", "fold", "k"]).all fun y => decide (y.length ≤ 10)) = true := by decide +kernel
      have hx2 : x ∈ ([("" : Str), "00", "01", "10000", "-1", "3:", "4:0-2", "4:", "5:0-2,", "3:0-1-2", "red", "even"] ++ [("abcdefghi" : Str), "A", "fold", "k"]).map PyData.str := hx
      obtain ⟨y, hy, rfl⟩ := List.mem_map.mp hx2
      exact ⟨y, rfl, of_decide_eq_true (List.all_eq_true.mp k y hy)⟩
    rw [q_add_ll, cut_map', List.length_map]
    refine ⟨by show _ + 1 ≤ _; omega, ?_⟩
    rw [q_add_ii, q_into, q_sl_l, q_add_ll, cut_map', List.length_append, List.length_map, List.length_map]
    refine ⟨by show _ + 1 + _ ≤ _; omega, ?_⟩
    rw [show (cut L none (some r42)).map PyData.str ++ [PyData.str y] ++ (cut L (some (r42 + 1)) none).map PyData.str = (cut L none (some r42) ++ [y] ++ cut L (some (r42 + 1)) none).map .str by rw [List.map_append, List.map_append]; rfl]
    have e2 : wl [y] = y.length + 1 := by unfold wl; simp
    exact i_tj (by rw [wl_app, wl_app]; omega) fun t ht => hk t (by rw [wl_app, wl_app] at ht; omega)
  have n1 : (" " : Str).length = 1 := by decide +kernel
  have n2 : ("\n" : Str).length = 1 := by decide +kernel
  have n3 : ("  " : Str).length = 2 := by decide +kernel
  rw [q_add_ss, one]
  refine ⟨by omega, ?_⟩
  rw [q_add_ss, one]
  refine ⟨by omega, ?_⟩
  rw [q_add_ss, n2]
  refine ⟨by omega, ?_⟩
  show s.length + (s.length + 1) * ("  " : Str).length ≤ 16777216 ∧ _
  rw [n3]
  refine ⟨by omega, ?_⟩
  show s.length ≤ 5592405 ∧ _
  refine ⟨by omega, ?_⟩
  dsimp only
  rw [e__law_pull (by decide) (by decide)]
  intro r88 f1 f2
  have u1 := TK.replace_len s ⟨#[32]⟩ "  "
  have u2 := PyProof.Rows.len_upper s
  rw [n3] at u1
  refine ix_any f1 f2 fun x hx => ?_
  simp only [List.mem_cons, List.not_mem_nil, or_false] at hx
  rcases hx with rfl | rfl | rfl | rfl | rfl
  · exact hk _ (by rw [len_app, one]; omega)
  · exact hk _ (by rw [len_app, one]; omega)
  · exact hk _ (by rw [len_app, n2]; omega)
  · exact hk _ (by omega)
  · exact hk _ (by omega)
theorem dS_small {w : Str} {ts : List Thg} (d : DOk w ts) : (dS (.tx w :: ts)).length ≤ 4100 := by
  have l := join_le (y := ⟨#[32]⟩) (m := 1005) (words_len d.all)
  have e2 : (⟨#[32]⟩ : Str).length = 1 := rfl
  have := d.len
  rw [List.length_map, e2, List.length_cons] at l
  unfold dS
  omega
theorem for_text {bd : PyData → PyData → (PyData → Prop) → (PyData → Prop) → Prop} {KK : PyData → Prop} (hb : ∀ a (s : Str) N, s.length ≤ 30000 → (∀ t : Str, t.length ≤ 4 * s.length + 40 → N (.str t)) → bd a (.str s) N KK) (hk : ∀ t : Str, t.length ≤ 100000 → KK (.str t)) : ∀ (xs : List PyData) (s : Str), xs.length ≤ 2 → s.length ≤ 4100 → forM bd KK xs (.str s)
  | [], s, _, hs => hk s (by omega)
  | [x], s, _, hs => by
    rw [q_for_cons]
    exact hb x s _ (by omega) fun t ht => hk t (by omega)
  | [x, y], s, _, hs => by
    rw [q_for_cons]
    refine hb x s _ (by omega) fun t ht => ?_
    rw [q_for_cons]
    exact hb y t _ (by omega) fun u hu => hk u (by omega)
  | _ :: _ :: _ :: _, _, h, _ => by simp at h
theorem e_law_k50 : ∀ ns : List Int, ns.length ≤ 63 → f_law_k50 (.list (ns.map .int)) (fun r => r = .bool true) (fun _ => False) := fun ns _ => by
  have hsl := sizeLine_eq
  unfold f_law_k50
  rw [e__law_pull (by decide) (by decide)]
  intro r2 a1 a2
  refine ix_any a1 a2 fun m hm => ?_
  obtain ⟨m', rfl, m1, m2⟩ : ∃ m' : Int, m = .int m' ∧ 0 ≤ m' ∧ m' ≤ 40 := by
    simp only [List.mem_cons, List.not_mem_nil, or_false] at hm
    rcases hm with rfl | rfl | rfl
    · exact ⟨_, rfl, by decide, by decide⟩
    · exact ⟨_, rfl, by decide, by decide⟩
    · exact ⟨_, rfl, by decide, by decide⟩
  refine rng_any m1 (by omega) fun xs hxs => ?_
  refine for_each xs (fun d _ N hN => ?_) ?_
  · refine i_any_deed fun w ts o => ?_
    have len : (Thg.tx w :: ts).length ≤ 10 := by have := o.len; rw [List.length_cons]; omega
    rw [e__law_deed_text o.all len, e__law_pull (by decide) (by decide)]
    intro r20 b1 b2
    rw [q_add_ii]
    refine rng_any (by omega) (by omega) fun ys hys => ?_
    refine for_text (fun a s N hs hk => i_bent hs hk) (fun t ht => ?_) ys _ (by omega) (dS_small o)
    rw [e__law_read ht]
    have fin : ∀ due : PyData, due = toldO t → f__law_told_text (.str t) (fun r29 => f__law_alike r29 due (fun r30 => boolM r30 fun b31 => ((!b31) = true → ((PyData.bool false) = .bool true)) ∧ ((!b31) = false → (N ()))) (fun _ => False)) (fun _ => False) := fun due hd => by
      subst hd
      refine i_told ht ?_
      rw [e__law_alike (okD_told ht)]
      exact ⟨fun z => absurd z (by decide), fun _ => hN⟩
    unfold joinM
    dsimp only
    rw [if_b]
    cases hd : isNone (deedO t) with
    | true => exact fin _ (by unfold toldO; rw [hd, if_pos rfl])
    | false => exact fin _ (by unfold toldO; rw [hd, if_neg (by decide)])
  · show f__law_told_text (.str "") _ _
    refine i_told (by decide) ?_
    have e : toldO "" = .tuple [.str "BadText", .int 0] := by
      have e1 : deedO "" = .none := by
        unfold deedO
        have h0 : Txt.split "" ⟨#[32]⟩ = [("" : Str)] := by
          have e : ("" : Str) = Txt.join ⟨#[32]⟩ [("" : Str)] := by rw [join_eq]; decide +kernel
          rw [e, split_join (y := ⟨#[32]⟩) (s := 32) (S := []) rfl (by decide +kernel) (by simp) fun z hz => by
            rw [List.mem_singleton.mp hz]; decide +kernel, ← e]
        rw [h0]
        show deedW "" [] = _
        unfold deedW
        have h1 : formsL.lookup ("" : Str) = none := by decide +kernel
        rw [h1]
      unfold toldO
      rw [e1]; rfl
    rw [e]
    exact ⟨by decide +kernel, by decide +kernel, congrArg PyData.bool (by decide +kernel : PyData.eqv (.tuple [.str "BadText", .int 0]) (.tuple [.str "BadText", .int 0]) = true)⟩
end
end Tx
namespace Tx
open PySem PySem.Spec PyProof.Rows L2 TL
section
variable {P : Program} {w : World} {K : PySem.W.Frag} {mg : Str → Option Value} {base : Heap} {f : Addr} {fd : FuncData} {k : Nat}
abbrev FnP (K : PySem.W.Frag) (x : Str) (st : Stmt) (f : Addr) (fd : FuncData) : Prop := FunD K x x (defArgs st) (defBody st) (defScope st) [] [] f fd
theorem okx_BadText__init (F : FunD K "__init__" "BadText.__init__" (defArgs s_BadText__init) (defBody s_BadText__init) (defScope s_BadText__init) [] [] f fd) (gp : mg "PinchError" = some (.ref (He.ga K "PinchError"))) (pk : PinK K (He.ga K "PinchError")) (ef : ExF K "BadText" ["at"]) :
    FnOk P w K mg base (L2.CX P w) (k + 1) f fd ["self", "at"] (XInit K (He.ga K "BadText") ["at"]) := by
  refine xinit_of F sc_BadText__init fun cdv A outer s H E => ?_
  exact ⟨_, pss_cons (ps_expr (pe_pinit gp pk (pa_cons (pe_var (i := 0) rfl (.inl rfl)) (pa_cons (pe_joined (.cons pe_str (.cons (pe_fmt (pe_var (i := 1) rfl (.inl rfl))) .nil))) pa_nil)))) (pss_cons (ps_ost (f := "at") (pe_var (i := 0) rfl (.inl rfl)) (pe_var (i := 1) rfl (.inl rfl))) pss_nil), fun vs H Q E h => xfin1 (c := "no such text, at ") ef.oc (ef.no _ (List.mem_cons_self ..)) (by decide +kernel) h⟩
theorem ok_o__law_bag (F : FnP K "_law_bag" s__law_bag f fd) (hm : mg "_law_bag" = some (.ref f)) (hb : Binds K fd ["_law_script"] []) (m_len : mg "len" = none) (m_abs : mg "abs" = none) (m_int : mg "int" = none) :
    Has P w K mg base (k + 1) "_law_bag" ["_law_script"] o__law_bag := by
  refine fn_has F hm sc__law_bag hb rfl ?_
  rintro cdv A outer s H E g args Φ Ψ hr hp hM hl ⟨ns, rfl, hn, hΦ⟩
  have hcut : cut (ns.map PyData.int) none (some 63) = ns.map .int := cut_le _ _ (by decide) (by simp; omega)
  refine ws_cons (w1_setLc 1 (own := [("_law_one", 2)]) rfl sc__law_bag.nd (pi_list (peI _)) (blkOk_by (by rfl)) (fun _ _ _ _ _ => (pg_name (i := 2) sc__law_bag.nd rfl (by first | exact Or.inl rfl | exact Or.inr rfl))) (by decide) (nt_lcL (tgd_name 2) rfl ?_))
  refine we_of_wn ?_
  refine wn_sliceL ?_
  refine we_n 0 ?_
  refine ⟨_, rfl, ?_⟩
  refine wp_none ?_
  refine wp_e ?_
  refine we_int ?_
  refine ⟨_, rfl, ?_⟩
  refine ⟨rfl, _, fun i acc => acc = (ns.take i).map fun c => .int (absI c), rfl, rfl, fun i x hx => ⟨_, rfl, rfl, ?_⟩, fun acc ha => ?_⟩
  · intro acc ha g1 s1 H1 C1 cl1 fp1
    rw [hcut] at hx
    obtain ⟨n, rfl, hn2⟩ := ints_get hx
    refine ⟨fun _ s1 H1 C1 cl1 fp1 => ?_, fun z => by cases z⟩
    refine we_abs m_abs ?_
    refine we_n 2 ?_
    refine ⟨_, rfl, ?_⟩
    refine ⟨rfl, ?_⟩
    subst ha
    exact tk_succ (fun c => .int (absI c)) hn2
  · subst ha
    rw [hcut, List.length_map, List.take_length]
    have em : (ns.map fun c => PyData.int (absI c)) = (ns.map absI).map .int := by simp
    rw [em]
    refine ws_cons (w1_set 3 sc__law_bag.nd ?_)
    refine we_add ?_
    refine we_int ?_
    refine we_len m_len ?_
    refine we_n 1 ?_
    refine .lst ?_
    refine .int ?_
    refine ⟨rfl, ?_⟩
    refine ws_cons (w1_forL hp rfl (pg_name (i := 2) sc__law_bag.nd rfl (by first | exact Or.inl rfl | exact Or.inr rfl)) (tgd_name 2) ?_)
    refine we_of_wn ?_
    refine wn_sliceL ?_
    refine we_n 0 ?_
    refine ⟨_, rfl, ?_⟩
    refine wp_none ?_
    refine wp_e ?_
    refine we_int ?_
    refine ⟨_, rfl, ?_⟩
    refine ⟨rfl, _, fun i e => ∃ (x : Sl) (t : Int), 0 ≤ t ∧ t < 2147483629 ∧ e = [.d (.list (ns.map .int)), .d (.list ((ns.map absI).map .int)), x, .d (.int t)], rfl, ⟨.un, _, ?_, ?_, rfl⟩, ?_, ?_⟩
    · omega
    · simp; omega
    · rintro i x hx _ ⟨x2, t, t0, t1, rfl⟩
      rw [hcut] at hx
      obtain ⟨n, rfl, hn2⟩ := ints_get hx
      refine ⟨_, rfl, rfl, ?_⟩
      refine ws_cons (w1_set 3 sc__law_bag.nd ?_)
      refine we_mod ?_
      refine we_add ?_
      refine we_add ?_
      refine we_mul ?_
      refine we_n 3 ?_
      refine we_int ?_
      refine ⟨?_, by unfold L2.CMul; omega⟩
      refine we_abs m_abs ?_
      refine we_n 2 ?_
      refine ⟨_, rfl, ?_⟩
      refine .int ?_
      refine we_mul ?_
      refine we_int ?_
      refine we_intof m_int ?_
      refine we_cp (op_ltA hr) ?_
      refine we_n 2 ?_
      refine we_int ?_
      refine ⟨_, cp_lt, ?_⟩
      refine .bool ?_
      refine ⟨?_, by unfold L2.CMul; omega⟩
      refine .int ?_
      refine we_int ?_
      refine ⟨?_, by decide⟩
      refine ⟨rfl, ?_⟩
      refine ws_nil ?_
      exact ⟨_, _, Int.emod_nonneg _ (by decide), Int.emod_lt_of_pos _ (by decide), rfl⟩
    · rintro _ ⟨x2, t, t0, t1, rfl⟩
      refine ws_cons (w1_retN ?_)
      refine wn_list ?_
      refine wa_d ?_
      refine we_n 1 ?_
      refine ⟨rfl, ?_⟩
      refine wa_d ?_
      refine we_int ?_
      refine ⟨rfl, ?_⟩
      refine wa_d ?_
      refine we_int ?_
      refine ⟨rfl, ?_⟩
      refine wa_d ?_
      refine we_n 3 ?_
      refine ⟨rfl, ?_⟩
      refine wa_nil ?_
      refine ⟨_, rfl, szOk rfl, ?_⟩
      refine ⟨_, hΦ _ ⟨ns.map absI, 0, 0, t, rfl, fun c hc => ?_, by decide, by decide, t0, t1⟩, trivial, rfl, rfl⟩
      obtain ⟨z, _, rfl⟩ := List.mem_map.mp hc
      exact absI_nn z
theorem ok__law_plan_text (F : FnP K "_law_plan_text" s__law_plan_text f fd) (hm : mg "_law_plan_text" = some (.ref f)) (hb : Binds K fd ["_law_plan_here"] []) (m_str : mg "str" = none) :
    Has P w K mg base (k + 1) "_law_plan_text" ["_law_plan_here"] c__law_plan_text := by
  refine fn_has F hm sc__law_plan_text hb rfl ?_
  rintro cdv A outer s H E g args Φ Ψ hr hp hM hl ⟨l_plan_here, Kf, Ef, rfl, h, hK, hE⟩
  unfold f__law_plan_text at h
  refine ws_env (env' := [.d l_plan_here, .un, .un]) rfl ?_
  refine ws_cons (w1_ret ?_)
  refine we_add ?_
  refine we_add ?_
  refine we_str1 m_str ?_
  refine we_ix ?_
  refine we_n 0 ?_
  refine we_int ?_
  refine ix_sh h fun r1 h => ?_
  refine str_m h fun r2 h => ?_
  refine we_str ?_
  refine add_sh h fun r3 h => ?_
  refine we_join ?_
  refine we_str ?_
  refine ⟨_, rfl, ?_⟩
  refine we_of_wn ?_
  refine wn_lc (own := [("_law_low", 1), ("_law_high", 2)]) rfl sc__law_plan_text.nd (blkOk_by (by rfl)) (fun _ _ _ _ _ => (pg_tup rfl (pgs_cons (pg_name (i := 1) sc__law_plan_text.nd rfl (by first | exact Or.inl rfl | exact Or.inr rfl)) (pgs_cons (pg_name (i := 2) sc__law_plan_text.nd rfl (by first | exact Or.inl rfl | exact Or.inr rfl)) pgs_nil)))) (tgd_tup (tgds_cons (tgd_name 1) (tgds_cons (tgd_name 2) tgds_nil)) rfl) (by decide) rfl ?_
  refine wi_d ?_
  refine we_ix ?_
  refine we_n 0 ?_
  refine we_int ?_
  refine ix_sh h fun r5 h => ?_
  refine ⟨rfl, it_sh h fun xs4 h => ?_⟩
  refine lcS h (fun p6 kp sk h => ?_) fun l7 h => ?_
  · obtain ⟨l_low8, l_high9, he10, h⟩ := un2_sh h
    refine ⟨[(1, l_low8), (2, l_high9)], (by rw [he10]; rfl), rfl, fun g' s1 H1 C1 cl1 fp1 => ?_⟩
    refine ⟨fun _ s1 H1 C1 cl1 fp1 => ?_, fun z => by cases z⟩
    refine we_add ?_
    refine we_add ?_
    refine we_str1 m_str ?_
    refine we_n 1 ?_
    refine str_m h fun r11 h => ?_
    refine we_str ?_
    refine add_sh h fun r12 h => ?_
    refine we_str1 m_str ?_
    refine we_n 2 ?_
    refine str_m h fun r13 h => ?_
    refine add_sh h fun r14 h => ?_
    exact ⟨rfl, h⟩
  refine tjoin_m h fun r15 h => ?_
  refine add_sh h fun r16 h => ?_
  exact ⟨rfl, _, hK _ h, trivial, rfl, rfl⟩
theorem ok__law_deed_text (F : FnP K "_law_deed_text" s__law_deed_text f fd) (hm : mg "_law_deed_text" = some (.ref f)) (hb : Binds K fd ["_law_deed"] []) (m_isinstance : mg "isinstance" = none) (m_tuple : mg "tuple" = none) (h__law_plan_text : Has P w K mg base k "_law_plan_text" ["_law_plan_here"] c__law_plan_text) (m_str : mg "str" = none) :
    Has P w K mg base (k + 1) "_law_deed_text" ["_law_deed"] c__law_deed_text := by
  refine fn_has F hm sc__law_deed_text hb rfl ?_
  rintro cdv A outer s H E g args Φ Ψ hr hp hM hl ⟨l_deed, Kf, Ef, rfl, h, hK, hE⟩
  unfold f__law_deed_text at h
  refine ws_env (env' := [.d l_deed, .un, .un]) rfl ?_
  refine ws_cons (w1_setN 1 sc__law_deed_text.nd ?_)
  refine wn_list ?_
  refine wa_nil ?_
  refine ⟨_, rfl, szOk rfl, ?_⟩
  intro a1 n_a1
  refine ws_env (env' := [.d l_deed, .ol a1 [], .un]) rfl ?_
  refine ws_cons (w1_for hp rfl (pg_name (i := 2) sc__law_deed_text.nd rfl (by first | exact Or.inl rfl | exact Or.inr rfl)) (tgd_name 2) ?_)
  refine wi_d ?_
  refine we_n 0 ?_
  refine ⟨rfl, it_sh h fun xs2 h => ?_⟩
  refine forS h (fun (s : (List PyData)) (u : {a : Addr // a ∉ g.M} × Sl) => [.d l_deed, .ol u.1.1 s, u.2]) (⟨a1, n_a1⟩, (.un)) rfl ?_ ?_
  · rintro l_words3 ⟨⟨a4, n_a4⟩, w5⟩ h
    refine ws_env (env' := [.d l_deed, .ol a4 l_words3, w5]) rfl ?_
    refine ws_cons (w1_ret ?_)
    refine we_join ?_
    refine we_str ?_
    refine ⟨_, rfl, ?_⟩
    refine we_nl 1 ?_
    refine tjoin_m h fun r6 h => ?_
    exact ⟨rfl, _, hK _ h, trivial, rfl, rfl⟩
  · rintro hend l_thing7 l_words10 ⟨⟨a11, n_a11⟩, w12⟩ N8 h
    refine ⟨[(2, l_thing7)], rfl, rfl, ?_⟩
    refine ws_env (env' := [.d l_deed, .ol a11 l_words10, .d l_thing7]) rfl ?_
    refine ws_cons (w1_append 1 rfl ?_)
    refine we_ifS h (fun Q h => ?_) (fun Q h => ?_) (fun Q h => ?_) fun r13 h => ?_
    · refine wt_e ?_
      refine we_isi "tuple" m_isinstance m_tuple ?_
      refine we_n 2 ?_
      refine ⟨_, rfl, ?_⟩
      exact h
    · refine we_call h__law_plan_text hr ?_
      refine wa_d ?_
      refine we_n 2 ?_
      refine ⟨rfl, ?_⟩
      refine wa_nil ?_
      refine ⟨rfl, _, _, _, rfl, h, fun r14 h => ⟨rfl, _, rfl, ?_⟩, fun c hc => ⟨rfl, ⟨_, hE _ hc, rfl, rfl⟩⟩⟩
      exact ⟨rfl, h⟩
    · refine we_str1 m_str ?_
      refine we_n 2 ?_
      refine str_m h fun r15 h => ?_
      exact ⟨rfl, h⟩
    obtain ⟨hl16, h⟩ := h
    refine ⟨rfl, hl16, ?_⟩
    refine ws_env (env' := [.d l_deed, .ol a11 (l_words10 ++ ([r13] : List PyData)), .d l_thing7]) rfl ?_
    exact ws_nil ⟨(l_words10 ++ ([r13] : List PyData)), (⟨a11, n_a11⟩, (.d l_thing7)), h, rfl⟩
theorem ok__law_good_name (F : FnP K "_law_good_name" s__law_good_name f fd) (hm : mg "_law_good_name" = some (.ref f)) (hb : Binds K fd ["_law_name"] []) (m_len : mg "len" = none) (m_all : mg "all" = none) :
    Has P w K mg base (k + 1) "_law_good_name" ["_law_name"] c__law_good_name := by
  refine fn_has F hm sc__law_good_name hb rfl ?_
  rintro cdv A outer s H E g args Φ Ψ hr hp hM hl ⟨l_name, Kf, Ef, rfl, h, hK, hE⟩
  unfold f__law_good_name at h
  refine ws_env (env' := [.d l_name, .un]) rfl ?_
  refine ws_cons (w1_ret ?_)
  refine we_andS h (fun Q h => ?_) (fun Q h => ?_) fun b1 h => ?_
  · refine we_ch (op_leA hr) (op_leA hr) ?_
    refine we_int ?_
    refine we_len m_len ?_
    refine we_n 0 ?_
    refine len_sh h fun r2 h => ?_
    refine ch_sh2 h (fun Q h => le_sh h fun _ h => h) (fun Q h => ?_) fun b3 h => ?_
    · refine we_int ?_
      exact le_sh h fun _ h => h
    refine ⟨_, rfl, ?_⟩
    exact h
  · refine we_one ?_
    refine we_allA m_all rfl ?_
    refine we_of_wn ?_
    refine wn_lc (own := [("_law_sign", 1)]) rfl sc__law_good_name.nd (blkOk_by (by rfl)) (fun _ _ _ _ _ => (pg_name (i := 1) sc__law_good_name.nd rfl (by first | exact Or.inl rfl | exact Or.inr rfl))) (tgd_name 1) (by decide) rfl ?_
    refine wi_d ?_
    refine we_n 0 ?_
    refine ⟨rfl, it_sh h fun xs5 h => ?_⟩
    refine lcS h (fun l_sign6 kp sk h => ?_) fun l7 h => ?_
    · refine ⟨[(1, l_sign6)], rfl, rfl, fun g' s1 H1 C1 cl1 fp1 => ?_⟩
      refine ⟨fun _ s1 H1 C1 cl1 fp1 => ?_, fun z => by cases z⟩
      refine we_cp (op_inA hr) ?_
      refine we_n 1 ?_
      refine we_str ?_
      refine in_sh h fun b8 h => ?_
      exact ⟨rfl, h⟩
    refine all_m h fun r9 h => ?_
    refine bool_sh h fun b10 h => ?_
    exact h
  exact ⟨rfl, _, hK _ h, trivial, rfl, rfl⟩
theorem ok__law_digits (F : FnP K "_law_digits" s__law_digits f fd) (hm : mg "_law_digits" = some (.ref f)) (hb : Binds K fd ["_law_word"] []) (m_len : mg "len" = none) (m_all : mg "all" = none) (m_int : mg "int" = none) :
    Has P w K mg base (k + 1) "_law_digits" ["_law_word"] c__law_digits := by
  refine fn_has F hm sc__law_digits hb rfl ?_
  rintro cdv A outer s H E g args Φ Ψ hr hp hM hl ⟨l_word, Kf, Ef, rfl, h, hK, hE⟩
  unfold f__law_digits at h
  refine ws_env (env' := [.d l_word, .un]) rfl ?_
  refine ws_cons (w1_if ?_)
  refine wt_ww ?_
  refine ww_orS h (fun Q h => ?_) (fun Q h => ?_) fun b1 h => ?_
  · refine wt_not ?_
    refine wt_ch (op_leA hr) (op_leA hr) ?_
    refine we_int ?_
    refine we_len m_len ?_
    refine we_n 0 ?_
    refine len_sh h fun r2 h => ?_
    refine ch_sh2 h (fun Q h => le_sh h fun _ h => h) (fun Q h => ?_) fun b3 h => ?_
    · refine we_int ?_
      exact le_sh h fun _ h => h
    exact h
  · refine ww_or1 ?_
    refine wt_not ?_
    refine wt_e ?_
    refine we_allA m_all rfl ?_
    refine we_of_wn ?_
    refine wn_lc (own := [("_law_sign", 1)]) rfl sc__law_digits.nd (blkOk_by (by rfl)) (fun _ _ _ _ _ => (pg_name (i := 1) sc__law_digits.nd rfl (by first | exact Or.inl rfl | exact Or.inr rfl))) (tgd_name 1) (by decide) rfl ?_
    refine wi_d ?_
    refine we_n 0 ?_
    refine ⟨rfl, it_sh h fun xs5 h => ?_⟩
    refine lcS h (fun l_sign6 kp sk h => ?_) fun l7 h => ?_
    · refine ⟨[(1, l_sign6)], rfl, rfl, fun g' s1 H1 C1 cl1 fp1 => ?_⟩
      refine ⟨fun _ s1 H1 C1 cl1 fp1 => ?_, fun z => by cases z⟩
      refine we_cp (op_inA hr) ?_
      refine we_n 1 ?_
      refine we_str ?_
      refine in_sh h fun b8 h => ?_
      exact ⟨rfl, h⟩
    refine all_m h fun r9 h => ?_
    refine bool_sh h fun b10 h => ?_
    exact h
  obtain ⟨h11, h12⟩ := h
  refine ⟨fun e13 => ?_, fun e13 => ?_⟩
  · replace h := h11 e13
    refine ws_cons (w1_ret ?_)
    refine we_none ?_
    exact ⟨rfl, _, hK _ h, trivial, rfl, rfl⟩
  · replace h := h12 e13
    refine ws_nil ?_
    refine ws_cons (w1_if ?_)
    refine wt_ww ?_
    refine ww_andS h (fun Q h => ?_) (fun Q h => ?_) fun b14 h => ?_
    · refine wt_cp (op_neA hr) ?_
      refine we_n 0 ?_
      refine we_str ?_
      refine ne_sh h fun b15 h => ?_
      exact h
    · refine ww_and1 ?_
      refine wt_cp (op_eqA hr) ?_
      refine we_ix ?_
      refine we_n 0 ?_
      refine we_int ?_
      refine ix_sh h fun r16 h => ?_
      refine we_str ?_
      refine eq_sh h fun b17 h => ?_
      exact h
    obtain ⟨h18, h19⟩ := h
    refine ⟨fun e20 => ?_, fun e20 => ?_⟩
    · replace h := h18 e20
      refine ws_cons (w1_ret ?_)
      refine we_none ?_
      exact ⟨rfl, _, hK _ h, trivial, rfl, rfl⟩
    · replace h := h19 e20
      refine ws_nil ?_
      refine ws_cons (w1_ret ?_)
      refine we_intS m_int ?_
      refine we_n 0 ?_
      refine intS_m h fun r21 h => ?_
      exact ⟨rfl, _, hK _ h, trivial, rfl, rfl⟩
theorem ok__law_plan_read (F : FnP K "_law_plan_read" s__law_plan_read f fd) (hm : mg "_law_plan_read" = some (.ref f)) (hb : Binds K fd ["_law_word"] []) (m_len : mg "len" = none) (h__law_digits : Has P w K mg base k "_law_digits" ["_law_word"] c__law_digits) (m_tuple : mg "tuple" = none) :
    Has P w K mg base (k + 1) "_law_plan_read" ["_law_word"] c__law_plan_read := by
  refine fn_has F hm sc__law_plan_read hb rfl ?_
  rintro cdv A outer s H E g args Φ Ψ hr hp hM hl ⟨l_word, Kf, Ef, rfl, h, hK, hE⟩
  unfold f__law_plan_read at h
  refine ws_env (env' := [.d l_word, .un, .un, .un, .un, .un]) rfl ?_
  refine ws_cons (w1_set 1 sc__law_plan_read.nd ?_)
  refine we_of_wn ?_
  refine wn_split ?_
  refine we_n 0 ?_
  obtain ⟨s1, he2, h⟩ := strO_ob h
  refine ⟨_, he2, ?_⟩
  refine we_str ?_
  refine split_m h fun l3 h => ?_
  refine ⟨rfl, ?_⟩
  refine ws_env (env' := [.d l_word, .d (.list l3), .un, .un, .un, .un]) rfl ?_
  refine ws_cons (w1_if ?_)
  refine wt_ww ?_
  refine ww_orS h (fun Q h => ?_) (fun Q h => ?_) fun b4 h => ?_
  · refine wt_cp (op_neA hr) ?_
    refine we_len m_len ?_
    refine we_n 1 ?_
    refine len_sh h fun r5 h => ?_
    refine we_int ?_
    refine ne_sh h fun b6 h => ?_
    exact h
  · refine ww_or1 ?_
    refine wt_cp op_isN ?_
    refine we_call h__law_digits hr ?_
    refine wa_d ?_
    refine we_ix ?_
    refine we_n 1 ?_
    refine we_int ?_
    refine ix_sh h fun r7 h => ?_
    refine ⟨rfl, ?_⟩
    refine wa_nil ?_
    refine ⟨rfl, _, _, _, rfl, h, fun r8 h => ⟨rfl, _, rfl, ?_⟩, fun c hc => ⟨rfl, ⟨_, hE _ hc, rfl, rfl⟩⟩⟩
    refine we_none ?_
    refine isN_sh ?_
    exact h
  obtain ⟨h9, h10⟩ := h
  refine ⟨fun e11 => ?_, fun e11 => ?_⟩
  · replace h := h9 e11
    refine ws_cons (w1_ret ?_)
    refine we_none ?_
    exact ⟨rfl, _, hK _ h, trivial, rfl, rfl⟩
  · replace h := h10 e11
    refine ws_nil ?_
    refine ws_cons (w1_setN 2 sc__law_plan_read.nd ?_)
    refine wn_list ?_
    refine wa_nil ?_
    refine ⟨_, rfl, szOk rfl, ?_⟩
    intro a12 n_a12
    refine ws_env (env' := [.d l_word, .d (.list l3), .ol a12 [], .un, .un, .un]) rfl ?_
    refine ws_cons (w1_for hp rfl (pg_name (i := 3) sc__law_plan_read.nd rfl (by first | exact Or.inl rfl | exact Or.inr rfl)) (tgd_name 3) ?_)
    refine wi_d ?_
    refine we_of_wn ?_
    refine wn_split ?_
    refine we_ix ?_
    refine we_n 1 ?_
    refine we_int ?_
    refine ix_sh h fun r14 h => ?_
    obtain ⟨s15, he16, h⟩ := strO_ob h
    refine ⟨_, he16, ?_⟩
    refine we_str ?_
    refine split_m h fun l17 h => ?_
    refine ⟨rfl, it_sh h fun xs13 h => ?_⟩
    refine forS h (fun (s : (List PyData)) (u : Sl × {a : Addr // a ∉ g.M} × Sl) => [.d l_word, .d (.list l3), .ol u.2.1.1 s, u.2.2, u.1, .un]) ((.un), ⟨a12, n_a12⟩, (.un)) rfl ?_ ?_
    · rintro l_cuts18 ⟨w19, ⟨a20, n_a20⟩, w21⟩ h
      refine ws_env (env' := [.d l_word, .d (.list l3), .ol a20 l_cuts18, w21, w19, .un]) rfl ?_
      refine ws_cons (w1_ret ?_)
      refine we_tuple ?_
      refine wa_d ?_
      refine we_call h__law_digits hr ?_
      refine wa_d ?_
      refine we_ix ?_
      refine we_n 1 ?_
      refine we_int ?_
      refine ix_sh h fun r22 h => ?_
      refine ⟨rfl, ?_⟩
      refine wa_nil ?_
      refine ⟨rfl, _, _, _, rfl, h, fun r23 h => ⟨rfl, _, rfl, ?_⟩, fun c hc => ⟨rfl, ⟨_, hE _ hc, rfl, rfl⟩⟩⟩
      refine ⟨rfl, ?_⟩
      refine wa_d ?_
      refine we_tupof m_tuple ?_
      refine we_nl 2 ?_
      refine tup_sh h (fun r24 h => ?_) (Or.inr isTup_l)
      refine ⟨rfl, ?_⟩
      refine wa_nil ?_
      refine ⟨_, rfl, szOk rfl, ?_⟩
      exact ⟨rfl, _, hK _ h, trivial, rfl, rfl⟩
    · rintro hend l_piece25 l_cuts28 ⟨w29, ⟨a30, n_a30⟩, w31⟩ N26 h
      refine ⟨[(3, l_piece25)], rfl, rfl, ?_⟩
      refine ws_env (env' := [.d l_word, .d (.list l3), .ol a30 l_cuts28, .d l_piece25, w29, .un]) rfl ?_
      refine ws_cons (w1_setLc 4 (own := [("_law_half", 5)]) rfl sc__law_plan_read.nd piS (blkOk_by (by rfl)) (fun _ _ _ _ _ => (pg_name (i := 5) sc__law_plan_read.nd rfl (by first | exact Or.inl rfl | exact Or.inr rfl))) (by decide) (nt_lc (tgd_name 5) rfl ?_))
      refine wi_d ?_
      refine we_of_wn ?_
      refine wn_split ?_
      refine we_n 3 ?_
      obtain ⟨s33, he34, h⟩ := strO_ob h
      refine ⟨_, he34, ?_⟩
      refine we_str ?_
      refine split_m h fun l35 h => ?_
      refine ⟨rfl, it_sh h fun xs32 h => ?_⟩
      refine lcS h (fun l_half36 kp sk h => ?_) fun l37 h => ?_
      · refine ⟨[(5, l_half36)], rfl, rfl, fun g' s1 H1 C1 cl1 fp1 => ?_⟩
        refine ⟨fun _ s1 H1 C1 cl1 fp1 => ?_, fun z => by cases z⟩
        refine we_call h__law_digits hr ?_
        refine wa_d ?_
        refine we_n 5 ?_
        refine ⟨rfl, ?_⟩
        refine wa_nil ?_
        refine ⟨rfl, _, _, _, rfl, h, fun r38 h => ⟨rfl, _, rfl, ?_⟩, fun c hc => ⟨rfl, hc.elim⟩⟩
        exact ⟨rfl, h⟩
      refine ws_env (env' := [.d l_word, .d (.list l3), .ol a30 l_cuts28, .d l_piece25, .d (.list l37), .un]) rfl ?_
      refine ws_cons (w1_if ?_)
      refine wt_ww ?_
      refine ww_orS h (fun Q h => ?_) (fun Q h => ?_) fun b39 h => ?_
      · refine wt_cp (op_neA hr) ?_
        refine we_n 3 ?_
        refine we_str ?_
        refine ne_sh h fun b40 h => ?_
        exact h
      · refine ww_or1 ?_
        refine wt_cp (op_neA hr) ?_
        refine we_ix ?_
        refine we_n 1 ?_
        refine we_int ?_
        refine ix_sh h fun r41 h => ?_
        refine we_str ?_
        refine ne_sh h fun b42 h => ?_
        exact h
      obtain ⟨h43, h44⟩ := h
      refine ⟨fun e45 => ?_, fun e45 => ?_⟩
      · replace h := h43 e45
        refine ws_cons (w1_if ?_)
        refine wt_ww ?_
        refine ww_orS h (fun Q h => ?_) (fun Q h => ?_) fun b46 h => ?_
        · refine wt_cp (op_neA hr) ?_
          refine we_len m_len ?_
          refine we_n 4 ?_
          refine len_sh h fun r47 h => ?_
          refine we_int ?_
          refine ne_sh h fun b48 h => ?_
          exact h
        · refine ww_or1 ?_
          refine wt_cp (op_inA hr) ?_
          refine we_none ?_
          refine we_n 4 ?_
          refine in_sh h fun b49 h => ?_
          exact h
        obtain ⟨h50, h51⟩ := h
        refine ⟨fun e52 => ?_, fun e52 => ?_⟩
        · replace h := h50 e52
          refine ws_cons (w1_ret ?_)
          refine we_none ?_
          exact ⟨rfl, _, hK _ h, trivial, rfl, rfl⟩
        · replace h := h51 e52
          refine ws_nil ?_
          refine ws_cons (w1_append 2 rfl ?_)
          refine we_tupof m_tuple ?_
          refine we_n 4 ?_
          refine tup_sh h fun r53 h => ?_
          obtain ⟨hl54, h⟩ := h
          refine ⟨rfl, hl54, ?_⟩
          refine ws_env (env' := [.d l_word, .d (.list l3), .ol a30 (l_cuts28 ++ ([r53] : List PyData)), .d l_piece25, .d (.list l37), .un]) rfl ?_
          refine ws_nil ?_
          exact ws_nil ⟨(l_cuts28 ++ ([r53] : List PyData)), ((.d (.list l37)), ⟨a30, n_a30⟩, (.d l_piece25)), h, rfl⟩
      · replace h := h44 e45
        refine ws_nil ?_
        exact ws_nil ⟨l_cuts28, ((.d (.list l37)), ⟨a30, n_a30⟩, (.d l_piece25)), h, rfl⟩
theorem ok__law_read (F : FnP K "_law_read" s__law_read f fd) (hm : mg "_law_read" = some (.ref f)) (hb : Binds K fd ["_law_text"] []) (m_len : mg "len" = none) (m_zip : mg "zip" = none) (m_tuple : mg "tuple" = none) (h__law_good_name : Has P w K mg base k "_law_good_name" ["_law_name"] c__law_good_name) (h__law_digits : Has P w K mg base k "_law_digits" ["_law_word"] c__law_digits) (h__law_plan_read : Has P w K mg base k "_law_plan_read" ["_law_word"] c__law_plan_read) :
    Has P w K mg base (k + 1) "_law_read" ["_law_text"] c__law_read := by
  refine fn_has F hm sc__law_read hb rfl ?_
  rintro cdv A outer s H E g args Φ Ψ hr hp hM hl ⟨l_text, Kf, Ef, rfl, h, hK, hE⟩
  unfold f__law_read at h
  refine ws_env (env' := [.d l_text, .un, .un, .un, .un, .un, .un, .un]) rfl ?_
  refine ws_cons (w1_setKd 1 sc__law_read.nd ?_)
  refine wdk_disp (fun g2 => ?_)
  refine wps_cons ?_
  refine we_str ?_
  refine ⟨rfl, ?_⟩
  refine we_str ?_
  refine ⟨rfl, ?_⟩
  refine wps_cons ?_
  refine we_str ?_
  refine ⟨rfl, ?_⟩
  refine we_str ?_
  refine ⟨rfl, ?_⟩
  refine wps_cons ?_
  refine we_str ?_
  refine ⟨rfl, ?_⟩
  refine we_str ?_
  refine ⟨rfl, ?_⟩
  refine wps_cons ?_
  refine we_str ?_
  refine ⟨rfl, ?_⟩
  refine we_str ?_
  refine ⟨rfl, ?_⟩
  refine wps_cons ?_
  refine we_str ?_
  refine ⟨rfl, ?_⟩
  refine we_str ?_
  refine ⟨rfl, ?_⟩
  refine wps_cons ?_
  refine we_str ?_
  refine ⟨rfl, ?_⟩
  refine we_str ?_
  refine ⟨rfl, ?_⟩
  refine wps_nil ?_
  refine ⟨szOk rfl, disp_m h fun m3 h => ?_⟩
  intro a1 n_a1
  refine ws_env (env' := [.d l_text, .dk a1 m3, .un, .un, .un, .un, .un, .un]) rfl ?_
  refine ws_cons (w1_updK 1 ?_)
  refine wdk_disp (fun g4 => ?_)
  refine wps_cons ?_
  refine we_str ?_
  refine ⟨rfl, ?_⟩
  refine we_str ?_
  refine ⟨rfl, ?_⟩
  refine wps_cons ?_
  refine we_str ?_
  refine ⟨rfl, ?_⟩
  refine we_str ?_
  refine ⟨rfl, ?_⟩
  refine wps_cons ?_
  refine we_str ?_
  refine ⟨rfl, ?_⟩
  refine we_str ?_
  refine ⟨rfl, ?_⟩
  refine wps_cons ?_
  refine we_str ?_
  refine ⟨rfl, ?_⟩
  refine we_str ?_
  refine ⟨rfl, ?_⟩
  refine wps_cons ?_
  refine we_str ?_
  refine ⟨rfl, ?_⟩
  refine we_str ?_
  refine ⟨rfl, ?_⟩
  refine wps_nil ?_
  refine ⟨szOk rfl, disp_m h fun m5 h => ?_⟩
  obtain ⟨hl6, h⟩ := h
  refine ⟨hl6, ?_⟩
  refine ws_env (env' := [.d l_text, .dk a1 (mergeQ m3 m5), .un, .un, .un, .un, .un, .un]) rfl ?_
  refine ws_cons (w1_set 2 sc__law_read.nd ?_)
  refine we_of_wn ?_
  refine wn_split ?_
  refine we_n 0 ?_
  obtain ⟨s7, he8, h⟩ := strO_ob h
  refine ⟨_, he8, ?_⟩
  refine we_str ?_
  refine split_m h fun l9 h => ?_
  refine ⟨rfl, ?_⟩
  refine ws_env (env' := [.d l_text, .dk a1 (mergeQ m3 m5), .d (.list l9), .un, .un, .un, .un, .un]) rfl ?_
  refine ws_cons (w1_if ?_)
  refine wt_ww ?_
  refine ww_orS h (fun Q h => ?_) (fun Q h => ?_) fun b10 h => ?_
  · refine wt_notInKA 1 hr ?_
    refine we_ix ?_
    refine we_n 2 ?_
    refine we_int ?_
    refine ix_sh h fun r11 h => ?_
    refine ⟨rfl, inK_m h fun b12 h => ?_⟩
    exact h
  · refine ww_or1 ?_
    refine wt_cp (op_neA hr) ?_
    refine we_len m_len ?_
    refine we_n 2 ?_
    refine len_sh h fun r13 h => ?_
    refine we_add ?_
    refine we_int ?_
    refine we_len m_len ?_
    refine we_getK 1 hr rfl ?_
    refine we_ix ?_
    refine we_n 2 ?_
    refine we_int ?_
    refine ix_sh h fun r14 h => ?_
    refine ⟨rfl, getK_s h fun r15 h => ?_⟩
    refine len_sh h fun r16 h => ?_
    refine add_sh h fun r17 h => ?_
    refine ne_sh h fun b18 h => ?_
    exact h
  obtain ⟨h19, h20⟩ := h
  refine ⟨fun e21 => ?_, fun e21 => ?_⟩
  · replace h := h19 e21
    refine ws_cons (w1_ret ?_)
    refine we_none ?_
    exact ⟨rfl, _, hK _ h, trivial, rfl, rfl⟩
  · replace h := h20 e21
    refine ws_nil ?_
    refine ws_cons (w1_setN 3 sc__law_read.nd ?_)
    refine wn_list ?_
    refine wa_d ?_
    refine we_ix ?_
    refine we_n 2 ?_
    refine we_int ?_
    refine ix_sh h fun r22 h => ?_
    refine ⟨rfl, ?_⟩
    refine wa_nil ?_
    refine ⟨_, rfl, szOk rfl, ?_⟩
    intro a23 n_a23
    refine ws_env (env' := [.d l_text, .dk a1 (mergeQ m3 m5), .d (.list l9), .ol a23 [r22], .un, .un, .un, .un]) rfl ?_
    refine ws_cons (w1_for hp rfl (pg_tup rfl (pgs_cons (pg_name (i := 4) sc__law_read.nd rfl (by first | exact Or.inl rfl | exact Or.inr rfl)) (pgs_cons (pg_name (i := 5) sc__law_read.nd rfl (by first | exact Or.inl rfl | exact Or.inr rfl)) pgs_nil))) (tgd_tup (tgds_cons (tgd_name 4) (tgds_cons (tgd_name 5) tgds_nil)) rfl) ?_)
    refine wi_zip m_zip ?_
    refine we_slA ?_
    refine we_n 2 ?_
    refine ⟨rfl, ?_⟩
    refine wp_e ?_
    refine we_int ?_
    refine ⟨_, rfl, ?_⟩
    refine wp_none ?_
    refine sl_sh h fun r25 h => ?_
    refine ⟨rfl, ?_⟩
    refine we_getK 1 hr rfl ?_
    refine we_ix ?_
    refine we_n 2 ?_
    refine we_int ?_
    refine ix_sh h fun r26 h => ?_
    refine ⟨rfl, getK_s h fun r27 h => ?_⟩
    refine ⟨rfl, zip_m h fun xs24 h => ?_⟩
    refine forS h (fun (s : (List PyData)) (u : Sl × Sl × {a : Addr // a ∉ g.M} × Sl × Sl) => [.d l_text, .dk a1 (mergeQ m3 m5), .d (.list l9), .ol u.2.2.1.1 s, u.2.2.2.1, u.2.2.2.2, u.1, u.2.1]) ((.un), (.un), ⟨a23, n_a23⟩, (.un), (.un)) rfl ?_ ?_
    · rintro l_found28 ⟨w29, w30, ⟨a31, n_a31⟩, w32, w33⟩ h
      refine ws_env (env' := [.d l_text, .dk a1 (mergeQ m3 m5), .d (.list l9), .ol a31 l_found28, w32, w33, w29, w30]) rfl ?_
      refine ws_cons (w1_ret ?_)
      refine we_tupof m_tuple ?_
      refine we_nl 3 ?_
      refine tup_sh h (fun r34 h => ?_) (Or.inr isTup_l)
      exact ⟨rfl, _, hK _ h, trivial, rfl, rfl⟩
    · rintro hend p35 l_found38 ⟨w39, w40, ⟨a41, n_a41⟩, w42, w43⟩ N36 h
      obtain ⟨l_word44, l_sign45, he46, h⟩ := un2_sh h
      refine ⟨[(4, l_word44), (5, l_sign45)], (by rw [he46]; rfl), rfl, ?_⟩
      refine ws_env (env' := [.d l_text, .dk a1 (mergeQ m3 m5), .d (.list l9), .ol a41 l_found38, .d l_word44, .d l_sign45, w39, w40]) rfl ?_
      refine ws_cons (w1_setKd 6 sc__law_read.nd ?_)
      refine wdk_disp (fun g48 => ?_)
      refine wps_cons ?_
      refine we_str ?_
      refine ⟨rfl, ?_⟩
      refine we_call h__law_good_name hr ?_
      refine wa_d ?_
      refine we_n 4 ?_
      refine ⟨rfl, ?_⟩
      refine wa_nil ?_
      refine ⟨rfl, _, _, _, rfl, h, fun r49 h => ⟨rfl, _, rfl, ?_⟩, fun c hc => ⟨rfl, ⟨_, hE _ hc, rfl, rfl⟩⟩⟩
      refine ⟨rfl, ?_⟩
      refine wps_cons ?_
      refine we_str ?_
      refine ⟨rfl, ?_⟩
      refine we_cp (op_inA hr) ?_
      refine we_n 4 ?_
      refine we_tuple ?_
      refine wa_d ?_
      refine we_str ?_
      refine ⟨rfl, ?_⟩
      refine wa_d ?_
      refine we_str ?_
      refine ⟨rfl, ?_⟩
      refine wa_nil ?_
      refine ⟨_, rfl, szOk rfl, ?_⟩
      refine in_sh h fun b50 h => ?_
      refine ⟨rfl, ?_⟩
      refine wps_cons ?_
      refine we_str ?_
      refine ⟨rfl, ?_⟩
      refine we_cp (op_inA hr) ?_
      refine we_n 4 ?_
      refine we_tuple ?_
      refine wa_d ?_
      refine we_str ?_
      refine ⟨rfl, ?_⟩
      refine wa_d ?_
      refine we_str ?_
      refine ⟨rfl, ?_⟩
      refine wa_d ?_
      refine we_str ?_
      refine ⟨rfl, ?_⟩
      refine wa_nil ?_
      refine ⟨_, rfl, szOk rfl, ?_⟩
      refine in_sh h fun b51 h => ?_
      refine ⟨rfl, ?_⟩
      refine wps_nil ?_
      refine ⟨szOk rfl, disp_m h fun m52 h => ?_⟩
      intro a47 n_a47
      refine ws_env (env' := [.d l_text, .dk a1 (mergeQ m3 m5), .d (.list l9), .ol a41 l_found38, .d l_word44, .d l_sign45, .dk a47 m52, w40]) rfl ?_
      refine ws_cons (w1_storeKB 6 hr ?_)
      refine we_andS h (fun Q h => ?_) (fun Q h => ?_) fun b53 h => ?_
      · refine we_cp (op_eqA hr) ?_
        refine we_len m_len ?_
        refine we_n 4 ?_
        refine len_sh h fun r54 h => ?_
        refine we_int ?_
        refine eq_sh h fun b55 h => ?_
        refine ⟨_, rfl, ?_⟩
        exact h
      · refine we_one ?_
        refine we_call h__law_good_name hr ?_
        refine wa_d ?_
        refine we_n 4 ?_
        refine ⟨rfl, ?_⟩
        refine wa_nil ?_
        refine ⟨rfl, _, _, _, rfl, h, fun r56 h => ⟨rfl, _, rfl, ?_⟩, fun c hc => ⟨rfl, ⟨_, hE _ hc, rfl, rfl⟩⟩⟩
        refine bool_sh h fun b57 h => ?_
        exact h
      refine ⟨rfl, ?_⟩
      refine we_str ?_
      refine ⟨rfl, putK_m h fun kv58 h => ?_⟩
      refine ws_env (env' := [.d l_text, .dk a1 (mergeQ m3 m5), .d (.list l9), .ol a41 l_found38, .d l_word44, .d l_sign45, .dk a47 kv58, w40]) rfl ?_
      refine ws_cons (w1_set 7 sc__law_read.nd ?_)
      refine we_ifS h (fun Q h => ?_) (fun Q h => ?_) (fun Q h => ?_) fun r59 h => ?_
      · refine wt_e ?_
        refine we_getdK 6 hr ?_
        refine we_n 5 ?_
        refine ⟨rfl, ?_⟩
        refine we_bool ?_
        refine ⟨rfl, getdK_m h fun r60 h => ?_⟩
        refine bool_sh h fun b61 h => ?_
        exact h
      · refine we_n 4 ?_
        exact ⟨rfl, h⟩
      · refine we_none ?_
        exact ⟨rfl, h⟩
      refine ⟨rfl, ?_⟩
      refine ws_env (env' := [.d l_text, .dk a1 (mergeQ m3 m5), .d (.list l9), .ol a41 l_found38, .d l_word44, .d l_sign45, .dk a47 kv58, .d r59]) rfl ?_
      refine ws_joinS h (fun (s : PyData) (u : Unit) => [.d l_text, .dk a1 (mergeQ m3 m5), .d (.list l9), .ol a41 l_found38, .d l_word44, .d l_sign45, .dk a47 kv58, .d s]) (fun Q h => ?_) ?_
      · refine w1_if ?_
        refine wt_cp (op_eqA hr) ?_
        refine we_n 5 ?_
        refine we_str ?_
        refine eq_sh h fun b62 h => ?_
        obtain ⟨h63, h64⟩ := h
        refine ⟨fun e65 => ?_, fun e65 => ?_⟩
        · replace h := h63 e65
          refine ws_cons (w1_set 7 sc__law_read.nd ?_)
          refine we_call h__law_digits hr ?_
          refine wa_d ?_
          refine we_n 4 ?_
          refine ⟨rfl, ?_⟩
          refine wa_nil ?_
          refine ⟨rfl, _, _, _, rfl, h, fun r66 h => ⟨rfl, _, rfl, ?_⟩, fun c hc => ⟨rfl, ⟨_, hE _ hc, rfl, rfl⟩⟩⟩
          refine ⟨rfl, ?_⟩
          refine ws_env (env' := [.d l_text, .dk a1 (mergeQ m3 m5), .d (.list l9), .ol a41 l_found38, .d l_word44, .d l_sign45, .dk a47 kv58, .d r66]) rfl ?_
          exact ws_nil ⟨r66, (), h, rfl⟩
        · replace h := h64 e65
          exact ws_nil ⟨r59, (), h, rfl⟩
      · rintro l_thing67 _ h
        refine ws_env (env' := [.d l_text, .dk a1 (mergeQ m3 m5), .d (.list l9), .ol a41 l_found38, .d l_word44, .d l_sign45, .dk a47 kv58, .d l_thing67]) rfl ?_
        refine ws_joinS h (fun (s : PyData) (u : Unit) => [.d l_text, .dk a1 (mergeQ m3 m5), .d (.list l9), .ol a41 l_found38, .d l_word44, .d l_sign45, .dk a47 kv58, .d s]) (fun Q h => ?_) ?_
        · refine w1_if ?_
          refine wt_cp (op_eqA hr) ?_
          refine we_n 5 ?_
          refine we_str ?_
          refine eq_sh h fun b68 h => ?_
          obtain ⟨h69, h70⟩ := h
          refine ⟨fun e71 => ?_, fun e71 => ?_⟩
          · replace h := h69 e71
            refine ws_cons (w1_set 7 sc__law_read.nd ?_)
            refine we_call h__law_plan_read hr ?_
            refine wa_d ?_
            refine we_n 4 ?_
            refine ⟨rfl, ?_⟩
            refine wa_nil ?_
            refine ⟨rfl, _, _, _, rfl, h, fun r72 h => ⟨rfl, _, rfl, ?_⟩, fun c hc => ⟨rfl, ⟨_, hE _ hc, rfl, rfl⟩⟩⟩
            refine ⟨rfl, ?_⟩
            refine ws_env (env' := [.d l_text, .dk a1 (mergeQ m3 m5), .d (.list l9), .ol a41 l_found38, .d l_word44, .d l_sign45, .dk a47 kv58, .d r72]) rfl ?_
            exact ws_nil ⟨r72, (), h, rfl⟩
          · replace h := h70 e71
            exact ws_nil ⟨l_thing67, (), h, rfl⟩
        · rintro l_thing73 _ h
          refine ws_env (env' := [.d l_text, .dk a1 (mergeQ m3 m5), .d (.list l9), .ol a41 l_found38, .d l_word44, .d l_sign45, .dk a47 kv58, .d l_thing73]) rfl ?_
          refine ws_cons (w1_if ?_)
          refine wt_cp op_isN ?_
          refine we_n 7 ?_
          refine we_none ?_
          refine isN_sh ?_
          obtain ⟨h74, h75⟩ := h
          refine ⟨fun e76 => ?_, fun e76 => ?_⟩
          · replace h := h74 e76
            refine ws_cons (w1_ret ?_)
            refine we_none ?_
            exact ⟨rfl, _, hK _ h, trivial, rfl, rfl⟩
          · replace h := h75 e76
            refine ws_nil ?_
            refine ws_cons (w1_append 3 rfl ?_)
            refine we_n 7 ?_
            obtain ⟨hl77, h⟩ := h
            refine ⟨rfl, hl77, ?_⟩
            refine ws_env (env' := [.d l_text, .dk a1 (mergeQ m3 m5), .d (.list l9), .ol a41 (l_found38 ++ ([l_thing73] : List PyData)), .d l_word44, .d l_sign45, .dk a47 kv58, .d l_thing73]) rfl ?_
            exact ws_nil ⟨(l_found38 ++ ([l_thing73] : List PyData)), ((.dk a47 kv58), (.d l_thing73), ⟨a41, n_a41⟩, (.d l_word44), (.d l_sign45)), h, rfl⟩
theorem ok_number_in (F : FnP K "number_in" s_number_in f fd) (hm : mg "number_in" = some (.ref f)) (hb : Binds K fd ["word"] []) (m_len : mg "len" = none) (g_MOST_FIGURES : ∃ t, mg "MOST_FIGURES" = some (.int 4 t)) (m_all : mg "all" = none) (g_FIGURES : ∃ t, mg "FIGURES" = some (.str "0123456789" t)) (m_int : mg "int" = none) :
    Has P w K mg base (k + 1) "number_in" ["word"] c_number_in := by
  refine fn_has F hm sc_number_in hb rfl ?_
  rintro cdv A outer s H E g args Φ Ψ hr hp hM hl ⟨word, Kf, Ef, rfl, h, hK, hE⟩
  unfold f_number_in at h
  refine ws_env (env' := [.d word, .un]) rfl ?_
  refine ws_cons (w1_if ?_)
  refine wt_ww ?_
  refine ww_orS h (fun Q h => ?_) (fun Q h => ?_) fun b1 h => ?_
  · refine wt_not ?_
    refine wt_ch (op_leA hr) (op_leA hr) ?_
    refine we_int ?_
    refine we_len m_len ?_
    refine we_n 0 ?_
    refine len_sh h fun r2 h => ?_
    refine ch_sh2 h (fun Q h => le_sh h fun _ h => h) (fun Q h => ?_) fun b3 h => ?_
    · refine we_gint g_MOST_FIGURES ?_
      exact le_sh h fun _ h => h
    exact h
  · refine ww_or1 ?_
    refine wt_not ?_
    refine wt_e ?_
    refine we_allA m_all rfl ?_
    refine we_of_wn ?_
    refine wn_lc (own := [("sign", 1)]) rfl sc_number_in.nd (blkOk_by (by rfl)) (fun _ _ _ _ _ => (pg_name (i := 1) sc_number_in.nd rfl (by first | exact Or.inl rfl | exact Or.inr rfl))) (tgd_name 1) (by decide) rfl ?_
    refine wi_d ?_
    refine we_n 0 ?_
    refine ⟨rfl, it_sh h fun xs5 h => ?_⟩
    refine lcS h (fun sign6 kp sk h => ?_) fun l7 h => ?_
    · refine ⟨[(1, sign6)], rfl, rfl, fun g' s1 H1 C1 cl1 fp1 => ?_⟩
      refine ⟨fun _ s1 H1 C1 cl1 fp1 => ?_, fun z => by cases z⟩
      refine we_cp (op_inA hr) ?_
      refine we_n 1 ?_
      refine we_gstr g_FIGURES ?_
      refine in_sh h fun b8 h => ?_
      exact ⟨rfl, h⟩
    refine all_m h fun r9 h => ?_
    refine bool_sh h fun b10 h => ?_
    exact h
  obtain ⟨h11, h12⟩ := h
  refine ⟨fun e13 => ?_, fun e13 => ?_⟩
  · replace h := h11 e13
    refine ws_cons (w1_ret ?_)
    refine we_none ?_
    exact ⟨rfl, _, hK _ h, trivial, rfl, rfl⟩
  · replace h := h12 e13
    refine ws_nil ?_
    refine ws_cons (w1_if ?_)
    refine wt_ww ?_
    refine ww_andS h (fun Q h => ?_) (fun Q h => ?_) fun b14 h => ?_
    · refine wt_cp (op_eqA hr) ?_
      refine we_ix ?_
      refine we_n 0 ?_
      refine we_int ?_
      refine ix_sh h fun r15 h => ?_
      refine we_str ?_
      refine eq_sh h fun b16 h => ?_
      exact h
    · refine ww_and1 ?_
      refine wt_cp op_gt ?_
      refine we_len m_len ?_
      refine we_n 0 ?_
      refine len_sh h fun r17 h => ?_
      refine we_int ?_
      refine gt_sh h fun b18 h => ?_
      exact h
    obtain ⟨h19, h20⟩ := h
    refine ⟨fun e21 => ?_, fun e21 => ?_⟩
    · replace h := h19 e21
      refine ws_cons (w1_ret ?_)
      refine we_none ?_
      exact ⟨rfl, _, hK _ h, trivial, rfl, rfl⟩
    · replace h := h20 e21
      refine ws_nil ?_
      refine ws_cons (w1_ret ?_)
      refine we_intS m_int ?_
      refine we_n 0 ?_
      refine intS_m h fun r22 h => ?_
      exact ⟨rfl, _, hK _ h, trivial, rfl, rfl⟩
theorem ok_pair_in (F : FnP K "pair_in" s_pair_in f fd) (hm : mg "pair_in" = some (.ref f)) (hb : Binds K fd ["word"] []) (m_len : mg "len" = none) (h_number_in : Has P w K mg base k "number_in" ["word"] c_number_in) (m_tuple : mg "tuple" = none) :
    Has P w K mg base (k + 1) "pair_in" ["word"] c_pair_in := by
  refine fn_has F hm sc_pair_in hb rfl ?_
  rintro cdv A outer s H E g args Φ Ψ hr hp hM hl ⟨word, Kf, Ef, rfl, h, hK, hE⟩
  unfold f_pair_in at h
  refine ws_env (env' := [.d word, .un, .un, .un]) rfl ?_
  refine ws_cons (w1_set 1 sc_pair_in.nd ?_)
  refine we_of_wn ?_
  refine wn_split ?_
  refine we_n 0 ?_
  obtain ⟨s1, he2, h⟩ := strO_ob h
  refine ⟨_, he2, ?_⟩
  refine we_str ?_
  refine split_m h fun l3 h => ?_
  refine ⟨rfl, ?_⟩
  refine ws_env (env' := [.d word, .d (.list l3), .un, .un]) rfl ?_
  refine ws_cons (w1_if ?_)
  refine wt_cp (op_neA hr) ?_
  refine we_len m_len ?_
  refine we_n 1 ?_
  refine len_sh h fun r4 h => ?_
  refine we_int ?_
  refine ne_sh h fun b5 h => ?_
  obtain ⟨h6, h7⟩ := h
  refine ⟨fun e8 => ?_, fun e8 => ?_⟩
  · replace h := h6 e8
    refine ws_cons (w1_ret ?_)
    refine we_none ?_
    exact ⟨rfl, _, hK _ h, trivial, rfl, rfl⟩
  · replace h := h7 e8
    refine ws_nil ?_
    refine ws_cons (w1_setLc 2 (own := [("half", 3)]) rfl sc_pair_in.nd piS (blkOk_by (by rfl)) (fun _ _ _ _ _ => (pg_name (i := 3) sc_pair_in.nd rfl (by first | exact Or.inl rfl | exact Or.inr rfl))) (by decide) (nt_lc (tgd_name 3) rfl ?_))
    refine wi_d ?_
    refine we_n 1 ?_
    refine ⟨rfl, it_sh h fun xs9 h => ?_⟩
    refine lcS h (fun half10 kp sk h => ?_) fun l11 h => ?_
    · refine ⟨[(3, half10)], rfl, rfl, fun g' s1 H1 C1 cl1 fp1 => ?_⟩
      refine ⟨fun _ s1 H1 C1 cl1 fp1 => ?_, fun z => by cases z⟩
      refine we_call h_number_in hr ?_
      refine wa_d ?_
      refine we_n 3 ?_
      refine ⟨rfl, ?_⟩
      refine wa_nil ?_
      refine ⟨rfl, _, _, _, rfl, h, fun r12 h => ⟨rfl, _, rfl, ?_⟩, fun c hc => ⟨rfl, hc.elim⟩⟩
      exact ⟨rfl, h⟩
    refine ws_env (env' := [.d word, .d (.list l3), .d (.list l11), .un]) rfl ?_
    refine ws_cons (w1_if ?_)
    refine wt_cp (op_inA hr) ?_
    refine we_none ?_
    refine we_n 2 ?_
    refine in_sh h fun b13 h => ?_
    obtain ⟨h14, h15⟩ := h
    refine ⟨fun e16 => ?_, fun e16 => ?_⟩
    · replace h := h14 e16
      refine ws_cons (w1_ret ?_)
      refine we_none ?_
      exact ⟨rfl, _, hK _ h, trivial, rfl, rfl⟩
    · replace h := h15 e16
      refine ws_nil ?_
      refine ws_cons (w1_ret ?_)
      refine we_tupof m_tuple ?_
      refine we_n 2 ?_
      refine tup_sh h fun r17 h => ?_
      exact ⟨rfl, _, hK _ h, trivial, rfl, rfl⟩
theorem ok_plan_in (F : FnP K "plan_in" s_plan_in f fd) (hm : mg "plan_in" = some (.ref f)) (hb : Binds K fd ["word"] []) (m_len : mg "len" = none) (h_number_in : Has P w K mg base k "number_in" ["word"] c_number_in) (h_pair_in : Has P w K mg base k "pair_in" ["word"] c_pair_in) (m_tuple : mg "tuple" = none) :
    Has P w K mg base (k + 1) "plan_in" ["word"] c_plan_in := by
  refine fn_has F hm sc_plan_in hb rfl ?_
  rintro cdv A outer s H E g args Φ Ψ hr hp hM hl ⟨word, Kf, Ef, rfl, h, hK, hE⟩
  unfold f_plan_in at h
  refine ws_env (env' := [.d word, .un, .un, .un]) rfl ?_
  refine ws_cons (w1_set 1 sc_plan_in.nd ?_)
  refine we_of_wn ?_
  refine wn_split ?_
  refine we_n 0 ?_
  obtain ⟨s1, he2, h⟩ := strO_ob h
  refine ⟨_, he2, ?_⟩
  refine we_str ?_
  refine split_m h fun l3 h => ?_
  refine ⟨rfl, ?_⟩
  refine ws_env (env' := [.d word, .d (.list l3), .un, .un]) rfl ?_
  refine ws_cons (w1_if ?_)
  refine wt_ww ?_
  refine ww_orS h (fun Q h => ?_) (fun Q h => ?_) fun b4 h => ?_
  · refine wt_cp (op_neA hr) ?_
    refine we_len m_len ?_
    refine we_n 1 ?_
    refine len_sh h fun r5 h => ?_
    refine we_int ?_
    refine ne_sh h fun b6 h => ?_
    exact h
  · refine ww_or1 ?_
    refine wt_cp op_isN ?_
    refine we_call h_number_in hr ?_
    refine wa_d ?_
    refine we_ix ?_
    refine we_n 1 ?_
    refine we_int ?_
    refine ix_sh h fun r7 h => ?_
    refine ⟨rfl, ?_⟩
    refine wa_nil ?_
    refine ⟨rfl, _, _, _, rfl, h, fun r8 h => ⟨rfl, _, rfl, ?_⟩, fun c hc => ⟨rfl, ⟨_, hE _ hc, rfl, rfl⟩⟩⟩
    refine we_none ?_
    refine isN_sh ?_
    exact h
  obtain ⟨h9, h10⟩ := h
  refine ⟨fun e11 => ?_, fun e11 => ?_⟩
  · replace h := h9 e11
    refine ws_cons (w1_ret ?_)
    refine we_none ?_
    exact ⟨rfl, _, hK _ h, trivial, rfl, rfl⟩
  · replace h := h10 e11
    refine ws_nil ?_
    refine ws_cons (w1_set 2 sc_plan_in.nd ?_)
    refine we_list ?_
    refine wa_nil ?_
    refine ⟨_, rfl, szOk rfl, ?_⟩
    refine ⟨rfl, ?_⟩
    refine ws_env (env' := [.d word, .d (.list l3), .d (.list []), .un]) rfl ?_
    refine ws_joinS h (fun (s : PyData) (u : Unit) => [.d word, .d (.list l3), .d s, .un]) (fun Q h => ?_) ?_
    · refine w1_if ?_
      refine wt_cp (op_neA hr) ?_
      refine we_ix ?_
      refine we_n 1 ?_
      refine we_int ?_
      refine ix_sh h fun r12 h => ?_
      refine we_str ?_
      refine ne_sh h fun b13 h => ?_
      obtain ⟨h14, h15⟩ := h
      refine ⟨fun e16 => ?_, fun e16 => ?_⟩
      · replace h := h14 e16
        refine ws_cons (w1_setLc 2 (own := [("half", 3)]) rfl sc_plan_in.nd piS (blkOk_by (by rfl)) (fun _ _ _ _ _ => (pg_name (i := 3) sc_plan_in.nd rfl (by first | exact Or.inl rfl | exact Or.inr rfl))) (by decide) (nt_lc (tgd_name 3) rfl ?_))
        refine wi_d ?_
        refine we_of_wn ?_
        refine wn_split ?_
        refine we_ix ?_
        refine we_n 1 ?_
        refine we_int ?_
        refine ix_sh h fun r18 h => ?_
        obtain ⟨s19, he20, h⟩ := strO_ob h
        refine ⟨_, he20, ?_⟩
        refine we_str ?_
        refine split_m h fun l21 h => ?_
        refine ⟨rfl, it_sh h fun xs17 h => ?_⟩
        refine lcS h (fun half22 kp sk h => ?_) fun l23 h => ?_
        · refine ⟨[(3, half22)], rfl, rfl, fun g' s1 H1 C1 cl1 fp1 => ?_⟩
          refine ⟨fun _ s1 H1 C1 cl1 fp1 => ?_, fun z => by cases z⟩
          refine we_call h_pair_in hr ?_
          refine wa_d ?_
          refine we_n 3 ?_
          refine ⟨rfl, ?_⟩
          refine wa_nil ?_
          refine ⟨rfl, _, _, _, rfl, h, fun r24 h => ⟨rfl, _, rfl, ?_⟩, fun c hc => ⟨rfl, hc.elim⟩⟩
          exact ⟨rfl, h⟩
        refine ws_env (env' := [.d word, .d (.list l3), .d (.list l23), .un]) rfl ?_
        exact ws_nil ⟨(.list l23), (), h, rfl⟩
      · replace h := h15 e16
        exact ws_nil ⟨(.list []), (), h, rfl⟩
    · rintro cuts25 _ h
      refine ws_env (env' := [.d word, .d (.list l3), .d cuts25, .un]) rfl ?_
      refine ws_cons (w1_if ?_)
      refine wt_cp (op_inA hr) ?_
      refine we_none ?_
      refine we_n 2 ?_
      refine in_sh h fun b26 h => ?_
      obtain ⟨h27, h28⟩ := h
      refine ⟨fun e29 => ?_, fun e29 => ?_⟩
      · replace h := h27 e29
        refine ws_cons (w1_ret ?_)
        refine we_none ?_
        exact ⟨rfl, _, hK _ h, trivial, rfl, rfl⟩
      · replace h := h28 e29
        refine ws_nil ?_
        refine ws_cons (w1_ret ?_)
        refine we_tuple ?_
        refine wa_d ?_
        refine we_call h_number_in hr ?_
        refine wa_d ?_
        refine we_ix ?_
        refine we_n 1 ?_
        refine we_int ?_
        refine ix_sh h fun r30 h => ?_
        refine ⟨rfl, ?_⟩
        refine wa_nil ?_
        refine ⟨rfl, _, _, _, rfl, h, fun r31 h => ⟨rfl, _, rfl, ?_⟩, fun c hc => ⟨rfl, ⟨_, hE _ hc, rfl, rfl⟩⟩⟩
        refine ⟨rfl, ?_⟩
        refine wa_d ?_
        refine we_tupof m_tuple ?_
        refine we_n 2 ?_
        refine tup_sh h fun r32 h => ?_
        refine ⟨rfl, ?_⟩
        refine wa_nil ?_
        refine ⟨_, rfl, szOk rfl, ?_⟩
        exact ⟨rfl, _, hK _ h, trivial, rfl, rfl⟩
theorem ok_one_in (F : FnP K "one_in" s_one_in f fd) (hm : mg "one_in" = some (.ref f)) (hb : Binds K fd ["word", "good"] [])  :
    Has P w K mg base (k + 1) "one_in" ["word", "good"] c_one_in := by
  refine fn_has F hm sc_one_in hb rfl ?_
  rintro cdv A outer s H E g args Φ Ψ hr hp hM hl ⟨word, good, Kf, Ef, rfl, h, hK, hE⟩
  unfold f_one_in at h
  refine ws_env (env' := [.d word, .d good]) rfl ?_
  refine ws_cons (w1_if ?_)
  refine wt_e ?_
  refine we_n 1 ?_
  refine bool_sh h fun b1 h => ?_
  obtain ⟨h2, h3⟩ := h
  refine ⟨fun e4 => ?_, fun e4 => ?_⟩
  · replace h := h2 e4
    refine ws_cons (w1_ret ?_)
    refine we_n 0 ?_
    exact ⟨rfl, _, hK _ h, trivial, rfl, rfl, rfl⟩
  · replace h := h3 e4
    refine ws_nil ?_
    refine ws_cons (w1_ret ?_)
    refine we_none ?_
    exact ⟨rfl, _, hK _ h, trivial, rfl, rfl, rfl⟩
theorem ok_is_name (F : FnP K "is_name" s_is_name f fd) (hm : mg "is_name" = some (.ref f)) (hb : Binds K fd ["name"] []) (m_len : mg "len" = none) (g_LONGEST : ∃ t, mg "LONGEST" = some (.int 8 t)) (m_all : mg "all" = none) (g_SIGNS : ∃ t, mg "SIGNS" = some (.str "abcdefghijklmnopqrstuvwxyz" t)) :
    Has P w K mg base (k + 1) "is_name" ["name"] c_is_name := by
  refine fn_has F hm sc_is_name hb rfl ?_
  rintro cdv A outer s H E g args Φ Ψ hr hp hM hl ⟨name, Kf, Ef, rfl, h, hK, hE⟩
  unfold f_is_name at h
  refine ws_env (env' := [.d name, .un]) rfl ?_
  refine ws_cons (w1_ret ?_)
  refine we_andS h (fun Q h => ?_) (fun Q h => ?_) fun b1 h => ?_
  · refine we_ch (op_leA hr) (op_leA hr) ?_
    refine we_int ?_
    refine we_len m_len ?_
    refine we_n 0 ?_
    refine len_sh h fun r2 h => ?_
    refine ch_sh2 h (fun Q h => le_sh h fun _ h => h) (fun Q h => ?_) fun b3 h => ?_
    · refine we_gint g_LONGEST ?_
      exact le_sh h fun _ h => h
    refine ⟨_, rfl, ?_⟩
    exact h
  · refine we_one ?_
    refine we_allA m_all rfl ?_
    refine we_of_wn ?_
    refine wn_lc (own := [("sign", 1)]) rfl sc_is_name.nd (blkOk_by (by rfl)) (fun _ _ _ _ _ => (pg_name (i := 1) sc_is_name.nd rfl (by first | exact Or.inl rfl | exact Or.inr rfl))) (tgd_name 1) (by decide) rfl ?_
    refine wi_d ?_
    refine we_n 0 ?_
    refine ⟨rfl, it_sh h fun xs5 h => ?_⟩
    refine lcS h (fun sign6 kp sk h => ?_) fun l7 h => ?_
    · refine ⟨[(1, sign6)], rfl, rfl, fun g' s1 H1 C1 cl1 fp1 => ?_⟩
      refine ⟨fun _ s1 H1 C1 cl1 fp1 => ?_, fun z => by cases z⟩
      refine we_cp (op_inA hr) ?_
      refine we_n 1 ?_
      refine we_gstr g_SIGNS ?_
      refine in_sh h fun b8 h => ?_
      exact ⟨rfl, h⟩
    refine all_m h fun r9 h => ?_
    refine bool_sh h fun b10 h => ?_
    exact h
  exact ⟨rfl, _, hK _ h, trivial, rfl, rfl⟩
theorem ok_is_letter (F : FnP K "is_letter" s_is_letter f fd) (hm : mg "is_letter" = some (.ref f)) (hb : Binds K fd ["letter"] []) (m_len : mg "len" = none) (g_SIGNS : ∃ t, mg "SIGNS" = some (.str "abcdefghijklmnopqrstuvwxyz" t)) :
    Has P w K mg base (k + 1) "is_letter" ["letter"] c_is_letter := by
  refine fn_has F hm sc_is_letter hb rfl ?_
  rintro cdv A outer s H E g args Φ Ψ hr hp hM hl ⟨letter, Kf, Ef, rfl, h, hK, hE⟩
  unfold f_is_letter at h
  refine ws_env (env' := [.d letter]) rfl ?_
  refine ws_cons (w1_ret ?_)
  refine we_andS h (fun Q h => ?_) (fun Q h => ?_) fun b1 h => ?_
  · refine we_cp (op_eqA hr) ?_
    refine we_len m_len ?_
    refine we_n 0 ?_
    refine len_sh h fun r2 h => ?_
    refine we_int ?_
    refine eq_sh h fun b3 h => ?_
    refine ⟨_, rfl, ?_⟩
    exact h
  · refine we_one ?_
    refine we_cp (op_inA hr) ?_
    refine we_n 0 ?_
    refine we_gstr g_SIGNS ?_
    refine in_sh h fun b4 h => ?_
    refine ⟨_, rfl, ?_⟩
    exact h
  exact ⟨rfl, _, hK _ h, trivial, rfl, rfl⟩
theorem ok_thing_in (F : FnP K "thing_in" s_thing_in f fd) (hm : mg "thing_in" = some (.ref f)) (hb : Binds K fd ["word", "sign"] []) (h_one_in : Has P w K mg base k "one_in" ["word", "good"] c_one_in) (h_is_name : Has P w K mg base k "is_name" ["name"] c_is_name) (g_WAYS : GTup K mg "WAYS" [.str "even", .str "odd"]) (g_COLOURS : GTup K mg "COLOURS" [.str "red", .str "blue", .str "gold"]) (h_is_letter : Has P w K mg base k "is_letter" ["letter"] c_is_letter) (h_number_in : Has P w K mg base k "number_in" ["word"] c_number_in) (h_plan_in : Has P w K mg base k "plan_in" ["word"] c_plan_in) :
    Has P w K mg base (k + 1) "thing_in" ["word", "sign"] c_thing_in := by
  refine fn_has F hm sc_thing_in hb rfl ?_
  rintro cdv A outer s H E g args Φ Ψ hr hp hM hl ⟨word, sign, Kf, Ef, rfl, h, hK, hE⟩
  unfold f_thing_in at h
  refine ws_env (env' := [.d word, .d sign]) rfl ?_
  refine ws_cons (w1_if ?_)
  refine wt_cp (op_eqA hr) ?_
  refine we_n 1 ?_
  refine we_str ?_
  refine eq_sh h fun b1 h => ?_
  obtain ⟨h2, h3⟩ := h
  refine ⟨fun e4 => ?_, fun e4 => ?_⟩
  · replace h := h2 e4
    refine ws_cons (w1_ret ?_)
    refine we_call h_one_in hr ?_
    refine wa_d ?_
    refine we_n 0 ?_
    refine ⟨rfl, ?_⟩
    refine wa_d ?_
    refine we_call h_is_name hr ?_
    refine wa_d ?_
    refine we_n 0 ?_
    refine ⟨rfl, ?_⟩
    refine wa_nil ?_
    refine ⟨rfl, _, _, _, rfl, h, fun r5 h => ⟨rfl, _, rfl, ?_⟩, fun c hc => ⟨rfl, ⟨_, hE _ hc, rfl, rfl, rfl⟩⟩⟩
    refine ⟨rfl, ?_⟩
    refine wa_nil ?_
    refine ⟨rfl, _, _, _, _, rfl, h, fun r6 h => ⟨rfl, _, rfl, ?_⟩, fun c hc => ⟨rfl, ⟨_, hE _ hc, rfl, rfl, rfl⟩⟩⟩
    exact ⟨rfl, _, hK _ h, trivial, rfl, rfl, rfl⟩
  · replace h := h3 e4
    refine ws_nil ?_
    refine ws_cons (w1_if ?_)
    refine wt_cp (op_eqA hr) ?_
    refine we_n 1 ?_
    refine we_str ?_
    refine eq_sh h fun b7 h => ?_
    obtain ⟨h8, h9⟩ := h
    refine ⟨fun e10 => ?_, fun e10 => ?_⟩
    · replace h := h8 e10
      refine ws_cons (w1_ret ?_)
      refine we_call h_one_in hr ?_
      refine wa_d ?_
      refine we_n 0 ?_
      refine ⟨rfl, ?_⟩
      refine wa_d ?_
      refine we_inG g_WAYS ?_
      refine we_n 0 ?_
      refine inG_sh h fun b11 h => ?_
      refine ⟨rfl, ?_⟩
      refine wa_nil ?_
      refine ⟨rfl, _, _, _, _, rfl, h, fun r12 h => ⟨rfl, _, rfl, ?_⟩, fun c hc => ⟨rfl, ⟨_, hE _ hc, rfl, rfl, rfl⟩⟩⟩
      exact ⟨rfl, _, hK _ h, trivial, rfl, rfl, rfl⟩
    · replace h := h9 e10
      refine ws_nil ?_
      refine ws_cons (w1_if ?_)
      refine wt_cp (op_eqA hr) ?_
      refine we_n 1 ?_
      refine we_str ?_
      refine eq_sh h fun b13 h => ?_
      obtain ⟨h14, h15⟩ := h
      refine ⟨fun e16 => ?_, fun e16 => ?_⟩
      · replace h := h14 e16
        refine ws_cons (w1_ret ?_)
        refine we_call h_one_in hr ?_
        refine wa_d ?_
        refine we_n 0 ?_
        refine ⟨rfl, ?_⟩
        refine wa_d ?_
        refine we_inG g_COLOURS ?_
        refine we_n 0 ?_
        refine inG_sh h fun b17 h => ?_
        refine ⟨rfl, ?_⟩
        refine wa_nil ?_
        refine ⟨rfl, _, _, _, _, rfl, h, fun r18 h => ⟨rfl, _, rfl, ?_⟩, fun c hc => ⟨rfl, ⟨_, hE _ hc, rfl, rfl, rfl⟩⟩⟩
        exact ⟨rfl, _, hK _ h, trivial, rfl, rfl, rfl⟩
      · replace h := h15 e16
        refine ws_nil ?_
        refine ws_cons (w1_if ?_)
        refine wt_cp (op_eqA hr) ?_
        refine we_n 1 ?_
        refine we_str ?_
        refine eq_sh h fun b19 h => ?_
        obtain ⟨h20, h21⟩ := h
        refine ⟨fun e22 => ?_, fun e22 => ?_⟩
        · replace h := h20 e22
          refine ws_cons (w1_ret ?_)
          refine we_call h_one_in hr ?_
          refine wa_d ?_
          refine we_n 0 ?_
          refine ⟨rfl, ?_⟩
          refine wa_d ?_
          refine we_call h_is_letter hr ?_
          refine wa_d ?_
          refine we_n 0 ?_
          refine ⟨rfl, ?_⟩
          refine wa_nil ?_
          refine ⟨rfl, _, _, _, rfl, h, fun r23 h => ⟨rfl, _, rfl, ?_⟩, fun c hc => ⟨rfl, ⟨_, hE _ hc, rfl, rfl, rfl⟩⟩⟩
          refine ⟨rfl, ?_⟩
          refine wa_nil ?_
          refine ⟨rfl, _, _, _, _, rfl, h, fun r24 h => ⟨rfl, _, rfl, ?_⟩, fun c hc => ⟨rfl, ⟨_, hE _ hc, rfl, rfl, rfl⟩⟩⟩
          exact ⟨rfl, _, hK _ h, trivial, rfl, rfl, rfl⟩
        · replace h := h21 e22
          refine ws_nil ?_
          refine ws_cons (w1_if ?_)
          refine wt_cp (op_eqA hr) ?_
          refine we_n 1 ?_
          refine we_str ?_
          refine eq_sh h fun b25 h => ?_
          obtain ⟨h26, h27⟩ := h
          refine ⟨fun e28 => ?_, fun e28 => ?_⟩
          · replace h := h26 e28
            refine ws_cons (w1_ret ?_)
            refine we_call h_number_in hr ?_
            refine wa_d ?_
            refine we_n 0 ?_
            refine ⟨rfl, ?_⟩
            refine wa_nil ?_
            refine ⟨rfl, _, _, _, rfl, h, fun r29 h => ⟨rfl, _, rfl, ?_⟩, fun c hc => ⟨rfl, ⟨_, hE _ hc, rfl, rfl, rfl⟩⟩⟩
            exact ⟨rfl, _, hK _ h, trivial, rfl, rfl, rfl⟩
          · replace h := h27 e28
            refine ws_nil ?_
            refine ws_cons (w1_ret ?_)
            refine we_call h_plan_in hr ?_
            refine wa_d ?_
            refine we_n 0 ?_
            refine ⟨rfl, ?_⟩
            refine wa_nil ?_
            refine ⟨rfl, _, _, _, rfl, h, fun r30 h => ⟨rfl, _, rfl, ?_⟩, fun c hc => ⟨rfl, ⟨_, hE _ hc, rfl, rfl, rfl⟩⟩⟩
            exact ⟨rfl, _, hK _ h, trivial, rfl, rfl, rfl⟩
theorem ok_deed_in (F : FnP K "deed_in" s_deed_in f fd) (hm : mg "deed_in" = some (.ref f)) (hb : Binds K fd ["text"] []) (gd_FORMS : GDct K w mg "FORMS" [("fold", .str "np"), ("drop", .str "n"), ("pinch", .str "nw"), ("unpinch", .str "nw"), ("over", .str "n"), ("about", .str "n"), ("paint", .str "nsc"), ("mark", .str "nsl"), ("wash", .str "ns"), ("unfold", .str "n"), ("refold", .str "np")]) (m_len : mg "len" = none) (m_zip : mg "zip" = none) (h_thing_in : Has P w K mg base k "thing_in" ["word", "sign"] c_thing_in) (m_tuple : mg "tuple" = none) :
    Has P w K mg base (k + 1) "deed_in" ["text"] c_deed_in := by
  refine fn_has F hm sc_deed_in hb rfl ?_
  rintro cdv A outer s H E g args Φ Ψ hr hp hM hl ⟨text, Kf, Ef, rfl, h, hK, hE⟩
  unfold f_deed_in at h
  refine ws_env (env' := [.d text, .un, .un, .un, .un]) rfl ?_
  refine ws_cons (w1_set 1 sc_deed_in.nd ?_)
  refine we_of_wn ?_
  refine wn_split ?_
  refine we_n 0 ?_
  obtain ⟨s1, he2, h⟩ := strO_ob h
  refine ⟨_, he2, ?_⟩
  refine we_str ?_
  refine split_m h fun l3 h => ?_
  refine ⟨rfl, ?_⟩
  refine ws_env (env' := [.d text, .d (.list l3), .un, .un, .un]) rfl ?_
  refine ws_cons (w1_if ?_)
  refine wt_ww ?_
  refine ww_orS h (fun Q h => ?_) (fun Q h => ?_) fun b4 h => ?_
  · refine wt_notInGD gd_FORMS ?_
    refine we_ix ?_
    refine we_n 1 ?_
    refine we_int ?_
    refine ix_sh h fun r5 h => ?_
    refine inDct_m h fun b6 h => ?_
    exact h
  · refine ww_or1 ?_
    refine wt_cp (op_neA hr) ?_
    refine we_len m_len ?_
    refine we_n 1 ?_
    refine len_sh h fun r7 h => ?_
    refine we_add ?_
    refine we_len m_len ?_
    refine we_ixGD gd_FORMS ?_
    refine we_ix ?_
    refine we_n 1 ?_
    refine we_int ?_
    refine ix_sh h fun r8 h => ?_
    refine dct_m h fun r9 h => ?_
    refine len_sh h fun r10 h => ?_
    refine we_int ?_
    refine add_sh h fun r11 h => ?_
    refine ne_sh h fun b12 h => ?_
    exact h
  obtain ⟨h13, h14⟩ := h
  refine ⟨fun e15 => ?_, fun e15 => ?_⟩
  · replace h := h13 e15
    refine ws_cons (w1_ret ?_)
    refine we_none ?_
    exact ⟨rfl, _, hK _ h, trivial, rfl, rfl⟩
  · replace h := h14 e15
    refine ws_nil ?_
    refine ws_cons (w1_setLc 2 (own := [("word", 3), ("sign", 4)]) rfl sc_deed_in.nd piS (blkOk_by (by rfl)) (fun _ _ _ _ _ => (pg_tup rfl (pgs_cons (pg_name (i := 3) sc_deed_in.nd rfl (by first | exact Or.inl rfl | exact Or.inr rfl)) (pgs_cons (pg_name (i := 4) sc_deed_in.nd rfl (by first | exact Or.inl rfl | exact Or.inr rfl)) pgs_nil)))) (by decide) (nt_lc (tgd_tup (tgds_cons (tgd_name 3) (tgds_cons (tgd_name 4) tgds_nil)) rfl) rfl ?_))
    refine wi_zip m_zip ?_
    refine we_slA ?_
    refine we_n 1 ?_
    refine ⟨rfl, ?_⟩
    refine wp_e ?_
    refine we_int ?_
    refine ⟨_, rfl, ?_⟩
    refine wp_none ?_
    refine sl_sh h fun r17 h => ?_
    refine ⟨rfl, ?_⟩
    refine we_ixGD gd_FORMS ?_
    refine we_ix ?_
    refine we_n 1 ?_
    refine we_int ?_
    refine ix_sh h fun r18 h => ?_
    refine dct_m h fun r19 h => ?_
    refine ⟨rfl, zip_m h fun xs16 h => ?_⟩
    refine lcS h (fun p20 kp sk h => ?_) fun l21 h => ?_
    · obtain ⟨word22, sign23, he24, h⟩ := un2_sh h
      refine ⟨[(3, word22), (4, sign23)], (by rw [he24]; rfl), rfl, fun g' s1 H1 C1 cl1 fp1 => ?_⟩
      refine ⟨fun _ s1 H1 C1 cl1 fp1 => ?_, fun z => by cases z⟩
      refine we_call h_thing_in hr ?_
      refine wa_d ?_
      refine we_n 3 ?_
      refine ⟨rfl, ?_⟩
      refine wa_d ?_
      refine we_n 4 ?_
      refine ⟨rfl, ?_⟩
      refine wa_nil ?_
      refine ⟨rfl, _, _, _, _, rfl, h, fun r25 h => ⟨rfl, _, rfl, ?_⟩, fun c hc => ⟨rfl, hc.elim⟩⟩
      exact ⟨rfl, h⟩
    refine ws_env (env' := [.d text, .d (.list l3), .d (.list l21), .un, .un]) rfl ?_
    refine ws_cons (w1_if ?_)
    refine wt_cp (op_inA hr) ?_
    refine we_none ?_
    refine we_n 2 ?_
    refine in_sh h fun b26 h => ?_
    obtain ⟨h27, h28⟩ := h
    refine ⟨fun e29 => ?_, fun e29 => ?_⟩
    · replace h := h27 e29
      refine ws_cons (w1_ret ?_)
      refine we_none ?_
      exact ⟨rfl, _, hK _ h, trivial, rfl, rfl⟩
    · replace h := h28 e29
      refine ws_nil ?_
      refine ws_cons (w1_ret ?_)
      refine we_tupof m_tuple ?_
      refine we_add ?_
      refine we_list ?_
      refine wa_d ?_
      refine we_ix ?_
      refine we_n 1 ?_
      refine we_int ?_
      refine ix_sh h fun r30 h => ?_
      refine ⟨rfl, ?_⟩
      refine wa_nil ?_
      refine ⟨_, rfl, szOk rfl, ?_⟩
      refine we_n 2 ?_
      refine add_sh h fun r31 h => ?_
      refine tup_sh h fun r32 h => ?_
      exact ⟨rfl, _, hK _ h, trivial, rfl, rfl⟩
theorem ok_read_deed (F : FnP K "read_deed" s_read_deed f fd) (hm : mg "read_deed" = some (.ref f)) (hb : Binds K fd ["text"] []) (h_deed_in : Has P w K mg base k "deed_in" ["text"] c_deed_in) (h_BadText__init : XHas P w K mg base k "BadText" ["at"]) :
    Has P w K mg base (k + 2) "read_deed" ["text"] c_read_deed := by
  refine fn_has F hm sc_read_deed hb rfl ?_
  rintro cdv A outer s H E g args Φ Ψ hr hp hM hl ⟨text, Kf, Ef, rfl, h, hK, hE⟩
  unfold f_read_deed at h
  refine ws_env (env' := [.d text, .un]) rfl ?_
  refine ws_cons (w1_set 1 sc_read_deed.nd ?_)
  refine we_call h_deed_in hr ?_
  refine wa_d ?_
  refine we_n 0 ?_
  refine ⟨rfl, ?_⟩
  refine wa_nil ?_
  refine ⟨rfl, _, _, _, rfl, h, fun r1 h => ⟨rfl, _, rfl, ?_⟩, fun c hc => ⟨rfl, ⟨_, hE _ hc, rfl, rfl⟩⟩⟩
  refine ⟨rfl, ?_⟩
  refine ws_env (env' := [.d text, .d r1]) rfl ?_
  refine ws_cons (w1_if ?_)
  refine wt_cp op_isN ?_
  refine we_n 1 ?_
  refine we_none ?_
  refine isN_sh ?_
  obtain ⟨h2, h3⟩ := h
  refine ⟨fun e4 => ?_, fun e4 => ?_⟩
  · replace h := h2 e4
    refine ws_cons (w1_raiseX rfl h_BadText__init hr ?_ (fun _ _ => xz1))
    refine wa_d ?_
    refine we_int ?_
    refine ⟨rfl, ?_⟩
    refine wa_nil ?_
    obtain ⟨hf5, h⟩ := fx1 h
    exact ⟨_, rfl, rfl, hf5, ⟨_, hE _ h, rfl, rfl⟩⟩
  · replace h := h3 e4
    refine ws_nil ?_
    refine ws_cons (w1_ret ?_)
    refine we_n 1 ?_
    exact ⟨rfl, _, hK _ h, trivial, rfl, rfl⟩
theorem ok__law_told_text (F : FnP K "_law_told_text" s__law_told_text f fd) (hm : mg "_law_told_text" = some (.ref f)) (hb : Binds K fd ["_law_text"] []) (h_read_deed : Has P w K mg base k "read_deed" ["text"] c_read_deed) (ef_BadText : ExF K "BadText" ["at"]) (xg_BadText : mg "BadText" = some (.ref (He.ga K "BadText"))) (xm_BadText : ∀ m ∈ (["BadText"] : List Str), ExM K (.own m) "BadText" = some (isE m "BadText")) :
    Has P w K mg base (k + 1) "_law_told_text" ["_law_text"] c__law_told_text := by
  refine fn_has F hm sc__law_told_text hb rfl ?_
  rintro cdv A outer s H E g args Φ Ψ hr hp hM hl ⟨l_text, Kf, Ef, rfl, h, hK, hE⟩
  unfold f__law_told_text at h
  refine ws_env (env' := [.d l_text, .un, .un]) rfl ?_
  refine ws_joinS h (fun (s : PyData) (u : Unit) => [.d l_text, .d s, .un]) (fun Q h => ?_) ?_
  · refine w1_tryX 2 1 h sc__law_told_text.nd ⟨rfl, rfl, Or.inl xg_BadText⟩ xm_BadText ef_BadText (fun _ fs4 h => xf1_keys h) (fun fs4 h => ?_) (fun c hc => ⟨_, hE _ hc, rfl, rfl⟩) (fun h pn1 xe2 F3 hp => ?_)
    · replace h := xf1_elim h
      obtain ⟨d5, rfl, h⟩ := h
      exact ⟨_, .tup (.cons (.str) (.cons (.fld rfl) .nil)) (szOk rfl), (.tuple [.str "BadText", d5]), (), h, rfl⟩
    · refine ws_cons (w1_set 1 sc__law_told_text.nd ?_)
      refine we_call h_read_deed hr ?_
      refine wa_d ?_
      refine we_n 0 ?_
      refine ⟨rfl, ?_⟩
      refine wa_nil ?_
      refine ⟨rfl, _, _, _, rfl, h, fun r7 h => ⟨rfl, _, rfl, ?_⟩, fun c hc => ⟨rfl, ⟨hc, rfl⟩⟩⟩
      refine ⟨rfl, ?_⟩
      refine ws_env (env' := [.d l_text, .d r7, .un]) rfl ?_
      exact ws_nil ⟨r7, (), h, rfl⟩
  · rintro l_found8 _ h
    refine ws_env (env' := [.d l_text, .d l_found8, .un]) rfl ?_
    refine ws_cons (w1_ret ?_)
    refine we_n 1 ?_
    exact ⟨rfl, _, hK _ h, trivial, rfl, rfl⟩
theorem ok_o__law_pull (F : FnP K "_law_pull" s__law_pull f fd) (hm : mg "_law_pull" = some (.ref f)) (hb : Binds K fd ["_law_bag_here", "_law_many"] []) (m_len : mg "len" = none) :
    Has P w K mg base (k + 1) "_law_pull" ["_law_bag_here", "_law_many"] o__law_pull := by
  refine fn_has F hm sc__law_pull hb rfl ?_
  rintro cdv A outer s H E g args Φ Ψ hr hp hM hl ⟨b, many, rfl, m0, m1, hΦ⟩
  have hd : ∀ i, CDivW i many := fun i => wide_div m0 m1 (by decide) (by decide)
  refine ws_open 0 rfl fun cells i z t hc i0 z0 t0 t1 => ?_
  have bag : ∀ z' : Int, 0 ≤ z' → BagD [.list (cells.map .int), .int (i + 1), .int z', .int t] := fun z' h => ⟨cells, i + 1, z', t, rfl, hc, by omega, h, t0, t1⟩
  refine ws_cons (w1_if ?_)
  refine wt_cp (op_ltA hr) ?_
  refine we_ix ?_
  refine we_nl 0 ?_
  refine we_int ?_
  refine ix_lst (by decide) rfl ?_
  refine we_int ?_
  refine ⟨_, cp_lt, ?_⟩
  refine ⟨fun b1 => ?_, fun b1 => ?_⟩
  · -- then
    refine ws_cons (w1_augix 0 rfl ?_)
    refine we_int ?_
    refine ⟨1, 1, _, rfl, rfl, rfl, ?_⟩
    refine we_int ?_
    refine ⟨_, rfl, ?_⟩
    refine ws_cons (w1_set 2 sc__law_pull.nd ?_)
    refine we_ix ?_
    refine we_nl 0 ?_
    refine we_int ?_
    refine ix_lst (by decide) rfl ?_
    refine ⟨rfl, ?_⟩
    refine ws_mid (fun e => ∃ y : Int, 0 ≤ y ∧ e = [.ol b [.list (cells.map .int), .int (i + 1), .int z, .int t], .d (.int many), .d (.int y), .un, .un]) (w1_if ?_) ?_
    · refine wt_cp op_le ?_
      refine we_ix ?_
      refine we_nl 0 ?_
      refine we_int ?_
      refine ix_lst (by decide) rfl ?_
      refine we_len m_len ?_
      refine we_ix ?_
      refine we_nl 0 ?_
      refine we_int ?_
      refine ix_lst (by decide) rfl ?_
      refine .lst ?_
      refine ⟨_, cp_le, ?_⟩
      refine ⟨fun b2 => ?_, fun b2 => ?_⟩
      · -- then
        have b2 := of_decide_eq_true b2
        rw [List.length_map] at b2
        refine ws_cons (w1_set 2 sc__law_pull.nd ?_)
        refine we_ix ?_
        refine we_ix ?_
        refine we_nl 0 ?_
        refine we_int ?_
        refine ix_lst (by decide) rfl ?_
        refine we_sub ?_
        refine we_ix ?_
        refine we_nl 0 ?_
        refine we_int ?_
        refine ix_lst (by decide) rfl ?_
        refine we_int ?_
        refine ⟨?_, trivial⟩
        refine ix_ints (by omega) (by omega) fun n hn => ?_
        have n0 := hc n hn
        refine ⟨rfl, ?_⟩
        refine ws_cons (w1_if ?_)
        refine wt_cp op_ge ?_
        refine we_n 2 ?_
        refine we_pow ?_
        refine we_int ?_
        refine we_int ?_
        refine ⟨?_, by unfold L2.CPow; decide⟩
        refine ⟨_, cp_ge, ?_⟩
        refine ⟨fun b3 => ?_, fun b3 => ?_⟩
        · -- then
          refine ws_cons (w1_setix 0 rfl ?_)
          refine we_div ?_
          refine we_n 2 ?_
          refine we_n 1 ?_
          refine ⟨?_, hd _⟩
          refine ⟨rfl, ?_⟩
          refine we_int ?_
          refine ⟨2, 2, rfl, rfl, ?_⟩
          refine ws_cons (w1_ret ?_)
          refine we_mod ?_
          refine we_n 2 ?_
          refine we_n 1 ?_
          refine ⟨?_, m0⟩
          refine ⟨rfl, ?_⟩
          exact ⟨_, hΦ _ (Int.emod_nonneg _ (by omega)) (Int.emod_lt_of_pos _ m0), trivial, ⟨rfl, bag _ (Int.ediv_nonneg n0 (by omega)), rfl⟩, rfl, rfl⟩
        · -- else
          refine ws_nil (ws_nil ?_)
          exact ⟨n, n0, rfl⟩
      · -- else
        refine ws_nil ?_
        exact ⟨i + 1, by omega, rfl⟩
    rintro _ ⟨y, y0, rfl⟩
    refine ws_cons (w1_set 3 sc__law_pull.nd ?_)
    refine we_mod ?_
    refine we_add ?_
    refine we_add ?_
    refine we_n 2 ?_
    refine we_mul ?_
    refine we_ix ?_
    refine we_nl 0 ?_
    refine we_int ?_
    refine ix_lst (by decide) rfl ?_
    refine we_int ?_
    refine ⟨?_, by unfold L2.CMul; omega⟩
    refine .int ?_
    refine we_mul ?_
    refine we_ix ?_
    refine we_nl 0 ?_
    refine we_int ?_
    refine ix_lst (by decide) rfl ?_
    refine we_int ?_
    refine ⟨?_, by unfold L2.CMul; omega⟩
    refine .int ?_
    refine we_int ?_
    refine ⟨?_, by decide⟩
    refine ⟨rfl, ?_⟩
    generalize (y + t * 31 + (i + 1) * 69061) = y1
    refine ws_cons (w1_set 3 sc__law_pull.nd ?_)
    refine we_mod ?_
    refine we_add ?_
    refine we_mul ?_
    refine we_n 3 ?_
    refine we_n 3 ?_
    have y2 := Int.emod_nonneg y1 (b := 2147483629) (by decide)
    have y3 := Int.emod_lt_of_pos y1 (b := 2147483629) (by decide)
    refine ⟨?_, by unfold L2.CMul; omega⟩
    refine we_int ?_
    refine .int ?_
    refine we_int ?_
    refine ⟨?_, by decide⟩
    refine ⟨rfl, ?_⟩
    generalize (y1 % 2147483629 * (y1 % 2147483629) + 40961) = y4
    refine ws_cons (w1_ret ?_)
    refine we_mod ?_
    refine we_div ?_
    refine we_mod ?_
    refine we_add ?_
    refine we_mul ?_
    refine we_n 3 ?_
    refine we_n 3 ?_
    have y5 := Int.emod_nonneg y4 (b := 2147483587) (by decide)
    have y6 := Int.emod_lt_of_pos y4 (b := 2147483587) (by decide)
    refine ⟨?_, by unfold L2.CMul; omega⟩
    refine we_ix ?_
    refine we_nl 0 ?_
    refine we_int ?_
    refine ix_lst (by decide) rfl ?_
    refine .int ?_
    refine we_int ?_
    refine ⟨?_, by decide⟩
    refine we_int ?_
    refine ⟨?_, cdiv_small _ (by decide) (by decide)⟩
    refine we_n 1 ?_
    refine ⟨?_, m0⟩
    refine ⟨rfl, ?_⟩
    exact ⟨_, hΦ _ (Int.emod_nonneg _ (by omega)) (Int.emod_lt_of_pos _ m0), trivial, ⟨rfl, bag z z0, rfl⟩, rfl, rfl⟩
  · -- else
    refine ws_nil ?_
    refine ws_cons (w1_set 4 sc__law_pull.nd ?_)
    refine we_mod ?_
    refine we_ix ?_
    refine we_nl 0 ?_
    refine we_int ?_
    refine ix_lst (by decide) rfl ?_
    refine we_n 1 ?_
    refine ⟨?_, m0⟩
    refine ⟨rfl, ?_⟩
    refine ws_cons (w1_setix 0 rfl ?_)
    refine we_div ?_
    refine we_ix ?_
    refine we_nl 0 ?_
    refine we_int ?_
    refine ix_lst (by decide) rfl ?_
    refine we_n 1 ?_
    refine ⟨?_, hd _⟩
    refine ⟨rfl, ?_⟩
    refine we_int ?_
    refine ⟨2, 2, rfl, rfl, ?_⟩
    refine ws_cons (w1_ret ?_)
    refine we_n 4 ?_
    refine ⟨rfl, ?_⟩
    exact ⟨_, hΦ _ (Int.emod_nonneg _ (by omega)) (Int.emod_lt_of_pos _ m0), trivial, ⟨rfl, ⟨cells, i, z / many, t, rfl, hc, i0, Int.ediv_nonneg z0 (by omega), t0, t1⟩, rfl⟩, rfl, rfl⟩
theorem ok__law_pull (h : Has P w K mg base k "_law_pull" ["_law_bag_here", "_law_many"] o__law_pull) : Has P w K mg base k "_law_pull" ["_law_bag_here", "_law_many"] c__law_pull := h.imp fun args Φ Ψ ⟨b, m, Kf, Ef, e, hf, h1, h2⟩ => by
  subst e
  cases m with
  | int m => exact ⟨b, m, rfl, hf.1.1, hf.1.2, fun r r0 r1 => h1 _ (hf.2 r r0 r1)⟩
  | _ => exact (show False from hf).elim
theorem ok_o__law_cut_arc (F : FnP K "_law_cut_arc" s__law_cut_arc f fd) (hm : mg "_law_cut_arc" = some (.ref f)) (hb : Binds K fd ["_law_bag_here", "_law_start", "_law_end", "_law_found"] []) (ho__law_pull : Has P w K mg base 1 "_law_pull" ["_law_bag_here", "_law_many"] o__law_pull) (k0 : Nat) :
    ∀ N : Nat, Has P w K mg base (k0 + N + 2) "_law_cut_arc" ["_law_bag_here", "_law_start", "_law_end", "_law_found"] (o__law_cut_arc N)
  | 0 => by
    refine fn_has F hm sc__law_cut_arc hb rfl ?_
    rintro cdv A outer s H E g args Φ Ψ hr hp hM hl ⟨b, st, en, fa, ds, rfl, h1, h2, _⟩
    omega
  | N + 1 => by
    have ih := ok_o__law_cut_arc F hm hb ho__law_pull k0 N
    refine fn_has F hm sc__law_cut_arc hb rfl ?_
    rintro cdv A outer s H E g args Φ Ψ hr hp hM hl ⟨b, st, en, fa, ds, rfl, h1, h2, h3, hΦ⟩
    have hsl := sizeLine_eq
    refine ws_cons (w1_if ?_)
    refine wt_cp op_gt ?_
    refine we_sub ?_
    refine we_n 2 ?_
    refine we_n 1 ?_
    refine ⟨?_, trivial⟩
    refine we_int ?_
    refine ⟨_, cp_gt, ?_⟩
    refine ⟨fun b1 => ?_, fun b1 => ?_⟩
    · -- then
      have b1 := of_decide_eq_true b1
      refine ws_cons (w1_set 4 sc__law_cut_arc.nd ?_)
      refine we_sub ?_
      refine we_sub ?_
      refine we_n 2 ?_
      refine we_n 1 ?_
      refine ⟨?_, trivial⟩
      refine we_int ?_
      refine ⟨?_, trivial⟩
      refine ⟨rfl, ?_⟩
      refine ws_cons (w1_set 5 sc__law_cut_arc.nd ?_)
      refine we_call ho__law_pull hr ?_
      refine wa_s 0 ?_
      refine wa_d ?_
      refine we_int ?_
      refine ⟨rfl, ?_⟩
      refine wa_nil ?_
      refine ⟨rfl, b, _, rfl, by decide, nb (by decide), fun wy y0 y1 => ⟨rfl, _, rfl, ?_⟩⟩
      refine ⟨rfl, ?_⟩
      refine ws_cons (w1_set 6 sc__law_cut_arc.nd ?_)
      refine we_add ?_
      refine we_add ?_
      refine we_n 1 ?_
      refine we_int ?_
      refine .int ?_
      refine we_ix ?_
      refine we_list ?_
      refine wa_d ?_
      refine we_call ho__law_pull hr ?_
      refine wa_s 0 ?_
      refine wa_d ?_
      refine we_n 4 ?_
      refine ⟨rfl, ?_⟩
      refine wa_nil ?_
      have hw : (en - st - 1).natAbs < 2 ^ 120 := by omega
      refine ⟨rfl, b, _, rfl, by omega, nb hw, fun r r0 r1 => ⟨rfl, _, rfl, ?_⟩⟩
      refine ⟨rfl, ?_⟩
      refine wa_d ?_
      refine we_int ?_
      refine ⟨rfl, ?_⟩
      refine wa_d ?_
      refine we_sub ?_
      refine we_n 4 ?_
      refine we_int ?_
      refine ⟨?_, trivial⟩
      refine ⟨rfl, ?_⟩
      refine wa_d ?_
      refine we_div ?_
      refine we_n 4 ?_
      refine we_int ?_
      refine ⟨?_, cdiv_small _ (by decide) (by decide)⟩
      refine ⟨rfl, ?_⟩
      refine wa_d ?_
      refine we_call ho__law_pull hr ?_
      refine wa_s 0 ?_
      refine wa_d ?_
      refine we_n 4 ?_
      refine ⟨rfl, ?_⟩
      refine wa_nil ?_
      refine ⟨rfl, b, _, rfl, by omega, nb hw, fun r' r0' r1' => ⟨rfl, _, rfl, ?_⟩⟩
      refine ⟨rfl, ?_⟩
      refine wa_nil ?_
      refine ⟨_, rfl, szOk rfl, ?_⟩
      refine we_n 5 ?_
      refine ix_mem 5 y0 (by omega) fun x hx => ?_
      obtain ⟨v, rfl, v0, v1⟩ : ∃ v : Int, x = .int v ∧ 0 ≤ v ∧ v < en - st - 1 := by
        simp at hx
        rcases hx with rfl | rfl | rfl | rfl | rfl
        · exact ⟨_, rfl, r0, r1⟩
        · exact ⟨_, rfl, by omega, by omega⟩
        · exact ⟨_, rfl, by omega, by omega⟩
        · exact ⟨_, rfl, by omega, by omega⟩
        · exact ⟨_, rfl, r0', r1'⟩
      refine .int ?_
      refine ⟨rfl, ?_⟩
      obtain ⟨m, hm1⟩ : ∃ m : Int, st + 1 + v = m := ⟨_, rfl⟩
      rw [hm1]
      have m1 : st < m := by omega
      have m2 : m < en := by omega
      refine ws_cons (w1_append 3 rfl ?_)
      refine we_tuple ?_
      refine wa_d ?_
      refine we_n 1 ?_
      refine ⟨rfl, ?_⟩
      refine wa_d ?_
      refine we_n 6 ?_
      refine ⟨rfl, ?_⟩
      refine wa_nil ?_
      refine ⟨_, rfl, szOk rfl, ?_⟩
      refine ⟨rfl, by omega, ?_⟩
      refine ws_cons (w1_append 3 rfl ?_)
      refine we_tuple ?_
      refine wa_d ?_
      refine we_n 6 ?_
      refine ⟨rfl, ?_⟩
      refine wa_d ?_
      refine we_n 2 ?_
      refine ⟨rfl, ?_⟩
      refine wa_nil ?_
      refine ⟨_, rfl, szOk rfl, ?_⟩
      refine ⟨rfl, by simp; omega, ?_⟩
      refine ws_cons (w1_callM ih hr ?_)
      refine wa_s 0 ?_
      refine wa_d ?_
      refine we_n 1 ?_
      refine ⟨rfl, ?_⟩
      refine wa_d ?_
      refine we_n 6 ?_
      refine ⟨rfl, ?_⟩
      refine wa_s 3 ?_
      refine wa_nil ?_
      refine ⟨rfl, b, st, m, fa, _, rfl, m1, by omega, by simp; omega, fun la ha => ⟨rfl, ?_⟩⟩
      have hla := ha.len m1
      refine ws_cons (w1_callM ih hr ?_)
      refine wa_s 0 ?_
      refine wa_d ?_
      refine we_n 6 ?_
      refine ⟨rfl, ?_⟩
      refine wa_d ?_
      refine we_n 2 ?_
      refine ⟨rfl, ?_⟩
      refine wa_s 3 ?_
      refine wa_nil ?_
      refine ⟨rfl, b, m, en, fa, _, rfl, m2, by omega, by simp; omega, fun lb hb2 => ⟨rfl, ?_⟩⟩
      refine ws_nil ?_
      refine ws_cons (w1_retA 3 rfl (by intro z; cases z) ?_)
      have hq := hΦ _ (Arcs.node m1 m2 ha hb2)
      refine ⟨_, hq, ⟨ltB rfl, fun s' h => by cases h; intro z; cases z⟩, ⟨rfl, rfl⟩, rfl, rfl, ⟨rfl, ?_⟩, rfl⟩
      simp [ppD]
    · -- else
      have b1 := of_decide_eq_false b1
      refine ws_nil ?_
      refine ws_cons (w1_retA 3 rfl (by intro z; cases z) ?_)
      have hq := hΦ _ (Arcs.leaf (by omega))
      refine ⟨_, hq, ⟨ltB rfl, fun s' h => by cases h; intro z; cases z⟩, ⟨rfl, rfl⟩, rfl, rfl, ⟨rfl, ?_⟩, rfl⟩
      simp
theorem ok__law_pair (F : FnP K "_law_pair" s__law_pair f fd) (hm : mg "_law_pair" = some (.ref f)) (hb : Binds K fd ["_law_one", "_law_other"] []) (m_min : mg "min" = none) (m_max : mg "max" = none) :
    Has P w K mg base (k + 1) "_law_pair" ["_law_one", "_law_other"] c__law_pair := by
  refine fn_has F hm sc__law_pair hb rfl ?_
  rintro cdv A outer s H E g args Φ Ψ hr hp hM hl ⟨l_one, l_other, Kf, Ef, rfl, h, hK, hE⟩
  unfold f__law_pair at h
  refine ws_env (env' := [.d l_one, .d l_other]) rfl ?_
  refine ws_cons (w1_ret ?_)
  refine we_tuple ?_
  refine wa_d ?_
  refine we_min2A m_min rfl ?_
  refine we_n 0 ?_
  refine we_n 1 ?_
  refine min2_m h fun r1 h => ?_
  refine ⟨rfl, ?_⟩
  refine wa_d ?_
  refine we_max2A m_max rfl ?_
  refine we_n 0 ?_
  refine we_n 1 ?_
  refine max2_m h fun r2 h => ?_
  refine ⟨rfl, ?_⟩
  refine wa_nil ?_
  refine ⟨_, rfl, szOk rfl, ?_⟩
  exact ⟨rfl, _, hK _ h, trivial, rfl, rfl, rfl⟩
theorem ok_o__law_pair (F : FnP K "_law_pair" s__law_pair f fd) (hm : mg "_law_pair" = some (.ref f)) (hb : Binds K fd ["_law_one", "_law_other"] []) (m_min : mg "min" = none) (m_max : mg "max" = none) :
    Has P w K mg base (k + 1) "_law_pair" ["_law_one", "_law_other"] o__law_pair := by
  refine fn_has F hm sc__law_pair hb rfl ?_
  rintro cdv A outer s H E g args Φ Ψ hr hp hM hl ⟨i, j, rfl, hΦ⟩
  refine ws_cons (w1_ret ?_)
  refine we_tuple ?_
  refine wa_d ?_
  refine we_min2 m_min rfl ?_
  refine we_n 0 ?_
  refine we_n 1 ?_
  refine ⟨i, j, rfl, rfl, rfl, ?_⟩
  refine wa_d ?_
  refine we_max2 m_max rfl ?_
  refine we_n 0 ?_
  refine we_n 1 ?_
  refine ⟨i, j, rfl, rfl, rfl, ?_⟩
  refine wa_nil ?_
  refine ⟨_, rfl, szOk rfl, rfl, ?_⟩
  exact ⟨_, hΦ, trivial, rfl, rfl, rfl⟩
theorem ok_o__law_drawn_plan (F : FnP K "_law_drawn_plan" s__law_drawn_plan f fd) (hm : mg "_law_drawn_plan" = some (.ref f)) (hb : Binds K fd ["_law_bag_here", "_law_faces"] []) (m_tuple : mg "tuple" = none) (ho__law_cut_arc : Has P w K mg base k "_law_cut_arc" ["_law_bag_here", "_law_start", "_law_end", "_law_found"] (o__law_cut_arc 64)) (m_sorted : mg "sorted" = none) (ho__law_pair : Has P w K mg base k "_law_pair" ["_law_one", "_law_other"] o__law_pair) :
    Has P w K mg base (k + 1) "_law_drawn_plan" ["_law_bag_here", "_law_faces"] o__law_drawn_plan := by
  refine fn_has F hm sc__law_drawn_plan hb rfl ?_
  rintro cdv A outer s H E g args Φ Ψ hr hp hM hl ⟨b, n, rfl, n3, n40, hΦ⟩
  refine ws_cons (w1_setLc 2 (own := [("_law_low", 3), ("_law_high", 4)]) rfl sc__law_drawn_plan.nd (pi_list (peI _)) (blkOk_by (by rfl)) (fun _ _ _ _ _ => (pg_tup rfl (pgs_cons (pg_name (i := 3) sc__law_drawn_plan.nd rfl (by first | exact Or.inl rfl | exact Or.inr rfl)) (pgs_cons (pg_name (i := 4) sc__law_drawn_plan.nd rfl (by first | exact Or.inl rfl | exact Or.inr rfl)) pgs_nil)))) (by decide) (nt_lcL (tgd_tup (tgds_cons (tgd_name 3) (tgds_cons (tgd_name 4) tgds_nil)) rfl) rfl ?_))
  refine we_of_wn ?_
  refine wn_callN ho__law_cut_arc hr ?_
  refine wan_s 0 ?_
  refine wan_d ?_
  refine we_int ?_
  refine ⟨rfl, ?_⟩
  refine wan_d ?_
  refine we_n 1 ?_
  refine ⟨rfl, ?_⟩
  refine wan_l ?_
  refine ⟨rfl, by decide, fun q => ⟨b, 1, n, q, [], rfl, by omega, by omega, by simp; omega, fun l hl => ⟨_, rfl, rfl, ?_⟩⟩⟩
  rw [List.nil_append]
  refine ⟨rfl, _, fun i acc => acc = ((l.take i).filter wide).map ppD, rfl, rfl, fun i x hx => ?_, fun acc ha => ?_⟩
  · obtain ⟨p, hp1, rfl⟩ := map_get hx
    refine ⟨_, rfl, rfl, ?_⟩
    intro acc ha g1 s1 H1 C1 cl1 fp1
    subst ha
    show WT _ _ _ _ _ _
    refine wt_cp op_gt ?_
    refine we_sub ?_
    refine we_n 4 ?_
    refine we_n 3 ?_
    refine ⟨?_, trivial⟩
    refine we_int ?_
    refine ⟨_, cp_gt, ?_⟩
    refine ⟨fun b s1 H1 C1 cl1 fp1 => ?_, fun b => tkf_f ppD hp1 b⟩
    refine we_tuple ?_
    refine wa_d ?_
    refine we_n 3 ?_
    refine ⟨rfl, ?_⟩
    refine wa_d ?_
    refine we_n 4 ?_
    refine ⟨rfl, ?_⟩
    refine wa_nil ?_
    refine ⟨_, rfl, szOk rfl, ?_⟩
    exact ⟨rfl, tkf_t ppD hp1 b⟩
  · subst ha
    rw [List.length_map, List.take_length]
    obtain ⟨ws, hws⟩ : ∃ ws, l.filter wide = ws := ⟨_, rfl⟩
    rw [hws]
    refine ws_cons (w1_ret ?_)
    refine we_tuple ?_
    refine wa_d ?_
    refine we_n 1 ?_
    refine ⟨rfl, ?_⟩
    refine wa_d ?_
    refine we_tupof m_tuple ?_
    refine we_of_wn ?_
    refine wn_sorted m_sorted hr ?_
    refine we_of_wn ?_
    refine wn_lcL (own := [("_law_low", 3), ("_law_high", 4)]) rfl sc__law_drawn_plan.nd (blkOk_by (by rfl)) (fun _ _ _ _ _ => (pg_tup rfl (pgs_cons (pg_name (i := 3) sc__law_drawn_plan.nd rfl (by first | exact Or.inl rfl | exact Or.inr rfl)) (pgs_cons (pg_name (i := 4) sc__law_drawn_plan.nd rfl (by first | exact Or.inl rfl | exact Or.inr rfl)) pgs_nil)))) (tgd_tup (tgds_cons (tgd_name 3) (tgds_cons (tgd_name 4) tgds_nil)) rfl) (by decide) rfl ?_
    refine we_n 2 ?_
    refine ⟨rfl, _, fun i acc => acc = (ws.take i).map fun p => ppD (nrm n p), rfl, rfl, fun i x hx => ?_, fun acc ha => ?_⟩
    · obtain ⟨p, hp1, rfl⟩ := map_get hx
      refine ⟨_, rfl, rfl, ?_⟩
      intro acc ha g1 s1 H1 C1 cl1 fp1
      refine ⟨fun _ s1 H1 C1 cl1 fp1 => ?_, fun z => by cases z⟩
      refine we_call ho__law_pair hr ?_
      refine wa_d ?_
      refine we_n 3 ?_
      refine ⟨rfl, ?_⟩
      refine wa_d ?_
      refine we_mod ?_
      refine we_n 4 ?_
      refine we_n 1 ?_
      refine ⟨?_, by omega⟩
      refine ⟨rfl, ?_⟩
      refine wa_nil ?_
      refine ⟨rfl, p.1, p.2 % n, rfl, rfl, _, rfl, ?_⟩
      refine ⟨rfl, ?_⟩
      subst ha
      exact tk_succ (fun p => ppD (nrm n p)) hp1
    · subst ha
      rw [List.length_map, List.take_length]
      have em : (ws.map fun p => ppD (nrm n p)) = (ws.map (nrm n)).map ppD := by simp
      rw [em]
      refine ⟨_, rfl, pairs_alike _, pairs_sortable _, pairs_depth _, ?_⟩
      refine .lst ?_
      refine ⟨rfl, ?_⟩
      refine wa_nil ?_
      refine ⟨_, rfl, szOk rfl, ?_⟩
      rw [srt_pp]
      have hq := hΦ l hl
      unfold planOf at hq
      rw [hws] at hq
      exact ⟨rfl, _, hq, trivial, ⟨rfl, rfl⟩, rfl, rfl⟩
theorem ok__law_drawn_plan (h : Has P w K mg base k "_law_drawn_plan" ["_law_bag_here", "_law_faces"] o__law_drawn_plan) : Has P w K mg base k "_law_drawn_plan" ["_law_bag_here", "_law_faces"] c__law_drawn_plan := h.imp fun args Φ Ψ ⟨b, m, Kf, Ef, e, hf, h1, h2⟩ => by
  subst e
  cases m with
  | int m => exact ⟨b, m, rfl, hf.1.1, hf.1.2, fun l hl => h1 _ (hf.2 l hl)⟩
  | _ => exact (show False from hf).elim
theorem ok__law_plan (F : FnP K "_law_plan" s__law_plan f fd) (hm : mg "_law_plan" = some (.ref f)) (hb : Binds K fd ["_law_bag_here", "_law_most"] []) (h__law_pull : Has P w K mg base k "_law_pull" ["_law_bag_here", "_law_many"] c__law_pull) (h__law_drawn_plan : Has P w K mg base k "_law_drawn_plan" ["_law_bag_here", "_law_faces"] c__law_drawn_plan) :
    Has P w K mg base (k + 1) "_law_plan" ["_law_bag_here", "_law_most"] c__law_plan := by
  refine fn_has F hm sc__law_plan hb rfl ?_
  rintro cdv A outer s H E g args Φ Ψ hr hp hM hl ⟨a_l_bag_here, l_most, Kf, Ef, rfl, h, hK, hE⟩
  unfold f__law_plan at h
  refine ws_env (env' := [.bg a_l_bag_here, .d l_most, .un]) rfl ?_
  refine ws_cons (w1_set 2 sc__law_plan.nd ?_)
  refine we_add ?_
  refine we_int ?_
  refine we_call h__law_pull hr ?_
  refine wa_s 0 ?_
  refine wa_d ?_
  refine we_sub ?_
  refine we_n 1 ?_
  refine we_int ?_
  refine sub_sh h fun r1 h => ?_
  refine ⟨rfl, ?_⟩
  refine wa_nil ?_
  refine ⟨rfl, _, _, _, _, rfl, h, fun r2 h => ⟨rfl, _, rfl, ?_⟩, fun c hc => ⟨rfl, ⟨_, hE _ hc, ⟨rfl, rfl⟩, rfl, rfl⟩⟩⟩
  refine add_sh h fun r3 h => ?_
  refine ⟨rfl, ?_⟩
  refine ws_env (env' := [.bg a_l_bag_here, .d l_most, .d r3]) rfl ?_
  refine ws_cons (w1_ret ?_)
  refine we_call h__law_drawn_plan hr ?_
  refine wa_s 0 ?_
  refine wa_d ?_
  refine we_n 2 ?_
  refine ⟨rfl, ?_⟩
  refine wa_nil ?_
  refine ⟨rfl, _, _, _, _, rfl, h, fun r4 h => ⟨rfl, _, rfl, ?_⟩, fun c hc => ⟨rfl, ⟨_, hE _ hc, ⟨rfl, rfl⟩, rfl, rfl⟩⟩⟩
  exact ⟨rfl, _, hK _ h, trivial, ⟨rfl, rfl⟩, rfl, rfl⟩
theorem ok__law_any_deed (F : FnP K "_law_any_deed" s__law_any_deed f fd) (hm : mg "_law_any_deed" = some (.ref f)) (hb : Binds K fd ["_law_bag_here"] []) (h__law_pull : Has P w K mg base k "_law_pull" ["_law_bag_here", "_law_many"] c__law_pull) (m_range : mg "range" = none) (h__law_plan : Has P w K mg base k "_law_plan" ["_law_bag_here", "_law_most"] c__law_plan) (m_tuple : mg "tuple" = none) :
    Has P w K mg base (k + 1) "_law_any_deed" ["_law_bag_here"] c__law_any_deed := by
  refine fn_has F hm sc__law_any_deed hb rfl ?_
  rintro cdv A outer s H E g args Φ Ψ hr hp hM hl ⟨a_l_bag_here, Kf, Ef, rfl, h, hK, hE⟩
  unfold f__law_any_deed at h
  refine ws_env (env' := [.bg a_l_bag_here, .un, .un, .un, .un, .un, .un, .un]) rfl ?_
  refine ws_cons (w1_set 1 sc__law_any_deed.nd ?_)
  refine we_of_wn ?_
  refine wn_split ?_
  refine we_str ?_
  refine ⟨_, rfl, ?_⟩
  refine we_str ?_
  refine split_m h fun l1 h => ?_
  refine ⟨rfl, ?_⟩
  refine ws_env (env' := [.bg a_l_bag_here, .d (.list l1), .un, .un, .un, .un, .un, .un]) rfl ?_
  refine ws_cons (w1_set 2 sc__law_any_deed.nd ?_)
  refine we_ix ?_
  refine we_n 1 ?_
  refine we_call h__law_pull hr ?_
  refine wa_s 0 ?_
  refine wa_d ?_
  refine we_int ?_
  refine ⟨rfl, ?_⟩
  refine wa_nil ?_
  refine ⟨rfl, _, _, _, _, rfl, h, fun r2 h => ⟨rfl, _, rfl, ?_⟩, fun c hc => ⟨rfl, ⟨_, hE _ hc, ⟨rfl, rfl⟩, rfl⟩⟩⟩
  refine ix_sh h fun r3 h => ?_
  refine ⟨rfl, ?_⟩
  refine ws_env (env' := [.bg a_l_bag_here, .d (.list l1), .d r3, .un, .un, .un, .un, .un]) rfl ?_
  refine ws_cons (w1_set 3 sc__law_any_deed.nd ?_)
  refine we_str ?_
  refine ⟨rfl, ?_⟩
  refine ws_env (env' := [.bg a_l_bag_here, .d (.list l1), .d r3, .d (.str ""), .un, .un, .un, .un]) rfl ?_
  refine ws_cons (w1_for hp rfl (pg_name (i := 4) sc__law_any_deed.nd rfl (by first | exact Or.inl rfl | exact Or.inr rfl)) (tgd_name 4) ?_)
  refine wi_r1 m_range ?_
  refine we_add ?_
  refine we_int ?_
  refine we_call h__law_pull hr ?_
  refine wa_s 0 ?_
  refine wa_d ?_
  refine we_int ?_
  refine ⟨rfl, ?_⟩
  refine wa_nil ?_
  refine ⟨rfl, _, _, _, _, rfl, h, fun r5 h => ⟨rfl, _, rfl, ?_⟩, fun c hc => ⟨rfl, ⟨_, hE _ hc, ⟨rfl, rfl⟩, rfl⟩⟩⟩
  refine add_sh h fun r6 h => ?_
  refine rng_sh h fun xs4 h => ?_
  refine forS h (fun (s : PyData) (u : Sl) => [.bg a_l_bag_here, .d (.list l1), .d r3, .d s, u, .un, .un, .un]) (.un) rfl ?_ ?_
  · rintro l_name7 w8 h
    refine ws_env (env' := [.bg a_l_bag_here, .d (.list l1), .d r3, .d l_name7, w8, .un, .un, .un]) rfl ?_
    refine ws_forget 4 ?_
    refine ws_env (env' := [.bg a_l_bag_here, .d (.list l1), .d r3, .d l_name7, .un, .un, .un, .un]) rfl ?_
    refine ws_cons (w1_if ?_)
    refine wt_cp (op_inA hr) ?_
    refine we_n 2 ?_
    refine we_tuple ?_
    refine wa_d ?_
    refine we_str ?_
    refine ⟨rfl, ?_⟩
    refine wa_d ?_
    refine we_str ?_
    refine ⟨rfl, ?_⟩
    refine wa_nil ?_
    refine ⟨_, rfl, szOk rfl, ?_⟩
    refine in_sh h fun b9 h => ?_
    obtain ⟨h10, h11⟩ := h
    refine ⟨fun e12 => ?_, fun e12 => ?_⟩
    · replace h := h10 e12
      refine ws_cons (w1_set 5 sc__law_any_deed.nd ?_)
      refine we_call h__law_plan hr ?_
      refine wa_s 0 ?_
      refine wa_d ?_
      refine we_ix ?_
      refine we_list ?_
      refine wa_d ?_
      refine we_int ?_
      refine ⟨rfl, ?_⟩
      refine wa_d ?_
      refine we_int ?_
      refine ⟨rfl, ?_⟩
      refine wa_d ?_
      refine we_int ?_
      refine ⟨rfl, ?_⟩
      refine wa_nil ?_
      refine ⟨_, rfl, szOk rfl, ?_⟩
      refine we_call h__law_pull hr ?_
      refine wa_s 0 ?_
      refine wa_d ?_
      refine we_int ?_
      refine ⟨rfl, ?_⟩
      refine wa_nil ?_
      refine ⟨rfl, _, _, _, _, rfl, h, fun r13 h => ⟨rfl, _, rfl, ?_⟩, fun c hc => ⟨rfl, ⟨_, hE _ hc, ⟨rfl, rfl⟩, rfl⟩⟩⟩
      refine ix_sh h fun r14 h => ?_
      refine ⟨rfl, ?_⟩
      refine wa_nil ?_
      refine ⟨rfl, _, _, _, _, rfl, h, fun r15 h => ⟨rfl, _, rfl, ?_⟩, fun c hc => ⟨rfl, ⟨_, hE _ hc, ⟨rfl, rfl⟩, rfl⟩⟩⟩
      refine ⟨rfl, ?_⟩
      refine ws_env (env' := [.bg a_l_bag_here, .d (.list l1), .d r3, .d l_name7, .un, .d r15, .un, .un]) rfl ?_
      refine ws_joinS h (fun (s : PyData) (u : Sl) => [.bg a_l_bag_here, .d (.list l1), .d r3, .d l_name7, .un, .d s, u, .un]) (fun Q h => ?_) ?_
      · refine w1_if ?_
        refine wt_cp (op_eqA hr) ?_
        refine we_call h__law_pull hr ?_
        refine wa_s 0 ?_
        refine wa_d ?_
        refine we_int ?_
        refine ⟨rfl, ?_⟩
        refine wa_nil ?_
        refine ⟨rfl, _, _, _, _, rfl, h, fun r16 h => ⟨rfl, _, rfl, ?_⟩, fun c hc => ⟨rfl, ⟨_, hE _ hc, ⟨rfl, rfl⟩, rfl⟩⟩⟩
        refine we_int ?_
        refine eq_sh h fun b17 h => ?_
        obtain ⟨h18, h19⟩ := h
        refine ⟨fun e20 => ?_, fun e20 => ?_⟩
        · replace h := h18 e20
          refine ws_cons (w1_setLc 6 (own := [("_law_k", 4)]) rfl sc__law_any_deed.nd piS (blkOk_by (by rfl)) (fun _ _ _ _ _ => (pg_name (i := 4) sc__law_any_deed.nd rfl (by first | exact Or.inl rfl | exact Or.inr rfl))) (by decide) (nt_lc (tgd_name 4) rfl ?_))
          refine wi_r1 m_range ?_
          refine we_int ?_
          refine rng_sh h fun xs21 h => ?_
          refine lcS h (fun l_k22 kp sk h => ?_) fun l23 h => ?_
          · refine ⟨[(4, l_k22)], rfl, rfl, fun g' s1 H1 C1 cl1 fp1 => ?_⟩
            refine ⟨fun _ s1 H1 C1 cl1 fp1 => ?_, fun z => by cases z⟩
            refine we_tuple ?_
            refine wa_d ?_
            refine we_call h__law_pull hr ?_
            refine wa_s 0 ?_
            refine wa_d ?_
            refine we_int ?_
            refine ⟨rfl, ?_⟩
            refine wa_nil ?_
            refine ⟨rfl, _, _, _, _, rfl, h, fun r24 h => ⟨rfl, _, rfl, ?_⟩, fun c hc => ⟨rfl, hc.elim⟩⟩
            refine ⟨rfl, ?_⟩
            refine wa_d ?_
            refine we_call h__law_pull hr ?_
            refine wa_s 0 ?_
            refine wa_d ?_
            refine we_int ?_
            refine ⟨rfl, ?_⟩
            refine wa_nil ?_
            refine ⟨rfl, _, _, _, _, rfl, h, fun r25 h => ⟨rfl, _, rfl, ?_⟩, fun c hc => ⟨rfl, hc.elim⟩⟩
            refine ⟨rfl, ?_⟩
            refine wa_nil ?_
            refine ⟨_, rfl, szOk rfl, ?_⟩
            exact ⟨rfl, h⟩
          refine ws_env (env' := [.bg a_l_bag_here, .d (.list l1), .d r3, .d l_name7, .un, .d r15, .d (.list l23), .un]) rfl ?_
          refine ws_cons (w1_set 5 sc__law_any_deed.nd ?_)
          refine we_tuple ?_
          refine wa_d ?_
          refine we_call h__law_pull hr ?_
          refine wa_s 0 ?_
          refine wa_d ?_
          refine we_int ?_
          refine ⟨rfl, ?_⟩
          refine wa_nil ?_
          refine ⟨rfl, _, _, _, _, rfl, h, fun r26 h => ⟨rfl, _, rfl, ?_⟩, fun c hc => ⟨rfl, ⟨_, hE _ hc, ⟨rfl, rfl⟩, rfl⟩⟩⟩
          refine ⟨rfl, ?_⟩
          refine wa_d ?_
          refine we_tupof m_tuple ?_
          refine we_n 6 ?_
          refine tup_sh h fun r27 h => ?_
          refine ⟨rfl, ?_⟩
          refine wa_nil ?_
          refine ⟨_, rfl, szOk rfl, ?_⟩
          refine ⟨rfl, ?_⟩
          refine ws_env (env' := [.bg a_l_bag_here, .d (.list l1), .d r3, .d l_name7, .un, .d (.tuple [r26, r27]), .d (.list l23), .un]) rfl ?_
          exact ws_nil ⟨(.tuple [r26, r27]), (.d (.list l23)), h, rfl⟩
        · replace h := h19 e20
          exact ws_nil ⟨r15, (.un), h, rfl⟩
      · rintro l_plan_here28 w29 h
        refine ws_env (env' := [.bg a_l_bag_here, .d (.list l1), .d r3, .d l_name7, .un, .d l_plan_here28, w29, .un]) rfl ?_
        refine ws_cons (w1_ret ?_)
        refine we_tuple ?_
        refine wa_d ?_
        refine we_n 2 ?_
        refine ⟨rfl, ?_⟩
        refine wa_d ?_
        refine we_n 3 ?_
        refine ⟨rfl, ?_⟩
        refine wa_d ?_
        refine we_n 5 ?_
        refine ⟨rfl, ?_⟩
        refine wa_nil ?_
        refine ⟨_, rfl, szOk rfl, ?_⟩
        exact ⟨rfl, _, hK _ h, trivial, ⟨rfl, rfl⟩, rfl⟩
    · replace h := h11 e12
      refine ws_nil ?_
      refine ws_cons (w1_if ?_)
      refine wt_cp (op_inA hr) ?_
      refine we_n 2 ?_
      refine we_tuple ?_
      refine wa_d ?_
      refine we_str ?_
      refine ⟨rfl, ?_⟩
      refine wa_d ?_
      refine we_str ?_
      refine ⟨rfl, ?_⟩
      refine wa_nil ?_
      refine ⟨_, rfl, szOk rfl, ?_⟩
      refine in_sh h fun b30 h => ?_
      obtain ⟨h31, h32⟩ := h
      refine ⟨fun e33 => ?_, fun e33 => ?_⟩
      · replace h := h31 e33
        refine ws_cons (w1_ret ?_)
        refine we_tuple ?_
        refine wa_d ?_
        refine we_n 2 ?_
        refine ⟨rfl, ?_⟩
        refine wa_d ?_
        refine we_n 3 ?_
        refine ⟨rfl, ?_⟩
        refine wa_d ?_
        refine we_ix ?_
        refine we_list ?_
        refine wa_d ?_
        refine we_str ?_
        refine ⟨rfl, ?_⟩
        refine wa_d ?_
        refine we_str ?_
        refine ⟨rfl, ?_⟩
        refine wa_nil ?_
        refine ⟨_, rfl, szOk rfl, ?_⟩
        refine we_call h__law_pull hr ?_
        refine wa_s 0 ?_
        refine wa_d ?_
        refine we_int ?_
        refine ⟨rfl, ?_⟩
        refine wa_nil ?_
        refine ⟨rfl, _, _, _, _, rfl, h, fun r34 h => ⟨rfl, _, rfl, ?_⟩, fun c hc => ⟨rfl, ⟨_, hE _ hc, ⟨rfl, rfl⟩, rfl⟩⟩⟩
        refine ix_sh h fun r35 h => ?_
        refine ⟨rfl, ?_⟩
        refine wa_nil ?_
        refine ⟨_, rfl, szOk rfl, ?_⟩
        exact ⟨rfl, _, hK _ h, trivial, ⟨rfl, rfl⟩, rfl⟩
      · replace h := h32 e33
        refine ws_nil ?_
        refine ws_cons (w1_set 7 sc__law_any_deed.nd ?_)
        refine we_ix ?_
        refine we_list ?_
        refine wa_d ?_
        refine we_call h__law_pull hr ?_
        refine wa_s 0 ?_
        refine wa_d ?_
        refine we_int ?_
        refine ⟨rfl, ?_⟩
        refine wa_nil ?_
        refine ⟨rfl, _, _, _, _, rfl, h, fun r36 h => ⟨rfl, _, rfl, ?_⟩, fun c hc => ⟨rfl, ⟨_, hE _ hc, ⟨rfl, rfl⟩, rfl⟩⟩⟩
        refine ⟨rfl, ?_⟩
        refine wa_d ?_
        refine we_call h__law_pull hr ?_
        refine wa_s 0 ?_
        refine wa_d ?_
        refine we_int ?_
        refine ⟨rfl, ?_⟩
        refine wa_nil ?_
        refine ⟨rfl, _, _, _, _, rfl, h, fun r37 h => ⟨rfl, _, rfl, ?_⟩, fun c hc => ⟨rfl, ⟨_, hE _ hc, ⟨rfl, rfl⟩, rfl⟩⟩⟩
        refine ⟨rfl, ?_⟩
        refine wa_nil ?_
        refine ⟨_, rfl, szOk rfl, ?_⟩
        refine we_call h__law_pull hr ?_
        refine wa_s 0 ?_
        refine wa_d ?_
        refine we_int ?_
        refine ⟨rfl, ?_⟩
        refine wa_nil ?_
        refine ⟨rfl, _, _, _, _, rfl, h, fun r38 h => ⟨rfl, _, rfl, ?_⟩, fun c hc => ⟨rfl, ⟨_, hE _ hc, ⟨rfl, rfl⟩, rfl⟩⟩⟩
        refine ix_sh h fun r39 h => ?_
        refine ⟨rfl, ?_⟩
        refine ws_env (env' := [.bg a_l_bag_here, .d (.list l1), .d r3, .d l_name7, .un, .un, .un, .d r39]) rfl ?_
        refine ws_cons (w1_if ?_)
        refine wt_cp (op_eqA hr) ?_
        refine we_n 2 ?_
        refine we_str ?_
        refine eq_sh h fun b40 h => ?_
        obtain ⟨h41, h42⟩ := h
        refine ⟨fun e43 => ?_, fun e43 => ?_⟩
        · replace h := h41 e43
          refine ws_cons (w1_ret ?_)
          refine we_tuple ?_
          refine wa_d ?_
          refine we_n 2 ?_
          refine ⟨rfl, ?_⟩
          refine wa_d ?_
          refine we_n 3 ?_
          refine ⟨rfl, ?_⟩
          refine wa_d ?_
          refine we_n 7 ?_
          refine ⟨rfl, ?_⟩
          refine wa_d ?_
          refine we_ix ?_
          refine we_list ?_
          refine wa_d ?_
          refine we_str ?_
          refine ⟨rfl, ?_⟩
          refine wa_d ?_
          refine we_str ?_
          refine ⟨rfl, ?_⟩
          refine wa_d ?_
          refine we_str ?_
          refine ⟨rfl, ?_⟩
          refine wa_nil ?_
          refine ⟨_, rfl, szOk rfl, ?_⟩
          refine we_call h__law_pull hr ?_
          refine wa_s 0 ?_
          refine wa_d ?_
          refine we_int ?_
          refine ⟨rfl, ?_⟩
          refine wa_nil ?_
          refine ⟨rfl, _, _, _, _, rfl, h, fun r44 h => ⟨rfl, _, rfl, ?_⟩, fun c hc => ⟨rfl, ⟨_, hE _ hc, ⟨rfl, rfl⟩, rfl⟩⟩⟩
          refine ix_sh h fun r45 h => ?_
          refine ⟨rfl, ?_⟩
          refine wa_nil ?_
          refine ⟨_, rfl, szOk rfl, ?_⟩
          exact ⟨rfl, _, hK _ h, trivial, ⟨rfl, rfl⟩, rfl⟩
        · replace h := h42 e43
          refine ws_nil ?_
          refine ws_cons (w1_if ?_)
          refine wt_cp (op_eqA hr) ?_
          refine we_n 2 ?_
          refine we_str ?_
          refine eq_sh h fun b46 h => ?_
          obtain ⟨h47, h48⟩ := h
          refine ⟨fun e49 => ?_, fun e49 => ?_⟩
          · replace h := h47 e49
            refine ws_cons (w1_ret ?_)
            refine we_tuple ?_
            refine wa_d ?_
            refine we_n 2 ?_
            refine ⟨rfl, ?_⟩
            refine wa_d ?_
            refine we_n 3 ?_
            refine ⟨rfl, ?_⟩
            refine wa_d ?_
            refine we_n 7 ?_
            refine ⟨rfl, ?_⟩
            refine wa_d ?_
            refine we_ix ?_
            refine we_str ?_
            refine we_call h__law_pull hr ?_
            refine wa_s 0 ?_
            refine wa_d ?_
            refine we_int ?_
            refine ⟨rfl, ?_⟩
            refine wa_nil ?_
            refine ⟨rfl, _, _, _, _, rfl, h, fun r50 h => ⟨rfl, _, rfl, ?_⟩, fun c hc => ⟨rfl, ⟨_, hE _ hc, ⟨rfl, rfl⟩, rfl⟩⟩⟩
            refine ix_sh h fun r51 h => ?_
            refine ⟨rfl, ?_⟩
            refine wa_nil ?_
            refine ⟨_, rfl, szOk rfl, ?_⟩
            exact ⟨rfl, _, hK _ h, trivial, ⟨rfl, rfl⟩, rfl⟩
          · replace h := h48 e49
            refine ws_nil ?_
            refine ws_cons (w1_ret ?_)
            refine we_ifS h (fun Q h => ?_) (fun Q h => ?_) (fun Q h => ?_) fun r52 h => ?_
            · refine wt_cp (op_eqA hr) ?_
              refine we_n 2 ?_
              refine we_str ?_
              refine eq_sh h fun b53 h => ?_
              exact h
            · refine we_tuple ?_
              refine wa_d ?_
              refine we_n 2 ?_
              refine ⟨rfl, ?_⟩
              refine wa_d ?_
              refine we_n 3 ?_
              refine ⟨rfl, ?_⟩
              refine wa_d ?_
              refine we_n 7 ?_
              refine ⟨rfl, ?_⟩
              refine wa_nil ?_
              refine ⟨_, rfl, szOk rfl, ?_⟩
              exact ⟨rfl, h⟩
            · refine we_tuple ?_
              refine wa_d ?_
              refine we_n 2 ?_
              refine ⟨rfl, ?_⟩
              refine wa_d ?_
              refine we_n 3 ?_
              refine ⟨rfl, ?_⟩
              refine wa_nil ?_
              refine ⟨_, rfl, szOk rfl, ?_⟩
              exact ⟨rfl, h⟩
            exact ⟨rfl, _, hK _ h, trivial, ⟨rfl, rfl⟩, rfl⟩
  · rintro hend l_k54 l_name57 w58 N55 h
    refine ⟨[(4, l_k54)], rfl, rfl, ?_⟩
    refine ws_env (env' := [.bg a_l_bag_here, .d (.list l1), .d r3, .d l_name57, .d l_k54, .un, .un, .un]) rfl ?_
    refine ws_cons (w1_set 3 sc__law_any_deed.nd ?_)
    refine we_add ?_
    refine we_n 3 ?_
    refine we_ix ?_
    refine we_str ?_
    refine we_call h__law_pull hr ?_
    refine wa_s 0 ?_
    refine wa_d ?_
    refine we_int ?_
    refine ⟨rfl, ?_⟩
    refine wa_nil ?_
    refine ⟨rfl, _, _, _, _, rfl, h, fun r59 h => ⟨rfl, _, rfl, ?_⟩, fun c hc => ⟨rfl, ⟨_, hE _ hc, ⟨rfl, rfl⟩, rfl⟩⟩⟩
    refine ix_sh h fun r60 h => ?_
    refine add_sh h fun r61 h => ?_
    refine ⟨rfl, ?_⟩
    refine ws_env (env' := [.bg a_l_bag_here, .d (.list l1), .d r3, .d r61, .d l_k54, .un, .un, .un]) rfl ?_
    exact ws_nil ⟨r61, (.d l_k54), h, rfl⟩
theorem ok__law_bent_text (F : FnP K "_law_bent_text" s__law_bent_text f fd) (hm : mg "_law_bent_text" = some (.ref f)) (hb : Binds K fd ["_law_bag_here", "_law_text"] []) (h__law_pull : Has P w K mg base k "_law_pull" ["_law_bag_here", "_law_many"] c__law_pull) (m_len : mg "len" = none) :
    Has P w K mg base (k + 1) "_law_bent_text" ["_law_bag_here", "_law_text"] c__law_bent_text := by
  refine fn_has F hm sc__law_bent_text hb rfl ?_
  rintro cdv A outer s H E g args Φ Ψ hr hp hM hl ⟨a_l_bag_here, l_text, Kf, Ef, rfl, h, hK, hE⟩
  unfold f__law_bent_text at h
  refine ws_env (env' := [.bg a_l_bag_here, .d l_text, .un, .un, .un, .un, .un, .un]) rfl ?_
  refine ws_cons (w1_set 2 sc__law_bent_text.nd ?_)
  refine we_call h__law_pull hr ?_
  refine wa_s 0 ?_
  refine wa_d ?_
  refine we_add ?_
  refine we_len m_len ?_
  refine we_n 1 ?_
  refine len_sh h fun r1 h => ?_
  refine we_int ?_
  refine add_sh h fun r2 h => ?_
  refine ⟨rfl, ?_⟩
  refine wa_nil ?_
  refine ⟨rfl, _, _, _, _, rfl, h, fun r3 h => ⟨rfl, _, rfl, ?_⟩, fun c hc => ⟨rfl, ⟨_, hE _ hc, ⟨rfl, rfl⟩, rfl, rfl⟩⟩⟩
  refine ⟨rfl, ?_⟩
  refine ws_env (env' := [.bg a_l_bag_here, .d l_text, .d r3, .un, .un, .un, .un, .un]) rfl ?_
  refine ws_cons (w1_set 3 sc__law_bent_text.nd ?_)
  refine we_ix ?_
  refine we_str ?_
  refine we_call h__law_pull hr ?_
  refine wa_s 0 ?_
  refine wa_d ?_
  refine we_int ?_
  refine ⟨rfl, ?_⟩
  refine wa_nil ?_
  refine ⟨rfl, _, _, _, _, rfl, h, fun r4 h => ⟨rfl, _, rfl, ?_⟩, fun c hc => ⟨rfl, ⟨_, hE _ hc, ⟨rfl, rfl⟩, rfl, rfl⟩⟩⟩
  refine ix_sh h fun r5 h => ?_
  refine ⟨rfl, ?_⟩
  refine ws_env (env' := [.bg a_l_bag_here, .d l_text, .d r3, .d r5, .un, .un, .un, .un]) rfl ?_
  refine ws_cons (w1_set 4 sc__law_bent_text.nd ?_)
  refine we_call h__law_pull hr ?_
  refine wa_s 0 ?_
  refine wa_d ?_
  refine we_int ?_
  refine ⟨rfl, ?_⟩
  refine wa_nil ?_
  refine ⟨rfl, _, _, _, _, rfl, h, fun r6 h => ⟨rfl, _, rfl, ?_⟩, fun c hc => ⟨rfl, ⟨_, hE _ hc, ⟨rfl, rfl⟩, rfl, rfl⟩⟩⟩
  refine ⟨rfl, ?_⟩
  refine ws_env (env' := [.bg a_l_bag_here, .d l_text, .d r3, .d r5, .d r6, .un, .un, .un]) rfl ?_
  refine ws_cons (w1_if ?_)
  refine wt_cp (op_eqA hr) ?_
  refine we_n 4 ?_
  refine we_int ?_
  refine eq_sh h fun b7 h => ?_
  obtain ⟨h8, h9⟩ := h
  refine ⟨fun e10 => ?_, fun e10 => ?_⟩
  · replace h := h8 e10
    refine ws_cons (w1_ret ?_)
    refine we_add ?_
    refine we_add ?_
    refine we_slA ?_
    refine we_n 1 ?_
    refine ⟨rfl, ?_⟩
    refine wp_none ?_
    refine wp_e ?_
    refine we_n 2 ?_
    refine into_sh h fun i11 h => ?_
    refine sl_sh h fun r12 h => ?_
    refine we_n 3 ?_
    refine add_sh h fun r13 h => ?_
    refine we_slA ?_
    refine we_n 1 ?_
    refine ⟨rfl, ?_⟩
    refine wp_e ?_
    refine we_n 2 ?_
    refine into_sh h fun i14 h => ?_
    refine wp_none ?_
    refine sl_sh h fun r15 h => ?_
    refine add_sh h fun r16 h => ?_
    exact ⟨rfl, _, hK _ h, trivial, ⟨rfl, rfl⟩, rfl, rfl⟩
  · replace h := h9 e10
    refine ws_nil ?_
    refine ws_cons (w1_if ?_)
    refine wt_cp (op_eqA hr) ?_
    refine we_n 4 ?_
    refine we_int ?_
    refine eq_sh h fun b17 h => ?_
    obtain ⟨h18, h19⟩ := h
    refine ⟨fun e20 => ?_, fun e20 => ?_⟩
    · replace h := h18 e20
      refine ws_cons (w1_ret ?_)
      refine we_add ?_
      refine we_slA ?_
      refine we_n 1 ?_
      refine ⟨rfl, ?_⟩
      refine wp_none ?_
      refine wp_e ?_
      refine we_n 2 ?_
      refine into_sh h fun i21 h => ?_
      refine sl_sh h fun r22 h => ?_
      refine we_slA ?_
      refine we_n 1 ?_
      refine ⟨rfl, ?_⟩
      refine wp_e ?_
      refine we_add ?_
      refine we_n 2 ?_
      refine we_int ?_
      refine add_sh h fun r23 h => ?_
      refine into_sh h fun i24 h => ?_
      refine wp_none ?_
      refine sl_sh h fun r25 h => ?_
      refine add_sh h fun r26 h => ?_
      exact ⟨rfl, _, hK _ h, trivial, ⟨rfl, rfl⟩, rfl, rfl⟩
    · replace h := h19 e20
      refine ws_nil ?_
      refine ws_cons (w1_if ?_)
      refine wt_cp (op_eqA hr) ?_
      refine we_n 4 ?_
      refine we_int ?_
      refine eq_sh h fun b27 h => ?_
      obtain ⟨h28, h29⟩ := h
      refine ⟨fun e30 => ?_, fun e30 => ?_⟩
      · replace h := h28 e30
        refine ws_cons (w1_ret ?_)
        refine we_add ?_
        refine we_add ?_
        refine we_slA ?_
        refine we_n 1 ?_
        refine ⟨rfl, ?_⟩
        refine wp_none ?_
        refine wp_e ?_
        refine we_n 2 ?_
        refine into_sh h fun i31 h => ?_
        refine sl_sh h fun r32 h => ?_
        refine we_n 3 ?_
        refine add_sh h fun r33 h => ?_
        refine we_slA ?_
        refine we_n 1 ?_
        refine ⟨rfl, ?_⟩
        refine wp_e ?_
        refine we_add ?_
        refine we_n 2 ?_
        refine we_int ?_
        refine add_sh h fun r34 h => ?_
        refine into_sh h fun i35 h => ?_
        refine wp_none ?_
        refine sl_sh h fun r36 h => ?_
        refine add_sh h fun r37 h => ?_
        exact ⟨rfl, _, hK _ h, trivial, ⟨rfl, rfl⟩, rfl, rfl⟩
      · replace h := h29 e30
        refine ws_nil ?_
        refine ws_cons (w1_set 5 sc__law_bent_text.nd ?_)
        refine we_of_wn ?_
        refine wn_split ?_
        refine we_n 1 ?_
        obtain ⟨s38, he39, h⟩ := strO_ob h
        refine ⟨_, he39, ?_⟩
        refine we_str ?_
        refine split_m h fun l40 h => ?_
        refine ⟨rfl, ?_⟩
        refine ws_env (env' := [.bg a_l_bag_here, .d l_text, .d r3, .d r5, .d r6, .d (.list l40), .un, .un]) rfl ?_
        refine ws_cons (w1_set 6 sc__law_bent_text.nd ?_)
        refine we_call h__law_pull hr ?_
        refine wa_s 0 ?_
        refine wa_d ?_
        refine we_len m_len ?_
        refine we_n 5 ?_
        refine len_sh h fun r41 h => ?_
        refine ⟨rfl, ?_⟩
        refine wa_nil ?_
        refine ⟨rfl, _, _, _, _, rfl, h, fun r42 h => ⟨rfl, _, rfl, ?_⟩, fun c hc => ⟨rfl, ⟨_, hE _ hc, ⟨rfl, rfl⟩, rfl, rfl⟩⟩⟩
        refine ⟨rfl, ?_⟩
        refine ws_env (env' := [.bg a_l_bag_here, .d l_text, .d r3, .d r5, .d r6, .d (.list l40), .d r42, .un]) rfl ?_
        refine ws_cons (w1_set 7 sc__law_bent_text.nd ?_)
        refine we_list ?_
        refine wa_d ?_
        refine we_str ?_
        refine ⟨rfl, ?_⟩
        refine wa_d ?_
        refine we_str ?_
        refine ⟨rfl, ?_⟩
        refine wa_d ?_
        refine we_str ?_
        refine ⟨rfl, ?_⟩
        refine wa_d ?_
        refine we_str ?_
        refine ⟨rfl, ?_⟩
        refine wa_d ?_
        refine we_str ?_
        refine ⟨rfl, ?_⟩
        refine wa_d ?_
        refine we_str ?_
        refine ⟨rfl, ?_⟩
        refine wa_d ?_
        refine we_str ?_
        refine ⟨rfl, ?_⟩
        refine wa_d ?_
        refine we_str ?_
        refine ⟨rfl, ?_⟩
        refine wa_d ?_
        refine we_str ?_
        refine ⟨rfl, ?_⟩
        refine wa_d ?_
        refine we_str ?_
        refine ⟨rfl, ?_⟩
        refine wa_d ?_
        refine we_str ?_
        refine ⟨rfl, ?_⟩
        refine wa_d ?_
        refine we_str ?_
        refine ⟨rfl, ?_⟩
        refine wa_nil ?_
        refine ⟨_, rfl, szOk rfl, ?_⟩
        refine ⟨rfl, ?_⟩
        refine ws_env (env' := [.bg a_l_bag_here, .d l_text, .d r3, .d r5, .d r6, .d (.list l40), .d r42, .d (.list [(.str ""), (.str "00"), (.str "01"), (.str "10000"), (.str "-1"), (.str "3:"), (.str "4:0-2"), (.str "4:"), (.str "5:0-2,"), (.str "3:0-1-2"), (.str "red"), (.str "even")])]) rfl ?_
        refine ws_cons (w1_set 7 sc__law_bent_text.nd ?_)
        refine we_add ?_
        refine we_n 7 ?_
        refine we_list ?_
        refine wa_d ?_
        refine we_str ?_
        refine ⟨rfl, ?_⟩
        refine wa_d ?_
        refine we_str ?_
        refine ⟨rfl, ?_⟩
        refine wa_d ?_
        refine we_str ?_
        refine ⟨rfl, ?_⟩
        refine wa_d ?_
        refine we_str ?_
        refine ⟨rfl, ?_⟩
        refine wa_nil ?_
        refine ⟨_, rfl, szOk rfl, ?_⟩
        refine add_sh h fun r43 h => ?_
        refine ⟨rfl, ?_⟩
        refine ws_env (env' := [.bg a_l_bag_here, .d l_text, .d r3, .d r5, .d r6, .d (.list l40), .d r42, .d r43]) rfl ?_
        refine ws_cons (w1_if ?_)
        refine wt_cp (op_eqA hr) ?_
        refine we_n 4 ?_
        refine we_int ?_
        refine eq_sh h fun b44 h => ?_
        obtain ⟨h45, h46⟩ := h
        refine ⟨fun e47 => ?_, fun e47 => ?_⟩
        · replace h := h45 e47
          refine ws_cons (w1_ret ?_)
          refine we_join ?_
          refine we_str ?_
          refine ⟨_, rfl, ?_⟩
          refine we_add ?_
          refine we_slA ?_
          refine we_n 5 ?_
          refine ⟨rfl, ?_⟩
          refine wp_none ?_
          refine wp_e ?_
          refine we_n 6 ?_
          refine into_sh h fun i48 h => ?_
          refine sl_sh h fun r49 h => ?_
          refine we_slA ?_
          refine we_n 5 ?_
          refine ⟨rfl, ?_⟩
          refine wp_e ?_
          refine we_add ?_
          refine we_n 6 ?_
          refine we_int ?_
          refine add_sh h fun r50 h => ?_
          refine into_sh h fun i51 h => ?_
          refine wp_none ?_
          refine sl_sh h fun r52 h => ?_
          refine add_sh h fun r53 h => ?_
          refine tjoin_m h fun r54 h => ?_
          exact ⟨rfl, _, hK _ h, trivial, ⟨rfl, rfl⟩, rfl, rfl⟩
        · replace h := h46 e47
          refine ws_nil ?_
          refine ws_cons (w1_if ?_)
          refine wt_cp (op_eqA hr) ?_
          refine we_n 4 ?_
          refine we_int ?_
          refine eq_sh h fun b55 h => ?_
          obtain ⟨h56, h57⟩ := h
          refine ⟨fun e58 => ?_, fun e58 => ?_⟩
          · replace h := h56 e58
            refine ws_cons (w1_ret ?_)
            refine we_join ?_
            refine we_str ?_
            refine ⟨_, rfl, ?_⟩
            refine we_add ?_
            refine we_add ?_
            refine we_slA ?_
            refine we_n 5 ?_
            refine ⟨rfl, ?_⟩
            refine wp_none ?_
            refine wp_e ?_
            refine we_n 6 ?_
            refine into_sh h fun i59 h => ?_
            refine sl_sh h fun r60 h => ?_
            refine we_list ?_
            refine wa_d ?_
            refine we_ix ?_
            refine we_n 5 ?_
            refine we_n 6 ?_
            refine ix_sh h fun r61 h => ?_
            refine ⟨rfl, ?_⟩
            refine wa_d ?_
            refine we_ix ?_
            refine we_n 5 ?_
            refine we_n 6 ?_
            refine ix_sh h fun r62 h => ?_
            refine ⟨rfl, ?_⟩
            refine wa_nil ?_
            refine ⟨_, rfl, szOk rfl, ?_⟩
            refine add_sh h fun r63 h => ?_
            refine we_slA ?_
            refine we_n 5 ?_
            refine ⟨rfl, ?_⟩
            refine wp_e ?_
            refine we_add ?_
            refine we_n 6 ?_
            refine we_int ?_
            refine add_sh h fun r64 h => ?_
            refine into_sh h fun i65 h => ?_
            refine wp_none ?_
            refine sl_sh h fun r66 h => ?_
            refine add_sh h fun r67 h => ?_
            refine tjoin_m h fun r68 h => ?_
            exact ⟨rfl, _, hK _ h, trivial, ⟨rfl, rfl⟩, rfl, rfl⟩
          · replace h := h57 e58
            refine ws_nil ?_
            refine ws_cons (w1_if ?_)
            refine wt_cp (op_eqA hr) ?_
            refine we_n 4 ?_
            refine we_int ?_
            refine eq_sh h fun b69 h => ?_
            obtain ⟨h70, h71⟩ := h
            refine ⟨fun e72 => ?_, fun e72 => ?_⟩
            · replace h := h70 e72
              refine ws_cons (w1_ret ?_)
              refine we_join ?_
              refine we_str ?_
              refine ⟨_, rfl, ?_⟩
              refine we_add ?_
              refine we_add ?_
              refine we_slA ?_
              refine we_n 5 ?_
              refine ⟨rfl, ?_⟩
              refine wp_none ?_
              refine wp_e ?_
              refine we_n 6 ?_
              refine into_sh h fun i73 h => ?_
              refine sl_sh h fun r74 h => ?_
              refine we_list ?_
              refine wa_d ?_
              refine we_ix ?_
              refine we_n 7 ?_
              refine we_call h__law_pull hr ?_
              refine wa_s 0 ?_
              refine wa_d ?_
              refine we_int ?_
              refine ⟨rfl, ?_⟩
              refine wa_nil ?_
              refine ⟨rfl, _, _, _, _, rfl, h, fun r75 h => ⟨rfl, _, rfl, ?_⟩, fun c hc => ⟨rfl, ⟨_, hE _ hc, ⟨rfl, rfl⟩, rfl, rfl⟩⟩⟩
              refine ix_sh h fun r76 h => ?_
              refine ⟨rfl, ?_⟩
              refine wa_nil ?_
              refine ⟨_, rfl, szOk rfl, ?_⟩
              refine add_sh h fun r77 h => ?_
              refine we_slA ?_
              refine we_n 5 ?_
              refine ⟨rfl, ?_⟩
              refine wp_e ?_
              refine we_add ?_
              refine we_n 6 ?_
              refine we_int ?_
              refine add_sh h fun r78 h => ?_
              refine into_sh h fun i79 h => ?_
              refine wp_none ?_
              refine sl_sh h fun r80 h => ?_
              refine add_sh h fun r81 h => ?_
              refine tjoin_m h fun r82 h => ?_
              exact ⟨rfl, _, hK _ h, trivial, ⟨rfl, rfl⟩, rfl, rfl⟩
            · replace h := h71 e72
              refine ws_nil ?_
              refine ws_cons (w1_ret ?_)
              refine we_ix ?_
              refine we_list ?_
              refine wa_addT ?_
              refine we_n 1 ?_
              refine addM_m h fun r83 h => ?_
              refine wat_d ?_
              refine we_add ?_
              refine we_str ?_
              refine we_n 1 ?_
              refine add_sh h fun r84 h => ?_
              refine ⟨rfl, ?_⟩
              refine wat_d ?_
              refine we_add ?_
              refine we_n 1 ?_
              refine we_str ?_
              refine add_sh h fun r85 h => ?_
              refine ⟨rfl, ?_⟩
              refine wat_repl ?_
              refine we_n 1 ?_
              refine repl_m h fun r86 h => ?_
              refine wat_d ?_
              refine we_upper ?_
              refine we_n 1 ?_
              refine upper_m h fun r87 h => ?_
              refine ⟨rfl, ?_⟩
              refine wat_nil ?_
              refine ⟨_, rfl, szOk rfl, ?_⟩
              refine we_call h__law_pull hr ?_
              refine wa_s 0 ?_
              refine wa_d ?_
              refine we_int ?_
              refine ⟨rfl, ?_⟩
              refine wa_nil ?_
              refine ⟨rfl, _, _, _, _, rfl, h, fun r88 h => ⟨rfl, _, rfl, ?_⟩, fun c hc => ⟨rfl, ⟨_, hE _ hc, ⟨rfl, rfl⟩, rfl, rfl⟩⟩⟩
              refine ix_sh h fun r89 h => ?_
              exact ⟨rfl, _, hK _ h, trivial, ⟨rfl, rfl⟩, rfl, rfl⟩
theorem ok__law_whole (F : FnP K "_law_whole" s__law_whole f fd) (hm : mg "_law_whole" = some (.ref f)) (hb : Binds K fd ["_law_found"] []) (m_isinstance : mg "isinstance" = none) (m_int : mg "int" = none) (m_bool : mg "bool" = none) :
    Has P w K mg base (k + 1) "_law_whole" ["_law_found"] c__law_whole := by
  refine fn_has F hm sc__law_whole hb rfl ?_
  rintro cdv A outer s H E g args Φ Ψ hr hp hM hl ⟨l_found, Kf, Ef, rfl, h, hK, hE⟩
  unfold f__law_whole at h
  refine ws_env (env' := [.d l_found]) rfl ?_
  refine ws_cons (w1_ret ?_)
  refine we_andS h (fun Q h => ?_) (fun Q h => ?_) fun b1 h => ?_
  · refine we_isi "int" m_isinstance m_int ?_
    refine we_n 0 ?_
    refine ⟨_, rfl, ?_⟩
    exact h
  · refine we_one ?_
    refine we_not ?_
    refine we_isi "bool" m_isinstance m_bool ?_
    refine we_n 0 ?_
    refine ⟨_, rfl, ?_⟩
    refine ⟨_, rfl, ?_⟩
    exact h
  exact ⟨rfl, _, hK _ h, trivial, rfl, rfl⟩
theorem ok_o__law_whole (F : FnP K "_law_whole" s__law_whole f fd) (hm : mg "_law_whole" = some (.ref f)) (hb : Binds K fd ["_law_found"] []) (m_isinstance : mg "isinstance" = none) (m_int : mg "int" = none) (m_bool : mg "bool" = none) :
    Has P w K mg base (k + 1) "_law_whole" ["_law_found"] o__law_whole := by
  refine fn_has F hm sc__law_whole hb rfl ?_
  rintro cdv A outer s H E g args Φ Ψ hr hp hM hl ⟨d, rfl, hΦ⟩
  refine ws_cons (w1_ret ?_)
  refine we_and ?_
  refine we_isi "int" m_isinstance m_int ?_
  refine we_n 0 ?_
  refine ⟨_, rfl, fun b1 => ?_, fun b1 => by rw [b1] at hΦ; exact ⟨rfl, _, hΦ, trivial, rfl, rfl⟩⟩
  rw [b1, Bool.true_and] at hΦ
  refine we_one ?_
  refine we_not ?_
  refine we_isi "bool" m_isinstance m_bool ?_
  refine we_n 0 ?_
  refine ⟨_, rfl, ?_⟩
  exact ⟨rfl, _, hΦ, trivial, rfl, rfl⟩
theorem ok_o__law_alike (F : FnP K "_law_alike" s__law_alike f fd) (hm : mg "_law_alike" = some (.ref f)) (hb : Binds K fd ["_law_found", "_law_due"] []) (m_isinstance : mg "isinstance" = none) (m_bool : mg "bool" = none) (m_int : mg "int" = none) (m_str : mg "str" = none) (m_all : mg "all" = none) (ho__law_whole : Has P w K mg base 1 "_law_whole" ["_law_found"] o__law_whole) (m_list : mg "list" = none) (m_tuple : mg "tuple" = none) (m_len : mg "len" = none) (m_range : mg "range" = none) (k0 : Nat) :
    ∀ N : Nat, Has P w K mg base (k0 + N + 2) "_law_alike" ["_law_found", "_law_due"] (o__law_alike N) := by
  intro N
  induction N with
  | zero => ?_
  | succ N ih => ?_
  all_goals
    refine fn_has F hm sc__law_alike hb rfl ?_
    rintro cdv A outer s H E g args Φ Ψ hr hp hM hl ⟨x, rfl, hok, hΦ⟩
    have ret : ∀ b : Bool, b = true → ∀ x2 : Sl, (endOf [.d x, .d x] Φ Ψ).rt (.rd (.bool b)) [.d x, .d x, x2] := fun b h x2 => by rw [h]; exact ⟨_, hΦ, trivial, rfl, rfl, rfl⟩
    cases x with
    | dict kvs => cases hok
    | none =>
      refine ws_cons (w1_if ?_)
      refine wt_cp op_isN ?_
      refine we_n 1 ?_
      refine we_none ?_
      refine ⟨_, cp_isN, fun _ => ?_, fun b => (by cases b)⟩
      refine ws_cons (w1_ret ?_)
      refine we_cp op_isN ?_
      refine we_n 0 ?_
      refine we_none ?_
      exact ⟨_, cp_isN, rfl, ret _ rfl _⟩
    | bool v =>
      refine ws_cons (w1_if ?_)
      refine wt_cp op_isN ?_
      refine we_n 1 ?_
      refine we_none ?_
      refine ⟨_, cp_isN, fun b => (by cases b), fun _ => ws_nil ?_⟩
      refine ws_cons (w1_if ?_)
      refine wt_e ?_
      refine we_isi "bool" m_isinstance m_bool ?_
      refine we_n 1 ?_
      refine ⟨_, rfl, ?_⟩
      rw [ti_bool_bool]
      refine ⟨fun _ => ?_, fun b => (by cases b)⟩
      refine ws_cons (w1_ret ?_)
      refine we_and ?_
      refine we_isi "bool" m_isinstance m_bool ?_
      refine we_n 0 ?_
      rw [ti_bool_bool]
      refine ⟨_, rfl, fun _ => ?_, fun b => (by cases b)⟩
      refine we_one ?_
      refine we_cp (op_eqA hr) ?_
      refine we_n 0 ?_
      refine we_n 1 ?_
      exact ⟨_, cp_eqB, rfl, ret _ (decide_eq_true rfl) _⟩
    | int v =>
      refine ws_cons (w1_if ?_)
      refine wt_cp op_isN ?_
      refine we_n 1 ?_
      refine we_none ?_
      refine ⟨_, cp_isN, fun b => (by cases b), fun _ => ws_nil ?_⟩
      refine ws_cons (w1_if ?_)
      refine wt_e ?_
      refine we_isi "bool" m_isinstance m_bool ?_
      refine we_n 1 ?_
      refine ⟨_, rfl, ?_⟩
      rw [ti_int_bool]
      refine ⟨fun b => (by cases b), fun _ => ws_nil ?_⟩
      refine ws_cons (w1_if ?_)
      refine wt_e ?_
      refine we_isi "int" m_isinstance m_int ?_
      refine we_n 1 ?_
      refine ⟨_, rfl, ?_⟩
      rw [ti_int_int]
      refine ⟨fun _ => ?_, fun b => (by cases b)⟩
      refine ws_cons (w1_ret ?_)
      refine we_and ?_
      refine we_call ho__law_whole hr ?_
      refine wa_d ?_
      refine we_n 0 ?_
      refine ⟨rfl, ?_⟩
      refine wa_nil ?_
      refine ⟨rfl, _, rfl, rfl, _, rfl, ?_⟩
      rw [ti_int_int, ti_int_bool]
      refine ⟨_, rfl, fun _ => ?_, fun b => (by cases b)⟩
      refine we_one ?_
      refine we_cp (op_eqA hr) ?_
      refine we_n 0 ?_
      refine we_n 1 ?_
      exact ⟨_, cp_eqI, rfl, ret _ (decide_eq_true rfl) _⟩
    | str v =>
      refine ws_cons (w1_if ?_)
      refine wt_cp op_isN ?_
      refine we_n 1 ?_
      refine we_none ?_
      refine ⟨_, cp_isN, fun b => (by cases b), fun _ => ws_nil ?_⟩
      refine ws_cons (w1_if ?_)
      refine wt_e ?_
      refine we_isi "bool" m_isinstance m_bool ?_
      refine we_n 1 ?_
      refine ⟨_, rfl, ?_⟩
      rw [ti_str_bool]
      refine ⟨fun b => (by cases b), fun _ => ws_nil ?_⟩
      refine ws_cons (w1_if ?_)
      refine wt_e ?_
      refine we_isi "int" m_isinstance m_int ?_
      refine we_n 1 ?_
      refine ⟨_, rfl, ?_⟩
      rw [ti_str_int]
      refine ⟨fun b => (by cases b), fun _ => ws_nil ?_⟩
      refine ws_cons (w1_if ?_)
      refine wt_e ?_
      refine we_isi "str" m_isinstance m_str ?_
      refine we_n 1 ?_
      refine ⟨_, rfl, ?_⟩
      rw [ti_str_str]
      refine ⟨fun _ => ?_, fun b => (by cases b)⟩
      refine ws_cons (w1_ret ?_)
      refine we_and ?_
      refine we_isi "str" m_isinstance m_str ?_
      refine we_n 0 ?_
      rw [ti_str_str]
      refine ⟨_, rfl, fun _ => ?_, fun b => (by cases b)⟩
      refine we_one ?_
      refine we_cp (op_eqA hr) ?_
      refine we_n 0 ?_
      refine we_n 1 ?_
      exact ⟨_, cp_eqS, rfl, ret _ (decide_eq_true rfl) _⟩
    | list v =>
      first
        | (cases hok; done)
        | skip
          refine ws_cons (w1_if ?_)
          refine wt_cp op_isN ?_
          refine we_n 1 ?_
          refine we_none ?_
          refine ⟨_, cp_isN, fun b => (by cases b), fun _ => ws_nil ?_⟩
          refine ws_cons (w1_if ?_)
          refine wt_e ?_
          refine we_isi "bool" m_isinstance m_bool ?_
          refine we_n 1 ?_
          refine ⟨_, rfl, ?_⟩
          rw [ti_list_bool]
          refine ⟨fun b => (by cases b), fun _ => ws_nil ?_⟩
          refine ws_cons (w1_if ?_)
          refine wt_e ?_
          refine we_isi "int" m_isinstance m_int ?_
          refine we_n 1 ?_
          refine ⟨_, rfl, ?_⟩
          rw [ti_list_int]
          refine ⟨fun b => (by cases b), fun _ => ws_nil ?_⟩
          refine ws_cons (w1_if ?_)
          refine wt_e ?_
          refine we_isi "str" m_isinstance m_str ?_
          refine we_n 1 ?_
          refine ⟨_, rfl, ?_⟩
          rw [ti_list_str]
          refine ⟨fun b => (by cases b), fun _ => ws_nil ?_⟩
          refine ws_cons (w1_if ?_)
          refine wt_ww ?_
          refine ww_or ?_
          refine wt_cp (op_neA hr) ?_
          refine we_isi "list" m_isinstance m_list ?_
          refine we_n 1 ?_
          refine we_isi "list" m_isinstance m_list ?_
          refine we_n 0 ?_
          refine ⟨_, cp_neB, ?_⟩
          rw [ne_b]
          refine ⟨fun b => (by cases b), fun _ => ?_⟩
          refine ww_or1 ?_
          refine wt_cp (op_neA hr) ?_
          refine we_isi "tuple" m_isinstance m_tuple ?_
          refine we_n 1 ?_
          refine we_isi "tuple" m_isinstance m_tuple ?_
          refine we_n 0 ?_
          refine ⟨_, cp_neB, ?_⟩
          rw [ne_b]
          refine ⟨fun b => (by cases b), fun _ => ws_nil ?_⟩
          refine ws_cons (w1_if ?_)
          refine wt_ww ?_
          refine ww_or ?_
          refine wt_not ?_
          refine wt_e ?_
          refine we_isiLT m_isinstance m_list m_tuple ?_
          refine we_n 0 ?_
          refine ⟨_, rfl, ?_⟩
          rw [ti_list_list, ti_list_tuple]
          refine ⟨fun b => (by cases b), fun _ => ?_⟩
          refine ww_or1 ?_
          refine wt_cp (op_neA hr) ?_
          refine we_len m_len ?_
          refine we_n 0 ?_
          refine .lst ?_
          refine we_len m_len ?_
          refine we_n 1 ?_
          refine .lst ?_
          refine ⟨_, cp_neI, ?_⟩
          rw [decide_eq_true rfl]
          refine ⟨fun b => (by cases b), fun _ => ws_nil ?_⟩
          have hok1 := Bool.and_eq_true_iff.mp hok
          have hsz := of_decide_eq_true hok1.1
          refine ws_cons (w1_ret ?_)
          refine we_all m_all rfl ?_
          refine we_of_wn ?_
          refine wn_lcR1 m_range (own := [("_law_at", 2)]) rfl sc__law_alike.nd (blkOk_by (by rfl)) (fun _ _ _ _ _ => (pg_name (i := 2) sc__law_alike.nd rfl (by first | exact Or.inl rfl | exact Or.inr rfl))) (tgd_name 2) (by decide) rfl ?_
          refine we_len m_len ?_
          refine we_n 1 ?_
          refine .lst ?_
          refine ⟨_, fun i acc => acc = (List.replicate i true).map .bool, rfl, by omega, rfl, fun i hi => ⟨_, rfl, rfl, ?_⟩, fun acc ha => ?_⟩
          · intro acc ha g1 s1 H1 C1 cl1 fp1
            refine ⟨fun _ s1 H1 C1 cl1 fp1 => ?_, fun z => by cases z⟩
            have hi2 : i < v.length := by omega
            refine we_call ih hr ?_
            refine wa_d ?_
            refine we_ix ?_
            refine we_n 0 ?_
            refine we_n 2 ?_
            refine ix_lst (x := v[i]) (by omega) (by simp [hi2]) ?_
            refine ⟨rfl, ?_⟩
            refine wa_d ?_
            refine we_ix ?_
            refine we_n 1 ?_
            refine we_n 2 ?_
            refine ix_lst (x := v[i]) (by omega) (by simp [hi2]) ?_
            refine ⟨rfl, ?_⟩
            refine wa_nil ?_
            refine ⟨rfl, v[i], rfl, List.all_eq_true.mp hok1.2 _ (List.getElem_mem hi2), rfl, _, rfl, ?_⟩
            refine ⟨rfl, ?_⟩
            subst ha
            show _ = _
            rw [List.replicate_succ', List.map_append]
            rfl
          · subst ha
            refine ⟨List.replicate v.length true, by simp, ?_⟩
            exact ⟨rfl, ret _ (by simp) _⟩
    | tuple v =>
      first
        | (cases hok; done)
        | skip
          refine ws_cons (w1_if ?_)
          refine wt_cp op_isN ?_
          refine we_n 1 ?_
          refine we_none ?_
          refine ⟨_, cp_isN, fun b => (by cases b), fun _ => ws_nil ?_⟩
          refine ws_cons (w1_if ?_)
          refine wt_e ?_
          refine we_isi "bool" m_isinstance m_bool ?_
          refine we_n 1 ?_
          refine ⟨_, rfl, ?_⟩
          rw [ti_tuple_bool]
          refine ⟨fun b => (by cases b), fun _ => ws_nil ?_⟩
          refine ws_cons (w1_if ?_)
          refine wt_e ?_
          refine we_isi "int" m_isinstance m_int ?_
          refine we_n 1 ?_
          refine ⟨_, rfl, ?_⟩
          rw [ti_tuple_int]
          refine ⟨fun b => (by cases b), fun _ => ws_nil ?_⟩
          refine ws_cons (w1_if ?_)
          refine wt_e ?_
          refine we_isi "str" m_isinstance m_str ?_
          refine we_n 1 ?_
          refine ⟨_, rfl, ?_⟩
          rw [ti_tuple_str]
          refine ⟨fun b => (by cases b), fun _ => ws_nil ?_⟩
          refine ws_cons (w1_if ?_)
          refine wt_ww ?_
          refine ww_or ?_
          refine wt_cp (op_neA hr) ?_
          refine we_isi "list" m_isinstance m_list ?_
          refine we_n 1 ?_
          refine we_isi "list" m_isinstance m_list ?_
          refine we_n 0 ?_
          refine ⟨_, cp_neB, ?_⟩
          rw [ne_b]
          refine ⟨fun b => (by cases b), fun _ => ?_⟩
          refine ww_or1 ?_
          refine wt_cp (op_neA hr) ?_
          refine we_isi "tuple" m_isinstance m_tuple ?_
          refine we_n 1 ?_
          refine we_isi "tuple" m_isinstance m_tuple ?_
          refine we_n 0 ?_
          refine ⟨_, cp_neB, ?_⟩
          rw [ne_b]
          refine ⟨fun b => (by cases b), fun _ => ws_nil ?_⟩
          refine ws_cons (w1_if ?_)
          refine wt_ww ?_
          refine ww_or ?_
          refine wt_not ?_
          refine wt_e ?_
          refine we_isiLT m_isinstance m_list m_tuple ?_
          refine we_n 0 ?_
          refine ⟨_, rfl, ?_⟩
          rw [ti_tuple_list, ti_tuple_tuple]
          refine ⟨fun b => (by cases b), fun _ => ?_⟩
          refine ww_or1 ?_
          refine wt_cp (op_neA hr) ?_
          refine we_len m_len ?_
          refine we_n 0 ?_
          refine .tup ?_
          refine we_len m_len ?_
          refine we_n 1 ?_
          refine .tup ?_
          refine ⟨_, cp_neI, ?_⟩
          rw [decide_eq_true rfl]
          refine ⟨fun b => (by cases b), fun _ => ws_nil ?_⟩
          have hok1 := Bool.and_eq_true_iff.mp hok
          have hsz := of_decide_eq_true hok1.1
          refine ws_cons (w1_ret ?_)
          refine we_all m_all rfl ?_
          refine we_of_wn ?_
          refine wn_lcR1 m_range (own := [("_law_at", 2)]) rfl sc__law_alike.nd (blkOk_by (by rfl)) (fun _ _ _ _ _ => (pg_name (i := 2) sc__law_alike.nd rfl (by first | exact Or.inl rfl | exact Or.inr rfl))) (tgd_name 2) (by decide) rfl ?_
          refine we_len m_len ?_
          refine we_n 1 ?_
          refine .tup ?_
          refine ⟨_, fun i acc => acc = (List.replicate i true).map .bool, rfl, by omega, rfl, fun i hi => ⟨_, rfl, rfl, ?_⟩, fun acc ha => ?_⟩
          · intro acc ha g1 s1 H1 C1 cl1 fp1
            refine ⟨fun _ s1 H1 C1 cl1 fp1 => ?_, fun z => by cases z⟩
            have hi2 : i < v.length := by omega
            refine we_call ih hr ?_
            refine wa_d ?_
            refine we_ix ?_
            refine we_n 0 ?_
            refine we_n 2 ?_
            refine ix_tup (x := v[i]) (by omega) (by simp [hi2]) ?_
            refine ⟨rfl, ?_⟩
            refine wa_d ?_
            refine we_ix ?_
            refine we_n 1 ?_
            refine we_n 2 ?_
            refine ix_tup (x := v[i]) (by omega) (by simp [hi2]) ?_
            refine ⟨rfl, ?_⟩
            refine wa_nil ?_
            refine ⟨rfl, v[i], rfl, List.all_eq_true.mp hok1.2 _ (List.getElem_mem hi2), rfl, _, rfl, ?_⟩
            refine ⟨rfl, ?_⟩
            subst ha
            show _ = _
            rw [List.replicate_succ', List.map_append]
            rfl
          · subst ha
            refine ⟨List.replicate v.length true, by simp, ?_⟩
            exact ⟨rfl, ret _ (by simp) _⟩
theorem ok__law_alike (h : Has P w K mg base k "_law_alike" ["_law_found", "_law_due"] (o__law_alike 8)) : Has P w K mg base k "_law_alike" ["_law_found", "_law_due"] c__law_alike := h.imp fun args Φ Ψ ⟨x, y, Kf, Ef, e, hf, h1, h2⟩ => by
  subst e
  obtain ⟨rfl, hx, hk⟩ := hf
  exact ⟨x, rfl, hx, h1 _ hk⟩
theorem ok_law (F : FnP K "law" s_law f fd) (ho__law_bag : Has P w K mg base k "_law_bag" ["_law_script"] o__law_bag) (m_range : mg "range" = none) (h__law_pull : Has P w K mg base k "_law_pull" ["_law_bag_here", "_law_many"] c__law_pull) (h__law_told_text : Has P w K mg base k "_law_told_text" ["_law_text"] c__law_told_text) (h__law_deed_text : Has P w K mg base k "_law_deed_text" ["_law_deed"] c__law_deed_text) (h__law_any_deed : Has P w K mg base k "_law_any_deed" ["_law_bag_here"] c__law_any_deed) (h__law_read : Has P w K mg base k "_law_read" ["_law_text"] c__law_read) (h__law_alike : Has P w K mg base k "_law_alike" ["_law_found", "_law_due"] c__law_alike) (h__law_bent_text : Has P w K mg base k "_law_bent_text" ["_law_bag_here", "_law_text"] c__law_bent_text) :
    FnOk P w K mg base (L2.CX P w) (k + 1) f fd ["_law_script"] (spOf K 1 cLaw) := by
  refine fn_ok (ps := ["_law_script"]) F sc_law rfl ?_
  rintro cdv A outer s H E g args Φ Ψ hr hp hM hl ⟨ns, rfl, hns, hΦ⟩
  have h := e_law_k50 ns hns
  unfold f_law_k50 at h
  have hK : ∀ r, r = PyData.bool true → Φ (.rd r) [.d (.list (ns.map .int))] := fun r e => e ▸ hΦ
  have hE : ∀ c, False → Ψ c [.d (.list (ns.map .int))] := fun c h => h.elim
  refine ws_env (env' := [.d (.list (ns.map .int)), .un, .un, .un, .un, .un]) rfl ?_
  refine ws_cons (w1_setN 1 sc_law.nd ?_)
  refine wn_call ho__law_bag hr ?_
  refine wa_d ?_
  refine we_n 0 ?_
  refine ⟨rfl, ?_⟩
  refine wa_nil ?_
  refine ⟨rfl, ns, rfl, hns, fun ds hds => ⟨rfl, ds, rfl, ?_⟩⟩
  intro a_bag n_bag
  refine ws_close 1 rfl hds ?_
  refine ws_env (env' := [.d (.list (ns.map .int)), .bg a_bag, .un, .un, .un, .un]) rfl ?_
  refine ws_cons (w1_for hp rfl (pg_name (i := 2) sc_law.nd rfl (by first | exact Or.inl rfl | exact Or.inr rfl)) (tgd_name 2) ?_)
  refine wi_r1 m_range ?_
  refine we_ix ?_
  refine we_list ?_
  refine wa_d ?_
  refine we_int ?_
  refine ⟨rfl, ?_⟩
  refine wa_d ?_
  refine we_int ?_
  refine ⟨rfl, ?_⟩
  refine wa_d ?_
  refine we_int ?_
  refine ⟨rfl, ?_⟩
  refine wa_nil ?_
  refine ⟨_, rfl, szOk rfl, ?_⟩
  refine we_call h__law_pull hr ?_
  refine wa_s 1 ?_
  refine wa_d ?_
  refine we_int ?_
  refine ⟨rfl, ?_⟩
  refine wa_nil ?_
  refine ⟨rfl, _, _, _, _, rfl, h, fun r2 h => ⟨rfl, _, rfl, ?_⟩, fun c hc => ⟨rfl, ⟨_, hE _ hc, rfl, rfl⟩⟩⟩
  refine ix_sh h fun r3 h => ?_
  refine rng_sh h fun xs1 h => ?_
  refine forS h (fun (s : Unit) (u : Sl × Sl × Sl × Sl) => [.d (.list (ns.map .int)), .bg a_bag, u.2.2.2, u.1, u.2.1, u.2.2.1]) ((.un), (.un), (.un), (.un)) rfl ?_ ?_
  · rintro _ ⟨w4, w5, w6, w7⟩ h
    refine ws_env (env' := [.d (.list (ns.map .int)), .bg a_bag, w7, w4, w5, w6]) rfl ?_
    refine ws_cons (w1_ret ?_)
    refine we_cp (op_eqA hr) ?_
    refine we_call h__law_told_text hr ?_
    refine wa_d ?_
    refine we_str ?_
    refine ⟨rfl, ?_⟩
    refine wa_nil ?_
    refine ⟨rfl, _, _, _, rfl, h, fun r8 h => ⟨rfl, _, rfl, ?_⟩, fun c hc => ⟨rfl, ⟨_, hE _ hc, rfl, rfl⟩⟩⟩
    refine we_tuple ?_
    refine wa_d ?_
    refine we_str ?_
    refine ⟨rfl, ?_⟩
    refine wa_d ?_
    refine we_int ?_
    refine ⟨rfl, ?_⟩
    refine wa_nil ?_
    refine ⟨_, rfl, szOk rfl, ?_⟩
    refine eq_sh h fun b9 h => ?_
    exact ⟨rfl, _, hK _ h, trivial, rfl, rfl⟩
  · rintro hend l_turn10 _ ⟨w13, w14, w15, w16⟩ N11 h
    refine ⟨[(2, l_turn10)], rfl, rfl, ?_⟩
    refine ws_env (env' := [.d (.list (ns.map .int)), .bg a_bag, .d l_turn10, w13, w14, w15]) rfl ?_
    refine ws_cons (w1_set 3 sc_law.nd ?_)
    refine we_call h__law_deed_text hr ?_
    refine wa_d ?_
    refine we_call h__law_any_deed hr ?_
    refine wa_s 1 ?_
    refine wa_nil ?_
    refine ⟨rfl, _, _, _, rfl, h, fun r17 h => ⟨rfl, _, rfl, ?_⟩, fun c hc => ⟨rfl, ⟨_, hE _ hc, rfl, rfl⟩⟩⟩
    refine ⟨rfl, ?_⟩
    refine wa_nil ?_
    refine ⟨rfl, _, _, _, rfl, h, fun r18 h => ⟨rfl, _, rfl, ?_⟩, fun c hc => ⟨rfl, ⟨_, hE _ hc, rfl, rfl⟩⟩⟩
    refine ⟨rfl, ?_⟩
    refine ws_env (env' := [.d (.list (ns.map .int)), .bg a_bag, .d l_turn10, .d r18, w14, w15]) rfl ?_
    refine ws_cons (w1_for hp rfl (pg_name (i := 4) sc_law.nd rfl (by first | exact Or.inl rfl | exact Or.inr rfl)) (tgd_name 4) ?_)
    refine wi_r1 m_range ?_
    refine we_add ?_
    refine we_int ?_
    refine we_call h__law_pull hr ?_
    refine wa_s 1 ?_
    refine wa_d ?_
    refine we_int ?_
    refine ⟨rfl, ?_⟩
    refine wa_nil ?_
    refine ⟨rfl, _, _, _, _, rfl, h, fun r20 h => ⟨rfl, _, rfl, ?_⟩, fun c hc => ⟨rfl, ⟨_, hE _ hc, rfl, rfl⟩⟩⟩
    refine add_sh h fun r21 h => ?_
    refine rng_sh h fun xs19 h => ?_
    refine forS h (fun (s : PyData) (u : Sl) => [.d (.list (ns.map .int)), .bg a_bag, .d l_turn10, .d s, u, w15]) (w14) rfl ?_ ?_
    · rintro l_text22 w23 h
      refine ws_env (env' := [.d (.list (ns.map .int)), .bg a_bag, .d l_turn10, .d l_text22, w23, w15]) rfl ?_
      refine ws_cons (w1_set 5 sc_law.nd ?_)
      refine we_call h__law_read hr ?_
      refine wa_d ?_
      refine we_n 3 ?_
      refine ⟨rfl, ?_⟩
      refine wa_nil ?_
      refine ⟨rfl, _, _, _, rfl, h, fun r24 h => ⟨rfl, _, rfl, ?_⟩, fun c hc => ⟨rfl, ⟨_, hE _ hc, rfl, rfl⟩⟩⟩
      refine ⟨rfl, ?_⟩
      refine ws_env (env' := [.d (.list (ns.map .int)), .bg a_bag, .d l_turn10, .d l_text22, w23, .d r24]) rfl ?_
      refine ws_joinS h (fun (s : PyData) (u : Unit) => [.d (.list (ns.map .int)), .bg a_bag, .d l_turn10, .d l_text22, w23, .d s]) (fun Q h => ?_) ?_
      · refine w1_if ?_
        refine wt_cp op_isN ?_
        refine we_n 5 ?_
        refine we_none ?_
        refine isN_sh ?_
        obtain ⟨h25, h26⟩ := h
        refine ⟨fun e27 => ?_, fun e27 => ?_⟩
        · replace h := h25 e27
          refine ws_cons (w1_set 5 sc_law.nd ?_)
          refine we_tuple ?_
          refine wa_d ?_
          refine we_str ?_
          refine ⟨rfl, ?_⟩
          refine wa_d ?_
          refine we_int ?_
          refine ⟨rfl, ?_⟩
          refine wa_nil ?_
          refine ⟨_, rfl, szOk rfl, ?_⟩
          refine ⟨rfl, ?_⟩
          refine ws_env (env' := [.d (.list (ns.map .int)), .bg a_bag, .d l_turn10, .d l_text22, w23, .d (.tuple [(.str "BadText"), (.int 0)])]) rfl ?_
          exact ws_nil ⟨(.tuple [(.str "BadText"), (.int 0)]), (), h, rfl⟩
        · replace h := h26 e27
          exact ws_nil ⟨r24, (), h, rfl⟩
      · rintro l_due28 _ h
        refine ws_env (env' := [.d (.list (ns.map .int)), .bg a_bag, .d l_turn10, .d l_text22, w23, .d l_due28]) rfl ?_
        refine ws_cons (w1_if ?_)
        refine wt_not ?_
        refine wt_e ?_
        refine we_call h__law_alike hr ?_
        refine wa_d ?_
        refine we_call h__law_told_text hr ?_
        refine wa_d ?_
        refine we_n 3 ?_
        refine ⟨rfl, ?_⟩
        refine wa_nil ?_
        refine ⟨rfl, _, _, _, rfl, h, fun r29 h => ⟨rfl, _, rfl, ?_⟩, fun c hc => ⟨rfl, ⟨_, hE _ hc, rfl, rfl⟩⟩⟩
        refine ⟨rfl, ?_⟩
        refine wa_d ?_
        refine we_n 5 ?_
        refine ⟨rfl, ?_⟩
        refine wa_nil ?_
        refine ⟨rfl, _, _, _, _, rfl, h, fun r30 h => ⟨rfl, _, rfl, ?_⟩, fun c hc => ⟨rfl, ⟨_, hE _ hc, rfl, rfl⟩⟩⟩
        refine bool_sh h fun b31 h => ?_
        obtain ⟨h32, h33⟩ := h
        refine ⟨fun e34 => ?_, fun e34 => ?_⟩
        · replace h := h32 e34
          refine ws_cons (w1_ret ?_)
          refine we_bool ?_
          exact ⟨rfl, _, hK _ h, trivial, rfl, rfl⟩
        · replace h := h33 e34
          refine ws_nil ?_
          exact ws_nil ⟨(), ((.d l_text22), (w23), (.d l_due28), (.d l_turn10)), h, rfl⟩
    · rintro hend l_bend35 l_text38 w39 N36 h
      refine ⟨[(4, l_bend35)], rfl, rfl, ?_⟩
      refine ws_env (env' := [.d (.list (ns.map .int)), .bg a_bag, .d l_turn10, .d l_text38, .d l_bend35, w15]) rfl ?_
      refine ws_cons (w1_set 3 sc_law.nd ?_)
      refine we_call h__law_bent_text hr ?_
      refine wa_s 1 ?_
      refine wa_d ?_
      refine we_n 3 ?_
      refine ⟨rfl, ?_⟩
      refine wa_nil ?_
      refine ⟨rfl, _, _, _, _, rfl, h, fun r40 h => ⟨rfl, _, rfl, ?_⟩, fun c hc => ⟨rfl, ⟨_, hE _ hc, rfl, rfl⟩⟩⟩
      refine ⟨rfl, ?_⟩
      refine ws_env (env' := [.d (.list (ns.map .int)), .bg a_bag, .d l_turn10, .d r40, .d l_bend35, w15]) rfl ?_
      exact ws_nil ⟨r40, (.d l_bend35), h, rfl⟩
end
end Tx
namespace Tx
open Hd PySem PySem.Spec PyProof.Rows L2 TL
set_option maxRecDepth 100000
theorem facts {P : Program} {w : World} {K0 K : PySem.W.Frag} (hK : K = markK tf K0) {h : Heap} {mg : Str → Option Value} {f : Addr} (X0 : K0.In h) (G : h.Ns mainGlobals mg) (hfa : mg ("law" : Str) = some (.ref f)) (sl : SaysL xf fa fn tf h K0) (ct0 : SaysTb tf ts w K0) :
    ∃ fd : FuncData, (∀ (s : Shared) (v : Value), BindsTo s fd ⟨[v], []⟩ [("_law_script", v)]) ∧ ∀ base : Heap, K.In base → base.Ns mainGlobals mg → (∀ p ∈ csOf tf K0, LamX.TabB base mg p.1 p.2) → FnOk P w K mg base (L2.CX P w) 70 f fd ["_law_script"] (spOf K 1 cLaw) := by
  have X : K.In h := by rw [hK]; exact sl.kin X0
  have c : SaysX xf fa fn K := by rw [hK]; exact sl.x
  have ct : ∀ (i : Nat) (t : He.Tab), ts[i]? = some t → He.dicW K (t.1 K) = some (He.keysIn w.params t.2) := by rw [hK]; exact ct0
  obtain ⟨fd_is_name, F_is_name⟩ := c.d.def_ 0 (d := d_is_name) rfl
  obtain ⟨fd_is_letter, F_is_letter⟩ := c.d.def_ 1 (d := d_is_letter) rfl
  obtain ⟨fd_number_in, F_number_in⟩ := c.d.def_ 2 (d := d_number_in) rfl
  obtain ⟨fd_pair_in, F_pair_in⟩ := c.d.def_ 3 (d := d_pair_in) rfl
  obtain ⟨fd_plan_in, F_plan_in⟩ := c.d.def_ 4 (d := d_plan_in) rfl
  obtain ⟨fd_one_in, F_one_in⟩ := c.d.def_ 5 (d := d_one_in) rfl
  obtain ⟨fd_thing_in, F_thing_in⟩ := c.d.def_ 6 (d := d_thing_in) rfl
  obtain ⟨fd_deed_in, F_deed_in⟩ := c.d.def_ 7 (d := d_deed_in) rfl
  obtain ⟨fd_read_deed, F_read_deed⟩ := c.d.def_ 8 (d := d_read_deed) rfl
  obtain ⟨fd__law_alike, F__law_alike⟩ := c.d.def_ 9 (d := d__law_alike) rfl
  obtain ⟨fd__law_any_deed, F__law_any_deed⟩ := c.d.def_ 10 (d := d__law_any_deed) rfl
  obtain ⟨fd__law_bag, F__law_bag⟩ := c.d.def_ 11 (d := d__law_bag) rfl
  obtain ⟨fd__law_bent_text, F__law_bent_text⟩ := c.d.def_ 12 (d := d__law_bent_text) rfl
  obtain ⟨fd__law_cut_arc, F__law_cut_arc⟩ := c.d.def_ 13 (d := d__law_cut_arc) rfl
  obtain ⟨fd__law_deed_text, F__law_deed_text⟩ := c.d.def_ 14 (d := d__law_deed_text) rfl
  obtain ⟨fd__law_digits, F__law_digits⟩ := c.d.def_ 15 (d := d__law_digits) rfl
  obtain ⟨fd__law_drawn_plan, F__law_drawn_plan⟩ := c.d.def_ 16 (d := d__law_drawn_plan) rfl
  obtain ⟨fd__law_good_name, F__law_good_name⟩ := c.d.def_ 17 (d := d__law_good_name) rfl
  obtain ⟨fd__law_pair, F__law_pair⟩ := c.d.def_ 18 (d := d__law_pair) rfl
  obtain ⟨fd__law_plan, F__law_plan⟩ := c.d.def_ 19 (d := d__law_plan) rfl
  obtain ⟨fd__law_plan_read, F__law_plan_read⟩ := c.d.def_ 20 (d := d__law_plan_read) rfl
  obtain ⟨fd__law_plan_text, F__law_plan_text⟩ := c.d.def_ 21 (d := d__law_plan_text) rfl
  obtain ⟨fd__law_pull, F__law_pull⟩ := c.d.def_ 22 (d := d__law_pull) rfl
  obtain ⟨fd__law_read, F__law_read⟩ := c.d.def_ 23 (d := d__law_read) rfl
  obtain ⟨fd__law_told_text, F__law_told_text⟩ := c.d.def_ 24 (d := d__law_told_text) rfl
  obtain ⟨fd__law_whole, F__law_whole⟩ := c.d.def_ 25 (d := d__law_whole) rfl
  obtain ⟨fd_law, F_law⟩ := c.d.def_ 26 (d := d_law) rfl
  obtain ⟨fd_BadText__init, F_BadText__init⟩ := c.d.def_ 27 (d := d_BadText__init) rfl
  have ef_BadText : ExF K "BadText" ["at"] := exfB_ok (c.xf 3)
  have hx_BadText__init : ∀ base : Heap, XHas P w K mg base 1 "BadText" ["at"] := fun base => ⟨fd_BadText__init, He.glo_ok X G (c.d.fact 28 (f := .glo "BadText") rfl), ef_BadText, F_BadText__init.bindsN (ps := ["self", "at"]) fun _ _ _ _ _ _ us hl => match us, hl with | [_, _], _ => rfl, okx_BadText__init (k := 0) F_BadText__init (He.glo_ok X G (c.d.fact 27 (f := .glo "PinchError") rfl)) (pinB_ok (c.xf 4)) ef_BadText⟩
  have e := hfa.symm.trans (He.glo_ok X G (c.d.fact 26 (f := .glo "law") rfl))
  cases e
  have bl := FunD.bindsA (ps := ["_law_script"]) F_law fun _ _ _ _ _ _ us hl => match us, hl with | [_], _ => rfl
  refine ⟨fd_law, fun s v => bl s [v] rfl, fun base _ _ hB => ?_⟩
  have h_o__law_bag := ok_o__law_bag (P := P) (w := w) (K := K) (mg := mg) (base := base) (k := 0) F__law_bag (He.glo_ok X G (c.d.fact 11 (f := .glo "_law_bag") rfl)) (F__law_bag.bindsN fun _ _ _ _ _ _ us hl => match us, hl with | [_], _ => rfl) (He.free_ok X G (c.d.fact 34 (f := .free "len") rfl)) (He.free_ok X G (c.d.fact 29 (f := .free "abs") rfl)) (He.free_ok X G (c.d.fact 32 (f := .free "int") rfl))
  have h__law_plan_text := ok__law_plan_text (P := P) (w := w) (K := K) (mg := mg) (base := base) (k := 0) F__law_plan_text (He.glo_ok X G (c.d.fact 21 (f := .glo "_law_plan_text") rfl)) (F__law_plan_text.bindsN fun _ _ _ _ _ _ us hl => match us, hl with | [_], _ => rfl) (He.free_ok X G (c.d.fact 40 (f := .free "str") rfl))
  have h__law_deed_text := ok__law_deed_text (P := P) (w := w) (K := K) (mg := mg) (base := base) (k := 1) F__law_deed_text (He.glo_ok X G (c.d.fact 14 (f := .glo "_law_deed_text") rfl)) (F__law_deed_text.bindsN fun _ _ _ _ _ _ us hl => match us, hl with | [_], _ => rfl) (He.free_ok X G (c.d.fact 33 (f := .free "isinstance") rfl)) (He.free_ok X G (c.d.fact 41 (f := .free "tuple") rfl)) (h__law_plan_text.mono (by decide)) (He.free_ok X G (c.d.fact 40 (f := .free "str") rfl))
  have h__law_good_name := ok__law_good_name (P := P) (w := w) (K := K) (mg := mg) (base := base) (k := 0) F__law_good_name (He.glo_ok X G (c.d.fact 17 (f := .glo "_law_good_name") rfl)) (F__law_good_name.bindsN fun _ _ _ _ _ _ us hl => match us, hl with | [_], _ => rfl) (He.free_ok X G (c.d.fact 34 (f := .free "len") rfl)) (He.free_ok X G (c.d.fact 30 (f := .free "all") rfl))
  have h__law_digits := ok__law_digits (P := P) (w := w) (K := K) (mg := mg) (base := base) (k := 0) F__law_digits (He.glo_ok X G (c.d.fact 15 (f := .glo "_law_digits") rfl)) (F__law_digits.bindsN fun _ _ _ _ _ _ us hl => match us, hl with | [_], _ => rfl) (He.free_ok X G (c.d.fact 34 (f := .free "len") rfl)) (He.free_ok X G (c.d.fact 30 (f := .free "all") rfl)) (He.free_ok X G (c.d.fact 32 (f := .free "int") rfl))
  have h__law_plan_read := ok__law_plan_read (P := P) (w := w) (K := K) (mg := mg) (base := base) (k := 1) F__law_plan_read (He.glo_ok X G (c.d.fact 20 (f := .glo "_law_plan_read") rfl)) (F__law_plan_read.bindsN fun _ _ _ _ _ _ us hl => match us, hl with | [_], _ => rfl) (He.free_ok X G (c.d.fact 34 (f := .free "len") rfl)) (h__law_digits.mono (by decide)) (He.free_ok X G (c.d.fact 41 (f := .free "tuple") rfl))
  have h__law_read := ok__law_read (P := P) (w := w) (K := K) (mg := mg) (base := base) (k := 2) F__law_read (He.glo_ok X G (c.d.fact 23 (f := .glo "_law_read") rfl)) (F__law_read.bindsN fun _ _ _ _ _ _ us hl => match us, hl with | [_], _ => rfl) (He.free_ok X G (c.d.fact 34 (f := .free "len") rfl)) (He.free_ok X G (c.d.fact 42 (f := .free "zip") rfl)) (He.free_ok X G (c.d.fact 41 (f := .free "tuple") rfl)) (h__law_good_name.mono (by decide)) (h__law_digits.mono (by decide)) (h__law_plan_read.mono (by decide))
  have h_number_in := ok_number_in (P := P) (w := w) (K := K) (mg := mg) (base := base) (k := 0) F_number_in (He.glo_ok X G (c.d.fact 2 (f := .glo "number_in") rfl)) (F_number_in.bindsN fun _ _ _ _ _ _ us hl => match us, hl with | [_], _ => rfl) (He.free_ok X G (c.d.fact 34 (f := .free "len") rfl)) (He.int_ok X G (c.d.fact 48 (f := .int "MOST_FIGURES" 4) rfl)) (He.free_ok X G (c.d.fact 30 (f := .free "all") rfl)) (He.str_ok X G (c.d.fact 47 (f := .str "FIGURES" "0123456789") rfl)) (He.free_ok X G (c.d.fact 32 (f := .free "int") rfl))
  have h_pair_in := ok_pair_in (P := P) (w := w) (K := K) (mg := mg) (base := base) (k := 1) F_pair_in (He.glo_ok X G (c.d.fact 3 (f := .glo "pair_in") rfl)) (F_pair_in.bindsN fun _ _ _ _ _ _ us hl => match us, hl with | [_], _ => rfl) (He.free_ok X G (c.d.fact 34 (f := .free "len") rfl)) (h_number_in.mono (by decide)) (He.free_ok X G (c.d.fact 41 (f := .free "tuple") rfl))
  have h_plan_in := ok_plan_in (P := P) (w := w) (K := K) (mg := mg) (base := base) (k := 2) F_plan_in (He.glo_ok X G (c.d.fact 4 (f := .glo "plan_in") rfl)) (F_plan_in.bindsN fun _ _ _ _ _ _ us hl => match us, hl with | [_], _ => rfl) (He.free_ok X G (c.d.fact 34 (f := .free "len") rfl)) (h_number_in.mono (by decide)) (h_pair_in.mono (by decide)) (He.free_ok X G (c.d.fact 41 (f := .free "tuple") rfl))
  have h_one_in := ok_one_in (P := P) (w := w) (K := K) (mg := mg) (base := base) (k := 0) F_one_in (He.glo_ok X G (c.d.fact 5 (f := .glo "one_in") rfl)) (F_one_in.bindsN fun _ _ _ _ _ _ us hl => match us, hl with | [_, _], _ => rfl)
  have h_is_name := ok_is_name (P := P) (w := w) (K := K) (mg := mg) (base := base) (k := 0) F_is_name (He.glo_ok X G (c.d.fact 0 (f := .glo "is_name") rfl)) (F_is_name.bindsN fun _ _ _ _ _ _ us hl => match us, hl with | [_], _ => rfl) (He.free_ok X G (c.d.fact 34 (f := .free "len") rfl)) (He.int_ok X G (c.d.fact 45 (f := .int "LONGEST" 8) rfl)) (He.free_ok X G (c.d.fact 30 (f := .free "all") rfl)) (He.str_ok X G (c.d.fact 44 (f := .str "SIGNS" "abcdefghijklmnopqrstuvwxyz") rfl))
  have h_is_letter := ok_is_letter (P := P) (w := w) (K := K) (mg := mg) (base := base) (k := 0) F_is_letter (He.glo_ok X G (c.d.fact 1 (f := .glo "is_letter") rfl)) (F_is_letter.bindsN fun _ _ _ _ _ _ us hl => match us, hl with | [_], _ => rfl) (He.free_ok X G (c.d.fact 34 (f := .free "len") rfl)) (He.str_ok X G (c.d.fact 44 (f := .str "SIGNS" "abcdefghijklmnopqrstuvwxyz") rfl))
  have h_thing_in := ok_thing_in (P := P) (w := w) (K := K) (mg := mg) (base := base) (k := 3) F_thing_in (He.glo_ok X G (c.d.fact 6 (f := .glo "thing_in") rfl)) (F_thing_in.bindsN fun _ _ _ _ _ _ us hl => match us, hl with | [_, _], _ => rfl) (h_one_in.mono (by decide)) (h_is_name.mono (by decide)) (gtup_ok X G (c.d.fact 43 (f := .glo "WAYS") rfl) (c.xf 0)) (gtup_ok X G (c.d.fact 46 (f := .glo "COLOURS") rfl) (c.xf 1)) (h_is_letter.mono (by decide)) (h_number_in.mono (by decide)) (h_plan_in.mono (by decide))
  have h_deed_in := ok_deed_in (P := P) (w := w) (K := K) (mg := mg) (base := base) (k := 4) F_deed_in (He.glo_ok X G (c.d.fact 7 (f := .glo "deed_in") rfl)) (F_deed_in.bindsN fun _ _ _ _ _ _ us hl => match us, hl with | [_], _ => rfl) (gdct_ok X G (c.d.fact 49 (f := .glo "FORMS") rfl) (ct 0 _ rfl) (c.xf 2) rfl rfl) (He.free_ok X G (c.d.fact 34 (f := .free "len") rfl)) (He.free_ok X G (c.d.fact 42 (f := .free "zip") rfl)) (h_thing_in.mono (by decide)) (He.free_ok X G (c.d.fact 41 (f := .free "tuple") rfl))
  have h_read_deed := ok_read_deed (P := P) (w := w) (K := K) (mg := mg) (base := base) (k := 5) F_read_deed (He.glo_ok X G (c.d.fact 8 (f := .glo "read_deed") rfl)) (F_read_deed.bindsN fun _ _ _ _ _ _ us hl => match us, hl with | [_], _ => rfl) (h_deed_in.mono (by decide)) ((hx_BadText__init base).mono (by decide))
  have h__law_told_text := ok__law_told_text (P := P) (w := w) (K := K) (mg := mg) (base := base) (k := 7) F__law_told_text (He.glo_ok X G (c.d.fact 24 (f := .glo "_law_told_text") rfl)) (F__law_told_text.bindsN fun _ _ _ _ _ _ us hl => match us, hl with | [_], _ => rfl) (h_read_deed.mono (by decide)) ef_BadText (He.glo_ok X G (c.d.fact 28 (f := .glo "BadText") rfl)) (exm_cons (He.exm_ok (c.d.fact 51 (f := .exm "BadText" "BadText" true) rfl)) exm_nil)
  have h_o__law_pull := ok_o__law_pull (P := P) (w := w) (K := K) (mg := mg) (base := base) (k := 0) F__law_pull (He.glo_ok X G (c.d.fact 22 (f := .glo "_law_pull") rfl)) (F__law_pull.bindsN fun _ _ _ _ _ _ us hl => match us, hl with | [_, _], _ => rfl) (He.free_ok X G (c.d.fact 34 (f := .free "len") rfl))
  have h__law_pull := ok__law_pull (P := P) (w := w) (K := K) (mg := mg) (base := base) (k := 1) (h_o__law_pull.mono (by decide))
  have h_o__law_cut_arc := ok_o__law_cut_arc (P := P) (w := w) (K := K) (mg := mg) (base := base) F__law_cut_arc (He.glo_ok X G (c.d.fact 13 (f := .glo "_law_cut_arc") rfl)) (F__law_cut_arc.bindsN fun _ _ _ _ _ _ us hl => match us, hl with | [_, _, _, _], _ => rfl) (h_o__law_pull.mono (by decide)) 0 64
  have h__law_pair := ok__law_pair (P := P) (w := w) (K := K) (mg := mg) (base := base) (k := 0) F__law_pair (He.glo_ok X G (c.d.fact 18 (f := .glo "_law_pair") rfl)) (F__law_pair.bindsN fun _ _ _ _ _ _ us hl => match us, hl with | [_, _], _ => rfl) (He.free_ok X G (c.d.fact 37 (f := .free "min") rfl)) (He.free_ok X G (c.d.fact 36 (f := .free "max") rfl))
  have h_o__law_pair := ok_o__law_pair (P := P) (w := w) (K := K) (mg := mg) (base := base) (k := 0) F__law_pair (He.glo_ok X G (c.d.fact 18 (f := .glo "_law_pair") rfl)) (F__law_pair.bindsN fun _ _ _ _ _ _ us hl => match us, hl with | [_, _], _ => rfl) (He.free_ok X G (c.d.fact 37 (f := .free "min") rfl)) (He.free_ok X G (c.d.fact 36 (f := .free "max") rfl))
  have h_o__law_drawn_plan := ok_o__law_drawn_plan (P := P) (w := w) (K := K) (mg := mg) (base := base) (k := 66) F__law_drawn_plan (He.glo_ok X G (c.d.fact 16 (f := .glo "_law_drawn_plan") rfl)) (F__law_drawn_plan.bindsN fun _ _ _ _ _ _ us hl => match us, hl with | [_, _], _ => rfl) (He.free_ok X G (c.d.fact 41 (f := .free "tuple") rfl)) (h_o__law_cut_arc.mono (by decide)) (He.free_ok X G (c.d.fact 39 (f := .free "sorted") rfl)) (h_o__law_pair.mono (by decide))
  have h__law_drawn_plan := ok__law_drawn_plan (P := P) (w := w) (K := K) (mg := mg) (base := base) (k := 67) (h_o__law_drawn_plan.mono (by decide))
  have h__law_plan := ok__law_plan (P := P) (w := w) (K := K) (mg := mg) (base := base) (k := 67) F__law_plan (He.glo_ok X G (c.d.fact 19 (f := .glo "_law_plan") rfl)) (F__law_plan.bindsN fun _ _ _ _ _ _ us hl => match us, hl with | [_, _], _ => rfl) (h__law_pull.mono (by decide)) (h__law_drawn_plan.mono (by decide))
  have h__law_any_deed := ok__law_any_deed (P := P) (w := w) (K := K) (mg := mg) (base := base) (k := 68) F__law_any_deed (He.glo_ok X G (c.d.fact 10 (f := .glo "_law_any_deed") rfl)) (F__law_any_deed.bindsN fun _ _ _ _ _ _ us hl => match us, hl with | [_], _ => rfl) (h__law_pull.mono (by decide)) (He.free_ok X G (c.d.fact 38 (f := .free "range") rfl)) (h__law_plan.mono (by decide)) (He.free_ok X G (c.d.fact 41 (f := .free "tuple") rfl))
  have h__law_bent_text := ok__law_bent_text (P := P) (w := w) (K := K) (mg := mg) (base := base) (k := 1) F__law_bent_text (He.glo_ok X G (c.d.fact 12 (f := .glo "_law_bent_text") rfl)) (F__law_bent_text.bindsN fun _ _ _ _ _ _ us hl => match us, hl with | [_, _], _ => rfl) (h__law_pull.mono (by decide)) (He.free_ok X G (c.d.fact 34 (f := .free "len") rfl))
  have h__law_whole := ok__law_whole (P := P) (w := w) (K := K) (mg := mg) (base := base) (k := 0) F__law_whole (He.glo_ok X G (c.d.fact 25 (f := .glo "_law_whole") rfl)) (F__law_whole.bindsN fun _ _ _ _ _ _ us hl => match us, hl with | [_], _ => rfl) (He.free_ok X G (c.d.fact 33 (f := .free "isinstance") rfl)) (He.free_ok X G (c.d.fact 32 (f := .free "int") rfl)) (He.free_ok X G (c.d.fact 31 (f := .free "bool") rfl))
  have h_o__law_whole := ok_o__law_whole (P := P) (w := w) (K := K) (mg := mg) (base := base) (k := 0) F__law_whole (He.glo_ok X G (c.d.fact 25 (f := .glo "_law_whole") rfl)) (F__law_whole.bindsN fun _ _ _ _ _ _ us hl => match us, hl with | [_], _ => rfl) (He.free_ok X G (c.d.fact 33 (f := .free "isinstance") rfl)) (He.free_ok X G (c.d.fact 32 (f := .free "int") rfl)) (He.free_ok X G (c.d.fact 31 (f := .free "bool") rfl))
  have h_o__law_alike := ok_o__law_alike (P := P) (w := w) (K := K) (mg := mg) (base := base) F__law_alike (He.glo_ok X G (c.d.fact 9 (f := .glo "_law_alike") rfl)) (F__law_alike.bindsN fun _ _ _ _ _ _ us hl => match us, hl with | [_, _], _ => rfl) (He.free_ok X G (c.d.fact 33 (f := .free "isinstance") rfl)) (He.free_ok X G (c.d.fact 31 (f := .free "bool") rfl)) (He.free_ok X G (c.d.fact 32 (f := .free "int") rfl)) (He.free_ok X G (c.d.fact 40 (f := .free "str") rfl)) (He.free_ok X G (c.d.fact 30 (f := .free "all") rfl)) (h_o__law_whole.mono (by decide)) (He.free_ok X G (c.d.fact 35 (f := .free "list") rfl)) (He.free_ok X G (c.d.fact 41 (f := .free "tuple") rfl)) (He.free_ok X G (c.d.fact 34 (f := .free "len") rfl)) (He.free_ok X G (c.d.fact 38 (f := .free "range") rfl)) 0 8
  have h__law_alike := ok__law_alike (P := P) (w := w) (K := K) (mg := mg) (base := base) (k := 10) (h_o__law_alike.mono (by decide))
  exact ok_law (P := P) (w := w) (K := K) (mg := mg) (base := base) (k := 69) F_law (h_o__law_bag.mono (by decide)) (He.free_ok X G (c.d.fact 38 (f := .free "range") rfl)) (h__law_pull.mono (by decide)) (h__law_told_text.mono (by decide)) (h__law_deed_text.mono (by decide)) (h__law_any_deed.mono (by decide)) (h__law_read.mono (by decide)) (h__law_alike.mono (by decide)) (h__law_bent_text.mono (by decide))
end Tx
open PySem PySem.W PySem.Calls PyProof.Rows
theorem PySem.Challenge.cw_pinchfold_k50_texts_of_no_deed_holds : PySem.Challenge.rw_pinchfold_k50_texts_of_no_deed.Holds := by
  w_on; o_law
  refine HandSHeadRun.head_any (r := OpenLaw.row PySem.Challenge.rw_pinchfold_k50_texts_of_no_deed) (q := view (OpenLaw.row PySem.Challenge.rw_pinchfold_k50_texts_of_no_deed).prog [39]) (H := Tx.Hd.hk) (ob := Tx.Hd.ob) (M := 6000) (loose := Tx.Hd.loose) (d := HandSHeadRun.topDef (OpenLaw.row PySem.Challenge.rw_pinchfold_k50_texts_of_no_deed).prog 39) (kwd := []) Tx.Hd.ob_eq
    (by kernel_rfl) (fun s => by kernel_rfl) Tx.Hd.run (by kernel_rfl) (by kernel_rfl) (by kernel_rfl) (by rfl) (by first | assumption | decide +kernel) (by decide +kernel) ⟨rfl, rfl, rfl, rfl, rfl, by decide +kernel⟩ ?hw ?hc
  case hw => w_witness2
  case hc =>
    refine TL.walk_xT (l := PySem.Challenge.rw_pinchfold_k50_texts_of_no_deed) (m := 63) (j := 70) (x := "_law_script") rfl (by decide) (by kernel_rfl) ⟨rfl, by decide, by decide⟩ ?_
    intro w mg fa h Y G hmg0
    obtain ⟨K0, KX, c, ct⟩ := Y
    have hmg : mg ("law" : PySem.Str) = some (.ref fa) := by
      have e : (HandSHeadRun.topDef (OpenLaw.row PySem.Challenge.rw_pinchfold_k50_texts_of_no_deed).prog 39).name = ("law" : PySem.Str) := by kernel_rfl
      rw [← e]
      exact hmg0
    exact ⟨_, c.kin KX, TL.lawAt c KX (Tx.facts (P := (PySem.Challenge.rw_pinchfold_k50_texts_of_no_deed).prog) (w := w) rfl KX G hmg c ct)⟩
