import PyProof.Rows.All
import Wide.All
import OpenK.AllK
import Wide.FinOn
import HandS.ForMost
import HandS.Deep
import HandS.IsInst
import HandS.DictComp
import HandS.Walk
import HandS.Evl
import KE.SortKeyHeap
import KE.DataMinMax
import KE.GoesNew
import PyProof.ListStr
import PyProof.Rows.StrRev
import HandS.SortKw
import HandS.HeadHook1
import HandS.HeadHook2
import HandS.Codes
import HandS.HeadWalk
import KE.KStateDown
import HandS.Head0
import HandS.Head1
import HandS.Head2
import HandS.HeadEnd
import HandS.More
import HandS.Style
import PySem.Challenge.RW_toldpaths_k78_whole_telling_told
set_option Elab.async false
set_option linter.all false
set_option maxRecDepth 100000
set_option maxHeartbeats 4000000
/-! K78: a data layer over HandS: immutable data (PyData) in a part Hb of the heap, owned lists, dicts and one object beside it; judgements EW, BW, AW, IW, GW, SW over environments of data. -/
namespace K78
open PySem PySem.Spec L2
abbrev Frag := PySem.W.Frag
/-! ### data -/
mutual
/-- v stands for the data d, read off the heap H -/
inductive Dt (H : Hp) : V → PyData → Prop
  | non : Dt H .non .none
  | bl (b : Bool) : Dt H (.bl b) (.bool b)
  | int (i : Int) : Dt H (.int i) (.int i)
  | str (x : Str) : Dt H (.str x) (.str x)
  | lst {a : Addr} {xs : List V} {ds : List PyData} : H a = some (.lst xs) → DtAll H xs ds → Dt H (.ref a) (.list ds)
  | tup {a : Addr} {xs : List V} {ds : List PyData} : H a = some (.tup xs) → DtAll H xs ds → Dt H (.ref a) (.tuple ds)
inductive DtAll (H : Hp) : List V → List PyData → Prop
  | nil : DtAll H [] []
  | cons {v : V} {vs : List V} {d : PyData} {ds : List PyData} : Dt H v d → DtAll H vs ds → DtAll H (v :: vs) (d :: ds)
end
section
variable {K : Frag} {H H' : Hp}
mutual
theorem dt_mono (e : Same H H') : ∀ {v : V} {d : PyData}, Dt H v d → Dt H' v d
  | _, _, .non => .non
  | _, _, .bl b => .bl b
  | _, _, .int i => .int i
  | _, _, .str x => .str x
  | _, _, .lst s h => .lst (e _ _ s) (dta_mono e h)
  | _, _, .tup s h => .tup (e _ _ s) (dta_mono e h)
theorem dta_mono (e : Same H H') : ∀ {vs : List V} {ds : List PyData}, DtAll H vs ds → DtAll H' vs ds
  | _, _, .nil => .nil
  | _, _, .cons h r => .cons (dt_mono e h) (dta_mono e r)
end
mutual
theorem dt_dp : ∀ {v : V} {d : PyData}, Dt H v d → Dp K H v d
  | _, _, .non => .non
  | _, _, .bl b => .bl b
  | _, _, .int i => .int i
  | _, _, .str x => .str x
  | _, _, .lst s h => .lst (SqL.of s) (dta_dp h)
  | _, _, .tup s h => .tup (SqT.of s) (dta_dp h)
theorem dta_dp : ∀ {vs : List V} {ds : List PyData}, DtAll H vs ds → DpAll K H vs ds
  | _, _, .nil => .nil
  | _, _, .cons h r => .cons (dt_dp h) (dta_dp r)
end
theorem dta_len : ∀ {vs : List V} {ds : List PyData}, DtAll H vs ds → vs.length = ds.length
  | _, _, .nil => rfl
  | _, _, .cons _ r => congrArg (· + 1) (dta_len r)
theorem dta_at : ∀ {vs : List V} {ds : List PyData}, DtAll H vs ds → ∀ {i : Nat} {v : V}, vs[i]? = some v → ∃ d, ds[i]? = some d ∧ Dt H v d
  | _, _, .cons h r, 0, v, e => ⟨_, rfl, by cases e; exact h⟩
  | _, _, .cons h r, i + 1, v, e => dta_at r (i := i) e
theorem dta_atD : ∀ {vs : List V} {ds : List PyData}, DtAll H vs ds → ∀ {i : Nat} {d : PyData}, ds[i]? = some d → ∃ v, vs[i]? = some v ∧ Dt H v d
  | _, _, .cons h r, 0, v, e => ⟨_, rfl, by cases e; exact h⟩
  | _, _, .cons h r, i + 1, v, e => dta_atD r (i := i) e
theorem dta_snoc : ∀ {vs : List V} {ds : List PyData}, DtAll H vs ds → ∀ {v : V} {d : PyData}, Dt H v d → DtAll H (vs ++ [v]) (ds ++ [d])
  | _, _, .nil, _, _, h => .cons h .nil
  | _, _, .cons h r, _, _, h' => .cons h (dta_snoc r h')
theorem dta_app : ∀ {vs : List V} {ds : List PyData}, DtAll H vs ds → ∀ {ws : List V} {es : List PyData}, DtAll H ws es → DtAll H (vs ++ ws) (ds ++ es)
  | _, _, .nil, _, _, h => h
  | _, _, .cons h r, _, _, h' => .cons h (dta_app r h')
theorem dta_drop : ∀ {vs : List V} {ds : List PyData}, DtAll H vs ds → ∀ n, DtAll H (vs.drop n) (ds.drop n)
  | _, _, h, 0 => by simpa using h
  | _, _, .nil, n + 1 => by simpa using DtAll.nil
  | _, _, .cons h r, n + 1 => by simpa using dta_drop r n
theorem dta_take : ∀ {vs : List V} {ds : List PyData}, DtAll H vs ds → ∀ n, DtAll H (vs.take n) (ds.take n)
  | _, _, h, 0 => by simpa using DtAll.nil
  | _, _, .nil, n + 1 => by simpa using DtAll.nil
  | _, _, .cons h r, n + 1 => by simpa using DtAll.cons h (dta_take r n)
theorem dta_set : ∀ {vs : List V} {ds : List PyData}, DtAll H vs ds → ∀ (n : Nat) {v : V} {d : PyData}, Dt H v d → DtAll H (vs.set n v) (ds.set n d)
  | _, _, .nil, _, _, _, _ => by simpa using DtAll.nil
  | _, _, .cons h r, 0, _, _, h' => .cons h' r
  | _, _, .cons h r, n + 1, _, _, h' => .cons h (dta_set r n h')
theorem dta_rev : ∀ {vs : List V} {ds : List PyData}, DtAll H vs ds → DtAll H vs.reverse ds.reverse
  | _, _, .nil => .nil
  | _, _, .cons h r => by rw [List.reverse_cons, List.reverse_cons]; exact dta_snoc (dta_rev r) h
theorem dta_dropLast {vs : List V} {ds : List PyData} (h : DtAll H vs ds) : DtAll H vs.dropLast ds.dropLast := by
  rw [List.dropLast_eq_take, List.dropLast_eq_take, dta_len h]; exact dta_take h _
theorem dt_int {v : V} {i : Int} (h : Dt H v (.int i)) : v = .int i := by cases h; rfl
theorem dt_str {v : V} {i : Str} (h : Dt H v (.str i)) : v = .str i := by cases h; rfl
theorem dt_bl {v : V} {i : Bool} (h : Dt H v (.bool i)) : v = .bl i := by cases h; rfl
theorem dt_non {v : V} (h : Dt H v .none) : v = .non := by cases h; rfl
theorem dt_lst {v : V} {ds : List PyData} (h : Dt H v (.list ds)) : ∃ a vs, v = .ref a ∧ H a = some (.lst vs) ∧ DtAll H vs ds := by cases h with | lst s r => exact ⟨_, _, rfl, s, r⟩
theorem dt_tup {v : V} {ds : List PyData} (h : Dt H v (.tuple ds)) : ∃ a vs, v = .ref a ∧ H a = some (.tup vs) ∧ DtAll H vs ds := by cases h with | tup s r => exact ⟨_, _, rfl, s, r⟩
/-- flat data -/
def flat : PyData → Bool
  | .none => true | .bool _ => true | .int _ => true | .str _ => true | _ => false
def vOf : PyData → V
  | .none => .non | .bool b => .bl b | .int i => .int i | .str s => .str s | _ => .non
theorem dt_flat {v : V} {d : PyData} (f : flat d = true) (h : Dt H v d) : v = vOf d := by cases h <;> first | rfl | cases f
theorem dt_of_flat {d : PyData} (f : flat d = true) : Dt H (vOf d) d := by
  cases d with
  | none => exact .non
  | bool b => exact .bl b
  | int i => exact .int i
  | str s => exact .str s
  | _ => cases f
theorem dt_flat_any {v : V} {d : PyData} (f : flat d = true) (h : Dt H v d) : Dt H' v d := by rw [dt_flat f h]; exact dt_of_flat f
theorem dtAll_ints : ∀ {vs : List V} {is : List Int}, DtAll H vs (is.map .int) → vs = is.map V.int
  | _, [], .nil => rfl
  | _, i :: is, .cons h r => by rw [dt_int h, dtAll_ints r]; rfl
theorem dtAll_strs : ∀ {vs : List V} {is : List Str}, DtAll H vs (is.map .str) → vs = is.map V.str
  | _, [], .nil => rfl
  | _, i :: is, .cons h r => by rw [dt_str h, dtAll_strs r]; rfl
theorem dtAll_bls : ∀ {vs : List V} {is : List Bool}, DtAll H vs (is.map .bool) → vs = is.map V.bl
  | _, [], .nil => rfl
  | _, i :: is, .cons h r => by rw [dt_bl h, dtAll_bls r]; rfl
theorem dtAll_of_strs : ∀ (is : List Str), DtAll H (is.map V.str) (is.map .str)
  | [] => .nil
  | i :: is => .cons (.str i) (dtAll_of_strs is)
theorem dtAll_of_ints : ∀ (is : List Int), DtAll H (is.map V.int) (is.map .int)
  | [] => .nil
  | i :: is => .cons (.int i) (dtAll_of_ints is)
end
/-! ### growth: Hb the immutable data, H all; M what may change -/
structure Gr (M : Addr → Prop) (Hb H Hb' H' : Hp) : Prop where
  b : Same Hb Hb'
  i : Same Hb' H'
  n : ∀ a, H a ≠ none → Hb' a = Hb a
  h : ∀ a o, ¬ M a → H a = some o → H' a = some o
  t : ∀ a, H a ≠ none → H' a ≠ none
abbrev NoM : Addr → Prop := fun _ => False
abbrev Gr0 := Gr NoM
section
variable {M M' : Addr → Prop} {Hb H Hb1 H1 Hb2 H2 : Hp}
theorem Gr.refl (i : Same Hb H) : Gr M Hb H Hb H := ⟨Same.refl _, i, fun _ _ => rfl, fun _ _ _ h => h, fun _ h => h⟩
theorem Gr.trans (x : Gr M Hb H Hb1 H1) (y : Gr M' Hb1 H1 Hb2 H2) (m : ∀ a, M' a → H a ≠ none → M a) : Gr M Hb H Hb2 H2 where
  b := x.b.trans y.b
  i := y.i
  n := fun a h => (y.n a (x.t a h)).trans (x.n a h)
  h := fun a o hm h => by
    by_cases c : M' a
    · exact absurd (m a c (by rw [h]; intro z; cases z)) hm
    · exact y.h a o c (x.h a o hm h)
  t := fun a h => y.t a (x.t a h)
theorem Gr.trans0 (x : Gr M Hb H Hb1 H1) (y : Gr0 Hb1 H1 Hb2 H2) : Gr M Hb H Hb2 H2 := x.trans y (fun _ z => z.elim)
theorem Gr.transM (x : Gr M Hb H Hb1 H1) (y : Gr M Hb1 H1 Hb2 H2) : Gr M Hb H Hb2 H2 := x.trans y (fun _ z _ => z)
theorem Gr.up (x : Gr0 Hb H Hb1 H1) : Gr M Hb H Hb1 H1 := ⟨x.b, x.i, x.n, fun a o _ h => x.h a o (fun z => z) h, x.t⟩
theorem Gr0.same (x : Gr0 Hb H Hb1 H1) : Same H H1 := fun a o h => x.h a o (fun z => z) h
theorem same_new {p : Addr} {o : HO} (h : H p = none) : Same H (upd H p o) := fun b x e => by rw [upd_ne (ne_of_none e h)]; exact e
theorem same_upd2 {p : Addr} {o : HO} (i : Same Hb H) : Same (upd Hb p o) (upd H p o) := fun b x e => by
  by_cases c : b = p
  · subst c; rw [upd_same] at e ⊢; exact e
  · rw [upd_ne c] at e ⊢; exact i b x e
theorem same_updb {p : Addr} {o : HO} (i : Same Hb H) (h : Hb p = none) : Same Hb (upd H p o) := fun b x e => by
  rw [upd_ne (ne_of_none e h)]; exact i b x e
theorem some_upd {p a : Addr} {o : HO} (h : H a ≠ none) : upd H p o a ≠ none := by
  by_cases c : a = p
  · subst c; rw [upd_same]; intro z; cases z
  · rw [upd_ne c]; exact h
/-- a new object that is data -/
theorem Gr.new {p : Addr} {o : HO} (i : Same Hb H) (h : H p = none) : Gr0 Hb H (upd Hb p o) (upd H p o) where
  b := same_new (i.free h)
  i := same_upd2 i
  n := fun a ha => by rw [upd_ne]; intro z; exact ha (z ▸ h)
  h := fun a x _ e => same_new h a x e
  t := fun a ha => some_upd ha
/-- a new object that is none -/
theorem Gr.tmp {p : Addr} {o : HO} (i : Same Hb H) (h : H p = none) : Gr0 Hb H Hb (upd H p o) where
  b := Same.refl _
  i := i.trans (same_new h)
  n := fun a _ => rfl
  h := fun a x _ e => same_new h a x e
  t := fun a ha => some_upd ha
end
/-! ### environments -/
/-- what a place holds: data, or an owned list, dict -/
inductive Fv where
  | dat (d : PyData) | lst (ds : List PyData) | dK (kvs : List (Key × PyData)) | dT (kvs : List (List Key × PyData))
/-- a slot: not known, a value, a thing, an object with its attributes -/
inductive Sl where
  | un | val (v : V) | fv (x : Fv) | obj (p C : Addr) (fl : List (Str × Fv))
abbrev Sl.dat (d : PyData) : Sl := .fv (.dat d)
abbrev Sl.lst (ds : List PyData) : Sl := .fv (.lst ds)
abbrev Env := List Sl
/-- a place that owns: a slot, an attribute of the object in a slot, a hidden one (a list that a comprehension fills) -/
inductive Pl where
  | sl (i : Nat) (f : Option Str) | hid (k : Nat)
/-- who owns an address -/
abbrev Ow := Addr → Option Pl
abbrev Hid := List (Addr × List PyData)
def KvOk (Hb : Hp) {κ : Type} (ws : List (κ × V)) (kvs : List (κ × PyData)) : Prop := Paired (fun p q => p.1 = q.1 ∧ Dt Hb p.2 q.2) ws kvs
def FvOk (Hb H : Hp) (ow : Ow) (pl : Pl) (v : V) : Fv → Prop
  | .dat d => Dt Hb v d
  | .lst ds => ∃ a vs, v = .ref a ∧ ow a = some pl ∧ H a = some (.lst vs) ∧ DtAll Hb vs ds
  | .dK kvs => ∃ a ws, v = .ref a ∧ ow a = some pl ∧ H a = some (.dK ws) ∧ KvOk Hb ws kvs
  | .dT kvs => ∃ a ws, v = .ref a ∧ ow a = some pl ∧ H a = some (.dT ws) ∧ KvOk Hb ws kvs
/-- the attributes, in their order -/
def FlOk (Hb H : Hp) (ow : Ow) (i : Nat) : List (Str × V) → List (Str × Fv) → Prop := Paired fun p q => p.1 = q.1 ∧ FvOk Hb H ow (.sl i (some p.1)) p.2 q.2
def SlOk (Hb H : Hp) (ow : Ow) (i : Nat) (v : Option V) : Sl → Prop
  | .un => True
  | .val x => v = some x
  | .fv x => ∃ u, v = some u ∧ FvOk Hb H ow (.sl i none) u x
  | .obj p C fl => ∃ dx fs, v = some (.ref p) ∧ ow p = some (.sl i none) ∧ H p = some (.ins C dx fs) ∧ FlOk Hb H ow i fs fl ∧ (fl.map (·.1)).Nodup
/-- the frame: what may change (M), what holds of it (J, at the addresses Jd), the data and the heap at the entry -/
structure Fm where
  M : Addr → Prop
  J : Hp → Hp → Prop
  Jd : Addr → Prop
  ro : Prop
  Hb0 : Hp
  H0 : Hp
  m : ∀ a, M a → H0 a ≠ none
  j1 : ∀ Hb H Hb' H', Gr0 Hb H Hb' H' → J Hb H → J Hb' H'
  j2 : ∀ Hb H a o, ¬ Jd a → J Hb H → J Hb (upd H a o)
  j5 : ∀ Hb Hb2 H, Same Hb Hb2 → (∀ a, Jd a → Hb2 a = Hb a) → J Hb H → J Hb2 H
  j4 : ∀ Hb Hb2 H H2, Same Hb Hb2 → J Hb H → J Hb2 H2 → J Hb H2
  jm : ∀ a, Jd a → M a
theorem Fm.jd (F : Fm) (a : Addr) (h : F.Jd a) : F.H0 a ≠ none := F.m a (F.jm a h)
theorem Fm.j3 (F : Fm) (Hb H : Hp) (a : Addr) (o : HO) (h : ¬ F.Jd a) (e : Hb a = none) (j : F.J Hb H) : F.J (upd Hb a o) H :=
  F.j5 Hb _ H (fun b x q => by rw [upd_ne (fun z => by rw [z, e] at q; cases q)]; exact q) (fun b hb => upd_ne fun z => h (z ▸ hb)) j
/-- the owners' common part; the hidden things -/
structure OwOk (F : Fm) (hd : Hid) (Hb H : Hp) (ow : Ow) : Prop where
  c : ∀ a pl, ow a = some pl → Hb a = none ∧ (((∃ x, pl = .sl 0 x) ∧ (F.M a ∨ F.ro)) ∨ F.H0 a = none) ∧ ¬ F.Jd a ∧ H a ≠ none
  h : ∀ k a ds, hd[k]? = some (a, ds) → FvOk Hb H ow (.hid k) (.ref a) (.lst ds)
structure SI (F : Fm) (hd : Hid) (Hb H : Hp) (σ : St) (ε : Env) : Prop where
  gr : Gr F.M F.Hb0 F.H0 Hb H
  j : F.J Hb H
  len : σ.length = ε.length
  ow : ∃ ow : Ow, OwOk F hd Hb H ow ∧ ∀ i s, ε[i]? = some s → SlOk Hb H ow i (σ.getD i none) s
section
variable {Hb H Hb' H' : Hp} {ow : Ow}
theorem KvOk.mono {κ : Type} {ws : List (κ × V)} {kvs : List (κ × PyData)} (e : Same Hb Hb') (h : KvOk Hb ws kvs) : KvOk Hb' ws kvs := Paired.mapP h fun _ _ x => ⟨x.1, dt_mono e x.2⟩
theorem FvOk.move {ow' : Ow} {pl : Pl} {v : V} {x : Fv} (b : Same Hb Hb') (w : ∀ a, ow a = some pl → ow' a = some pl) (h : ∀ a o, ow a = some pl → H a = some o → H' a = some o) (r : FvOk Hb H ow pl v x) : FvOk Hb' H' ow' pl v x := by
  cases x with
  | dat d => exact dt_mono b r
  | lst ds => obtain ⟨a, vs, e, o, x, y⟩ := r; exact ⟨a, vs, e, w _ o, h _ _ o x, dta_mono b y⟩
  | dK ds => obtain ⟨a, vs, e, o, x, y⟩ := r; exact ⟨a, vs, e, w _ o, h _ _ o x, KvOk.mono b y⟩
  | dT ds => obtain ⟨a, vs, e, o, x, y⟩ := r; exact ⟨a, vs, e, w _ o, h _ _ o x, KvOk.mono b y⟩
theorem SlOk.move {ow' : Ow} {i : Nat} {v : Option V} {s : Sl} (b : Same Hb Hb') (w : ∀ a x, ow a = some (.sl i x) → ow' a = some (.sl i x)) (h : ∀ a o x, ow a = some (.sl i x) → H a = some o → H' a = some o) (r : SlOk Hb H ow i v s) : SlOk Hb' H' ow' i v s := by
  cases s with
  | un => trivial
  | val x => exact r
  | fv x => obtain ⟨u, e, f⟩ := r; exact ⟨u, e, f.move b (fun a q => w a _ q) fun a o q => h a o _ q⟩
  | obj p C fl =>
    obtain ⟨dx, fs, e, o, x, y, nd⟩ := r
    exact ⟨dx, fs, e, w _ _ o, h _ _ _ o x, Paired.mapP y fun _ _ z => ⟨z.1, z.2.move b (fun a q => w a _ q) fun a o q => h a o _ q⟩, nd⟩
theorem SlOk.mono {i : Nat} {v : Option V} {s : Sl} (b : Same Hb Hb') (h : ∀ a o x, ow a = some (.sl i x) → H a = some o → H' a = some o) (r : SlOk Hb H ow i v s) : SlOk Hb' H' ow i v s := r.move b (fun _ _ q => q) h
theorem SI.si {F : Fm} {σ : St} {ε : Env} (S : SI F hd Hb H σ ε) : Same Hb H := S.gr.i
/-- growth keeps the state -/
theorem SI.grow {F : Fm} {σ : St} {ε : Env} (S : SI F hd Hb H σ ε) (g : Gr0 Hb H Hb' H') : SI F hd Hb' H' σ ε where
  gr := S.gr.trans0 g
  j := F.j1 _ _ _ _ g S.j
  len := S.len
  ow := by
    obtain ⟨ow, h1, h2⟩ := S.ow
    refine ⟨ow, ⟨fun a pl e => ?_, fun k a ds e => (h1.h k a ds e).move g.b (fun _ q => q) fun a o _ z => g.same _ _ z⟩, fun i s e => (h2 i s e).mono g.b fun a o x q z => g.same _ _ z⟩
    obtain ⟨a1, a2, a3, a4⟩ := h1.c a pl e
    exact ⟨(g.n a a4).trans a1, a2, a3, g.t a a4⟩
end
/-! ### the readings that ask for the run itself -/
section
variable (X : Cx)
structure tSem (e : Expr) (σ : St) (H : Hp) (Q : VK) : Prop where
  run : ∀ (pins : List (Addr × Obj)) (s : Shared), Inv X pins σ H s → wpAny (model X.prog X.w) X.A (eval e X.env) (EP X pins σ Q) X.xe s
structure tSemT (e : Expr) (σ : St) (H : Hp) (Q : Bool → Hp → Prop) : Prop where
  run : ∀ (pins : List (Addr × Obj)) (s : Shared), Inv X pins σ H s → wpAny (model X.prog X.w) X.A (isTrue e X.env (eval e X.env)) (TP X pins σ Q) X.xe s
structure tSemW (e : Expr) (σ : St) (H : Hp) (Q : Bool → Hp → Prop) : Prop where
  run : ∀ (whole : Sem Value) (pins : List (Addr × Obj)) (s : Shared), Inv X pins σ H s → wpAny (model X.prog X.w) X.A (isTrue e X.env whole) (TP X pins σ Q) X.xe s
structure tSemA (es : List Expr) (σ : St) (H : Hp) (Q : List V → Hp → Prop) : Prop where
  run : ∀ (pos : Pos) (pins : List (Addr × Obj)) (s : Shared), Inv X pins σ H s → wpAny (model X.prog X.w) X.A (spliced (backTo pos (starEach es X.env))) (AP X pins σ Q) X.xe s
structure tSemS (st : Stmt) (D : Ends) (σ : St) (H : Hp) : Prop where
  run : ∀ (pins : List (Addr × Obj)) (s : Shared), Inv X pins σ H s → wpAny (model X.prog X.w) X.A (exec st X.env) (SP X pins D) X.xe s
structure tSemB (st : List Stmt) (D : Ends) (σ : St) (H : Hp) : Prop where
  run : ∀ (pins : List (Addr × Obj)) (s : Shared), Inv X pins σ H s → wpAny (model X.prog X.w) X.A (execs st X.env) (SP X pins D) X.xe s
structure tSemG (target : Expr) (v : V) (σ : St) (H : Hp) (Q : St → Hp → Prop) : Prop where
  run : ∀ (pins : List (Addr × Obj)) (s : Shared) (u : Value), Inv X pins σ H s → RelV v u → wpAny (model X.prog X.w) X.A (assign target X.env u) (fun _ s' => ∃ σ' H', Inv X pins σ' H' s' ∧ Q σ' H') X.xe s
structure tSemGs (ts : List Expr) (vs : List V) (σ : St) (H : Hp) (Q : St → Hp → Prop) : Prop where
  run : ∀ (pins : List (Addr × Obj)) (s : Shared) (us : List Value), Inv X pins σ H s → Vals vs us → wpAny (model X.prog X.w) X.A (assignInOrder ((assignEach ts X.env).map (·.2)) us) (fun _ s' => ∃ σ' H', Inv X pins σ' H' s' ∧ Q σ' H') X.xe s
structure tSemI (tg iter : Expr) (σ : St) (H : Hp) (R : It → Hp → Prop) : Prop where
  run : ∀ (pins : List (Addr × Obj)) (s : Shared), Inv X pins σ H s → wpAny (model X.prog X.w) X.A (eval iter X.env) (fun v s1 => wpAny (model X.prog X.w) X.A (pyIter v) (PIE X pins σ tg R) X.xe s1) X.xe s
structure tSemO (e : Option Expr) (σ : St) (H : Hp) (Q : Option Int → Hp → Prop) : Prop where
  run : ∀ (pins : List (Addr × Obj)) (s : Shared), Inv X pins σ H s → wpAny (model X.prog X.w) X.A (evalPart e X.env) (fun u s' => ∃ o H', Inv X pins σ H' s' ∧ IsPart u o ∧ Q o H') X.xe s
structure tSemTs (ifs : List Expr) (σ : St) (H : Hp) (Q : Bool → Hp → Prop) : Prop where
  run : ∀ (pins : List (Addr × Obj)) (s : Shared), Inv X pins σ H s → wpAny (model X.prog X.w) X.A (forIn ifs true fun c r => if r = true then do let ok ← isTrue c X.env (eval c X.env); pure (ForInStep.yield ok) else pure (ForInStep.yield r)) (TP X pins σ Q) X.xe s
end
section
variable {X : Cx}
theorem pe_sem {e : Expr} : PE X e (tSem X e) := ⟨fun pins s σ H Q I h => h.run pins s I⟩
theorem pt_sem {e : Expr} : PT X e (tSemT X e) := ⟨fun pins s σ H Q I h => h.run pins s I⟩
theorem pw_sem {e : Expr} : PW X e (tSemW X e) := ⟨fun whole pins s σ H Q I h => h.run whole pins s I⟩
theorem pa_sem {es : List Expr} : PA X es (tSemA X es) := ⟨fun pos pins s σ H Q I h => h.run pos pins s I⟩
theorem ps_sem {st : Stmt} : PS X st (tSemS X st) := ⟨fun pins s σ H D I h => h.run pins s I⟩
theorem pss_sem {st : List Stmt} : PSs X st (tSemB X st) := ⟨fun pins s σ H D I h => h.run pins s I⟩
theorem pg_sem {e : Expr} : PG X e (tSemG X e) := ⟨fun pins s σ H v u Q I r h => h.run pins s u I r⟩
theorem pgs_sem {es : List Expr} : PGs X es (tSemGs X es) := ⟨fun pins s σ H v u Q I r h => h.run pins s u I r⟩
theorem pi_sem {tg iter : Expr} : PI X tg iter (tSemI X tg iter) := ⟨fun pins s σ H R I h => h.run pins s I⟩
theorem po_sem {e : Option Expr} : PO X e (tSemO X e) := ⟨fun pins s σ H Q I h => h.run pins s I⟩
theorem pts_sem {es : List Expr} : PTs X es (tSemTs X es) := ⟨fun pins s σ H Q I h => h.run pins s I⟩
variable {σ : St} {H : Hp}
theorem pe_run {e : Expr} {t : TE} (p : PE X e t) {Q : VK} (h : t σ H Q) : tSem X e σ H Q := ⟨fun pins s I => p.run pins s σ H Q I h⟩
theorem pt_run {e : Expr} {t : TT} (p : PT X e t) {Q : Bool → Hp → Prop} (h : t σ H Q) : tSemT X e σ H Q := ⟨fun pins s I => p.run pins s σ H Q I h⟩
theorem pw_run {e : Expr} {t : TT} (p : PW X e t) {Q : Bool → Hp → Prop} (h : t σ H Q) : tSemW X e σ H Q := ⟨fun w pins s I => p.run w pins s σ H Q I h⟩
theorem pa_run {es : List Expr} {t : TA} (p : PA X es t) {Q : List V → Hp → Prop} (h : t σ H Q) : tSemA X es σ H Q := ⟨fun pos pins s I => p.run pos pins s σ H Q I h⟩
theorem ps_run {st : Stmt} {t : TS} (p : PS X st t) {D : Ends} (h : t D σ H) : tSemS X st D σ H := ⟨fun pins s I => p.run pins s σ H D I h⟩
theorem pss_run {st : List Stmt} {t : TS} (p : PSs X st t) {D : Ends} (h : t D σ H) : tSemB X st D σ H := ⟨fun pins s I => p.run pins s σ H D I h⟩
theorem pg_run {e : Expr} {t : TG} (p : PG X e t) {v : V} {Q : St → Hp → Prop} (h : t v σ H Q) : tSemG X e v σ H Q := ⟨fun pins s u I r => p.run pins s σ H v u Q I r h⟩
theorem pgs_run {e : List Expr} {t : TGs} (p : PGs X e t) {v : List V} {Q : St → Hp → Prop} (h : t v σ H Q) : tSemGs X e v σ H Q := ⟨fun pins s u I r => p.run pins s σ H v u Q I r h⟩
theorem pi_run {tg iter : Expr} {t : TI} (p : PI X tg iter t) {R : It → Hp → Prop} (h : t σ H R) : tSemI X tg iter σ H R := ⟨fun pins s I => p.run pins s σ H R I h⟩
theorem po_run {e : Option Expr} {t : TO} (p : PO X e t) {Q : Option Int → Hp → Prop} (h : t σ H Q) : tSemO X e σ H Q := ⟨fun pins s I => p.run pins s σ H Q I h⟩
theorem pts_run {es : List Expr} {t : TT} (p : PTs X es t) {Q : Bool → Hp → Prop} (h : t σ H Q) : tSemTs X es σ H Q := ⟨fun pins s I => p.run pins s σ H Q I h⟩
end
end K78
/-! K78: judgements on expressions. -/
namespace K78
open PySem PySem.Spec L2
section
variable (X : Cx) (F : Fm)
def EW (e : Expr) (ε : Env) (Q : PyData → Prop) : Prop := ∀ hd Hb H σ, SI F hd Hb H σ ε → ∀ Q' : VK, (∀ v d Hb' H', SI F hd Hb' H' σ ε → Gr F.Jd Hb H Hb' H' → Dt Hb' v d → Q d → Q' v H') → tSem X e σ H Q'
def BW (e : Expr) (ε : Env) (Q : Bool → Prop) : Prop := ∀ hd Hb H σ, SI F hd Hb H σ ε → ∀ Q' : Bool → Hp → Prop, (∀ b Hb' H', SI F hd Hb' H' σ ε → Gr F.Jd Hb H Hb' H' → Q b → Q' b H') → tSemT X e σ H Q'
def BWW (e : Expr) (ε : Env) (Q : Bool → Prop) : Prop := ∀ hd Hb H σ, SI F hd Hb H σ ε → ∀ Q' : Bool → Hp → Prop, (∀ b Hb' H', SI F hd Hb' H' σ ε → Gr F.Jd Hb H Hb' H' → Q b → Q' b H') → tSemW X e σ H Q'
def BWs (es : List Expr) (ε : Env) (Q : Bool → Prop) : Prop := ∀ hd Hb H σ, SI F hd Hb H σ ε → ∀ Q' : Bool → Hp → Prop, (∀ b Hb' H', SI F hd Hb' H' σ ε → Gr F.Jd Hb H Hb' H' → Q b → Q' b H') → tSemTs X es σ H Q'
def AW (es : List Expr) (ε : Env) (Q : List PyData → Prop) : Prop := ∀ hd Hb H σ, SI F hd Hb H σ ε → ∀ Q' : List V → Hp → Prop, (∀ vs ds Hb' H', SI F hd Hb' H' σ ε → Gr F.Jd Hb H Hb' H' → DtAll Hb' vs ds → ds.length = es.length → Q ds → Q' vs H') → tSemA X es σ H Q'
def OW (e : Option Expr) (ε : Env) (Q : Option Int → Prop) : Prop := ∀ hd Hb H σ, SI F hd Hb H σ ε → ∀ Q' : Option Int → Hp → Prop, (∀ o Hb' H', SI F hd Hb' H' σ ε → Gr F.Jd Hb H Hb' H' → Q o → Q' o H') → tSemO X e σ H Q'
/-- operations by values -/
def VWant (Q : PyData → Prop) (Hb H : Hp) (Q' : VK) : Prop := ∀ v d Hb' H', Gr0 Hb H Hb' H' → Dt Hb' v d → Q d → Q' v H'
def OpW (f : Value → Value → Sem Value) (d1 d2 : PyData) (Q : PyData → Prop) : Prop := ∀ Hb H v1 v2, Same Hb H → Dt Hb v1 d1 → Dt Hb v2 d2 → ∀ Q' : VK, VWant Q Hb H Q' → ∃ r, OpR X f r ∧ r v1 v2 H Q'
def UnW (f : Value → Sem Value) (d1 : PyData) (Q : PyData → Prop) : Prop := ∀ Hb H v1, Same Hb H → Dt Hb v1 d1 → ∀ Q' : VK, VWant Q Hb H Q' → ∃ r, UnR X f r ∧ r v1 H Q'
def CallW (f : Value) (ds : List PyData) (Q : PyData → Prop) : Prop := ∀ Hb H vs, Same Hb H → DtAll Hb vs ds → ∀ Q' : VK, VWant Q Hb H Q' → ∃ r, CallR X f r ∧ r vs H Q'
def MtW (id : String) (d1 : PyData) (ds : List PyData) (Q : PyData → Prop) : Prop := ∀ Hb H v1 vs, Same Hb H → Dt Hb v1 d1 → DtAll Hb vs ds → ∀ Q' : VK, VWant Q Hb H Q' → ∃ r, MtR X id r ∧ r v1 vs H Q'
def IxW (d1 d2 : PyData) (Q : PyData → Prop) : Prop := ∀ Hb H v1 v2, Same Hb H → Dt Hb v1 d1 → Dt Hb v2 d2 → ∀ Q' : VK, VWant Q Hb H Q' → ∃ r, IxR X r ∧ r v1 v2 H Q'
def SlW (d1 : PyData) (lo hi : Option Int) (Q : PyData → Prop) : Prop := ∀ Hb H v1, Same Hb H → Dt Hb v1 d1 → ∀ Q' : VK, VWant Q Hb H Q' → ∃ r, SlR X r ∧ r v1 lo hi H Q'
end
section
variable {X : Cx}
def rSem (X : Cx) (f : Value → Value → Sem Value) : R2 := fun x y H Q => ∀ pins s σ v u, Inv X pins σ H s → RelV x v → RelV y u → wpAny (model X.prog X.w) X.A (f v u) (EP X pins σ Q) X.xe s
theorem op_sem {f : Value → Value → Sem Value} : OpR X f (rSem X f) := fun pins s σ H x y v u Q I r1 r2 h => h pins s σ v u I r1 r2
def uSem (X : Cx) (f : Value → Sem Value) : V → Hp → VK → Prop := fun x H Q => ∀ pins s σ v, Inv X pins σ H s → RelV x v → wpAny (model X.prog X.w) X.A (f v) (EP X pins σ Q) X.xe s
theorem un_sem {f : Value → Sem Value} : UnR X f (uSem X f) := fun pins s σ H x v Q I r1 h => h pins s σ v I r1
def cSem (X : Cx) (f : Value) : List V → Hp → VK → Prop := fun xs H Q => ∀ pins s σ us, Inv X pins σ H s → Vals xs us → wpAny (model X.prog X.w) X.A (call f us) (EP X pins σ Q) X.xe s
theorem call_sem {f : Value} : CallR X f (cSem X f) := fun pins s σ H xs us Q I r h => h pins s σ us I r
def mSem (X : Cx) (id : String) : V → List V → Hp → VK → Prop := fun x xs H Q => ∀ pins s σ v us, Inv X pins σ H s → RelV x v → Vals xs us → wpAny (model X.prog X.w) X.A (call (.builtin id) (v :: us)) (EP X pins σ Q) X.xe s
theorem mt_sem {id : String} : MtR X id (mSem X id) := fun pins s σ H x xs v us Q I r1 r2 h => h pins s σ v us I r1 r2
def ixSem (X : Cx) : R2 := fun x y H Q => ∀ value slice pins s σ v u, Inv X pins σ H s → RelV x v → RelV y u → subscripted slice false v u = operate [v, u] (getItem v u) → wpAny (model X.prog X.w) X.A (PyProof.Rows.subscriptTail value slice v u) (EP X pins σ Q) X.xe s
theorem ix_sem : IxR X (ixSem X) := fun value slice pins s σ H x y v u Q I r1 r2 h e => h value slice pins s σ v u I r1 r2 e
def slSem (X : Cx) : V → Option Int → Option Int → Hp → VK → Prop := fun x lo hi H Q => ∀ pins s σ v vl vu sl, Inv X pins σ H s → RelV x v → s.heap.IsSliceOf sl vl vu .none → IsPart vl lo → IsPart vu hi →
    ∃ T id, typeLookup (.type T) "__getitem__" = pure (some (.builtin id)) ∧ s.TypeIs v T ∧ wpAny (model X.prog X.w) X.A (getItem v (.ref sl)) (EP X pins σ Q) X.xe s
theorem sl_sem : SlR X (slSem X) := fun pins s σ H x v vl vu lo hi sl Q I r1 a b c h => h pins s σ v vl vu sl I r1 a b c
variable {F : Fm} {ε : Env} {Q : PyData → Prop} {QB : Bool → Prop} {QA : List PyData → Prop} {a b e o : Expr} {es : List Expr} {pos p apos cpos : Pos}
/-! ### weakening -/
theorem EW.imp {Q2 : PyData → Prop} (h : EW X F e ε Q) (q : ∀ d, Q d → Q2 d) : EW X F e ε Q2 := fun hd Hb H σ S Q' k => h hd Hb H σ S Q' fun v d Hb' H' S' g r z => k v d Hb' H' S' g r (q d z)
theorem BW.imp {Q2 : Bool → Prop} (h : BW X F e ε QB) (q : ∀ d, QB d → Q2 d) : BW X F e ε Q2 := fun hd Hb H σ S Q' k => h hd Hb H σ S Q' fun d Hb' H' S' g z => k d Hb' H' S' g (q d z)
/-! ### names, constants -/
theorem ew_val {v : V} {d : PyData} (p : PE X e (tC v)) (h : ∀ H, Dt H v d) (q : Q d) : EW X F e ε Q := fun hd Hb H σ S Q' k => pe_run p (k v d Hb H S (Gr.refl S.si) (h _) q)
theorem ew_int {i : Int} {j : Nat} (q : Q (.int i)) : EW X F (.Constant (.int i) j pos) ε Q := ew_val pe_int (fun _ => .int i) q
theorem ew_bl {i : Bool} {j : Nat} (q : Q (.bool i)) : EW X F (.Constant (.bool i) j pos) ε Q := ew_val pe_bl (fun _ => .bl i) q
theorem ew_str {i : Str} {j : Nat} (q : Q (.str i)) : EW X F (.Constant (.str i) j pos) ε Q := ew_val pe_str (fun _ => .str i) q
theorem ew_non {j : Nat} (q : Q .none) : EW X F (.Constant .none j pos) ε Q := ew_val pe_non (fun _ => .non) q
theorem getD_of {σ : L2.St} {i : Nat} {v : V} (h : σ.getD i none = some v) : σ[i]? = some (some v) := by
  rw [List.getD_eq_getElem?_getD] at h
  cases e : σ[i]? with
  | none => rw [e] at h; cases h
  | some x => rw [e] at h; exact congrArg some h
theorem ew_name (i : Nat) {x : Str} {d : PyData} (q : Q d) (hε : ε[i]? = some (.dat d) := by rfl) (hN : X.N[i]? = some x := by rfl) (hv : Vis X.env.scope x := by first | exact Or.inl rfl | exact Or.inr (Or.inl rfl) | exact Or.inr (Or.inr rfl)) (hdg : (x == ("__debug__" : Str)) = false := by decide)
    (hcd : (x == ("__classdict__" : Str)) = false := by decide) : EW X F (.Name x pos) ε Q := fun hd Hb H σ S Q' k => by
  obtain ⟨ow, h1, h2⟩ := S.ow
  obtain ⟨u, e, r⟩ := h2 i _ hε
  exact pe_run (pe_var hN hv hdg hcd) ⟨u, getD_of e, k u d Hb H S (Gr.refl S.si) r q⟩
/-- a module's constant -/
theorem ew_glob {x : Str} {v : V} {u : Value} {d : PyData} (hm : X.mg x = some u) (r : RelV v u) (hd : ∀ H, Dt H v d) (q : Q d) (hg : Gl X x := by rfl) (hdb : (x == ("__debug__" : Str)) = false := by decide) : EW X F (.Name x pos) ε Q := ew_val (pe_glob hg hm r hdb) hd q
/-! ### operators -/
theorem ew_bin {op : Operator} (h : EW X F a ε fun d1 => EW X F b ε fun d2 => OpW X (binaryOp op) d1 d2 Q) : EW X F (.BinOp a op b pos) ε Q := fun hd Hb H σ S Q' q => by
  refine pe_run (pe_op op_sem pe_sem pe_sem) (h hd Hb H σ S _ fun v1 d1 Hb1 H1 S1 g1 r1 k1 => k1 hd Hb1 H1 σ S1 _ fun v2 d2 Hb2 H2 S2 g2 r2 k2 => fun pins s σ' v u I rv ru => ?_)
  obtain ⟨r, ho, hr⟩ := k2 Hb2 H2 v1 v2 S2.si (dt_mono g2.b r1) r2 Q' fun v d Hb' H' g rd qd => q v d Hb' H' (S2.grow g) ((g1.transM g2).trans0 g) rd qd
  exact ho pins s σ' H2 v1 v2 v u Q' I rv ru hr
theorem ew_un {op : UnaryOp} (h : EW X F a ε fun d1 => UnW X (unaryOp op) d1 Q) : EW X F (.UnaryOp op a pos) ε Q := fun hd Hb H σ S Q' q => by
  refine pe_run (pe_un un_sem pe_sem) (h hd Hb H σ S _ fun v1 d1 Hb1 H1 S1 g1 r1 k1 => fun pins s σ' v I rv => ?_)
  obtain ⟨r, ho, hr⟩ := k1 Hb1 H1 v1 S1.si r1 Q' fun v d Hb' H' g rd qd => q v d Hb' H' (S1.grow g) (g1.trans0 g) rd qd
  exact ho pins s σ' H1 v1 v Q' I rv hr
theorem ew_cmp {op : CmpOp} (hm : behindInMarks op b = false) (h : EW X F a ε fun d1 => EW X F b ε fun d2 => OpW X (compareOp op) d1 d2 Q) : EW X F (.Compare a [op] [b] pos) ε Q := fun hd Hb H σ S Q' q => by
  refine pe_run (pe_cmpR op_sem pe_sem pe_sem hm) (h hd Hb H σ S _ fun v1 d1 Hb1 H1 S1 g1 r1 k1 => k1 hd Hb1 H1 σ S1 _ fun v2 d2 Hb2 H2 S2 g2 r2 k2 => fun pins s σ' v u I rv ru => ?_)
  obtain ⟨r, ho, hr⟩ := k2 Hb2 H2 v1 v2 S2.si (dt_mono g2.b r1) r2 Q' fun v d Hb' H' g rd qd => q v d Hb' H' (S2.grow g) ((g1.transM g2).trans0 g) rd qd
  exact ho pins s σ' H2 v1 v2 v u Q' I rv ru hr
/-- what is a bool -/
def IsB (QB : Bool → Prop) (d : PyData) : Prop := ∃ k, d = .bool k ∧ QB k
theorem bw_cmp {op : CmpOp} (hm : behindInMarks op b = false) (h : EW X F a ε fun d1 => EW X F b ε fun d2 => OpW X (compareOp op) d1 d2 (IsB QB)) : BW X F (.Compare a [op] [b] pos) ε QB := fun hd Hb H σ S Q' q => by
  refine pt_run (pt_cmpR op_sem pe_sem pe_sem hm) (h hd Hb H σ S _ fun v1 d1 Hb1 H1 S1 g1 r1 k1 => k1 hd Hb1 H1 σ S1 _ fun v2 d2 Hb2 H2 S2 g2 r2 k2 => fun pins s σ' v u I rv ru => ?_)
  obtain ⟨r, ho, hr⟩ := k2 Hb2 H2 v1 v2 S2.si (dt_mono g2.b r1) r2 (fun x H' => ∃ k, x = .bl k ∧ Q' k H') fun v d Hb' H' g rd ⟨k, ed, qd⟩ => by
    subst ed
    exact ⟨k, dt_bl rd, q k Hb' H' (S2.grow g) ((g1.transM g2).trans0 g) qd⟩
  exact ho pins s σ' H2 v1 v2 v u _ I rv ru hr
/-- an expression whose value is a bool, as a test (a name, a call, a subscript, an attribute, a constant) -/
theorem bw_val (h : EW X F e ε (IsB QB)) (he : ∀ whole, isTrue e X.env whole = (do let v ← whole; standAt e.pos; holding [v] (truthy v)) := by intro _; rfl) : BW X F e ε QB := fun hd Hb H σ S Q' q =>
  pt_run (pt_val pe_sem he) (h hd Hb H σ S _ fun v d Hb' H' S' g r ⟨k, ed, qk⟩ => by subst ed; exact ⟨k, dt_bl r, q k Hb' H' S' g qk⟩)
theorem bw_not (h : BW X F a ε fun k => QB (!k)) : BW X F (.UnaryOp .Not a pos) ε QB := fun hd Hb H σ S Q' q => pt_run (pt_not pt_sem) (h hd Hb H σ S _ fun k Hb' H' S' g z => q _ Hb' H' S' g z)
theorem bw_w (h : BWW X F e ε QB) : BW X F e ε QB := fun hd Hb H σ S Q' q => pt_run (PW.pt pw_sem) (h hd Hb H σ S _ q)
theorem bww_and1 (h : BW X F a ε QB) : BWW X F (.BoolOp .And [a] pos) ε QB := fun hd Hb H σ S Q' q => pw_run (pw_and1 pt_sem) (h hd Hb H σ S _ q)
theorem bww_or1 (h : BW X F a ε QB) : BWW X F (.BoolOp .Or [a] pos) ε QB := fun hd Hb H σ S Q' q => pw_run (pw_or1 pt_sem) (h hd Hb H σ S _ q)
theorem bww_and (h : BW X F a ε fun k => (k = true → BWW X F (.BoolOp .And (b :: es) pos) ε QB) ∧ (k = false → QB false)) : BWW X F (.BoolOp .And (a :: b :: es) pos) ε QB := fun hd Hb H σ S Q' q => by
  refine pw_run (pw_and pt_sem pw_sem) (h hd Hb H σ S _ fun k Hb1 H1 S1 g1 z => ?_)
  cases k with
  | true => exact iteT ((z.1 rfl) hd Hb1 H1 σ S1 _ fun k Hb' H' S' g z => q k Hb' H' S' (g1.transM g) z)
  | false => exact iteF (q false Hb1 H1 S1 g1 (z.2 rfl))
theorem bww_or (h : BW X F a ε fun k => (k = true → QB true) ∧ (k = false → BWW X F (.BoolOp .Or (b :: es) pos) ε QB)) : BWW X F (.BoolOp .Or (a :: b :: es) pos) ε QB := fun hd Hb H σ S Q' q => by
  refine pw_run (pw_or pt_sem pw_sem) (h hd Hb H σ S _ fun k Hb1 H1 S1 g1 z => ?_)
  cases k with
  | false => exact iteF ((z.2 rfl) hd Hb1 H1 σ S1 _ fun k Hb' H' S' g z => q k Hb' H' S' (g1.transM g) z)
  | true => exact iteT (q true Hb1 H1 S1 g1 (z.1 rfl))
/-- and, or, not as values -/
theorem ew_one {op : BoolOp} (h : EW X F a ε Q) : EW X F (.BoolOp op [a] pos) ε Q := fun hd Hb H σ S Q' q => pe_run (pe_one pe_sem) (h hd Hb H σ S _ q)
theorem ew_and (h : EW X F a ε fun d => ∃ k, d = .bool k ∧ (k = true → EW X F (.BoolOp .And (b :: es) pos) ε Q) ∧ (k = false → Q (.bool false))) : EW X F (.BoolOp .And (a :: b :: es) pos) ε Q := fun hd Hb H σ S Q' q => by
  refine pe_run (pe_and pe_sem pe_sem) (h hd Hb H σ S _ fun v d Hb1 H1 S1 g1 r ⟨k, ed, z⟩ => ?_)
  subst ed
  refine ⟨k, dt_bl r, ?_⟩
  cases k with
  | true => exact iteT ((z.1 rfl) hd Hb1 H1 σ S1 _ fun v d Hb' H' S' g r z => q v d Hb' H' S' (g1.transM g) r z)
  | false => exact iteF (q _ _ Hb1 H1 S1 g1 (.bl false) (z.2 rfl))
theorem ew_or (h : EW X F a ε fun d => ∃ k, d = .bool k ∧ (k = true → Q (.bool true)) ∧ (k = false → EW X F (.BoolOp .Or (b :: es) pos) ε Q)) : EW X F (.BoolOp .Or (a :: b :: es) pos) ε Q := fun hd Hb H σ S Q' q => by
  refine pe_run (pe_or pe_sem pe_sem) (h hd Hb H σ S _ fun v d Hb1 H1 S1 g1 r ⟨k, ed, z⟩ => ?_)
  subst ed
  refine ⟨k, dt_bl r, ?_⟩
  cases k with
  | false => exact iteF ((z.2 rfl) hd Hb1 H1 σ S1 _ fun v d Hb' H' S' g r z => q v d Hb' H' S' (g1.transM g) r z)
  | true => exact iteT (q _ _ Hb1 H1 S1 g1 (.bl true) (z.1 rfl))
theorem ew_not (h : EW X F a ε fun d => ∃ k, d = .bool k ∧ Q (.bool (!k))) : EW X F (.UnaryOp .Not a pos) ε Q := fun hd Hb H σ S Q' q => by
  refine pe_run (pe_not pe_sem) (h hd Hb H σ S _ fun v d Hb1 H1 S1 g1 r ⟨k, ed, z⟩ => ?_)
  subst ed
  exact ⟨k, dt_bl r, q _ _ Hb1 H1 S1 g1 (.bl _) z⟩
theorem ew_if {c : Expr} (h : BW X F c ε fun k => (k = true → EW X F a ε Q) ∧ (k = false → EW X F b ε Q)) : EW X F (.IfExp c a b pos) ε Q := fun hd Hb H σ S Q' q => by
  refine pe_run (pe_ifExp pt_sem pe_sem pe_sem) (h hd Hb H σ S _ fun k Hb1 H1 S1 g1 z => ?_)
  cases k with
  | true => exact iteT ((z.1 rfl) hd Hb1 H1 σ S1 _ fun v d Hb' H' S' g r z => q v d Hb' H' S' (g1.transM g) r z)
  | false => exact iteF ((z.2 rfl) hd Hb1 H1 σ S1 _ fun v d Hb' H' S' g r z => q v d Hb' H' S' (g1.transM g) r z)
/-! ### argument lists, displays -/
theorem aw_nil (q : QA []) : AW X F [] ε QA := fun hd Hb H σ S Q' k => pa_run pa_nil (k [] [] Hb H S (Gr.refl S.si) .nil rfl q)
theorem aw_cons (h : EW X F e ε fun d => AW X F es ε fun ds => QA (d :: ds)) (hs : starEach (e :: es) X.env = (false, eval e X.env) :: starEach es X.env := by rfl) : AW X F (e :: es) ε QA := fun hd Hb H σ S Q' k => by
  refine pa_run (pa_cons pe_sem pa_sem hs) (h hd Hb H σ S _ fun v d Hb1 H1 S1 g1 r1 k1 => k1 hd Hb1 H1 σ S1 _ fun vs ds Hb2 H2 S2 g2 r2 l2 k2 => ?_)
  exact k (v :: vs) (d :: ds) Hb2 H2 S2 (g1.transM g2) (.cons (dt_mono g2.b r1) r2) (congrArg (· + 1) l2) k2
theorem ew_tup {x1 : Nat} (h : AW X F es ε fun ds => Q (.tuple ds)) (hl : es.length ≤ 1000 := by decide) : EW X F (.Tuple es x1 pos) ε Q := fun hd Hb H σ S Q' k => by
  refine pe_run (pe_tup pa_sem) (h hd Hb H σ S _ fun vs ds Hb1 H1 S1 g1 r1 l1 k1 => ⟨by rw [dta_len r1, l1]; exact Nat.le_of_lt (small1000 hl), fun p hp => ?_⟩)
  exact k _ _ _ _ (S1.grow (Gr.new S1.si hp)) (g1.trans0 (Gr.new S1.si hp)) (.tup upd_same (dta_mono (Gr.new S1.si hp).b r1)) k1
theorem ew_lst (h : AW X F es ε fun ds => Q (.list ds)) (hl : es.length ≤ 1000 := by decide) : EW X F (.List es pos) ε Q := fun hd Hb H σ S Q' k => by
  refine pe_run (pe_lst pa_sem) (h hd Hb H σ S _ fun vs ds Hb1 H1 S1 g1 r1 l1 k1 => ⟨by rw [dta_len r1, l1]; exact Nat.le_of_lt (small1000 hl), fun p hp => ?_⟩)
  exact k _ _ _ _ (S1.grow (Gr.new S1.si hp)) (g1.trans0 (Gr.new S1.si hp)) (.lst upd_same (dta_mono (Gr.new S1.si hp).b r1)) k1
/-! ### subscripts, slices -/
theorem ew_ix (h : EW X F a ε fun d1 => EW X F b ε fun d2 => IxW X d1 d2 Q) (hs : PlainIx b := by exact fun _ _ => rfl) : EW X F (.Subscript a b pos) ε Q := fun hd Hb H σ S Q' q => by
  refine pe_run (pe_ix ix_sem pe_sem pe_sem hs) (h hd Hb H σ S _ fun v1 d1 Hb1 H1 S1 g1 r1 k1 => k1 hd Hb1 H1 σ S1 _ fun v2 d2 Hb2 H2 S2 g2 r2 k2 => fun value slice pins s σ' v u I rv ru he => ?_)
  obtain ⟨r, ho, hr⟩ := k2 Hb2 H2 v1 v2 S2.si (dt_mono g2.b r1) r2 Q' fun v d Hb' H' g rd qd => q v d Hb' H' (S2.grow g) ((g1.transM g2).trans0 g) rd qd
  exact ho value slice pins s σ' H2 v1 v2 v u Q' I rv ru hr he
theorem ow_none {QO : Option Int → Prop} (q : QO none) : OW X F none ε QO := fun hd Hb H σ S Q' k => po_run po_none (k _ Hb H S (Gr.refl S.si) q)
theorem ow_some {QO : Option Int → Prop} (h : EW X F e ε fun d => ∃ i, d = .int i ∧ QO (some i)) : OW X F (some e) ε QO := fun hd Hb H σ S Q' k => po_run (po_some pe_sem) (h hd Hb H σ S _ fun v d Hb1 H1 S1 g1 r1 ⟨i, ed, q⟩ => by
  subst ed
  exact ⟨i, dt_int r1, k _ _ _ S1 g1 q⟩)
theorem ew_slice {lo hi : Option Expr} {p2 : Pos} (h : EW X F a ε fun d => OW X F lo ε fun l => OW X F hi ε fun u => SlW X d l u Q) : EW X F (.Subscript a (.Slice lo hi none p2) pos) ε Q := fun hd Hb H σ S Q' q => by
  refine pe_run (pe_slice sl_sem pe_sem po_sem po_sem) (h hd Hb H σ S _ fun v1 d1 Hb1 H1 S1 g1 r1 k1 => k1 hd Hb1 H1 σ S1 _ fun l Hb2 H2 S2 g2 k2 => k2 hd Hb2 H2 σ S2 _ fun u Hb3 H3 S3 g3 k3 => ?_)
  intro pins s σ' v vl vu sl I rv is pl pu
  obtain ⟨r, ho, hr⟩ := k3 Hb3 H3 v1 S3.si (dt_mono g3.b (dt_mono g2.b r1)) Q' fun v d Hb' H' g rd qd => q v d Hb' H' (S3.grow g) (((g1.transM g2).transM g3).trans0 g) rd qd
  exact ho pins s σ' H3 v1 v vl vu l u sl Q' I rv is pl pu hr
/-! ### calls of built-ins -/
theorem ew_callB {x : Str} {id : String} (hm : X.mg x = none) (h : AW X F (e :: es) ε fun ds => CallW X (.builtin id) ds Q) (hv : bootBuiltins x = some (.builtin id) := by first | exact PySem.boot_len | decide +kernel) (hg : Gl X x := by rfl) (hn : x ≠ "__name__" := by decide) (hdb : (x == ("__debug__" : Str)) = false := by decide)
    (he : starEach (e :: es) X.env = (false, eval e X.env) :: starEach es X.env := by rfl) (hpl : (backTo pos (starEach es X.env)).any (·.1) = false := by rfl) : EW X F (.Call (.Name x p) (e :: es) [] pos) ε Q := fun hd Hb H σ S Q' q => by
  refine pe_run (pe_callB call_sem hg hm hv pa_sem hn hdb he hpl) (h hd Hb H σ S _ fun vs ds Hb1 H1 S1 g1 r1 l1 k1 => fun pins s σ' us I rv => ?_)
  obtain ⟨r, ho, hr⟩ := k1 Hb1 H1 vs S1.si r1 Q' fun v d Hb' H' g rd qd => q v d Hb' H' (S1.grow g) (g1.trans0 g) rd qd
  exact ho pins s σ' H1 vs us Q' I rv hr
theorem ew_callTy {x : Str} {T : String} (hm : X.mg x = none) (h : AW X F (e :: es) ε fun ds => CallW X (.type T) ds Q) (hv : bootBuiltins x = some (.type T) := by decide +kernel) (hg : Gl X x := by rfl) (hn : x ≠ "__name__" := by decide) (hdb : (x == ("__debug__" : Str)) = false := by decide)
    (he : starEach (e :: es) X.env = (false, eval e X.env) :: starEach es X.env := by rfl) (hpl : (backTo pos (starEach es X.env)).any (·.1) = false := by rfl) : EW X F (.Call (.Name x p) (e :: es) [] pos) ε Q := fun hd Hb H σ S Q' q => by
  refine pe_run (pe_callTy call_sem hg hm hv pa_sem hn hdb he hpl) (h hd Hb H σ S _ fun vs ds Hb1 H1 S1 g1 r1 l1 k1 => fun pins s σ' us I rv => ?_)
  obtain ⟨r, ho, hr⟩ := k1 Hb1 H1 vs S1.si r1 Q' fun v d Hb' H' g rd qd => q v d Hb' H' (S1.grow g) (g1.trans0 g) rd qd
  exact ho pins s σ' H1 vs us Q' I rv hr
/-- a text's method -/
theorem ew_sm0 {id : String} {name : Str} (slot : Slot "str" name id) (ty : typeOf (.builtin id) = pure (.type "method_descriptor")) (h : EW X F o ε fun d => (∃ z, d = .str z) ∧ MtW X id d [] Q)
    (hbase : attributeBase o name X.env (eval o X.env) = eval o X.env := by rfl) (hline : (apos.endLine == pos.line) = true := by rfl) : EW X F (.Call (.Attribute o name apos) [] [] pos) ε Q := fun hd Hb H σ S Q' q => by
  refine pe_run (pe_m0 slot ty mt_sem pe_sem hbase hline) (h hd Hb H σ S _ fun v1 d1 Hb1 H1 S1 g1 r1 ⟨⟨z, ez⟩, k1⟩ => ⟨⟨z, by subst ez; exact dt_str r1⟩, fun pins s σ' v us I rv ru => ?_⟩)
  obtain ⟨r, ho, hr⟩ := k1 Hb1 H1 v1 [] S1.si r1 .nil Q' fun v d Hb' H' g rd qd => q v d Hb' H' (S1.grow g) (g1.trans0 g) rd qd
  exact ho pins s σ' H1 v1 [] v us Q' I rv ru hr
theorem ew_sm1 {id : String} {name : Str} (slot : Slot "str" name id) (ty : typeOf (.builtin id) = pure (.type "method_descriptor")) (h : EW X F o ε fun d => (∃ z, d = .str z) ∧ EW X F e ε fun d2 => MtW X id d [d2] Q)
    (hs : starEach [e] X.env = [(false, eval e X.env)] := by rfl) (hbase : attributeBase o name X.env (eval o X.env) = eval o X.env := by rfl) (hline : (apos.endLine == pos.line) = true := by rfl) : EW X F (.Call (.Attribute o name apos) [e] [] pos) ε Q := fun hd Hb H σ S Q' q => by
  refine pe_run (pe_m1 slot ty mt_sem pe_sem pe_sem hs hbase hline) (h hd Hb H σ S _ fun v1 d1 Hb1 H1 S1 g1 r1 ⟨⟨z, ez⟩, k1⟩ => ⟨⟨z, by subst ez; exact dt_str r1⟩, k1 hd Hb1 H1 σ S1 _ fun v2 d2 Hb2 H2 S2 g2 r2 k2 => fun pins s σ' v us I rv ru => ?_⟩)
  obtain ⟨r, ho, hr⟩ := k2 Hb2 H2 v1 [v2] S2.si (dt_mono g2.b r1) (.cons r2 .nil) Q' fun v d Hb' H' g rd qd => q v d Hb' H' (S2.grow g) ((g1.transM g2).trans0 g) rd qd
  exact ho pins s σ' H2 v1 [v2] v us Q' I rv ru hr
end
end K78
/-! K78: judgements on statements, targets, iteration, comprehensions. -/
namespace K78
open PySem PySem.Spec L2
/-- what is wanted behind a statement, by data -/
structure ER where
  nx : Env → Prop
  rt : PyData → Env → Prop
  bk : Env → Prop := fun _ => False
  ct : Env → Prop := fun _ => False
structure EndsOk (F : Fm) (hd : Hid) (Hb : Hp) (R : ER) (D : Ends) : Prop where
  nx : ∀ Hb' H' σ' ε', Same Hb Hb' → SI F hd Hb' H' σ' ε' → R.nx ε' → D.nx σ' H'
  bk : ∀ Hb' H' σ' ε', Same Hb Hb' → SI F hd Hb' H' σ' ε' → R.bk ε' → D.bk σ' H'
  ct : ∀ Hb' H' σ' ε', Same Hb Hb' → SI F hd Hb' H' σ' ε' → R.ct ε' → D.ct σ' H'
  rt : ∀ v d Hb' H' σ' ε', Same Hb Hb' → SI F hd Hb' H' σ' ε' → Dt Hb' v d → R.rt d ε' → D.rt v H'
theorem EndsOk.mono {F : Fm} {hd : Hid} {Hb Hb1 : Hp} {R : ER} {D : Ends} (b : Same Hb Hb1) (k : EndsOk F hd Hb R D) : EndsOk F hd Hb1 R D :=
  ⟨fun Hb' H' σ' ε' c => k.nx _ _ _ _ (b.trans c), fun Hb' H' σ' ε' c => k.bk _ _ _ _ (b.trans c), fun Hb' H' σ' ε' c => k.ct _ _ _ _ (b.trans c), fun v d Hb' H' σ' ε' c => k.rt v d _ _ _ _ (b.trans c)⟩
section
variable (X : Cx) (F : Fm)
def SW (st : Stmt) (ε : Env) (R : ER) : Prop := ∀ hd Hb H σ, SI F hd Hb H σ ε → ∀ D, EndsOk F hd Hb R D → tSemS X st D σ H
def SWs (st : List Stmt) (ε : Env) (R : ER) : Prop := ∀ hd Hb H σ, SI F hd Hb H σ ε → ∀ D, EndsOk F hd Hb R D → tSemB X st D σ H
/-- a target is given data -/
def TW (tg : Expr) (d : PyData) (ε : Env) (Q : Env → Prop) : Prop := ∀ hd Hb H σ v, SI F hd Hb H σ ε → Dt Hb v d → ∀ Q' : L2.St → Hp → Prop, (∀ Hb' H' σ' ε', SI F hd Hb' H' σ' ε' → Gr F.Jd Hb H Hb' H' → Q ε' → Q' σ' H') → tSemG X tg v σ H Q'
def TWs (tgs : List Expr) (ds : List PyData) (ε : Env) (Q : Env → Prop) : Prop := ∀ hd Hb H σ vs, SI F hd Hb H σ ε → DtAll Hb vs ds → ∀ Q' : L2.St → Hp → Prop, (∀ Hb' H' σ' ε', SI F hd Hb' H' σ' ε' → Gr F.Jd Hb H Hb' H' → Q ε' → Q' σ' H') → tSemGs X tgs vs σ H Q'
end
/-! ### stores -/
section
variable {F : Fm} {hd : Hid} {Hb H : Hp} {σ : L2.St} {ε : Env}
theorem getD_set_ne {σ : L2.St} {i j : Nat} {x : Option V} (h : j ≠ i) : (σ.set i x).getD j none = σ.getD j none := by
  rw [List.getD_eq_getElem?_getD, List.getD_eq_getElem?_getD, List.getElem?_set_ne (Ne.symm h)]
theorem getD_set_eq {σ : L2.St} {i : Nat} {x : Option V} (h : i < σ.length) : (σ.set i x).getD i none = x := by
  rw [List.getD_eq_getElem?_getD, List.getElem?_set_self h]; rfl
theorem set_at {ε : Env} {i j : Nat} {s s' : Sl} (h : (ε.set i s')[j]? = some s) : (j = i ∧ s = s' ∧ i < ε.length) ∨ (j ≠ i ∧ ε[j]? = some s) := by
  by_cases c : j = i
  · subst c
    by_cases l : j < ε.length
    · rw [List.getElem?_set_self l] at h; exact .inl ⟨rfl, (Option.some.inj h).symm, l⟩
    · rw [List.getElem?_eq_none (by rw [List.length_set]; omega)] at h; cases h
  · rw [List.getElem?_set_ne (Ne.symm c)] at h; exact .inr ⟨c, h⟩
/-- a slot is given a value, its new content told by the owners as they stand -/
theorem SI.store (S : SI F hd Hb H σ ε) {ow : Ow} (h1 : OwOk F hd Hb H ow) (h2 : ∀ i s, ε[i]? = some s → SlOk Hb H ow i (σ.getD i none) s)
    {i : Nat} {x : Option V} {s : Sl} (h : SlOk Hb H ow i x s) : SI F hd Hb H (σ.set i x) (ε.set i s) where
  gr := S.gr
  j := S.j
  len := by rw [List.length_set, List.length_set]; exact S.len
  ow := ⟨ow, h1, fun j t e => by
    rcases set_at e with ⟨rfl, rfl, l⟩ | ⟨c, e⟩
    · rw [getD_set_eq (by rw [S.len]; exact l)]; exact h
    · rw [getD_set_ne c]; exact h2 j t e⟩
theorem SI.setDat (S : SI F hd Hb H σ ε) {i : Nat} {v : V} {d : PyData} (r : Dt Hb v d) : SI F hd Hb H (σ.set i (some v)) (ε.set i (.dat d)) := by
  obtain ⟨ow, h1, h2⟩ := S.ow
  exact S.store h1 h2 ⟨v, rfl, r⟩
theorem SI.setUn (S : SI F hd Hb H σ ε) {i : Nat} {x : Option V} : SI F hd Hb H (σ.set i x) (ε.set i .un) := by
  obtain ⟨ow, h1, h2⟩ := S.ow
  exact S.store h1 h2 trivial
theorem SI.setVal (S : SI F hd Hb H σ ε) {i : Nat} {x : V} : SI F hd Hb H (σ.set i (some x)) (ε.set i (.val x)) := by
  obtain ⟨ow, h1, h2⟩ := S.ow
  exact S.store h1 h2 (show some x = some x from rfl)
/-- what an owned thing at a is, as its object -/
def OwO (Hb : Hp) (o : HO) : Fv → Prop
  | .dat _ => False
  | .lst ds => ∃ vs, o = .lst vs ∧ DtAll Hb vs ds
  | .dK kvs => ∃ ws, o = .dK ws ∧ KvOk Hb ws kvs
  | .dT kvs => ∃ ws, o = .dT ws ∧ KvOk Hb ws kvs
theorem OwO.fv {H : Hp} {ow : Ow} {pl : Pl} {a : Addr} {o : HO} {x : Fv} (h : OwO Hb o x) (e : ow a = some pl) (ha : H a = some o) : FvOk Hb H ow pl (.ref a) x := by
  cases x with
  | dat d => exact h.elim
  | lst ds => obtain ⟨vs, rfl, r⟩ := h; exact ⟨a, vs, rfl, e, ha, r⟩
  | dK ds => obtain ⟨vs, rfl, r⟩ := h; exact ⟨a, vs, rfl, e, ha, r⟩
  | dT ds => obtain ⟨vs, rfl, r⟩ := h; exact ⟨a, vs, rfl, e, ha, r⟩
theorem SI.dead (S : SI F hd Hb H σ ε) {a : Addr} (h : H a = none) : Hb a = none ∧ F.H0 a = none ∧ ¬ F.Jd a ∧ ¬ F.M a := by
  have e : F.H0 a = none := Classical.byContradiction fun z => S.gr.t a z h
  exact ⟨S.si.free h, e, fun z => F.jd a z e, fun z => F.m a z e⟩
/-- the owners, a new one among them -/
theorem OwOk.new {ow : Ow} (h1 : OwOk F hd Hb H ow) (S : SI F hd Hb H σ ε) {a : Addr} (ha : H a = none) (o : HO) (pl : Pl) : OwOk F hd Hb (upd H a o) (fun b => if b = a then some pl else ow b) ∧ ∀ b q, ow b = some q → (fun b => if b = a then some pl else ow b) b = some q ∧ ∀ u, H b = some u → upd H a o b = some u := by
  obtain ⟨d1, d2, d3, d4⟩ := S.dead ha
  have ne : ∀ b q, ow b = some q → b ≠ a := fun b q e z => (h1.c b _ e).2.2.2 (z ▸ ha)
  refine ⟨⟨fun b q e => ?_, fun k b ds e => (h1.h k b ds e).move (Same.refl _) (fun b q => (if_neg (ne b _ q)).trans q) fun b u q z => (upd_ne (ne b _ q)).trans z⟩, fun b q e => ⟨(if_neg (ne b q e)).trans e, fun u z => (upd_ne (ne b q e)).trans z⟩⟩
  by_cases c : b = a
  · subst c; exact ⟨d1, .inr d2, d3, by rw [upd_same]; intro z; cases z⟩
  · obtain ⟨a1, a2, a3, a4⟩ := h1.c b q (by simpa only [if_neg c] using e)
    exact ⟨a1, a2, a3, by rw [upd_ne c]; exact a4⟩
/-- a new owned thing is given to a slot -/
theorem SI.setNew (S : SI F hd Hb H σ ε) {i : Nat} {a : Addr} {o : HO} {x : Fv} (ha : H a = none) (h : OwO Hb o x) : SI F hd Hb (upd H a o) (σ.set i (some (.ref a))) (ε.set i (.fv x)) := by
  have S1 : SI F hd Hb (upd H a o) σ ε := S.grow (Gr.tmp S.si ha)
  obtain ⟨ow, h1, h2⟩ := S.ow
  obtain ⟨n1, n2⟩ := h1.new S ha o (.sl i none)
  refine ⟨S1.gr, S1.j, by rw [List.length_set, List.length_set]; exact S.len, _, n1, fun j t e => ?_⟩
  rcases set_at e with ⟨rfl, rfl, l⟩ | ⟨c, e⟩
  · rw [getD_set_eq (by rw [S.len]; exact l)]
    exact ⟨_, rfl, h.fv (if_pos rfl) upd_same⟩
  · rw [getD_set_ne c]
    exact (h2 j t e).move (Same.refl _) (fun b x q => (n2 b _ q).1) fun b u x q z => (n2 b _ q).2 u z
/-- an owned thing of the slot i is changed -/
theorem SI.mutate (S : SI F hd Hb H σ ε) {ow : Ow} (h1 : OwOk F hd Hb H ow) (h2 : ∀ i s, ε[i]? = some s → SlOk Hb H ow i (σ.getD i none) s)
    {i : Nat} {x : Option Str} {a : Addr} {o : HO} {s : Sl} (ha : ow a = some (.sl i x)) (h : SlOk Hb (upd H a o) ow i (σ.getD i none) s) (hro : i = 0 → ¬ F.ro) : SI F hd Hb (upd H a o) σ (ε.set i s) := by
  obtain ⟨a1, a2, a3, a4⟩ := h1.c a _ ha
  have m : F.M a ∨ F.H0 a = none := a2.elim (fun z => z.2.elim .inl fun w => absurd w (hro (by obtain ⟨⟨x, e⟩, _⟩ := z; cases e; rfl))) .inr
  refine ⟨⟨S.gr.b, same_updb S.gr.i a1, S.gr.n, fun b u hm e => ?_, fun b e => some_upd (S.gr.t b e)⟩, F.j2 _ _ _ _ a3 S.j, by rw [List.length_set]; exact S.len, ow, ⟨fun b pl e => ?_, fun k b ds e => (h1.h k b ds e).move (Same.refl _) (fun b q => q) fun b u q z => ?_⟩, fun j t e => ?_⟩
  · rw [upd_ne]
    · exact S.gr.h b u hm e
    · intro z; subst z
      rcases m with z | z
      · exact hm z
      · rw [z] at e; cases e
  · obtain ⟨b1, b2, b3, b4⟩ := h1.c b pl e
    exact ⟨b1, b2, b3, some_upd b4⟩
  · rw [upd_ne]
    · exact z
    · intro w; subst w; rw [ha] at q; cases q
  · rcases set_at e with ⟨rfl, rfl, l⟩ | ⟨c, e⟩
    · exact h
    · refine (h2 j t e).mono (Same.refl _) fun b u y q z => ?_
      rw [upd_ne]
      · exact z
      · intro w; subst w; rw [ha] at q; cases q; exact c rfl
/-- a slot's list becomes data -/
theorem SI.freeze (S : SI F hd Hb H σ ε) {i : Nat} {ds : List PyData} (h0 : i ≠ 0) (hε : ε[i]? = some (.lst ds)) : ∃ Hb', Same Hb Hb' ∧ SI F hd Hb' H σ (ε.set i (.dat (.list ds))) := by
  obtain ⟨ow, h1, h2⟩ := S.ow
  obtain ⟨u, eu, a, vs, rfl, oa, ha, r⟩ := h2 i _ hε
  obtain ⟨a1, a2, a3, a4⟩ := h1.c a _ oa
  have a5 : F.H0 a = none := a2.elim (fun z => by obtain ⟨⟨x, e⟩, _⟩ := z; cases e; exact absurd rfl h0) fun z => z
  have sm : Same Hb (upd Hb a (.lst vs)) := same_new a1
  refine ⟨upd Hb a (.lst vs), sm, ⟨S.gr.b.trans sm, fun b x e => ?_, fun b e => ?_, S.gr.h, S.gr.t⟩, F.j3 _ _ _ _ a3 a1 S.j, by rw [List.length_set]; exact S.len, fun b => if b = a then none else ow b, ⟨fun b pl e => ?_, fun k b ds e => (h1.h k b ds e).move sm (fun b q => ?_) fun b u q z => z⟩, fun j t e => ?_⟩
  · by_cases c : b = a
    · subst c; rw [upd_same] at e; rw [← e]; exact ha
    · rw [upd_ne c] at e; exact S.gr.i b x e
  · rw [upd_ne]
    · exact S.gr.n b e
    · intro z; subst z; exact e a5
  · by_cases c : b = a
    · simp only [if_pos c] at e; cases e
    · obtain ⟨b1, b2, b3, b4⟩ := h1.c b pl (by simpa only [if_neg c] using e)
      exact ⟨by rw [upd_ne c]; exact b1, b2, b3, b4⟩
  · exact (if_neg (fun z => by rw [z, oa] at q; cases q)).trans q
  · rcases set_at e with ⟨rfl, rfl, l⟩ | ⟨c, e⟩
    · exact ⟨_, eu, .lst upd_same (dta_mono sm r)⟩
    · have ne : ∀ b x, ow b = some (.sl j x) → b ≠ a := fun b x e z => by rw [z, oa] at e; cases e; exact c rfl
      exact (h2 j t e).move sm (fun b x q => (if_neg (ne b x q)).trans q) fun b u x q z => z
/-- a hidden list is begun -/
theorem SI.hide (S : SI F hd Hb H σ ε) {a : Addr} (ha : H a = none) : SI F (hd ++ [(a, [])]) Hb (upd H a (.lst [])) σ ε := by
  have S1 : SI F hd Hb (upd H a (.lst [])) σ ε := S.grow (Gr.tmp S.si ha)
  obtain ⟨ow, h1, h2⟩ := S.ow
  obtain ⟨n1, n2⟩ := h1.new S ha (.lst []) (.hid hd.length)
  refine ⟨S1.gr, S1.j, S.len, _, ⟨n1.c, fun k b ds e => ?_⟩, fun j t e => (h2 j t e).move (Same.refl _) (fun b x q => (n2 b _ q).1) fun b u x q z => (n2 b _ q).2 u z⟩
  by_cases c : k < hd.length
  · rw [List.getElem?_append_left c] at e; exact n1.h k b ds e
  · rw [List.getElem?_append_right (by omega)] at e
    cases q : k - hd.length with
    | succ n => rw [q] at e; cases e
    | zero =>
      rw [q] at e
      cases e
      have : k = hd.length := by omega
      subst this
      exact ⟨a, [], rfl, if_pos rfl, upd_same, .nil⟩
theorem SI.unhide {x : Hid} (S : SI F (hd ++ x) Hb H σ ε) : SI F hd Hb H σ ε := by
  obtain ⟨ow, h1, h2⟩ := S.ow
  refine ⟨S.gr, S.j, S.len, ow, ⟨h1.c, fun k b ds e => h1.h k b ds ?_⟩, h2⟩
  have c : k < hd.length := (List.getElem?_eq_some_iff.mp e).1
  rw [List.getElem?_append_left c]; exact e
theorem SI.hidden {a : Addr} {ds : List PyData} (S : SI F (hd ++ [(a, ds)]) Hb H σ ε) : ∃ vs, H a = some (.lst vs) ∧ DtAll Hb vs ds ∧ Hb a = none ∧ F.H0 a = none ∧ ¬ F.Jd a ∧ ∀ vs' ds', DtAll Hb vs' ds' → SI F (hd ++ [(a, ds')]) Hb (upd H a (.lst vs')) σ ε := by
  obtain ⟨ow, h1, h2⟩ := S.ow
  have e0 : (hd ++ [(a, ds)])[hd.length]? = some (a, ds) := by rw [List.getElem?_append_right (Nat.le_refl _), Nat.sub_self]; rfl
  obtain ⟨b, vs, eb, oa, ha, r⟩ := h1.h _ _ _ e0
  cases eb
  obtain ⟨a1, a2, a3, a4⟩ := h1.c a _ oa
  have a5 : F.H0 a = none := a2.elim (fun z => by obtain ⟨⟨x, e⟩, _⟩ := z; cases e) fun z => z
  refine ⟨vs, ha, r, a1, a5, a3, fun vs' ds' r' => ⟨⟨S.gr.b, same_updb S.gr.i a1, S.gr.n, fun b u hm e => ?_, fun b e => some_upd (S.gr.t b e)⟩, F.j2 _ _ _ _ a3 S.j, S.len, ow, ⟨fun b pl e => ?_, fun k b es e => ?_⟩, fun j t e => ?_⟩⟩
  · rw [upd_ne]
    · exact S.gr.h b u hm e
    · intro z; subst z; rw [a5] at e; cases e
  · obtain ⟨b1, b2, b3, b4⟩ := h1.c b pl e
    exact ⟨b1, b2, b3, some_upd b4⟩
  · by_cases c : k < hd.length
    · rw [List.getElem?_append_left c] at e
      refine (h1.h k b es (by rw [List.getElem?_append_left c]; exact e)).move (Same.refl _) (fun _ q => q) fun b u q z => (upd_ne fun w => ?_).trans z
      subst w; rw [oa] at q; cases q; exact absurd c (Nat.lt_irrefl _)
    · rw [List.getElem?_append_right (by omega)] at e
      cases q : k - hd.length with
      | succ n => rw [q] at e; cases e
      | zero =>
        rw [q] at e
        cases e
        have : k = hd.length := by omega
        subst this
        exact ⟨a, vs', rfl, oa, upd_same, r'⟩
  · refine (h2 j t e).mono (Same.refl _) fun b u y q z => (upd_ne fun w => ?_).trans z
    subst w; rw [oa] at q; cases q
/-- the hidden list becomes data -/
theorem SI.reveal {a : Addr} {ds : List PyData} (S : SI F (hd ++ [(a, ds)]) Hb H σ ε) : ∃ vs, H a = some (.lst vs) ∧ DtAll Hb vs ds ∧ Hb a = none ∧ SI F hd (upd Hb a (.lst vs)) H σ ε := by
  obtain ⟨vs, ha, r, a1, a5, a3, _⟩ := S.hidden
  obtain ⟨ow, h1, h2⟩ := S.ow
  have e0 : (hd ++ [(a, ds)])[hd.length]? = some (a, ds) := by rw [List.getElem?_append_right (Nat.le_refl _), Nat.sub_self]; rfl
  obtain ⟨b, _, eb, oa, _⟩ := h1.h _ _ _ e0
  cases eb
  have sm : Same Hb (upd Hb a (.lst vs)) := same_new a1
  refine ⟨vs, ha, r, a1, ⟨S.gr.b.trans sm, fun b x e => ?_, fun b e => ?_, S.gr.h, S.gr.t⟩, F.j3 _ _ _ _ a3 a1 S.j, S.len, fun b => if b = a then none else ow b, ⟨fun b pl e => ?_, fun k b es e => ?_⟩, fun j t e => ?_⟩
  · by_cases c : b = a
    · subst c; rw [upd_same] at e; rw [← e]; exact ha
    · rw [upd_ne c] at e; exact S.gr.i b x e
  · rw [upd_ne]
    · exact S.gr.n b e
    · intro z; subst z; exact e a5
  · by_cases c : b = a
    · simp only [if_pos c] at e; cases e
    · obtain ⟨b1, b2, b3, b4⟩ := h1.c b pl (by simpa only [if_neg c] using e)
      exact ⟨by rw [upd_ne c]; exact b1, b2, b3, b4⟩
  · have c : k < hd.length := (List.getElem?_eq_some_iff.mp e).1
    refine (h1.h k b es (by rw [List.getElem?_append_left c]; exact e)).move sm (fun b q => (if_neg (fun z => ?_)).trans q) fun b u q z => z
    rw [z, oa] at q; cases q; exact absurd c (Nat.lt_irrefl _)
  · exact (h2 j t e).move sm (fun b x q => (if_neg (fun z => by rw [z, oa] at q; cases q)).trans q) fun b u x q z => z
end
section
variable {X : Cx} {F : Fm} {ε : Env} {R : ER} {a b e c o : Expr} {es : List Expr} {pos p apos cpos : Pos} {st : Stmt} {rest body : List Stmt}
/-! ### small statements -/
theorem sws_nil (q : R.nx ε) : SWs X F [] ε R := fun hd Hb H σ S D k => pss_run pss_nil (k.nx Hb H σ ε (Same.refl _) S q)
theorem sws_cons (h : SW X F st ε { R with nx := fun ε' => SWs X F rest ε' R }) : SWs X F (st :: rest) ε R := fun hd Hb H σ S D k =>
  pss_run (pss_cons ps_sem pss_sem) (h hd Hb H σ S _ ⟨fun Hb' H' σ' ε' b S' z => z hd Hb' H' σ' S' D (k.mono b), k.bk, k.ct, k.rt⟩)
theorem sws_one (h : SW X F st ε R) : SWs X F [st] ε R := fun hd Hb H σ S D k => pss_run (pss_one ps_sem) (h hd Hb H σ S D k)
theorem SW.imp {R2 : ER} (h : SW X F st ε R) (nx : ∀ ε, R.nx ε → R2.nx ε) (rt : ∀ d ε, R.rt d ε → R2.rt d ε) (bk : ∀ ε, R.bk ε → R2.bk ε) (ct : ∀ ε, R.ct ε → R2.ct ε) : SW X F st ε R2 := fun hd Hb H σ S D k =>
  h hd Hb H σ S D ⟨fun a b c d x y z => k.nx a b c d x y (nx _ z), fun a b c d x y z => k.bk a b c d x y (bk _ z), fun a b c d x y z => k.ct a b c d x y (ct _ z), fun v e a b c d x y w z => k.rt v e a b c d x y w (rt _ _ z)⟩
theorem sw_pass (q : R.nx ε) : SW X F (.Pass pos) ε R := fun hd Hb H σ S D k => ps_run ps_pass (k.nx Hb H σ ε (Same.refl _) S q)
theorem sw_break (q : R.bk ε) : SW X F (.Break pos) ε R := fun hd Hb H σ S D k => ps_run ps_break (k.bk Hb H σ ε (Same.refl _) S q)
theorem sw_cont (q : R.ct ε) : SW X F (.Continue pos) ε R := fun hd Hb H σ S D k => ps_run ps_continue (k.ct Hb H σ ε (Same.refl _) S q)
theorem sw_expr (h : EW X F e ε fun _ => R.nx ε) (hs : swapsWith e none pos.line X.env = pure false := by rfl) : SW X F (.Expr e pos) ε R := fun hd Hb H σ S D k =>
  ps_run (ps_expr pe_sem hs) (h hd Hb H σ S _ fun v d Hb' H' S' g r q => k.nx _ _ _ _ g.b S' q)
theorem sw_ret (h : EW X F e ε fun d => R.rt d ε) : SW X F (.Return (some e) pos) ε R := fun hd Hb H σ S D k =>
  ps_run (ps_ret pe_sem) (h hd Hb H σ S _ fun v d Hb' H' S' g r q => k.rt v d _ _ _ _ g.b S' r q)
theorem sw_retN (h : R.rt .none ε) : SW X F (.Return none pos) ε R := fun hd Hb H σ S D k => ps_run ps_retN (k.rt _ _ _ _ _ _ (Same.refl _) S .non h)
theorem sw_if {x y : List Stmt} (h : BW X F c ε fun k => (k = true → SWs X F x ε R) ∧ (k = false → SWs X F y ε R)) : SW X F (.If c x y pos) ε R := fun hd Hb H σ S D k =>
  ps_run (ps_if pt_sem pss_sem pss_sem) (h hd Hb H σ S _ fun b Hb' H' S' g z => by
    cases b with
    | true => exact iteT ((z.1 rfl) _ _ _ _ S' D (k.mono g.b))
    | false => exact iteF ((z.2 rfl) _ _ _ _ S' D (k.mono g.b)))
/-- a statement that is never reached -/
theorem sw_never (h : False) : SW X F st ε R := h.elim
/-! ### targets -/
variable {QE : Env → Prop}
theorem tw_name (i : Nat) {x : Str} {d : PyData} (q : QE (ε.set i (.dat d))) (hN : X.N.Nodup := by first | assumption | decide +kernel) (hi : X.N[i]? = some x := by rfl) (hx : Loc X.env.scope x := by first | exact .inl rfl | exact .inr rfl)
    (hf : X.fn x = true ∨ X.env.scope.names.lookup x = some .local := by first | exact .inl rfl | exact .inr rfl) : TW X F (.Name x pos) d ε QE := fun hd Hb H σ v S r Q' k =>
  pg_run (pg_name hN hi hx hf) (k _ _ _ _ (S.setDat r) (Gr.refl S.si) q)
theorem tws_nil (q : QE ε) : TWs X F [] [] ε QE := fun hd Hb H σ vs S r Q' k => by
  cases r
  exact pgs_run pgs_nil ⟨rfl, k _ _ _ _ S (Gr.refl S.si) q⟩
theorem tws_cons {d : PyData} {ds : List PyData} (h : TW X F e d ε fun ε' => TWs X F es ds ε' QE) (hs : (assignEach (e :: es) X.env).map (·.2) = assign e X.env :: (assignEach es X.env).map (·.2) := by rfl) : TWs X F (e :: es) (d :: ds) ε QE := fun hd Hb H σ vs S r Q' k => by
  cases r with
  | cons r rs =>
    exact pgs_run (pgs_cons pg_sem pgs_sem hs) ⟨_, _, rfl, h hd Hb H σ _ S r _ fun Hb' H' σ' ε' S' g z => z _ _ _ _ _ S' (dta_mono g.b rs) _ fun Hb2 H2 σ2 ε2 S2 g2 z2 => k _ _ _ _ S2 (g.transM g2) z2⟩
theorem tw_tup {k : Nat} {ds : List PyData} {n : Nat} (h : TWs X F es ds ε QE) (hl : ds.length = n := by rfl) (hc : X.calm = true := by rfl) (hn : (assignEach es X.env).length = n := by rfl) (hst : (assignEach es X.env).findIdx? (·.1) = none := by rfl) : TW X F (.Tuple es k pos) (.tuple ds) ε QE := fun hd Hb H σ v S r Q' kk => by
  obtain ⟨a, vs, rfl, ha, r⟩ := dt_tup r
  exact pg_run (pg_tup hc pgs_sem hn hst) ⟨a, vs, rfl, SqT.of (S.si _ _ ha), (dta_len r).trans hl, h hd Hb H σ vs S r Q' kk⟩
/-! ### assignments -/
theorem sw_asg {tg : Expr} (h : EW X F e ε fun d => TW X F tg d ε R.nx) (hs : swapsWithSole [tg] e pos.line X.env = pure false := by rfl) (hw : swappedStores [tg] e X.env = pure none := by rfl)
    (h1 : (assignEach [tg] X.env).map (·.2) = [assign tg X.env] := by rfl) : SW X F (.Assign [tg] e pos) ε R := fun hd Hb H σ S D k =>
  ps_run (ps_asg pe_sem pg_sem hs hw h1) (h hd Hb H σ S _ fun v d Hb' H' S' g r z => z _ _ _ _ _ S' r _ fun Hb2 H2 σ2 ε2 S2 g2 z2 => k.nx _ _ _ _ (g.b.trans g2.b) S2 z2)
theorem sw_set (i : Nat) {x : Str} {pos' : Pos} (h : EW X F e ε fun d => R.nx (ε.set i (.dat d))) (hN : X.N.Nodup := by first | assumption | decide +kernel) (hi : X.N[i]? = some x := by rfl) (hx : Loc X.env.scope x := by first | exact .inl rfl | exact .inr rfl) (hs : swapsWith e (some (.Name x pos')) pos.line X.env = pure false := by rfl)
    (hf : X.fn x = true ∨ X.env.scope.names.lookup x = some .local := by first | exact .inl rfl | exact .inr rfl) : SW X F (.Assign [.Name x pos'] e pos) ε R := fun hd Hb H σ S D k =>
  ps_run (ps_set hN hi hx pe_sem hs hf) (h hd Hb H σ S _ fun v d Hb' H' S' g r z => k.nx _ _ _ _ g.b (S'.setDat r) z)
/-- name = [..], the list owned -/
theorem sw_setL (i : Nat) {x : Str} {pos' : Pos} (h : AW X F es ε fun ds => R.nx (ε.set i (.lst ds))) (hl : es.length ≤ 1000 := by decide) (hN : X.N.Nodup := by first | assumption | decide +kernel) (hi : X.N[i]? = some x := by rfl) (hx : Loc X.env.scope x := by first | exact .inl rfl | exact .inr rfl) (hs : swapsWith (.List es p) (some (.Name x pos')) pos.line X.env = pure false := by rfl)
    (hf : X.fn x = true ∨ X.env.scope.names.lookup x = some .local := by first | exact .inl rfl | exact .inr rfl) : SW X F (.Assign [.Name x pos'] (.List es p) pos) ε R := fun hd Hb H σ S D k =>
  ps_run (ps_set hN hi hx (pe_lst pa_sem) hs hf) (h hd Hb H σ S _ fun vs ds Hb' H' S' g r l z => ⟨by rw [dta_len r, l]; exact Nat.le_of_lt (small1000 hl), fun q hq => k.nx _ _ _ _ g.b (S'.setNew (x := .lst ds) hq ⟨vs, rfl, r⟩) z⟩)
theorem sw_setDK (i : Nat) {x : Str} {pos' : Pos} (h : R.nx (ε.set i (.fv (.dK [])))) (hN : X.N.Nodup := by first | assumption | decide +kernel) (hi : X.N[i]? = some x := by rfl) (hx : Loc X.env.scope x := by first | exact .inl rfl | exact .inr rfl) (hs : swapsWith (.Dict [] [] p) (some (.Name x pos')) pos.line X.env = pure false := by rfl)
    (hf : X.fn x = true ∨ X.env.scope.names.lookup x = some .local := by first | exact .inl rfl | exact .inr rfl) : SW X F (.Assign [.Name x pos'] (.Dict [] [] p) pos) ε R := fun hd Hb H σ S D k =>
  ps_run (ps_set hN hi hx pe_dnewK hs hf) fun q hq => k.nx _ _ _ _ (Same.refl _) (S.setNew (x := .dK []) hq ⟨[], rfl, .nil⟩) h
/-- a list becomes data: no step of the program -/
theorem sw_freeze (i : Nat) {ds : List PyData} (h : SW X F st (ε.set i (.dat (.list ds))) R) (h0 : i ≠ 0 := by decide) (hε : ε[i]? = some (.lst ds) := by rfl) : SW X F st ε R := fun hd Hb H σ S D k => by
  obtain ⟨Hb', sm, S'⟩ := S.freeze h0 hε
  exact h _ _ _ _ S' D (k.mono sm)
theorem sws_freeze (i : Nat) {ds : List PyData} (h : SWs X F rest (ε.set i (.dat (.list ds))) R) (h0 : i ≠ 0 := by decide) (hε : ε[i]? = some (.lst ds) := by rfl) : SWs X F rest ε R := fun hd Hb H σ S D k => by
  obtain ⟨Hb', sm, S'⟩ := S.freeze h0 hε
  exact h _ _ _ _ S' D (k.mono sm)
/-- name op= e, data -/
theorem sw_aug (i : Nat) {x : Str} {op : Operator} {pos' : Pos} {d1 : PyData} (hε : ε[i]? = some (.dat d1) := by rfl) (h : EW X F e ε fun d2 => OpW X (inplaceOp op) d1 d2 fun d => R.nx (ε.set i (.dat d))) (hN : X.N.Nodup := by first | assumption | decide +kernel) (hi : X.N[i]? = some x := by rfl) (hx : Loc X.env.scope x := by first | exact .inl rfl | exact .inr rfl)
    (hf : X.fn x = true ∨ X.env.scope.names.lookup x = some .local := by first | exact .inl rfl | exact .inr rfl) : SW X F (.AugAssign (.Name x pos') op e pos) ε R := fun hd Hb H σ S D k => by
  obtain ⟨ow, h1, h2⟩ := S.ow
  obtain ⟨u, eu, ru⟩ := h2 i _ hε
  refine ps_run (ps_aug hN hi hx pe_sem (op_sem : OpR X (inplaceOp op) _) hf) ⟨u, getD_of eu, h hd Hb H σ S _ fun v2 d2 Hb2 H2 S2 g2 r2 k2 => fun pins s σ' v w I rv rw => ?_⟩
  obtain ⟨r, ho, hr⟩ := k2 Hb2 H2 u v2 S2.si (dt_mono g2.b ru) r2 (fun z H' => D.nx (σ.set i (some z)) H') fun v d Hb' H' g rd qd => k.nx _ _ _ _ (g2.b.trans g.b) ((S2.grow g).setDat rd) qd
  exact ho pins s σ' H2 u v2 v w _ I rv rw hr
/-! ### owned lists -/
theorem own_at {Hb H : Hp} {σ : L2.St} {i : Nat} {ds : List PyData} (S : SI F hd Hb H σ ε) (hε : ε[i]? = some (.lst ds)) (h0 : i ≠ 0) : ∃ a vs, σ[i]? = some (some (.ref a)) ∧ H a = some (.lst vs) ∧ DtAll Hb vs ds ∧ Hb a = none ∧
    ∀ vs' ds', DtAll Hb vs' ds' → SI F hd Hb (upd H a (.lst vs')) σ (ε.set i (.lst ds')) := by
  obtain ⟨ow, h1, h2⟩ := S.ow
  obtain ⟨u, eu, a, vs, rfl, oa, ha, r⟩ := h2 i _ hε
  refine ⟨a, vs, getD_of eu, ha, r, (h1.c a _ oa).1, fun vs' ds' r' => S.mutate h1 h2 oa ⟨_, eu, a, vs', rfl, oa, upd_same, r'⟩ fun z => absurd z h0⟩
theorem sw_append (i : Nat) {x : Str} {xpos : Pos} {ds : List PyData} (hε : ε[i]? = some (.lst ds) := by rfl) (hz : ds.length < 16000000) (h : EW X F e ε fun d => R.nx (ε.set i (.lst (ds ++ [d])))) (hN : X.N[i]? = some x := by rfl) (hv : Vis X.env.scope x := by first | exact Or.inl rfl | exact Or.inr (Or.inl rfl) | exact Or.inr (Or.inr rfl))
    (hdg : (x == ("__debug__" : Str)) = false := by decide) (hcd : (x == ("__classdict__" : Str)) = false := by decide) (h0 : i ≠ 0 := by decide)
    (hbase : attributeBase (.Name x xpos) "append" X.env (eval (.Name x xpos) X.env) = eval (.Name x xpos) X.env := by rfl)
    (hfew : ((backTo cpos (starEach [e] X.env)).all (fun x => !x.1) && (backToKw cpos (keywordEach [] X.env)).all (fun x => x.1.isSome) && decide (([e] : List Expr).length + ([] : List Keyword).length + (if ([] : List Keyword).isEmpty then 0 else 1) < 30)) = true := by rfl)
    (hline : (apos.endLine == cpos.line) = true := by rfl) (hs : starEach [e] X.env = (false, eval e X.env) :: starEach [] X.env := by rfl) (hplain : (backTo cpos (starEach [] X.env)).any (·.1) = false := by rfl)
    (hsw : swapsWith (.Call (.Attribute (.Name x xpos) "append" apos) [e] [] cpos) none pos.line X.env = pure false := by rfl) :
    SW X F (.Expr (.Call (.Attribute (.Name x xpos) "append" apos) [e] [] cpos) pos) ε R := fun hd Hb H σ S D k => by
  obtain ⟨a, vs, eu, ha, r, na, up⟩ := own_at S hε h0
  refine ps_run (ps_expr (pe_bm PySem.F.plainAttrs_list PySem.F.slot_list_append PySem.F.type_list_append mt_append (pe_var hN hv hdg hcd) (pa_cons pe_sem pa_nil hs) hbase hfew hline hs hplain) hsw) ?_
  refine ⟨_, eu, .inl ⟨rfl, _, SqL.of ha⟩, h hd Hb H σ S _ fun v d Hb' H' S' g rd q => ?_⟩
  obtain ⟨a', vs', eu', ha', r', na', up'⟩ := own_at S' hε h0
  rw [eu] at eu'
  cases eu'
  refine ⟨a, vs', v, rfl, rfl, ha', ?_, k.nx _ _ _ _ g.b (up' _ _ (dta_snoc r' rd)) q⟩
  rw [dta_len r']
  exact Nat.lt_trans hz (by decide)
theorem sw_extend (i : Nat) {x : Str} {xpos : Pos} {ds : List PyData} (hε : ε[i]? = some (.lst ds) := by rfl) (h : EW X F e ε fun d => ∃ es, d = .list es ∧ ds.length + es.length ≤ 16000000 ∧ R.nx (ε.set i (.lst (ds ++ es)))) (hN : X.N[i]? = some x := by rfl) (hv : Vis X.env.scope x := by first | exact Or.inl rfl | exact Or.inr (Or.inl rfl) | exact Or.inr (Or.inr rfl))
    (hdg : (x == ("__debug__" : Str)) = false := by decide) (hcd : (x == ("__classdict__" : Str)) = false := by decide) (h0 : i ≠ 0 := by decide)
    (hbase : attributeBase (.Name x xpos) "extend" X.env (eval (.Name x xpos) X.env) = eval (.Name x xpos) X.env := by rfl)
    (hfew : ((backTo cpos (starEach [e] X.env)).all (fun x => !x.1) && (backToKw cpos (keywordEach [] X.env)).all (fun x => x.1.isSome) && decide (([e] : List Expr).length + ([] : List Keyword).length + (if ([] : List Keyword).isEmpty then 0 else 1) < 30)) = true := by rfl)
    (hline : (apos.endLine == cpos.line) = true := by rfl) (hs : starEach [e] X.env = (false, eval e X.env) :: starEach [] X.env := by rfl) (hplain : (backTo cpos (starEach [] X.env)).any (·.1) = false := by rfl)
    (hsw : swapsWith (.Call (.Attribute (.Name x xpos) "extend" apos) [e] [] cpos) none pos.line X.env = pure false := by rfl) :
    SW X F (.Expr (.Call (.Attribute (.Name x xpos) "extend" apos) [e] [] cpos) pos) ε R := fun hd Hb H σ S D k => by
  obtain ⟨a, vs, eu, ha, r, na, up⟩ := own_at S hε h0
  refine ps_run (ps_expr (pe_bm PySem.F.plainAttrs_list PySem.F.slot_list_extend PySem.F.type_list_extend mt_extend (pe_var hN hv hdg hcd) (pa_cons pe_sem pa_nil hs) hbase hfew hline hs hplain) hsw) ?_
  refine ⟨_, eu, .inl ⟨rfl, _, SqL.of ha⟩, h hd Hb H σ S _ fun v d Hb' H' S' g rd ⟨es, ed, hz, q⟩ => ?_⟩
  subst ed
  obtain ⟨b, ws, rfl, hb, rb⟩ := dt_lst rd
  obtain ⟨a', vs', eu', ha', r', na', up'⟩ := own_at S' hε h0
  rw [eu] at eu'
  cases eu'
  refine ⟨a, b, vs', ws, rfl, rfl, ha', S'.si _ _ hb, ?_, k.nx _ _ _ _ g.b (up' _ _ (dta_app r' rb)) q⟩
  rw [dta_len r', dta_len rb]
  exact Nat.le_trans hz (by decide)
theorem sw_pop (i : Nat) {x : Str} {xpos : Pos} {ds : List PyData} (hε : ε[i]? = some (.lst ds) := by rfl) (hne : ds ≠ []) (h : R.nx (ε.set i (.lst ds.dropLast))) (hN : X.N[i]? = some x := by rfl) (hv : Vis X.env.scope x := by first | exact Or.inl rfl | exact Or.inr (Or.inl rfl) | exact Or.inr (Or.inr rfl))
    (hdg : (x == ("__debug__" : Str)) = false := by decide) (hcd : (x == ("__classdict__" : Str)) = false := by decide) (h0 : i ≠ 0 := by decide)
    (hbase : attributeBase (.Name x xpos) "pop" X.env (eval (.Name x xpos) X.env) = eval (.Name x xpos) X.env := by rfl) (hline : (apos.endLine == cpos.line) = true := by rfl)
    (hsw : swapsWith (.Call (.Attribute (.Name x xpos) "pop" apos) [] [] cpos) none pos.line X.env = pure false := by rfl) :
    SW X F (.Expr (.Call (.Attribute (.Name x xpos) "pop" apos) [] [] cpos) pos) ε R := fun hd Hb H σ S D k => by
  obtain ⟨a, vs, eu, ha, r, na, up⟩ := own_at S hε h0
  have hl := dta_len r
  have hv0 : vs ≠ [] := fun z => hne (List.eq_nil_of_length_eq_zero (by rw [← hl, z]; rfl))
  refine ps_run (ps_expr (pe_bm0 PySem.F.plainAttrs_list PySem.F.slot_list_pop PySem.F.type_list_pop mt_pop (pe_var hN hv hdg hcd) hbase hline) hsw) ?_
  refine ⟨_, eu, .inl ⟨rfl, _, SqL.of ha⟩, a, vs, vs.getLast hv0, rfl, rfl, ha, ?_, k.nx _ _ _ _ (Same.refl _) (up _ _ (dta_dropLast r)) h⟩
  rw [← List.getLast?_eq_getElem?, List.getLast?_eq_getLast hv0]
end
end K78
/-! K78: loops, comprehensions, calls of defs. -/
namespace K78
open PySem PySem.Spec L2
/-- an iterator that gives the data ds, one after another, while the data heap stands -/
def ItD (J : It) (ds : List PyData) (Hb : Hp) : Prop := Walk J ds.length (fun H => Same Hb H) fun i H v H' => ∀ Hb2, Same Hb Hb2 → Same Hb2 H → ∃ Hb3 d, Gr0 Hb2 H Hb3 H' ∧ ds[i]? = some d ∧ Dt Hb3 v d
section
variable (X : Cx) (F : Fm)
def IW (tg iter : Expr) (ε : Env) (Q : List PyData → Prop) : Prop := ∀ hd Hb H σ, SI F hd Hb H σ ε → ∀ R' : It → Hp → Prop, (∀ J ds Hb' H', SI F hd Hb' H' σ ε → Gr F.Jd Hb H Hb' H' → ItD J ds Hb' → Q ds → R' J H') → tSemI X tg iter σ H R'
end
section
variable {X : Cx} {F : Fm} {ε : Env} {R : ER} {a b e c o tg iter : Expr} {es : List Expr} {pos p apos cpos : Pos} {st : Stmt} {rest body : List Stmt} {Q : List PyData → Prop}
/-! ### what is walked -/
theorem itD_list {K : Frag} {Hb : Hp} {l : Addr} {vs : List V} {ds : List PyData} (h : Hb l = some (.lst vs)) (r : DtAll Hb vs ds) : ItD (Itl K l) ds Hb := by
  have w := (walk_list (K := K) (a := l) (xs := vs)).mono (G' := fun H => Same Hb H) (Y' := fun i H v H' => ∀ Hb2, Same Hb Hb2 → Same Hb2 H → ∃ Hb3 d, Gr0 Hb2 H Hb3 H' ∧ ds[i]? = some d ∧ Dt Hb3 v d) (fun H s => SqL.of (s _ _ h)) fun i H x H' hi s y Hb2 s2 s3 => by
    obtain ⟨rfl, e⟩ := y
    obtain ⟨d, ed, rd⟩ := dta_at r e
    exact ⟨Hb2, d, Gr.refl s3, ed, dt_mono s2 rd⟩
  unfold ItD
  rw [← dta_len r]
  exact w
theorem itD_tup {K : Frag} {Hb : Hp} {l : Addr} {vs : List V} {ds : List PyData} (h : Hb l = some (.tup vs)) (r : DtAll Hb vs ds) : ItD (Itt K l) ds Hb := by
  have w := (walk_tup (K := K) (a := l) (xs := vs)).mono (G' := fun H => Same Hb H) (Y' := fun i H v H' => ∀ Hb2, Same Hb Hb2 → Same Hb2 H → ∃ Hb3 d, Gr0 Hb2 H Hb3 H' ∧ ds[i]? = some d ∧ Dt Hb3 v d) (fun H s => SqT.of (s _ _ h)) fun i H x H' hi s y Hb2 s2 s3 => by
    obtain ⟨rfl, e⟩ := y
    obtain ⟨d, ed, rd⟩ := dta_at r e
    exact ⟨Hb2, d, Gr.refl s3, ed, dt_mono s2 rd⟩
  unfold ItD
  rw [← dta_len r]
  exact w
/-- the signs of a text, as data -/
def sgn (l : List Nat) : List PyData := l.map fun c => .str ⟨#[c]⟩
theorem itD_str {Hb : Hp} {z : Str} : ItD (Its z) (sgn z.cps.toList) Hb := by
  have w := (walk_str (z := z)).mono (G' := fun H => Same Hb H) (Y' := fun i H v H' => ∀ Hb2, Same Hb Hb2 → Same Hb2 H → ∃ Hb3 d, Gr0 Hb2 H Hb3 H' ∧ (sgn z.cps.toList)[i]? = some d ∧ Dt Hb3 v d) (fun H s => trivial) fun i H x H' hi s y Hb2 s2 s3 => by
    obtain ⟨rfl, c, e, rfl⟩ := y
    refine ⟨Hb2, _, Gr.refl s3, ?_, .str _⟩
    unfold sgn
    rw [List.getElem?_map, Array.getElem?_toList, e]
    rfl
  unfold ItD sgn
  rw [List.length_map, Array.length_toList]
  exact w
theorem itD_range {Hb : Hp} {lo : Int} {n : Nat} : ItD (Itr lo n) ((List.range n).map fun i => PyData.int (lo + (i : Nat))) Hb := by
  have w := (walk_range (lo := lo) (n := n)).mono (G' := fun H => Same Hb H) (Y' := fun i H v H' => ∀ Hb2, Same Hb Hb2 → Same Hb2 H → ∃ Hb3 d, Gr0 Hb2 H Hb3 H' ∧ ((List.range n).map fun i => PyData.int (lo + (i : Nat)))[i]? = some d ∧ Dt Hb3 v d) (fun H s => trivial) fun i H x H' hi s y Hb2 s2 s3 => by
    obtain ⟨rfl, rfl⟩ := y
    refine ⟨Hb2, _, Gr.refl s3, ?_, .int _⟩
    rw [List.getElem?_map, List.getElem?_range hi]
    rfl
  unfold ItD
  rw [List.length_map, List.length_range]
  exact w
/-- pairs with their numbers -/
def enumD (ds : List PyData) : List PyData := ds.mapIdx fun i d => .tuple [.int (i : Nat), d]
theorem itD_pair {J : It} {Hb : Hp} {n : Nat} {fx fy : Nat → Option V} {dx dy : Nat → Option PyData} {es : List PyData} {G : Hp → Prop} (w : Walk J n G (YPair fx fy)) (hn : es.length = n) (hG : ∀ H, Same Hb H → G H)
    (hx : ∀ i x, i < n → fx i = some x → ∃ d, dx i = some d ∧ Dt Hb x d) (hy : ∀ i x, i < n → fy i = some x → ∃ d, dy i = some d ∧ Dt Hb x d) (he : ∀ i a b, i < n → dx i = some a → dy i = some b → es[i]? = some (.tuple [a, b])) : ItD J es Hb := by
  have w := w.mono (G' := fun H => Same Hb H) (Y' := fun i H v H' => ∀ Hb2, Same Hb Hb2 → Same Hb2 H → ∃ Hb3 d, Gr0 Hb2 H Hb3 H' ∧ es[i]? = some d ∧ Dt Hb3 v d) hG fun i H x H' hi s y Hb2 s2 s3 => by
    obtain ⟨T, x1, x2, rfl, nT, rfl, e1, e2⟩ := y
    obtain ⟨d1, f1, r1⟩ := hx i x1 hi e1
    obtain ⟨d2, f2, r2⟩ := hy i x2 hi e2
    have g : Gr0 Hb2 H (upd Hb2 T (.tup [x1, x2])) (upd H T (.tup [x1, x2])) := Gr.new s3 nT
    exact ⟨_, _, g, he i _ _ hi f1 f2, .tup upd_same (.cons (dt_mono (s2.trans g.b) r1) (.cons (dt_mono (s2.trans g.b) r2) .nil))⟩
  unfold ItD
  rw [hn]
  exact w
theorem itD_enum {K : Frag} {Hb : Hp} {l : Addr} {vs : List V} {ds : List PyData} (h : Hb l = some (.lst vs)) (r : DtAll Hb vs ds) : ItD (Ite K l) (enumD ds) Hb := by
  refine itD_pair (walk_enum (K := K) (a := l) (xs := vs)) (dx := fun i => some (.int (i : Nat))) (dy := fun i => ds[i]?) ?_ (fun H s => SqL.of (s _ _ h)) (fun i x hi e => ⟨_, rfl, by cases e; exact .int _⟩) (fun i x hi e => dta_at r e) fun i a b hi e1 e2 => ?_
  · unfold enumD; rw [List.length_mapIdx]; exact (dta_len r).symm
  · cases e1
    unfold enumD
    rw [List.getElem?_mapIdx, e2]
    try rfl
theorem itD_zip {K : Frag} {Hb : Hp} {l m : Addr} {vs ws : List V} {ds es : List PyData} (h : Hb l = some (.lst vs)) (r : DtAll Hb vs ds) (h' : Hb m = some (.lst ws)) (r' : DtAll Hb ws es) : ItD (Itz K l m) (List.zipWith (fun a b => PyData.tuple [a, b]) ds es) Hb := by
  refine itD_pair (walk_zip (K := K) (a := l) (b := m) (xs := vs) (ys := ws) rfl) (dx := fun i => ds[i]?) (dy := fun i => es[i]?) ?_ (fun H s => ⟨SqL.of (s _ _ h), SqL.of (s _ _ h')⟩) (fun i x hi e => dta_at r e) (fun i x hi e => dta_at r' e) fun i a b hi e1 e2 => ?_
  · rw [List.length_zipWith, dta_len r, dta_len r']
  · rw [List.getElem?_zipWith, e1, e2]
    all_goals rfl
theorem iw_list (h : EW X F iter ε fun d => ∃ ds, d = .list ds ∧ Q ds) : IW X F tg iter ε Q := fun hd Hb H σ S R' k =>
  pi_run (pi_list pe_sem) (h hd Hb H σ S _ fun v d Hb' H' S' g r ⟨ds, ed, q⟩ => by
    subst ed
    obtain ⟨l, vs, rfl, hl, rl⟩ := dt_lst r
    exact ⟨l, rfl, ⟨vs, SqL.of (S'.si _ _ hl)⟩, k _ _ _ _ S' g (itD_list hl rl) q⟩)
theorem iw_tup (h : EW X F iter ε fun d => ∃ ds, d = .tuple ds ∧ Q ds) : IW X F tg iter ε Q := fun hd Hb H σ S R' k =>
  pi_run (pi_tup pe_sem) (h hd Hb H σ S _ fun v d Hb' H' S' g r ⟨ds, ed, q⟩ => by
    subst ed
    obtain ⟨l, vs, rfl, hl, rl⟩ := dt_tup r
    exact ⟨l, rfl, ⟨vs, SqT.of (S'.si _ _ hl)⟩, k _ _ _ _ S' g (itD_tup hl rl) q⟩)
theorem iw_str (h : EW X F iter ε fun d => ∃ z : Str, d = .str z ∧ Q (sgn z.cps.toList)) : IW X F tg iter ε Q := fun hd Hb H σ S R' k =>
  pi_run (pi_str pe_sem) (h hd Hb H σ S _ fun v d Hb' H' S' g r ⟨z, ed, q⟩ => by
    subst ed
    cases dt_str r
    exact ⟨z, rfl, k _ _ _ _ S' g itD_str q⟩)
theorem iw_range1 (hm : X.mg "range" = none) (h : EW X F e ε fun d => ∃ j : Int, d = .int j ∧ -(2 ^ 62) ≤ j ∧ j < 2 ^ 62 ∧ Q ((List.range j.toNat).map fun i => .int (i : Nat))) (hg : Gl X "range" := by rfl) (hs : starEach [e] X.env = [(false, eval e X.env)] := by rfl) : IW X F tg (.Call (.Name "range" p) [e] [] pos) ε Q := fun hd Hb H σ S R' k =>
  pi_run (pi_range1 hg hm (pa_cons pe_sem pa_nil (by rw [hs]; rfl)) hs) (h hd Hb H σ S _ fun v d Hb' H' S' g r ⟨j, ed, h1, h2, q⟩ => by
    subst ed
    cases dt_int r
    refine ⟨j, rfl, h1, h2, k _ _ _ _ S' g (itD_range (lo := 0)) ?_⟩
    simpa using q)
theorem iw_enum {elts : List Expr} {kk : Nat} {tpos : Pos} (hm : X.mg "enumerate" = none) (h : EW X F e ε fun d => ∃ ds, d = .list ds ∧ Q (enumD ds)) (hg : Gl X "enumerate" := by rfl) (hs : starEach [e] X.env = [(false, eval e X.env)] := by rfl) : IW X F (.Tuple elts kk tpos) (.Call (.Name "enumerate" p) [e] [] pos) ε Q := fun hd Hb H σ S R' k =>
  pi_run (pi_enum hg hm (pa_cons pe_sem pa_nil (by rw [hs]; rfl)) hs) (h hd Hb H σ S _ fun v d Hb' H' S' g r ⟨ds, ed, q⟩ => by
    subst ed
    obtain ⟨l, vs, rfl, hl, rl⟩ := dt_lst r
    exact ⟨l, vs, rfl, SqL.of (S'.si _ _ hl), k _ _ _ _ S' g (itD_enum hl rl) q⟩)
theorem iw_zip {elts : List Expr} {kk : Nat} {tpos : Pos} (hm : X.mg "zip" = none) (h : EW X F a ε fun d1 => EW X F b ε fun d2 => ∃ ds es, d1 = .list ds ∧ d2 = .list es ∧ Q (List.zipWith (fun a b => PyData.tuple [a, b]) ds es)) (hg : Gl X "zip" := by rfl)
    (hs : starEach [a, b] X.env = (false, eval a X.env) :: starEach [b] X.env := by rfl) (hpl : (backTo pos (starEach [b] X.env)).any (·.1) = false := by rfl) (hs2 : starEach [b] X.env = (false, eval b X.env) :: starEach [] X.env := by rfl) : IW X F (.Tuple elts kk tpos) (.Call (.Name "zip" p) [a, b] [] pos) ε Q := fun hd Hb H σ S R' k =>
  pi_run (pi_zip hg hm (pa_cons pe_sem (pa_cons pe_sem pa_nil hs2) hs) hs hpl) (h hd Hb H σ S _ fun v d Hb' H' S' g r k1 => k1 _ _ _ _ S' _ fun v2 d2 Hb2 H2 S2 g2 r2 ⟨ds, es, ed, ee, q⟩ => by
    subst ed ee
    obtain ⟨l, vs, rfl, hl, rl⟩ := dt_lst (dt_mono g2.b r)
    obtain ⟨m, ws, rfl, hm, rm⟩ := dt_lst r2
    exact ⟨l, m, vs, ws, rfl, SqL.of (S2.si _ _ hl), SqL.of (S2.si _ _ hm), k _ _ _ _ S2 (g.transM g2) (itD_zip hl rl hm rm) q⟩)
/-! ### for, while -/
/-- I: what holds at the turn i -/
theorem sw_for (h : IW X F tg iter ε fun ds => ∃ I : Nat → Env → Prop, I 0 ε ∧ (∀ i d ε', ds[i]? = some d → I i ε' → TW X F tg d ε' fun ε2 => SWs X F body ε2 { R with nx := I (i + 1), ct := I (i + 1), bk := R.nx }) ∧ ∀ ε', I ds.length ε' → R.nx ε')
    (hc : X.calm = true := by rfl) (hp : PassesOwn (model X.prog X.w) X.A X.env X.xe := by exact PassesOwn.never) (hs : ∀ x, foldedSetIterable iter X.env x = pure x := by intro _; rfl) : SW X F (.For tg iter body [] pos) ε R := fun hd Hb H σ S D k => by
  refine ps_run (ps_for hp hc pi_sem pg_sem pss_sem hs) (h hd Hb H σ S _ fun J ds Hb1 H1 S1 g1 it ⟨I, i0, turn, done⟩ => ?_)
  have k1 := k.mono g1.b
  refine ⟨fun i m σ' H' => i + m = ds.length ∧ ∃ Hb' ε', Same Hb1 Hb' ∧ SI F hd Hb' H' σ' ε' ∧ I i ε', ⟨ds.length, Nat.zero_add _, Hb1, ε, Same.refl _, S1, i0⟩, fun i m σ' H' ⟨em, Hb2, ε2, sm, S2, hI⟩ => ?_⟩
  by_cases hi : i < ds.length
  · refine .inr ⟨it.goes i H' hi (sm.trans S2.si), fun σ3 H3 => ∃ Hb3 ε3, Same Hb1 Hb3 ∧ SI F hd Hb3 H3 σ3 ε3 ∧ I (i + 1) ε3, fun σ3 H3 ⟨Hb3, ε3, z⟩ => ⟨m - 1, by omega, by omega, Hb3, ε3, z⟩, fun x H3 hy => ?_⟩
    obtain ⟨Hb3, d, g3, ed, rd⟩ := it.yields i H' x H3 hi (sm.trans S2.si) hy Hb2 sm S2.si
    refine turn i d ε2 ed hI hd Hb3 H3 σ' x (S2.grow g3) rd _ fun Hb4 H4 σ4 ε4 S4 g4 z => z hd Hb4 H4 σ4 S4 _ ?_
    have s4 : Same Hb1 Hb4 := (sm.trans g3.b).trans g4.b
    exact ⟨fun Hb' H' σ' ε' b S' z => ⟨Hb', ε', s4.trans b, S', z⟩, fun Hb' H' σ' ε' b S' z => k1.nx _ _ _ _ (s4.trans b) S' z, fun Hb' H' σ' ε' b S' z => ⟨Hb', ε', s4.trans b, S', z⟩, fun v d Hb' H' σ' ε' b S' r z => k1.rt _ _ _ _ _ _ (s4.trans b) S' r z⟩
  · have ei : i = ds.length := by omega
    subst ei
    exact .inl ⟨it.stops H' (sm.trans S2.si), k1.nx _ _ _ _ sm S2 (done _ hI)⟩
theorem sw_while {I : Nat → Env → Prop} {m : Nat} (h0 : I m ε) (h : ∀ m ε', I m ε' → BW X F c ε' fun b => (b = true → SWs X F body ε' { R with nx := fun ε2 => ∃ m', m' < m ∧ I m' ε2, ct := fun ε2 => ∃ m', m' < m ∧ I m' ε2, bk := R.nx }) ∧ (b = false → R.nx ε'))
    (hp : PassesOwn (model X.prog X.w) X.A X.env X.xe := by exact PassesOwn.never) : SW X F (.While c body [] pos) ε R := fun hd Hb H σ S D k => by
  refine ps_run (ps_while hp pt_sem pss_sem) ⟨fun m σ' H' => ∃ Hb' ε', Same Hb Hb' ∧ SI F hd Hb' H' σ' ε' ∧ I m ε', ⟨m, Hb, ε, Same.refl _, S, h0⟩, fun m σ' H' ⟨Hb1, ε1, sm, S1, hI⟩ => ?_⟩
  refine h m ε1 hI hd Hb1 H' σ' S1 _ fun b Hb2 H2 S2 g2 z => ?_
  cases b with
  | true =>
    refine iteT ⟨fun σ3 H3 => ∃ m' Hb3 ε3, m' < m ∧ Same Hb Hb3 ∧ SI F hd Hb3 H3 σ3 ε3 ∧ I m' ε3, fun σ3 H3 ⟨m', Hb3, ε3, l, z⟩ => ⟨m', l, Hb3, ε3, z⟩, (z.1 rfl) hd Hb2 H2 σ' S2 _ ?_⟩
    have s2 : Same Hb Hb2 := sm.trans g2.b
    exact ⟨fun Hb' H' σ' ε' b S' ⟨m', l, z⟩ => ⟨m', Hb', ε', l, s2.trans b, S', z⟩, fun Hb' H' σ' ε' b S' z => k.nx _ _ _ _ (s2.trans b) S' z, fun Hb' H' σ' ε' b S' ⟨m', l, z⟩ => ⟨m', Hb', ε', l, s2.trans b, S', z⟩, fun v d Hb' H' σ' ε' b S' r z => k.rt _ _ _ _ _ _ (s2.trans b) S' r z⟩
  | false => exact iteF (k.nx _ _ _ _ (sm.trans g2.b) S2 (z.2 rfl))
/-! ### comprehensions -/
def still : Sl → Bool
  | .un => true | .val _ => true | .fv (.dat _) => true | _ => false
def stillAt (ε : Env) : List Nat → Bool
  | [] => true
  | i :: vs => (match ε[i]? with | some s => still s | none => true) && stillAt ε vs
theorem stillAt_ok {ε : Env} : ∀ {vs : List Nat}, stillAt ε vs = true → ∀ i ∈ vs, ∀ s, ε[i]? = some s → still s = true
  | v :: vs, h, i, hi, s, e => by
    rw [stillAt, Bool.and_eq_true] at h
    rcases List.mem_cons.mp hi with rfl | hi
    · have := h.1; rw [e] at this; exact this
    · exact stillAt_ok h.2 i hi s e
/-- the slots of the block's own names forgotten -/
def wipeE (ε : Env) : List Nat → Env
  | [] => ε
  | v :: vs => (wipeE ε vs).set v .un
theorem si_wipe {hd : Hid} {Hb H : Hp} {σ : L2.St} (S : SI F hd Hb H σ ε) : ∀ vs, SI F hd Hb H (wipe σ vs) (wipeE ε vs)
  | [] => S
  | v :: vs => (si_wipe S vs).setUn
theorem wipeE_in {v : Nat} : ∀ {vs : List Nat}, v ∉ vs → (wipeE ε vs)[v]? = ε[v]?
  | [], _ => rfl
  | w :: vs, h => by
    rw [List.mem_cons, not_or] at h
    show ((wipeE ε vs).set w .un)[v]? = _
    rw [List.getElem?_set_ne (Ne.symm h.1)]
    exact wipeE_in h.2
theorem wipe_in {σ : L2.St} {v : Nat} : ∀ {vs : List Nat}, v ∉ vs → (wipe σ vs)[v]? = σ[v]?
  | [], _ => rfl
  | w :: vs, h => by
    rw [List.mem_cons, not_or] at h
    show ((wipe σ vs).set w none)[v]? = _
    rw [List.getElem?_set_ne (Ne.symm h.1)]
    exact wipe_in h.2
/-- behind the block: the own slots as ahead of it -/
theorem si_unwipe {hd : Hid} {Hb H Hb' H' : Hp} {σ : L2.St} {vs : List Nat} (S : SI F hd Hb H σ ε) (S' : SI F hd Hb' H' (wipe σ vs) (wipeE ε vs)) (g : Gr F.Jd Hb H Hb' H') (hs : ∀ i ∈ vs, ∀ s, ε[i]? = some s → still s = true) : SI F hd Hb' H' σ ε where
  gr := S'.gr
  j := S'.j
  len := S.len
  ow := by
    obtain ⟨ow, h1, h2⟩ := S'.ow
    refine ⟨ow, h1, fun i s e => ?_⟩
    by_cases c : i ∈ vs
    · have q := hs i c s e
      obtain ⟨ow0, a1, a2⟩ := S.ow
      have z := a2 i s e
      cases s with
      | un => trivial
      | val v => exact z
      | fv x =>
        cases x with
        | dat d => obtain ⟨u, eu, r⟩ := z; exact ⟨u, eu, dt_mono g.b r⟩
        | _ => cases q
      | obj p C fl => cases q
    · have z := h2 i s (by rw [wipeE_in c]; exact e)
      rw [List.getD_eq_getElem?_getD, wipe_in c, ← List.getD_eq_getElem?_getD] at z
      exact z
/-- the block's context -/
abbrev blkX (X : Cx) (scope : Scope) (s : Shared) (H : Hp) (C : Addr) (cl : List (Str × Addr)) (fp : List Addr) : Cx := X.blk s H scope (compEnvC scope cl C X.env) fp
theorem wipeE_len : ∀ vs : List Nat, (wipeE ε vs).length = ε.length
  | [] => rfl
  | v :: vs => by show ((wipeE ε vs).set v .un).length = _; rw [List.length_set]; exact wipeE_len vs
theorem bws_nil {QB : Bool → Prop} (q : QB true) : BWs X F [] ε QB := fun hd Hb H σ S Q' k => pts_run pts_nil (k _ _ _ S (Gr.refl S.si) q)
theorem bws_one {QB : Bool → Prop} (h : BW X F c ε QB) : BWs X F [c] ε QB := fun hd Hb H σ S Q' k => pts_run (pts_one pt_sem) (h hd Hb H σ S _ k)
/-- a target of a comprehension: it stores only the block's own slots -/
def TWo (X : Cx) (F : Fm) (vs : List Nat) (tg : Expr) (d : PyData) (ε : Env) (Q : Env → Prop) : Prop := ∀ hd Hb H σ v, SI F hd Hb H σ ε → Dt Hb v d → ∀ Q' : L2.St → Hp → Prop, (∀ Hb' H' σ' ε', SI F hd Hb' H' σ' ε' → Gr F.Jd Hb H Hb' H' → σ'.length = σ.length → (∀ j, j ∉ vs → σ'[j]? = σ[j]?) → ε'.length = ε.length → (∀ j, j ∉ vs → ε'[j]? = ε[j]?) → Q ε' → Q' σ' H') → tSemG X tg v σ H Q'
def TWos (X : Cx) (F : Fm) (vs : List Nat) (tgs : List Expr) (ds : List PyData) (ε : Env) (Q : Env → Prop) : Prop := ∀ hd Hb H σ us, SI F hd Hb H σ ε → DtAll Hb us ds → ∀ Q' : L2.St → Hp → Prop, (∀ Hb' H' σ' ε', SI F hd Hb' H' σ' ε' → Gr F.Jd Hb H Hb' H' → σ'.length = σ.length → (∀ j, j ∉ vs → σ'[j]? = σ[j]?) → ε'.length = ε.length → (∀ j, j ∉ vs → ε'[j]? = ε[j]?) → Q ε' → Q' σ' H') → tSemGs X tgs us σ H Q'
variable {QE : Env → Prop} {vs : List Nat}
theorem two_name (i : Nat) {x : Str} {d : PyData} (q : QE (ε.set i (.dat d))) (hv : i ∈ vs := by decide) (hN : X.N.Nodup := by first | assumption | decide +kernel) (hi : X.N[i]? = some x := by rfl) (hx : Loc X.env.scope x := by first | exact .inl rfl | exact .inr rfl)
    (hf : X.fn x = true ∨ X.env.scope.names.lookup x = some .local := by first | exact .inl rfl | exact .inr rfl) : TWo X F vs (.Name x pos) d ε QE := fun hd Hb H σ v S r Q' k =>
  pg_run (pg_name hN hi hx hf) (k _ _ _ _ (S.setDat r) (Gr.refl S.si) (List.length_set ..) (fun j hj => List.getElem?_set_ne (fun e => hj (by rw [← e]; exact hv))) (List.length_set ..) (fun j hj => List.getElem?_set_ne (fun e => hj (by rw [← e]; exact hv))) q)
theorem twos_nil (q : QE ε) : TWos X F vs [] [] ε QE := fun hd Hb H σ us S r Q' k => by
  cases r
  exact pgs_run pgs_nil ⟨rfl, k _ _ _ _ S (Gr.refl S.si) rfl (fun _ _ => rfl) rfl (fun _ _ => rfl) q⟩
theorem twos_cons {d : PyData} {ds : List PyData} (h : TWo X F vs e d ε fun ε' => TWos X F vs es ds ε' QE) (hs : (assignEach (e :: es) X.env).map (·.2) = assign e X.env :: (assignEach es X.env).map (·.2) := by rfl) : TWos X F vs (e :: es) (d :: ds) ε QE := fun hd Hb H σ us S r Q' k => by
  cases r with
  | cons r rs =>
    exact pgs_run (pgs_cons pg_sem pgs_sem hs) ⟨_, _, rfl, h hd Hb H σ _ S r _ fun Hb' H' σ' ε' S' g l1 f1 m1 n1 z => z _ _ _ _ _ S' (dta_mono g.b rs) _ fun Hb2 H2 σ2 ε2 S2 g2 l2 f2 m2 n2 z2 => k _ _ _ _ S2 (g.transM g2) (l2.trans l1) (fun j hj => (f2 j hj).trans (f1 j hj)) (m2.trans m1) (fun j hj => (n2 j hj).trans (n1 j hj)) z2⟩
theorem two_tup {k : Nat} {ds : List PyData} {n : Nat} (h : TWos X F vs es ds ε QE) (hl : ds.length = n := by rfl) (hc : X.calm = true := by rfl) (hn : (assignEach es X.env).length = n := by rfl) (hst : (assignEach es X.env).findIdx? (·.1) = none := by rfl) : TWo X F vs (.Tuple es k pos) (.tuple ds) ε QE := fun hd Hb H σ v S r Q' kk => by
  obtain ⟨a, us, rfl, ha, r⟩ := dt_tup r
  exact pg_run (pg_tup hc pgs_sem hn hst) ⟨a, us, rfl, SqT.of (S.si _ _ ha), (dta_len r).trans hl, h hd Hb H σ us S r Q' kk⟩
theorem wipe_at {σ : L2.St} {j : Nat} : ∀ {vs : List Nat}, j ∈ vs → (wipe σ vs)[j]? = if j < σ.length then some none else none
  | w :: vs, h => by
    show ((wipe σ vs).set w none)[j]? = _
    by_cases c : j = w
    · subst c
      rw [List.getElem?_set, if_pos rfl, wipe_length]
    · rw [List.getElem?_set_ne (Ne.symm c)]
      exact wipe_at ((List.mem_cons.mp h).resolve_left c)
theorem wipeE_at {ε : Env} {j : Nat} : ∀ {vs : List Nat}, j ∈ vs → (wipeE ε vs)[j]? = if j < ε.length then some .un else none
  | w :: vs, h => by
    show ((wipeE ε vs).set w .un)[j]? = _
    by_cases c : j = w
    · subst c
      rw [List.getElem?_set, if_pos rfl, wipeE_len]
    · rw [List.getElem?_set_ne (Ne.symm c)]
      exact wipeE_at ((List.mem_cons.mp h).resolve_left c)
theorem wipe_eq {σ σ' : L2.St} {vs : List Nat} (l : σ'.length = σ.length) (f : ∀ j, j ∉ vs → σ'[j]? = σ[j]?) : wipe σ' vs = wipe σ vs := by
  refine List.ext_getElem? fun j => ?_
  by_cases c : j ∈ vs
  · rw [wipe_at c, wipe_at c, l]
  · rw [wipe_in c, wipe_in c, f j c]
theorem wipe_wipe {σ : L2.St} {vs : List Nat} : wipe (wipe σ vs) vs = wipe σ vs := wipe_eq (wipe_length σ vs) fun j hj => wipe_in hj
/-- what holds of a block, whatever it starts from -/
abbrev InBlk (X : Cx) (scope : Scope) (P : Cx → Prop) : Prop := ∀ (s : Shared) (H : Hp) (C : Addr) (cl : List (Str × Addr)) (fp : List Addr), P (blkX X scope s H C cl fp)
/-- what a comprehension asks: I by the turn and what is made so far -/
def LcW (X : Cx) (F : Fm) (scope : Scope) (vs : List Nat) (tg iter elt : Expr) (ifs : List Expr) (ε : Env) (Q : PyData → Prop) : Prop := IW X F tg iter ε fun ds => ∃ I : Nat → List PyData → Prop, I 0 [] ∧ (∀ i d acc, ds[i]? = some d → I i acc → acc.length < 16000000 ∧ InBlk X scope fun Y => TWo Y F vs tg d (wipeE ε vs) fun ε2 => InBlk X scope fun Y => BWs Y F ifs ε2 fun b =>
        (b = true → InBlk X scope fun Y => EW Y F elt ε2 fun d' => I (i + 1) (acc ++ [d'])) ∧ (b = false → I (i + 1) acc)) ∧ ∀ acc, I ds.length acc → Q (.list acc)
theorem lc_read {Q : PyData → Prop} {elt : Expr} {ifs : List Expr} {scope : Scope} {own : List (Str × Nat)} (h : LcW X F scope (own.map (·.2)) tg iter elt ifs ε Q) (hst : ∀ i ∈ own.map (·.2), ∀ s, ε[i]? = some s → still s = true)
    {hd : Hid} {Hb H : Hp} {σ : L2.St} (S : SI F hd Hb H σ ε) {Q' : VK} (k : ∀ v d Hb' H', SI F hd Hb' H' σ ε → Gr F.Jd Hb H Hb' H' → Dt Hb' v d → Q d → (∃ D, v = .ref D ∧ H D = none) → Q' v H') :
    tLc (tSemI X tg iter) (fun x σ H Q => InBlk X scope fun Y => tSemG Y tg x σ H Q) (fun σ H Q => InBlk X scope fun Y => tSemTs Y ifs σ H Q) (fun σ H Q => InBlk X scope fun Y => tSem Y elt σ H Q) (own.map (·.2)) σ H Q' := by
  refine h hd Hb H σ S _ fun J ds Hb1 H1 S1 g1 it ⟨I, i0, turn, done⟩ => fun D nD => ?_
  refine ⟨fun i m H' => i + m = ds.length ∧ ∃ Hb' acc, Same Hb1 Hb' ∧ SI F (hd ++ [(D, acc)]) Hb' H' (wipe σ (own.map (·.2))) (wipeE ε (own.map (·.2))) ∧ Gr F.Jd Hb1 H1 Hb' H' ∧ I i acc, ⟨ds.length, Nat.zero_add _, Hb1, [], Same.refl _, (si_wipe S1 _).hide nD, (Gr.tmp S1.si nD).up, i0⟩, fun i m H' ⟨em, Hb2, acc, sm, S2, g2, hI⟩ => ?_⟩
  by_cases hi : i < ds.length
  · refine .inr ⟨it.goes i H' hi (sm.trans S2.si), fun H3 => ∃ Hb3 acc, Same Hb1 Hb3 ∧ SI F (hd ++ [(D, acc)]) Hb3 H3 (wipe σ (own.map (·.2))) (wipeE ε (own.map (·.2))) ∧ Gr F.Jd Hb1 H1 Hb3 H3 ∧ I (i + 1) acc, fun H3 ⟨Hb3, acc, z⟩ => ⟨m - 1, by omega, by omega, Hb3, acc, z⟩, fun x H3 hy => ?_⟩
    obtain ⟨Hb3, d, g3, ed, rd⟩ := it.yields i H' x H3 hi (sm.trans S2.si) hy Hb2 sm S2.si
    intro sA HA CA clA fpA
    obtain ⟨hacc, turn⟩ := turn i d acc ed hI
    refine turn sA HA CA clA fpA _ Hb3 H3 _ x (S2.grow g3) rd _ fun Hb4 H4 σ4 ε4 S4 g4 l4 f4 m4 n4 z => ⟨(wipe_eq l4 f4).trans wipe_wipe, fun sB HB CB clB fpB => z sB HB CB clB fpB _ Hb4 H4 σ4 S4 _ fun b Hb5 H5 S5 g5 zb => ?_⟩
    have back : ∀ {Hb6 H6 : Hp} {acc' : List PyData}, SI F (hd ++ [(D, acc')]) Hb6 H6 σ4 ε4 → SI F (hd ++ [(D, acc')]) Hb6 H6 (wipe σ (own.map (·.2))) (wipeE ε (own.map (·.2))) := fun {Hb6 H6 acc'} S6 => by
      obtain ⟨ow, h1, h2⟩ := S6.ow
      refine ⟨S6.gr, S6.j, by rw [wipe_length, wipeE_len]; exact S.len, ow, h1, fun j s e => ?_⟩
      by_cases c : j ∈ own.map (·.2)
      · rw [wipeE_at c] at e
        split at e
        · cases e; trivial
        · cases e
      · have z := h2 j s (by rw [n4 j c]; exact e)
        rw [List.getD_eq_getElem?_getD, f4 j c, ← List.getD_eq_getElem?_getD] at z
        exact z
    have g5' : Gr F.Jd Hb1 H1 Hb5 H5 := ((g2.trans0 g3).transM g4).transM g5
    have sm5 : Same Hb1 Hb5 := ((sm.trans g3.b).trans g4.b).trans g5.b
    cases b with
    | false => exact iteF ⟨Hb5, acc, sm5, back S5, g5', zb.2 rfl⟩
    | true =>
      refine iteT fun sC HC CC clC fpC => (zb.1 rfl) sC HC CC clC fpC _ Hb5 H5 σ4 S5 _ fun v d' Hb6 H6 S6 g6 rd' z6 => ?_
      obtain ⟨accv, hD, ra, nb, n0, nj, up⟩ := S6.hidden
      refine ⟨accv, hD, by rw [dta_len ra]; exact Nat.lt_trans hacc (by decide), Hb6, acc ++ [d'], sm5.trans g6.b, back (up _ _ (dta_snoc ra rd')), ?_, z6⟩
      have g6' := g5'.transM g6
      refine ⟨g6'.b, same_updb g6'.i nb, g6'.n, fun a o hm e => ?_, fun a e => some_upd (g6'.t a e)⟩
      rw [upd_ne (ne_of_none e nD)]
      exact g6'.h a o hm e
  · have ei : i = ds.length := by omega
    subst ei
    obtain ⟨vs, ha, r, a1, S3⟩ := S2.reveal
    have g3 : Gr F.Jd Hb1 H1 (upd Hb2 D (.lst vs)) H' := ⟨g2.b.trans (same_new a1), S3.si, fun a e => by rw [upd_ne]; exact g2.n a e; intro z; subst z; exact e nD, g2.h, g2.t⟩
    exact .inl ⟨it.stops H' (sm.trans S2.si), k _ _ _ _ (si_unwipe S1 S3 g3 hst) (g1.transM g3) (.lst upd_same (dta_mono (same_new a1) r)) (done acc hI) ⟨D, rfl, Classical.byContradiction fun z => g1.t D z nD⟩⟩
theorem ew_lc {Q : PyData → Prop} {elt : Expr} {ifs : List Expr} {scope : Scope} (own : List (Str × Nat)) (h : LcW X F scope (own.map (·.2)) tg iter elt ifs ε Q)
    (hst : stillAt ε (own.map (·.2)) = true := by rfl) (ok : BlkOk X.N X.env.scope scope own := by exact blkOk_by (by kernel_rfl)) (hc : X.calm = true := by rfl) (hN : X.N.Nodup := by first | assumption | decide +kernel) (hs : ∀ x, foldedSetIterable iter X.env x = pure x := by intro _; rfl) :
    EW X F (.ListComp elt [⟨tg, iter, ifs, 0⟩] scope pos) ε Q := fun hd Hb H σ S Q' k =>
  pe_run (pe_lc (own := own) (g := fun x σ H Q => InBlk X scope fun Y => tSemG Y tg x σ H Q) (tt := fun σ H Q => InBlk X scope fun Y => tSemTs Y ifs σ H Q) (te := fun σ H Q => InBlk X scope fun Y => tSem Y elt σ H Q) hc hN pi_sem ok
    (fun s H C cl fp => ⟨fun pins s' σ H v u Q I r h => (h _ _ _ _ _).run pins s' u I r⟩) (fun s H C cl fp => ⟨fun pins s' σ H Q I h => (h _ _ _ _ _).run pins s' I⟩) (fun s H C cl fp => ⟨fun pins s' σ H Q I h => (h _ _ _ _ _).run pins s' I⟩) hs) (lc_read h (stillAt_ok hst) S fun v d Hb' H' S' g r q _ => k v d Hb' H' S' g r q)
/-- name = [..] on one line, the name a local -/
theorem sw_setLc (j : Nat) {y : Str} {py spos : Pos} {elt : Expr} {ifs : List Expr} {scope : Scope} (own : List (Str × Nat)) (h : LcW X F scope (own.map (·.2)) tg iter elt ifs ε fun d => R.nx (ε.set j (.dat d)))
    (hst : stillAt ε (own.map (·.2)) = true := by rfl) (ok : BlkOk X.N X.env.scope scope own := by exact blkOk_by (by kernel_rfl)) (hc : X.calm = true := by rfl) (hN : X.N.Nodup := by first | assumption | decide +kernel) (hy : X.N[j]? = some y := by rfl) (hyl : X.env.scope.names.lookup y = some .local := by rfl)
    (hsw : swapsWith (.ListComp elt [⟨tg, iter, ifs, 0⟩] scope pos) (some (.Name y py)) spos.line X.env = pure true := by exact sw_true rfl rfl rfl (by kernel_rfl)) (hs : ∀ x, foldedSetIterable iter X.env x = pure x := by intro _; rfl) :
    SW X F (.Assign [.Name y py] (.ListComp elt [⟨tg, iter, ifs, 0⟩] scope pos) spos) ε R := fun hd Hb H σ S D k =>
  ps_run (ps_setLc (own := own) (g := fun x σ H Q => InBlk X scope fun Y => tSemG Y tg x σ H Q) (tt := fun σ H Q => InBlk X scope fun Y => tSemTs Y ifs σ H Q) (te := fun σ H Q => InBlk X scope fun Y => tSem Y elt σ H Q) hc hN hy hyl hsw pi_sem ok
    (fun s H C cl fp => ⟨fun pins s' σ H v u Q I r h => (h _ _ _ _ _).run pins s' u I r⟩) (fun s H C cl fp => ⟨fun pins s' σ H Q I h => (h _ _ _ _ _).run pins s' I⟩) (fun s H C cl fp => ⟨fun pins s' σ H Q I h => (h _ _ _ _ _).run pins s' I⟩) hs)
    (lc_read h (stillAt_ok hst) S (fun v d Hb' H' S' g r q _ => k.nx _ _ _ _ g.b (S'.setDat r) q))
end
end K78
/-! K78: operations on data. -/
namespace K78
open PySem PySem.Spec L2
/-- a text by its signs -/
abbrev tx (l : List Nat) : Str := ⟨l.toArray⟩
/-- .. as data -/
abbrev S (l : List Nat) : PyData := .str (tx l)
theorem tx_len (l : List Nat) : (tx l).length = l.length := rfl
theorem tx_app (l m : List Nat) : tx l ++ tx m = tx (l ++ m) := TL.ext_tl (by rw [TL.tl_append])
theorem tx_list (l : List Nat) : (tx l).cps.toList = l := rfl
theorem tx_inj {l m : List Nat} (h : tx l = tx m) : l = m := congrArg (fun z : Str => z.cps.toList) h
theorem tx_of (x : Str) : x = tx x.cps.toList := TL.ext_tl rfl
theorem tx_eq (l m : List Nat) : decide (tx l = tx m) = decide (l = m) := decide_eq_decide.mpr ⟨tx_inj, fun h => by rw [h]⟩
section
variable {X : Cx} {F : Fm} {ε : Env} {Q : PyData → Prop} {pos : Pos}
/-- a written text -/
theorem ew_tx (l : List Nat) {x : Str} {j : Nat} (q : Q (S l)) (h : x = tx l := by decide +kernel) : EW X F (.Constant (.str x) j pos) ε Q := by subst h; exact ew_str q
variable {i j : Int} {x y : Str} {l m : List Nat} {d1 d2 : PyData} {ds es : List PyData}
/-- a rule whose answer is flat -/
theorem opw_of {f : Value → Value → Sem Value} {r : R2} (ho : OpR X f r) (h : ∀ Hb H v1 v2, Same Hb H → Dt Hb v1 d1 → Dt Hb v2 d2 → ∀ Q' : VK, VWant Q Hb H Q' → r v1 v2 H Q') : OpW X f d1 d2 Q := fun Hb H v1 v2 s r1 r2 Q' k => ⟨r, ho, h Hb H v1 v2 s r1 r2 Q' k⟩
theorem want {Hb H : Hp} {Q' : VK} (k : VWant Q Hb H Q') (s : Same Hb H) {d : PyData} (f : flat d = true) (q : Q d) : Q' (vOf d) H := k _ d Hb H (Gr.refl s) (dt_of_flat f) q
theorem op_add_i (q : Q (.int (i + j))) : OpW X (binaryOp .Add) (.int i) (.int j) Q := opw_of op_add fun Hb H v1 v2 s r1 r2 Q' k => by cases r1; cases r2; exact ⟨i, j, rfl, rfl, want k s rfl q⟩
theorem op_sub_i (q : Q (.int (i - j))) : OpW X (binaryOp .Sub) (.int i) (.int j) Q := opw_of op_sub fun Hb H v1 v2 s r1 r2 Q' k => by cases r1; cases r2; exact ⟨i, j, rfl, rfl, want k s rfl q⟩
theorem op_mul_i (c : CMul i j) (q : Q (.int (i * j))) : OpW X (binaryOp .Mult) (.int i) (.int j) Q := opw_of op_mul fun Hb H v1 v2 s r1 r2 Q' k => by cases r1; cases r2; exact ⟨i, j, rfl, rfl, c, want k s rfl q⟩
theorem op_mod_i (c : 0 < j) (q : Q (.int (i % j))) : OpW X (binaryOp .Mod) (.int i) (.int j) Q := opw_of op_mod fun Hb H v1 v2 s r1 r2 Q' k => by cases r1; cases r2; exact ⟨i, j, rfl, rfl, c, want k s rfl q⟩
theorem op_div_i (c : 0 < j ∧ j < 1073741824) (q : Q (.int (i / j))) : OpW X (binaryOp .FloorDiv) (.int i) (.int j) Q := opw_of op_fdiv fun Hb H v1 v2 s r1 r2 Q' k => by cases r1; cases r2; exact ⟨i, j, rfl, rfl, c, want k s rfl q⟩
theorem op_pow_i (c : CPow i j) (q : Q (.int (i ^ j.toNat))) : OpW X (binaryOp .Pow) (.int i) (.int j) Q := opw_of op_pow fun Hb H v1 v2 s r1 r2 Q' k => by cases r1; cases r2; exact ⟨i, j, rfl, rfl, c, want k s rfl q⟩
theorem op_add_s (c : l.length + m.length ≤ 16000000) (q : Q (S (l ++ m))) : OpW X (binaryOp .Add) (S l) (S m) Q := opw_of op_add_str fun Hb H v1 v2 s r1 r2 Q' k => by
  cases r1; cases r2
  refine ⟨_, _, rfl, rfl, ?_, ?_⟩
  · rw [tx_len, tx_len]; exact Nat.le_trans c (by decide)
  · rw [tx_app]; exact want k s rfl q
theorem iop_add_i (q : Q (.int (i + j))) : OpW X (inplaceOp .Add) (.int i) (.int j) Q := opw_of iop_add fun Hb H v1 v2 s r1 r2 Q' k => by cases r1; cases r2; exact ⟨i, j, rfl, rfl, want k s rfl q⟩
theorem iop_add_s (c : l.length + m.length ≤ 16000000) (q : Q (S (l ++ m))) : OpW X (inplaceOp .Add) (S l) (S m) Q := opw_of iop_add_str fun Hb H v1 v2 s r1 r2 Q' k => by
  cases r1; cases r2
  refine ⟨_, _, rfl, rfl, ?_, ?_⟩
  · rw [tx_len, tx_len]; exact Nat.le_trans c (by decide)
  · rw [tx_app]; exact want k s rfl q
theorem op_cat_d (c : ds.length + es.length ≤ 16000000) (q : Q (.list (ds ++ es))) : OpW X (binaryOp .Add) (.list ds) (.list es) Q := opw_of op_cat fun Hb H v1 v2 s r1 r2 Q' k => by
  obtain ⟨a, vs, rfl, ha, ra⟩ := dt_lst r1
  obtain ⟨b, ws, rfl, hb, rb⟩ := dt_lst r2
  refine ⟨a, b, vs, ws, rfl, rfl, s _ _ ha, s _ _ hb, ?_, fun p hp => k _ _ _ _ (Gr.new s hp) (.lst upd_same (dta_mono (Gr.new s hp).b (dta_app ra rb))) q⟩
  rw [dta_len ra, dta_len rb]; exact Nat.le_trans c (by decide)
theorem op_rep_d {n : Nat} (c : ds.length * n ≤ 16000000) (hn : n ≤ 100) (q : Q (.list (List.replicate n ds).flatten)) : OpW X (binaryOp .Mult) (.list ds) (.int (n : Nat)) Q := opw_of op_rep fun Hb H v1 v2 s r1 r2 Q' k => by
  obtain ⟨a, vs, rfl, ha, ra⟩ := dt_lst r1
  cases r2
  refine ⟨a, (n : Nat), vs, rfl, rfl, s _ _ ha, by omega, by omega, ?_, fun p hp => k _ _ _ _ (Gr.new s hp) (.lst upd_same (dta_mono (Gr.new s hp).b ?_)) q⟩
  · rw [dta_len ra, Int.toNat_natCast]; exact Nat.le_trans c (by decide)
  · rw [Int.toNat_natCast]
    clear q c hn
    induction n with
    | zero => exact .nil
    | succ n ih => rw [List.replicate_succ, List.replicate_succ, List.flatten_cons, List.flatten_cons]; exact dta_app ra ih
/-! ### comparisons -/
theorem op_eq_f (f1 : flat d1 = true) (f2 : flat d2 = true) (sc : scal (vOf d1) (vOf d2) = true) (q : Q (.bool (decide (vOf d1 = vOf d2)))) : OpW X (compareOp .Eq) d1 d2 Q := opw_of op_eq fun Hb H v1 v2 s r1 r2 Q' k => by
  cases dt_flat f1 r1; cases dt_flat f2 r2; exact ⟨sc, want k s rfl q⟩
theorem op_ne_f (f1 : flat d1 = true) (f2 : flat d2 = true) (sc : scal (vOf d1) (vOf d2) = true) (q : Q (.bool (!decide (vOf d1 = vOf d2)))) : OpW X (compareOp .NotEq) d1 d2 Q := opw_of op_ne fun Hb H v1 v2 s r1 r2 Q' k => by
  cases dt_flat f1 r1; cases dt_flat f2 r2; exact ⟨sc, want k s rfl q⟩
theorem vi_eq : decide (V.int i = V.int j) = decide (i = j) := by rw [dec_int]; rfl
theorem vs_eq : decide (V.str (tx l) = V.str (tx m)) = decide (l = m) := decide_eq_decide.mpr ⟨fun h => tx_inj (V.str.inj h), fun h => by rw [h]⟩
theorem vb_eq {a b : Bool} : decide (V.bl a = V.bl b) = (a == b) := dec_bl
theorem op_eq_i (q : Q (.bool (decide (i = j)))) : OpW X (compareOp .Eq) (.int i) (.int j) Q := op_eq_f rfl rfl rfl (by show Q (.bool (decide (V.int i = V.int j))); rw [vi_eq]; exact q)
theorem op_ne_i (q : Q (.bool (!decide (i = j)))) : OpW X (compareOp .NotEq) (.int i) (.int j) Q := op_ne_f rfl rfl rfl (by show Q (.bool (!decide (V.int i = V.int j))); rw [vi_eq]; exact q)
theorem op_eq_s (q : Q (.bool (decide (l = m)))) : OpW X (compareOp .Eq) (S l) (S m) Q := op_eq_f rfl rfl rfl (by show Q (.bool (decide (V.str (tx l) = V.str (tx m)))); rw [vs_eq]; exact q)
theorem op_ne_s (q : Q (.bool (!decide (l = m)))) : OpW X (compareOp .NotEq) (S l) (S m) Q := op_ne_f rfl rfl rfl (by show Q (.bool (!decide (V.str (tx l) = V.str (tx m)))); rw [vs_eq]; exact q)
theorem op_ne_b {a b : Bool} (q : Q (.bool (!(a == b)))) : OpW X (compareOp .NotEq) (.bool a) (.bool b) Q := op_ne_f rfl rfl rfl (by show Q (.bool (!decide (V.bl a = V.bl b))); rw [vb_eq]; exact q)
theorem op_eq_b {a b : Bool} (q : Q (.bool (a == b))) : OpW X (compareOp .Eq) (.bool a) (.bool b) Q := op_eq_f rfl rfl rfl (by show Q (.bool (decide (V.bl a = V.bl b))); rw [vb_eq]; exact q)
theorem op_lt_i (q : Q (.bool (decide (i < j)))) : OpW X (compareOp .Lt) (.int i) (.int j) Q := opw_of op_lt fun Hb H v1 v2 s r1 r2 Q' k => by cases r1; cases r2; exact ⟨i, j, rfl, rfl, want k s rfl q⟩
theorem op_le_i (q : Q (.bool (decide (i ≤ j)))) : OpW X (compareOp .LtE) (.int i) (.int j) Q := opw_of op_le fun Hb H v1 v2 s r1 r2 Q' k => by cases r1; cases r2; exact ⟨i, j, rfl, rfl, want k s rfl q⟩
theorem op_gt_i (q : Q (.bool (decide (j < i)))) : OpW X (compareOp .Gt) (.int i) (.int j) Q := opw_of op_gt fun Hb H v1 v2 s r1 r2 Q' k => by cases r1; cases r2; exact ⟨i, j, rfl, rfl, want k s rfl q⟩
theorem op_ge_i (q : Q (.bool (decide (j ≤ i)))) : OpW X (compareOp .GtE) (.int i) (.int j) Q := opw_of op_ge fun Hb H v1 v2 s r1 r2 Q' k => by cases r1; cases r2; exact ⟨i, j, rfl, rfl, want k s rfl q⟩
theorem op_lt_s (q : Q (.bool (decide (l < m)))) : OpW X (compareOp .Lt) (S l) (S m) Q := opw_of op_lt_str fun Hb H v1 v2 s r1 r2 Q' k => by cases r1; cases r2; exact ⟨_, _, rfl, rfl, want (Q := Q) k s rfl q⟩
theorem op_lt_t {a b : List Int} (hu : X.A.units < cLine) (q : Q (.bool (HT.lexLt a b))) : OpW X (compareOp .Lt) (.tuple (a.map .int)) (.tuple (b.map .int)) Q := opw_of (op_ltT hu) fun Hb H v1 v2 s r1 r2 Q' k => by
  obtain ⟨p, vs, rfl, hp, rp⟩ := dt_tup r1
  obtain ⟨p2, ws, rfl, hp2, rp2⟩ := dt_tup r2
  cases dtAll_ints rp; cases dtAll_ints rp2
  exact ⟨p, p2, a, b, rfl, rfl, SqT.of (s _ _ hp), SqT.of (s _ _ hp2), want k s rfl q⟩
theorem op_is_n (f1 : flat d1 = true ∨ (∃ ds, d1 = .list ds) ∨ ∃ ds, d1 = .tuple ds) (q : Q (.bool (match d1 with | .none => true | _ => false))) : OpW X (compareOp .Is) d1 .none Q := opw_of op_isN fun Hb H v1 v2 s r1 r2 Q' k => by
  cases r2
  refine ⟨rfl, ?_⟩
  cases r1 <;> exact want k s rfl q
theorem op_nis_n (f1 : flat d1 = true ∨ (∃ ds, d1 = .list ds) ∨ ∃ ds, d1 = .tuple ds) (q : Q (.bool (match d1 with | .none => false | _ => true))) : OpW X (compareOp .IsNot) d1 .none Q := opw_of op_notN fun Hb H v1 v2 s r1 r2 Q' k => by
  cases r2
  refine ⟨rfl, ?_⟩
  cases r1 <;> exact want k s rfl q
/-! ### == of lists -/
theorem op_eq_d (hu : X.A.units + 64 < cLine) (h1 : SeqAt.shaped d1 = true) (h2 : SeqAt.shaped d2 = true) (q : Q (.bool (PyData.eqv d1 d2))) : OpW X (compareOp .Eq) d1 d2 Q := opw_of (op_eqD hu) fun Hb H v1 v2 s r1 r2 Q' k =>
  ⟨d1, d2, dt_dp (dt_mono s r1), dt_dp (dt_mono s r2), h1, h2, want k s rfl q⟩
theorem op_ne_d (hu : X.A.units + 64 < cLine) (h1 : SeqAt.shaped d1 = true) (h2 : SeqAt.shaped d2 = true) (q : Q (.bool (!PyData.eqv d1 d2))) : OpW X (compareOp .NotEq) d1 d2 Q := opw_of (op_neD hu) fun Hb H v1 v2 s r1 r2 Q' k =>
  ⟨d1, d2, dt_dp (dt_mono s r1), dt_dp (dt_mono s r2), h1, h2, want k s rfl q⟩
theorem eqv_s (l m : List Nat) : PyData.eqv (S l) (S m) = decide (l = m) := by
  show (tx l == tx m) = _
  by_cases c : l = m
  · subst c; simp
  · rw [decide_eq_false c]; exact beq_false_of_ne fun h => c (tx_inj h)
theorem eqv_i (i j : Int) : PyData.eqv (.int i) (.int j) = decide (i = j) := rfl
theorem eqvAll_map {α : Type} [DecidableEq α] {enc : α → PyData} (h : ∀ x y, PyData.eqv (enc x) (enc y) = decide (x = y)) : ∀ xs ys : List α, PyData.eqvAll (xs.map enc) (ys.map enc) = decide (xs = ys)
  | [], [] => rfl
  | [], _ :: _ => rfl
  | _ :: _, [] => rfl
  | x :: xs, y :: ys => by
    show (PyData.eqv (enc x) (enc y) && PyData.eqvAll (xs.map enc) (ys.map enc)) = _
    rw [h, eqvAll_map h xs ys]
    by_cases c : x = y
    · by_cases c2 : xs = ys
      · simp [c, c2]
      · simp [c, c2]
    · simp [c]
theorem eqv_list {α : Type} [DecidableEq α] {enc : α → PyData} (h : ∀ x y, PyData.eqv (enc x) (enc y) = decide (x = y)) (xs ys : List α) : PyData.eqv (.list (xs.map enc)) (.list (ys.map enc)) = decide (xs = ys) := eqvAll_map h xs ys
/-- shapes -/
theorem canLayAll_map {α : Type} {enc : α → PyData} : ∀ {xs : List α}, (∀ x ∈ xs, (enc x).canLay0 = true) → PyData.canLayAll0 (xs.map enc) = true
  | [], _ => rfl
  | x :: xs, h => by
    show (PyData.canLay0 (enc x) && PyData.canLayAll0 (xs.map enc)) = true
    rw [h x (List.mem_cons_self ..), canLayAll_map fun y hy => h y (List.mem_cons_of_mem _ hy)]; rfl
theorem depthAll_map {α : Type} {enc : α → PyData} {n : Nat} : ∀ {xs : List α}, (∀ x ∈ xs, (enc x).depth ≤ n) → PyData.depthAll (xs.map enc) ≤ n
  | [], _ => Nat.zero_le _
  | x :: xs, h => Nat.max_le.mpr ⟨h x (List.mem_cons_self ..), depthAll_map fun y hy => h y (List.mem_cons_of_mem _ hy)⟩
theorem shaped_list {α : Type} {enc : α → PyData} {xs : List α} (n : Nat) (hn : n < 64) (h : ∀ x ∈ xs, (enc x).canLay0 = true ∧ (enc x).depth ≤ n) : SeqAt.shaped (.list (xs.map enc)) = true := by
  unfold SeqAt.shaped
  have e1 : (PyData.list (xs.map enc)).canLay0 = true := canLayAll_map fun x hx => (h x hx).1
  have e2 : (PyData.list (xs.map enc)).depth ≤ n + 1 := Nat.succ_le_succ (depthAll_map fun x hx => (h x hx).2)
  rw [e1, decide_eq_true (show (PyData.list (xs.map enc)).depth ≤ 64 by omega)]
  rfl
/-- signs below 128 -/
def lo (l : List Nat) : Prop := ∀ c ∈ l, c < 128
theorem lay_s {l : List Nat} (h : lo l) : (S l).canLay0 = true := by
  show PyData.strOk (tx l) = true
  unfold PyData.strOk
  rw [← Array.all_toList]
  show l.all _ = true
  rw [List.all_eq_true]
  exact fun c hc => decide_eq_true (Nat.lt_trans (h c hc) (by decide))
theorem op_ne_ls (hu : X.A.units + 64 < cLine) {xs ys : List (List Nat)} (h1 : ∀ l ∈ xs, lo l) (h2 : ∀ l ∈ ys, lo l) (q : Q (.bool (!decide (xs = ys)))) : OpW X (compareOp .NotEq) (.list (xs.map S)) (.list (ys.map S)) Q :=
  op_ne_d hu (shaped_list 0 (by decide) fun x hx => ⟨lay_s (h1 x hx), Nat.le_refl _⟩) (shaped_list 0 (by decide) fun x hx => ⟨lay_s (h2 x hx), Nat.le_refl _⟩) (by rw [eqv_list eqv_s]; exact q)
theorem op_eq_ls (hu : X.A.units + 64 < cLine) {xs ys : List (List Nat)} (h1 : ∀ l ∈ xs, lo l) (h2 : ∀ l ∈ ys, lo l) (q : Q (.bool (decide (xs = ys)))) : OpW X (compareOp .Eq) (.list (xs.map S)) (.list (ys.map S)) Q :=
  op_eq_d hu (shaped_list 0 (by decide) fun x hx => ⟨lay_s (h1 x hx), Nat.le_refl _⟩) (shaped_list 0 (by decide) fun x hx => ⟨lay_s (h2 x hx), Nat.le_refl _⟩) (by rw [eqv_list eqv_s]; exact q)
/-! ### in -/
theorem inV_s (l : List Nat) : ∀ ws : List (List Nat), inV (.str (tx l)) (ws.map fun w => V.str (tx w)) = decide (l ∈ ws)
  | [] => rfl
  | w :: ws => by
    have ih := inV_s l ws
    unfold inV at ih ⊢
    rw [List.map_cons, List.any_cons, ih]
    show ((tx w == tx l) || _) = _
    by_cases c : l = w
    · subst c; simp
    · rw [beq_false_of_ne (fun h => c (tx_inj h).symm), Bool.false_or]
      simp [c]
theorem inV_i (l : Int) : ∀ ws : List Int, inV (.int l) (ws.map V.int) = decide (l ∈ ws)
  | [] => rfl
  | w :: ws => by
    have ih := inV_i l ws
    unfold inV at ih ⊢
    rw [List.map_cons, List.any_cons, ih]
    show ((w == l) || _) = _
    by_cases c : l = w
    · subst c; simp
    · rw [beq_false_of_ne (fun h => c h.symm), Bool.false_or]
      simp [c]
theorem dtAll_S : ∀ {H : Hp} {vs : List V} {ws : List (List Nat)}, DtAll H vs (ws.map S) → vs = ws.map fun w => V.str (tx w)
  | _, _, [], .nil => rfl
  | _, _, i :: is, .cons h r => by rw [dt_str h, dtAll_S r]; rfl
theorem dtAll_of_S {H : Hp} : ∀ (ws : List (List Nat)), DtAll H (ws.map fun w => V.str (tx w)) (ws.map S)
  | [] => .nil
  | i :: is => .cons (.str _) (dtAll_of_S is)
theorem flat_S : ∀ ws : List (List Nat), (ws.map fun w => V.str (tx w)).all flatV = true
  | [] => rfl
  | _ :: ws => by rw [List.map_cons, List.all_cons, flat_S ws]; rfl
theorem flat_I : ∀ ws : List Int, (ws.map V.int).all flatV = true
  | [] => rfl
  | _ :: ws => by rw [List.map_cons, List.all_cons, flat_I ws]; rfl
/-- a list or a tuple of these -/
def IsSeq (d : PyData) (ds : List PyData) : Prop := d = .list ds ∨ d = .tuple ds
theorem isSeq_at {K : Frag} {Hb H : Hp} {v : V} {d : PyData} {ds : List PyData} (s : Same Hb H) (h : IsSeq d ds) (r : Dt Hb v d) : ∃ p vs, v = .ref p ∧ (SqL K H p vs ∨ SqT K H p vs) ∧ DtAll Hb vs ds := by
  rcases h with rfl | rfl
  · obtain ⟨p, vs, rfl, hp, rp⟩ := dt_lst r; exact ⟨p, vs, rfl, .inl (SqL.of (s _ _ hp)), rp⟩
  · obtain ⟨p, vs, rfl, hp, rp⟩ := dt_tup r; exact ⟨p, vs, rfl, .inr (SqT.of (s _ _ hp)), rp⟩
theorem op_in_ls {ws : List (List Nat)} (hd : IsSeq d2 (ws.map S)) (q : Q (.bool (decide (l ∈ ws)))) : OpW X (compareOp .In) (S l) d2 Q := opw_of op_in_seq fun Hb H v1 v2 s r1 r2 Q' k => by
  obtain ⟨p, vs, rfl, hp, rp⟩ := isSeq_at (K := X.K) s hd r2
  cases dtAll_S rp
  cases r1
  refine ⟨p, _, rfl, hp, rfl, flat_S ws, ?_⟩
  rw [if_neg Bool.false_ne_true, inV_s]
  exact want k s rfl q
theorem op_nin_ls {ws : List (List Nat)} (hd : IsSeq d2 (ws.map S)) (q : Q (.bool (!decide (l ∈ ws)))) : OpW X (compareOp .NotIn) (S l) d2 Q := opw_of op_notIn_seq fun Hb H v1 v2 s r1 r2 Q' k => by
  obtain ⟨p, vs, rfl, hp, rp⟩ := isSeq_at (K := X.K) s hd r2
  cases dtAll_S rp
  cases r1
  refine ⟨p, _, rfl, hp, rfl, flat_S ws, ?_⟩
  rw [if_pos rfl, inV_s]
  exact want k s rfl q
theorem op_in_li {ws : List Int} (hd : IsSeq d2 (ws.map .int)) (q : Q (.bool (decide (i ∈ ws)))) : OpW X (compareOp .In) (.int i) d2 Q := opw_of op_in_seq fun Hb H v1 v2 s r1 r2 Q' k => by
  obtain ⟨p, vs, rfl, hp, rp⟩ := isSeq_at (K := X.K) s hd r2
  cases dtAll_ints rp
  cases r1
  refine ⟨p, _, rfl, hp, rfl, flat_I ws, ?_⟩
  rw [if_neg Bool.false_ne_true, inV_i]
  exact want k s rfl q
theorem op_in_c {c : Nat} {z : List Nat} (q : Q (.bool (decide (c ∈ z)))) : OpW X (compareOp .In) (S [c]) (S z) Q := opw_of op_in_sign fun Hb H v1 v2 s r1 r2 Q' k => by cases r1; cases r2; exact ⟨c, tx z, rfl, rfl, want (Q := Q) k s rfl q⟩
/-- items that are told by a code -/
theorem any_enc {α : Type} [DecidableEq α] {enc : α → PyData} (h : ∀ x y, PyData.eqv (enc x) (enc y) = decide (x = y)) (x : α) : ∀ xs : List α, ((xs.map enc).any fun z => PyData.eqv z (enc x)) = decide (x ∈ xs)
  | [] => rfl
  | y :: ys => by
    rw [List.map_cons, List.any_cons, any_enc h x ys, h]
    by_cases c : x = y
    · subst c; simp
    · rw [decide_eq_false (fun e => c e.symm), Bool.false_or]; simp [c]
theorem op_in_enc {α : Type} [DecidableEq α] {enc : α → PyData} {a : α} {as : List α} (hu : X.A.units + 65 < cLine) (h : ∀ x y, PyData.eqv (enc x) (enc y) = decide (x = y)) (n : Nat) (hn : n < 64) (hs : ∀ x, x = a ∨ x ∈ as → (enc x).canLay0 = true ∧ (enc x).depth ≤ n) (q : Q (.bool (decide (a ∈ as)))) :
    OpW X (compareOp .In) (enc a) (.list (as.map enc)) Q := opw_of (op_inD hu) fun Hb H v1 v2 s r1 r2 Q' k => by
  refine ⟨enc a, as.map enc, dt_dp (dt_mono s r1), dt_dp (dt_mono s r2), ?_, shaped_list n hn fun x hx => hs x (.inr hx), ?_⟩
  · obtain ⟨h1, h2⟩ := hs a (.inl rfl)
    unfold SeqAt.shaped
    rw [h1, decide_eq_true (show (enc a).depth ≤ 64 by omega)]; rfl
  · rw [any_enc h]; exact want k s rfl q
theorem op_nin_enc {α : Type} [DecidableEq α] {enc : α → PyData} {a : α} {as : List α} (hu : X.A.units + 65 < cLine) (h : ∀ x y, PyData.eqv (enc x) (enc y) = decide (x = y)) (n : Nat) (hn : n < 64) (hs : ∀ x, x = a ∨ x ∈ as → (enc x).canLay0 = true ∧ (enc x).depth ≤ n) (q : Q (.bool (!decide (a ∈ as)))) :
    OpW X (compareOp .NotIn) (enc a) (.list (as.map enc)) Q := opw_of (op_notInD hu) fun Hb H v1 v2 s r1 r2 Q' k => by
  refine ⟨enc a, as.map enc, dt_dp (dt_mono s r1), dt_dp (dt_mono s r2), ?_, shaped_list n hn fun x hx => hs x (.inr hx), ?_⟩
  · obtain ⟨h1, h2⟩ := hs a (.inl rfl)
    unfold SeqAt.shaped
    rw [h1, decide_eq_true (show (enc a).depth ≤ 64 by omega)]; rfl
  · rw [any_enc h]; exact want k s rfl q
/-! ### subscripts, slices -/
theorem atI_dt {Hb : Hp} {vs : List V} {n : Int} {d : PyData} (r : DtAll Hb vs ds) (h : atI ds n = some d) : ∃ v, atI vs n = some v ∧ Dt Hb v d := by
  unfold atI at h ⊢
  rw [dta_len r]
  cases e : ixN ds.length n with
  | none => rw [e] at h; cases h
  | some j => rw [e] at h; exact dta_atD r h
theorem ix_l {d : PyData} (h : atI ds i = some d) (q : Q d) : IxW X (.list ds) (.int i) Q := fun Hb H v1 v2 s r1 r2 Q' k => by
  obtain ⟨p, vs, rfl, hp, rp⟩ := dt_lst r1
  cases r2
  obtain ⟨v, hv, rv⟩ := atI_dt rp h
  exact ⟨_, ix_list, p, vs, i, v, rfl, rfl, SqL.of (s _ _ hp), hv, k _ _ _ _ (Gr.refl s) rv q⟩
theorem ix_t {d : PyData} (h : atI ds i = some d) (q : Q d) : IxW X (.tuple ds) (.int i) Q := fun Hb H v1 v2 s r1 r2 Q' k => by
  obtain ⟨p, vs, rfl, hp, rp⟩ := dt_tup r1
  cases r2
  obtain ⟨v, hv, rv⟩ := atI_dt rp h
  exact ⟨_, ix_tup, p, vs, i, v, rfl, rfl, SqT.of (s _ _ hp), hv, k _ _ _ _ (Gr.refl s) rv q⟩
theorem ix_s {c : Nat} (h : atI l i = some c) (z : l.length ≤ 16000000) (q : Q (S [c])) : IxW X (S l) (.int i) Q := fun Hb H v1 v2 s r1 r2 Q' k => by
  cases r1; cases r2
  exact ⟨_, ix_str, tx l, i, c, rfl, rfl, by rw [tx_len]; exact Nat.le_trans z (by decide), h, want (Q := Q) k s rfl q⟩
/-- xs[lo:hi] -/
def cutD {α : Type} (xs : List α) (lo hi : Option Int) : List α := (xs.drop (HT.sIx xs.length 0 lo)).take (HT.sIx xs.length xs.length hi - HT.sIx xs.length 0 lo)
theorem cut_dt {Hb : Hp} {vs : List V} {lo hi : Option Int} (r : DtAll Hb vs ds) : DtAll Hb (cutV vs lo hi) (cutD ds lo hi) := by
  unfold cutV cutD
  rw [dta_len r]
  exact dta_take (dta_drop r _) _
theorem cutD_map {α β : Type} (f : α → β) (xs : List α) (lo hi : Option Int) : cutD (xs.map f) lo hi = (cutD xs lo hi).map f := by
  unfold cutD
  rw [List.length_map, List.map_take, List.map_drop]
theorem cutS_tx (l : List Nat) (lo hi : Option Int) : cutS (tx l) lo hi = tx (cutD l lo hi) := by
  unfold cutS cutD
  rw [tx_len]
theorem sl_l {lo hi : Option Int} (q : Q (.list (cutD ds lo hi))) : SlW X (.list ds) lo hi Q := fun Hb H v1 s r1 Q' k => by
  obtain ⟨p, vs, rfl, hp, rp⟩ := dt_lst r1
  exact ⟨_, sl_list, p, vs, rfl, SqL.of (s _ _ hp), fun a ha => k _ _ _ _ (Gr.new s ha) (.lst upd_same (dta_mono (Gr.new s ha).b (cut_dt rp))) q⟩
theorem sl_t {lo hi : Option Int} (hw : ¬ (HT.sIx ds.length 0 lo = 0 ∧ HT.sIx ds.length ds.length hi = ds.length)) (q : Q (.tuple (cutD ds lo hi))) : SlW X (.tuple ds) lo hi Q := fun Hb H v1 s r1 Q' k => by
  obtain ⟨p, vs, rfl, hp, rp⟩ := dt_tup r1
  exact ⟨_, L2.sl_tup, p, vs, rfl, SqT.of (s _ _ hp), by rw [dta_len rp]; exact hw, fun a ha => k _ _ _ _ (Gr.new s ha) (.tup upd_same (dta_mono (Gr.new s ha).b (cut_dt rp))) q⟩
theorem sl_s {lo hi : Option Int} (z : l.length ≤ 16000000) (q : Q (S (cutD l lo hi))) : SlW X (S l) lo hi Q := fun Hb H v1 s r1 Q' k => by
  cases r1
  refine ⟨_, L2.sl_str, tx l, rfl, by rw [tx_len]; exact Nat.le_trans z (by decide), ?_⟩
  rw [cutS_tx]
  exact want (Q := Q) k s rfl q
/-! ### built-ins -/
theorem callw_of {f : Value} {r : List V → Hp → VK → Prop} (ho : CallR X f r) (h : ∀ Hb H vs, Same Hb H → DtAll Hb vs ds → ∀ Q' : VK, VWant Q Hb H Q' → r vs H Q') : CallW X f ds Q := fun Hb H vs s r1 Q' k => ⟨r, ho, h Hb H vs s r1 Q' k⟩
theorem dta1 {Hb : Hp} {vs : List V} {d : PyData} (r : DtAll Hb vs [d]) : ∃ v, vs = [v] ∧ Dt Hb v d := by cases r with | cons a b => cases b; exact ⟨_, rfl, a⟩
theorem dta2 {Hb : Hp} {vs : List V} {d e : PyData} (r : DtAll Hb vs [d, e]) : ∃ v w, vs = [v, w] ∧ Dt Hb v d ∧ Dt Hb w e := by cases r with | cons a b => obtain ⟨w, rfl, c⟩ := dta1 b; exact ⟨_, _, rfl, a, c⟩
theorem c_len_q {d : PyData} (h : IsSeq d ds) (q : Q (.int (ds.length : Nat))) : CallW X (.builtin "len") [d] Q := callw_of call_len_seq fun Hb H vs s r Q' k => by
  obtain ⟨v, rfl, r1⟩ := dta1 r
  obtain ⟨p, vs, rfl, hp, rp⟩ := isSeq_at (K := X.K) s h r1
  exact ⟨p, vs, rfl, hp, by rw [dta_len rp]; exact want k s rfl q⟩
theorem c_len_l (q : Q (.int (ds.length : Nat))) : CallW X (.builtin "len") [.list ds] Q := c_len_q (.inl rfl) q
theorem c_len_s (z : l.length ≤ 16000000) (q : Q (.int (l.length : Nat))) : CallW X (.builtin "len") [S l] Q := callw_of call_len_str fun Hb H vs s r Q' k => by
  obtain ⟨v, rfl, r1⟩ := dta1 r
  cases r1
  refine ⟨tx l, rfl, by rw [tx_len]; exact Nat.le_trans z (by decide), ?_⟩
  rw [tx_len]; exact want k s rfl q
theorem c_list {d : PyData} (h : IsSeq d ds) (q : Q (.list ds)) : CallW X (.type "list") [d] Q := callw_of call_list_of fun Hb H vs s r Q' k => by
  obtain ⟨v, rfl, r1⟩ := dta1 r
  obtain ⟨p, vs, rfl, hp, rp⟩ := isSeq_at (K := X.K) s h r1
  exact ⟨p, vs, rfl, hp, fun a ha => k _ _ _ _ (Gr.new s ha) (.lst upd_same (dta_mono (Gr.new s ha).b rp)) q⟩
theorem c_tuple (q : Q (.tuple ds)) : CallW X (.type "tuple") [.list ds] Q := callw_of call_tuple_of fun Hb H vs s r Q' k => by
  obtain ⟨v, rfl, r1⟩ := dta1 r
  obtain ⟨p, vs, rfl, hp, rp⟩ := dt_lst r1
  exact ⟨p, vs, rfl, .inl ⟨SqL.of (s _ _ hp), fun a ha => k _ _ _ _ (Gr.new s ha) (.tup upd_same (dta_mono (Gr.new s ha).b rp)) q⟩⟩
theorem c_int_i (q : Q (.int i)) : CallW X (.type "int") [.int i] Q := callw_of call_int1 fun Hb H vs s r Q' k => by
  obtain ⟨v, rfl, r1⟩ := dta1 r
  cases r1
  exact .inl ⟨i, rfl, want k s rfl q⟩
theorem c_int_b {b : Bool} (q : Q (.int (if b then 1 else 0))) : CallW X (.type "int") [.bool b] Q := callw_of call_int1 fun Hb H vs s r Q' k => by
  obtain ⟨v, rfl, r1⟩ := dta1 r
  cases r1
  exact .inr ⟨b, rfl, want (Q := Q) k s rfl q⟩
theorem c_all {bs : List Bool} (q : Q (.bool (bs.all id))) (hc : X.calm = true := by rfl) : CallW X (.builtin "all") [.list (bs.map .bool)] Q := callw_of (cr_all hc) fun Hb H vs s r Q' k => by
  obtain ⟨v, rfl, r1⟩ := dta1 r
  obtain ⟨p, vs, rfl, hp, rp⟩ := dt_lst r1
  cases dtAll_bls rp
  exact ⟨p, bs, rfl, SqL.of (s _ _ hp), want k s rfl q⟩
theorem c_any {bs : List Bool} (q : Q (.bool (bs.any id))) (hc : X.calm = true := by rfl) : CallW X (.builtin "any") [.list (bs.map .bool)] Q := callw_of (cr_any hc) fun Hb H vs s r Q' k => by
  obtain ⟨v, rfl, r1⟩ := dta1 r
  obtain ⟨p, vs, rfl, hp, rp⟩ := dt_lst r1
  cases dtAll_bls rp
  exact ⟨p, bs, rfl, SqL.of (s _ _ hp), want k s rfl q⟩
/-! ### methods of texts -/
theorem mtw_of {id : String} {r : V → List V → Hp → VK → Prop} (ho : MtR X id r) (h : ∀ Hb H v vs, Same Hb H → Dt Hb v d1 → DtAll Hb vs ds → ∀ Q' : VK, VWant Q Hb H Q' → r v vs H Q') : MtW X id d1 ds Q := fun Hb H v vs s r0 r1 Q' k => ⟨r, ho, h Hb H v vs s r0 r1 Q' k⟩
theorem m_lower (z : x.length ≤ 5000000) (q : Q (.str (Txt.lower x))) : MtW X "str.lower" (.str x) [] Q := mtw_of mt_lower fun Hb H v vs s r0 r1 Q' k => by cases r0; cases r1; exact ⟨x, rfl, rfl, Nat.le_trans z (by decide), want (Q := Q) k s rfl q⟩
theorem m_upper (z : x.length ≤ 5000000) (q : Q (.str (Txt.upper x))) : MtW X "str.upper" (.str x) [] Q := mtw_of mt_upper fun Hb H v vs s r0 r1 Q' k => by cases r0; cases r1; exact ⟨x, rfl, rfl, Nat.le_trans z (by decide), want (Q := Q) k s rfl q⟩
theorem tl_joinE : ∀ ls : List (List Nat), TL.joinL [] ls = ls.flatten
  | [] => rfl
  | [p] => by simp [TL.joinL]
  | p :: q :: r => by show p ++ ([] ++ TL.joinL [] (q :: r)) = _; rw [tl_joinE (q :: r)]; simp
theorem join_tx (ls : List (List Nat)) : Txt.join (tx []) (ls.map tx) = tx ls.flatten := by
  refine TL.ext_tl ?_
  rw [TL.join_eq, TL.tl_join, List.map_map]
  show TL.joinL [] (ls.map fun l => l) = ls.flatten
  rw [List.map_id', tl_joinE]
theorem m_join {ls : List (List Nat)} (z : (ls.map List.length).sum ≤ 16000000) (q : Q (S ls.flatten)) : MtW X "str.join" (S []) [.list (ls.map S)] Q := mtw_of mt_join fun Hb H v vs s r0 r1 Q' k => by
  obtain ⟨w, rfl, r⟩ := dta1 r1
  obtain ⟨p, vs, rfl, hp, rp⟩ := dt_lst r
  cases dtAll_S rp
  cases r0
  have e : (ls.map fun w => V.str (tx w)) = (ls.map tx).map V.str := by rw [List.map_map]; rfl
  rw [e] at hp
  refine ⟨tx [], p, ls.map tx, rfl, rfl, .inl (SqL.of (s _ _ hp)), ?_, ?_⟩
  · rw [List.map_map, show ((fun x : Str => x.length) ∘ tx) = List.length from funext tx_len]
    show _ + _ * 0 ≤ _
    omega
  · rw [join_tx]; exact want (Q := Q) k s rfl q
end
end K78
/-! K78: list(text), sorted by len, sorted of data, min of tuples, text[::-1], isinstance, dict keys sorted. -/
namespace K78
open PySem PySem.Spec L2
open PySem.W (EachIs)
section
variable {X : Cx} {F : Fm} {ε : Env} {Q : PyData → Prop} {pos p p2 p3 : Pos} {e : Expr}
/-! ### list(text) -/
theorem dtAll_signs {H : Hp} : ∀ l : List Nat, DtAll H (l.map fun c => V.str ⟨#[c]⟩) (sgn l)
  | [] => .nil
  | c :: l => .cons (.str _) (dtAll_signs l)
theorem vals_signs {x : Str} {acc : Array Value} (h : ItemsOf (SignAt x) acc x.cps.size) : Vals (x.cps.toList.map fun c => V.str ⟨#[c]⟩) acc.toList := by
  obtain ⟨hs, ha⟩ := h
  have key : ∀ (l : List Nat) (us : List Value), l.length = us.length → (∀ (i : Nat) (v : Value), us[i]? = some v → ∃ c u, l[i]? = some c ∧ v = .str ⟨#[c]⟩ u) → Vals (l.map fun c => V.str ⟨#[c]⟩) us := by
    intro l
    induction l with
    | nil => intro us hl _; cases us with
      | nil => exact .nil
      | cons => cases hl
    | cons c l ih =>
      intro us hl hi
      cases us with
      | nil => cases hl
      | cons u us =>
        obtain ⟨c', t, hc, rfl⟩ := hi 0 _ rfl
        cases hc
        exact .cons ⟨t, rfl⟩ (ih us (Nat.succ.inj hl) fun i v hv => hi (i + 1) v hv)
  refine key _ _ (by simp [hs]) fun i v hv => ?_
  obtain ⟨c, u, hc, hv'⟩ := ha i v (by rw [← Array.getElem?_toList]; exact hv)
  exact ⟨c, u, by rw [Array.getElem?_toList]; exact hc, hv'⟩
theorem call_list_text (hc : X.calm = true) : CallR X (.type "list") (fun xs H Q => ∃ z : Str, xs = [.str z] ∧ z.length ≤ sizeLine ∧ ∀ l, H l = none → Q (.ref l) (upd H l (.lst (z.cps.toList.map fun c => V.str ⟨#[c]⟩)))) := by
  intro pins s σ H xs us Q I r h
  obtain ⟨z, rfl, hz, q⟩ := h
  obtain ⟨u, rfl, rx⟩ := vals1 r
  obtain ⟨t, rfl⟩ := rx
  refine call_list_str (I.ok.hd hc) z t (hn := hz) fun h' tk acc' c' hk hS' hacc => ?_
  have hv := vals_signs hacc
  refine ⟨.ref _, _, I.laid (t' := tk) (o := .lst (z.cps.toList.map fun c => V.str ⟨#[c]⟩)) hk (Nat.le_refl _) ⟨?_, acc'.toList, c', hv, by simpa using hS'⟩, rfl, q _ (I.hok.fresh (Nat.le_refl _))⟩
  rw [List.length_map]
  exact hz
theorem c_list_s {l : List Nat} (z : l.length ≤ 16000000) (q : Q (.list (sgn l))) (hc : X.calm = true := by rfl) : CallW X (.type "list") [S l] Q := callw_of (call_list_text hc) fun Hb H vs s r Q' k => by
  obtain ⟨v, rfl, r1⟩ := dta1 r
  cases r1
  exact ⟨tx l, rfl, by rw [tx_len]; exact Nat.le_trans z (by decide), fun a ha => k _ _ _ _ (Gr.new s ha) (.lst upd_same (dtAll_signs l)) q⟩
/-! ### text[::-1] -/
def tRevS (te : TE) : TE := fun σ H Q => te σ H fun x H1 => ∃ l, x = .str (tx l) ∧ l.length ≤ 16000000 ∧ Q (.str (tx l.reverse)) H1
theorem rev_tx (l : List Nat) (u : Tok) : Txt.sliceBy (tx l) none none (-1, u) = tx l.reverse := by
  refine TL.ext_tl ?_
  show (Txt.sliceBy (tx l) none none (-1, u)).cps.toList = l.reverse
  rw [PyProof.Rows.step_rev_list]
  refine List.ext_getElem? fun i => ?_
  rw [List.getElem?_map, tx_len]
  by_cases c : i < l.length
  · rw [List.getElem?_range c, List.getElem?_reverse c]
    show some ((tx l).cps.getD (l.length - 1 - i) 0) = _
    rw [List.getElem?_eq_getElem (by omega)]
    simp only [Array.getD, List.size_toArray]
    rw [dif_pos (show l.length - 1 - i < l.length by omega)]
    rfl
  · rw [List.getElem?_eq_none (by rw [List.length_range]; omega), List.getElem?_eq_none (by rw [List.length_reverse]; omega)]
    rfl
theorem pe_revS {te : TE} {k : Nat} {p1 : Pos} (he : PE X e te) : PE X (.Subscript e (.Slice none none (some (.UnaryOp .USub (.Constant (.int 1) k p1) p2)) p3) pos) (tRevS te) := by
  refine ⟨fun pins s σ H Q I h => ?_⟩
  refine PyProof.Rows.Subscript_ (thn (he.run pins s σ H _ I h) fun v s1 ⟨x, H1, I1, r1, q1⟩ => ?_)
  obtain ⟨l, ex, hz, q⟩ := q1
  subst ex
  obtain ⟨t, rfl⟩ := r1
  have hst : PO X (some (.UnaryOp .USub (.Constant (.int 1) k p1) p2)) (tPart (tUn (rU fun i => .int (-i)) (tC (.int 1)))) := po_some (pe_un un_neg pe_int)
  refine wpAny_Slice (thn (po_none.run pins s1 σ H1 (fun o H2 => o = none ∧ H2 = H1) I1 ⟨rfl, rfl⟩) fun vl s2 ⟨lo, H2, I2, pl, el, e2⟩ => ?_)
  subst el e2
  refine thn (po_none.run pins s2 σ H2 (fun o H3 => o = none ∧ H3 = H2) I2 ⟨rfl, rfl⟩) fun vu s3 ⟨u, H3, I3, pu, eu, e3⟩ => ?_
  subst eu e3
  refine thn (hst.run pins s3 σ H3 (fun o H4 => o = some (-1) ∧ H4 = H3) I3 ⟨1, rfl, -1, rfl, rfl, rfl⟩) fun vs s4 ⟨o, H4, I4, ps, eo, e4⟩ => ?_
  subst eo e4
  obtain ⟨l1, rfl, f1⟩ := L2.IsPart.raw pl
  obtain ⟨l2, rfl, f2⟩ := L2.IsPart.raw pu
  obtain ⟨l3, rfl, f3⟩ := L2.IsPart.raw ps
  cases l1 with
  | some z => cases f1
  | none =>
  cases l2 with
  | some z => cases f2
  | none =>
  cases l3 with
  | none => cases f3
  | some z =>
  obtain ⟨z1, z2⟩ := z
  have ez : z1 = -1 := Option.some.inj f3
  subst ez
  have I5 : Inv X pins σ H4 { s4 with heap := s4.heap.push { cls := .type "slice", data := .fields #[.none, .none, .int (-1) z2] } } := I4.kept (t' := s4.toks) fun b ob q => Heap.get?_push_of_some _ q
  refine PyProof.Rows.tail_any (T := "str") (ops := [.str (tx l) t, .ref s4.heap.objs.size]) (s := { s4 with heap := s4.heap.push { cls := .type "slice", data := .fields #[.none, .none, .int (-1) z2] } }) (typeIs_str _ _ _) (PySem.F.slot_str_getitem.lookup) ?_ (by with_unfolding_all rfl)
  refine wpAny_getItem_str_slice (l := none) (u := none) (st := some (-1, z2)) ⟨_, Heap.get?_push_size _ rfl, rfl, rfl⟩ rfl (post_val_or_str ⟨?_, fun t' k => ?_⟩)
  · show (Txt.sliceBy (tx l) none none (-1, z2)).length ≤ _
    rw [rev_tx, tx_len, List.length_reverse]
    exact Nat.le_trans hz (by decide)
  · refine ⟨.str (tx l.reverse), H4, I5.tok _, ⟨t', ?_⟩, q⟩
    show Value.str (Txt.sliceBy (tx l) none none (-1, z2)) t' = _
    rw [rev_tx]
theorem ew_revS {k : Nat} {p1 : Pos} (h : EW X F e ε fun d => ∃ l, d = S l ∧ l.length ≤ 16000000 ∧ Q (S l.reverse)) : EW X F (.Subscript e (.Slice none none (some (.UnaryOp .USub (.Constant (.int 1) k p1) p2)) p3) pos) ε Q := fun hd Hb H σ S Q' q =>
  pe_run (pe_revS pe_sem) (h hd Hb H σ S _ fun v d Hb1 H1 S1 g1 r ⟨l, ed, hz, z⟩ => by
    subst ed
    cases r
    exact ⟨l, rfl, hz, q _ _ _ _ S1 g1 (.str _) z⟩)
end
end K78
/-! K78: sorted by len, sorted rows, least of tuples, isinstance, a dict's keys sorted. -/
namespace K78
open PySem PySem.Spec L2
open PySem.W (EachIs)
/-! ### values that stand for items -/
theorem each_of {β : Type} {Hb : Hp} {enc : β → PyData} : ∀ {bs : List β} {vs : List V} {us : List Value}, DtAll Hb vs (bs.map enc) → Vals vs us → EachIs (fun u b => ∃ w, RelV w u ∧ Dt Hb w (enc b)) us bs
  | [], _, _, .nil, .nil => .nil
  | b :: bs, _, _, .cons h r, .cons h' r' => .cons ⟨_, h', h⟩ (each_of r r')
theorem of_each {β : Type} {Hb : Hp} {enc : β → PyData} : ∀ {us : List Value} {bs : List β}, EachIs (fun u b => ∃ w, RelV w u ∧ Dt Hb w (enc b)) us bs → ∃ vs, DtAll Hb vs (bs.map enc) ∧ Vals vs us
  | _, _, .nil => ⟨[], .nil, .nil⟩
  | _, _, .cons ⟨w, h', h⟩ t => by
    obtain ⟨vs, r, r'⟩ := of_each t
    exact ⟨w :: vs, .cons h r, .cons h' r'⟩
theorem each_map2 {α β : Type} {R R' : α → β → Prop} (h : ∀ a b, R a b → R' a b) {as : List α} {bs : List β} (e : EachIs R as bs) : EachIs R' as bs := e.mono h
section
variable {X : Cx} {F : Fm} {ε : Env} {Q : PyData → Prop} {pos p p2 p3 kp : Pos} {e : Expr}
/-- a length -/
def LenIs : PyData → Nat → Prop
  | .str z, n => z.length = n ∧ n ≤ 16000000
  | .list ds, n => ds.length = n ∧ n ≤ 16000000
  | _, _ => False
/-- sorted(xs, key=len) -/
theorem ew_sortLen {β : Type} (enc : β → PyData) (len : β → Nat) (hm : X.mg "sorted" = none) (hm2 : X.mg "len" = none)
    (h : EW X F e ε fun d => ∃ bs, d = .list (bs.map enc) ∧ bs.length ≤ 16000000 ∧ (∀ b ∈ bs, LenIs (enc b) (len b)) ∧ ∀ bs' : List β, bs'.Perm bs → bs'.Pairwise (fun a b => len a ≤ len b) → Q (.list (bs'.map enc)))
    (hu : X.A.units + 10 < cLine) (hg : Gl X "sorted" := by rfl) (hg2 : Gl X "len" := by rfl)
    (he : backTo pos (starEach [e] X.env) = (false, eval e X.env) :: backTo pos (starEach [] X.env) := by rfl) (hpl : (backTo pos (starEach [e] X.env)).any (·.1) = false := by rfl) (hs : starEach [e] X.env = (false, eval e X.env) :: starEach [] X.env := by rfl) :
    EW X F (.Call (.Name "sorted" p) [e] [⟨some "key", .Name "len" p2, kp⟩] pos) ε Q := fun hd Hb H σ S Q' q => by
  refine ⟨fun pins s I => ?_⟩
  refine wpAny_Call_Name_kw (ld_blt I hg hm PyProof.Rows.boot_sorted ?_)
  refine PyProof.Rows.callWith_kw (thn ((pa_cons pe_sem pa_nil hs).run pos pins s σ H (fun vs H1 => ∃ bs Hb1, SI F hd Hb1 H1 σ ε ∧ Gr F.Jd Hb H Hb1 H1 ∧ DtAll Hb1 vs [.list (bs.map enc)] ∧ bs.length ≤ 16000000 ∧ (∀ b ∈ bs, LenIs (enc b) (len b)) ∧ ∀ bs' : List β, bs'.Perm bs → bs'.Pairwise (fun a b => len a ≤ len b) → Q (.list (bs'.map enc))) I ?_) fun us s1 ⟨vs, H1, I1, r1, bs, Hb1, S1, g1, rd, hz, hl, q1⟩ => ?_) he hpl rfl rfl
  · refine h hd Hb H σ S _ fun v d Hb1 H1 S1 g1 r1 ⟨bs, ed, hz, hl, q1⟩ => ?_
    subst ed
    exact ⟨bs, Hb1, S1, g1, .cons r1 .nil, hz, hl, q1⟩
  · refine wpAny_evalAll_cons (wpAny_bind (ld_blt I1 hg2 hm2 PySem.boot_len (wpAny_bind (wpAny_standAt (wpAny_pure (wpAny_evalAll_nil ?_))))))
    obtain ⟨v, rfl, rd1⟩ := dta1 rd
    obtain ⟨a, ws, rfl, ha, ra⟩ := dt_lst rd1
    obtain rfl := Vals.ref1 r1
    obtain ⟨its, rv, pl, hsz⟩ := I1.list (SqL.of (S1.si _ _ ha))
    have hL : sizeLine = 16777216 := by decide
    refine PySem.W.sorted_key_data (b := false) (R := fun u b => ∃ w, RelV w u ∧ Dt Hb1 w (enc b)) (fun b => .int (len b : Nat)) pl.isList (each_of ra rv) ?_ (.inr fun d hd => ?_) (by rw [hL]; omega) (fun x hx => ?_) (PyProof.Rows.ksk_s1 _ _) (fun x => PyProof.Rows.ksk_l1 _ _) (fun x => PyProof.Rows.ksk_t4 _ _) (fun v x hR hx h tk hk => ?_) fun out c h' tk hk hn ho hlen hE => ?_
    · intro d hd d' hd'
      obtain ⟨b, _, rfl⟩ := List.mem_map.mp hd
      obtain ⟨b', _, rfl⟩ := List.mem_map.mp hd'
      rfl
    · obtain ⟨b, _, rfl⟩ := List.mem_map.mp hd
      exact ⟨fun z => (nomatch z), fun xs z => (nomatch z)⟩
    · show X.A.units + 2 + 0 < cLine
      omega
    · obtain ⟨w, rw', dw⟩ := hR
      have hlx := hl x hx
      revert dw hlx
      generalize enc x = d
      intro dw hlx
      cases dw with
      | str z =>
        obtain ⟨t, rfl⟩ := rw'
        obtain ⟨h1, h2⟩ := hlx
        refine PyProof.Rows.len_str (by omega) ⟨h, _, rfl, fun b o e => e, ?_⟩
        rw [h1]
        exact .int _ _
      | lst hp ha' =>
        cases rw'
        obtain ⟨its2, rv2, pl2, hsz2⟩ := I1.list (SqL.of (S1.si _ _ hp))
        obtain ⟨h1, h2⟩ := hlx
        have e2 : its2.length = len x := by rw [← rv2.length, dta_len ha']; exact h1
        refine PySem.Calls.call_len_list ((pl2.isList).at fun o e => hk _ _ e) (by simp only [List.size_toArray]; omega) ⟨h, _, rfl, fun b o e => e, ?_⟩
        simp only [List.size_toArray]
        rw [e2]
        exact .int _ _
      | non => exact hlx.elim
      | bl => exact hlx.elim
      | int => exact hlx.elim
      | tup => exact hlx.elim
    · obtain ⟨vs', dv, rv'⟩ := of_each hE
      have hn' : H1 (s1.heap.objs.size + 1) = none := I1.hok.fresh (Nat.le_succ _)
      have hpm := List.mergeSort_perm bs (PySem.W.dataLe false fun b => .int (len b : Nat))
      refine ⟨.ref _, _, I1.laid (t' := tk) (o := .lst vs') hk (Nat.le_succ _) ⟨?_, out, c, rv', ho⟩, rfl, ?_⟩
      · rw [dta_len dv, List.length_map, hpm.length_eq, hL]; omega
      · refine q _ _ _ _ (S1.grow (Gr.new S1.si hn')) (g1.trans0 (Gr.new S1.si hn')) (.lst upd_same (dta_mono (Gr.new S1.si hn').b dv)) (q1 _ hpm ?_)
        have := PySem.W.sort_pairwise (PySem.W.sortLe_total _ false _) bs (le := PySem.W.dataLe false fun b => .int (len b : Nat))
        refine this.imp fun {a b} hab => ?_
        rw [PySem.W.dataLe_int] at hab
        exact Int.ofNat_le.mp (of_decide_eq_true hab)
/-- sorted(xs) of rows of ints -/
def rows (bs : List (List Int)) : List PyData := bs.map fun b => .list (b.map .int)
theorem alikeAll_ints : ∀ xs ys : List Int, PySem.W.alikeAll (xs.map .int) (ys.map .int) = true := PySem.W.alike_ints
theorem c_sortRows {bs : List (List Int)} (hu : X.A.units + 10 < cLine) (hz : bs.length ≤ 16000000) (q : Q (.list (rows (bs.mergeSort fun p q => decide (p ≤ q))))) : CallW X (.builtin "sorted") [.list (rows bs)] Q := fun Hb H vs sm rd Q' k => by
  refine ⟨cSem X (.builtin "sorted"), call_sem, fun pins s σ us I r1 => ?_⟩
  obtain ⟨v, rfl, rd1⟩ := dta1 rd
  obtain ⟨a, ws, rfl, ha, ra⟩ := dt_lst rd1
  obtain rfl := Vals.ref1 r1
  obtain ⟨its, rv, pl, hsz⟩ := I.list (SqL.of (sm _ _ ha))
  have hL : sizeLine = 16777216 := by decide
  have ea := each_of ra rv
  refine PySem.W.sorted_data (R := fun u b => ∃ w, RelV w u ∧ Dt Hb w (.list (b.map .int))) (enc := fun b : List Int => .list (b.map .int)) pl.isList ea (ea.mono fun u b ⟨w, r, d⟩ => Dp.reads I _ _ _ (dt_dp (dt_mono sm d)) r) ?_ (.inr fun d hd => ?_) (by rw [hL]; omega) (fun b hb => ?_) fun out hlen hE => ?_
  · intro d hd d' hd'
    obtain ⟨b, _, rfl⟩ := List.mem_map.mp hd
    obtain ⟨b', _, rfl⟩ := List.mem_map.mp hd'
    exact alikeAll_ints b b'
  · obtain ⟨b, _, rfl⟩ := List.mem_map.mp hd
    exact ⟨fun z => (nomatch z), fun xs z => (nomatch z)⟩
  · show X.A.units + 2 + (PyData.depthAll (b.map .int) + 1) < cLine
    rw [PySem.W.depth_ints]
    omega
  · have el := PySem.W.dataLe_rows (fun b : List Int => b)
    rw [el] at hE
    obtain ⟨vs', dv, rv'⟩ := of_each hE
    obtain ⟨ep, he'⟩ := PyProof.Rows.sortedAll_at s.heap its out.toArray
    have hn' : H (s.heap.objs.size + 1) = none := I.hok.fresh (Nat.le_succ _)
    refine ⟨.ref _, _, I.laid (t' := s.toks) (o := .lst vs') (fun _ _ => PyProof.Rows.sortedAll_old) (Nat.le_succ _) ⟨?_, out, ep, rv', he'⟩, rfl, k _ _ _ _ (Gr.new sm hn') (.lst upd_same (dta_mono (Gr.new sm hn').b dv)) q⟩
    rw [dta_len dv, List.length_map, (List.mergeSort_perm _ _).length_eq, hL]
    omega
/-- min of a list of pairs of ints: one of them -/
theorem c_minPairs {ps : List (Int × Int)} (hc : X.calm = true) (hu : X.A.units + 10 < cLine) (hne : ps ≠ []) (q : ∀ z ∈ ps, Q (.tuple [.int z.1, .int z.2])) : CallW X (.builtin "min") [.list (ps.map fun z => .tuple [.int z.1, .int z.2])] Q := fun Hb H vs sm rd Q' k => by
  refine ⟨cSem X (.builtin "min"), call_sem, fun pins s σ us I r1 => ?_⟩
  obtain ⟨v, rfl, rd1⟩ := dta1 rd
  obtain ⟨a, ws, rfl, ha, ra⟩ := dt_lst rd1
  obtain rfl := Vals.ref1 r1
  obtain ⟨its, rv, pl, hsz⟩ := I.list (SqL.of (sm _ _ ha))
  obtain ⟨as, hr⟩ := Dp.readsAll I _ _ _ (dta_dp (dta_mono sm ra)) rv
  cases ps with
  | nil => exact absurd rfl hne
  | cons z zs =>
    have dep : ∀ l : List (Int × Int), PyData.depthAll (l.map fun z => PyData.tuple [.int z.1, .int z.2]) ≤ 1 := fun l => depthAll_map fun x _ => by show max 0 (max 0 0) + 1 ≤ 1; decide
    refine PySem.W.min_list_data (x := .tuple [.int z.1, .int z.2]) (xs := zs.map fun z => .tuple [.int z.1, .int z.2]) (as := as) (I.ok.hd hc) pl.isList (by simpa using hr) ⟨fun x hx y hy => ?_, fun x hx => ?_⟩ ?_ fun i v h' tk bs hv hrd hk => ?_
    · have hx' : x ∈ (z :: zs).map fun z => PyData.tuple [.int z.1, .int z.2] := hx
      have hy' : y ∈ (z :: zs).map fun z => PyData.tuple [.int z.1, .int z.2] := hy
      obtain ⟨b, _, rfl⟩ := List.mem_map.mp hx'
      obtain ⟨b', _, rfl⟩ := List.mem_map.mp hy'
      rfl
    · have hx' : x ∈ (z :: zs).map fun z => PyData.tuple [.int z.1, .int z.2] := hx
      obtain ⟨b, _, rfl⟩ := List.mem_map.mp hx'
      exact fun z => nomatch z
    · have := dep (z :: zs)
      simp only [List.map_cons] at this
      omega
    · have hv' : its[i]? = some v := by simpa using hv
      obtain ⟨w, hw, rw'⟩ : ∃ w, ws[i]? = some w ∧ RelV w v := by
        have hl := rv.length
        have hi : i < ws.length := by rw [hl]; exact (List.getElem?_eq_some_iff.mp hv').1
        obtain ⟨u, hu, ru⟩ := rv.get (List.getElem?_eq_getElem hi)
        rw [hv'] at hu
        cases hu
        exact ⟨_, List.getElem?_eq_getElem hi, ru⟩
      obtain ⟨d, hd, dw⟩ := dta_at ra hw
      rw [List.getElem?_map] at hd
      cases hz : (z :: zs)[i]? with
      | none => rw [hz] at hd; cases hd
      | some y =>
        rw [hz] at hd
        cases hd
        exact ⟨w, H, I.kept (t' := tk) hk, rw', k _ _ _ _ (Gr.refl sm) dw (q y (List.mem_of_getElem? hz))⟩
/-- min(xs), max(xs) of ints -/
theorem c_min {ns : List Int} (hne : 0 < ns.length) (q : ∀ m, m ∈ ns → (∀ y, y ∈ ns → m ≤ y) → Q (.int m)) (hc : X.calm = true := by rfl) : CallW X (.builtin "min") [.list (ns.map .int)] Q := callw_of (cr_min hc) fun Hb H vs s r Q' k => by
  obtain ⟨v, rfl, r1⟩ := dta1 r
  obtain ⟨p, vs, rfl, hp, rp⟩ := dt_lst r1
  cases dtAll_ints rp
  exact ⟨p, ns, rfl, SqL.of (s _ _ hp), hne, fun m h1 h2 => want k s rfl (q m h1 h2)⟩
theorem c_max {ns : List Int} (hne : 0 < ns.length) (q : ∀ m, m ∈ ns → (∀ y, y ∈ ns → y ≤ m) → Q (.int m)) (hc : X.calm = true := by rfl) : CallW X (.builtin "max") [.list (ns.map .int)] Q := callw_of (cr_max hc) fun Hb H vs s r Q' k => by
  obtain ⟨v, rfl, r1⟩ := dta1 r
  obtain ⟨p, vs, rfl, hp, rp⟩ := dt_lst r1
  cases dtAll_ints rp
  exact ⟨p, ns, rfl, SqL.of (s _ _ hp), hne, fun m h1 h2 => want k s rfl (q m h1 h2)⟩
/-- sorted(texts), fewer than 64 -/
theorem c_sortS {ws : List (List Nat)} (hz : ws.length < 64) (q : ∀ ws' : List (List Nat), ws'.Perm ws → Q (.list (ws'.map S))) : CallW X (.builtin "sorted") [.list (ws.map S)] Q := callw_of cr_sortedS fun Hb H vs s r Q' k => by
  obtain ⟨v, rfl, r1⟩ := dta1 r
  obtain ⟨p, vs, rfl, hp, rp⟩ := dt_lst r1
  cases dtAll_S rp
  refine ⟨p, ws.map tx, rfl, SqL.of (by rw [List.map_map]; exact s _ _ hp), by rw [List.length_map]; exact hz, fun ys a hperm _ ha => ?_⟩
  have e : ys = (ys.map fun y => y.cps.toList).map tx := by
    rw [List.map_map]
    refine (List.map_id' ys).symm.trans (List.map_congr_left fun y _ => tx_of y)
  have hp2 : (ys.map fun y => y.cps.toList).Perm ws := by
    have := hperm.map fun y => y.cps.toList
    rw [List.map_map] at this
    exact this.trans (by rw [show ((fun y : Str => y.cps.toList) ∘ tx) = id from rfl, List.map_id])
  rw [e, List.map_map]
  exact k _ _ _ _ (Gr.new s ha) (.lst upd_same (dtAll_of_S _)) (q _ hp2)
/-! ### isinstance -/
def tyOf : PyData → String
  | .none => "NoneType" | .bool _ => "bool" | .int _ => "int" | .str _ => "str" | .list _ => "list" | .tuple _ => "tuple" | .dict _ => "dict"
theorem tyX_of {K : Frag} {H : Hp} {v : V} {d : PyData} (r : Dt H v d) : TyX K H v (.type (tyOf d)) := by
  cases r with
  | non => exact .base .non
  | bl b => exact .base (.bl b)
  | int i => exact .base (.int i)
  | str x => exact .base (.str x)
  | lst h _ => exact .base (.lst h)
  | tup h _ => exact .base (.tup h)
theorem ew_isi {T : String} {t : Str} {b : PyData → Bool} (hm : X.mg "isinstance" = none) (hm2 : X.mg t = none) (h : EW X F e ε fun d => kitB (tyOf d) T = some (b d) ∧ Q (.bool (b d))) (hv : bootBuiltins t = some (.type T) := by decide +kernel) (hg : Gl X "isinstance" := by rfl) (hg2 : Gl X t := by rfl) (hn : t ≠ "__name__" := by decide) (hdb : (t == ("__debug__" : Str)) = false := by decide)
    (hs : starEach [e, .Name t p2] X.env = (false, eval e X.env) :: starEach [.Name t p2] X.env := by rfl) (hs2 : starEach [.Name t p2] X.env = (false, eval (.Name t p2) X.env) :: starEach [] X.env := by rfl) (hpl : (backTo pos (starEach [.Name t p2] X.env)).any (·.1) = false := by rfl) :
    EW X F (.Call (.Name "isinstance" p) [e, .Name t p2] [] pos) ε Q := fun hd Hb H σ S Q' q => by
  refine pe_run (pe_callB call_isi hg hm PyProof.Rows.boot_isinstance (pa_cons pe_sem (pa_cons (pe_bltn (v := .ty T) hg2 hm2 hv rfl hn hdb) pa_nil hs2) hs) (by decide) (by decide) hs hpl) ?_
  refine h hd Hb H σ S _ fun v d Hb1 H1 S1 g1 r1 ⟨hk, q1⟩ => ⟨v, .ty T, .type (tyOf d), .type T, b d, rfl, .ty T, tyX_of (dt_mono S1.si r1), kit_ty hk, q _ _ _ _ S1 g1 (.bl _) q1⟩
/-- isinstance(x, (T, U)) -/
theorem ew_isi2 {T U : String} {t u : Str} {k2 : Nat} {p4 : Pos} {b1 b2 : PyData → Bool} (hm : X.mg "isinstance" = none) (hm2 : X.mg t = none) (hm3 : X.mg u = none) (h : EW X F e ε fun d => kitB (tyOf d) T = some (b1 d) ∧ kitB (tyOf d) U = some (b2 d) ∧ Q (.bool (b1 d || b2 d))) (hv : bootBuiltins t = some (.type T) := by decide +kernel) (hv2 : bootBuiltins u = some (.type U) := by decide +kernel) (hg : Gl X "isinstance" := by rfl) (hg2 : Gl X t := by rfl) (hg3 : Gl X u := by rfl) (hn : t ≠ "__name__" := by decide) (hdb : (t == ("__debug__" : Str)) = false := by decide) (hn2 : u ≠ "__name__" := by decide) (hdb2 : (u == ("__debug__" : Str)) = false := by decide)
    (hs : starEach [e, .Tuple [.Name t p2, .Name u p3] k2 p4] X.env = (false, eval e X.env) :: starEach [.Tuple [.Name t p2, .Name u p3] k2 p4] X.env := by rfl) (hs2 : starEach [.Tuple [.Name t p2, .Name u p3] k2 p4] X.env = (false, eval (.Tuple [.Name t p2, .Name u p3] k2 p4) X.env) :: starEach [] X.env := by rfl)
    (hs3 : starEach [.Name t p2, .Name u p3] X.env = (false, eval (.Name t p2) X.env) :: starEach [.Name u p3] X.env := by rfl) (hs4 : starEach [.Name u p3] X.env = (false, eval (.Name u p3) X.env) :: starEach [] X.env := by rfl) (hpl : (backTo pos (starEach [.Tuple [.Name t p2, .Name u p3] k2 p4] X.env)).any (·.1) = false := by rfl) :
    EW X F (.Call (.Name "isinstance" p) [e, .Tuple [.Name t p2, .Name u p3] k2 p4] [] pos) ε Q := fun hd Hb H σ S Q' q => by
  refine pe_run (pe_callB call_isiT hg hm PyProof.Rows.boot_isinstance (pa_cons pe_sem (pa_cons (pe_tup (pa_cons (pe_bltn (v := .ty T) hg2 hm2 hv rfl hn hdb) (pa_cons (pe_bltn (v := .ty U) hg3 hm3 hv2 rfl hn2 hdb2) pa_nil hs4) hs3)) pa_nil hs2) hs) (by decide) (by decide) hs hpl) ?_
  refine h hd Hb H σ S _ fun v d Hb1 H1 S1 g1 r1 ⟨hk, hk2, q1⟩ => ⟨by show 2 ≤ sizeLine; decide, fun a ha => ?_⟩
  have g2 := Gr.tmp (o := .tup [.ty T, .ty U]) S1.si ha
  refine ⟨v, a, [.ty T, .ty U], .type (tyOf d), [.type T, .type U], b1 d || b2 d, rfl, upd_same, .cons (.ty T) (.cons (.ty U) .nil), tyX_of (dt_mono (S1.si.trans (same_new ha)) r1), ?_, q _ _ _ _ (S1.grow g2) (g1.trans0 g2) (.bl _) q1⟩
  refine kitAny_cons (kit_ty hk) (fun e => ?_) (fun e => by rw [e]; rfl)
  rw [e, Bool.false_or]
  refine kitAny_cons (kit_ty hk2) (fun e => ?_) (fun e => e)
  rw [e]; exact kitAny_nil
end
end K78
/-! K78: enumerate of texts and tuples, zip of texts. -/
namespace K78
open PySem PySem.Spec L2
/-- pairs, n of them, while G holds -/
def ItG (n : Nat) (G : Hp → Prop) (fx fy : Nat → Option V) : It := ⟨fun i H => i < n ∧ G H, fun i H v H' => ∃ T x y, v = .ref T ∧ H T = none ∧ H' = upd H T (.tup [x, y]) ∧ fx i = some x ∧ fy i = some y, fun i H => i = n ∧ G H⟩
theorem walk_G {n : Nat} {G : Hp → Prop} {fx fy : Nat → Option V} : Walk (ItG n G fx fy) n G (YPair fx fy) := ⟨fun i H hi g => ⟨hi, g⟩, fun H g => ⟨rfl, g⟩, fun i H x H' _ _ y => y⟩
theorem turn_G {P : Program} {w : World} {K : Frag} {elts : List Expr} {kk : Nat} {tpos : Pos} {n : Nat} {G : Hp → Prop} {fx fy : Nat → Option V} (fp : List Addr) (e : Addr) (tn : Nat → Heap → Prop) (mem : e ∈ fp)
    (obj : ∀ i h, tn i h → ∀ b ∈ fp, ∃ o, h.get? b = some o ∧ ∀ v, o.data ≠ .cell v) (keep : ∀ i h h', tn i h → (∀ b ∈ fp, ∀ o, h.get? b = some o → h'.get? b = some o) → tn i h')
    (W : ∀ (X : Cx), X.prog = P → X.w = w → X.K = K → X.calm = true → ∀ (i : Nat) (pins : List (Addr × Obj)) (s : Shared) (σ : L2.St) (H : Hp), L2.Inv X pins σ H s → tn i s.heap → G H →
      ∃ fp' wr Y St, (∀ b ∈ wr, b ∈ fp) ∧ GoesN P w X.A (.Tuple elts kk tpos) e fp' wr n Y St ∧ St i s.heap ∧ (∀ h', St (i + 1) h' → tn (i + 1) h') ∧
        ∀ v h', i < n → Y i s.heap v h' → ∃ T x y u1 u2, v = .ref T ∧ s.heap.objs.size ≤ T ∧ h'.IsTuple T #[u1, u2] ∧ RelV x u1 ∧ RelV y u2 ∧ fx i = some x ∧ fy i = some y)
    (self : ∀ (A : Around) (i : Nat) (s : Shared) (Q : Value → Shared → Prop) (E : Value → Shared → Prop), tn i s.heap → Q (.ref e) s → wpAny (model P w) A (pyIter (.ref e)) Q E s) :
    Turn P w K (.Tuple elts kk tpos) (ItG n G fx fy) fp e tn where
  mem := mem
  obj := obj
  keep := keep
  item := by
    intro X hP hw hK hc i pins s σ H E I hf st hg
    obtain ⟨fp', wr, Y, St, hwr, W1, hst, hnx, hY⟩ := W X hP hw hK hc i pins s σ H I st hg.2
    subst hP hw hK
    refine thn (W1.goes i s (fun v s2 => ∃ x H', L2.Inv X pins σ H' s2 ∧ RelV x v ∧ (ItG n G fx fy).yld i H x H' ∧ tn (i + 1) s2.heap ∧ ∀ b ∈ fp, H' b = none) E hg.1 hst fun v h' tk hy st' hk htk => ?_) fun r s1 h => h
    obtain ⟨T, x, y, u1, u2, rfl, hT, ht, r1, r2, e1, e2⟩ := hY v h' hg.1 hy
    have new : ObjOk X.prog X.w (upd H T (.tup [x, y])) h' T (.tup [x, y]) := ⟨by show 2 ≤ sizeLine; decide, [u1, u2], .cons r1 (.cons r2 .nil), ht⟩
    refine ⟨.ref T, upd H T (.tup [x, y]), I.turnedNew (t' := tk) (ch := fp) (fun b o hb q => hk b o (fun z => hb (hwr b z)) q) hf hT new, rfl, ⟨T, x, y, rfl, I.hok.fresh hT, rfl, e1, e2⟩, hnx h' st', fun b hb => ?_⟩
    obtain ⟨o, ho, _⟩ := obj i s.heap st b hb
    rw [upd_ne (Nat.ne_of_lt (Nat.lt_of_lt_of_le (Heap.lt_size ho) hT))]
    exact (hf b hb).1
  done := by
    intro X hP hw hK hc i pins s σ H E I hf st hg
    obtain ⟨fp', wr, Y, St, hwr, W1, hst, hnx, hY⟩ := W X hP hw hK hc i pins s σ H I st hg.2
    subst hP hw hK
    rw [hg.1] at hst
    refine W1.stops s (fun s1 => L2.Inv X pins σ H s1) E hst fun h' tk hk htk => ?_
    exact I.turnedL (t' := tk) (ch := fp) (fun b o hb q => hk b o (fun z => hb (hwr b z)) q) hf
  self := self
section
variable {X : Cx} {F : Fm} {ε : Env} {Q : List PyData → Prop} {pos p tpos : Pos} {e a b : Expr} {elts : List Expr} {kk : Nat}
/-- an argument list of one -/
theorem one_arg {te : TE} (he : PE X e te) (hs : starEach [e] X.env = [(false, eval e X.env)]) {R : V → Hp → Prop} {pins : List (Addr × Obj)} {s : Shared} {σ : L2.St} {H : Hp} (I : L2.Inv X pins σ H s) (h : te σ H R) (q : Pos) :
    wpAny (model X.prog X.w) X.A (spliced (backTo q (starEach [e] X.env))) (fun us s1 => ∃ u v H1, us = [u] ∧ RelV v u ∧ L2.Inv X pins σ H1 s1 ∧ R v H1) X.xe s := by
  refine thn ((pa_cons (pe_sem (e := e)) pa_nil (by rw [hs]; rfl)).run q pins s σ H (fun vs H1 => ∃ v, vs = [v] ∧ R v H1) I ?_) fun us s1 ⟨vs, H1, I1, r1, v, ev, q1⟩ => ?_
  · show tSem X e σ H _
    exact ⟨fun pins s I => thn (he.run pins s σ H _ I h) fun u s1 ⟨v, H1, I1, r, q⟩ => ⟨v, H1, I1, r, v, rfl, q⟩⟩
  · subst ev
    obtain ⟨u, rfl, ru⟩ := vals1 r1
    exact ⟨u, v, H1, rfl, ru, I1, q1⟩
set_option maxHeartbeats 8000000 in
/-- enumerate(v), v anything that begins -/
theorem meets_enum1 {v : Value} {o : Obj} {HB : Heap → Prop} (B : Begins v o HB) :
    Meets (Builtin.«enumerate.__new__» ⟨[.type "enumerate", v], []⟩) (fun _ R s => HB s.heap ∧
      R (.ok (.ret (.ref (s.heap.push o).objs.size))) { s with heap := (s.heap.push o).push { cls := .type "enumerate", data := .fields #[.none, .bool false, .ref s.heap.objs.size, rawInt 0, .none, .none] } }) :=
  .of_wp fun prog w A R s h => by
    obtain ⟨hp, g, d, tk, os⟩ := s; obtain ⟨h1, h⟩ := h
    have hsub := sub_enumerate
    have q1 : ∀ {A' : Around} {E : Value → Shared → Prop} {Q : Value → Shared → Prop}, Q (.ref hp.objs.size) ⟨hp.push o, g, d, tk, os⟩ → wpAny (model prog w) A' (pyIter v) Q E ⟨hp, g, d, tk, os⟩ :=
      fun q => B.iter prog w _ _ ⟨hp, g, d, tk, os⟩ _ h1 q
    wp_walk using q1
    refine wpAny_stack_any fun st => wpAny_pure ?_
    split
    · rename_i c _ _ _ _ _
      cases (c == Value.type "enumerate")
      · wp_walk using q1
        exact ⟨_, rfl, h⟩
      · wp_walk using q1
        exact ⟨_, rfl, h⟩
    · wp_walk using q1
      exact ⟨_, rfl, h⟩
theorem enum1 {prog : Program} {w : World} {A : Around} {E : Value → Shared → Prop} {s : Shared} {v : Value} {o : Obj} {HB : Heap → Prop} {Q : Value → Shared → Prop} (B : Begins v o HB) (h1 : HB s.heap)
    (h : ∀ h', IsEnum h' (s.heap.objs.size + 1) s.heap.objs.size 0 .none → h'.get? s.heap.objs.size = some o → h'.objs.size = s.heap.objs.size + 2 →
      (∀ b o, s.heap.get? b = some o → h'.get? b = some o) → Q (.ref (s.heap.objs.size + 1)) { s with heap := h' }) :
    wpAny (model prog w) A (call (.type "enumerate") [v]) Q E s := by
  refine callType_new F.called_enumerate (by decide) (F.typeCall_enumerate_1 _) (F.newCall_enumerate_1 _) (fun obj => F.args_object_init_2 obj _) F.entry_enumerate_new
    (meets_enum1 B) ⟨h1, ?_⟩
  have hz : (s.heap.push o).objs.size = s.heap.objs.size + 1 := Heap.size_push ..
  show _ ∧ _
  rw [hz]
  have he : IsEnum ((s.heap.push o).push { cls := .type "enumerate", data := .fields #[.none, .bool false, .ref s.heap.objs.size, rawInt 0, .none, .none] }) (s.heap.objs.size + 1) s.heap.objs.size 0 .none := by
    have := Heap.get?_push_size (s.heap.push o) (o := { cls := .type "enumerate", data := .fields #[.none, .bool false, .ref s.heap.objs.size, rawInt 0, .none, .none] }) rfl
    rw [hz] at this; exact this
  refine ⟨⟨_, he, rfl⟩, h _ he (Heap.get?_push_of_some _ (Heap.get?_push_size _ B.free)) (by rw [Heap.size_push, hz]) fun b o x => Heap.get?_push_of_some _ (Heap.get?_push_of_some _ x)⟩
/-- enumerate(text) -/
def iEnumS (te : TE) : TI := fun σ H R => te σ H fun v H1 => ∃ z : Str, v = .str z ∧ R (ItG z.cps.size (fun _ => True) (fun i => some (.int (i : Nat))) (fun i => (z.cps[i]?).map fun c => V.str ⟨#[c]⟩)) H1
theorem enum_fp {N b : Nat} (h : b ∈ [N + 1, N]) : N ≤ b := by
  have e' : b = N + 1 ∨ b = N := by simpa using h
  omega
theorem pi_enumS {te : TE} (hg : Gl X "enumerate") (hm : X.mg "enumerate" = none) (he : PE X e te) (hs : starEach [e] X.env = [(false, eval e X.env)]) :
    PI X (.Tuple elts kk tpos) (.Call (.Name "enumerate" p) [e] [] pos) (iEnumS te) := by
  refine ⟨fun pins s σ H R I h => ?_⟩
  refine PyProof.Rows.Call_ (ld_blt I hg hm PyProof.Rows.boot_enumerate (PyProof.Rows.callWith_type1 (thn (one_arg he hs I h pos) fun us s1 ⟨u, v, H1, eu, ru, I1, z, ez, q⟩ => ?_) hs rfl))
  subst eu ez
  obtain ⟨t, rfl⟩ := ru
  refine enum1 (begins_text z t) trivial fun h' he' hit hsz hk => wpAny_pyIter_enum he' ?_
  have I2 : L2.Inv X pins σ H1 { s1 with heap := h' } := I1.kept (t' := s1.toks) hk
  have hne : s1.heap.objs.size + 1 ≠ s1.heap.objs.size := Nat.succ_ne_self _
  refine ⟨s1.heap.objs.size + 1, [s1.heap.objs.size + 1, s1.heap.objs.size], fun i h => (∃ old, IsEnum h (s1.heap.objs.size + 1) s1.heap.objs.size (0 + (i : Int)) old) ∧ h.IsStrIter s1.heap.objs.size (strIterType z) z t i, _, H1, rfl, I2, turn_G _ _ _ (by simp) (fun i h st b hb => ?_) (fun i h h' st k => ?_) (fun Y hP hw hK hc i pins' s' σ' H' I' st _ => ?_) (fun A i s Q E st h => let ⟨⟨_, he⟩, _⟩ := st; wpAny_pyIter_enum he h), ⟨⟨.none, by simpa using he'⟩, ⟨_, hit, rfl, rfl⟩⟩, fun b hb => I1.fpOk (enum_fp hb) (I1.hok.fresh (enum_fp hb)), q⟩
  · obtain ⟨⟨old, he⟩, ⟨o, ho, hc, hd⟩⟩ := st
    have e' : b = s1.heap.objs.size + 1 ∨ b = s1.heap.objs.size := by simpa using hb
    rcases e' with w | w
    · rw [w]; exact ⟨_, he, fun v q => nomatch q⟩
    · rw [w]; exact ⟨o, ho, fun v q => by rw [hd] at q; cases q⟩
  · obtain ⟨⟨old, he⟩, ⟨o, ho, r⟩⟩ := st
    exact ⟨⟨old, k _ (by simp) _ he⟩, o, k _ (by simp) o ho, r⟩
  · have D := Draws.text (prog := X.prog) (w := X.w) (A := Y.A.in1) (by exact I'.ok.hd hc) s1.heap.objs.size z t
    refine ⟨_, _, _, _, fun b hb => hb, GoesN.enumFrom 0 D (s1.heap.objs.size + 1) hne (by simp) (by simp), st, fun h' st' => st', fun v h' hi hy => ?_⟩
    obtain ⟨T, tk, x, ev, hT, ⟨c, u, hc', rfl⟩, ht⟩ := hy
    rw [Int.zero_add] at ht
    exact ⟨T, .int i, .str ⟨#[c]⟩, _, _, ev, hT, ht, ⟨tk, rfl⟩, ⟨u, rfl⟩, rfl, by rw [hc']; rfl⟩
theorem sgn_at {l : List Nat} {i : Nat} {x : V} {Hb : Hp} (h : ((tx l).cps[i]?).map (fun c => V.str ⟨#[c]⟩) = some x) : ∃ d, (sgn l)[i]? = some d ∧ Dt Hb x d := by
  have e' : (l[i]?).map (fun c => V.str ⟨#[c]⟩) = some x := by simpa using h
  cases hc : l[i]? with
  | none => rw [hc] at e'; cases e'
  | some c =>
    rw [hc] at e'
    cases e'
    refine ⟨.str ⟨#[c]⟩, ?_, .str _⟩
    unfold sgn
    rw [List.getElem?_map, hc]; rfl
theorem enumD_at {ds : List PyData} {i : Nat} {a b : PyData} (h1 : some (PyData.int (i : Nat)) = some a) (h2 : ds[i]? = some b) : (enumD ds)[i]? = some (.tuple [a, b]) := by
  cases h1
  unfold enumD
  rw [List.getElem?_mapIdx, h2]
  all_goals rfl
theorem iw_enumS (hm : X.mg "enumerate" = none) (h : EW X F e ε fun d => ∃ l, d = S l ∧ Q (enumD (sgn l))) (hg : Gl X "enumerate" := by rfl) (hs : starEach [e] X.env = [(false, eval e X.env)] := by rfl) : IW X F (.Tuple elts kk tpos) (.Call (.Name "enumerate" p) [e] [] pos) ε Q := fun hd Hb H σ S0 R' k =>
  pi_run (pi_enumS hg hm pe_sem hs) (h hd Hb H σ S0 _ fun v d Hb' H' S' g r ⟨l, ed, q⟩ => by
    subst ed
    cases r
    refine ⟨tx l, rfl, k _ _ _ _ S' g (itD_pair walk_G (dx := fun i => some (.int (i : Nat))) (dy := fun i => (sgn l)[i]?) ?_ (fun _ _ => trivial) (fun i x hi e => ⟨_, rfl, by cases e; exact .int _⟩) (fun i x hi e => sgn_at e) fun i a b hi e1 e2 => enumD_at e1 e2) q⟩
    unfold enumD sgn; rw [List.length_mapIdx, List.length_map]; rfl)
/-- enumerate(tuple) -/
def iEnumT (K : Frag) (te : TE) : TI := fun σ H R => te σ H fun v H1 => ∃ t xs, v = .ref t ∧ SqT K H1 t xs ∧ R (ItG xs.length (fun H => SqT K H t xs) (fun i => some (.int (i : Nat))) (fun i => xs[i]?)) H1
theorem pi_enumT {te : TE} (hg : Gl X "enumerate") (hm : X.mg "enumerate" = none) (he : PE X e te) (hs : starEach [e] X.env = [(false, eval e X.env)]) :
    PI X (.Tuple elts kk tpos) (.Call (.Name "enumerate" p) [e] [] pos) (iEnumT X.K te) := by
  refine ⟨fun pins s σ H R I h => ?_⟩
  refine PyProof.Rows.Call_ (ld_blt I hg hm PyProof.Rows.boot_enumerate (PyProof.Rows.callWith_type1 (thn (one_arg he hs I h pos) fun us s1 ⟨u, v, H1, eu, ru, I1, t, xs, ez, hq, q⟩ => ?_) hs rfl))
  subst eu ez
  cases ru
  obtain ⟨its, rv, ht, hz⟩ := I1.tuple hq
  have htl : t < s1.heap.objs.size := PyProof.Rows.IsTup.lt ht
  refine enum1 (begins_tuple t its.toArray) ht fun h' he' hit hsz hk => wpAny_pyIter_enum he' ?_
  have I2 : L2.Inv X pins σ H1 { s1 with heap := h' } := I1.kept (t' := s1.toks) hk
  have hne : s1.heap.objs.size + 1 ≠ s1.heap.objs.size := Nat.succ_ne_self _
  refine ⟨s1.heap.objs.size + 1, [s1.heap.objs.size + 1, s1.heap.objs.size], fun i h => (∃ old, IsEnum h (s1.heap.objs.size + 1) s1.heap.objs.size (0 + (i : Int)) old) ∧ h.IsTupleIter s1.heap.objs.size t i, _, H1, rfl, I2, turn_G _ _ _ (by simp) (fun i h st b hb => ?_) (fun i h h' st k => ?_) (fun Y hP hw hK hc i pins' s' σ' H' I' st hG => ?_) (fun A i s Q E st h => let ⟨⟨_, he⟩, _⟩ := st; wpAny_pyIter_enum he h), ⟨⟨.none, by simpa using he'⟩, ⟨_, hit, rfl, rfl⟩⟩, fun b hb => I1.fpOk (enum_fp hb) (I1.hok.fresh (enum_fp hb)), q⟩
  · obtain ⟨⟨old, he⟩, ⟨o, ho, hc, hd⟩⟩ := st
    have e' : b = s1.heap.objs.size + 1 ∨ b = s1.heap.objs.size := by simpa using hb
    rcases e' with w | w
    · rw [w]; exact ⟨_, he, fun v q => nomatch q⟩
    · rw [w]; exact ⟨o, ho, fun v q => by rw [hd] at q; cases q⟩
  · obtain ⟨⟨old, he⟩, ⟨o, ho, r⟩⟩ := st
    exact ⟨⟨old, k _ (by simp) _ he⟩, o, k _ (by simp) o ho, r⟩
  · obtain ⟨its', rv', ht', hz'⟩ := I'.tuple (xs := xs) (a := t) (by rw [hK]; exact hG)
    have D := Draws.tuple (prog := X.prog) (w := X.w) (A := Y.A.in1) (by exact I'.ok.hd hc) s1.heap.objs.size t (Nat.ne_of_lt htl) its'.toArray
    have hn : its'.toArray.size = xs.length := by rw [List.size_toArray, rv'.length]
    rw [hn] at D
    refine ⟨_, _, _, _, fun b hb => hb, GoesN.enumFrom 0 D (s1.heap.objs.size + 1) hne (fun hm => (List.mem_cons.mp hm).elim hne fun hm => absurd (List.mem_singleton.mp hm) (Nat.ne_of_gt (Nat.lt_succ_of_lt htl))) (by simp), ⟨st.1, st.2, ht'⟩, fun h' st' => ⟨st'.1, st'.2.1⟩, fun v h' hi hy => ?_⟩
    obtain ⟨T, tk, x, ev, hT, hx, ht⟩ := hy
    rw [Int.zero_add] at ht
    obtain ⟨u, hu, ru⟩ := rv'.get (List.getElem?_eq_getElem hi)
    have hx' : its'[i]? = some x := by simpa using hx
    rw [hx'] at hu
    cases hu
    exact ⟨T, .int i, xs[i], _, _, ev, hT, ht, ⟨tk, rfl⟩, ru, rfl, List.getElem?_eq_getElem hi⟩
theorem iw_enumT (hm : X.mg "enumerate" = none) (h : EW X F e ε fun d => ∃ ds, d = .tuple ds ∧ Q (enumD ds)) (hg : Gl X "enumerate" := by rfl) (hs : starEach [e] X.env = [(false, eval e X.env)] := by rfl) : IW X F (.Tuple elts kk tpos) (.Call (.Name "enumerate" p) [e] [] pos) ε Q := fun hd Hb H σ S0 R' k =>
  pi_run (pi_enumT hg hm pe_sem hs) (h hd Hb H σ S0 _ fun v d Hb' H' S' g r ⟨ds, ed, q⟩ => by
    subst ed
    obtain ⟨t, xs, rfl, ht, rt⟩ := dt_tup r
    refine ⟨t, xs, rfl, SqT.of (S'.si _ _ ht), k _ _ _ _ S' g (itD_pair walk_G (dx := fun i => some (.int (i : Nat))) (dy := fun i => ds[i]?) ?_ (fun H s => SqT.of (s _ _ ht)) (fun i x hi e => ⟨_, rfl, by cases e; exact .int _⟩) (fun i x hi e => dta_at rt e) fun i a b hi e1 e2 => enumD_at e1 e2) q⟩
    unfold enumD; rw [List.length_mapIdx]; exact (dta_len rt).symm)
/-- zip(text, text) -/
def iZipS (ta tb : TE) : TI := fun σ H R => ta σ H fun v H1 => tb σ H1 fun w H2 => ∃ y z : Str, v = .str y ∧ w = .str z ∧ R (ItG (min y.cps.size z.cps.size) (fun _ => True) (fun i => (y.cps[i]?).map fun c => V.str ⟨#[c]⟩) (fun i => (z.cps[i]?).map fun c => V.str ⟨#[c]⟩)) H2
theorem pi_zipS {ta tb : TE} (hg : Gl X "zip") (hm : X.mg "zip" = none) (ha : PE X a ta) (hb : PE X b tb) (hs : starEach [a, b] X.env = (false, eval a X.env) :: starEach [b] X.env) (hs2 : starEach [b] X.env = (false, eval b X.env) :: starEach [] X.env) (hpl : (backTo pos (starEach [b] X.env)).any (·.1) = false) :
    PI X (.Tuple elts kk tpos) (.Call (.Name "zip" p) [a, b] [] pos) (iZipS ta tb) := by
  refine ⟨fun pins s σ H R I h => ?_⟩
  refine PyProof.Rows.Call_ (ld_blt I hg hm PyProof.Rows.boot_zip (PyProof.Rows.callWith_type1 (thn ((pa_cons (pe_sem (e := a)) (pa_cons (pe_sem (e := b)) pa_nil hs2) hs).run pos pins s σ H (fun vs H2 => ∃ y z : Str, vs = [.str y, .str z] ∧ R (ItG (min y.cps.size z.cps.size) (fun _ => True) (fun i => (y.cps[i]?).map fun c => V.str ⟨#[c]⟩) (fun i => (z.cps[i]?).map fun c => V.str ⟨#[c]⟩)) H2) I ?_) fun us s1 ⟨vs, H1, I1, r1, y, z, ev, q⟩ => ?_) hs hpl))
  · show tSem X a σ H _
    exact ⟨fun pins s I => thn (ha.run pins s σ H _ I h) fun u s1 ⟨v, H1, I1, r, q⟩ => ⟨v, H1, I1, r, ⟨fun pins s I => thn (hb.run pins s σ H1 _ I q) fun u s1 ⟨w, H1, I1, r, y, z, e1, e2, q⟩ => ⟨w, H1, I1, r, y, z, by rw [e1, e2], q⟩⟩⟩⟩
  subst ev
  obtain ⟨u1, u2, rfl, ru1, ru2⟩ := vals2 r1
  obtain ⟨t1, rfl⟩ := ru1
  obtain ⟨t2, rfl⟩ := ru2
  refine zip_begins2 (begins_text y t1) (begins_text z t2) trivial trivial fun h' hz hTI hTO g1 g2 hsz hk => wpAny_pyIter_zip hz ?_
  have I2 : L2.Inv X pins σ H1 { s1 with heap := h' } := I1.kept (t' := s1.toks) hk
  have hfp : ∀ b ∈ [s1.heap.objs.size + 4, s1.heap.objs.size + 2, s1.heap.objs.size + 3, s1.heap.objs.size, s1.heap.objs.size + 1], s1.heap.objs.size ≤ b := fun b hb => by
    have e' : b = s1.heap.objs.size + 4 ∨ b = s1.heap.objs.size + 2 ∨ b = s1.heap.objs.size + 3 ∨ b = s1.heap.objs.size ∨ b = s1.heap.objs.size + 1 := by simpa using hb
    omega
  refine ⟨s1.heap.objs.size + 4, [s1.heap.objs.size + 4, s1.heap.objs.size + 2, s1.heap.objs.size + 3, s1.heap.objs.size, s1.heap.objs.size + 1], fun i h => IsZip h (s1.heap.objs.size + 4) (s1.heap.objs.size + 2) (s1.heap.objs.size + 3) .none ∧ IsTupOf2 h (s1.heap.objs.size + 2) (.ref s1.heap.objs.size) (.ref (s1.heap.objs.size + 1)) ∧ (∃ a1 a2, IsTupOf2 h (s1.heap.objs.size + 3) a1 a2) ∧ h.IsStrIter s1.heap.objs.size (strIterType y) y t1 i ∧ h.IsStrIter (s1.heap.objs.size + 1) (strIterType z) z t2 i, _, H1, rfl, I2, turn_G _ _ _ (by simp) (fun i h st b hb => ?_) (fun i h h' st k => ?_) (fun Y hP hw hK hc i pins' s' σ' H' I' st _ => ?_) (fun A i s Q E st h => wpAny_pyIter_zip st.1 h), ⟨hz, hTI, ⟨_, _, hTO⟩, ⟨_, g1, rfl, rfl⟩, ⟨_, g2, rfl, rfl⟩⟩, fun b hb => I1.fpOk (hfp b hb) (I1.hok.fresh (hfp b hb)), q⟩
  · obtain ⟨h1, h2, ⟨a1, a2, h3⟩, ⟨o4, h4, c4, d4⟩, ⟨o5, h5, c5, d5⟩⟩ := st
    have e' : b = s1.heap.objs.size + 4 ∨ b = s1.heap.objs.size + 2 ∨ b = s1.heap.objs.size + 3 ∨ b = s1.heap.objs.size ∨ b = s1.heap.objs.size + 1 := by simpa using hb
    rcases e' with w | w | w | w | w
    · rw [w]; exact ⟨_, h1, fun v q => nomatch q⟩
    · rw [w]; exact ⟨_, h2, fun v q => nomatch q⟩
    · rw [w]; exact ⟨_, h3, fun v q => nomatch q⟩
    · rw [w]; exact ⟨_, h4, fun v q => by rw [d4] at q; cases q⟩
    · rw [w]; exact ⟨_, h5, fun v q => by rw [d5] at q; cases q⟩
  · obtain ⟨h1, h2, ⟨a1, a2, h3⟩, ⟨o4, h4, r4⟩, ⟨o5, h5, r5⟩⟩ := st
    exact ⟨k _ (by simp) _ h1, k _ (by simp) _ h2, ⟨a1, a2, k _ (by simp) _ h3⟩, ⟨o4, k _ (by simp) _ h4, r4⟩, ⟨o5, k _ (by simp) _ h5, r5⟩⟩
  · have D1 := Draws.text (prog := X.prog) (w := X.w) (A := Y.A.in1) (by exact I'.ok.hd hc) s1.heap.objs.size y t1
    have D2 := Draws.text (prog := X.prog) (w := X.w) (A := Y.A.in1) (by exact I'.ok.hd hc) (s1.heap.objs.size + 1) z t2
    refine ⟨_, _, _, _, ?_, GoesN.zip2 (zip_sep2 (fp1 := []) (fp2 := []) (by simp) (by simp)) D1 D2, st, fun h' st' => st', fun v h' hi hy => ?_⟩
    · intro b hb
      have e' : b = s1.heap.objs.size + 4 ∨ b = s1.heap.objs.size + 3 ∨ b = s1.heap.objs.size ∨ b = s1.heap.objs.size + 1 := by simpa using hb
      rcases e' with w | w | w | w <;> rw [w] <;> simp
    · obtain ⟨T, x1, x2, ev, hT, ⟨c, u, hc', rfl⟩, ⟨c2, u2, hc2, rfl⟩, ht⟩ := hy
      exact ⟨T, .str ⟨#[c]⟩, .str ⟨#[c2]⟩, _, _, ev, hT, ht, ⟨u, rfl⟩, ⟨u2, rfl⟩, by rw [hc']; rfl, by rw [hc2]; rfl⟩
theorem iw_zipS (hm : X.mg "zip" = none) (h : EW X F a ε fun d1 => EW X F b ε fun d2 => ∃ l m, d1 = S l ∧ d2 = S m ∧ Q (List.zipWith (fun a b => PyData.tuple [a, b]) (sgn l) (sgn m))) (hg : Gl X "zip" := by rfl)
    (hs : starEach [a, b] X.env = (false, eval a X.env) :: starEach [b] X.env := by rfl) (hs2 : starEach [b] X.env = (false, eval b X.env) :: starEach [] X.env := by rfl) (hpl : (backTo pos (starEach [b] X.env)).any (·.1) = false := by rfl) : IW X F (.Tuple elts kk tpos) (.Call (.Name "zip" p) [a, b] [] pos) ε Q := fun hd Hb H σ S0 R' k =>
  pi_run (pi_zipS hg hm pe_sem pe_sem hs hs2 hpl) (h hd Hb H σ S0 _ fun v d Hb' H' S' g r k1 => k1 _ _ _ _ S' _ fun v2 d2 Hb2 H2 S2 g2 r2 ⟨l, m, ed, ee, q⟩ => by
    subst ed ee
    cases r
    cases r2
    refine ⟨tx l, tx m, rfl, rfl, k _ _ _ _ S2 (g.transM g2) (itD_pair walk_G (dx := fun i => (sgn l)[i]?) (dy := fun i => (sgn m)[i]?) ?_ (fun _ _ => trivial) (fun i x hi e => sgn_at e) (fun i x hi e => sgn_at e) fun i a b hi e1 e2 => ?_) q⟩
    · rw [List.length_zipWith]; unfold sgn; rw [List.length_map, List.length_map]; rfl
    · rw [List.getElem?_zipWith, e1, e2])
end
end K78
/-! K78: owned things by reference, dicts, attributes; defs: promises, calls, entries. -/
namespace K78
open PySem PySem.Spec L2
/-! ### tables -/
section
variable {κ α : Type} [DecidableEq κ]
def valG (kvs : List (κ × α)) (k : κ) : Option α := (kvs.find? fun kv => decide (kv.1 = k)).map (·.2)
def putG (kvs : List (κ × α)) (k : κ) (v : α) : List (κ × α) := if (kvs.any fun kv => decide (kv.1 = k)) = true then kvs.map (fun kv => if kv.1 = k then (kv.1, v) else kv) else kvs ++ [(k, v)]
theorem valG_nil {k : κ} : valG ([] : List (κ × α)) k = none := rfl
theorem valG_cons (p : κ × α) (r : List (κ × α)) (k : κ) : valG (p :: r) k = if p.1 = k then some p.2 else valG r k := by
  unfold valG
  rw [List.find?_cons]
  by_cases e : p.1 = k
  · rw [decide_eq_true e, if_pos e]; rfl
  · rw [decide_eq_false e, if_neg e]
theorem valG_any (k : κ) : ∀ kvs : List (κ × α), (kvs.any fun kv => decide (kv.1 = k)) = (valG kvs k).isSome
  | [] => rfl
  | p :: r => by
    rw [List.any_cons, valG_cons, valG_any k r]
    by_cases e : p.1 = k
    · rw [decide_eq_true e, if_pos e]; rfl
    · rw [decide_eq_false e, if_neg e]; rfl
theorem valG_map (k j : κ) (y : α) : ∀ kvs : List (κ × α), valG (kvs.map fun kv => if kv.1 = k then (kv.1, y) else kv) j = (valG kvs j).map fun x => if j = k then y else x
  | [] => rfl
  | p :: r => by
    rw [List.map_cons, valG_cons, valG_cons, valG_map k j y r]
    by_cases e : p.1 = k
    · rw [if_pos e]
      by_cases e2 : p.1 = j
      · rw [if_pos e2, if_pos e2]
        show some y = some (if j = k then y else p.2)
        rw [if_pos (e2.symm.trans e)]
      · rw [if_neg e2, if_neg e2]
    · rw [if_neg e]
      by_cases e2 : p.1 = j
      · rw [if_pos e2, if_pos e2]
        show some p.2 = some (if j = k then y else p.2)
        rw [if_neg (fun z => e (e2.trans z))]
      · rw [if_neg e2, if_neg e2]
theorem valG_app (k j : κ) (y : α) : ∀ kvs : List (κ × α), valG (kvs ++ [(k, y)]) j = (valG kvs j).or (if k = j then some y else none)
  | [] => by rw [List.nil_append, valG_cons, valG_nil]; rfl
  | p :: r => by
    rw [List.cons_append, valG_cons, valG_cons, valG_app k j y r]
    by_cases e : p.1 = j
    · rw [if_pos e, if_pos e]; rfl
    · rw [if_neg e, if_neg e]
theorem valG_put (kvs : List (κ × α)) (k j : κ) (y : α) : valG (putG kvs k y) j = if j = k then some y else valG kvs j := by
  unfold putG
  rw [valG_any]
  cases e : valG kvs k with
  | some z =>
    rw [Option.isSome_some, if_pos rfl, valG_map]
    by_cases c : j = k
    · subst c; rw [if_pos rfl, e]; simp
    · rw [if_neg c]; cases valG kvs j with
      | none => rfl
      | some w => simp [c]
  | none =>
    rw [Option.isSome_none, if_neg Bool.false_ne_true, valG_app]
    by_cases c : j = k
    · subst c; rw [e, if_pos rfl]; simp
    · rw [if_neg (fun z => c z.symm), if_neg c]; cases valG kvs j <;> rfl
theorem putG_len (kvs : List (κ × α)) (k : κ) (v : α) : (putG kvs k v).length ≤ kvs.length + 1 := by
  unfold putG; split
  · rw [List.length_map]; exact Nat.le_succ _
  · rw [List.length_append]; exact Nat.le_refl _
theorem putG_keys (kvs : List (κ × α)) (k : κ) (v : α) : (putG kvs k v).map (·.1) = if (valG kvs k).isSome then kvs.map (·.1) else kvs.map (·.1) ++ [k] := by
  unfold putG
  rw [valG_any]
  split
  · rw [List.map_map]
    refine List.map_congr_left fun p _ => ?_
    show (if p.1 = k then (p.1, v) else p).1 = p.1
    split <;> rfl
  · rw [List.map_append]; rfl
theorem valG_some_iff (kvs : List (κ × α)) (k : κ) : (valG kvs k).isSome = true ↔ k ∈ kvs.map (·.1) := by
  rw [← valG_any, List.any_eq_true]
  constructor
  · rintro ⟨p, hp, e⟩; rw [← of_decide_eq_true e]; exact List.mem_map.mpr ⟨p, hp, rfl⟩
  · intro h; obtain ⟨p, hp, rfl⟩ := List.mem_map.mp h; exact ⟨p, hp, decide_eq_true rfl⟩
theorem KvOk.val {Hb : Hp} (k : κ) : ∀ {ws : List (κ × V)} {kvs : List (κ × PyData)}, KvOk Hb ws kvs → (valV ws k = none ∧ valG kvs k = none) ∨ ∃ v d, valV ws k = some v ∧ valG kvs k = some d ∧ Dt Hb v d
  | _, _, .nil => .inl ⟨rfl, rfl⟩
  | _, _, .cons (a := p) (b := q) h r => by
    rw [valG_cons]
    by_cases e : p.1 = k
    · rw [valV_pos e, if_pos (h.1.symm.trans e)]; exact .inr ⟨_, _, rfl, rfl, h.2⟩
    · rw [valV_neg e, if_neg (fun z => e (h.1.trans z))]; exact KvOk.val k r
theorem KvOk.any {Hb : Hp} (k : κ) {ws : List (κ × V)} {kvs : List (κ × PyData)} (r : KvOk Hb ws kvs) : (ws.any fun kv => decide (kv.1 = k)) = (kvs.any fun kv => decide (kv.1 = k)) := by
  rw [valV_any, valG_any]
  rcases r.val k with ⟨a, b⟩ | ⟨v, d, a, b, _⟩ <;> rw [a, b] <;> rfl
theorem KvOk.map {Hb : Hp} (k : κ) {v : V} {d : PyData} (h : Dt Hb v d) : ∀ {ws : List (κ × V)} {kvs : List (κ × PyData)}, KvOk Hb ws kvs → KvOk Hb (ws.map fun kv => if kv.1 = k then (kv.1, v) else kv) (kvs.map fun kv => if kv.1 = k then (kv.1, d) else kv)
  | _, _, .nil => .nil
  | _, _, .cons (a := p) (b := q) h1 r => by
    rw [List.map_cons, List.map_cons]
    refine .cons ?_ (KvOk.map k h r)
    by_cases e : p.1 = k
    · rw [if_pos e, if_pos (h1.1.symm.trans e)]; exact ⟨h1.1, h⟩
    · rw [if_neg e, if_neg (fun z => e (h1.1.trans z))]; exact h1
theorem KvOk.snoc {Hb : Hp} (k : κ) {v : V} {d : PyData} (h : Dt Hb v d) : ∀ {ws : List (κ × V)} {kvs : List (κ × PyData)}, KvOk Hb ws kvs → KvOk Hb (ws ++ [(k, v)]) (kvs ++ [(k, d)])
  | _, _, .nil => .cons ⟨rfl, h⟩ .nil
  | _, _, .cons h1 r => .cons h1 (KvOk.snoc k h r)
theorem KvOk.put {Hb : Hp} {ws : List (κ × V)} {kvs : List (κ × PyData)} (r : KvOk Hb ws kvs) (k : κ) {v : V} {d : PyData} (h : Dt Hb v d) : KvOk Hb (putK ws k v) (putG kvs k d) := by
  unfold putK putG
  rw [r.any k]
  split
  · exact r.map k h
  · exact r.snoc k h
theorem KvOk.len {Hb : Hp} {ws : List (κ × V)} {kvs : List (κ × PyData)} (r : KvOk Hb ws kvs) : ws.length = kvs.length := Paired.length r
end
/-- a field is given something: in its place, or at the end -/
def putFl (f : Str) (x : Fv) : List (Str × Fv) → List (Str × Fv)
  | [] => [(f, x)]
  | (g, y) :: r => if g = f then (g, x) :: r else (g, y) :: putFl f x r
theorem putFl_keys (f : Str) (x : Fv) : ∀ fl : List (Str × Fv), (putFl f x fl).map (·.1) = if f ∈ fl.map (·.1) then fl.map (·.1) else fl.map (·.1) ++ [f]
  | [] => rfl
  | (g, y) :: r => by
    rw [putFl]
    by_cases e : g = f
    · subst e; simp
    · rw [if_neg e, List.map_cons, putFl_keys f x r, List.map_cons]
      by_cases c : f ∈ r.map (·.1)
      · rw [if_pos c, if_pos (List.mem_cons_of_mem _ c)]
      · rw [if_neg c, if_neg (by rw [List.mem_cons, not_or]; exact ⟨fun z => e z.symm, c⟩)]; rfl
theorem putFl_nodup {f : Str} {x : Fv} {fl : List (Str × Fv)} (h : (fl.map (·.1)).Nodup) : ((putFl f x fl).map (·.1)).Nodup := by
  rw [putFl_keys]
  split
  · exact h
  · rename_i c
    rw [List.nodup_append]
    exact ⟨h, by simp, fun a ha b hb => by rw [List.mem_singleton] at hb; subst hb; intro z; subst z; exact c ha⟩
/-! ### references to owned things -/
structure RefAt (F : Fm) (hd : Hid) (Hb H : Hp) (σ : L2.St) (ε : Env) (a : Addr) (x : Fv) (put : Fv → Env) : Prop where
  ob : ∃ o, H a = some o ∧ OwO Hb o x
  nb : Hb a = none
  nj : ¬ F.Jd a
  up : ¬ F.ro → ∀ Hb' H', SI F hd Hb' H' σ ε → Gr F.Jd Hb H Hb' H' → ∀ o' x', OwO Hb' o' x' → SI F hd Hb' (upd H' a o') σ (put x')
def RefW (X : Cx) (F : Fm) (e : Expr) (ε : Env) (x : Fv) (put : Fv → Env) : Prop := ∀ hd Hb H σ, SI F hd Hb H σ ε → ∀ Q' : VK, (∀ a, RefAt F hd Hb H σ ε a x put → Q' (.ref a) H) → tSem X e σ H Q'
section
variable {X : Cx} {F : Fm} {ε : Env} {R : ER} {a b e c o k : Expr} {es : List Expr} {pos p apos cpos pos' : Pos} {put : Fv → Env} {Q : PyData → Prop}
def owned : Fv → Bool
  | .dat _ => false | _ => true
theorem fvOk_ob {Hb H : Hp} {ow : Ow} {pl : Pl} {v : V} {x : Fv} (h : FvOk Hb H ow pl v x) (hx : owned x = true) : ∃ a o, v = .ref a ∧ ow a = some pl ∧ H a = some o ∧ OwO Hb o x := by
  cases x with
  | dat d => cases hx
  | lst ds => obtain ⟨a, vs, e, oa, ha, r⟩ := h; exact ⟨a, _, e, oa, ha, vs, rfl, r⟩
  | dK ds => obtain ⟨a, vs, e, oa, ha, r⟩ := h; exact ⟨a, _, e, oa, ha, vs, rfl, r⟩
  | dT ds => obtain ⟨a, vs, e, oa, ha, r⟩ := h; exact ⟨a, _, e, oa, ha, vs, rfl, r⟩
theorem ref_slot (i : Nat) {n : Str} {x : Fv} (hε : ε[i]? = some (.fv x) := by rfl) (hx : owned x = true := by rfl) (hN : X.N[i]? = some n := by rfl) (hv : Vis X.env.scope n := by first | exact Or.inl rfl | exact Or.inr (Or.inl rfl) | exact Or.inr (Or.inr rfl))
    (hdg : (n == ("__debug__" : Str)) = false := by decide) (hcd : (n == ("__classdict__" : Str)) = false := by decide) (h0 : i ≠ 0 := by decide) : RefW X F (.Name n pos) ε x (fun x' => ε.set i (.fv x')) := fun hd Hb H σ S Q' k => by
  obtain ⟨ow, h1, h2⟩ := S.ow
  obtain ⟨u, eu, f⟩ := h2 i _ hε
  obtain ⟨a, o, rfl, oa, ha, r⟩ := fvOk_ob f hx
  obtain ⟨a1, a2, a3, a4⟩ := h1.c a _ oa
  refine pe_run (pe_var hN hv hdg hcd) ⟨_, getD_of eu, k a ⟨⟨o, ha, r⟩, a1, a3, fun hro Hb' H' S' g o' x' r' => ?_⟩⟩
  obtain ⟨ow', q1, q2⟩ := S'.ow
  obtain ⟨u', eu', f'⟩ := q2 i _ hε
  rw [eu] at eu'
  cases eu'
  obtain ⟨a', o2, ea, oa', ha', r2⟩ := fvOk_ob f' hx
  cases ea
  exact S'.mutate q1 q2 oa' ⟨_, eu, r'.fv oa' upd_same⟩ fun _ => hro
/-- self -/
theorem obj_at {hd : Hid} {Hb H : Hp} {σ : L2.St} {i : Nat} {pp C : Addr} {fl : List (Str × Fv)} (S : SI F hd Hb H σ ε) (hε : ε[i]? = some (.obj pp C fl)) : ∃ ow, OwOk F hd Hb H ow ∧ (∀ i s, ε[i]? = some s → SlOk Hb H ow i (σ.getD i none) s) ∧ ∃ dx fs, σ[i]? = some (some (.ref pp)) ∧ ow pp = some (.sl i none) ∧ H pp = some (.ins C dx fs) ∧ FlOk Hb H ow i fs fl ∧ (fl.map (·.1)).Nodup := by
  obtain ⟨ow, h1, h2⟩ := S.ow
  obtain ⟨dx, fs, e, r⟩ := h2 i _ hε
  exact ⟨ow, h1, h2, dx, fs, getD_of e, r⟩
theorem fl_look {Hb H : Hp} {ow : Ow} {i : Nat} {f : Str} {x : Fv} : ∀ {fs : List (Str × V)} {fl : List (Str × Fv)}, FlOk Hb H ow i fs fl → fl.lookup f = some x → ∃ v, fs.lookup f = some v ∧ FvOk Hb H ow (.sl i (some f)) v x
  | _, _, .nil, h => by cases h
  | (g, v) :: _, (g', y) :: _, .cons h1 r, h => by
    have e : g = g' := h1.1
    subst e
    rw [List.lookup_cons] at h ⊢
    by_cases c : (f == g) = true
    · rw [c] at h ⊢
      have : f = g := eq_of_beq c
      subst this
      cases h
      exact ⟨v, rfl, h1.2⟩
    · rw [Bool.not_eq_true] at c
      rw [c] at h ⊢
      exact fl_look r h
theorem fl_none {Hb H : Hp} {ow : Ow} {i : Nat} {f : Str} : ∀ {fs : List (Str × V)} {fl : List (Str × Fv)}, FlOk Hb H ow i fs fl → fl.lookup f = none → fs.lookup f = none
  | _, _, .nil, h => rfl
  | (g, v) :: _, (g', y) :: _, .cons h1 r, h => by
    have e : g = g' := h1.1
    subst e
    rw [List.lookup_cons] at h ⊢
    by_cases c : (f == g) = true
    · rw [c] at h; cases h
    · rw [Bool.not_eq_true] at c
      rw [c] at h ⊢
      exact fl_none r h
theorem fl_len {Hb H : Hp} {ow : Ow} {i : Nat} {fs : List (Str × V)} {fl : List (Str × Fv)} (h : FlOk Hb H ow i fs fl) : fs.length = fl.length := Paired.length h
/-- an attribute's value is another; fs as it is told by Hb', H', ow' off f -/
theorem fl_put {Hb H Hb' H' : Hp} {ow ow' : Ow} {i : Nat} {f : Str} {v : V} {x : Fv} (hx : FvOk Hb' H' ow' (.sl i (some f)) v x) (mv : ∀ g v y, g ≠ f → FvOk Hb H ow (.sl i (some g)) v y → FvOk Hb' H' ow' (.sl i (some g)) v y) :
    ∀ {fs : List (Str × V)} {fl : List (Str × Fv)}, FlOk Hb H ow i fs fl → (fl.map (·.1)).Nodup → FlOk Hb' H' ow' i (putF f v fs) (putFl f x fl)
  | _, _, .nil, _ => .cons ⟨rfl, hx⟩ .nil
  | (g, w) :: _, (g', y) :: r', .cons h1 r, nd => by
    have e : g = g' := h1.1
    subst e
    rw [List.map_cons, List.nodup_cons] at nd
    show FlOk _ _ _ _ (if g = f then (g, v) :: _ else _) (if g = f then (g, x) :: _ else _)
    by_cases c : g = f
    · rw [if_pos c, if_pos c]
      subst c
      refine .cons ⟨rfl, hx⟩ ?_
      have : ∀ {fs : List (Str × V)} {fl : List (Str × Fv)}, g ∉ fl.map (·.1) → FlOk Hb H ow i fs fl → FlOk Hb' H' ow' i fs fl := by
        intro fs fl hn h
        induction h with
        | nil => exact .nil
        | cons h1 _ ih =>
          rw [List.map_cons, List.mem_cons, not_or] at hn
          exact .cons ⟨h1.1, mv _ _ _ (by rw [h1.1]; exact fun z => hn.1 z.symm) h1.2⟩ (ih hn.2)
      exact this nd.1 r
    · rw [if_neg c, if_neg c]
      exact .cons ⟨rfl, mv _ _ _ c h1.2⟩ (fl_put hx mv r nd.2)
theorem putF_same {f : Str} {v : V} : ∀ {fs : List (Str × V)}, fs.lookup f = some v → putF f v fs = fs
  | (g, w) :: r, h => by
    rw [List.lookup_cons] at h
    show (if g = f then (g, v) :: r else (g, w) :: putF f v r) = _
    by_cases c : g = f
    · subst c; rw [BEq.rfl] at h; cases h; rw [if_pos rfl]
    · rw [if_neg c]
      have : (f == g) = false := beq_false_of_ne fun z => c z.symm
      rw [this] at h
      rw [putF_same h]
theorem gr_stay {Hb H Hb' H' : Hp} {J : Addr → Prop} (g : Gr J Hb H Hb' H') {a : Addr} {o : HO} (nj : ¬ J a) (h : H a = some o) : H' a = some o := g.h a o nj h
/-- self.f, data -/
theorem ew_fld {n f : Str} {pp C : Addr} {fl : List (Str × Fv)} {d : PyData} (q : Q d) (cl : Cls X.K C) (na : NoAttr X.K C f) (hε : ε[0]? = some (.obj pp C fl) := by rfl) (hf : fl.lookup f = some (.dat d) := by rfl) (hN : X.N[0]? = some n := by rfl) (hv : Vis X.env.scope n := by first | exact Or.inl rfl | exact Or.inr (Or.inl rfl) | exact Or.inr (Or.inr rfl))
    (hdg : (n == ("__debug__" : Str)) = false := by decide) (hcd : (n == ("__classdict__" : Str)) = false := by decide) (hb : attributeBase (.Name n apos) f X.env (eval (.Name n apos) X.env) = eval (.Name n apos) X.env := by rfl) : EW X F (.Attribute (.Name n apos) f pos) ε Q := fun hd Hb H σ S Q' k => by
  obtain ⟨ow, h1, h2, dx, fs, eσ, op, hp, hfl, nd⟩ := obj_at S hε
  obtain ⟨v, hv', fv⟩ := fl_look hfl hf
  exact pe_run (pe_fld (pe_var hN hv hdg hcd) hb) ⟨_, eσ, pp, C, dx, fs, v, rfl, hp, cl, na, hv', k v d _ _ S (Gr.refl S.si) fv q⟩
theorem ref_fld {n f : Str} {pp C : Addr} {fl : List (Str × Fv)} {x : Fv} (cl : Cls X.K C) (na : NoAttr X.K C f) (hε : ε[0]? = some (.obj pp C fl) := by rfl) (hf : fl.lookup f = some x := by rfl) (hx : owned x = true := by rfl) (hN : X.N[0]? = some n := by rfl) (hv : Vis X.env.scope n := by first | exact Or.inl rfl | exact Or.inr (Or.inl rfl) | exact Or.inr (Or.inr rfl))
    (hdg : (n == ("__debug__" : Str)) = false := by decide) (hcd : (n == ("__classdict__" : Str)) = false := by decide) (hb : attributeBase (.Name n apos) f X.env (eval (.Name n apos) X.env) = eval (.Name n apos) X.env := by rfl) : RefW X F (.Attribute (.Name n apos) f pos) ε x (fun x' => ε.set 0 (.obj pp C (putFl f x' fl))) := fun hd Hb H σ S Q' k => by
  obtain ⟨ow, h1, h2, dx, fs, eσ, op, hp, hfl, nd⟩ := obj_at S hε
  obtain ⟨v, hv', fv⟩ := fl_look hfl hf
  obtain ⟨a, o, rfl, oa, ha, r⟩ := fvOk_ob fv hx
  obtain ⟨a1, a2, a3, a4⟩ := h1.c a _ oa
  obtain ⟨p1, p2, p3, p4⟩ := h1.c pp _ op
  refine pe_run (pe_fld (pe_var hN hv hdg hcd) hb) ⟨_, eσ, pp, C, dx, fs, _, rfl, hp, cl, na, hv', k a ⟨⟨o, ha, r⟩, a1, a3, fun hro Hb' H' S' g o' x' r' => ?_⟩⟩
  obtain ⟨ow', q1, q2, dx', fs', eσ', op', hp', hfl', nd'⟩ := obj_at S' hε
  rw [gr_stay g p3 hp] at hp'
  cases hp'
  obtain ⟨v2, hv2, fv2⟩ := fl_look hfl' hf
  rw [hv'] at hv2
  cases hv2
  obtain ⟨a', o2, ea, oa', ha', r2⟩ := fvOk_ob fv2 hx
  cases ea
  have npa : pp ≠ a := fun z => by rw [z, oa'] at op'; cases op'
  refine S'.mutate q1 q2 oa' ⟨dx, fs, ?_, op', by rw [upd_ne npa]; exact gr_stay g p3 hp, ?_, putFl_nodup nd⟩ fun _ => hro
  · rw [List.getD_eq_getElem?_getD, eσ]; rfl
  · have z := fl_put (f := f) (v := .ref a) (x := x') (Hb' := Hb') (H' := upd H' a o') (ow' := ow') (r'.fv oa' upd_same) (fun g v y hg h => h.move (Same.refl _) (fun _ q => q) fun b u q w => (upd_ne fun w2 => hg ?_).trans w) hfl' nd'
    · rw [putF_same hv'] at z; exact z
    · rw [w2, oa'] at q; cases q; rfl
/-! ### dicts -/
def keyD : Key → PyData
  | .inl i => .int i
  | .inr s => .str s
theorem keyV {H : Hp} {v : V} {k : Key} (h : Dt H v (keyD k)) : v = kV k := by cases k <;> cases h <;> rfl
theorem keysV {H : Hp} : ∀ {ks : List Key} {vs : List V}, DtAll H vs (ks.map keyD) → vs = ks.map kV
  | [], _, .nil => rfl
  | _ :: _, _, .cons h r => by rw [keyV h, keysV r]; rfl
/-- d[k], there -/
theorem ew_dget {kvs : List (Key × PyData)} (hr : RefW X F a ε (.dK kvs) put) (hu : X.A.units + 1 < cLine) (h : EW X F k ε fun dk => ∃ key d, dk = keyD key ∧ valG kvs key = some d ∧ Q d) (hs : NoSl k := by exact fun _ _ => rfl) : EW X F (.Subscript a k pos) ε Q := fun hd Hb H σ S Q' q => by
  refine pe_run (pe_dget hu pe_sem pe_sem hs) (hr hd Hb H σ S _ fun l ra => h hd Hb H σ S _ fun v d Hb1 H1 S1 g1 r1 ⟨key, d', ed, hd', qd⟩ => ?_)
  subst ed
  obtain ⟨o, hl, ws, rfl, rk⟩ := ra.ob
  rcases rk.val key with ⟨x, y⟩ | ⟨w, d2, x, y, rd⟩
  · rw [y] at hd'; cases hd'
  · rw [y] at hd'
    cases hd'
    refine ⟨l, w, rfl, ?_, q _ _ _ _ S1 g1 (dt_mono g1.b rd) qd⟩
    rw [keyV r1, ← x]
    exact DGet.k (gr_stay g1 ra.nj hl)
/-- k in d -/
theorem dget_any {Hb H : Hp} {l : Addr} {x : Fv} {o : HO} {dk : PyData} {v : V} {b : Bool} (hl : H l = some o) (ho : OwO Hb o x) (r : Dt H v dk) (hx : (∃ kvs key, x = .dK kvs ∧ dk = keyD key ∧ (valG kvs key).isSome = b) ∨ ∃ kvs keys, x = .dT kvs ∧ dk = .tuple (keys.map keyD) ∧ (valG kvs keys).isSome = b) : ∃ u, DGet H l v u ∧ u.isSome = b := by
  rcases hx with ⟨kvs, key, rfl, rfl, hb⟩ | ⟨kvs, keys, rfl, rfl, hb⟩
  · obtain ⟨ws, rfl, rk⟩ := ho
    refine ⟨valV ws key, by rw [keyV r]; exact DGet.k hl, ?_⟩
    rcases rk.val key with ⟨x, y⟩ | ⟨w, d2, x, y, rd⟩ <;> rw [x] <;> rw [y] at hb <;> exact hb
  · obtain ⟨ws, rfl, rk⟩ := ho
    obtain ⟨t, vs, rfl, ht, rt⟩ := dt_tup r
    refine ⟨valV ws keys, DGet.t hl (by rw [ht, keysV rt]), ?_⟩
    rcases rk.val keys with ⟨x, y⟩ | ⟨w, d2, x, y, rd⟩ <;> rw [x] <;> rw [y] at hb <;> exact hb
def HasK (x : Fv) (dk : PyData) (b : Bool) : Prop := (∃ kvs key, x = .dK kvs ∧ dk = keyD key ∧ (valG kvs key).isSome = b) ∨ ∃ kvs keys, x = .dT kvs ∧ dk = .tuple (keys.map keyD) ∧ (valG kvs keys).isSome = b
theorem bw_din {x : Fv} {QB : Bool → Prop} (hr : RefW X F b ε x put) (hu : X.A.units + 1 < cLine) (h : EW X F k ε fun dk => ∃ z, HasK x dk z ∧ QB z) (hm : behindInMarks .In b = false := by rfl) : BW X F (.Compare k [.In] [b] pos) ε QB := fun hd Hb H σ S Q' q => by
  refine pt_run (pt_cmp (pc_din hu pe_sem pe_sem) hm) (h hd Hb H σ S _ fun v d Hb1 H1 S1 g1 r1 ⟨z, hz, qz⟩ => hr hd Hb1 H1 σ S1 _ fun l ra => ?_)
  obtain ⟨o, hl, ho⟩ := ra.ob
  obtain ⟨u, hg, hu'⟩ := dget_any hl ho (dt_mono S1.si r1) hz
  exact ⟨l, u, rfl, hg, _, rfl, by rw [hu']; exact q _ _ _ S1 g1 qz⟩
theorem bw_dnin {x : Fv} {QB : Bool → Prop} (hr : RefW X F b ε x put) (hu : X.A.units + 1 < cLine) (h : EW X F k ε fun dk => ∃ z, HasK x dk z ∧ QB (!z)) (hm : behindInMarks .NotIn b = false := by rfl) : BW X F (.Compare k [.NotIn] [b] pos) ε QB := fun hd Hb H σ S Q' q => by
  refine pt_run (pt_cmp (pc_dnotin hu pe_sem pe_sem) hm) (h hd Hb H σ S _ fun v d Hb1 H1 S1 g1 r1 ⟨z, hz, qz⟩ => hr hd Hb1 H1 σ S1 _ fun l ra => ?_)
  obtain ⟨o, hl, ho⟩ := ra.ob
  obtain ⟨u, hg, hu'⟩ := dget_any hl ho (dt_mono S1.si r1) hz
  exact ⟨l, u, rfl, hg, _, rfl, by rw [hu']; exact q _ _ _ S1 g1 qz⟩
/-- d[k] = v -/
theorem sw_dput {kvs : List (Key × PyData)} (hr : RefW X F a ε (.dK kvs) put) (hu : X.A.units + 1 < cLine) (hz : kvs.length < 16000000) (h : EW X F e ε fun dv => EW X F k ε fun dk => ∃ key, dk = keyD key ∧ R.nx (put (.dK (putG kvs key dv)))) (hs : swapsWith e (some (.Subscript a k pos')) pos.line X.env = pure false := by rfl) (hro : ¬ F.ro := by assumption) :
    SW X F (.Assign [.Subscript a k pos'] e pos) ε R := fun hd Hb H σ S D kk => by
  refine ps_run (ps_dput hu pe_sem pe_sem pe_sem hs) (h hd Hb H σ S _ fun v dv Hb1 H1 S1 g1 r1 z1 => hr hd Hb1 H1 σ S1 _ fun l ra => z1 hd Hb1 H1 σ S1 _ fun y dk Hb2 H2 S2 g2 r2 ⟨key, ed, q⟩ => ?_)
  subst ed
  obtain ⟨o, hl, ws, rfl, rk⟩ := ra.ob
  refine ⟨l, _, rfl, by rw [keyV r2]; exact DPut.k (gr_stay g2 ra.nj hl) (by rw [rk.len]; exact Nat.lt_trans hz (by decide)), kk.nx _ _ _ _ (g1.b.trans g2.b) (ra.up hro _ _ S2 g2 (.dK _) (.dK (putG kvs key dv)) ⟨_, rfl, (rk.mono g2.b).put key (dt_mono g2.b r1)⟩) q⟩
theorem sw_dputT {kvs : List (List Key × PyData)} (hr : RefW X F a ε (.dT kvs) put) (hu : X.A.units + 1 < cLine) (hz : kvs.length < 16000000) (h : EW X F e ε fun dv => EW X F k ε fun dk => ∃ key : List Key, dk = .tuple (key.map keyD) ∧ R.nx (put (.dT (putG kvs key dv)))) (hs : swapsWith e (some (.Subscript a k pos')) pos.line X.env = pure false := by rfl) (hro : ¬ F.ro := by assumption) :
    SW X F (.Assign [.Subscript a k pos'] e pos) ε R := fun hd Hb H σ S D kk => by
  refine ps_run (ps_dput hu pe_sem pe_sem pe_sem hs) (h hd Hb H σ S _ fun v dv Hb1 H1 S1 g1 r1 z1 => hr hd Hb1 H1 σ S1 _ fun l ra => z1 hd Hb1 H1 σ S1 _ fun y dk Hb2 H2 S2 g2 r2 ⟨key, ed, q⟩ => ?_)
  subst ed
  obtain ⟨o, hl, ws, rfl, rk⟩ := ra.ob
  obtain ⟨t, vs, rfl, ht, rt⟩ := dt_tup r2
  refine ⟨l, _, rfl, DPut.t (gr_stay g2 ra.nj hl) (by rw [S2.si _ _ ht, keysV rt]) (by rw [rk.len]; exact Nat.lt_trans hz (by decide)), kk.nx _ _ _ _ (g1.b.trans g2.b) (ra.up hro _ _ S2 g2 (.dT _) (.dT (putG kvs key dv)) ⟨_, rfl, (rk.mono g2.b).put key (dt_mono g2.b r1)⟩) q⟩
/-- len(d), len(xs) of an owned thing -/
theorem ew_lenR {x : Fv} {n : Nat} (hr : RefW X F a ε x put) (hm : X.mg "len" = none) (hx : (∃ ds, x = .lst ds ∧ ds.length = n) ∨ ∃ kvs, x = .dK kvs ∧ kvs.length = n) (q : Q (.int n)) (hg : Gl X "len" := by rfl)
    (he : starEach [a] X.env = (false, eval a X.env) :: starEach [] X.env := by rfl) (hpl : (backTo pos (starEach [] X.env)).any (·.1) = false := by rfl) : EW X F (.Call (.Name "len" p) [a] [] pos) ε Q := fun hd Hb H σ S Q' kq => by
  rcases hx with ⟨ds, rfl, hn⟩ | ⟨kvs, rfl, hn⟩
  · refine pe_run (pe_callB call_len_seq hg hm PySem.boot_len (pa_cons pe_sem pa_nil he) (by decide) (by decide) he hpl) (hr hd Hb H σ S _ fun l ra => ?_)
    obtain ⟨o, hl, vs, rfl, r⟩ := ra.ob
    refine ⟨l, vs, rfl, .inl (SqL.of hl), ?_⟩
    rw [dta_len r, hn]
    exact kq _ _ _ _ S (Gr.refl S.si) (.int _) q
  · refine pe_run (pe_callB call_lenD hg hm PySem.boot_len (pa_cons pe_sem pa_nil he) (by decide) (by decide) he hpl) (hr hd Hb H σ S _ fun l ra => ?_)
    obtain ⟨o, hl, vs, rfl, r⟩ := ra.ob
    refine ⟨l, vs, rfl, hl, ?_⟩
    rw [r.len, hn]
    exact kq _ _ _ _ S (Gr.refl S.si) (.int _) q
end
end K78
/-! K78: more on owned things. -/
namespace K78
open PySem PySem.Spec L2
section
variable {X : Cx} {F : Fm} {ε : Env} {R : ER} {a b e c o k : Expr} {es : List Expr} {pos p apos cpos pos' : Pos} {put : Fv → Env} {Q : PyData → Prop} {hd : Hid} {Hb H Hb' H' : Hp} {σ : L2.St}
/-! ### append by reference -/
theorem sw_appR {ds : List PyData} (hr : RefW X F a ε (.lst ds) put) (hz : ds.length < 16000000) (h : EW X F e ε fun d => R.nx (put (.lst (ds ++ [d]))))
    (hbase : attributeBase a "append" X.env (eval a X.env) = eval a X.env := by rfl)
    (hfew : ((backTo cpos (starEach [e] X.env)).all (fun x => !x.1) && (backToKw cpos (keywordEach [] X.env)).all (fun x => x.1.isSome) && decide (([e] : List Expr).length + ([] : List Keyword).length + (if ([] : List Keyword).isEmpty then 0 else 1) < 30)) = true := by rfl)
    (hline : (apos.endLine == cpos.line) = true := by rfl) (hs : starEach [e] X.env = (false, eval e X.env) :: starEach [] X.env := by rfl) (hplain : (backTo cpos (starEach [] X.env)).any (·.1) = false := by rfl)
    (hsw : swapsWith (.Call (.Attribute a "append" apos) [e] [] cpos) none pos.line X.env = pure false := by rfl) (hro : ¬ F.ro := by assumption) :
    SW X F (.Expr (.Call (.Attribute a "append" apos) [e] [] cpos) pos) ε R := fun hd Hb H σ S D k => by
  refine ps_run (ps_expr (pe_bm PySem.F.plainAttrs_list PySem.F.slot_list_append PySem.F.type_list_append mt_append pe_sem (pa_cons pe_sem pa_nil hs) hbase hfew hline hs hplain) hsw) (hr hd Hb H σ S _ fun l ra => ?_)
  obtain ⟨o, hl, vs, rfl, r⟩ := ra.ob
  refine ⟨.inl ⟨rfl, _, SqL.of hl⟩, h hd Hb H σ S _ fun v d Hb' H' S' g rd q => ?_⟩
  refine ⟨l, vs, v, rfl, rfl, gr_stay g ra.nj hl, ?_, k.nx _ _ _ _ g.b (ra.up hro _ _ S' g (.lst _) (.lst (ds ++ [d])) ⟨_, rfl, dta_snoc (dta_mono g.b r) rd⟩) q⟩
  rw [dta_len r]
  exact Nat.lt_trans hz (by decide)
/-! ### new owned things -/
def NW (X : Cx) (F : Fm) (e : Expr) (ε : Env) (Q : Fv → Prop) : Prop := ∀ hd Hb H σ, SI F hd Hb H σ ε → ∀ Q' : VK, (∀ a o x Hb' H', SI F hd Hb' H' σ ε → Gr F.Jd Hb H Hb' H' → H' a = none → OwO Hb' o x → Q x → Q' (.ref a) (upd H' a o)) → tSem X e σ H Q'
variable {QF : Fv → Prop}
theorem nw_lst (h : AW X F es ε fun ds => QF (.lst ds)) (hl : es.length ≤ 1000 := by decide) : NW X F (.List es pos) ε QF := fun hd Hb H σ S Q' k =>
  pe_run (pe_lst pa_sem) (h hd Hb H σ S _ fun vs ds Hb1 H1 S1 g1 r1 l1 k1 => ⟨by rw [dta_len r1, l1]; exact Nat.le_of_lt (small1000 hl), fun p hp => k p (.lst vs) (.lst ds) _ _ S1 g1 hp ⟨vs, rfl, r1⟩ k1⟩)
theorem nw_dK (h : QF (.dK [])) : NW X F (.Dict [] [] pos) ε QF := fun hd Hb H σ S Q' k => pe_run pe_dnewK fun p hp => k p (.dK []) (.dK []) _ _ S (Gr.refl S.si) hp ⟨[], rfl, .nil⟩ h
theorem nw_dT (h : QF (.dT [])) : NW X F (.Dict [] [] pos) ε QF := fun hd Hb H σ S Q' k => pe_run pe_dnewT fun p hp => k p (.dT []) (.dT []) _ _ S (Gr.refl S.si) hp ⟨[], rfl, .nil⟩ h
theorem upd_comm {H : Hp} {p t : Addr} {o o1 o2 : HO} (h : t ≠ p) : upd (upd (upd H p o1) t o) p o2 = upd (upd H t o) p o2 := by
  funext x
  by_cases c : x = p
  · subst c; rw [upd_same, upd_same]
  · rw [upd_ne c, upd_ne c]
    by_cases c2 : x = t
    · subst c2; rw [upd_same, upd_same]
    · rw [upd_ne c2, upd_ne c2, upd_ne c]
theorem upd_twice {H : Hp} {p : Addr} {o1 o2 : HO} : upd (upd H p o1) p o2 = upd H p o2 := by
  funext x
  by_cases c : x = p
  · subst c; rw [upd_same, upd_same]
  · rw [upd_ne c, upd_ne c, upd_ne c]
/-- {k: v}, both written -/
theorem nw_disp1 {tk tv : TE} {kk : Key} {d : PyData} {ke ve : Expr} (hk : PE X ke tk) (hv : PE X ve tv) (rk : ∀ σ H (Q : VK), Q (kV kk) H → tk σ H Q)
    (rv : ∀ (Hb H : Hp) p o σ (Q : VK), Same Hb H → H p = none → (∀ v Hb' H', Gr0 Hb H Hb' H' → Dt Hb' v d → H' p = none → (∀ o2, upd (upd H' p o) p o2 = upd H' p o2) → Q v (upd H' p o)) → tv σ (upd H p o) Q) (h : QF (.dK [(kk, d)])) : NW X F (.Dict [some ke] [ve] pos) ε QF := fun hd Hb H σ S Q' k => by
  refine pe_run (pe_disp (pps_cons hk hv pps_nil) rfl rfl (by simp) (Nat.le_add_left 1 14)) fun p hp => ?_
  refine rk _ _ _ (rv Hb H p (.dK []) σ _ S.si hp fun v Hb' H' g r hp' e => ⟨upd_same, [(kk, v)], rfl, Nat.le_add_left 1 14, ?_⟩)
  rw [e]
  exact k p (.dK [(kk, v)]) (.dK [(kk, d)]) _ _ (S.grow g) g.up hp' ⟨_, rfl, .cons ⟨rfl, r⟩ .nil⟩ h
theorem disp_tup {is : List Int} {t : TA} (rt : ∀ σ H (Q : List V → Hp → Prop), Q (is.map .int) H → t σ H Q) (hl : is.length ≤ 1000) (Hb H : Hp) (p : Addr) (o : HO) (σ : L2.St) (Q : VK) (s : Same Hb H) (hp : H p = none)
    (k : ∀ v Hb' H', Gr0 Hb H Hb' H' → Dt Hb' v (.tuple (is.map .int)) → H' p = none → (∀ o2, upd (upd H' p o) p o2 = upd H' p o2) → Q v (upd H' p o)) : tTup t σ (upd H p o) Q := by
  refine rt _ _ _ ⟨by rw [List.length_map]; exact Nat.le_of_lt (small1000 hl), fun q hq => ?_⟩
  have ne : q ≠ p := fun z => by rw [z, upd_same] at hq; cases hq
  have hq' : H q = none := by rw [upd_ne ne] at hq; exact hq
  have e : upd (upd H p o) q (.tup (is.map .int)) = upd (upd H q (.tup (is.map .int))) p o := by
    funext x
    by_cases c : x = p
    · subst c; rw [upd_same, upd_ne (Ne.symm ne), upd_same]
    · rw [upd_ne c]
      by_cases c2 : x = q
      · subst c2; rw [upd_same, upd_same]
      · rw [upd_ne c2, upd_ne c2, upd_ne c]
  rw [e]
  exact k _ (upd Hb q (.tup (is.map .int))) _ (Gr.new s hq') (.tup upd_same (dtAll_of_ints is)) (by rw [upd_ne (Ne.symm ne)]; exact hp) fun _ => upd_twice
theorem disp_lst0 {pos : Pos} (Hb H : Hp) (p : Addr) (o : HO) (σ : L2.St) (Q : VK) (s : Same Hb H) (hp : H p = none)
    (k : ∀ v Hb' H', Gr0 Hb H Hb' H' → Dt Hb' v (.list []) → H' p = none → (∀ o2, upd (upd H' p o) p o2 = upd H' p o2) → Q v (upd H' p o)) : tLst tNil σ (upd H p o) Q := by
  refine ⟨by show 0 ≤ sizeLine; exact Nat.zero_le _, fun q hq => ?_⟩
  have ne : q ≠ p := fun z => by rw [z, upd_same] at hq; cases hq
  have hq' : H q = none := by rw [upd_ne ne] at hq; exact hq
  have e : upd (upd H p o) q (.lst []) = upd (upd H q (.lst [])) p o := by
    funext x
    by_cases c : x = p
    · subst c; rw [upd_same, upd_ne (Ne.symm ne), upd_same]
    · rw [upd_ne c]
      by_cases c2 : x = q
      · subst c2; rw [upd_same, upd_same]
      · rw [upd_ne c2, upd_ne c2, upd_ne c]
  rw [e]
  exact k _ (upd Hb q (.lst [])) _ (Gr.new s hq') (.lst upd_same .nil) (by rw [upd_ne (Ne.symm ne)]; exact hp) fun _ => upd_twice
theorem disp_bl {bv : Bool} (Hb H : Hp) (p : Addr) (o : HO) (σ : L2.St) (Q : VK) (s : Same Hb H) (hp : H p = none)
    (k : ∀ v Hb' H', Gr0 Hb H Hb' H' → Dt Hb' v (.bool bv) → H' p = none → (∀ o2, upd (upd H' p o) p o2 = upd H' p o2) → Q v (upd H' p o)) : tC (.bl bv) σ (upd H p o) Q :=
  k _ Hb H (Gr.refl s) (.bl bv) hp fun _ => upd_twice
/-- {0: (0, 0)} -/
theorem nw_disp00 {k0 k1 k2 x1 : Nat} {p0 p1 p2 p3 : Pos} (h : QF (.dK [(.inl 0, .tuple [.int 0, .int 0])])) : NW X F (.Dict [some (.Constant (.int 0) k0 p0)] [.Tuple [.Constant (.int 0) k1 p1, .Constant (.int 0) k2 p2] x1 p3] pos) ε QF :=
  nw_disp1 (kk := .inl 0) (d := .tuple [.int 0, .int 0]) pe_int (pe_tup (pa_cons pe_int (pa_cons pe_int pa_nil))) (fun σ H Q h => h) (fun Hb H p o σ Q s hp k => disp_tup (is := [0, 0]) (fun σ H Q h => h) (by decide) Hb H p o σ Q s hp k) h
/-- {'': []}, {'': True} -/
theorem nw_dispSL {k0 : Nat} {p0 p1 : Pos} {x : Str} (h : QF (.dK [(.inr x, .list [])])) : NW X F (.Dict [some (.Constant (.str x) k0 p0)] [.List [] p1] pos) ε QF :=
  nw_disp1 (kk := .inr x) (d := .list []) pe_str (pe_lst pa_nil) (fun σ H Q h => h) (fun Hb H p o σ Q s hp k => disp_lst0 (pos := p1) Hb H p o σ Q s hp k) h
theorem nw_dispSB {k0 k1 : Nat} {p0 p1 : Pos} {x : Str} {bv : Bool} (h : QF (.dK [(.inr x, .bool bv)])) : NW X F (.Dict [some (.Constant (.str x) k0 p0)] [.Constant (.bool bv) k1 p1] pos) ε QF :=
  nw_disp1 (kk := .inr x) (d := .bool bv) pe_str pe_bl (fun σ H Q h => h) (fun Hb H p o σ Q s hp k => disp_bl Hb H p o σ Q s hp k) h
/-- name = new thing -/
theorem sw_setN (i : Nat) {x : Str} (h : NW X F e ε fun f => R.nx (ε.set i (.fv f))) (hN : X.N.Nodup := by first | assumption | decide +kernel) (hi : X.N[i]? = some x := by rfl) (hx : Loc X.env.scope x := by first | exact .inl rfl | exact .inr rfl) (hs : swapsWith e (some (.Name x pos')) pos.line X.env = pure false := by rfl)
    (hf : X.fn x = true ∨ X.env.scope.names.lookup x = some .local := by first | exact .inl rfl | exact .inr rfl) : SW X F (.Assign [.Name x pos'] e pos) ε R := fun hd Hb H σ S D k =>
  ps_run (ps_set hN hi hx pe_sem hs hf) (h hd Hb H σ S _ fun a o f Hb' H' S' g ha ho q => k.nx _ _ _ _ g.b (S'.setNew ha ho) q)
/-! ### attributes given -/
theorem fvOk_nb {Hb H : Hp} {ow : Ow} {pl : Pl} {v : V} {x : Fv} : True := trivial
/-- self.f is given data -/
theorem SI.fldDat {pp C : Addr} {fl : List (Str × Fv)} {f : Str} {v : V} {d : PyData} (S : SI F hd Hb H σ ε) (hε : ε[0]? = some (.obj pp C fl)) (r : Dt Hb v d) (hro : ¬ F.ro) : ∃ dx fs, H pp = some (.ins C dx fs) ∧ fs.length = fl.length ∧ SI F hd Hb (upd H pp (.ins C dx (putF f v fs))) σ (ε.set 0 (.obj pp C (putFl f (.dat d) fl))) := by
  obtain ⟨ow, h1, h2, dx, fs, eσ, op, hp, hfl, nd⟩ := obj_at S hε
  refine ⟨dx, fs, hp, fl_len hfl, S.mutate h1 h2 op ⟨dx, putF f v fs, ?_, op, upd_same, ?_, putFl_nodup nd⟩ fun _ => hro⟩
  · rw [List.getD_eq_getElem?_getD, eσ]; rfl
  · exact fl_put (show FvOk Hb _ ow _ v (.dat d) from r) (fun g v y hg h => h.move (Same.refl _) (fun _ q => q) fun b u q w => (upd_ne fun w2 => by rw [w2, op] at q; cases q).trans w) hfl nd
/-- self.f is given a new thing -/
theorem SI.fldNew {pp C : Addr} {fl : List (Str × Fv)} {f : Str} {a : Addr} {o : HO} {x : Fv} (S : SI F hd Hb H σ ε) (hε : ε[0]? = some (.obj pp C fl)) (ha : H a = none) (ho : OwO Hb o x) (hro : ¬ F.ro) : ∃ dx fs, upd H a o pp = some (.ins C dx fs) ∧ fs.length = fl.length ∧ SI F hd Hb (upd (upd H a o) pp (.ins C dx (putF f (.ref a) fs))) σ (ε.set 0 (.obj pp C (putFl f x fl))) := by
  have S1 : SI F hd Hb (upd H a o) σ ε := S.grow (Gr.tmp S.si ha)
  obtain ⟨ow, h1, h2, dx, fs, eσ, op, hp, hfl, nd⟩ := obj_at S hε
  obtain ⟨n1, n2⟩ := h1.new S ha o (.sl 0 (some f))
  have npa : pp ≠ a := fun z => by rw [z] at hp; rw [hp] at ha; cases ha
  obtain ⟨op', _⟩ := n2 pp _ op
  have h2' : ∀ i s, ε[i]? = some s → SlOk Hb (upd H a o) (fun b => if b = a then some (.sl 0 (some f)) else ow b) i (σ.getD i none) s := fun i s e => (h2 i s e).move (Same.refl _) (fun b x q => (n2 b _ q).1) fun b u x q z => (n2 b _ q).2 u z
  refine ⟨dx, fs, by rw [upd_ne npa]; exact hp, fl_len hfl, S1.mutate n1 h2' op' ⟨dx, putF f (.ref a) fs, ?_, op', upd_same, ?_, putFl_nodup nd⟩ fun _ => hro⟩
  · rw [List.getD_eq_getElem?_getD, eσ]; rfl
  · refine fl_put ?_ (fun g v y hg h => ?_) hfl nd
    · exact ho.fv (if_pos rfl) (by rw [upd_ne (Ne.symm npa), upd_same])
    · refine h.move (Same.refl _) (fun b q => (n2 b _ q).1) fun b u q w => ?_
      rw [upd_ne (fun w2 => by rw [w2, op] at q; cases q)]
      exact (n2 b _ q).2 u w
theorem sw_fldD {n f : Str} {pp C : Addr} {fl : List (Str × Fv)} (h : EW X F e ε fun d => R.nx (ε.set 0 (.obj pp C (putFl f (.dat d) fl)))) (cl : Cls X.K C) (na : NoAttr X.K C f) (hε : ε[0]? = some (.obj pp C fl) := by rfl) (hz : Nat.blt fl.length 1000 = true := by rfl) (hN : X.N[0]? = some n := by rfl) (hv : Vis X.env.scope n := by first | exact Or.inl rfl | exact Or.inr (Or.inl rfl) | exact Or.inr (Or.inr rfl))
    (hdg : (n == ("__debug__" : Str)) = false := by decide) (hcd : (n == ("__classdict__" : Str)) = false := by decide) (hs : swapsWith e (some (.Attribute (.Name n apos) f pos')) pos.line X.env = pure false := by rfl) (hro : ¬ F.ro := by assumption) : SW X F (.Assign [.Attribute (.Name n apos) f pos'] e pos) ε R := fun hd Hb H σ S D k => by
  refine ps_run (ps_fld (pe_var hN hv hdg hcd) pe_sem hs) (h hd Hb H σ S _ fun v d Hb' H' S' g r q => ?_)
  obtain ⟨ow, h1, h2, dx, fs, eσ, op, hp, hfl, nd⟩ := obj_at S' hε
  obtain ⟨dx', fs', hp', hl, S2⟩ := S'.fldDat (f := f) hε r hro
  rw [hp] at hp'
  cases hp'
  exact ⟨_, eσ, pp, C, dx, fs, rfl, hp, cl, na, by rw [hl]; exact Nat.le_of_ble_eq_true hz, k.nx _ _ _ _ g.b S2 q⟩
theorem sw_fldN {n f : Str} {pp C : Addr} {fl : List (Str × Fv)} (h : NW X F e ε fun x => R.nx (ε.set 0 (.obj pp C (putFl f x fl)))) (cl : Cls X.K C) (na : NoAttr X.K C f) (hε : ε[0]? = some (.obj pp C fl) := by rfl) (hz : Nat.blt fl.length 1000 = true := by rfl) (hN : X.N[0]? = some n := by rfl) (hv : Vis X.env.scope n := by first | exact Or.inl rfl | exact Or.inr (Or.inl rfl) | exact Or.inr (Or.inr rfl))
    (hdg : (n == ("__debug__" : Str)) = false := by decide) (hcd : (n == ("__classdict__" : Str)) = false := by decide) (hs : swapsWith e (some (.Attribute (.Name n apos) f pos')) pos.line X.env = pure false := by rfl) (hro : ¬ F.ro := by assumption) : SW X F (.Assign [.Attribute (.Name n apos) f pos'] e pos) ε R := fun hd Hb H σ S D k => by
  refine ps_run (ps_fld (pe_var hN hv hdg hcd) pe_sem hs) (h hd Hb H σ S _ fun a o x Hb' H' S' g ha ho q => ?_)
  obtain ⟨ow, h1, h2, dx, fs, eσ, op, hp, hfl, nd⟩ := obj_at S' hε
  obtain ⟨dx', fs', hp', hl, S2⟩ := S'.fldNew (f := f) hε ha ho hro
  exact ⟨_, eσ, pp, C, dx', fs', rfl, hp', cl, na, by rw [hl]; exact Nat.le_of_ble_eq_true hz, k.nx _ _ _ _ g.b S2 q⟩
/-- self.f op= e, data -/
theorem sw_fldA {n f : Str} {op : Operator} {pp C : Addr} {fl : List (Str × Fv)} {d1 : PyData} (cl : Cls X.K C) (na : NoAttr X.K C f) (h : EW X F e ε fun d2 => OpW X (inplaceOp op) d1 d2 fun d => R.nx (ε.set 0 (.obj pp C (putFl f (.dat d) fl)))) (hε : ε[0]? = some (.obj pp C fl) := by rfl) (hf : fl.lookup f = some (.dat d1) := by rfl) (hz : Nat.blt fl.length 1000 = true := by rfl) (hN : X.N[0]? = some n := by rfl) (hv : Vis X.env.scope n := by first | exact Or.inl rfl | exact Or.inr (Or.inl rfl) | exact Or.inr (Or.inr rfl))
    (hdg : (n == ("__debug__" : Str)) = false := by decide) (hcd : (n == ("__classdict__" : Str)) = false := by decide) (hro : ¬ F.ro := by assumption) : SW X F (.AugAssign (.Attribute (.Name n apos) f pos') op e pos) ε R := fun hd Hb H σ S D k => by
  obtain ⟨ow, h1, h2, dx, fs, eσ, opn, hp, hfl, nd⟩ := obj_at S hε
  obtain ⟨v, hv', fv⟩ := fl_look hfl hf
  refine ps_run (ps_fldaug (rd := rSem X (inplaceOp op)) (pe_var hN hv hdg hcd) pe_sem fun pins s σ H x y u v Q I rx ry q => q pins s σ u v I rx ry) ⟨_, eσ, pp, C, dx, fs, v, rfl, hp, cl, na, hv', h hd Hb H σ S _ fun v2 d2 Hb2 H2 S2 g2 r2 k2 => fun pins s σ' u w I ru rw => ?_⟩
  obtain ⟨r, ho, hr⟩ := k2 Hb2 H2 v v2 S2.si (dt_mono g2.b fv) r2 (fun z H3 => ∃ dx' fs', H3 pp = some (.ins C dx' fs') ∧ fs'.length < 1000 ∧ D.nx σ (upd H3 pp (.ins C dx' (putF f z fs')))) fun z d Hb' H' g rd qd => by
    obtain ⟨dx', fs', hp', hl, S3⟩ := (S2.grow g).fldDat (f := f) hε rd hro
    exact ⟨dx', fs', hp', by rw [hl]; exact Nat.le_of_ble_eq_true hz, k.nx _ _ _ _ (g2.b.trans g.b) S3 qd⟩
  exact ho pins s σ' H2 v v2 u w _ I ru rw hr
end
end K78
/-! K78: pairs of stores, lists that are read while owned, frozen attributes. -/
namespace K78
open PySem PySem.Spec L2
section
variable {X : Cx} {F : Fm} {ε : Env} {R : ER} {a b e c o k : Expr} {es : List Expr} {pos p apos cpos pos' : Pos} {put : Fv → Env} {Q : PyData → Prop} {hd : Hid} {Hb H Hb' H' : Hp} {σ : L2.St}
/-! ### two names at once -/
/-- a value is either data or a thing nobody owns yet, kept among the hidden ones -/
def PW2 (X : Cx) (F : Fm) (a b : Expr) (ε : Env) (Q : Fv → Fv → Prop) : Prop := ∀ hd Hb H σ, SI F hd Hb H σ ε → ∀ Q' : List V → Hp → Prop,
  (∀ v w Hb' H' x y, Same Hb Hb' → (∀ i j, i ≠ j → SI F hd Hb' H' ((σ.set i (some v)).set j (some w)) ((ε.set i (.fv x)).set j (.fv y))) → Q x y → Q' [v, w] H') → tSemA X [a, b] σ H Q'
/-- a hidden list goes into a slot -/
theorem SI.toSlot {ad : Addr} {ds : List PyData} (S : SI F (hd ++ [(ad, ds)]) Hb H σ ε) (i : Nat) : SI F hd Hb H (σ.set i (some (.ref ad))) (ε.set i (.lst ds)) := by
  obtain ⟨ow, h1, h2⟩ := S.ow
  have e0 : (hd ++ [(ad, ds)])[hd.length]? = some (ad, ds) := by rw [List.getElem?_append_right (Nat.le_refl _), Nat.sub_self]; rfl
  obtain ⟨b, vs, eb, oa, ha, r⟩ := h1.h _ _ _ e0
  cases eb
  obtain ⟨a1, a2, a3, a4⟩ := h1.c ad _ oa
  have a5 : F.H0 ad = none := a2.elim (fun z => by obtain ⟨⟨x, e⟩, _⟩ := z; cases e) fun z => z
  have ne : ∀ b q, ow b = some q → q ≠ .hid hd.length → b ≠ ad := fun b q e z w => by rw [w, oa] at e; exact z (Option.some.inj e).symm
  have up : ∀ b q, ow b = some q → q ≠ .hid hd.length → (fun b => if b = ad then some (Pl.sl i none) else ow b) b = some q := fun b q e z => (if_neg (ne b q e z)).trans e
  refine ⟨S.gr, S.j, by rw [List.length_set, List.length_set]; exact S.len, fun b => if b = ad then some (.sl i none) else ow b, ⟨fun b pl e => ?_, fun k b es e => ?_⟩, fun j t e => ?_⟩
  · by_cases c : b = ad
    · subst c; exact ⟨a1, .inr a5, a3, a4⟩
    · exact h1.c b pl (by simpa only [if_neg c] using e)
  · have c : k < hd.length := (List.getElem?_eq_some_iff.mp e).1
    refine (h1.h k b es (by rw [List.getElem?_append_left c]; exact e)).move (Same.refl _) (fun b q => up b _ q ?_) fun b u q z => z
    intro z; cases z; exact absurd c (Nat.lt_irrefl _)
  · rcases set_at e with ⟨rfl, rfl, l⟩ | ⟨c, e⟩
    · rw [getD_set_eq (by rw [S.len]; exact l)]
      exact ⟨_, rfl, ad, vs, rfl, if_pos rfl, ha, r⟩
    · rw [getD_set_ne c]
      exact (h2 j t e).move (Same.refl _) (fun b x q => up b _ q (by intro z; cases z)) fun b u x q z => z
theorem sem_two {Q' : List V → Hp → Prop} (h : tSem X a σ H fun v H1 => tSem X b σ H1 fun w H2 => Q' [v, w] H2) (hs : starEach [a, b] X.env = (false, eval a X.env) :: starEach [b] X.env) (hs2 : starEach [b] X.env = (false, eval b X.env) :: starEach [] X.env) : tSemA X [a, b] σ H Q' :=
  pa_run (pa_cons pe_sem (pa_cons pe_sem pa_nil hs2) hs) h
variable {QP : Fv → Fv → Prop}
theorem pw_dd (h : EW X F a ε fun d1 => EW X F b ε fun d2 => QP (.dat d1) (.dat d2)) (hs : starEach [a, b] X.env = (false, eval a X.env) :: starEach [b] X.env := by rfl) (hs2 : starEach [b] X.env = (false, eval b X.env) :: starEach [] X.env := by rfl) : PW2 X F a b ε QP := fun hd Hb H σ S Q' k =>
  sem_two (h hd Hb H σ S _ fun v d1 Hb1 H1 S1 g1 r1 k1 => k1 hd Hb1 H1 σ S1 _ fun w d2 Hb2 H2 S2 g2 r2 q => k v w Hb2 H2 _ _ (g1.b.trans g2.b) (fun i j _ => (S2.setDat (dt_mono g2.b r1)).setDat r2) q) hs hs2
theorem pw_dn (h : EW X F a ε fun d1 => NW X F b ε fun y => QP (.dat d1) y) (hs : starEach [a, b] X.env = (false, eval a X.env) :: starEach [b] X.env := by rfl) (hs2 : starEach [b] X.env = (false, eval b X.env) :: starEach [] X.env := by rfl) : PW2 X F a b ε QP := fun hd Hb H σ S Q' k =>
  sem_two (h hd Hb H σ S _ fun v d1 Hb1 H1 S1 g1 r1 k1 => k1 hd Hb1 H1 σ S1 _ fun w o y Hb2 H2 S2 g2 hw ho q => k v (.ref w) Hb2 _ _ _ (g1.b.trans g2.b) (fun i j _ => (S2.setDat (dt_mono g2.b r1)).setNew hw ho) q) hs hs2
theorem hide_new {ad : Addr} {ds : List PyData} {vs : List V} (S : SI F hd Hb H σ ε) (ha : H ad = none) (r : DtAll Hb vs ds) : SI F (hd ++ [(ad, ds)]) Hb (upd H ad (.lst vs)) σ ε := by
  obtain ⟨vs', _, _, _, _, _, up⟩ := (S.hide ha).hidden
  have z := up vs ds r
  rw [upd_twice] at z
  exact z
/-- a new list of written signs, then data -/
theorem pw_ld {es : List Expr} (h : AW X F es ε fun ds => EW X F b ε fun d2 => QP (.lst ds) (.dat d2)) (hl : es.length ≤ 1000 := by decide) (hs : starEach [.List es p, b] X.env = (false, eval (.List es p) X.env) :: starEach [b] X.env := by rfl) (hs2 : starEach [b] X.env = (false, eval b X.env) :: starEach [] X.env := by rfl) : PW2 X F (.List es p) b ε QP := fun hd Hb H σ S Q' k =>
  sem_two (pe_run (pe_lst pa_sem) (h hd Hb H σ S _ fun vs ds Hb1 H1 S1 g1 r1 l1 k1 => ⟨by rw [dta_len r1, l1]; exact Nat.le_of_lt (small1000 hl), fun q hq => k1 _ _ _ _ (hide_new S1 hq r1) _ fun w d2 Hb2 H2 S2 g2 r2 z => k (.ref q) w Hb2 H2 _ _ (g1.b.trans g2.b) (fun i j _ => (S2.toSlot i).setDat r2) z⟩)) hs hs2
theorem pw_ln {es : List Expr} (h : AW X F es ε fun ds => NW X F b ε fun y => QP (.lst ds) y) (hl : es.length ≤ 1000 := by decide) (hs : starEach [.List es p, b] X.env = (false, eval (.List es p) X.env) :: starEach [b] X.env := by rfl) (hs2 : starEach [b] X.env = (false, eval b X.env) :: starEach [] X.env := by rfl) : PW2 X F (.List es p) b ε QP := fun hd Hb H σ S Q' k =>
  sem_two (pe_run (pe_lst pa_sem) (h hd Hb H σ S _ fun vs ds Hb1 H1 S1 g1 r1 l1 k1 => ⟨by rw [dta_len r1, l1]; exact Nat.le_of_lt (small1000 hl), fun q hq => k1 _ _ _ _ (hide_new S1 hq r1) _ fun w o y Hb2 H2 S2 g2 hw ho z => k (.ref q) (.ref w) Hb2 _ _ _ (g1.b.trans g2.b) (fun i j _ => (S2.toSlot i).setNew hw ho) z⟩)) hs hs2
theorem sw_par (i j : Nat) {x y : Str} {px py pt pt2 : Pos} {kt k2 : Nat} (h : PW2 X F a b ε fun x y => R.nx ((ε.set i (.fv x)).set j (.fv y))) (hij : i ≠ j := by decide) (hc : X.calm = true := by rfl) (hN : X.N.Nodup := by first | assumption | decide +kernel) (hi : X.N[i]? = some x := by rfl) (hj : X.N[j]? = some y := by rfl)
    (hx : X.env.scope.names.lookup x = some .local := by rfl) (hy : X.env.scope.names.lookup y = some .local := by rfl) (hw : swappedStores [.Tuple [.Name x px, .Name y py] kt pt] (.Tuple [a, b] k2 pt2) X.env = pure (some [x, y]) := by rfl)
    (hs : swapsWithSole [.Tuple [.Name x px, .Name y py] kt pt] (.Tuple [a, b] k2 pt2) pos.line X.env = pure false := by rfl) : SW X F (.Assign [.Tuple [.Name x px, .Name y py] kt pt] (.Tuple [a, b] k2 pt2) pos) ε R := fun hd Hb H σ S D k =>
  ps_run (ps_par hc hN hi hj hij hx hy pa_sem hw hs) (h hd Hb H σ S _ fun v w Hb' H' x y sm up q => ⟨v, w, rfl, k.nx _ _ _ _ sm (up i j hij) q⟩)
/-! ### an attribute's list becomes data -/
def IsInit (F : Fm) (pp : Addr) : Prop := ∀ a, F.M a → a = pp
theorem SI.freezeF {pp C : Addr} {fl : List (Str × Fv)} {f : Str} {ds : List PyData} (S : SI F hd Hb H σ ε) (hI : IsInit F pp) (hε : ε[0]? = some (.obj pp C fl)) (hf : fl.lookup f = some (.lst ds)) (hro : ¬ F.ro) : ∃ Hb', Same Hb Hb' ∧ SI F hd Hb' H σ (ε.set 0 (.obj pp C (putFl f (.dat (.list ds)) fl))) := by
  obtain ⟨ow, h1, h2, dx, fs, eσ, op, hp, hfl, nd⟩ := obj_at S hε
  obtain ⟨v, hv', fv⟩ := fl_look hfl hf
  obtain ⟨a, vs, rfl, oa, ha, r⟩ := fv
  obtain ⟨a1, a2, a3, a4⟩ := h1.c a _ oa
  have npa : a ≠ pp := fun z => by rw [z, op] at oa; cases oa
  have a5 : F.H0 a = none := a2.elim (fun z => absurd (hI a (z.2.resolve_right hro)) npa) fun z => z
  have sm : Same Hb (upd Hb a (.lst vs)) := same_new a1
  have up : ∀ b q, ow b = some q → q ≠ .sl 0 (some f) → (fun b => if b = a then none else ow b) b = some q := fun b q e z => (if_neg (fun w => by rw [w, oa] at e; exact z (Option.some.inj e).symm)).trans e
  refine ⟨upd Hb a (.lst vs), sm, ⟨S.gr.b.trans sm, fun b x e => ?_, fun b e => ?_, S.gr.h, S.gr.t⟩, F.j3 _ _ _ _ a3 a1 S.j, by rw [List.length_set]; exact S.len, fun b => if b = a then none else ow b, ⟨fun b pl e => ?_, fun k b ds e => (h1.h k b ds e).move sm (fun b q => up b _ q (by intro z; cases z)) fun b u q z => z⟩, fun j t e => ?_⟩
  · by_cases c : b = a
    · subst c; rw [upd_same] at e; rw [← e]; exact ha
    · rw [upd_ne c] at e; exact S.gr.i b x e
  · rw [upd_ne]
    · exact S.gr.n b e
    · intro z; subst z; exact e a5
  · by_cases c : b = a
    · simp only [if_pos c] at e; cases e
    · obtain ⟨b1, b2, b3, b4⟩ := h1.c b pl (by simpa only [if_neg c] using e)
      exact ⟨by rw [upd_ne c]; exact b1, b2, b3, b4⟩
  · rcases set_at e with ⟨rfl, rfl, l⟩ | ⟨c, e⟩
    · refine ⟨dx, fs, by rw [List.getD_eq_getElem?_getD, eσ]; rfl, up _ _ op (by intro z; cases z), hp, ?_, putFl_nodup nd⟩
      have z := fl_put (f := f) (v := .ref a) (x := .dat (.list ds)) (Hb' := upd Hb a (.lst vs)) (H' := H) (ow' := fun b => if b = a then none else ow b) (show Dt _ _ _ from .lst upd_same (dta_mono sm r)) (fun g v y hg h => h.move sm (fun b q => up b _ q (by intro z; cases z; exact hg rfl)) fun b u q w => w) hfl nd
      rw [putF_same hv'] at z
      exact z
    · exact (h2 j t e).move sm (fun b x q => up b _ q (by intro z; cases z; exact c rfl)) fun b u x q z => z
theorem sws_freezeF (f : Str) {rest : List Stmt} {pp C : Addr} {fl : List (Str × Fv)} {ds : List PyData} (hI : IsInit F pp) (h : SWs X F rest (ε.set 0 (.obj pp C (putFl f (.dat (.list ds)) fl))) R) (hε : ε[0]? = some (.obj pp C fl) := by rfl) (hf : fl.lookup f = some (.lst ds) := by rfl) (hro : ¬ F.ro := by assumption) : SWs X F rest ε R := fun hd Hb H σ S D k => by
  obtain ⟨Hb', sm, S'⟩ := S.freezeF hI hε hf hro
  exact h _ _ _ _ S' D (k.mono sm)
/-! ### a list read while it is owned -/
mutual
/-- t is no part of it -/
def free (t : PyData) : PyData → Prop
  | .list es => PyData.list es ≠ t ∧ freeAll t es
  | .tuple es => PyData.tuple es ≠ t ∧ freeAll t es
  | _ => True
def freeAll (t : PyData) : List PyData → Prop
  | [] => True
  | e :: es => free t e ∧ freeAll t es
end
mutual
theorem dt_fun {H : Hp} : ∀ {v : V} {d d' : PyData}, Dt H v d → Dt H v d' → d = d'
  | _, _, _, .non, .non => rfl
  | _, _, _, .bl _, .bl _ => rfl
  | _, _, _, .int _, .int _ => rfl
  | _, _, _, .str _, .str _ => rfl
  | _, _, _, .lst s h, .lst s' h' => by rw [s] at s'; cases s'; rw [dta_fun h h']
  | _, _, _, .tup s h, .tup s' h' => by rw [s] at s'; cases s'; rw [dta_fun h h']
  | _, _, _, .lst s h, .tup s' h' => by rw [s] at s'; cases s'
  | _, _, _, .tup s h, .lst s' h' => by rw [s] at s'; cases s'
theorem dta_fun {H : Hp} : ∀ {vs : List V} {ds ds' : List PyData}, DtAll H vs ds → DtAll H vs ds' → ds = ds'
  | _, _, _, .nil, .nil => rfl
  | _, _, _, .cons h r, .cons h' r' => by rw [dt_fun h h', dta_fun r r']
end
/-- an address out of it -/
def cutA (H : Hp) (a : Addr) : Hp := fun b => if b = a then none else H b
mutual
theorem dt_cut {H : Hp} {a : Addr} {vs : List V} {ts : List PyData} (s0 : H a = some (.lst vs)) (r0 : DtAll H vs ts) : ∀ {v : V} {d : PyData}, Dt H v d → free (.list ts) d → Dt (cutA H a) v d
  | _, _, .non, _ => .non
  | _, _, .bl _, _ => .bl _
  | _, _, .int _, _ => .int _
  | _, _, .str _, _ => .str _
  | _, _, .lst s h, f => .lst (by
      unfold cutA; rw [if_neg]; exact s
      intro z; subst z; rw [s0] at s; cases s; exact f.1 (by rw [dta_fun h r0])) (dta_cut s0 r0 h f.2)
  | _, _, .tup s h, f => .tup (by
      unfold cutA; rw [if_neg]; exact s
      intro z; subst z; rw [s0] at s; cases s) (dta_cut s0 r0 h f.2)
theorem dta_cut {H : Hp} {a : Addr} {vs : List V} {ts : List PyData} (s0 : H a = some (.lst vs)) (r0 : DtAll H vs ts) : ∀ {ws : List V} {ds : List PyData}, DtAll H ws ds → freeAll (.list ts) ds → DtAll (cutA H a) ws ds
  | _, _, .nil, _ => .nil
  | _, _, .cons h r, f => .cons (dt_cut s0 r0 h f.1) (dta_cut s0 r0 r f.2)
end
/-- slot i's list, seen as data; the way back -/
theorem SI.seen {i : Nat} {ds : List PyData} (S : SI F hd Hb H σ ε) (h0 : i ≠ 0) (hε : ε[i]? = some (.lst ds)) : ∃ Hb', SI F hd Hb' H σ (ε.set i (.dat (.list ds))) ∧
    ∀ Hb2 H2, SI F hd Hb2 H2 σ (ε.set i (.dat (.list ds))) → Gr F.Jd Hb' H Hb2 H2 → ∃ Hb3, SI F hd Hb3 H2 σ ε ∧ Gr F.Jd Hb H Hb3 H2 ∧ (∀ v d, Dt Hb2 v d → free (.list ds) d → Dt Hb3 v d) ∧ ∃ a, H a ≠ none ∧ ∀ b, b ≠ a → Hb3 b = Hb2 b := by
  obtain ⟨ow, h1, h2⟩ := S.ow
  obtain ⟨u, eu, a, vs, rfl, oa, ha, r⟩ := h2 i _ hε
  obtain ⟨a1, a2, a3, a4⟩ := h1.c a _ oa
  have a5 : F.H0 a = none := a2.elim (fun z => by obtain ⟨⟨x, e⟩, _⟩ := z; cases e; exact absurd rfl h0) fun z => z
  have sm : Same Hb (upd Hb a (.lst vs)) := same_new a1
  have lc : i < ε.length := (List.getElem?_eq_some_iff.mp hε).1
  have up : ∀ b q, ow b = some q → q ≠ .sl i none → (fun b => if b = a then none else ow b) b = some q := fun b q e z => (if_neg (fun w => by rw [w, oa] at e; exact z (Option.some.inj e).symm)).trans e
  have S' : SI F hd (upd Hb a (.lst vs)) H σ (ε.set i (.dat (.list ds))) := by
    refine ⟨⟨S.gr.b.trans sm, fun b x e => ?_, fun b e => ?_, S.gr.h, S.gr.t⟩, F.j3 _ _ _ _ a3 a1 S.j, by rw [List.length_set]; exact S.len, fun b => if b = a then none else ow b, ⟨fun b pl e => ?_, fun k b ds e => (h1.h k b ds e).move sm (fun b q => up b _ q (by intro z; cases z)) fun b u q z => z⟩, fun j t e => ?_⟩
    · by_cases c : b = a
      · subst c; rw [upd_same] at e; rw [← e]; exact ha
      · rw [upd_ne c] at e; exact S.gr.i b x e
    · rw [upd_ne]
      · exact S.gr.n b e
      · intro z; subst z; exact e a5
    · by_cases c : b = a
      · simp only [if_pos c] at e; cases e
      · obtain ⟨b1, b2, b3, b4⟩ := h1.c b pl (by simpa only [if_neg c] using e)
        exact ⟨by rw [upd_ne c]; exact b1, b2, b3, b4⟩
    · rcases set_at e with ⟨rfl, rfl, l⟩ | ⟨c, e⟩
      · exact ⟨_, eu, .lst upd_same (dta_mono sm r)⟩
      · exact (h2 j t e).move sm (fun b x q => up b _ q (by intro z; cases z; exact c rfl)) fun b u x q z => z
  refine ⟨_, S', fun Hb2 H2 S2 g => ?_⟩
  have e2 : Hb2 a = some (.lst vs) := g.b _ _ upd_same
  have cb : Same Hb (cutA Hb2 a) := fun b x e => by
    have ne : b ≠ a := fun z => by rw [z, a1] at e; cases e
    show (if b = a then none else Hb2 b) = _
    rw [if_neg ne]
    exact g.b _ _ (sm _ _ e)
  have ci : Same (cutA Hb2 a) H2 := fun b x e => by
    by_cases c : b = a
    · rw [show cutA Hb2 a b = none from if_pos c] at e; cases e
    · rw [show cutA Hb2 a b = Hb2 b from if_neg c] at e; exact g.i _ _ e
  have cn : ∀ b, H b ≠ none → cutA Hb2 a b = Hb b := fun b e => by
    by_cases c : b = a
    · subst c; rw [show cutA Hb2 b b = none from if_pos rfl, a1]
    · rw [show cutA Hb2 a b = Hb2 b from if_neg c, g.n b e, upd_ne c]
  have gg : Gr F.Jd Hb H (cutA Hb2 a) H2 := ⟨cb, ci, cn, g.h, g.t⟩
  have keep : ∀ b pl o, ow b = some pl → H b = some o → H2 b = some o := fun b pl o e h => g.h b o (h1.c b pl e).2.2.1 h
  have jd : ∀ b, F.Jd b → H b ≠ none := fun b j => S.gr.t b (F.jd b j)
  refine ⟨cutA Hb2 a, ⟨S.gr.trans gg (fun b j _ => F.jm b j), ?_, S.len, ow, ⟨fun b pl e => ⟨?_, (h1.c b pl e).2.1, (h1.c b pl e).2.2.1, g.t b (h1.c b pl e).2.2.2⟩, fun k b ds e => (h1.h k b ds e).move cb (fun _ q => q) fun b u q z => keep b _ u q z⟩, fun j t e => (h2 j t e).mono cb fun b u x q z => keep b _ u q z⟩, gg, fun v d rd f => dt_cut e2 (dta_mono g.b (dta_mono sm r)) rd f, a, a4, fun b c => if_neg c⟩
  · have j1 := F.j4 _ _ _ _ ((sm.trans g.b)) S.j S2.j
    exact F.j5 _ _ _ cb (fun b j => cn b (jd b j)) j1
  · rw [cn b (h1.c b pl e).2.2.2]; exact (h1.c b pl e).1
theorem ew_seen (i : Nat) {ds : List PyData} (h : EW X F e (ε.set i (.dat (.list ds))) fun d => free (.list ds) d ∧ Q d) (hε : ε[i]? = some (.lst ds) := by rfl) (h0 : i ≠ 0 := by decide) : EW X F e ε Q := fun hd Hb H σ S Q' k => by
  obtain ⟨Hb', S', back⟩ := S.seen h0 hε
  refine h hd Hb' H σ S' _ fun v d Hb2 H2 S2 g r q => ?_
  obtain ⟨Hb3, S3, g3, up, ad, hA, same⟩ := back Hb2 H2 S2 g
  exact k v d Hb3 H2 S3 g3 (up v d r q.1) q.2
theorem bw_seen (i : Nat) {ds : List PyData} {QB : Bool → Prop} (h : BW X F e (ε.set i (.dat (.list ds))) QB) (hε : ε[i]? = some (.lst ds) := by rfl) (h0 : i ≠ 0 := by decide) : BW X F e ε QB := fun hd Hb H σ S Q' k => by
  obtain ⟨Hb', S', back⟩ := S.seen h0 hε
  refine h hd Hb' H σ S' _ fun b Hb2 H2 S2 g q => ?_
  obtain ⟨Hb3, S3, g3, up, ad, hA, same⟩ := back Hb2 H2 S2 g
  exact k b Hb3 H2 S3 g3 q
/-- a comprehension that reads slot i's list -/
theorem ew_lcSeen (i : Nat) {ds : List PyData} {elt tg iter : Expr} {ifs : List Expr} {scope : Scope} (own : List (Str × Nat)) (h : LcW X F scope (own.map (·.2)) tg iter elt ifs (ε.set i (.dat (.list ds))) fun d => ∃ es, d = .list es ∧ freeAll (.list ds) es ∧ Q d) (hε : ε[i]? = some (.lst ds) := by rfl) (h0 : i ≠ 0 := by decide)
    (hst : stillAt (ε.set i (.dat (.list ds))) (own.map (·.2)) = true := by rfl) (ok : BlkOk X.N X.env.scope scope own := by exact blkOk_by (by kernel_rfl)) (hc : X.calm = true := by rfl) (hN : X.N.Nodup := by first | assumption | decide +kernel) (hs : ∀ x, foldedSetIterable iter X.env x = pure x := by intro _; rfl) :
    EW X F (.ListComp elt [⟨tg, iter, ifs, 0⟩] scope pos) ε Q := fun hd Hb H σ S Q' k => by
  obtain ⟨Hb', S', back⟩ := S.seen h0 hε
  refine pe_run (pe_lc (own := own) (g := fun x σ H Q => InBlk X scope fun Y => tSemG Y tg x σ H Q) (tt := fun σ H Q => InBlk X scope fun Y => tSemTs Y ifs σ H Q) (te := fun σ H Q => InBlk X scope fun Y => tSem Y elt σ H Q) hc hN pi_sem ok
    (fun s H C cl fp => ⟨fun pins s' σ H v u Q I r h => (h _ _ _ _ _).run pins s' u I r⟩) (fun s H C cl fp => ⟨fun pins s' σ H Q I h => (h _ _ _ _ _).run pins s' I⟩) (fun s H C cl fp => ⟨fun pins s' σ H Q I h => (h _ _ _ _ _).run pins s' I⟩) hs) (lc_read h (stillAt_ok hst) S' fun v d Hb2 H2 S2 g r ⟨es, ed, fr, q⟩ ⟨D, ev, hD⟩ => ?_)
  subst ed ev
  obtain ⟨Hb3, S3, g3, up, ad, hA, same⟩ := back Hb2 H2 S2 g
  obtain ⟨a, vs, ea, ha, rs⟩ := dt_lst r
  cases ea
  have ne : D ≠ ad := fun z => hA (z ▸ hD)
  refine k _ _ Hb3 H2 S3 g3 (.lst ((same D ne).trans ha) ?_) q
  have all : ∀ (vs : List V) (es : List PyData), DtAll Hb2 vs es → freeAll (.list ds) es → DtAll Hb3 vs es := by
    intro vs
    induction vs with
    | nil => intro es r _; cases r; exact .nil
    | cons v vs ih => intro es r f; cases r with | cons h r => exact .cons (up _ _ h f.1) (ih _ r f.2)
  exact all _ _ rs fr
/-- x in, not in an owned list -/
theorem bw_inR {op : CmpOp} {ds : List PyData} {QB : Bool → Prop} (hr : RefW X F b ε (.lst ds) put) (h : EW X F a ε fun d => OpW X (compareOp op) d (.list ds) (IsB QB)) (hm : behindInMarks op b = false := by rfl) : BW X F (.Compare a [op] [b] pos) ε QB := fun hd Hb H σ S Q' k => by
  refine pt_run (pt_cmpR op_sem pe_sem pe_sem hm) (h hd Hb H σ S _ fun v d Hb1 H1 S1 g1 r1 k1 => hr hd Hb1 H1 σ S1 _ fun l ra => fun pins s σ' u w I ru rw => ?_)
  obtain ⟨o, hl, vs, rfl, r⟩ := ra.ob
  have sm : Same Hb1 (upd Hb1 l (.lst vs)) := same_new ra.nb
  have s2 : Same (upd Hb1 l (.lst vs)) H1 := fun b x e => by
    by_cases c : b = l
    · subst c; rw [upd_same] at e; rw [← e]; exact hl
    · rw [upd_ne c] at e; exact S1.si b x e
  obtain ⟨rr, ho, hrr⟩ := k1 _ H1 v (.ref l) s2 (dt_mono sm r1) (.lst upd_same (dta_mono sm r)) (fun x H' => ∃ k, x = .bl k ∧ Q' k H') fun z d' Hb' H' g rd ⟨kk, ed, qd⟩ => by
    subst ed
    have g' : Gr0 Hb1 H1 Hb1 H' := ⟨Same.refl _, (sm.trans g.b).trans g.i, fun _ _ => rfl, g.h, g.t⟩
    exact ⟨kk, dt_bl rd, k kk _ _ (S1.grow g') (g1.trans0 g') qd⟩
  exact ho pins s σ' H1 v (.ref l) u w _ I ru rw hrr
end
end K78
/-! K78: promises of defs, entries, calls. -/
namespace K78
open PySem PySem.Spec L2
/-! ### where a def stands -/
structure Bs where
  P : Program
  w : World
  K : Frag
  mg : Str → Option Value
  base : Heap
structure Fr where
  cdv : Value
  A : Around
  outer : List PySem.Env
  s : Shared
  H : Hp
  E : XK
def cx (B : Bs) (d : He.DefD) (N : List Str) (c : Fr) : Cx := (cxOf CX0 B.P B.w B.K B.mg B.base N d.qual d.scope (He.fAd B.K d.at_) c.cdv c.A c.outer c.s c.H c.E).nox
def bsOf (X : Cx) : Bs := ⟨X.prog, X.w, X.K, X.mg, X.base⟩
def Has (B : Bs) (d : He.DefD) (ps : List Str) (fd : FuncData) : Prop := FunD B.K d.name d.qual d.params d.body d.scope (d.dvs B.K) (d.kws B.K) (He.fAd B.K d.at_) fd ∧ Binds B.K fd ps []
def Ok (B : Bs) (k : Nat) (d : He.DefD) (ps : List Str) (sp : Sp) : Prop := (∃ fd, Has B d ps fd) ∧ ∀ fd, Has B d ps fd → FnOk B.P B.w B.K B.mg B.base CX0 k (He.fAd B.K d.at_) fd ps sp
theorem Ok.mono {B : Bs} {j k : Nat} {d : He.DefD} {ps : List Str} {sp : Sp} (h : Ok B j d ps sp) (l : j ≤ k) : Ok B k d ps sp := ⟨h.1, fun fd a => (h.2 fd a).mono l⟩
theorem Ok.imp {B : Bs} {k : Nat} {d : He.DefD} {ps : List Str} {sp sp' : Sp} (h : Ok B k d ps sp) (q : ∀ vs H Q E, sp' vs H Q E → sp vs H Q E) : Ok B k d ps sp' := ⟨h.1, fun fd a => (h.2 fd a).imp q⟩
/-- many promises in one -/
theorem Ok.join {B : Bs} {k : Nat} {d : He.DefD} {ps : List Str} {sp : Sp} (h : ∃ fd, Has B d ps fd) (q : ∀ vs H Q E, sp vs H Q E → ∃ sp', Ok B k d ps sp' ∧ sp' vs H Q E) : Ok B k d ps sp :=
  ⟨h, fun fd a => ⟨fun vs H Q E z => by obtain ⟨sp', o, y⟩ := q _ _ _ _ z; exact (o.2 fd a).len _ _ _ _ y, fun A outer s H args us vs Q E hr e b v z => by
    obtain ⟨sp', o, y⟩ := q _ _ _ _ z
    exact (o.2 fd a).run A outer s H args us vs Q E hr e b v y⟩⟩
theorem ok_of {B : Bs} {k : Nat} {d : He.DefD} {N ps : List Str} {sp : Sp} (h : ∃ fd, Has B d ps fd) (S : FnScope N ps d.scope) (len : ∀ vs H Q E, sp vs H Q E → vs.length = ps.length)
    (body : ∀ c : Fr, Room k (cx B d N c).A → ∀ (H : Hp) vs Q, sp vs H Q c.E → tSemB (cx B d N c) d.body { nx := fun _ H' => Q .non H', rt := Q } (L2.start N vs) H) : Ok B (k + 1) d ps sp :=
  ⟨h, fun fd hf => hf.1.ok S len fun cdv A outer s H vs Q E hr q => ⟨_, (pss_sem (X := cx B d N ⟨cdv, A, outer, s, H, E⟩)).nox, body ⟨cdv, A, outer, s, H, E⟩ hr H vs Q q⟩⟩
/-! ### the promises -/
def spD (Pre : List PyData → Prop) (Post : List PyData → PyData → Prop) : Sp := fun vs H Q _ => ∃ Hb ds, Same Hb H ∧ DtAll Hb vs ds ∧ Pre ds ∧ ∀ v d Hb' H', Gr0 Hb H Hb' H' → Dt Hb' v d → Post ds d → Q v H'
/-- the law's state at A: a list of the cells, a number, a value, a mark -/
def StAt (A cc : Addr) (ns : List Int) : Hp → Hp → Prop := fun Hb H => Hb A = none ∧ Hb cc = some (.lst (ns.map .int)) ∧ ∃ n v b, H A = some (.lst [.ref cc, .int n, .int v, .bl b]) ∧ ns.length ≤ 63
def IsS (A : Addr) (F : Fm) : Prop := ∃ cc ns, F.J = StAt A cc ns ∧ F.Jd = (· = A)
def spS (Pre : List PyData → Prop) (Post : List PyData → PyData → Prop) : Sp := fun vs H Q _ => ∃ Hb A cc ns vs' ds, vs = .ref A :: vs' ∧ Same Hb H ∧ DtAll Hb vs' ds ∧ StAt A cc ns Hb H ∧ Pre ds ∧ ∀ v d Hb' H', Gr (· = A) Hb H Hb' H' → StAt A cc ns Hb' H' → Dt Hb' v d → Post ds d → Q v H'
/-- an object p of the class C, its owners -/
structure Ob (Hb H : Hp) (ow : Ow) (p C : Addr) (fl : List (Str × Fv)) : Prop where
  po : ow p = some (.sl 0 none)
  c : ∀ a pl, ow a = some pl → Hb a = none ∧ H a ≠ none ∧ ∃ x, pl = .sl 0 x
  s : SlOk Hb H ow 0 (some (.ref p)) (.obj p C fl)
def spO (C : Addr) (Pre : List (Str × Fv) → List PyData → Prop) (Post : List (Str × Fv) → List PyData → List (Str × Fv) → PyData → Prop) : Sp := fun vs H Q _ => ∃ Hb ow p fl vs' ds, vs = .ref p :: vs' ∧ Same Hb H ∧ DtAll Hb vs' ds ∧ Ob Hb H ow p C fl ∧ Pre fl ds ∧
  ∀ v d Hb' H' ow' fl', Gr (fun a => ow a ≠ none) Hb H Hb' H' → Ob Hb' H' ow' p C fl' → (∀ a, ow' a ≠ none → ow a ≠ none ∨ H a = none) → Dt Hb' v d → Post fl ds fl' d → Q v H'
/-- .. of a method that only reads -/
def spP (C : Addr) (Pre : List (Str × Fv) → List PyData → Prop) (Post : List (Str × Fv) → List PyData → PyData → Prop) : Sp := fun vs H Q _ => ∃ Hb ow p fl vs' ds, vs = .ref p :: vs' ∧ Same Hb H ∧ DtAll Hb vs' ds ∧ Ob Hb H ow p C fl ∧ Pre fl ds ∧
  ∀ v d Hb' H', Gr0 Hb H Hb' H' → Dt Hb' v d → Post fl ds d → Q v H'
/-- .. of __init__: no attribute yet -/
def IsN (F : Fm) : Prop := F.J = (fun _ _ => True) ∧ F.Jd = NoM
/-! ### the frames -/
def F0 (Hb H : Hp) : Fm := ⟨NoM, fun _ _ => True, NoM, False, Hb, H, fun _ h => h.elim, fun _ _ _ _ _ _ => trivial, fun _ _ _ _ _ _ => trivial, fun _ _ _ _ _ _ => trivial, fun _ _ _ _ _ _ _ => trivial, fun _ h => h⟩
def FO (M : Addr → Prop) (ro : Prop) (Hb H : Hp) (m : ∀ a, M a → H a ≠ none) : Fm := ⟨M, fun _ _ => True, NoM, ro, Hb, H, m, fun _ _ _ _ _ _ => trivial, fun _ _ _ _ _ _ => trivial, fun _ _ _ _ _ _ => trivial, fun _ _ _ _ _ _ _ => trivial, fun _ h => h.elim⟩
section
variable {A cc : Addr} {ns : List Int} {Hb H Hb' H' Hb2 H2 : Hp}
theorem StAt.grow (g : Gr0 Hb H Hb' H') (h : StAt A cc ns Hb H) : StAt A cc ns Hb' H' := by
  obtain ⟨a, b, n, v, k, e, l⟩ := h
  exact ⟨(g.n A (by rw [e]; intro z; cases z)).trans a, g.b _ _ b, n, v, k, g.same _ _ e, l⟩
def FS (A cc : Addr) (ns : List Int) (Hb H : Hp) (hA : H A ≠ none) : Fm := ⟨(· = A), StAt A cc ns, (· = A), False, Hb, H, fun _ h => h ▸ hA, fun _ _ _ _ g h => h.grow g,
  fun _ _ a o n h => ⟨h.1, h.2.1, by obtain ⟨_, _, n', v, k, e, l⟩ := h; exact ⟨n', v, k, by rw [upd_ne (fun z => n z.symm)]; exact e, l⟩⟩,
  fun _ _ _ s f h => ⟨(f A rfl).trans h.1, s _ _ h.2.1, h.2.2⟩, fun _ _ _ _ s h h2 => ⟨h.1, h.2.1, h2.2.2⟩, fun _ h => h⟩
theorem FS_is {hA : H A ≠ none} : IsS A (FS A cc ns Hb H hA) := ⟨cc, ns, rfl, rfl⟩
end
def env0 (N : List Str) (ds : List PyData) : Env := ds.map Sl.dat ++ List.replicate (N.length - ds.length) .un
def env1 (N : List Str) (s : Sl) (ds : List PyData) : Env := s :: (ds.map Sl.dat ++ List.replicate (N.length - (ds.length + 1)) .un)
theorem slots_dat {Hb H : Hp} {ow : Ow} : ∀ {vs : List V} {ds : List PyData} (m j : Nat), DtAll Hb vs ds → ∀ i s, (ds.map Sl.dat ++ List.replicate m Sl.un)[i]? = some s → SlOk Hb H ow (j + i) ((vs.map some ++ List.replicate m none).getD i none) s
  | _, _, m, j, .nil, i, s, e => by
    rw [List.map_nil, List.nil_append, List.getElem?_replicate] at e
    split at e
    · cases e; trivial
    · cases e
  | _, _, m, j, .cons h r, 0, s, e => by cases e; exact ⟨_, rfl, h⟩
  | _, _, m, j, .cons h r, i + 1, s, e => by
    have z := slots_dat (Hb := Hb) (H := H) (ow := ow) m (j + 1) r i s e
    rw [show j + 1 + i = j + (i + 1) by omega] at z
    exact z
theorem si_dat {Hb H : Hp} {F : Fm} {N : List Str} {vs : List V} {ds : List PyData} (r : DtAll Hb vs ds) (g : Gr F.M F.Hb0 F.H0 Hb H) (j : F.J Hb H) (hl : vs.length ≤ N.length) : SI F [] Hb H (L2.start N vs) (env0 N ds) := by
  refine ⟨g, j, ?_, fun _ => none, ⟨fun a pl e => (by cases e), fun k a ds e => (by cases e)⟩, fun i s e => ?_⟩
  · unfold L2.start env0
    rw [List.length_append, List.length_append, List.length_map, List.length_map, List.length_replicate, List.length_replicate, dta_len r]
  · have z := slots_dat (H := H) (ow := fun _ => none) (N.length - ds.length) 0 r i s e
    rw [Nat.zero_add] at z
    unfold L2.start
    rw [dta_len r]
    exact z
theorem si_one {Hb H : Hp} {F : Fm} {N : List Str} {u : V} {sl : Sl} {vs : List V} {ds : List PyData} {ow : Ow} (h1 : OwOk F [] Hb H ow) (hs : SlOk Hb H ow 0 (some u) sl) (r : DtAll Hb vs ds) (g : Gr F.M F.Hb0 F.H0 Hb H) (j : F.J Hb H) : SI F [] Hb H (L2.start N (u :: vs)) (env1 N sl ds) := by
  refine ⟨g, j, ?_, ow, h1, fun i s e => ?_⟩
  · unfold L2.start env1
    simp only [List.length_append, List.length_cons, List.length_map, List.length_replicate, dta_len r]
    omega
  · cases i with
    | zero => cases e; exact hs
    | succ i =>
      have z := slots_dat (H := H) (ow := ow) (N.length - (ds.length + 1)) 1 r i s e
      rw [Nat.add_comm] at z
      have e2 : (L2.start N (u :: vs)).getD (i + 1) none = (vs.map some ++ List.replicate (N.length - (ds.length + 1)) none).getD i none := by
        unfold L2.start
        rw [List.length_cons, dta_len r]; rfl
      rw [e2]
      exact z
section
variable {B : Bs} {k : Nat} {d : He.DefD} {N ps : List Str} {C : Addr}
theorem scope_len (S : FnScope N ps d.scope) : ps.length ≤ N.length := by
  have := congrArg List.length S.pre
  rw [List.length_take] at this
  omega
/-- a def of data -/
theorem ok_d {Pre : List PyData → Prop} {Post : List PyData → PyData → Prop} (h : ∃ fd, Has B d ps fd) (S : FnScope N ps d.scope) (hlen : ∀ ds, Pre ds → ds.length = ps.length)
    (body : ∀ c : Fr, Room k (cx B d N c).A → ∀ F : Fm, ¬ F.ro → ∀ ds, Pre ds → SWs (cx B d N c) F d.body (env0 N ds) ⟨fun _ => Post ds .none, fun r _ => Post ds r, fun _ => False, fun _ => False⟩) : Ok B (k + 1) d ps (spD Pre Post) := by
  refine ok_of h S (fun vs H Q E ⟨Hb, ds, s, r, p, _⟩ => (dta_len r).trans (hlen ds p)) fun c hr H vs Q ⟨Hb, ds, s, r, p, q⟩ => ?_
  refine body c hr (F0 Hb H) (fun z => z) ds p [] Hb H (L2.start N vs) (si_dat r (Gr.refl s) trivial (by rw [dta_len r, hlen ds p]; exact scope_len S)) _ ⟨fun Hb' H' σ' ε' b S' z => q _ _ Hb' H' S'.gr .non z, fun Hb' H' σ' ε' b S' z => z, fun Hb' H' σ' ε' b S' z => z, fun v d Hb' H' σ' ε' b S' rd z => q _ _ Hb' H' S'.gr rd z⟩
/-- a def with the law's state ahead -/
theorem ok_s {Pre : List PyData → Prop} {Post : List PyData → PyData → Prop} (h : ∃ fd, Has B d ps fd) (S : FnScope N ps d.scope) (hlen : ∀ ds, Pre ds → ds.length + 1 = ps.length)
    (body : ∀ c : Fr, Room k (cx B d N c).A → ∀ F A, ¬ F.ro → IsS A F → ∀ ds, Pre ds → SWs (cx B d N c) F d.body (env1 N (.val (.ref A)) ds) ⟨fun _ => Post ds .none, fun r _ => Post ds r, fun _ => False, fun _ => False⟩) : Ok B (k + 1) d ps (spS Pre Post) := by
  refine ok_of h S (fun vs H Q E ⟨Hb, A, cc, ns, vs', ds, e, s, r, st, p, _⟩ => by rw [e, List.length_cons, dta_len r]; exact hlen ds p) fun c hr H vs Q ⟨Hb, A, cc, ns, vs', ds, e, s, r, st, p, q⟩ => ?_
  subst e
  have hA : H A ≠ none := by obtain ⟨_, _, n, v, b, e⟩ := st; rw [e.1]; intro z; cases z
  refine body c hr (FS A cc ns Hb H hA) A (fun z => z) FS_is ds p [] Hb H (L2.start N (.ref A :: vs')) (si_one (ow := fun _ => none) ⟨fun a pl e => (by cases e), fun k a ds e => (by cases e)⟩ rfl r (Gr.refl s) st) _ ⟨fun Hb' H' σ' ε' b S' z => q _ _ Hb' H' S'.gr S'.j .non z, fun Hb' H' σ' ε' b S' z => z, fun Hb' H' σ' ε' b S' z => z, fun v d Hb' H' σ' ε' b S' rd z => q _ _ Hb' H' S'.gr S'.j rd z⟩
/-- the object at the end -/
theorem ob_end {F : Fm} {Hb H : Hp} {σ : L2.St} {ε : Env} {p : Addr} {fl : List (Str × Fv)} (S : SI F [] Hb H σ ε) (hε : ε[0]? = some (.obj p C fl)) : ∃ ow', Ob Hb H ow' p C fl ∧ ∀ a, ow' a ≠ none → (F.M a ∨ F.ro) ∨ F.H0 a = none := by
  obtain ⟨ow, h1, h2, dx, fs, eσ, op, hp, hfl, nd⟩ := obj_at S hε
  have up : ∀ a x, ow a = some (.sl 0 x) → (fun a => match ow a with | some (.sl 0 x) => some (Pl.sl 0 x) | _ => none) a = some (.sl 0 x) := fun a x e => by simp [e]
  have dn : ∀ a pl, (fun a => match ow a with | some (.sl 0 x) => some (Pl.sl 0 x) | _ => none) a = some pl → ow a = some pl ∧ ∃ x, pl = .sl 0 x := fun a pl e => by
    have e : (match ow a with | some (.sl 0 x) => some (Pl.sl 0 x) | _ => none) = some pl := e
    split at e
    · rename_i x h; cases e; exact ⟨h, x, rfl⟩
    · cases e
  refine ⟨fun a => match ow a with | some (.sl 0 x) => some (.sl 0 x) | _ => none, ⟨up _ _ op, fun a pl e => ?_, dx, fs, rfl, up _ _ op, hp, ?_, nd⟩, fun a e => ?_⟩
  · obtain ⟨e1, x, e2⟩ := dn a pl e
    obtain ⟨a1, a2, a3, a4⟩ := h1.c a pl e1
    exact ⟨a1, a4, x, e2⟩
  · exact Paired.mapP hfl fun _ _ z => ⟨z.1, z.2.move (Same.refl _) (fun a q => up a _ q) fun a o _ w => w⟩
  · cases q : (fun a => match ow a with | some (.sl 0 x) => some (Pl.sl 0 x) | _ => none) a with
    | none => exact absurd q e
    | some pl =>
      obtain ⟨e1, x, e2⟩ := dn a pl q
      exact (h1.c a pl e1).2.1.imp (fun z => z.2) fun z => z
theorem ok_o {Pre : List (Str × Fv) → List PyData → Prop} {Post : List (Str × Fv) → List PyData → List (Str × Fv) → PyData → Prop} (h : ∃ fd, Has B d ps fd) (S : FnScope N ps d.scope) (hlen : ∀ fl ds, Pre fl ds → ds.length + 1 = ps.length)
    (body : ∀ c : Fr, Room k (cx B d N c).A → ∀ F p fl ds, ¬ F.ro → IsN F → (fl = [] → IsInit F p) → Pre fl ds → SWs (cx B d N c) F d.body (env1 N (.obj p C fl) ds) ⟨fun ε => ∃ fl', ε[0]? = some (.obj p C fl') ∧ Post fl ds fl' .none, fun r ε => ∃ fl', ε[0]? = some (.obj p C fl') ∧ Post fl ds fl' r, fun _ => False, fun _ => False⟩)
    (hi : (∀ fl ds, Pre fl ds → fl ≠ []) ∨ ∀ Hb H ow p, Ob Hb H ow p C [] → ∀ a, ow a ≠ none → a = p) : Ok B (k + 1) d ps (spO C Pre Post) := by
  refine ok_of h S (fun vs H Q E ⟨Hb, ow, p, fl, vs', ds, e, s, r, o, q, _⟩ => by rw [e, List.length_cons, dta_len r]; exact hlen fl ds q) fun c hr H vs Q ⟨Hb, ow, p, fl, vs', ds, e, s, r, o, pr, q⟩ => ?_
  subst e
  have mH : ∀ a, ow a ≠ none → H a ≠ none := fun a e => by
    cases z : ow a with
    | none => exact absurd z e
    | some pl => exact (o.c a pl z).2.1
  have fin : ∀ v d Hb' H' σ' ε', SI (FO (fun a => ow a ≠ none) False Hb H mH) [] Hb' H' σ' ε' → Dt Hb' v d → (∃ fl', ε'[0]? = some (.obj p C fl') ∧ Post fl ds fl' d) → Q v H' := fun v d Hb' H' σ' ε' S' rd ⟨fl', e, po⟩ => by
    obtain ⟨ow', o', w⟩ := ob_end S' e
    exact q v d Hb' H' ow' fl' S'.gr o' (fun a e => (w a e).imp (fun z => z.resolve_right fun f => f) fun z => z) rd po
  refine body c hr (FO (fun a => ow a ≠ none) False Hb H mH) p fl ds (fun z => z) ⟨rfl, rfl⟩ (fun e a m => ?_) pr [] Hb H (L2.start N (.ref p :: vs')) (si_one (ow := ow) ⟨fun a pl e => ?_, fun k a ds e => (by cases e)⟩ o.s r (Gr.refl s) trivial) _ ⟨fun Hb' H' σ' ε' b S' z => fin _ _ _ _ _ _ S' .non z, fun Hb' H' σ' ε' b S' z => z, fun Hb' H' σ' ε' b S' z => z, fun v d Hb' H' σ' ε' b S' rd z => fin _ _ _ _ _ _ S' rd z⟩
  · subst e
    rcases hi with z | z
    · exact absurd rfl (z _ _ pr)
    · exact z Hb H ow p o a m
  · obtain ⟨a1, a2, a3⟩ := o.c a pl e
    exact ⟨a1, .inl ⟨a3, .inl (by show ow a ≠ none; rw [e]; intro z; cases z)⟩, fun z => z, a2⟩
/-- a method that only reads -/
theorem ok_p {Pre : List (Str × Fv) → List PyData → Prop} {Post : List (Str × Fv) → List PyData → PyData → Prop} (h : ∃ fd, Has B d ps fd) (S : FnScope N ps d.scope) (hlen : ∀ fl ds, Pre fl ds → ds.length + 1 = ps.length)
    (body : ∀ c : Fr, Room k (cx B d N c).A → ∀ F p fl ds, IsN F → Pre fl ds → SWs (cx B d N c) F d.body (env1 N (.obj p C fl) ds) ⟨fun _ => Post fl ds .none, fun r _ => Post fl ds r, fun _ => False, fun _ => False⟩) : Ok B (k + 1) d ps (spP C Pre Post) := by
  refine ok_of h S (fun vs H Q E ⟨Hb, ow, p, fl, vs', ds, e, s, r, o, q, _⟩ => by rw [e, List.length_cons, dta_len r]; exact hlen fl ds q) fun c hr H vs Q ⟨Hb, ow, p, fl, vs', ds, e, s, r, o, pr, q⟩ => ?_
  subst e
  refine body c hr (FO NoM True Hb H (fun _ z => z.elim)) p fl ds ⟨rfl, rfl⟩ pr [] Hb H (L2.start N (.ref p :: vs')) (si_one (ow := ow) ⟨fun a pl e => ?_, fun k a ds e => (by cases e)⟩ o.s r (Gr.refl s) trivial) _ ⟨fun Hb' H' σ' ε' b S' z => q _ _ Hb' H' S'.gr .non z, fun Hb' H' σ' ε' b S' z => z, fun Hb' H' σ' ε' b S' z => z, fun v d Hb' H' σ' ε' b S' rd z => q _ _ Hb' H' S'.gr rd z⟩
  obtain ⟨a1, a2, a3⟩ := o.c a pl e
  exact ⟨a1, .inl ⟨a3, .inr trivial⟩, fun z => z, a2⟩
end
end K78
/-! K78: calls of defs, of methods. -/
namespace K78
open PySem PySem.Spec L2
section
variable {X : Cx} {F : Fm} {ε : Env} {R : ER} {a b e c o : Expr} {es : List Expr} {pos p p2 apos cpos pos' : Pos} {Q : PyData → Prop} {hd : Hid} {Hb H Hb' H' : Hp} {σ : L2.St} {x : Str} {k : Nat} {d' : He.DefD} {ps : List Str}
theorem ew_call {Pre : List PyData → Prop} {Post : List PyData → PyData → Prop} (h : Ok (bsOf X) k d' ps (spD Pre Post)) (hm : X.mg x = some (.ref (He.fAd X.K d'.at_))) (ha : AW X F (e :: es) ε fun ds => Pre ds ∧ ∀ r, Post ds r → Q r) (hr : Room k X.A := by exact Room.mono ‹_› (by decide)) (hg : Gl X x := by rfl) (hdb : (x == ("__debug__" : Str)) = false := by decide)
    (he : starEach (e :: es) X.env = (false, eval e X.env) :: starEach es X.env := by rfl) (hpl : (backTo pos (starEach es X.env)).any (·.1) = false := by rfl) : EW X F (.Call (.Name x p) (e :: es) [] pos) ε Q := fun hd Hb H σ S Q' q => by
  obtain ⟨⟨fd, hfb⟩, ok⟩ := h
  have ok := ok fd hfb
  obtain ⟨hf, hb⟩ := hfb
  refine pe_run (pe_call (X := X) (E := fun _ _ _ => True) ok hr hg hm hf.kp hb .nil pass0 pa_sem hdb he hpl) (ha hd Hb H σ S _ fun vs ds Hb1 H1 S1 g1 r1 l1 ⟨pr, po⟩ => ?_)
  rw [List.append_nil]
  exact ⟨Hb1, ds, S1.si, r1, pr, fun v d Hb2 H2 g2 r2 q2 => q v d Hb2 H2 (S1.grow g2) (g1.trans0 g2) r2 (po d q2)⟩
/-- the promise is chosen when the arguments are known -/
theorem ew_callJ (h : ∃ fd, Has (bsOf X) d' ps fd) (hm : X.mg x = some (.ref (He.fAd X.K d'.at_))) (ha : AW X F (e :: es) ε fun ds => ∃ P : PyData → Prop, Ok (bsOf X) k d' ps (spD (fun z => z = ds) fun _ r => P r) ∧ ∀ r, P r → Q r) (hr : Room k X.A := by exact Room.mono ‹_› (by decide)) (hg : Gl X x := by rfl) (hdb : (x == ("__debug__" : Str)) = false := by decide)
    (he : starEach (e :: es) X.env = (false, eval e X.env) :: starEach es X.env := by rfl) (hpl : (backTo pos (starEach es X.env)).any (·.1) = false := by rfl) : EW X F (.Call (.Name x p) (e :: es) [] pos) ε Q :=
  ew_call (Pre := fun ds => ∃ P : PyData → Prop, Ok (bsOf X) k d' ps (spD (fun z => z = ds) fun _ r => P r) ∧ ∀ r, P r → Q r) (Post := fun _ r => Q r) (Ok.join h fun vs H Q' E ⟨Hb, ds, s, r, ⟨P, o, q⟩, f⟩ => ⟨_, o, Hb, ds, s, r, rfl, fun v d Hb' H' g rd pd => f v d Hb' H' g rd (q d pd)⟩) hm (by
    intro hd Hb H σ S Q' kk
    exact ha hd Hb H σ S Q' fun vs ds Hb' H' S' g r l z => kk vs ds Hb' H' S' g r l ⟨z, fun r hr => hr⟩) hr hg hdb he hpl
/-- growth that changes what the frame allows -/
theorem SI.growJ (S : SI F hd Hb H σ ε) (g : Gr F.Jd Hb H Hb' H') (j : F.J Hb' H') : SI F hd Hb' H' σ ε := by
  obtain ⟨ow, h1, h2⟩ := S.ow
  have keep : ∀ b pl o, ow b = some pl → H b = some o → H' b = some o := fun b pl o e h => g.h b o (h1.c b pl e).2.2.1 h
  exact ⟨S.gr.trans g fun a j _ => F.jm a j, j, S.len, ow, ⟨fun a pl e => ⟨(g.n a (h1.c a pl e).2.2.2).trans (h1.c a pl e).1, (h1.c a pl e).2.1, (h1.c a pl e).2.2.1, g.t a (h1.c a pl e).2.2.2⟩, fun k b ds e => (h1.h k b ds e).move g.b (fun _ q => q) fun b u q z => keep b _ u q z⟩, fun i s e => (h2 i s e).mono g.b fun b u x q z => keep b _ u q z⟩
theorem val_at {i : Nat} {v : V} (S : SI F hd Hb H σ ε) (hε : ε[i]? = some (.val v)) : σ[i]? = some (some v) := by
  obtain ⟨ow, h1, h2⟩ := S.ow
  exact getD_of (h2 i _ hε)
/-- f(state, ..) -/
theorem ew_callS (i : Nat) {A : Addr} {n : Str} {Pre : List PyData → Prop} {Post : List PyData → PyData → Prop} (h : Ok (bsOf X) k d' ps (spS Pre Post)) (hm : X.mg x = some (.ref (He.fAd X.K d'.at_))) (hF : IsS A F) (ha : AW X F es ε fun ds => Pre ds ∧ ∀ r, Post ds r → Q r)
    (hε : ε[i]? = some (.val (.ref A)) := by rfl) (hr : Room k X.A := by exact Room.mono ‹_› (by decide)) (hN : X.N[i]? = some n := by rfl) (hv : Vis X.env.scope n := by first | exact Or.inl rfl | exact Or.inr (Or.inl rfl) | exact Or.inr (Or.inr rfl)) (hdg : (n == ("__debug__" : Str)) = false := by decide)
    (hcd : (n == ("__classdict__" : Str)) = false := by decide) (hg : Gl X x := by rfl) (hdb : (x == ("__debug__" : Str)) = false := by decide)
    (he : starEach (.Name n p2 :: es) X.env = (false, eval (.Name n p2) X.env) :: starEach es X.env := by rfl) (hpl : (backTo pos (starEach es X.env)).any (·.1) = false := by rfl) : EW X F (.Call (.Name x p) (.Name n p2 :: es) [] pos) ε Q := fun hd Hb H σ S Q' q => by
  obtain ⟨⟨fd, hfb⟩, ok⟩ := h
  have ok := ok fd hfb
  obtain ⟨hf, hb⟩ := hfb
  obtain ⟨cc, ns, hJ, hJd⟩ := hF
  refine pe_run (pe_call (X := X) (E := fun _ _ _ => True) ok hr hg hm hf.kp hb .nil pass0 (pa_cons (pe_var hN hv hdg hcd) pa_sem he) hdb he hpl) ⟨_, val_at S hε, ha hd Hb H σ S _ fun vs ds Hb1 H1 S1 g1 r1 l1 ⟨pr, po⟩ => ?_⟩
  show spS Pre Post ((V.ref A :: vs) ++ []) H1 Q' _
  rw [List.append_nil]
  have j := S1.j
  rw [hJ] at j
  refine ⟨Hb1, A, cc, ns, vs, ds, rfl, S1.si, r1, j, pr, fun v d Hb2 H2 g2 st2 r2 q2 => ?_⟩
  have g2' : Gr F.Jd Hb1 H1 Hb2 H2 := by rw [hJd]; exact g2
  exact q v d Hb2 H2 (S1.growJ g2' (by rw [hJ]; exact st2)) (g1.transM g2') r2 (po d q2)
theorem ew_callSJ (i : Nat) {A : Addr} {n : Str} (h : ∃ fd, Has (bsOf X) d' ps fd) (hm : X.mg x = some (.ref (He.fAd X.K d'.at_))) (hF : IsS A F) (ha : AW X F es ε fun ds => ∃ P : PyData → Prop, Ok (bsOf X) k d' ps (spS (fun z => z = ds) fun _ r => P r) ∧ ∀ r, P r → Q r)
    (hε : ε[i]? = some (.val (.ref A)) := by rfl) (hr : Room k X.A := by exact Room.mono ‹_› (by decide)) (hN : X.N[i]? = some n := by rfl) (hv : Vis X.env.scope n := by first | exact Or.inl rfl | exact Or.inr (Or.inl rfl) | exact Or.inr (Or.inr rfl)) (hdg : (n == ("__debug__" : Str)) = false := by decide)
    (hcd : (n == ("__classdict__" : Str)) = false := by decide) (hg : Gl X x := by rfl) (hdb : (x == ("__debug__" : Str)) = false := by decide)
    (he : starEach (.Name n p2 :: es) X.env = (false, eval (.Name n p2) X.env) :: starEach es X.env := by rfl) (hpl : (backTo pos (starEach es X.env)).any (·.1) = false := by rfl) : EW X F (.Call (.Name x p) (.Name n p2 :: es) [] pos) ε Q :=
  ew_callS i (Pre := fun ds => ∃ P : PyData → Prop, Ok (bsOf X) k d' ps (spS (fun z => z = ds) fun _ r => P r) ∧ ∀ r, P r → Q r) (Post := fun _ r => Q r) (Ok.join h fun vs H Q' E ⟨Hb, A, cc, ns, vs', ds, e, s, r, st, ⟨P, o, q⟩, f⟩ => ⟨_, o, Hb, A, cc, ns, vs', ds, e, s, r, st, rfl, fun v d Hb' H' g st' rd pd => f v d Hb' H' g st' rd (q d pd)⟩) hm hF (by
    intro hd Hb H σ S Q' kk
    exact ha hd Hb H σ S Q' fun vs ds Hb' H' S' g r l z => kk vs ds Hb' H' S' g r l ⟨z, fun r hr => hr⟩) hε hr hN hv hdg hcd hg hdb he hpl
/-! ### methods of self -/
/-- the owners of slot 0 -/
def ow0 (ow : Ow) : Ow := fun a => match ow a with | some (.sl 0 x) => some (.sl 0 x) | _ => none
theorem ow0_up {ow : Ow} {a : Addr} {x : Option Str} (e : ow a = some (.sl 0 x)) : ow0 ow a = some (.sl 0 x) := by unfold ow0; simp [e]
theorem ow0_dn {ow : Ow} {a : Addr} {pl : Pl} (e : ow0 ow a = some pl) : ow a = some pl ∧ ∃ x, pl = .sl 0 x := by
  unfold ow0 at e
  split at e
  · rename_i x h; cases e; exact ⟨h, x, rfl⟩
  · cases e
theorem ow0_ne {ow : Ow} {a : Addr} (e : ow0 ow a ≠ none) : ∃ x, ow a = some (.sl 0 x) := by
  cases q : ow0 ow a with
  | none => exact absurd q e
  | some pl => obtain ⟨e1, x, rfl⟩ := ow0_dn q; exact ⟨x, e1⟩
theorem ob_of {C pp : Addr} {fl : List (Str × Fv)} (S : SI F hd Hb H σ ε) (hε : ε[0]? = some (.obj pp C fl)) : ∃ ow, OwOk F hd Hb H ow ∧ (∀ i s, ε[i]? = some s → SlOk Hb H ow i (σ.getD i none) s) ∧ Ob Hb H (ow0 ow) pp C fl ∧ σ[0]? = some (some (.ref pp)) := by
  obtain ⟨ow, h1, h2, dx, fs, eσ, op, hp, hfl, nd⟩ := obj_at S hε
  refine ⟨ow, h1, h2, ⟨ow0_up op, fun a pl e => ?_, dx, fs, rfl, ow0_up op, hp, ?_, nd⟩, eσ⟩
  · obtain ⟨e1, x, e2⟩ := ow0_dn e
    obtain ⟨a1, a2, a3, a4⟩ := h1.c a pl e1
    exact ⟨a1, a4, x, e2⟩
  · exact Paired.mapP hfl fun _ _ z => ⟨z.1, z.2.move (Same.refl _) (fun a q => ow0_up q) fun a o _ w => w⟩
/-- behind a method that changed self -/
theorem self_back {C pp : Addr} {fl fl' : List (Str × Fv)} {ow ow' : Ow} (S : SI F hd Hb H σ ε) (hF : IsN F) (hro : ¬ F.ro) (h1 : OwOk F hd Hb H ow) (h2 : ∀ i s, ε[i]? = some s → SlOk Hb H ow i (σ.getD i none) s) (eσ : σ[0]? = some (some (.ref pp))) (hε : ε[0]? = some (.obj pp C fl))
    (g : Gr (fun a => ow0 ow a ≠ none) Hb H Hb' H') (o' : Ob Hb' H' ow' pp C fl') (nw : ∀ a, ow' a ≠ none → ow0 ow a ≠ none ∨ H a = none) : SI F hd Hb' H' σ (ε.set 0 (.obj pp C fl')) := by
  obtain ⟨hJ, hJd⟩ := hF
  have nj : ∀ a, ¬ F.Jd a := fun a z => by rw [hJd] at z; exact z
  have own : ∀ a, ow0 ow a ≠ none → F.M a ∨ F.H0 a = none := fun a z => by
    obtain ⟨x, e⟩ := ow0_ne z
    exact (h1.c a _ e).2.1.imp (fun z => z.2.resolve_right hro) fun z => z
  -- the owners behind
  let w : Ow := fun a => match ow' a with | some q => some q | none => if ow0 ow a ≠ none then none else ow a
  have w1 : ∀ a q, ow' a = some q → w a = some q := fun a q e => by show (match ow' a with | some q => some q | none => if ow0 ow a ≠ none then none else ow a) = _; rw [e]
  have w2 : ∀ a q, ow a = some q → (∀ x, q ≠ .sl 0 x) → w a = some q := fun a q e n => by
    have z0 : ow0 ow a = none := by
      cases z : ow0 ow a with
      | none => rfl
      | some pl => obtain ⟨e1, x, e2⟩ := ow0_dn z; rw [e] at e1; cases e1; exact absurd e2 (n x)
    have z1 : ow' a = none := by
      cases z : ow' a with
      | none => rfl
      | some pl => exact absurd ((nw a (by rw [z]; intro y; cases y)).resolve_left fun y => y z0) (h1.c a q e).2.2.2
    show (match ow' a with | some q => some q | none => if ow0 ow a ≠ none then none else ow a) = _
    rw [z1, z0]; simpa using e
  have w3 : ∀ a q, w a = some q → ow' a = some q ∨ (ow a = some q ∧ ow0 ow a = none) := fun a q e => by
    have e : (match ow' a with | some q => some q | none => if ow0 ow a ≠ none then none else ow a) = some q := e
    cases z : ow' a with
    | some q' => rw [z] at e; exact .inl e
    | none =>
      rw [z] at e
      by_cases y : ow0 ow a = none
      · simp only [y, ne_eq, not_true_eq_false, if_false] at e; exact .inr ⟨e, y⟩
      · simp only [ne_eq, y, not_false_eq_true, if_true] at e; cases e
  have keep : ∀ a q o, ow a = some q → (∀ x, q ≠ .sl 0 x) → H a = some o → H' a = some o := fun a q o e n h => g.h a o (fun z => by obtain ⟨x, e2⟩ := ow0_ne z; rw [e] at e2; cases e2; exact n x rfl) h
  refine ⟨S.gr.trans g fun a m h0 => (own a m).resolve_right h0, by rw [hJ]; trivial, by rw [List.length_set]; exact S.len, w, ⟨fun a pl e => ?_, fun k b ds e => ?_⟩, fun j t e => ?_⟩
  · rcases w3 a pl e with e1 | ⟨e1, e2⟩
    · obtain ⟨c1, c2, x, c3⟩ := o'.c a pl e1
      refine ⟨c1, ?_, nj a, c2⟩
      rcases nw a (by rw [e1]; intro y; cases y) with y | y
      · exact (own a y).imp (fun m => ⟨⟨x, c3⟩, .inl m⟩) fun z => z
      · exact .inr (Classical.byContradiction fun z => S.gr.t a z y)
    · obtain ⟨a1, a2, a3, a4⟩ := h1.c a pl e1
      exact ⟨(g.n a a4).trans a1, a2, a3, g.t a a4⟩
  · exact (h1.h k b ds e).move g.b (fun b q => w2 b _ q fun x z => by cases z) fun b u q z => keep b _ u q (fun x z => by cases z) z
  · rcases set_at e with ⟨rfl, rfl, l⟩ | ⟨c, e⟩
    · obtain ⟨dx, fs, e1, e2, e3, e4, e5⟩ := o'.s
      refine ⟨dx, fs, by rw [List.getD_eq_getElem?_getD, eσ]; rfl, w1 _ _ e2, e3, Paired.mapP e4 fun _ _ z => ⟨z.1, z.2.move (Same.refl _) (fun a q => w1 _ _ q) fun a o _ y => y⟩, e5⟩
    · exact (h2 j t e).move g.b (fun b x q => w2 b _ q fun y z => by cases z; exact c rfl) fun b u x q z => keep b _ u q (fun y z => by cases z; exact c rfl) z
/-- a value, and self changed -/
def XW (X : Cx) (F : Fm) (e : Expr) (ε : Env) (Q : PyData → Env → Prop) : Prop := ∀ hd Hb H σ, SI F hd Hb H σ ε → ∀ Q' : VK, (∀ v d Hb' H' ε', Same Hb Hb' → SI F hd Hb' H' σ ε' → Dt Hb' v d → Q d ε' → Q' v H') → tSem X e σ H Q'
theorem xw_self {C f pp : Addr} {fl : List (Str × Fv)} {n m : Str} {Pre : List (Str × Fv) → List PyData → Prop} {Post : List (Str × Fv) → List PyData → List (Str × Fv) → PyData → Prop} {QX : PyData → Env → Prop} (h : Ok (bsOf X) k d' ps (spO C Pre Post)) (cl : Cls X.K C) (hm : Meth X.K C m (He.fAd X.K d'.at_)) (hF : IsN F)
    (ha : AW X F (e :: es) ε fun ds => Pre fl ds ∧ ∀ fl' r, Post fl ds fl' r → QX r (ε.set 0 (.obj pp C fl'))) (hε : ε[0]? = some (.obj pp C fl) := by rfl) (hlk : fl.lookup m = none := by rfl) (hro : ¬ F.ro := by assumption) (hr : Room k X.A := by exact Room.mono ‹_› (by decide)) (hN : X.N[0]? = some n := by rfl)
    (hv : Vis X.env.scope n := by first | exact Or.inl rfl | exact Or.inr (Or.inl rfl) | exact Or.inr (Or.inr rfl)) (hdg : (n == ("__debug__" : Str)) = false := by decide) (hcd : (n == ("__classdict__" : Str)) = false := by decide)
    (hst : starEach (e :: es) X.env = (false, eval e X.env) :: starEach es X.env := by rfl) (hpl : (backTo pos (starEach es X.env)).any (·.1) = false := by rfl)
    (ht : eval (.Call (.Attribute (.Name n p) m apos) (e :: es) [] pos) X.env = (do
      let ov ← eval (.Name n p) X.env
      standAt apos.atName
      let (f, first) ← holding [ov] (getMethod ov m (plainOf (.Name n p) X.env))
      callWith pos f first (backTo pos (starEach (e :: es) X.env)) (backToKw pos (keywordEach [] X.env))) := by rfl) : XW X F (.Call (.Attribute (.Name n p) m apos) (e :: es) [] pos) ε QX := fun hd Hb H σ S Q' q => by
  obtain ⟨⟨fd, hfb⟩, ok⟩ := h
  have ok := ok fd hfb
  obtain ⟨hf, hb⟩ := hfb
  obtain ⟨ow, h1, h2, ob, eσ⟩ := ob_of S hε
  obtain ⟨dx, fs, _, op, hp, hfl, nd⟩ := ob.s
  refine pe_run (pe_meth (X := X) (E := fun _ _ _ => True) (pe_var hN hv hdg hcd) cl hm ok hr hb .nil pass0 pa_sem hst hpl ht) ⟨_, eσ, pp, dx, fs, rfl, hp, fl_none hfl hlk, ha hd Hb H σ S _ fun vs ds Hb1 H1 S1 g1 r1 l1 ⟨pr, po⟩ => ?_⟩
  rw [List.append_nil]
  obtain ⟨ow1, k1, k2, ob1, eσ1⟩ := ob_of S1 hε
  exact ⟨Hb1, ow0 ow1, pp, fl, vs, ds, rfl, S1.si, r1, ob1, pr, fun v d Hb2 H2 ow' fl' g2 o2 nw r2 q2 => q v d Hb2 H2 _ (g1.b.trans g2.b) (self_back S1 hF hro k1 k2 eσ1 hε g2 o2 nw) r2 (po fl' d q2)⟩
theorem xw_self0 {C f pp : Addr} {fl : List (Str × Fv)} {n m : Str} {Pre : List (Str × Fv) → List PyData → Prop} {Post : List (Str × Fv) → List PyData → List (Str × Fv) → PyData → Prop} {QX : PyData → Env → Prop} (h : Ok (bsOf X) k d' ps (spO C Pre Post)) (cl : Cls X.K C) (hm : Meth X.K C m (He.fAd X.K d'.at_)) (hF : IsN F)
    (ha : Pre fl [] ∧ ∀ fl' r, Post fl [] fl' r → QX r (ε.set 0 (.obj pp C fl'))) (hε : ε[0]? = some (.obj pp C fl) := by rfl) (hlk : fl.lookup m = none := by rfl) (hro : ¬ F.ro := by assumption) (hr : Room k X.A := by exact Room.mono ‹_› (by decide)) (hN : X.N[0]? = some n := by rfl)
    (hv : Vis X.env.scope n := by first | exact Or.inl rfl | exact Or.inr (Or.inl rfl) | exact Or.inr (Or.inr rfl)) (hdg : (n == ("__debug__" : Str)) = false := by decide) (hcd : (n == ("__classdict__" : Str)) = false := by decide)
    (ht : eval (.Call (.Attribute (.Name n p) m apos) [] [] pos) X.env = (do
      let ov ← eval (.Name n p) X.env
      standAt apos.atName
      let (f, first) ← holding [ov] (getMethod ov m (plainOf (.Name n p) X.env))
      callWith pos f first (backTo pos (starEach [] X.env)) (backToKw pos (keywordEach [] X.env))) := by rfl) : XW X F (.Call (.Attribute (.Name n p) m apos) [] [] pos) ε QX := fun hd Hb H σ S Q' q => by
  obtain ⟨⟨fd, hfb⟩, ok⟩ := h
  have ok := ok fd hfb
  obtain ⟨hf, hb⟩ := hfb
  obtain ⟨ow, h1, h2, ob, eσ⟩ := ob_of S hε
  obtain ⟨dx, fs, _, op, hp, hfl, nd⟩ := ob.s
  refine pe_run (pe_meth0 (X := X) (E := fun _ _ _ => True) (pe_var hN hv hdg hcd) cl hm ok hr hb .nil pass0 ht) ⟨_, eσ, pp, dx, fs, rfl, hp, fl_none hfl hlk, ?_⟩
  exact ⟨Hb, ow0 ow, pp, fl, [], [], rfl, S.si, .nil, ob, ha.1, fun v d Hb2 H2 ow' fl' g2 o2 nw r2 q2 => q v d Hb2 H2 _ g2.b (self_back S hF hro h1 h2 eσ hε g2 o2 nw) r2 (ha.2 fl' d q2)⟩
theorem sw_exprX (h : XW X F e ε fun _ ε' => R.nx ε') (hs : swapsWith e none pos.line X.env = pure false := by rfl) : SW X F (.Expr e pos) ε R := fun hd Hb H σ S D k =>
  ps_run (ps_expr pe_sem hs) (h hd Hb H σ S _ fun v d Hb' H' ε' b S' r q => k.nx _ _ _ _ b S' q)
/-- tests that change self -/
def BX (X : Cx) (F : Fm) (e : Expr) (ε : Env) (Q : Bool → Env → Prop) : Prop := ∀ hd Hb H σ, SI F hd Hb H σ ε → ∀ Q' : Bool → Hp → Prop, (∀ b Hb' H' ε', Same Hb Hb' → SI F hd Hb' H' σ ε' → Q b ε' → Q' b H') → tSemT X e σ H Q'
variable {QX : Bool → Env → Prop}
theorem bx_val (h : XW X F e ε fun d ε' => ∃ k, d = .bool k ∧ QX k ε') (he : ∀ whole, isTrue e X.env whole = (do let v ← whole; standAt e.pos; holding [v] (truthy v)) := by intro _; rfl) : BX X F e ε QX := fun hd Hb H σ S Q' q =>
  pt_run (pt_val pe_sem he) (h hd Hb H σ S _ fun v d Hb' H' ε' b S' r ⟨k, ed, qk⟩ => by subst ed; exact ⟨k, dt_bl r, q k Hb' H' ε' b S' qk⟩)
theorem bx_or (h : BX X F a ε fun k ε1 => (k = true → QX true ε1) ∧ (k = false → BX X F b ε1 QX)) : BX X F (.BoolOp .Or [a, b] pos) ε QX := fun hd Hb H σ S Q' q => by
  refine pt_run (PW.pt (pw_or pt_sem (pw_or1 pt_sem))) (h hd Hb H σ S _ fun k Hb1 H1 ε1 b1 S1 z => ?_)
  cases k with
  | false => exact iteF ((z.2 rfl) hd Hb1 H1 σ S1 _ fun k Hb' H' ε' b S' z => q k Hb' H' ε' (b1.trans b) S' z)
  | true => exact iteT (q true Hb1 H1 ε1 b1 S1 (z.1 rfl))
theorem sw_ifX {x y : List Stmt} (h : BX X F c ε fun k ε' => (k = true → SWs X F x ε' R) ∧ (k = false → SWs X F y ε' R)) : SW X F (.If c x y pos) ε R := fun hd Hb H σ S D k =>
  ps_run (ps_if pt_sem pss_sem pss_sem) (h hd Hb H σ S _ fun b Hb' H' ε' sm S' z => by
    cases b with
    | true => exact iteT ((z.1 rfl) _ _ _ _ S' D (k.mono sm))
    | false => exact iteF ((z.2 rfl) _ _ _ _ S' D (k.mono sm)))
/-- methods that only read -/
theorem ew_self {C f pp : Addr} {fl : List (Str × Fv)} {n m : Str} {Pre : List (Str × Fv) → List PyData → Prop} {Post : List (Str × Fv) → List PyData → PyData → Prop} (h : Ok (bsOf X) k d' ps (spP C Pre Post)) (cl : Cls X.K C) (hm : Meth X.K C m (He.fAd X.K d'.at_))
    (ha : AW X F (e :: es) ε fun ds => Pre fl ds ∧ ∀ r, Post fl ds r → Q r) (hε : ε[0]? = some (.obj pp C fl) := by rfl) (hlk : fl.lookup m = none := by rfl) (hr : Room k X.A := by exact Room.mono ‹_› (by decide)) (hN : X.N[0]? = some n := by rfl)
    (hv : Vis X.env.scope n := by first | exact Or.inl rfl | exact Or.inr (Or.inl rfl) | exact Or.inr (Or.inr rfl)) (hdg : (n == ("__debug__" : Str)) = false := by decide) (hcd : (n == ("__classdict__" : Str)) = false := by decide)
    (hst : starEach (e :: es) X.env = (false, eval e X.env) :: starEach es X.env := by rfl) (hpl : (backTo pos (starEach es X.env)).any (·.1) = false := by rfl)
    (ht : eval (.Call (.Attribute (.Name n p) m apos) (e :: es) [] pos) X.env = (do
      let ov ← eval (.Name n p) X.env
      standAt apos.atName
      let (f, first) ← holding [ov] (getMethod ov m (plainOf (.Name n p) X.env))
      callWith pos f first (backTo pos (starEach (e :: es) X.env)) (backToKw pos (keywordEach [] X.env))) := by rfl) : EW X F (.Call (.Attribute (.Name n p) m apos) (e :: es) [] pos) ε Q := fun hd Hb H σ S Q' q => by
  obtain ⟨⟨fd, hfb⟩, ok⟩ := h
  have ok := ok fd hfb
  obtain ⟨hf, hb⟩ := hfb
  obtain ⟨ow, h1, h2, ob, eσ⟩ := ob_of S hε
  obtain ⟨dx, fs, _, op, hp, hfl, nd⟩ := ob.s
  refine pe_run (pe_meth (X := X) (E := fun _ _ _ => True) (pe_var hN hv hdg hcd) cl hm ok hr hb .nil pass0 pa_sem hst hpl ht) ⟨_, eσ, pp, dx, fs, rfl, hp, fl_none hfl hlk, ha hd Hb H σ S _ fun vs ds Hb1 H1 S1 g1 r1 l1 ⟨pr, po⟩ => ?_⟩
  rw [List.append_nil]
  obtain ⟨ow1, k1, k2, ob1, eσ1⟩ := ob_of S1 hε
  exact ⟨Hb1, ow0 ow1, pp, fl, vs, ds, rfl, S1.si, r1, ob1, pr, fun v d Hb2 H2 g2 r2 q2 => q v d Hb2 H2 (S1.grow g2) (g1.trans0 g2) r2 (po d q2)⟩
theorem ew_self0 {C f pp : Addr} {fl : List (Str × Fv)} {n m : Str} {Pre : List (Str × Fv) → List PyData → Prop} {Post : List (Str × Fv) → List PyData → PyData → Prop} (h : Ok (bsOf X) k d' ps (spP C Pre Post)) (cl : Cls X.K C) (hm : Meth X.K C m (He.fAd X.K d'.at_))
    (ha : Pre fl [] ∧ ∀ r, Post fl [] r → Q r) (hε : ε[0]? = some (.obj pp C fl) := by rfl) (hlk : fl.lookup m = none := by rfl) (hr : Room k X.A := by exact Room.mono ‹_› (by decide)) (hN : X.N[0]? = some n := by rfl)
    (hv : Vis X.env.scope n := by first | exact Or.inl rfl | exact Or.inr (Or.inl rfl) | exact Or.inr (Or.inr rfl)) (hdg : (n == ("__debug__" : Str)) = false := by decide) (hcd : (n == ("__classdict__" : Str)) = false := by decide)
    (ht : eval (.Call (.Attribute (.Name n p) m apos) [] [] pos) X.env = (do
      let ov ← eval (.Name n p) X.env
      standAt apos.atName
      let (f, first) ← holding [ov] (getMethod ov m (plainOf (.Name n p) X.env))
      callWith pos f first (backTo pos (starEach [] X.env)) (backToKw pos (keywordEach [] X.env))) := by rfl) : EW X F (.Call (.Attribute (.Name n p) m apos) [] [] pos) ε Q := fun hd Hb H σ S Q' q => by
  obtain ⟨⟨fd, hfb⟩, ok⟩ := h
  have ok := ok fd hfb
  obtain ⟨hf, hb⟩ := hfb
  obtain ⟨ow, h1, h2, ob, eσ⟩ := ob_of S hε
  obtain ⟨dx, fs, _, op, hp, hfl, nd⟩ := ob.s
  refine pe_run (pe_meth0 (X := X) (E := fun _ _ _ => True) (pe_var hN hv hdg hcd) cl hm ok hr hb .nil pass0 ht) ⟨_, eσ, pp, dx, fs, rfl, hp, fl_none hfl hlk, ?_⟩
  exact ⟨Hb, ow0 ow, pp, fl, [], [], rfl, S.si, .nil, ob, ha.1, fun v d Hb2 H2 g2 r2 q2 => q v d Hb2 H2 (S.grow g2) g2.up r2 (ha.2 d q2)⟩
end
end K78
/-! K78: the defs of the text, told by the head. Printed by gen_kj.py. -/
namespace K78
open PySem PySem.Spec L2
abbrev mb : List Stmt := PySem.Challenge.pw_toldpaths_k78_whole_telling_told.main.body
def top (i : Nat) : Stmt := mb.getD i (.Pass ⟨0, 0, 0, 0⟩)
def clsBody : Stmt → List Stmt
  | .ClassDef (body := b) .. => b
  | _ => []
def met (i j : Nat) : Stmt := (clsBody (top i)).getD j (.Pass ⟨0, 0, 0, 0⟩)
def d_is_list : He.DefD := ⟨("is_list", none), "is_list", "is_list", defArgs (top 11), defBody (top 11), defScope (top 11), [], []⟩
abbrev p_is_list : List Str := ["thing"]
abbrev n_is_list : List Str := ["thing"]
def d_is_manner : He.DefD := ⟨("is_manner", none), "is_manner", "is_manner", defArgs (top 12), defBody (top 12), defScope (top 12), [], []⟩
abbrev p_is_manner : List Str := ["thing"]
abbrev n_is_manner : List Str := ["thing"]
def d_is_rising : He.DefD := ⟨("is_rising", none), "is_rising", "is_rising", defArgs (top 13), defBody (top 13), defScope (top 13), [], []⟩
abbrev p_is_rising : List Str := ["text"]
abbrev n_is_rising : List Str := ["text", "one", "other"]
def d_parsed : He.DefD := ⟨("parsed", none), "parsed", "parsed", defArgs (top 14), defBody (top 14), defScope (top 14), [], []⟩
abbrev p_parsed : List Str := ["path"]
abbrev n_parsed : List Str := ["path", "found", "signs", "sign", "has_backs", "step", "mark"]
def d_is_path : He.DefD := ⟨("is_path", none), "is_path", "is_path", defArgs (top 15), defBody (top 15), defScope (top 15), [], []⟩
abbrev p_is_path : List Str := ["manner", "thing"]
abbrev n_is_path : List Str := ["manner", "thing", "found", "mark", "step"]
def d_steps : He.DefD := ⟨("steps", none), "steps", "steps", defArgs (top 16), defBody (top 16), defScope (top 16), [], []⟩
abbrev p_steps : List Str := ["path"]
abbrev n_steps : List Str := ["path", "found"]
def d_marks : He.DefD := ⟨("marks", none), "marks", "marks", defArgs (top 17), defBody (top 17), defScope (top 17), [], []⟩
abbrev p_marks : List Str := ["path"]
abbrev n_marks : List Str := ["path", "found"]
def d_turned_step : He.DefD := ⟨("turned_step", none), "turned_step", "turned_step", defArgs (top 18), defBody (top 18), defScope (top 18), [], []⟩
abbrev p_turned_step : List Str := ["step"]
abbrev n_turned_step : List Str := ["step"]
def d_back_word : He.DefD := ⟨("back_word", none), "back_word", "back_word", defArgs (top 19), defBody (top 19), defScope (top 19), [], []⟩
abbrev p_back_word : List Str := ["word"]
abbrev n_back_word : List Str := ["word", "step"]
def d_reduced_word : He.DefD := ⟨("reduced_word", none), "reduced_word", "reduced_word", defArgs (top 20), defBody (top 20), defScope (top 20), [], []⟩
abbrev p_reduced_word : List Str := ["word"]
abbrev n_reduced_word : List Str := ["word", "found", "step"]
def d_in_order : He.DefD := ⟨("in_order", none), "in_order", "in_order", defArgs (top 21), defBody (top 21), defScope (top 21), [], []⟩
abbrev p_in_order : List Str := ["words"]
abbrev n_in_order : List Str := ["words", "found", "word"]
def d_tree_of : He.DefD := ⟨("tree_of", none), "tree_of", "tree_of", defArgs (top 22), defBody (top 22), defScope (top 22), [], []⟩
abbrev p_tree_of : List Str := ["word"]
abbrev n_tree_of : List Str := ["word", "found", "here", "step"]
def d_fits : He.DefD := ⟨("fits", none), "fits", "fits", defArgs (top 24), defBody (top 24), defScope (top 24), [], []⟩
abbrev p_fits : List Str := ["path", "i", "kept"]
abbrev n_fits : List Str := ["path", "i", "kept", "found", "wanted", "j", "own", "signs", "digit"]
def d_line_bridges : He.DefD := ⟨("line_bridges", none), "line_bridges", "line_bridges", defArgs (top 25), defBody (top 25), defScope (top 25), [], []⟩
abbrev p_line_bridges : List Str := ["kept", "path"]
abbrev n_line_bridges : List Str := ["kept", "path", "found", "last", "index", "word", "far", "i"]
def d_Line_init : He.DefD := ⟨("Line", some "__init__"), "__init__", "Line.__init__", defArgs (met 26 0), defBody (met 26 0), defScope (met 26 0), [], []⟩
abbrev p_Line_init : List Str := ["self", "kept", "path"]
abbrev n_Line_init : List Str := ["self", "kept", "path", "is_changed", "index", "i", "j"]
def d_Line_leads : He.DefD := ⟨("Line", some "leads"), "leads", "Line.leads", defArgs (met 26 1), defBody (met 26 1), defScope (met 26 1), [], []⟩
abbrev p_Line_leads : List Str := ["self", "here", "there", "pair", "backs"]
abbrev n_Line_leads : List Str := ["self", "here", "there", "pair", "backs", "cost"]
def d_Line_told_plan : He.DefD := ⟨("Line", some "told_plan"), "told_plan", "Line.told_plan", defArgs (met 26 2), defBody (met 26 2), defScope (met 26 2), [], []⟩
abbrev p_Line_told_plan : List Str := ["self"]
abbrev n_Line_told_plan : List Str := ["self", "found", "place", "pair"]
def d_Tree_init : He.DefD := ⟨("Tree", some "__init__"), "__init__", "Tree.__init__", defArgs (met 27 0), defBody (met 27 0), defScope (met 27 0), [], []⟩
abbrev p_Tree_init : List Str := ["self", "kept", "path"]
abbrev n_Tree_init : List Str := ["self", "kept", "path"]
def d_Tree_goes_around : He.DefD := ⟨("Tree", some "goes_around"), "goes_around", "Tree.goes_around", defArgs (met 27 1), defBody (met 27 1), defScope (met 27 1), [], []⟩
abbrev p_Tree_goes_around : List Str := ["self", "place"]
abbrev n_Tree_goes_around : List Str := ["self", "place", "index", "word", "way", "steps_there", "cover", "there", "bridge", "one"]
def d_Tree_takes : He.DefD := ⟨("Tree", some "takes"), "takes", "Tree.takes", defArgs (met 27 2), defBody (met 27 2), defScope (met 27 2), [], []⟩
abbrev p_Tree_takes : List Str := ["self", "pair", "place", "there", "cover"]
abbrev n_Tree_takes : List Str := ["self", "pair", "place", "there", "cover", "one"]
def d_Tree_told_plan : He.DefD := ⟨("Tree", some "told_plan"), "told_plan", "Tree.told_plan", defArgs (met 27 3), defBody (met 27 3), defScope (met 27 3), [], []⟩
abbrev p_Tree_told_plan : List Str := ["self"]
abbrev n_Tree_told_plan : List Str := ["self"]
def d_opposite : He.DefD := ⟨("opposite", none), "opposite", "opposite", defArgs (top 29), defBody (top 29), defScope (top 29), [], []⟩
abbrev p_opposite : List Str := ["pairs"]
abbrev n_opposite : List Str := ["pairs", "index", "way"]
def d_shortened : He.DefD := ⟨("shortened", none), "shortened", "shortened", defArgs (top 30), defBody (top 30), defScope (top 30), [], []⟩
abbrev p_shortened : List Str := ["pairs"]
abbrev n_shortened : List Str := ["pairs", "found", "index", "way"]
def d_Fold_init : He.DefD := ⟨("Fold", some "__init__"), "__init__", "Fold.__init__", defArgs (met 31 0), defBody (met 31 0), defScope (met 31 0), [], []⟩
abbrev p_Fold_init : List Str := ["self", "kept", "has_pairs"]
abbrev n_Fold_init : List Str := ["self", "kept", "has_pairs", "index", "word"]
def d_Fold_adds : He.DefD := ⟨("Fold", some "adds"), "adds", "Fold.adds", defArgs (met 31 1), defBody (met 31 1), defScope (met 31 1), [], []⟩
abbrev p_Fold_adds : List Str := ["self", "room", "step", "other", "pairs"]
abbrev n_Fold_adds : List Str := ["self", "room", "step", "other", "pairs"]
def d_Fold_adds_round : He.DefD := ⟨("Fold", some "adds_round"), "adds_round", "Fold.adds_round", defArgs (met 31 2), defBody (met 31 2), defScope (met 31 2), [], []⟩
abbrev p_Fold_adds_round : List Str := ["self", "word", "pairs"]
abbrev n_Fold_adds_round : List Str := ["self", "word", "pairs", "here", "at", "step", "there"]
def d_Fold_folds : He.DefD := ⟨("Fold", some "folds"), "folds", "Fold.folds", defArgs (met 31 4), defBody (met 31 4), defScope (met 31 4), [], []⟩
abbrev p_Fold_folds : List Str := ["self"]
abbrev n_Fold_folds : List Str := ["self", "clash", "gone", "kept_room", "pairs"]
def d_Fold_clash : He.DefD := ⟨("Fold", some "clash"), "clash", "Fold.clash", defArgs (met 31 5), defBody (met 31 5), defScope (met 31 5), [], []⟩
abbrev p_Fold_clash : List Str := ["self"]
abbrev n_Fold_clash : List Str := ["self", "at", "one", "other"]
def d_Fold_puts : He.DefD := ⟨("Fold", some "puts"), "puts", "Fold.puts", defArgs (met 31 6), defBody (met 31 6), defScope (met 31 6), [], []⟩
abbrev p_Fold_puts : List Str := ["self", "gone", "kept_room", "pairs"]
abbrev n_Fold_puts : List Str := ["self", "gone", "kept_room", "pairs", "found", "known", "room", "letter", "other", "own"]
def d_Fold_step : He.DefD := ⟨("Fold", some "step"), "step", "Fold.step", defArgs (met 31 7), defBody (met 31 7), defScope (met 31 7), [], []⟩
abbrev p_Fold_step : List Str := ["self", "room", "step"]
abbrev n_Fold_step : List Str := ["self", "room", "step", "one", "letter", "other", "pairs"]
def d_Fold_walked : He.DefD := ⟨("Fold", some "walked"), "walked", "Fold.walked", defArgs (met 31 8), defBody (met 31 8), defScope (met 31 8), [], []⟩
abbrev p_Fold_walked : List Str := ["self", "word"]
abbrev n_Fold_walked : List Str := ["self", "word", "here", "found", "step", "led"]
def d_Fold_told_plan : He.DefD := ⟨("Fold", some "told_plan"), "told_plan", "Fold.told_plan", defArgs (met 31 9), defBody (met 31 9), defScope (met 31 9), [], []⟩
abbrev p_Fold_told_plan : List Str := ["self", "word"]
abbrev n_Fold_told_plan : List Str := ["self", "word", "found"]
def d_parted : He.DefD := ⟨("parted", none), "parted", "parted", defArgs (top 32), defBody (top 32), defScope (top 32), [], []⟩
abbrev p_parted : List Str := ["stays", "goes", "pairs", "turned_pairs"]
abbrev n_parted : List Str := ["stays", "goes", "pairs", "turned_pairs"]
def d_plan_of : He.DefD := ⟨("plan_of", none), "plan_of", "plan_of", defArgs (top 34), defBody (top 34), defScope (top 34), [], []⟩
abbrev p_plan_of : List Str := ["manner", "kept", "path"]
abbrev n_plan_of : List Str := ["manner", "kept", "path"]
def d_tells_path : He.DefD := ⟨("tells_path", none), "tells_path", "tells_path", defArgs (top 35), defBody (top 35), defScope (top 35), [], []⟩
abbrev p_tells_path : List Str := ["manner", "kept", "path"]
abbrev n_tells_path : List Str := ["manner", "kept", "path"]
def d_parts_of : He.DefD := ⟨("parts_of", none), "parts_of", "parts_of", defArgs (top 37), defBody (top 37), defScope (top 37), [], []⟩
abbrev p_parts_of : List Str := ["many"]
abbrev n_parts_of : List Str := ["many", "found", "at", "part"]
def d_is_hand : He.DefD := ⟨("is_hand", none), "is_hand", "is_hand", defArgs (top 41), defBody (top 41), defScope (top 41), [], []⟩
abbrev p_is_hand : List Str := ["manner", "thing"]
abbrev n_is_hand : List Str := ["manner", "thing", "at", "path"]
def d_checked_hands : He.DefD := ⟨("checked_hands", none), "checked_hands", "checked_hands", defArgs (top 42), defBody (top 42), defScope (top 42), [], []⟩
abbrev p_checked_hands : List Str := ["manner", "hands"]
abbrev n_checked_hands : List Str := ["manner", "hands", "index", "hand"]
def d_checked_path_of : He.DefD := ⟨("checked_path_of", none), "checked_path_of", "checked_path_of", defArgs (top 43), defBody (top 43), defScope (top 43), [], []⟩
abbrev p_checked_path_of : List Str := ["manner", "path"]
abbrev n_checked_path_of : List Str := ["manner", "path"]
def d_known_to : He.DefD := ⟨("known_to", none), "known_to", "known_to", defArgs (top 44), defBody (top 44), defScope (top 44), [], []⟩
abbrev p_known_to : List Str := ["hands", "group"]
abbrev n_known_to : List Str := ["hands", "group", "found", "at", "path"]
def d_telling : He.DefD := ⟨("telling", none), "telling", "telling", defArgs (top 45), defBody (top 45), defScope (top 45), [], []⟩
abbrev p_telling : List Str := ["manner", "hands", "path"]
abbrev n_telling : List Str := ["manner", "hands", "path", "known", "found", "group", "less", "at"]
def d_law_fresh : He.DefD := ⟨("_law_fresh", none), "_law_fresh", "_law_fresh", defArgs (top 47), defBody (top 47), defScope (top 47), [], []⟩
abbrev p_law_fresh : List Str := ["_law_script"]
abbrev n_law_fresh : List Str := ["_law_script"]
def d_law_fill : He.DefD := ⟨("_law_fill", none), "_law_fill", "_law_fill", defArgs (top 48), defBody (top 48), defScope (top 48), [], []⟩
abbrev p_law_fill : List Str := ["_law_state"]
abbrev n_law_fill : List Str := ["_law_state", "_law_cells", "_law_nth", "_law_seed", "_law_k", "_law_prime", "_law_far"]
def d_law_take : He.DefD := ⟨("_law_take", none), "_law_take", "_law_take", defArgs (top 49), defBody (top 49), defScope (top 49), [], []⟩
abbrev p_law_take : List Str := ["_law_state", "_law_many"]
abbrev n_law_take : List Str := ["_law_state", "_law_many", "_law_laps", "_law_digit"]
def d_law_one : He.DefD := ⟨("_law_one", none), "_law_one", "_law_one", defArgs (top 50), defBody (top 50), defScope (top 50), [], []⟩
abbrev p_law_one : List Str := ["_law_state", "_law_things"]
abbrev n_law_one : List Str := ["_law_state", "_law_things"]
def d_law_handed : He.DefD := ⟨("_law_handed", none), "_law_handed", "_law_handed", defArgs (top 51), defBody (top 51), defScope (top 51), [], []⟩
abbrev p_law_handed : List Str := ["_law_state", "_law_things"]
abbrev n_law_handed : List Str := ["_law_state", "_law_things"]
def d_law_same : He.DefD := ⟨("_law_same", none), "_law_same", "_law_same", defArgs (top 52), defBody (top 52), defScope (top 52), [], []⟩
abbrev p_law_same : List Str := ["_law_found", "_law_due"]
abbrev n_law_same : List Str := ["_law_found", "_law_due", "_law_a", "_law_b"]
def d_law_read : He.DefD := ⟨("_law_read", none), "_law_read", "_law_read", defArgs (top 53), defBody (top 53), defScope (top 53), [], []⟩
abbrev p_law_read : List Str := ["_law_x"]
abbrev n_law_read : List Str := ["_law_x", "_law_letters", "_law_digits", "_law_sign", "_law_is_up", "_law_is_plain", "_law_d"]
def d_law_word : He.DefD := ⟨("_law_word", none), "_law_word", "_law_word", defArgs (top 54), defBody (top 54), defScope (top 54), [], []⟩
abbrev p_law_word : List Str := ["_law_state", "_law_manner", "_law_letters", "_law_many"]
abbrev n_law_word : List Str := ["_law_state", "_law_manner", "_law_letters", "_law_many", "_law_found", "_law_k", "_law_step"]
def d_law_marked : He.DefD := ⟨("_law_marked", none), "_law_marked", "_law_marked", defArgs (top 55), defBody (top 55), defScope (top 55), [], []⟩
abbrev p_law_marked : List Str := ["_law_state", "_law_word_here", "_law_digits", "_law_most"]
abbrev n_law_marked : List Str := ["_law_state", "_law_word_here", "_law_digits", "_law_most", "_law_found", "_law_left", "_law_sign", "_law_mark", "_law_d"]
def d_law_path : He.DefD := ⟨("_law_path", none), "_law_path", "_law_path", defArgs (top 56), defBody (top 56), defScope (top 56), [], []⟩
abbrev p_law_path : List Str := ["_law_state", "_law_manner", "_law_letters", "_law_many"]
abbrev n_law_path : List Str := ["_law_state", "_law_manner", "_law_letters", "_law_many", "_law_word_here"]
def d_law_turn : He.DefD := ⟨("_law_turn", none), "_law_turn", "_law_turn", defArgs (top 57), defBody (top 57), defScope (top 57), [], []⟩
abbrev p_law_turn : List Str := ["_law_sign"]
abbrev n_law_turn : List Str := ["_law_sign"]
def d_law_back : He.DefD := ⟨("_law_back", none), "_law_back", "_law_back", defArgs (top 58), defBody (top 58), defScope (top 58), [], []⟩
abbrev p_law_back : List Str := ["_law_word_here"]
abbrev n_law_back : List Str := ["_law_word_here", "_law_sign"]
def d_law_short : He.DefD := ⟨("_law_short", none), "_law_short", "_law_short", defArgs (top 59), defBody (top 59), defScope (top 59), [], []⟩
abbrev p_law_short : List Str := ["_law_word_here"]
abbrev n_law_short : List Str := ["_law_word_here", "_law_found", "_law_sign"]
def d_law_tree : He.DefD := ⟨("_law_tree", none), "_law_tree", "_law_tree", defArgs (top 60), defBody (top 60), defScope (top 60), [], []⟩
abbrev p_law_tree : List Str := ["_law_word_here"]
abbrev n_law_tree : List Str := ["_law_word_here", "_law_found", "_law_here", "_law_sign"]
def d_law_fits : He.DefD := ⟨("_law_fits", none), "_law_fits", "_law_fits", defArgs (top 61), defBody (top 61), defScope (top 61), [], []⟩
abbrev p_law_fits : List Str := ["_law_path_here", "_law_i", "_law_kept"]
abbrev n_law_fits : List Str := ["_law_path_here", "_law_i", "_law_kept", "_law_letters", "_law_digits", "_law_own", "_law_marked_here", "_law_j", "_law_d"]
def d_law_made : He.DefD := ⟨("_law_made", none), "_law_made", "_law_made", defArgs (top 62), defBody (top 62), defScope (top 62), [], []⟩
abbrev p_law_made : List Str := ["_law_kept", "_law_plan"]
abbrev n_law_made : List Str := ["_law_kept", "_law_plan", "_law_index", "_law_way"]
def d_law_twisted : He.DefD := ⟨("_law_twisted", none), "_law_twisted", "_law_twisted", defArgs (top 63), defBody (top 63), defScope (top 63), [], []⟩
abbrev p_law_twisted : List Str := ["_law_state", "_law_manner", "_law_letters"]
abbrev n_law_twisted : List Str := ["_law_state", "_law_manner", "_law_letters", "_law_kept", "_law_k", "_law_word_here", "_law_plan", "_law_path_here"]
def d_law_pieces : He.DefD := ⟨("_law_pieces", none), "_law_pieces", "_law_pieces", defArgs (top 64), defBody (top 64), defScope (top 64), [], []⟩
abbrev p_law_pieces : List Str := ["_law_state", "_law_path_here", "_law_many"]
abbrev n_law_pieces : List Str := ["_law_state", "_law_path_here", "_law_many", "_law_letters", "_law_digits", "_law_found", "_law_k", "_law_i", "_law_j", "_law_marks_here", "_law_kept", "_law_x", "_law_d"]
def d_law_reached : He.DefD := ⟨("_law_reached", none), "_law_reached", "_law_reached", defArgs (top 65), defBody (top 65), defScope (top 65), [], []⟩
abbrev p_law_reached : List Str := ["_law_path_here", "_law_kept"]
abbrev n_law_reached : List Str := ["_law_path_here", "_law_kept", "_law_last", "_law_costs", "_law_bridges", "_law_word_here", "_law_far", "_law_turn_here", "_law_i", "_law_j", "_law_here", "_law_there", "_law_backs", "_law_cost"]
def d_law_made_here : He.DefD := ⟨("_law_made_here", none), "_law_made_here", "_law_made_here", defArgs (top 66), defBody (top 66), defScope (top 66), [], []⟩
abbrev p_law_made_here : List Str := ["_law_place", "_law_word_here"]
abbrev n_law_made_here : List Str := ["_law_place", "_law_word_here", "_law_k"]
def d_law_told_tree : He.DefD := ⟨("_law_told_tree", none), "_law_told_tree", "_law_told_tree", defArgs (top 67), defBody (top 67), defScope (top 67), [], []⟩
abbrev p_law_told_tree : List Str := ["_law_kept", "_law_path_here"]
abbrev n_law_told_tree : List Str := ["_law_kept", "_law_path_here", "_law_places", "_law_near", "_law_covered", "_law_turn_here", "_law_known", "_law_place", "_law_word_here", "_law_over", "_law_x"]
def d_law_clash : He.DefD := ⟨("_law_clash", none), "_law_clash", "_law_clash", defArgs (top 68), defBody (top 68), defScope (top 68), [], []⟩
abbrev p_law_clash : List Str := ["_law_edges"]
abbrev n_law_clash : List Str := ["_law_edges", "_law_k", "_law_x", "_law_y"]
def d_law_folded : He.DefD := ⟨("_law_folded", none), "_law_folded", "_law_folded", defArgs (top 69), defBody (top 69), defScope (top 69), [], []⟩
abbrev p_law_folded : List Str := ["_law_kept"]
abbrev n_law_folded : List Str := ["_law_kept", "_law_edges", "_law_many", "_law_word_here", "_law_here", "_law_k", "_law_step", "_law_there", "_law_turn_here", "_law_clash_here", "_law_low", "_law_high", "_law_later", "_law_x", "_law_letter", "_law_y", "_law_edge"]
def d_law_room : He.DefD := ⟨("_law_room", none), "_law_room", "_law_room", defArgs (top 70), defBody (top 70), defScope (top 70), [], []⟩
abbrev p_law_room : List Str := ["_law_edges", "_law_here", "_law_step"]
abbrev n_law_room : List Str := ["_law_edges", "_law_here", "_law_step", "_law_x", "_law_letter", "_law_y"]
def d_law_told_turned : He.DefD := ⟨("_law_told_turned", none), "_law_told_turned", "_law_told_turned", defArgs (top 71), defBody (top 71), defScope (top 71), [], []⟩
abbrev p_law_told_turned : List Str := ["_law_kept", "_law_path_here"]
abbrev n_law_told_turned : List Str := ["_law_kept", "_law_path_here", "_law_edges", "_law_here", "_law_step"]
def d_law_is_told : He.DefD := ⟨("_law_is_told", none), "_law_is_told", "_law_is_told", defArgs (top 72), defBody (top 72), defScope (top 72), [], []⟩
abbrev p_law_is_told : List Str := ["_law_manner", "_law_kept", "_law_path_here"]
abbrev n_law_is_told : List Str := ["_law_manner", "_law_kept", "_law_path_here"]
def d_law_some_kept : He.DefD := ⟨("_law_some_kept", none), "_law_some_kept", "_law_some_kept", defArgs (top 73), defBody (top 73), defScope (top 73), [], []⟩
abbrev p_law_some_kept : List Str := ["_law_state", "_law_manner", "_law_most"]
abbrev n_law_some_kept : List Str := ["_law_state", "_law_manner", "_law_most", "_law_kept", "_law_path_here"]
def d_law_fewer : He.DefD := ⟨("_law_fewer", none), "_law_fewer", "_law_fewer", defArgs (top 74), defBody (top 74), defScope (top 74), [], []⟩
abbrev p_law_fewer : List Str := ["_law_state", "_law_mark"]
abbrev n_law_fewer : List Str := ["_law_state", "_law_mark", "_law_d"]
def d_law_hands : He.DefD := ⟨("_law_hands", none), "_law_hands", "_law_hands", defArgs (top 75), defBody (top 75), defScope (top 75), [], []⟩
abbrev p_law_hands : List Str := ["_law_state", "_law_manner", "_law_most"]
abbrev n_law_hands : List Str := ["_law_state", "_law_manner", "_law_most", "_law_kept", "_law_path_here", "_law_hands_here", "_law_word_here", "_law_hand", "_law_k"]
def d_law : He.DefD := ⟨("law", none), "law", "law", defArgs (top 76), defBody (top 76), defScope (top 76), [], []⟩
abbrev p_law : List Str := ["_law_script"]
abbrev n_law : List Str := ["_law_script", "_law_state", "_law_turn_here", "_law_manner", "_law_hands_here", "_law_path_here", "_law_lists", "_law_right", "_law_k", "_law_group", "_law_known", "_law_due", "_law_told", "_law_x", "_law_word_here", "_law_y"]
def fn : List He.DefD := [d_is_list, d_is_manner, d_is_rising, d_parsed, d_is_path, d_steps, d_marks, d_turned_step, d_back_word, d_reduced_word, d_in_order, d_tree_of, d_fits, d_line_bridges, d_Line_init, d_Line_leads, d_Line_told_plan, d_Tree_init, d_Tree_goes_around, d_Tree_takes, d_Tree_told_plan, d_opposite, d_shortened, d_Fold_init, d_Fold_adds, d_Fold_adds_round, d_Fold_folds, d_Fold_clash, d_Fold_puts, d_Fold_step, d_Fold_walked, d_Fold_told_plan, d_parted, d_plan_of, d_tells_path, d_parts_of, d_is_hand, d_checked_hands, d_checked_path_of, d_known_to, d_telling, d_law_fresh, d_law_fill, d_law_take, d_law_one, d_law_handed, d_law_same, d_law_read, d_law_word, d_law_marked, d_law_path, d_law_turn, d_law_back, d_law_short, d_law_tree, d_law_fits, d_law_made, d_law_twisted, d_law_pieces, d_law_reached, d_law_made_here, d_law_told_tree, d_law_clash, d_law_folded, d_law_room, d_law_told_turned, d_law_is_told, d_law_some_kept, d_law_fewer, d_law_hands, d_law]
def fa : List He.Fa := [.glo "is_list", .glo "is_manner", .glo "is_rising", .glo "parsed", .glo "is_path", .glo "steps", .glo "marks", .glo "turned_step", .glo "back_word", .glo "reduced_word", .glo "in_order", .glo "tree_of", .glo "fits", .glo "line_bridges", .glo "opposite", .glo "shortened", .glo "parted", .glo "plan_of", .glo "tells_path", .glo "parts_of", .glo "is_hand", .glo "checked_hands", .glo "checked_path_of", .glo "known_to", .glo "telling", .glo "_law_fresh", .glo "_law_fill", .glo "_law_take", .glo "_law_one", .glo "_law_handed", .glo "_law_same", .glo "_law_read", .glo "_law_word", .glo "_law_marked", .glo "_law_path", .glo "_law_turn", .glo "_law_back", .glo "_law_short", .glo "_law_tree", .glo "_law_fits", .glo "_law_made", .glo "_law_twisted", .glo "_law_pieces", .glo "_law_reached", .glo "_law_made_here", .glo "_law_told_tree", .glo "_law_clash", .glo "_law_folded", .glo "_law_room", .glo "_law_told_turned", .glo "_law_is_told", .glo "_law_some_kept", .glo "_law_fewer", .glo "_law_hands", .glo "law", .glo "Line", .glo "Tree", .glo "Fold", .free "isinstance", .free "len", .free "all", .free "any", .free "zip", .free "enumerate", .free "range", .free "sorted", .free "min", .free "max", .free "int", .free "str", .free "list", .free "tuple", .free "bool", .str "SMALL" "abcdefghijklmnopqrstuvwxyz", .str "CAPITAL" "ABCDEFGHIJKLMNOPQRSTUVWXYZ", .str "DIGITS" "0123456789", .int "MOST_HANDS" 6, .int "MOST_KNOWN" 4, .cls "Line", .mkr "Line", .noat "Line" "last", .noat "Line" "bridges", .noat "Line" "costs", .noat "Line" "came", .cls "Tree", .mkr "Tree", .noat "Tree" "places", .noat "Tree" "end", .noat "Tree" "words", .noat "Tree" "taken", .noat "Tree" "walk", .noat "Tree" "ways", .noat "Tree" "covered", .cls "Fold", .mkr "Fold", .noat "Fold" "many", .noat "Fold" "edges", .meth "Line" "__init__", .meth "Line" "leads", .meth "Line" "told_plan", .meth "Tree" "__init__", .meth "Tree" "goes_around", .meth "Tree" "takes", .meth "Tree" "told_plan", .meth "Fold" "__init__", .meth "Fold" "adds", .meth "Fold" "adds_round", .meth "Fold" "folds", .meth "Fold" "clash", .meth "Fold" "puts", .meth "Fold" "step", .meth "Fold" "walked", .meth "Fold" "told_plan"]
def exB (K : Frag) : Bool := He.tupB K "MANNERS" [.str "any", .str "matched", .str "turned"] && He.Fa.ok K (.glo "MANNERS")
/-- what the head tells -/
def Told (B : Bs) : Prop := ∃ h, B.K.In h ∧ h.Ns mainGlobals B.mg ∧ He.SaysD fa fn B.K ∧ exB B.K = true
section
variable {B : Bs}
theorem s_is_list : FnScope n_is_list p_is_list d_is_list.scope := ⟨rfl, rfl, rfl, by decide +kernel, rfl, by decide +kernel, by decide +kernel⟩
theorem h_is_list (T : Told B) : ∃ fd, Has B d_is_list p_is_list fd := by
  obtain ⟨h, _, _, c, _⟩ := T
  obtain ⟨fd, F⟩ := c.def_ 0 (d := d_is_list) rfl
  exact ⟨fd, F, FunD.bindsN F fun _ _ _ _ _ _ us hl => match us, hl with | [_], _ => rfl⟩
theorem s_is_manner : FnScope n_is_manner p_is_manner d_is_manner.scope := ⟨rfl, rfl, rfl, by decide +kernel, rfl, by decide +kernel, by decide +kernel⟩
theorem h_is_manner (T : Told B) : ∃ fd, Has B d_is_manner p_is_manner fd := by
  obtain ⟨h, _, _, c, _⟩ := T
  obtain ⟨fd, F⟩ := c.def_ 1 (d := d_is_manner) rfl
  exact ⟨fd, F, FunD.bindsN F fun _ _ _ _ _ _ us hl => match us, hl with | [_], _ => rfl⟩
theorem s_is_rising : FnScope n_is_rising p_is_rising d_is_rising.scope := ⟨rfl, rfl, rfl, by decide +kernel, rfl, by decide +kernel, by decide +kernel⟩
theorem h_is_rising (T : Told B) : ∃ fd, Has B d_is_rising p_is_rising fd := by
  obtain ⟨h, _, _, c, _⟩ := T
  obtain ⟨fd, F⟩ := c.def_ 2 (d := d_is_rising) rfl
  exact ⟨fd, F, FunD.bindsN F fun _ _ _ _ _ _ us hl => match us, hl with | [_], _ => rfl⟩
theorem s_parsed : FnScope n_parsed p_parsed d_parsed.scope := ⟨rfl, rfl, rfl, by decide +kernel, rfl, by decide +kernel, by decide +kernel⟩
theorem h_parsed (T : Told B) : ∃ fd, Has B d_parsed p_parsed fd := by
  obtain ⟨h, _, _, c, _⟩ := T
  obtain ⟨fd, F⟩ := c.def_ 3 (d := d_parsed) rfl
  exact ⟨fd, F, FunD.bindsN F fun _ _ _ _ _ _ us hl => match us, hl with | [_], _ => rfl⟩
theorem s_is_path : FnScope n_is_path p_is_path d_is_path.scope := ⟨rfl, rfl, rfl, by decide +kernel, rfl, by decide +kernel, by decide +kernel⟩
theorem h_is_path (T : Told B) : ∃ fd, Has B d_is_path p_is_path fd := by
  obtain ⟨h, _, _, c, _⟩ := T
  obtain ⟨fd, F⟩ := c.def_ 4 (d := d_is_path) rfl
  exact ⟨fd, F, FunD.bindsN F fun _ _ _ _ _ _ us hl => match us, hl with | [_, _], _ => rfl⟩
theorem s_steps : FnScope n_steps p_steps d_steps.scope := ⟨rfl, rfl, rfl, by decide +kernel, rfl, by decide +kernel, by decide +kernel⟩
theorem h_steps (T : Told B) : ∃ fd, Has B d_steps p_steps fd := by
  obtain ⟨h, _, _, c, _⟩ := T
  obtain ⟨fd, F⟩ := c.def_ 5 (d := d_steps) rfl
  exact ⟨fd, F, FunD.bindsN F fun _ _ _ _ _ _ us hl => match us, hl with | [_], _ => rfl⟩
theorem s_marks : FnScope n_marks p_marks d_marks.scope := ⟨rfl, rfl, rfl, by decide +kernel, rfl, by decide +kernel, by decide +kernel⟩
theorem h_marks (T : Told B) : ∃ fd, Has B d_marks p_marks fd := by
  obtain ⟨h, _, _, c, _⟩ := T
  obtain ⟨fd, F⟩ := c.def_ 6 (d := d_marks) rfl
  exact ⟨fd, F, FunD.bindsN F fun _ _ _ _ _ _ us hl => match us, hl with | [_], _ => rfl⟩
theorem s_turned_step : FnScope n_turned_step p_turned_step d_turned_step.scope := ⟨rfl, rfl, rfl, by decide +kernel, rfl, by decide +kernel, by decide +kernel⟩
theorem h_turned_step (T : Told B) : ∃ fd, Has B d_turned_step p_turned_step fd := by
  obtain ⟨h, _, _, c, _⟩ := T
  obtain ⟨fd, F⟩ := c.def_ 7 (d := d_turned_step) rfl
  exact ⟨fd, F, FunD.bindsN F fun _ _ _ _ _ _ us hl => match us, hl with | [_], _ => rfl⟩
theorem s_back_word : FnScope n_back_word p_back_word d_back_word.scope := ⟨rfl, rfl, rfl, by decide +kernel, rfl, by decide +kernel, by decide +kernel⟩
theorem h_back_word (T : Told B) : ∃ fd, Has B d_back_word p_back_word fd := by
  obtain ⟨h, _, _, c, _⟩ := T
  obtain ⟨fd, F⟩ := c.def_ 8 (d := d_back_word) rfl
  exact ⟨fd, F, FunD.bindsN F fun _ _ _ _ _ _ us hl => match us, hl with | [_], _ => rfl⟩
theorem s_reduced_word : FnScope n_reduced_word p_reduced_word d_reduced_word.scope := ⟨rfl, rfl, rfl, by decide +kernel, rfl, by decide +kernel, by decide +kernel⟩
theorem h_reduced_word (T : Told B) : ∃ fd, Has B d_reduced_word p_reduced_word fd := by
  obtain ⟨h, _, _, c, _⟩ := T
  obtain ⟨fd, F⟩ := c.def_ 9 (d := d_reduced_word) rfl
  exact ⟨fd, F, FunD.bindsN F fun _ _ _ _ _ _ us hl => match us, hl with | [_], _ => rfl⟩
theorem s_in_order : FnScope n_in_order p_in_order d_in_order.scope := ⟨rfl, rfl, rfl, by decide +kernel, rfl, by decide +kernel, by decide +kernel⟩
theorem h_in_order (T : Told B) : ∃ fd, Has B d_in_order p_in_order fd := by
  obtain ⟨h, _, _, c, _⟩ := T
  obtain ⟨fd, F⟩ := c.def_ 10 (d := d_in_order) rfl
  exact ⟨fd, F, FunD.bindsN F fun _ _ _ _ _ _ us hl => match us, hl with | [_], _ => rfl⟩
theorem s_tree_of : FnScope n_tree_of p_tree_of d_tree_of.scope := ⟨rfl, rfl, rfl, by decide +kernel, rfl, by decide +kernel, by decide +kernel⟩
theorem h_tree_of (T : Told B) : ∃ fd, Has B d_tree_of p_tree_of fd := by
  obtain ⟨h, _, _, c, _⟩ := T
  obtain ⟨fd, F⟩ := c.def_ 11 (d := d_tree_of) rfl
  exact ⟨fd, F, FunD.bindsN F fun _ _ _ _ _ _ us hl => match us, hl with | [_], _ => rfl⟩
theorem s_fits : FnScope n_fits p_fits d_fits.scope := ⟨rfl, rfl, rfl, by decide +kernel, rfl, by decide +kernel, by decide +kernel⟩
theorem h_fits (T : Told B) : ∃ fd, Has B d_fits p_fits fd := by
  obtain ⟨h, _, _, c, _⟩ := T
  obtain ⟨fd, F⟩ := c.def_ 12 (d := d_fits) rfl
  exact ⟨fd, F, FunD.bindsN F fun _ _ _ _ _ _ us hl => match us, hl with | [_, _, _], _ => rfl⟩
theorem s_line_bridges : FnScope n_line_bridges p_line_bridges d_line_bridges.scope := ⟨rfl, rfl, rfl, by decide +kernel, rfl, by decide +kernel, by decide +kernel⟩
theorem h_line_bridges (T : Told B) : ∃ fd, Has B d_line_bridges p_line_bridges fd := by
  obtain ⟨h, _, _, c, _⟩ := T
  obtain ⟨fd, F⟩ := c.def_ 13 (d := d_line_bridges) rfl
  exact ⟨fd, F, FunD.bindsN F fun _ _ _ _ _ _ us hl => match us, hl with | [_, _], _ => rfl⟩
theorem s_Line_init : FnScope n_Line_init p_Line_init d_Line_init.scope := ⟨rfl, rfl, rfl, by decide +kernel, rfl, by decide +kernel, by decide +kernel⟩
theorem h_Line_init (T : Told B) : ∃ fd, Has B d_Line_init p_Line_init fd := by
  obtain ⟨h, _, _, c, _⟩ := T
  obtain ⟨fd, F⟩ := c.def_ 14 (d := d_Line_init) rfl
  exact ⟨fd, F, FunD.bindsN F fun _ _ _ _ _ _ us hl => match us, hl with | [_, _, _], _ => rfl⟩
theorem s_Line_leads : FnScope n_Line_leads p_Line_leads d_Line_leads.scope := ⟨rfl, rfl, rfl, by decide +kernel, rfl, by decide +kernel, by decide +kernel⟩
theorem h_Line_leads (T : Told B) : ∃ fd, Has B d_Line_leads p_Line_leads fd := by
  obtain ⟨h, _, _, c, _⟩ := T
  obtain ⟨fd, F⟩ := c.def_ 15 (d := d_Line_leads) rfl
  exact ⟨fd, F, FunD.bindsN F fun _ _ _ _ _ _ us hl => match us, hl with | [_, _, _, _, _], _ => rfl⟩
theorem s_Line_told_plan : FnScope n_Line_told_plan p_Line_told_plan d_Line_told_plan.scope := ⟨rfl, rfl, rfl, by decide +kernel, rfl, by decide +kernel, by decide +kernel⟩
theorem h_Line_told_plan (T : Told B) : ∃ fd, Has B d_Line_told_plan p_Line_told_plan fd := by
  obtain ⟨h, _, _, c, _⟩ := T
  obtain ⟨fd, F⟩ := c.def_ 16 (d := d_Line_told_plan) rfl
  exact ⟨fd, F, FunD.bindsN F fun _ _ _ _ _ _ us hl => match us, hl with | [_], _ => rfl⟩
theorem s_Tree_init : FnScope n_Tree_init p_Tree_init d_Tree_init.scope := ⟨rfl, rfl, rfl, by decide +kernel, rfl, by decide +kernel, by decide +kernel⟩
theorem h_Tree_init (T : Told B) : ∃ fd, Has B d_Tree_init p_Tree_init fd := by
  obtain ⟨h, _, _, c, _⟩ := T
  obtain ⟨fd, F⟩ := c.def_ 17 (d := d_Tree_init) rfl
  exact ⟨fd, F, FunD.bindsN F fun _ _ _ _ _ _ us hl => match us, hl with | [_, _, _], _ => rfl⟩
theorem s_Tree_goes_around : FnScope n_Tree_goes_around p_Tree_goes_around d_Tree_goes_around.scope := ⟨rfl, rfl, rfl, by decide +kernel, rfl, by decide +kernel, by decide +kernel⟩
theorem h_Tree_goes_around (T : Told B) : ∃ fd, Has B d_Tree_goes_around p_Tree_goes_around fd := by
  obtain ⟨h, _, _, c, _⟩ := T
  obtain ⟨fd, F⟩ := c.def_ 18 (d := d_Tree_goes_around) rfl
  exact ⟨fd, F, FunD.bindsN F fun _ _ _ _ _ _ us hl => match us, hl with | [_, _], _ => rfl⟩
theorem s_Tree_takes : FnScope n_Tree_takes p_Tree_takes d_Tree_takes.scope := ⟨rfl, rfl, rfl, by decide +kernel, rfl, by decide +kernel, by decide +kernel⟩
theorem h_Tree_takes (T : Told B) : ∃ fd, Has B d_Tree_takes p_Tree_takes fd := by
  obtain ⟨h, _, _, c, _⟩ := T
  obtain ⟨fd, F⟩ := c.def_ 19 (d := d_Tree_takes) rfl
  exact ⟨fd, F, FunD.bindsN F fun _ _ _ _ _ _ us hl => match us, hl with | [_, _, _, _, _], _ => rfl⟩
theorem s_Tree_told_plan : FnScope n_Tree_told_plan p_Tree_told_plan d_Tree_told_plan.scope := ⟨rfl, rfl, rfl, by decide +kernel, rfl, by decide +kernel, by decide +kernel⟩
theorem h_Tree_told_plan (T : Told B) : ∃ fd, Has B d_Tree_told_plan p_Tree_told_plan fd := by
  obtain ⟨h, _, _, c, _⟩ := T
  obtain ⟨fd, F⟩ := c.def_ 20 (d := d_Tree_told_plan) rfl
  exact ⟨fd, F, FunD.bindsN F fun _ _ _ _ _ _ us hl => match us, hl with | [_], _ => rfl⟩
theorem s_opposite : FnScope n_opposite p_opposite d_opposite.scope := ⟨rfl, rfl, rfl, by decide +kernel, rfl, by decide +kernel, by decide +kernel⟩
theorem h_opposite (T : Told B) : ∃ fd, Has B d_opposite p_opposite fd := by
  obtain ⟨h, _, _, c, _⟩ := T
  obtain ⟨fd, F⟩ := c.def_ 21 (d := d_opposite) rfl
  exact ⟨fd, F, FunD.bindsN F fun _ _ _ _ _ _ us hl => match us, hl with | [_], _ => rfl⟩
theorem s_shortened : FnScope n_shortened p_shortened d_shortened.scope := ⟨rfl, rfl, rfl, by decide +kernel, rfl, by decide +kernel, by decide +kernel⟩
theorem h_shortened (T : Told B) : ∃ fd, Has B d_shortened p_shortened fd := by
  obtain ⟨h, _, _, c, _⟩ := T
  obtain ⟨fd, F⟩ := c.def_ 22 (d := d_shortened) rfl
  exact ⟨fd, F, FunD.bindsN F fun _ _ _ _ _ _ us hl => match us, hl with | [_], _ => rfl⟩
theorem s_Fold_init : FnScope n_Fold_init p_Fold_init d_Fold_init.scope := ⟨rfl, rfl, rfl, by decide +kernel, rfl, by decide +kernel, by decide +kernel⟩
theorem h_Fold_init (T : Told B) : ∃ fd, Has B d_Fold_init p_Fold_init fd := by
  obtain ⟨h, _, _, c, _⟩ := T
  obtain ⟨fd, F⟩ := c.def_ 23 (d := d_Fold_init) rfl
  exact ⟨fd, F, FunD.bindsN F fun _ _ _ _ _ _ us hl => match us, hl with | [_, _, _], _ => rfl⟩
theorem s_Fold_adds : FnScope n_Fold_adds p_Fold_adds d_Fold_adds.scope := ⟨rfl, rfl, rfl, by decide +kernel, rfl, by decide +kernel, by decide +kernel⟩
theorem h_Fold_adds (T : Told B) : ∃ fd, Has B d_Fold_adds p_Fold_adds fd := by
  obtain ⟨h, _, _, c, _⟩ := T
  obtain ⟨fd, F⟩ := c.def_ 24 (d := d_Fold_adds) rfl
  exact ⟨fd, F, FunD.bindsN F fun _ _ _ _ _ _ us hl => match us, hl with | [_, _, _, _, _], _ => rfl⟩
theorem s_Fold_adds_round : FnScope n_Fold_adds_round p_Fold_adds_round d_Fold_adds_round.scope := ⟨rfl, rfl, rfl, by decide +kernel, rfl, by decide +kernel, by decide +kernel⟩
theorem h_Fold_adds_round (T : Told B) : ∃ fd, Has B d_Fold_adds_round p_Fold_adds_round fd := by
  obtain ⟨h, _, _, c, _⟩ := T
  obtain ⟨fd, F⟩ := c.def_ 25 (d := d_Fold_adds_round) rfl
  exact ⟨fd, F, FunD.bindsN F fun _ _ _ _ _ _ us hl => match us, hl with | [_, _, _], _ => rfl⟩
theorem s_Fold_folds : FnScope n_Fold_folds p_Fold_folds d_Fold_folds.scope := ⟨rfl, rfl, rfl, by decide +kernel, rfl, by decide +kernel, by decide +kernel⟩
theorem h_Fold_folds (T : Told B) : ∃ fd, Has B d_Fold_folds p_Fold_folds fd := by
  obtain ⟨h, _, _, c, _⟩ := T
  obtain ⟨fd, F⟩ := c.def_ 26 (d := d_Fold_folds) rfl
  exact ⟨fd, F, FunD.bindsN F fun _ _ _ _ _ _ us hl => match us, hl with | [_], _ => rfl⟩
theorem s_Fold_clash : FnScope n_Fold_clash p_Fold_clash d_Fold_clash.scope := ⟨rfl, rfl, rfl, by decide +kernel, rfl, by decide +kernel, by decide +kernel⟩
theorem h_Fold_clash (T : Told B) : ∃ fd, Has B d_Fold_clash p_Fold_clash fd := by
  obtain ⟨h, _, _, c, _⟩ := T
  obtain ⟨fd, F⟩ := c.def_ 27 (d := d_Fold_clash) rfl
  exact ⟨fd, F, FunD.bindsN F fun _ _ _ _ _ _ us hl => match us, hl with | [_], _ => rfl⟩
theorem s_Fold_puts : FnScope n_Fold_puts p_Fold_puts d_Fold_puts.scope := ⟨rfl, rfl, rfl, by decide +kernel, rfl, by decide +kernel, by decide +kernel⟩
theorem h_Fold_puts (T : Told B) : ∃ fd, Has B d_Fold_puts p_Fold_puts fd := by
  obtain ⟨h, _, _, c, _⟩ := T
  obtain ⟨fd, F⟩ := c.def_ 28 (d := d_Fold_puts) rfl
  exact ⟨fd, F, FunD.bindsN F fun _ _ _ _ _ _ us hl => match us, hl with | [_, _, _, _], _ => rfl⟩
theorem s_Fold_step : FnScope n_Fold_step p_Fold_step d_Fold_step.scope := ⟨rfl, rfl, rfl, by decide +kernel, rfl, by decide +kernel, by decide +kernel⟩
theorem h_Fold_step (T : Told B) : ∃ fd, Has B d_Fold_step p_Fold_step fd := by
  obtain ⟨h, _, _, c, _⟩ := T
  obtain ⟨fd, F⟩ := c.def_ 29 (d := d_Fold_step) rfl
  exact ⟨fd, F, FunD.bindsN F fun _ _ _ _ _ _ us hl => match us, hl with | [_, _, _], _ => rfl⟩
theorem s_Fold_walked : FnScope n_Fold_walked p_Fold_walked d_Fold_walked.scope := ⟨rfl, rfl, rfl, by decide +kernel, rfl, by decide +kernel, by decide +kernel⟩
theorem h_Fold_walked (T : Told B) : ∃ fd, Has B d_Fold_walked p_Fold_walked fd := by
  obtain ⟨h, _, _, c, _⟩ := T
  obtain ⟨fd, F⟩ := c.def_ 30 (d := d_Fold_walked) rfl
  exact ⟨fd, F, FunD.bindsN F fun _ _ _ _ _ _ us hl => match us, hl with | [_, _], _ => rfl⟩
theorem s_Fold_told_plan : FnScope n_Fold_told_plan p_Fold_told_plan d_Fold_told_plan.scope := ⟨rfl, rfl, rfl, by decide +kernel, rfl, by decide +kernel, by decide +kernel⟩
theorem h_Fold_told_plan (T : Told B) : ∃ fd, Has B d_Fold_told_plan p_Fold_told_plan fd := by
  obtain ⟨h, _, _, c, _⟩ := T
  obtain ⟨fd, F⟩ := c.def_ 31 (d := d_Fold_told_plan) rfl
  exact ⟨fd, F, FunD.bindsN F fun _ _ _ _ _ _ us hl => match us, hl with | [_, _], _ => rfl⟩
theorem s_parted : FnScope n_parted p_parted d_parted.scope := ⟨rfl, rfl, rfl, by decide +kernel, rfl, by decide +kernel, by decide +kernel⟩
theorem h_parted (T : Told B) : ∃ fd, Has B d_parted p_parted fd := by
  obtain ⟨h, _, _, c, _⟩ := T
  obtain ⟨fd, F⟩ := c.def_ 32 (d := d_parted) rfl
  exact ⟨fd, F, FunD.bindsN F fun _ _ _ _ _ _ us hl => match us, hl with | [_, _, _, _], _ => rfl⟩
theorem s_plan_of : FnScope n_plan_of p_plan_of d_plan_of.scope := ⟨rfl, rfl, rfl, by decide +kernel, rfl, by decide +kernel, by decide +kernel⟩
theorem h_plan_of (T : Told B) : ∃ fd, Has B d_plan_of p_plan_of fd := by
  obtain ⟨h, _, _, c, _⟩ := T
  obtain ⟨fd, F⟩ := c.def_ 33 (d := d_plan_of) rfl
  exact ⟨fd, F, FunD.bindsN F fun _ _ _ _ _ _ us hl => match us, hl with | [_, _, _], _ => rfl⟩
theorem s_tells_path : FnScope n_tells_path p_tells_path d_tells_path.scope := ⟨rfl, rfl, rfl, by decide +kernel, rfl, by decide +kernel, by decide +kernel⟩
theorem h_tells_path (T : Told B) : ∃ fd, Has B d_tells_path p_tells_path fd := by
  obtain ⟨h, _, _, c, _⟩ := T
  obtain ⟨fd, F⟩ := c.def_ 34 (d := d_tells_path) rfl
  exact ⟨fd, F, FunD.bindsN F fun _ _ _ _ _ _ us hl => match us, hl with | [_, _, _], _ => rfl⟩
theorem s_parts_of : FnScope n_parts_of p_parts_of d_parts_of.scope := ⟨rfl, rfl, rfl, by decide +kernel, rfl, by decide +kernel, by decide +kernel⟩
theorem h_parts_of (T : Told B) : ∃ fd, Has B d_parts_of p_parts_of fd := by
  obtain ⟨h, _, _, c, _⟩ := T
  obtain ⟨fd, F⟩ := c.def_ 35 (d := d_parts_of) rfl
  exact ⟨fd, F, FunD.bindsN F fun _ _ _ _ _ _ us hl => match us, hl with | [_], _ => rfl⟩
theorem s_is_hand : FnScope n_is_hand p_is_hand d_is_hand.scope := ⟨rfl, rfl, rfl, by decide +kernel, rfl, by decide +kernel, by decide +kernel⟩
theorem h_is_hand (T : Told B) : ∃ fd, Has B d_is_hand p_is_hand fd := by
  obtain ⟨h, _, _, c, _⟩ := T
  obtain ⟨fd, F⟩ := c.def_ 36 (d := d_is_hand) rfl
  exact ⟨fd, F, FunD.bindsN F fun _ _ _ _ _ _ us hl => match us, hl with | [_, _], _ => rfl⟩
theorem s_checked_hands : FnScope n_checked_hands p_checked_hands d_checked_hands.scope := ⟨rfl, rfl, rfl, by decide +kernel, rfl, by decide +kernel, by decide +kernel⟩
theorem h_checked_hands (T : Told B) : ∃ fd, Has B d_checked_hands p_checked_hands fd := by
  obtain ⟨h, _, _, c, _⟩ := T
  obtain ⟨fd, F⟩ := c.def_ 37 (d := d_checked_hands) rfl
  exact ⟨fd, F, FunD.bindsN F fun _ _ _ _ _ _ us hl => match us, hl with | [_, _], _ => rfl⟩
theorem s_checked_path_of : FnScope n_checked_path_of p_checked_path_of d_checked_path_of.scope := ⟨rfl, rfl, rfl, by decide +kernel, rfl, by decide +kernel, by decide +kernel⟩
theorem h_checked_path_of (T : Told B) : ∃ fd, Has B d_checked_path_of p_checked_path_of fd := by
  obtain ⟨h, _, _, c, _⟩ := T
  obtain ⟨fd, F⟩ := c.def_ 38 (d := d_checked_path_of) rfl
  exact ⟨fd, F, FunD.bindsN F fun _ _ _ _ _ _ us hl => match us, hl with | [_, _], _ => rfl⟩
theorem s_known_to : FnScope n_known_to p_known_to d_known_to.scope := ⟨rfl, rfl, rfl, by decide +kernel, rfl, by decide +kernel, by decide +kernel⟩
theorem h_known_to (T : Told B) : ∃ fd, Has B d_known_to p_known_to fd := by
  obtain ⟨h, _, _, c, _⟩ := T
  obtain ⟨fd, F⟩ := c.def_ 39 (d := d_known_to) rfl
  exact ⟨fd, F, FunD.bindsN F fun _ _ _ _ _ _ us hl => match us, hl with | [_, _], _ => rfl⟩
theorem s_telling : FnScope n_telling p_telling d_telling.scope := ⟨rfl, rfl, rfl, by decide +kernel, rfl, by decide +kernel, by decide +kernel⟩
theorem h_telling (T : Told B) : ∃ fd, Has B d_telling p_telling fd := by
  obtain ⟨h, _, _, c, _⟩ := T
  obtain ⟨fd, F⟩ := c.def_ 40 (d := d_telling) rfl
  exact ⟨fd, F, FunD.bindsN F fun _ _ _ _ _ _ us hl => match us, hl with | [_, _, _], _ => rfl⟩
theorem s_law_fresh : FnScope n_law_fresh p_law_fresh d_law_fresh.scope := ⟨rfl, rfl, rfl, by decide +kernel, rfl, by decide +kernel, by decide +kernel⟩
theorem h_law_fresh (T : Told B) : ∃ fd, Has B d_law_fresh p_law_fresh fd := by
  obtain ⟨h, _, _, c, _⟩ := T
  obtain ⟨fd, F⟩ := c.def_ 41 (d := d_law_fresh) rfl
  exact ⟨fd, F, FunD.bindsN F fun _ _ _ _ _ _ us hl => match us, hl with | [_], _ => rfl⟩
theorem s_law_fill : FnScope n_law_fill p_law_fill d_law_fill.scope := ⟨rfl, rfl, rfl, by decide +kernel, rfl, by decide +kernel, by decide +kernel⟩
theorem h_law_fill (T : Told B) : ∃ fd, Has B d_law_fill p_law_fill fd := by
  obtain ⟨h, _, _, c, _⟩ := T
  obtain ⟨fd, F⟩ := c.def_ 42 (d := d_law_fill) rfl
  exact ⟨fd, F, FunD.bindsN F fun _ _ _ _ _ _ us hl => match us, hl with | [_], _ => rfl⟩
theorem s_law_take : FnScope n_law_take p_law_take d_law_take.scope := ⟨rfl, rfl, rfl, by decide +kernel, rfl, by decide +kernel, by decide +kernel⟩
theorem h_law_take (T : Told B) : ∃ fd, Has B d_law_take p_law_take fd := by
  obtain ⟨h, _, _, c, _⟩ := T
  obtain ⟨fd, F⟩ := c.def_ 43 (d := d_law_take) rfl
  exact ⟨fd, F, FunD.bindsN F fun _ _ _ _ _ _ us hl => match us, hl with | [_, _], _ => rfl⟩
theorem s_law_one : FnScope n_law_one p_law_one d_law_one.scope := ⟨rfl, rfl, rfl, by decide +kernel, rfl, by decide +kernel, by decide +kernel⟩
theorem h_law_one (T : Told B) : ∃ fd, Has B d_law_one p_law_one fd := by
  obtain ⟨h, _, _, c, _⟩ := T
  obtain ⟨fd, F⟩ := c.def_ 44 (d := d_law_one) rfl
  exact ⟨fd, F, FunD.bindsN F fun _ _ _ _ _ _ us hl => match us, hl with | [_, _], _ => rfl⟩
theorem s_law_handed : FnScope n_law_handed p_law_handed d_law_handed.scope := ⟨rfl, rfl, rfl, by decide +kernel, rfl, by decide +kernel, by decide +kernel⟩
theorem h_law_handed (T : Told B) : ∃ fd, Has B d_law_handed p_law_handed fd := by
  obtain ⟨h, _, _, c, _⟩ := T
  obtain ⟨fd, F⟩ := c.def_ 45 (d := d_law_handed) rfl
  exact ⟨fd, F, FunD.bindsN F fun _ _ _ _ _ _ us hl => match us, hl with | [_, _], _ => rfl⟩
theorem s_law_same : FnScope n_law_same p_law_same d_law_same.scope := ⟨rfl, rfl, rfl, by decide +kernel, rfl, by decide +kernel, by decide +kernel⟩
theorem h_law_same (T : Told B) : ∃ fd, Has B d_law_same p_law_same fd := by
  obtain ⟨h, _, _, c, _⟩ := T
  obtain ⟨fd, F⟩ := c.def_ 46 (d := d_law_same) rfl
  exact ⟨fd, F, FunD.bindsN F fun _ _ _ _ _ _ us hl => match us, hl with | [_, _], _ => rfl⟩
theorem s_law_read : FnScope n_law_read p_law_read d_law_read.scope := ⟨rfl, rfl, rfl, by decide +kernel, rfl, by decide +kernel, by decide +kernel⟩
theorem h_law_read (T : Told B) : ∃ fd, Has B d_law_read p_law_read fd := by
  obtain ⟨h, _, _, c, _⟩ := T
  obtain ⟨fd, F⟩ := c.def_ 47 (d := d_law_read) rfl
  exact ⟨fd, F, FunD.bindsN F fun _ _ _ _ _ _ us hl => match us, hl with | [_], _ => rfl⟩
theorem s_law_word : FnScope n_law_word p_law_word d_law_word.scope := ⟨rfl, rfl, rfl, by decide +kernel, rfl, by decide +kernel, by decide +kernel⟩
theorem h_law_word (T : Told B) : ∃ fd, Has B d_law_word p_law_word fd := by
  obtain ⟨h, _, _, c, _⟩ := T
  obtain ⟨fd, F⟩ := c.def_ 48 (d := d_law_word) rfl
  exact ⟨fd, F, FunD.bindsN F fun _ _ _ _ _ _ us hl => match us, hl with | [_, _, _, _], _ => rfl⟩
theorem s_law_marked : FnScope n_law_marked p_law_marked d_law_marked.scope := ⟨rfl, rfl, rfl, by decide +kernel, rfl, by decide +kernel, by decide +kernel⟩
theorem h_law_marked (T : Told B) : ∃ fd, Has B d_law_marked p_law_marked fd := by
  obtain ⟨h, _, _, c, _⟩ := T
  obtain ⟨fd, F⟩ := c.def_ 49 (d := d_law_marked) rfl
  exact ⟨fd, F, FunD.bindsN F fun _ _ _ _ _ _ us hl => match us, hl with | [_, _, _, _], _ => rfl⟩
theorem s_law_path : FnScope n_law_path p_law_path d_law_path.scope := ⟨rfl, rfl, rfl, by decide +kernel, rfl, by decide +kernel, by decide +kernel⟩
theorem h_law_path (T : Told B) : ∃ fd, Has B d_law_path p_law_path fd := by
  obtain ⟨h, _, _, c, _⟩ := T
  obtain ⟨fd, F⟩ := c.def_ 50 (d := d_law_path) rfl
  exact ⟨fd, F, FunD.bindsN F fun _ _ _ _ _ _ us hl => match us, hl with | [_, _, _, _], _ => rfl⟩
theorem s_law_turn : FnScope n_law_turn p_law_turn d_law_turn.scope := ⟨rfl, rfl, rfl, by decide +kernel, rfl, by decide +kernel, by decide +kernel⟩
theorem h_law_turn (T : Told B) : ∃ fd, Has B d_law_turn p_law_turn fd := by
  obtain ⟨h, _, _, c, _⟩ := T
  obtain ⟨fd, F⟩ := c.def_ 51 (d := d_law_turn) rfl
  exact ⟨fd, F, FunD.bindsN F fun _ _ _ _ _ _ us hl => match us, hl with | [_], _ => rfl⟩
theorem s_law_back : FnScope n_law_back p_law_back d_law_back.scope := ⟨rfl, rfl, rfl, by decide +kernel, rfl, by decide +kernel, by decide +kernel⟩
theorem h_law_back (T : Told B) : ∃ fd, Has B d_law_back p_law_back fd := by
  obtain ⟨h, _, _, c, _⟩ := T
  obtain ⟨fd, F⟩ := c.def_ 52 (d := d_law_back) rfl
  exact ⟨fd, F, FunD.bindsN F fun _ _ _ _ _ _ us hl => match us, hl with | [_], _ => rfl⟩
theorem s_law_short : FnScope n_law_short p_law_short d_law_short.scope := ⟨rfl, rfl, rfl, by decide +kernel, rfl, by decide +kernel, by decide +kernel⟩
theorem h_law_short (T : Told B) : ∃ fd, Has B d_law_short p_law_short fd := by
  obtain ⟨h, _, _, c, _⟩ := T
  obtain ⟨fd, F⟩ := c.def_ 53 (d := d_law_short) rfl
  exact ⟨fd, F, FunD.bindsN F fun _ _ _ _ _ _ us hl => match us, hl with | [_], _ => rfl⟩
theorem s_law_tree : FnScope n_law_tree p_law_tree d_law_tree.scope := ⟨rfl, rfl, rfl, by decide +kernel, rfl, by decide +kernel, by decide +kernel⟩
theorem h_law_tree (T : Told B) : ∃ fd, Has B d_law_tree p_law_tree fd := by
  obtain ⟨h, _, _, c, _⟩ := T
  obtain ⟨fd, F⟩ := c.def_ 54 (d := d_law_tree) rfl
  exact ⟨fd, F, FunD.bindsN F fun _ _ _ _ _ _ us hl => match us, hl with | [_], _ => rfl⟩
theorem s_law_fits : FnScope n_law_fits p_law_fits d_law_fits.scope := ⟨rfl, rfl, rfl, by decide +kernel, rfl, by decide +kernel, by decide +kernel⟩
theorem h_law_fits (T : Told B) : ∃ fd, Has B d_law_fits p_law_fits fd := by
  obtain ⟨h, _, _, c, _⟩ := T
  obtain ⟨fd, F⟩ := c.def_ 55 (d := d_law_fits) rfl
  exact ⟨fd, F, FunD.bindsN F fun _ _ _ _ _ _ us hl => match us, hl with | [_, _, _], _ => rfl⟩
theorem s_law_made : FnScope n_law_made p_law_made d_law_made.scope := ⟨rfl, rfl, rfl, by decide +kernel, rfl, by decide +kernel, by decide +kernel⟩
theorem h_law_made (T : Told B) : ∃ fd, Has B d_law_made p_law_made fd := by
  obtain ⟨h, _, _, c, _⟩ := T
  obtain ⟨fd, F⟩ := c.def_ 56 (d := d_law_made) rfl
  exact ⟨fd, F, FunD.bindsN F fun _ _ _ _ _ _ us hl => match us, hl with | [_, _], _ => rfl⟩
theorem s_law_twisted : FnScope n_law_twisted p_law_twisted d_law_twisted.scope := ⟨rfl, rfl, rfl, by decide +kernel, rfl, by decide +kernel, by decide +kernel⟩
theorem h_law_twisted (T : Told B) : ∃ fd, Has B d_law_twisted p_law_twisted fd := by
  obtain ⟨h, _, _, c, _⟩ := T
  obtain ⟨fd, F⟩ := c.def_ 57 (d := d_law_twisted) rfl
  exact ⟨fd, F, FunD.bindsN F fun _ _ _ _ _ _ us hl => match us, hl with | [_, _, _], _ => rfl⟩
theorem s_law_pieces : FnScope n_law_pieces p_law_pieces d_law_pieces.scope := ⟨rfl, rfl, rfl, by decide +kernel, rfl, by decide +kernel, by decide +kernel⟩
theorem h_law_pieces (T : Told B) : ∃ fd, Has B d_law_pieces p_law_pieces fd := by
  obtain ⟨h, _, _, c, _⟩ := T
  obtain ⟨fd, F⟩ := c.def_ 58 (d := d_law_pieces) rfl
  exact ⟨fd, F, FunD.bindsN F fun _ _ _ _ _ _ us hl => match us, hl with | [_, _, _], _ => rfl⟩
theorem s_law_reached : FnScope n_law_reached p_law_reached d_law_reached.scope := ⟨rfl, rfl, rfl, by decide +kernel, rfl, by decide +kernel, by decide +kernel⟩
theorem h_law_reached (T : Told B) : ∃ fd, Has B d_law_reached p_law_reached fd := by
  obtain ⟨h, _, _, c, _⟩ := T
  obtain ⟨fd, F⟩ := c.def_ 59 (d := d_law_reached) rfl
  exact ⟨fd, F, FunD.bindsN F fun _ _ _ _ _ _ us hl => match us, hl with | [_, _], _ => rfl⟩
theorem s_law_made_here : FnScope n_law_made_here p_law_made_here d_law_made_here.scope := ⟨rfl, rfl, rfl, by decide +kernel, rfl, by decide +kernel, by decide +kernel⟩
theorem h_law_made_here (T : Told B) : ∃ fd, Has B d_law_made_here p_law_made_here fd := by
  obtain ⟨h, _, _, c, _⟩ := T
  obtain ⟨fd, F⟩ := c.def_ 60 (d := d_law_made_here) rfl
  exact ⟨fd, F, FunD.bindsN F fun _ _ _ _ _ _ us hl => match us, hl with | [_, _], _ => rfl⟩
theorem s_law_told_tree : FnScope n_law_told_tree p_law_told_tree d_law_told_tree.scope := ⟨rfl, rfl, rfl, by decide +kernel, rfl, by decide +kernel, by decide +kernel⟩
theorem h_law_told_tree (T : Told B) : ∃ fd, Has B d_law_told_tree p_law_told_tree fd := by
  obtain ⟨h, _, _, c, _⟩ := T
  obtain ⟨fd, F⟩ := c.def_ 61 (d := d_law_told_tree) rfl
  exact ⟨fd, F, FunD.bindsN F fun _ _ _ _ _ _ us hl => match us, hl with | [_, _], _ => rfl⟩
theorem s_law_clash : FnScope n_law_clash p_law_clash d_law_clash.scope := ⟨rfl, rfl, rfl, by decide +kernel, rfl, by decide +kernel, by decide +kernel⟩
theorem h_law_clash (T : Told B) : ∃ fd, Has B d_law_clash p_law_clash fd := by
  obtain ⟨h, _, _, c, _⟩ := T
  obtain ⟨fd, F⟩ := c.def_ 62 (d := d_law_clash) rfl
  exact ⟨fd, F, FunD.bindsN F fun _ _ _ _ _ _ us hl => match us, hl with | [_], _ => rfl⟩
theorem s_law_folded : FnScope n_law_folded p_law_folded d_law_folded.scope := ⟨rfl, rfl, rfl, by decide +kernel, rfl, by decide +kernel, by decide +kernel⟩
theorem h_law_folded (T : Told B) : ∃ fd, Has B d_law_folded p_law_folded fd := by
  obtain ⟨h, _, _, c, _⟩ := T
  obtain ⟨fd, F⟩ := c.def_ 63 (d := d_law_folded) rfl
  exact ⟨fd, F, FunD.bindsN F fun _ _ _ _ _ _ us hl => match us, hl with | [_], _ => rfl⟩
theorem s_law_room : FnScope n_law_room p_law_room d_law_room.scope := ⟨rfl, rfl, rfl, by decide +kernel, rfl, by decide +kernel, by decide +kernel⟩
theorem h_law_room (T : Told B) : ∃ fd, Has B d_law_room p_law_room fd := by
  obtain ⟨h, _, _, c, _⟩ := T
  obtain ⟨fd, F⟩ := c.def_ 64 (d := d_law_room) rfl
  exact ⟨fd, F, FunD.bindsN F fun _ _ _ _ _ _ us hl => match us, hl with | [_, _, _], _ => rfl⟩
theorem s_law_told_turned : FnScope n_law_told_turned p_law_told_turned d_law_told_turned.scope := ⟨rfl, rfl, rfl, by decide +kernel, rfl, by decide +kernel, by decide +kernel⟩
theorem h_law_told_turned (T : Told B) : ∃ fd, Has B d_law_told_turned p_law_told_turned fd := by
  obtain ⟨h, _, _, c, _⟩ := T
  obtain ⟨fd, F⟩ := c.def_ 65 (d := d_law_told_turned) rfl
  exact ⟨fd, F, FunD.bindsN F fun _ _ _ _ _ _ us hl => match us, hl with | [_, _], _ => rfl⟩
theorem s_law_is_told : FnScope n_law_is_told p_law_is_told d_law_is_told.scope := ⟨rfl, rfl, rfl, by decide +kernel, rfl, by decide +kernel, by decide +kernel⟩
theorem h_law_is_told (T : Told B) : ∃ fd, Has B d_law_is_told p_law_is_told fd := by
  obtain ⟨h, _, _, c, _⟩ := T
  obtain ⟨fd, F⟩ := c.def_ 66 (d := d_law_is_told) rfl
  exact ⟨fd, F, FunD.bindsN F fun _ _ _ _ _ _ us hl => match us, hl with | [_, _, _], _ => rfl⟩
theorem s_law_some_kept : FnScope n_law_some_kept p_law_some_kept d_law_some_kept.scope := ⟨rfl, rfl, rfl, by decide +kernel, rfl, by decide +kernel, by decide +kernel⟩
theorem h_law_some_kept (T : Told B) : ∃ fd, Has B d_law_some_kept p_law_some_kept fd := by
  obtain ⟨h, _, _, c, _⟩ := T
  obtain ⟨fd, F⟩ := c.def_ 67 (d := d_law_some_kept) rfl
  exact ⟨fd, F, FunD.bindsN F fun _ _ _ _ _ _ us hl => match us, hl with | [_, _, _], _ => rfl⟩
theorem s_law_fewer : FnScope n_law_fewer p_law_fewer d_law_fewer.scope := ⟨rfl, rfl, rfl, by decide +kernel, rfl, by decide +kernel, by decide +kernel⟩
theorem h_law_fewer (T : Told B) : ∃ fd, Has B d_law_fewer p_law_fewer fd := by
  obtain ⟨h, _, _, c, _⟩ := T
  obtain ⟨fd, F⟩ := c.def_ 68 (d := d_law_fewer) rfl
  exact ⟨fd, F, FunD.bindsN F fun _ _ _ _ _ _ us hl => match us, hl with | [_, _], _ => rfl⟩
theorem s_law_hands : FnScope n_law_hands p_law_hands d_law_hands.scope := ⟨rfl, rfl, rfl, by decide +kernel, rfl, by decide +kernel, by decide +kernel⟩
theorem h_law_hands (T : Told B) : ∃ fd, Has B d_law_hands p_law_hands fd := by
  obtain ⟨h, _, _, c, _⟩ := T
  obtain ⟨fd, F⟩ := c.def_ 69 (d := d_law_hands) rfl
  exact ⟨fd, F, FunD.bindsN F fun _ _ _ _ _ _ us hl => match us, hl with | [_, _, _], _ => rfl⟩
theorem s_law : FnScope n_law p_law d_law.scope := ⟨rfl, rfl, rfl, by decide +kernel, rfl, by decide +kernel, by decide +kernel⟩
theorem h_law (T : Told B) : ∃ fd, Has B d_law p_law fd := by
  obtain ⟨h, _, _, c, _⟩ := T
  obtain ⟨fd, F⟩ := c.def_ 70 (d := d_law) rfl
  exact ⟨fd, F, FunD.bindsN F fun _ _ _ _ _ _ us hl => match us, hl with | [_], _ => rfl⟩
theorem g_is_list (T : Told B) : B.mg "is_list" = some (.ref (He.ga B.K "is_list")) := by obtain ⟨h, a, b, c, _⟩ := T; exact He.glo_ok a b (c.fact 0 (f := .glo "is_list") rfl)
theorem g_is_manner (T : Told B) : B.mg "is_manner" = some (.ref (He.ga B.K "is_manner")) := by obtain ⟨h, a, b, c, _⟩ := T; exact He.glo_ok a b (c.fact 1 (f := .glo "is_manner") rfl)
theorem g_is_rising (T : Told B) : B.mg "is_rising" = some (.ref (He.ga B.K "is_rising")) := by obtain ⟨h, a, b, c, _⟩ := T; exact He.glo_ok a b (c.fact 2 (f := .glo "is_rising") rfl)
theorem g_parsed (T : Told B) : B.mg "parsed" = some (.ref (He.ga B.K "parsed")) := by obtain ⟨h, a, b, c, _⟩ := T; exact He.glo_ok a b (c.fact 3 (f := .glo "parsed") rfl)
theorem g_is_path (T : Told B) : B.mg "is_path" = some (.ref (He.ga B.K "is_path")) := by obtain ⟨h, a, b, c, _⟩ := T; exact He.glo_ok a b (c.fact 4 (f := .glo "is_path") rfl)
theorem g_steps (T : Told B) : B.mg "steps" = some (.ref (He.ga B.K "steps")) := by obtain ⟨h, a, b, c, _⟩ := T; exact He.glo_ok a b (c.fact 5 (f := .glo "steps") rfl)
theorem g_marks (T : Told B) : B.mg "marks" = some (.ref (He.ga B.K "marks")) := by obtain ⟨h, a, b, c, _⟩ := T; exact He.glo_ok a b (c.fact 6 (f := .glo "marks") rfl)
theorem g_turned_step (T : Told B) : B.mg "turned_step" = some (.ref (He.ga B.K "turned_step")) := by obtain ⟨h, a, b, c, _⟩ := T; exact He.glo_ok a b (c.fact 7 (f := .glo "turned_step") rfl)
theorem g_back_word (T : Told B) : B.mg "back_word" = some (.ref (He.ga B.K "back_word")) := by obtain ⟨h, a, b, c, _⟩ := T; exact He.glo_ok a b (c.fact 8 (f := .glo "back_word") rfl)
theorem g_reduced_word (T : Told B) : B.mg "reduced_word" = some (.ref (He.ga B.K "reduced_word")) := by obtain ⟨h, a, b, c, _⟩ := T; exact He.glo_ok a b (c.fact 9 (f := .glo "reduced_word") rfl)
theorem g_in_order (T : Told B) : B.mg "in_order" = some (.ref (He.ga B.K "in_order")) := by obtain ⟨h, a, b, c, _⟩ := T; exact He.glo_ok a b (c.fact 10 (f := .glo "in_order") rfl)
theorem g_tree_of (T : Told B) : B.mg "tree_of" = some (.ref (He.ga B.K "tree_of")) := by obtain ⟨h, a, b, c, _⟩ := T; exact He.glo_ok a b (c.fact 11 (f := .glo "tree_of") rfl)
theorem g_fits (T : Told B) : B.mg "fits" = some (.ref (He.ga B.K "fits")) := by obtain ⟨h, a, b, c, _⟩ := T; exact He.glo_ok a b (c.fact 12 (f := .glo "fits") rfl)
theorem g_line_bridges (T : Told B) : B.mg "line_bridges" = some (.ref (He.ga B.K "line_bridges")) := by obtain ⟨h, a, b, c, _⟩ := T; exact He.glo_ok a b (c.fact 13 (f := .glo "line_bridges") rfl)
theorem g_opposite (T : Told B) : B.mg "opposite" = some (.ref (He.ga B.K "opposite")) := by obtain ⟨h, a, b, c, _⟩ := T; exact He.glo_ok a b (c.fact 14 (f := .glo "opposite") rfl)
theorem g_shortened (T : Told B) : B.mg "shortened" = some (.ref (He.ga B.K "shortened")) := by obtain ⟨h, a, b, c, _⟩ := T; exact He.glo_ok a b (c.fact 15 (f := .glo "shortened") rfl)
theorem g_parted (T : Told B) : B.mg "parted" = some (.ref (He.ga B.K "parted")) := by obtain ⟨h, a, b, c, _⟩ := T; exact He.glo_ok a b (c.fact 16 (f := .glo "parted") rfl)
theorem g_plan_of (T : Told B) : B.mg "plan_of" = some (.ref (He.ga B.K "plan_of")) := by obtain ⟨h, a, b, c, _⟩ := T; exact He.glo_ok a b (c.fact 17 (f := .glo "plan_of") rfl)
theorem g_tells_path (T : Told B) : B.mg "tells_path" = some (.ref (He.ga B.K "tells_path")) := by obtain ⟨h, a, b, c, _⟩ := T; exact He.glo_ok a b (c.fact 18 (f := .glo "tells_path") rfl)
theorem g_parts_of (T : Told B) : B.mg "parts_of" = some (.ref (He.ga B.K "parts_of")) := by obtain ⟨h, a, b, c, _⟩ := T; exact He.glo_ok a b (c.fact 19 (f := .glo "parts_of") rfl)
theorem g_is_hand (T : Told B) : B.mg "is_hand" = some (.ref (He.ga B.K "is_hand")) := by obtain ⟨h, a, b, c, _⟩ := T; exact He.glo_ok a b (c.fact 20 (f := .glo "is_hand") rfl)
theorem g_checked_hands (T : Told B) : B.mg "checked_hands" = some (.ref (He.ga B.K "checked_hands")) := by obtain ⟨h, a, b, c, _⟩ := T; exact He.glo_ok a b (c.fact 21 (f := .glo "checked_hands") rfl)
theorem g_checked_path_of (T : Told B) : B.mg "checked_path_of" = some (.ref (He.ga B.K "checked_path_of")) := by obtain ⟨h, a, b, c, _⟩ := T; exact He.glo_ok a b (c.fact 22 (f := .glo "checked_path_of") rfl)
theorem g_known_to (T : Told B) : B.mg "known_to" = some (.ref (He.ga B.K "known_to")) := by obtain ⟨h, a, b, c, _⟩ := T; exact He.glo_ok a b (c.fact 23 (f := .glo "known_to") rfl)
theorem g_telling (T : Told B) : B.mg "telling" = some (.ref (He.ga B.K "telling")) := by obtain ⟨h, a, b, c, _⟩ := T; exact He.glo_ok a b (c.fact 24 (f := .glo "telling") rfl)
theorem g_law_fresh (T : Told B) : B.mg "_law_fresh" = some (.ref (He.ga B.K "_law_fresh")) := by obtain ⟨h, a, b, c, _⟩ := T; exact He.glo_ok a b (c.fact 25 (f := .glo "_law_fresh") rfl)
theorem g_law_fill (T : Told B) : B.mg "_law_fill" = some (.ref (He.ga B.K "_law_fill")) := by obtain ⟨h, a, b, c, _⟩ := T; exact He.glo_ok a b (c.fact 26 (f := .glo "_law_fill") rfl)
theorem g_law_take (T : Told B) : B.mg "_law_take" = some (.ref (He.ga B.K "_law_take")) := by obtain ⟨h, a, b, c, _⟩ := T; exact He.glo_ok a b (c.fact 27 (f := .glo "_law_take") rfl)
theorem g_law_one (T : Told B) : B.mg "_law_one" = some (.ref (He.ga B.K "_law_one")) := by obtain ⟨h, a, b, c, _⟩ := T; exact He.glo_ok a b (c.fact 28 (f := .glo "_law_one") rfl)
theorem g_law_handed (T : Told B) : B.mg "_law_handed" = some (.ref (He.ga B.K "_law_handed")) := by obtain ⟨h, a, b, c, _⟩ := T; exact He.glo_ok a b (c.fact 29 (f := .glo "_law_handed") rfl)
theorem g_law_same (T : Told B) : B.mg "_law_same" = some (.ref (He.ga B.K "_law_same")) := by obtain ⟨h, a, b, c, _⟩ := T; exact He.glo_ok a b (c.fact 30 (f := .glo "_law_same") rfl)
theorem g_law_read (T : Told B) : B.mg "_law_read" = some (.ref (He.ga B.K "_law_read")) := by obtain ⟨h, a, b, c, _⟩ := T; exact He.glo_ok a b (c.fact 31 (f := .glo "_law_read") rfl)
theorem g_law_word (T : Told B) : B.mg "_law_word" = some (.ref (He.ga B.K "_law_word")) := by obtain ⟨h, a, b, c, _⟩ := T; exact He.glo_ok a b (c.fact 32 (f := .glo "_law_word") rfl)
theorem g_law_marked (T : Told B) : B.mg "_law_marked" = some (.ref (He.ga B.K "_law_marked")) := by obtain ⟨h, a, b, c, _⟩ := T; exact He.glo_ok a b (c.fact 33 (f := .glo "_law_marked") rfl)
theorem g_law_path (T : Told B) : B.mg "_law_path" = some (.ref (He.ga B.K "_law_path")) := by obtain ⟨h, a, b, c, _⟩ := T; exact He.glo_ok a b (c.fact 34 (f := .glo "_law_path") rfl)
theorem g_law_turn (T : Told B) : B.mg "_law_turn" = some (.ref (He.ga B.K "_law_turn")) := by obtain ⟨h, a, b, c, _⟩ := T; exact He.glo_ok a b (c.fact 35 (f := .glo "_law_turn") rfl)
theorem g_law_back (T : Told B) : B.mg "_law_back" = some (.ref (He.ga B.K "_law_back")) := by obtain ⟨h, a, b, c, _⟩ := T; exact He.glo_ok a b (c.fact 36 (f := .glo "_law_back") rfl)
theorem g_law_short (T : Told B) : B.mg "_law_short" = some (.ref (He.ga B.K "_law_short")) := by obtain ⟨h, a, b, c, _⟩ := T; exact He.glo_ok a b (c.fact 37 (f := .glo "_law_short") rfl)
theorem g_law_tree (T : Told B) : B.mg "_law_tree" = some (.ref (He.ga B.K "_law_tree")) := by obtain ⟨h, a, b, c, _⟩ := T; exact He.glo_ok a b (c.fact 38 (f := .glo "_law_tree") rfl)
theorem g_law_fits (T : Told B) : B.mg "_law_fits" = some (.ref (He.ga B.K "_law_fits")) := by obtain ⟨h, a, b, c, _⟩ := T; exact He.glo_ok a b (c.fact 39 (f := .glo "_law_fits") rfl)
theorem g_law_made (T : Told B) : B.mg "_law_made" = some (.ref (He.ga B.K "_law_made")) := by obtain ⟨h, a, b, c, _⟩ := T; exact He.glo_ok a b (c.fact 40 (f := .glo "_law_made") rfl)
theorem g_law_twisted (T : Told B) : B.mg "_law_twisted" = some (.ref (He.ga B.K "_law_twisted")) := by obtain ⟨h, a, b, c, _⟩ := T; exact He.glo_ok a b (c.fact 41 (f := .glo "_law_twisted") rfl)
theorem g_law_pieces (T : Told B) : B.mg "_law_pieces" = some (.ref (He.ga B.K "_law_pieces")) := by obtain ⟨h, a, b, c, _⟩ := T; exact He.glo_ok a b (c.fact 42 (f := .glo "_law_pieces") rfl)
theorem g_law_reached (T : Told B) : B.mg "_law_reached" = some (.ref (He.ga B.K "_law_reached")) := by obtain ⟨h, a, b, c, _⟩ := T; exact He.glo_ok a b (c.fact 43 (f := .glo "_law_reached") rfl)
theorem g_law_made_here (T : Told B) : B.mg "_law_made_here" = some (.ref (He.ga B.K "_law_made_here")) := by obtain ⟨h, a, b, c, _⟩ := T; exact He.glo_ok a b (c.fact 44 (f := .glo "_law_made_here") rfl)
theorem g_law_told_tree (T : Told B) : B.mg "_law_told_tree" = some (.ref (He.ga B.K "_law_told_tree")) := by obtain ⟨h, a, b, c, _⟩ := T; exact He.glo_ok a b (c.fact 45 (f := .glo "_law_told_tree") rfl)
theorem g_law_clash (T : Told B) : B.mg "_law_clash" = some (.ref (He.ga B.K "_law_clash")) := by obtain ⟨h, a, b, c, _⟩ := T; exact He.glo_ok a b (c.fact 46 (f := .glo "_law_clash") rfl)
theorem g_law_folded (T : Told B) : B.mg "_law_folded" = some (.ref (He.ga B.K "_law_folded")) := by obtain ⟨h, a, b, c, _⟩ := T; exact He.glo_ok a b (c.fact 47 (f := .glo "_law_folded") rfl)
theorem g_law_room (T : Told B) : B.mg "_law_room" = some (.ref (He.ga B.K "_law_room")) := by obtain ⟨h, a, b, c, _⟩ := T; exact He.glo_ok a b (c.fact 48 (f := .glo "_law_room") rfl)
theorem g_law_told_turned (T : Told B) : B.mg "_law_told_turned" = some (.ref (He.ga B.K "_law_told_turned")) := by obtain ⟨h, a, b, c, _⟩ := T; exact He.glo_ok a b (c.fact 49 (f := .glo "_law_told_turned") rfl)
theorem g_law_is_told (T : Told B) : B.mg "_law_is_told" = some (.ref (He.ga B.K "_law_is_told")) := by obtain ⟨h, a, b, c, _⟩ := T; exact He.glo_ok a b (c.fact 50 (f := .glo "_law_is_told") rfl)
theorem g_law_some_kept (T : Told B) : B.mg "_law_some_kept" = some (.ref (He.ga B.K "_law_some_kept")) := by obtain ⟨h, a, b, c, _⟩ := T; exact He.glo_ok a b (c.fact 51 (f := .glo "_law_some_kept") rfl)
theorem g_law_fewer (T : Told B) : B.mg "_law_fewer" = some (.ref (He.ga B.K "_law_fewer")) := by obtain ⟨h, a, b, c, _⟩ := T; exact He.glo_ok a b (c.fact 52 (f := .glo "_law_fewer") rfl)
theorem g_law_hands (T : Told B) : B.mg "_law_hands" = some (.ref (He.ga B.K "_law_hands")) := by obtain ⟨h, a, b, c, _⟩ := T; exact He.glo_ok a b (c.fact 53 (f := .glo "_law_hands") rfl)
theorem g_law (T : Told B) : B.mg "law" = some (.ref (He.ga B.K "law")) := by obtain ⟨h, a, b, c, _⟩ := T; exact He.glo_ok a b (c.fact 54 (f := .glo "law") rfl)
theorem g_Line (T : Told B) : B.mg "Line" = some (.ref (He.ga B.K "Line")) := by obtain ⟨h, a, b, c, _⟩ := T; exact He.glo_ok a b (c.fact 55 (f := .glo "Line") rfl)
theorem g_Tree (T : Told B) : B.mg "Tree" = some (.ref (He.ga B.K "Tree")) := by obtain ⟨h, a, b, c, _⟩ := T; exact He.glo_ok a b (c.fact 56 (f := .glo "Tree") rfl)
theorem g_Fold (T : Told B) : B.mg "Fold" = some (.ref (He.ga B.K "Fold")) := by obtain ⟨h, a, b, c, _⟩ := T; exact He.glo_ok a b (c.fact 57 (f := .glo "Fold") rfl)
theorem b_isinstance (T : Told B) : B.mg "isinstance" = none := by obtain ⟨h, a, b, c, _⟩ := T; exact He.free_ok a b (c.fact 58 (f := .free "isinstance") rfl)
theorem b_len (T : Told B) : B.mg "len" = none := by obtain ⟨h, a, b, c, _⟩ := T; exact He.free_ok a b (c.fact 59 (f := .free "len") rfl)
theorem b_all (T : Told B) : B.mg "all" = none := by obtain ⟨h, a, b, c, _⟩ := T; exact He.free_ok a b (c.fact 60 (f := .free "all") rfl)
theorem b_any (T : Told B) : B.mg "any" = none := by obtain ⟨h, a, b, c, _⟩ := T; exact He.free_ok a b (c.fact 61 (f := .free "any") rfl)
theorem b_zip (T : Told B) : B.mg "zip" = none := by obtain ⟨h, a, b, c, _⟩ := T; exact He.free_ok a b (c.fact 62 (f := .free "zip") rfl)
theorem b_enumerate (T : Told B) : B.mg "enumerate" = none := by obtain ⟨h, a, b, c, _⟩ := T; exact He.free_ok a b (c.fact 63 (f := .free "enumerate") rfl)
theorem b_range (T : Told B) : B.mg "range" = none := by obtain ⟨h, a, b, c, _⟩ := T; exact He.free_ok a b (c.fact 64 (f := .free "range") rfl)
theorem b_sorted (T : Told B) : B.mg "sorted" = none := by obtain ⟨h, a, b, c, _⟩ := T; exact He.free_ok a b (c.fact 65 (f := .free "sorted") rfl)
theorem b_min (T : Told B) : B.mg "min" = none := by obtain ⟨h, a, b, c, _⟩ := T; exact He.free_ok a b (c.fact 66 (f := .free "min") rfl)
theorem b_max (T : Told B) : B.mg "max" = none := by obtain ⟨h, a, b, c, _⟩ := T; exact He.free_ok a b (c.fact 67 (f := .free "max") rfl)
theorem b_int (T : Told B) : B.mg "int" = none := by obtain ⟨h, a, b, c, _⟩ := T; exact He.free_ok a b (c.fact 68 (f := .free "int") rfl)
theorem b_str (T : Told B) : B.mg "str" = none := by obtain ⟨h, a, b, c, _⟩ := T; exact He.free_ok a b (c.fact 69 (f := .free "str") rfl)
theorem b_list (T : Told B) : B.mg "list" = none := by obtain ⟨h, a, b, c, _⟩ := T; exact He.free_ok a b (c.fact 70 (f := .free "list") rfl)
theorem b_tuple (T : Told B) : B.mg "tuple" = none := by obtain ⟨h, a, b, c, _⟩ := T; exact He.free_ok a b (c.fact 71 (f := .free "tuple") rfl)
theorem b_bool (T : Told B) : B.mg "bool" = none := by obtain ⟨h, a, b, c, _⟩ := T; exact He.free_ok a b (c.fact 72 (f := .free "bool") rfl)
theorem g_SMALL (T : Told B) : ∃ t, B.mg "SMALL" = some (.str "abcdefghijklmnopqrstuvwxyz" t) := by obtain ⟨h, a, b, c, _⟩ := T; exact He.str_ok a b (c.fact 73 (f := .str "SMALL" "abcdefghijklmnopqrstuvwxyz") rfl)
theorem g_CAPITAL (T : Told B) : ∃ t, B.mg "CAPITAL" = some (.str "ABCDEFGHIJKLMNOPQRSTUVWXYZ" t) := by obtain ⟨h, a, b, c, _⟩ := T; exact He.str_ok a b (c.fact 74 (f := .str "CAPITAL" "ABCDEFGHIJKLMNOPQRSTUVWXYZ") rfl)
theorem g_DIGITS (T : Told B) : ∃ t, B.mg "DIGITS" = some (.str "0123456789" t) := by obtain ⟨h, a, b, c, _⟩ := T; exact He.str_ok a b (c.fact 75 (f := .str "DIGITS" "0123456789") rfl)
theorem g_MOST_HANDS (T : Told B) : ∃ t, B.mg "MOST_HANDS" = some (.int 6 t) := by obtain ⟨h, a, b, c, _⟩ := T; exact He.int_ok a b (c.fact 76 (f := .int "MOST_HANDS" 6) rfl)
theorem g_MOST_KNOWN (T : Told B) : ∃ t, B.mg "MOST_KNOWN" = some (.int 4 t) := by obtain ⟨h, a, b, c, _⟩ := T; exact He.int_ok a b (c.fact 77 (f := .int "MOST_KNOWN" 4) rfl)
theorem c_Line (T : Told B) : Cls B.K (He.ga B.K "Line") := by obtain ⟨h, a, b, c, _⟩ := T; exact He.cls_ok (c.fact 78 (f := .cls "Line") rfl)
theorem k_Line (T : Told B) : Mk B.K (He.ga B.K "Line") (He.ma B.K (He.ga B.K "Line") "__init__") := by obtain ⟨h, a, b, c, _⟩ := T; exact He.mkr_ok (c.fact 79 (f := .mkr "Line") rfl)
theorem a_Line_last (T : Told B) : NoAttr B.K (He.ga B.K "Line") "last" := by obtain ⟨h, a, b, c, _⟩ := T; exact He.noat_ok (c.fact 80 (f := .noat "Line" "last") rfl)
theorem a_Line_bridges (T : Told B) : NoAttr B.K (He.ga B.K "Line") "bridges" := by obtain ⟨h, a, b, c, _⟩ := T; exact He.noat_ok (c.fact 81 (f := .noat "Line" "bridges") rfl)
theorem a_Line_costs (T : Told B) : NoAttr B.K (He.ga B.K "Line") "costs" := by obtain ⟨h, a, b, c, _⟩ := T; exact He.noat_ok (c.fact 82 (f := .noat "Line" "costs") rfl)
theorem a_Line_came (T : Told B) : NoAttr B.K (He.ga B.K "Line") "came" := by obtain ⟨h, a, b, c, _⟩ := T; exact He.noat_ok (c.fact 83 (f := .noat "Line" "came") rfl)
theorem c_Tree (T : Told B) : Cls B.K (He.ga B.K "Tree") := by obtain ⟨h, a, b, c, _⟩ := T; exact He.cls_ok (c.fact 84 (f := .cls "Tree") rfl)
theorem k_Tree (T : Told B) : Mk B.K (He.ga B.K "Tree") (He.ma B.K (He.ga B.K "Tree") "__init__") := by obtain ⟨h, a, b, c, _⟩ := T; exact He.mkr_ok (c.fact 85 (f := .mkr "Tree") rfl)
theorem a_Tree_places (T : Told B) : NoAttr B.K (He.ga B.K "Tree") "places" := by obtain ⟨h, a, b, c, _⟩ := T; exact He.noat_ok (c.fact 86 (f := .noat "Tree" "places") rfl)
theorem a_Tree_end (T : Told B) : NoAttr B.K (He.ga B.K "Tree") "end" := by obtain ⟨h, a, b, c, _⟩ := T; exact He.noat_ok (c.fact 87 (f := .noat "Tree" "end") rfl)
theorem a_Tree_words (T : Told B) : NoAttr B.K (He.ga B.K "Tree") "words" := by obtain ⟨h, a, b, c, _⟩ := T; exact He.noat_ok (c.fact 88 (f := .noat "Tree" "words") rfl)
theorem a_Tree_taken (T : Told B) : NoAttr B.K (He.ga B.K "Tree") "taken" := by obtain ⟨h, a, b, c, _⟩ := T; exact He.noat_ok (c.fact 89 (f := .noat "Tree" "taken") rfl)
theorem a_Tree_walk (T : Told B) : NoAttr B.K (He.ga B.K "Tree") "walk" := by obtain ⟨h, a, b, c, _⟩ := T; exact He.noat_ok (c.fact 90 (f := .noat "Tree" "walk") rfl)
theorem a_Tree_ways (T : Told B) : NoAttr B.K (He.ga B.K "Tree") "ways" := by obtain ⟨h, a, b, c, _⟩ := T; exact He.noat_ok (c.fact 91 (f := .noat "Tree" "ways") rfl)
theorem a_Tree_covered (T : Told B) : NoAttr B.K (He.ga B.K "Tree") "covered" := by obtain ⟨h, a, b, c, _⟩ := T; exact He.noat_ok (c.fact 92 (f := .noat "Tree" "covered") rfl)
theorem c_Fold (T : Told B) : Cls B.K (He.ga B.K "Fold") := by obtain ⟨h, a, b, c, _⟩ := T; exact He.cls_ok (c.fact 93 (f := .cls "Fold") rfl)
theorem k_Fold (T : Told B) : Mk B.K (He.ga B.K "Fold") (He.ma B.K (He.ga B.K "Fold") "__init__") := by obtain ⟨h, a, b, c, _⟩ := T; exact He.mkr_ok (c.fact 94 (f := .mkr "Fold") rfl)
theorem a_Fold_many (T : Told B) : NoAttr B.K (He.ga B.K "Fold") "many" := by obtain ⟨h, a, b, c, _⟩ := T; exact He.noat_ok (c.fact 95 (f := .noat "Fold" "many") rfl)
theorem a_Fold_edges (T : Told B) : NoAttr B.K (He.ga B.K "Fold") "edges" := by obtain ⟨h, a, b, c, _⟩ := T; exact He.noat_ok (c.fact 96 (f := .noat "Fold" "edges") rfl)
theorem m_Line_init (T : Told B) : Meth B.K (He.ga B.K "Line") "__init__" (He.ma B.K (He.ga B.K "Line") "__init__") := by obtain ⟨h, a, b, c, _⟩ := T; exact He.meth_ok (c.fact 97 (f := .meth "Line" "__init__") rfl)
theorem m_Line_leads (T : Told B) : Meth B.K (He.ga B.K "Line") "leads" (He.ma B.K (He.ga B.K "Line") "leads") := by obtain ⟨h, a, b, c, _⟩ := T; exact He.meth_ok (c.fact 98 (f := .meth "Line" "leads") rfl)
theorem m_Line_told_plan (T : Told B) : Meth B.K (He.ga B.K "Line") "told_plan" (He.ma B.K (He.ga B.K "Line") "told_plan") := by obtain ⟨h, a, b, c, _⟩ := T; exact He.meth_ok (c.fact 99 (f := .meth "Line" "told_plan") rfl)
theorem m_Tree_init (T : Told B) : Meth B.K (He.ga B.K "Tree") "__init__" (He.ma B.K (He.ga B.K "Tree") "__init__") := by obtain ⟨h, a, b, c, _⟩ := T; exact He.meth_ok (c.fact 100 (f := .meth "Tree" "__init__") rfl)
theorem m_Tree_goes_around (T : Told B) : Meth B.K (He.ga B.K "Tree") "goes_around" (He.ma B.K (He.ga B.K "Tree") "goes_around") := by obtain ⟨h, a, b, c, _⟩ := T; exact He.meth_ok (c.fact 101 (f := .meth "Tree" "goes_around") rfl)
theorem m_Tree_takes (T : Told B) : Meth B.K (He.ga B.K "Tree") "takes" (He.ma B.K (He.ga B.K "Tree") "takes") := by obtain ⟨h, a, b, c, _⟩ := T; exact He.meth_ok (c.fact 102 (f := .meth "Tree" "takes") rfl)
theorem m_Tree_told_plan (T : Told B) : Meth B.K (He.ga B.K "Tree") "told_plan" (He.ma B.K (He.ga B.K "Tree") "told_plan") := by obtain ⟨h, a, b, c, _⟩ := T; exact He.meth_ok (c.fact 103 (f := .meth "Tree" "told_plan") rfl)
theorem m_Fold_init (T : Told B) : Meth B.K (He.ga B.K "Fold") "__init__" (He.ma B.K (He.ga B.K "Fold") "__init__") := by obtain ⟨h, a, b, c, _⟩ := T; exact He.meth_ok (c.fact 104 (f := .meth "Fold" "__init__") rfl)
theorem m_Fold_adds (T : Told B) : Meth B.K (He.ga B.K "Fold") "adds" (He.ma B.K (He.ga B.K "Fold") "adds") := by obtain ⟨h, a, b, c, _⟩ := T; exact He.meth_ok (c.fact 105 (f := .meth "Fold" "adds") rfl)
theorem m_Fold_adds_round (T : Told B) : Meth B.K (He.ga B.K "Fold") "adds_round" (He.ma B.K (He.ga B.K "Fold") "adds_round") := by obtain ⟨h, a, b, c, _⟩ := T; exact He.meth_ok (c.fact 106 (f := .meth "Fold" "adds_round") rfl)
theorem m_Fold_folds (T : Told B) : Meth B.K (He.ga B.K "Fold") "folds" (He.ma B.K (He.ga B.K "Fold") "folds") := by obtain ⟨h, a, b, c, _⟩ := T; exact He.meth_ok (c.fact 107 (f := .meth "Fold" "folds") rfl)
theorem m_Fold_clash (T : Told B) : Meth B.K (He.ga B.K "Fold") "clash" (He.ma B.K (He.ga B.K "Fold") "clash") := by obtain ⟨h, a, b, c, _⟩ := T; exact He.meth_ok (c.fact 108 (f := .meth "Fold" "clash") rfl)
theorem m_Fold_puts (T : Told B) : Meth B.K (He.ga B.K "Fold") "puts" (He.ma B.K (He.ga B.K "Fold") "puts") := by obtain ⟨h, a, b, c, _⟩ := T; exact He.meth_ok (c.fact 109 (f := .meth "Fold" "puts") rfl)
theorem m_Fold_step (T : Told B) : Meth B.K (He.ga B.K "Fold") "step" (He.ma B.K (He.ga B.K "Fold") "step") := by obtain ⟨h, a, b, c, _⟩ := T; exact He.meth_ok (c.fact 110 (f := .meth "Fold" "step") rfl)
theorem m_Fold_walked (T : Told B) : Meth B.K (He.ga B.K "Fold") "walked" (He.ma B.K (He.ga B.K "Fold") "walked") := by obtain ⟨h, a, b, c, _⟩ := T; exact He.meth_ok (c.fact 111 (f := .meth "Fold" "walked") rfl)
theorem m_Fold_told_plan (T : Told B) : Meth B.K (He.ga B.K "Fold") "told_plan" (He.ma B.K (He.ga B.K "Fold") "told_plan") := by obtain ⟨h, a, b, c, _⟩ := T; exact He.meth_ok (c.fact 112 (f := .meth "Fold" "told_plan") rfl)
end
end K78
set_option maxHeartbeats 0
/-! K78: the head: the top by one run, what it tells. -/
namespace K78
open PySem PySem.Spec L2
namespace HD
abbrev R : PySem.W.OpenRow := PySem.W.OpenLaw.row PySem.Challenge.rw_toldpaths_k78_whole_telling_told
def obX (K : PySem.W.Frag) : He.AlD × Bool := (He.obsD fa fn K, exB K)
def obG (n : Nat) (g : Addr → Option Obj) : He.AlD × Bool := obX (He.frG g (He.asD g n))
def hk : PySem.W.Hook where
  α := He.AlD × Bool
  obs := fun s => obG 4 s.heap.get?
  val := fun _ => (He.valD fn, true)
  says := fun _ h => ∃ K : PySem.W.Frag, K.In h ∧ He.SaysD fa fn K ∧ exB K = true
  of := fun _ _ e => ⟨_, He.frG_in, congrArg (fun z : He.AlD × Bool => z.1) e, congrArg (fun z : He.AlD × Bool => z.2) e⟩
  keeps := fun _ _ _ ⟨K, hK, c⟩ k => ⟨K, PySem.W.Frag.In.keeps hK k, c⟩
def ob (s : PySem.W.SharedT) : He.AlD × Bool := obG 4 (HandSHeadRun.getT s)
theorem ob_eq (s : PySem.W.SharedT) : ob s = hk.obs s.abs := by
  have e : HandSHeadRun.getT s = s.abs.heap.get? := funext (HandSHeadRun.getT_eq s)
  unfold ob; rw [e]; rfl
def nm0 : List PySem.Str := ["_wall", "PathError", "BadManner", "BadPath", "BadHand", "SMALL", "CAPITAL", "DIGITS", "MANNERS", "is_list", "is_manner", "is_rising", "parsed", "is_path", "steps", "marks", "turned_step", "back_word", "reduced_word", "in_order", "tree_of", "fits", "line_bridges", "Line", "Tree", "opposite", "shortened", "Fold", "parted", "plan_of"]
def nm1 : List PySem.Str := ["tells_path", "parts_of", "MOST_HANDS", "MOST_KNOWN", "is_hand", "checked_hands", "checked_path_of", "known_to", "telling", "_law_fresh", "_law_fill", "_law_take", "_law_one", "_law_handed", "_law_same", "_law_read", "_law_word", "_law_marked", "_law_path", "_law_turn", "_law_back", "_law_short", "_law_tree", "_law_fits", "_law_made", "_law_twisted", "_law_pieces", "_law_reached", "_law_made_here", "_law_told_tree"]
def nm2 : List PySem.Str := ["_law_clash", "_law_folded", "_law_room", "_law_told_turned", "_law_is_told", "_law_some_kept", "_law_fewer", "_law_hands"]
def names : List PySem.Str := nm0 ++ nm1 ++ nm2
theorem run (w : World) : HandSHeadRun.RunEq R (PySem.W.view R.prog [76]) hk ob 4000 names w := by
  intro os
  kernel_rfl
end HD
end K78
set_option maxHeartbeats 4000000
/-! K78: words; small rules used in the walks. -/
namespace K78
open PySem PySem.Spec L2
/-! ### words -/
abbrev Wd := List Nat
/-- a step: a, b, A, B -/
def L4 (c : Nat) : Prop := c = 97 ∨ c = 98 ∨ c = 65 ∨ c = 66
instance : DecidablePred L4 := fun c => inferInstanceAs (Decidable (_ ∨ _))
def W4 (l : Wd) : Prop := ∀ c ∈ l, L4 c
/-- a step turned -/
def tn (c : Nat) : Nat := if c < 91 then c + 32 else c - 32
def bk (l : Wd) : Wd := l.reverse.map tn
def rstep (acc : Wd) (c : Nat) : Wd := if acc.getLast? = some (tn c) then acc.dropLast else acc ++ [c]
def red (l : Wd) : Wd := l.foldl rstep []
def CAPS : Wd := List.range' 65 26
def SMALLS : Wd := List.range' 97 26
def DIGS : Wd := List.range' 48 10
theorem tn_L4 {c : Nat} (h : L4 c) : L4 (tn c) := by rcases h with rfl | rfl | rfl | rfl <;> decide
theorem tn_tn {c : Nat} (h : L4 c) : tn (tn c) = c := by rcases h with rfl | rfl | rfl | rfl <;> rfl
theorem W4.app {l m : Wd} (h : W4 l) (k : W4 m) : W4 (l ++ m) := fun c hc => (List.mem_append.mp hc).elim (h c) (k c)
theorem W4.bk {l : Wd} (h : W4 l) : W4 (bk l) := fun c hc => by
  unfold K78.bk at hc
  obtain ⟨a, ha, rfl⟩ := List.mem_map.mp hc
  exact tn_L4 (h a (List.mem_reverse.mp ha))
theorem W4.step {l : Wd} {c : Nat} (h : W4 l) (k : L4 c) : W4 (rstep l c) := fun a ha => by
  unfold rstep at ha
  split at ha
  · exact h a (List.dropLast_subset _ ha)
  · rcases List.mem_append.mp ha with q | q
    · exact h a q
    · cases List.mem_singleton.mp q; exact k
theorem W4.fold : ∀ {l acc : Wd}, W4 l → W4 acc → W4 (l.foldl rstep acc)
  | [], acc, _, h => h
  | c :: l, acc, hl, h => W4.fold (l := l) (acc := rstep acc c) (fun a ha => hl a (List.mem_cons_of_mem _ ha)) (h.step (hl c (List.mem_cons_self ..)))
theorem W4.red {l : Wd} (h : W4 l) : W4 (red l) := W4.fold h (fun _ hc => by cases hc)
theorem rstep_len (acc : Wd) (c : Nat) : (rstep acc c).length ≤ acc.length + 1 := by
  unfold rstep; split
  · rw [List.length_dropLast]; omega
  · rw [List.length_append]; exact Nat.le_refl _
theorem fold_len : ∀ (l acc : Wd), (l.foldl rstep acc).length ≤ acc.length + l.length
  | [], acc => by simp
  | c :: l, acc => by
    have h1 := fold_len l (rstep acc c)
    have h2 := rstep_len acc c
    rw [List.foldl_cons, List.length_cons]; omega
theorem red_len (l : Wd) : (red l).length ≤ l.length := by have := fold_len l []; simpa [red] using this
theorem lo_W4 {l : Wd} (h : W4 l) : lo l := fun c hc => by rcases h c hc with rfl | rfl | rfl | rfl <;> decide
section
variable {X : Cx} {F : Fm} {ε : Env} {R : ER} {a b e c o : Expr} {es : List Expr} {pos p p2 apos cpos pos' : Pos} {Q : PyData → Prop} {x : Str}
/-- a module's text -/
theorem ew_strc {z : Str} (l : Wd) (h : ∃ t, X.mg x = some (.str z t)) (q : Q (S l)) (e : z = tx l := by decide +kernel) (hg : Gl X x := by rfl) (hdb : (x == ("__debug__" : Str)) = false := by decide) : EW X F (.Name x pos) ε Q := by
  obtain ⟨t, hm⟩ := h
  subst e
  exact ew_glob (v := .str (tx l)) hm ⟨t, rfl⟩ (fun H => .str (tx l)) q hg hdb
theorem ew_intc {i : Int} (h : ∃ t, X.mg x = some (.int i t)) (q : Q (.int i)) (hg : Gl X x := by rfl) (hdb : (x == ("__debug__" : Str)) = false := by decide) : EW X F (.Name x pos) ε Q := by
  obtain ⟨t, hm⟩ := h
  exact ew_glob (v := .int i) hm ⟨t, rfl⟩ (fun H => .int i) q hg hdb
end
section
variable {X : Cx} {F : Fm} {ε : Env} {R : ER} {a b e c o tg iter elt : Expr} {ifs : List Expr} {es : List Expr} {pos p p2 apos cpos pos' : Pos} {Q : PyData → Prop} {x : Str} {scope : Scope} {vs : List Nat}
theorem ew_join {j : Nat} {x : Str} (h : EW X F e ε fun d => ∃ ls : List Wd, d = .list (ls.map S) ∧ (ls.map List.length).sum ≤ 16000000 ∧ Q (S ls.flatten)) (hx : x = tx [] := by rfl) (hs : starEach [e] X.env = [(false, eval e X.env)] := by rfl) (hline : (apos.endLine == pos.line) = true := by rfl) : EW X F (.Call (.Attribute (.Constant (.str x) j p) "join" apos) [e] [] pos) ε Q :=
  ew_sm1 PySem.F.slot_str_join PySem.F.type_str_join (ew_tx [] ⟨⟨_, rfl⟩, h.imp fun d ⟨ls, ed, hz, q⟩ => by subst ed; exact m_join hz q⟩ hx) hs rfl hline
theorem ew_lower {n : Str} (h : EW X F (.Name n p) ε fun d => ∃ z : Str, d = .str z ∧ z.length ≤ 5000000 ∧ Q (.str (Txt.lower z))) (hline : (apos.endLine == pos.line) = true := by rfl) : EW X F (.Call (.Attribute (.Name n p) "lower" apos) [] [] pos) ε Q :=
  ew_sm0 PySem.F.slot_str_lower PySem.F.type_str_lower (h.imp fun d ⟨z, ed, hz, q⟩ => by subst ed; exact ⟨⟨_, rfl⟩, m_lower hz q⟩) rfl hline
theorem ew_upper {n : Str} (h : EW X F (.Name n p) ε fun d => ∃ z : Str, d = .str z ∧ z.length ≤ 5000000 ∧ Q (.str (Txt.upper z))) (hline : (apos.endLine == pos.line) = true := by rfl) : EW X F (.Call (.Attribute (.Name n p) "upper" apos) [] [] pos) ε Q :=
  ew_sm0 PySem.F.slot_str_upper PySem.F.type_str_upper (h.imp fun d ⟨z, ed, hz, q⟩ => by subst ed; exact ⟨⟨_, rfl⟩, m_upper hz q⟩) rfl hline
/-- all([..]), any([..]) of tests -/
theorem ew_allc {α : Type} (xs : List α) (f : α → Bool) (hm : X.mg "all" = none) (h : EW X F e ε fun d => d = .list (xs.map fun x => .bool (f x)) ∧ Q (.bool (xs.all f))) (hc : X.calm = true := by rfl) (hg : Gl X "all" := by rfl)
    (he : starEach [e] X.env = (false, eval e X.env) :: starEach [] X.env := by rfl) (hpl : (backTo pos (starEach [] X.env)).any (·.1) = false := by rfl) : EW X F (.Call (.Name "all" p) [e] [] pos) ε Q :=
  ew_callB hm (aw_cons (h.imp fun d ⟨ed, q⟩ => aw_nil (by
    subst ed
    have e1 : (xs.map fun x => PyData.bool (f x)) = (xs.map f).map .bool := by rw [List.map_map]; rfl
    rw [e1]
    refine c_all ?_ hc
    rw [List.all_map]
    exact q)) he) (hg := hg) (he := he) (hpl := hpl)
theorem ew_anyc {α : Type} (xs : List α) (f : α → Bool) (hm : X.mg "any" = none) (h : EW X F e ε fun d => d = .list (xs.map fun x => .bool (f x)) ∧ Q (.bool (xs.any f))) (hc : X.calm = true := by rfl) (hg : Gl X "any" := by rfl)
    (he : starEach [e] X.env = (false, eval e X.env) :: starEach [] X.env := by rfl) (hpl : (backTo pos (starEach [] X.env)).any (·.1) = false := by rfl) : EW X F (.Call (.Name "any" p) [e] [] pos) ε Q :=
  ew_callB hm (aw_cons (h.imp fun d ⟨ed, q⟩ => aw_nil (by
    subst ed
    have e1 : (xs.map fun x => PyData.bool (f x)) = (xs.map f).map .bool := by rw [List.map_map]; rfl
    rw [e1]
    refine c_any ?_ hc
    rw [List.any_map]
    exact q)) he) (hg := hg) (he := he) (hpl := hpl)
theorem ew_len {Q : PyData → Prop} (hm : X.mg "len" = none) (h : EW X F e ε fun d => ((∃ ds, IsSeq d ds ∧ Q (.int (ds.length : Nat))) ∨ ∃ l : Wd, d = S l ∧ l.length ≤ 16000000 ∧ Q (.int (l.length : Nat)))) (hg : Gl X "len" := by rfl)
    (he : starEach [e] X.env = (false, eval e X.env) :: starEach [] X.env := by rfl) (hpl : (backTo pos (starEach [] X.env)).any (·.1) = false := by rfl) : EW X F (.Call (.Name "len" p) [e] [] pos) ε Q :=
  ew_callB (id := "len") hm (aw_cons (h.imp fun d z => aw_nil (by
    rcases z with ⟨ds, hd, q⟩ | ⟨l, rfl, hz, q⟩
    · exact c_len_q hd q
    · exact c_len_s hz q)) he) (hg := hg) (he := he) (hpl := hpl)
/-! ### comprehensions that map, that filter -/
theorem lcw_of {α : Type} (xs : List α) (enc out : α → PyData) (t : α → Bool) (h : IW X F tg iter ε fun ds => ds = xs.map enc ∧ xs.length < 16000000 ∧
      (∀ x ∈ xs, InBlk X scope fun Y => TWo Y F vs tg (enc x) (wipeE ε vs) fun ε2 => InBlk X scope fun Y => BWs Y F ifs ε2 fun b => b = t x ∧ (b = true → InBlk X scope fun Y => EW Y F elt ε2 fun d' => d' = out x)) ∧ Q (.list ((xs.filter t).map out))) : LcW X F scope vs tg iter elt ifs ε Q := by
  intro hd Hb H σ S R' k
  refine h hd Hb H σ S R' fun J ds Hb' H' S' g it ⟨e1, hz, turn, q⟩ => k J ds Hb' H' S' g it ⟨fun i acc => acc = ((xs.take i).filter t).map out, by simp, fun i d acc ed ea => ?_, fun acc ea => ?_⟩
  · subst e1 ea
    rw [List.getElem?_map] at ed
    cases ex : xs[i]? with
    | none => rw [ex] at ed; cases ed
    | some x =>
      rw [ex] at ed; cases ed
      refine ⟨?_, fun s1 H1 C1 cl1 fp1 => ?_⟩
      · rw [List.length_map]
        exact Nat.lt_of_le_of_lt (Nat.le_trans (List.length_filter_le _ _) (by rw [List.length_take]; exact Nat.min_le_right ..)) hz
      · intro hd2 Hb2 H2 σ2 v S2 r2 Q2 k2
        refine turn x (List.mem_of_getElem? ex) s1 H1 C1 cl1 fp1 hd2 Hb2 H2 σ2 v S2 r2 Q2 fun Hb3 H3 σ3 ε3 S3 g3 l1 f1 m1 n1 z => k2 Hb3 H3 σ3 ε3 S3 g3 l1 f1 m1 n1 fun s4 H4 C4 cl4 fp4 => ?_
        intro hd5 Hb5 H5 σ5 S5 Q5 k5
        have tk : xs.take (i + 1) = xs.take i ++ [x] := by rw [List.take_add_one, ex]; rfl
        refine z s4 H4 C4 cl4 fp4 hd5 Hb5 H5 σ5 S5 Q5 fun b Hb6 H6 S6 g6 ⟨eb, zz⟩ => k5 b Hb6 H6 S6 g6 ⟨fun bt => ?_, fun bf => ?_⟩
        · intro s7 H7 C7 cl7 fp7
          refine (zz bt s7 H7 C7 cl7 fp7).imp fun d' ed' => ?_
          show _ = List.map out (List.filter t (List.take (i + 1) xs))
          rw [tk, List.filter_append, List.map_append, ed']
          have : t x = true := by rw [← eb, bt]
          simp [List.filter, this]
        · have : t x = false := by rw [← eb, bf]
          show _ = List.map out (List.filter t (List.take (i + 1) xs))
          rw [tk, List.filter_append, List.map_append]
          simp [List.filter, this]
  · subst e1 ea
    rw [List.length_map, List.take_length]
    exact q
theorem two_nm (j : Nat) {d : PyData} {QE : Env → Prop} (q : InBlk X scope fun _ => QE ((wipeE ε vs).set j (.dat d))) (hv : j ∈ vs := by decide) (hN : X.N.Nodup := by first | assumption | decide +kernel) (hi : X.N[j]? = some x := by rfl) (hx : InBlk X scope fun Y => L2.Loc Y.env.scope x := by intro _ _ _ _ _; first | exact .inl rfl | exact .inr rfl)
    (hf : InBlk X scope fun Y => Y.fn x = true ∨ Y.env.scope.names.lookup x = some .local := by intro _ _ _ _ _; first | exact .inl rfl | exact .inr rfl) (s : Shared) (H : Hp) (C : Addr) (cl : List (Str × Addr)) (fp : List Addr) : TWo (blkX X scope s H C cl fp) F vs (.Name x pos) d (wipeE ε vs) QE :=
  two_name j (q s H C cl fp) hv hN hi (hx s H C cl fp) (hf s H C cl fp)
/-- [elt for x in iter] -/
theorem ew_lcn {α : Type} (own : List (Str × Nat)) (j : Nat) (xs : List α) (enc out : α → PyData) (h : IW X F (.Name x p) iter ε fun ds => ds = xs.map enc ∧ xs.length < 16000000 ∧ (∀ x ∈ xs, InBlk X scope fun Y => EW Y F elt ((wipeE ε (own.map (·.2))).set j (.dat (enc x))) fun d => d = out x) ∧ Q (.list (xs.map out)))
    (hst : stillAt ε (own.map (·.2)) = true := by rfl) (ok : BlkOk X.N X.env.scope scope own := by exact blkOk_by (by kernel_rfl)) (hc : X.calm = true := by rfl) (hN : X.N.Nodup := by first | assumption | decide +kernel) (hs : ∀ x, foldedSetIterable iter X.env x = pure x := by intro _; rfl)
    (hv : j ∈ own.map (·.2) := by decide) (hi : X.N[j]? = some x := by rfl) (hx : InBlk X scope fun Y => L2.Loc Y.env.scope x := by intro _ _ _ _ _; first | exact .inl rfl | exact .inr rfl) (hf : InBlk X scope fun Y => Y.fn x = true ∨ Y.env.scope.names.lookup x = some .local := by intro _ _ _ _ _; first | exact .inl rfl | exact .inr rfl) : EW X F (.ListComp elt [⟨.Name x p, iter, [], 0⟩] scope pos) ε Q :=
  ew_lc own (lcw_of xs enc out (fun _ => true) (by
    intro hd Hb H σ S R' k
    refine h hd Hb H σ S R' fun J ds Hb' H' S' g it ⟨e1, hz, turn, q⟩ => k J ds Hb' H' S' g it ⟨e1, hz, fun x hx' s1 H1 C1 cl1 fp1 => ?_, by rw [List.filter_eq_self.mpr (fun _ _ => rfl)]; exact q⟩
    exact two_nm j (fun _ _ _ _ _ => fun _ _ _ _ _ => bws_nil ⟨rfl, fun _ => turn x hx'⟩) hv hN hi hx hf s1 H1 C1 cl1 fp1)) hst ok hc hN hs
/-- [elt for x in iter if c] -/
theorem ew_lct {α : Type} (own : List (Str × Nat)) (j : Nat) (xs : List α) (enc out : α → PyData) (t : α → Bool) (h : IW X F (.Name x p) iter ε fun ds => ds = xs.map enc ∧ xs.length < 16000000 ∧
      (∀ x ∈ xs, InBlk X scope fun Y => BW Y F c ((wipeE ε (own.map (·.2))).set j (.dat (enc x))) fun b => b = t x ∧ (b = true → InBlk X scope fun Y => EW Y F elt ((wipeE ε (own.map (·.2))).set j (.dat (enc x))) fun d => d = out x)) ∧ Q (.list ((xs.filter t).map out)))
    (hst : stillAt ε (own.map (·.2)) = true := by rfl) (ok : BlkOk X.N X.env.scope scope own := by exact blkOk_by (by kernel_rfl)) (hc : X.calm = true := by rfl) (hN : X.N.Nodup := by first | assumption | decide +kernel) (hs : ∀ x, foldedSetIterable iter X.env x = pure x := by intro _; rfl)
    (hv : j ∈ own.map (·.2) := by decide) (hi : X.N[j]? = some x := by rfl) (hx : InBlk X scope fun Y => L2.Loc Y.env.scope x := by intro _ _ _ _ _; first | exact .inl rfl | exact .inr rfl) (hf : InBlk X scope fun Y => Y.fn x = true ∨ Y.env.scope.names.lookup x = some .local := by intro _ _ _ _ _; first | exact .inl rfl | exact .inr rfl) : EW X F (.ListComp elt [⟨.Name x p, iter, [c], 0⟩] scope pos) ε Q :=
  ew_lc own (lcw_of xs enc out t (by
    intro hd Hb H σ S R' k
    refine h hd Hb H σ S R' fun J ds Hb' H' S' g it ⟨e1, hz, turn, q⟩ => k J ds Hb' H' S' g it ⟨e1, hz, fun x hx' s1 H1 C1 cl1 fp1 => ?_, q⟩
    exact two_nm j (fun _ _ _ _ _ => fun s2 H2 C2 cl2 fp2 => bws_one (turn x hx' s2 H2 C2 cl2 fp2)) hv hN hi hx hf s1 H1 C1 cl1 fp1)) hst ok hc hN hs
end
/-- a turned step -/
theorem turn_W {c : Nat} (h : L4 c) : (if decide (c ∈ CAPS) then Txt.lower (tx [c]) else Txt.upper (tx [c])) = tx [tn c] := by rcases h with rfl | rfl | rfl | rfl <;> decide +kernel
end K78
/-! K78: plain: reduced words. -/
namespace K78
/-- nothing to cancel -/
inductive Rd : Wd → Prop
  | nil : Rd []
  | one {c} : L4 c → Rd [c]
  | more {l c d} : Rd (l ++ [c]) → L4 d → c ≠ tn d → Rd (l ++ [c] ++ [d])
theorem Rd.last {l : Wd} {c d : Nat} (h : Rd (l ++ [c] ++ [d])) : Rd (l ++ [c]) ∧ L4 d ∧ c ≠ tn d := by
  generalize e : l ++ [c] ++ [d] = m at h
  cases h with
  | nil => simp at e
  | one _ => have := congrArg List.length e; simp at this
  | more h1 h2 h3 =>
    obtain ⟨e1, e2⟩ := List.append_inj' e rfl
    obtain ⟨e3, e4⟩ := List.append_inj' e1 rfl
    cases e2; cases e3; cases e4
    exact ⟨h1, h2, h3⟩
theorem Rd.pre {l : Wd} {d : Nat} (h : Rd (l ++ [d])) : Rd l ∧ L4 d := by
  rcases List.eq_nil_or_concat l with rfl | ⟨m, c, rfl⟩
  · generalize e : [] ++ [d] = m at h
    cases h with
    | nil => cases e
    | one h => cases e; exact ⟨.nil, h⟩
    | more h1 h2 h3 => have := congrArg List.length e; simp at this
  · rw [List.concat_eq_append] at h ⊢
    exact ⟨h.last.1, h.last.2.1⟩
theorem Rd.step {l : Wd} {c : Nat} (h : Rd l) (k : L4 c) : Rd (rstep l c) := by
  rcases List.eq_nil_or_concat l with rfl | ⟨m, a, rfl⟩
  · exact .one k
  · rw [List.concat_eq_append] at h ⊢
    unfold rstep
    rw [List.getLast?_concat, List.dropLast_concat]
    by_cases e : some a = some (tn c)
    · rw [if_pos e]; exact h.pre.1
    · rw [if_neg e]; exact .more h k fun z => e (by rw [z])
theorem Rd.fold : ∀ {u a : Wd}, Rd a → W4 u → Rd (u.foldl rstep a)
  | [], a, h, _ => h
  | c :: u, a, h, w => Rd.fold (u := u) (h.step (w c (List.mem_cons_self ..))) fun d hd => w d (List.mem_cons_of_mem _ hd)
theorem rd_red {u : Wd} (h : W4 u) : Rd (red u) := Rd.fold .nil h
theorem Rd.w4 {u : Wd} (h : Rd u) : W4 u := by
  induction h with
  | nil => intro c hc; cases hc
  | one h => intro c hc; cases List.mem_singleton.mp hc; exact h
  | more _ h2 _ ih => exact ih.app fun c hc => by cases List.mem_singleton.mp hc; exact h2
theorem fold_rd {u : Wd} (h : Rd u) : red u = u := by
  induction h with
  | nil => rfl
  | one _ => rfl
  | @more l c d h1 h2 h3 ih =>
    unfold red at *
    rw [List.foldl_append, ih]
    show rstep (l ++ [c]) d = _
    unfold rstep
    rw [List.getLast?_concat, if_neg (fun z => h3 (Option.some.inj z))]
/-- a sign and its turn cancel -/
theorem cancel {a : Wd} {c : Nat} (h : Rd a) (k : L4 c) : rstep (rstep a c) (tn c) = a := by
  rcases List.eq_nil_or_concat a with rfl | ⟨m, x, rfl⟩
  · show rstep [c] (tn c) = []
    unfold rstep
    rw [tn_tn k]; simp
  · rw [List.concat_eq_append] at h ⊢
    by_cases e : x = tn c
    · have e1 : rstep (m ++ [x]) c = m := by unfold rstep; rw [List.getLast?_concat, if_pos (by rw [e]), List.dropLast_concat]
      rw [e1]
      unfold rstep
      rw [tn_tn k, if_neg, e]
      intro z
      rcases List.eq_nil_or_concat m with rfl | ⟨n, y, rfl⟩
      · cases z
      · rw [List.concat_eq_append] at h z
        rw [List.getLast?_concat] at z
        cases z
        exact h.last.2.2 (by rw [e, tn_tn k])
    · have e1 : rstep (m ++ [x]) c = m ++ [x] ++ [c] := by unfold rstep; rw [List.getLast?_concat, if_neg (fun z => e (Option.some.inj z))]
      rw [e1]
      unfold rstep
      rw [List.getLast?_concat, if_pos (by rw [tn_tn k]), List.dropLast_concat]
theorem bk_cons (c : Nat) (u : Wd) : bk (c :: u) = bk u ++ [tn c] := by unfold bk; simp
theorem bk_app (u v : Wd) : bk (u ++ v) = bk v ++ bk u := by unfold bk; simp
theorem bk_len (u : Wd) : (bk u).length = u.length := by unfold bk; simp
theorem bk_bk {u : Wd} (h : W4 u) : bk (bk u) = u := by
  induction u with
  | nil => rfl
  | cons c u ih =>
    rw [bk_cons, bk_app, ih fun d hd => h d (List.mem_cons_of_mem _ hd)]
    show [tn (tn c)] ++ u = _
    rw [tn_tn (h c (List.mem_cons_self ..))]; rfl
theorem fold_bk : ∀ {u a : Wd}, Rd a → W4 u → (u ++ bk u).foldl rstep a = a
  | [], a, _, _ => rfl
  | c :: u, a, h, w => by
    have hc := w c (List.mem_cons_self ..)
    have hu : W4 u := fun d hd => w d (List.mem_cons_of_mem _ hd)
    rw [bk_cons, List.cons_append, List.foldl_cons, ← List.append_assoc, List.foldl_append, fold_bk (h.step hc) hu]
    exact cancel h hc
theorem red_app (u v : Wd) : red (u ++ v) = v.foldl rstep (red u) := by unfold red; rw [List.foldl_append]
theorem red_redl {u v : Wd} (h : W4 u) : red (red u ++ v) = red (u ++ v) := by rw [red_app, red_app, fold_rd (rd_red h)]
theorem snoc_ind {P : Wd → Prop} (h0 : P []) (h1 : ∀ u c, P u → P (u ++ [c])) (u : Wd) : P u := by
  have : ∀ n (u : Wd), u.length = n → P u := by
    intro n
    induction n with
    | zero => intro u hu; rw [List.eq_nil_of_length_eq_zero hu]; exact h0
    | succ n ih =>
      intro u hu
      rcases List.eq_nil_or_concat u with rfl | ⟨m, x, rfl⟩
      · cases hu
      · rw [List.concat_eq_append] at hu ⊢
        exact h1 m x (ih m (by simpa using hu))
  exact this _ u rfl
theorem fold_red {a : Wd} (h : Rd a) (u : Wd) : W4 u → (red u).foldl rstep a = u.foldl rstep a := by
  refine snoc_ind (P := fun u => W4 u → (red u).foldl rstep a = u.foldl rstep a) (fun _ => rfl) (fun u c ih w => ?_) u
  have hu : W4 u := fun d hd => w d (List.mem_append_left _ hd)
  have hc : L4 c := w c (List.mem_append_right _ (List.mem_singleton.mpr rfl))
  have ih := ih hu
  have hr := rd_red hu
  rw [List.foldl_append, ← ih, red_app]
  show (rstep (red u) c).foldl rstep a = rstep ((red u).foldl rstep a) c
  generalize red u = r at hr ⊢
  rcases List.eq_nil_or_concat r with rfl | ⟨m, x, rfl⟩
  · rfl
  · rw [List.concat_eq_append] at hr ⊢
    by_cases e : x = tn c
    · have e1 : rstep (m ++ [x]) c = m := by unfold rstep; rw [List.getLast?_concat, if_pos (by rw [e]), List.dropLast_concat]
      rw [e1, List.foldl_append]
      show _ = rstep (rstep (m.foldl rstep a) x) c
      have hm : Rd (m.foldl rstep a) := Rd.fold h hr.pre.1.w4
      have := cancel hm hr.pre.2
      rw [e, tn_tn hc] at this
      rw [e]; exact this.symm
    · have e1 : rstep (m ++ [x]) c = m ++ [x] ++ [c] := by unfold rstep; rw [List.getLast?_concat, if_neg (fun z => e (Option.some.inj z))]
      rw [e1, List.foldl_append, List.foldl_append]; rfl
theorem red_redr {u v : Wd} (hu : W4 u) (hv : W4 v) : red (u ++ red v) = red (u ++ v) := by rw [red_app, red_app]; exact fold_red (rd_red hu) v hv
theorem red_bk {u v : Wd} (hu : W4 u) (hv : W4 v) : red (u ++ (v ++ bk v)) = red u := by rw [red_app]; exact fold_bk (rd_red hu) hv
/-! ### covers -/
def cov (p w : Wd) : List Wd := (List.range (w.length + 1)).map fun k => red (p ++ w.take k)
theorem mem_cov {p w x : Wd} : x ∈ cov p w ↔ ∃ k, k ≤ w.length ∧ x = red (p ++ w.take k) := by
  unfold cov
  constructor
  · intro h; obtain ⟨k, hk, rfl⟩ := List.mem_map.mp h; exact ⟨k, by have := List.mem_range.mp hk; omega, rfl⟩
  · rintro ⟨k, hk, rfl⟩; exact List.mem_map.mpr ⟨k, List.mem_range.mpr (by omega), rfl⟩
theorem bk_take (w : Wd) (k : Nat) : (bk w).take k = bk (w.drop (w.length - k)) := by unfold bk; rw [List.map_take.symm, List.take_reverse]
/-- the same from the other end -/
theorem cov_back {p w x : Wd} (hp : W4 p) (hw : W4 w) : x ∈ cov (red (p ++ w)) (bk w) ↔ x ∈ cov p w := by
  have key : ∀ k, k ≤ w.length → red (red (p ++ w) ++ (bk w).take k) = red (p ++ w.take (w.length - k)) := fun k hk => by
    rw [red_redl (hp.app hw), bk_take]
    have e : p ++ w ++ bk (w.drop (w.length - k)) = (p ++ w.take (w.length - k)) ++ (w.drop (w.length - k) ++ bk (w.drop (w.length - k))) := by
      rw [← List.append_assoc (p ++ w.take (w.length - k)), List.append_assoc p (w.take _), List.take_append_drop]
    rw [e]
    exact red_bk (hp.app fun d hd => hw d (List.mem_of_mem_take hd)) fun d hd => hw d (List.mem_of_mem_drop hd)
  rw [mem_cov, mem_cov, bk_len]
  constructor
  · rintro ⟨k, hk, rfl⟩; exact ⟨w.length - k, by omega, key k hk⟩
  · rintro ⟨k, hk, rfl⟩; exact ⟨w.length - k, by omega, by rw [key _ (by omega)]; congr 3; omega⟩
theorem cov_end {p w : Wd} : red (p ++ w) ∈ cov p w := mem_cov.mpr ⟨w.length, Nat.le_refl _, by rw [List.take_length]⟩
theorem cov_start {p w : Wd} (hp : Rd p) : p ∈ cov p w := mem_cov.mpr ⟨0, Nat.zero_le _, by rw [List.take_zero, List.append_nil, fold_rd hp]⟩
/-- the way back ends where one began -/
theorem way_back {p w : Wd} (hp : Rd p) (hw : W4 w) : red (red (p ++ w) ++ bk w) = p := by
  rw [red_redl (hp.w4.app hw), List.append_assoc, red_bk hp.w4 hw, fold_rd hp]
end K78
/-! K78: plain: folded graphs. -/
namespace K78
/-- what the kept words make -/
inductive Gen (K : List Wd) : Wd → Prop
  | nil : Gen K []
  | gen {k} : k ∈ K → W4 k → Gen K k
  | mul {u v} : Gen K u → Gen K v → Gen K (u ++ v)
  | inv {u} : Gen K u → Gen K (bk u)
  | eqv {u v} : Gen K u → W4 v → red u = red v → Gen K v
theorem Gen.w4 {K : List Wd} {u : Wd} (h : Gen K u) : W4 u := by
  induction h with
  | nil => intro c hc; cases hc
  | gen _ h => exact h
  | mul _ _ a b => exact a.app b
  | inv _ a => exact a.bk
  | eqv _ h _ _ => exact h
/-- equal when reduced -/
def Eqv (u v : Wd) : Prop := red u = red v
theorem Eqv.app {u v u' v' : Wd} (hu : W4 u) (hu' : W4 u') (hv : W4 v) (hv' : W4 v') (h : Eqv u u') (k : Eqv v v') : Eqv (u ++ v) (u' ++ v') := by
  unfold Eqv at *
  rw [← red_redl hu, ← red_redr (u := red u) (W4.red hu) hv, h, k, red_redr (W4.red hu') hv', red_redl hu']
theorem eqv_bkr {v : Wd} (h : W4 v) : Eqv (v ++ bk v) [] := by have := red_bk (u := []) (fun _ h => by cases h) h; simpa [Eqv] using this
theorem eqv_bkl {v : Wd} (h : W4 v) : Eqv (bk v ++ v) [] := by have := eqv_bkr h.bk; rw [bk_bk h] at this; exact this
theorem eqv_bk {u v : Wd} (hu : W4 u) (hv : W4 v) (h : Eqv u v) : Eqv (bk u) (bk v) := by
  have n : W4 [] := fun _ h => by cases h
  have e1 : Eqv (bk u ++ (v ++ bk v)) (bk u ++ []) := Eqv.app hu.bk hu.bk (hv.app hv.bk) n rfl (eqv_bkr hv)
  have e2 : Eqv ((bk u ++ u) ++ bk v) ([] ++ bk v) := Eqv.app (hu.bk.app hu) n hv.bk hv.bk (eqv_bkl hu) rfl
  have e3 : Eqv ((bk u ++ v) ++ bk v) ((bk u ++ u) ++ bk v) := Eqv.app (hu.bk.app hv) (hu.bk.app hu) hv.bk hv.bk (Eqv.app hu.bk hu.bk hv hu rfl h.symm) rfl
  unfold Eqv at *
  rw [List.append_nil] at e1
  rw [List.nil_append] at e2
  rw [← e1, ← List.append_assoc, e3, e2]
/-! ### graphs -/
abbrev Edges := List (Nat × Nat × Nat)
/-- small letters -/
def Sm (E : Edges) : Prop := ∀ e ∈ E, e.2.1 = 97 ∨ e.2.1 = 98
def St (E : Edges) (x s y : Nat) : Prop := (x, s, y) ∈ E ∨ (y, tn s, x) ∈ E
inductive Walks (E : Edges) : Nat → Wd → Nat → Prop
  | nil {x} : Walks E x [] x
  | snoc {x u m c y} : Walks E x u m → L4 c → St E m c y → Walks E x (u ++ [c]) y
theorem Walks.last {E : Edges} {x y : Nat} {u : Wd} {c : Nat} (h : Walks E x (u ++ [c]) y) : ∃ m, Walks E x u m ∧ L4 c ∧ St E m c y := by
  generalize e : u ++ [c] = w at h
  cases h with
  | nil => simp at e
  | snoc h1 h2 h3 =>
    obtain ⟨e1, e2⟩ := List.append_inj' e rfl
    cases e1; cases e2
    exact ⟨_, h1, h2, h3⟩
theorem Walks.w4 {E : Edges} {x y : Nat} {u : Wd} (h : Walks E x u y) : W4 u := by
  induction h with
  | nil => intro c hc; cases hc
  | snoc _ h2 _ ih => exact ih.app fun c hc => by cases List.mem_singleton.mp hc; exact h2
theorem Walks.trans {E : Edges} {x y z : Nat} {u v : Wd} (h : Walks E x u y) (k : Walks E y v z) : Walks E x (u ++ v) z := by
  induction k with
  | nil => rw [List.append_nil]; exact h
  | snoc _ h2 h3 ih => rw [← List.append_assoc]; exact .snoc ih h2 h3
theorem St.flip {E : Edges} {x s y : Nat} (hs : L4 s) (h : St E x s y) : St E y (tn s) x := by
  rcases h with h | h
  · exact .inr (by rw [tn_tn hs]; exact h)
  · exact .inl h
theorem Walks.flip {E : Edges} {x y : Nat} {u : Wd} (h : Walks E x u y) : Walks E y (bk u) x := by
  induction h with
  | nil => exact .nil
  | snoc h1 h2 h3 ih =>
    rw [bk_app]
    exact (Walks.snoc (u := []) .nil (tn_L4 h2) (h3.flip h2)).trans ih
theorem Walks.mono {E E' : Edges} {x y : Nat} {u : Wd} (hE : ∀ e ∈ E, e ∈ E') (h : Walks E x u y) : Walks E' x u y := by
  induction h with
  | nil => exact .nil
  | snoc _ h2 h3 ih => exact .snoc ih h2 (h3.imp (hE _) (hE _))
/-- no two edges of a letter share one end -/
def Det (E : Edges) : Prop := ∀ e ∈ E, ∀ f ∈ E, e.2.1 = f.2.1 → (e.1 = f.1 ↔ e.2.2 = f.2.2)
theorem st_det {E : Edges} (d : Det E) (sm : Sm E) {x s y z : Nat} (hs : L4 s) (h : St E x s y) (k : St E x s z) : y = z := by
  have no : ∀ a b c d : Nat, (a, s, b) ∈ E → (c, tn s, d) ∈ E → False := fun a b c d h1 h2 => by
    have h1 := sm _ h1
    have h2 := sm _ h2
    have h1 : s = 97 ∨ s = 98 := h1
    have h2 : tn s = 97 ∨ tn s = 98 := h2
    rcases h1 with rfl | rfl <;> revert h2 <;> decide
  rcases h with h | h <;> rcases k with k | k
  · exact (d _ h _ k rfl).mp rfl
  · exact (no _ _ _ _ h k).elim
  · exact (no _ _ _ _ k h).elim
  · exact (d _ h _ k rfl).mpr rfl
theorem walks_det {E : Edges} (d : Det E) (sm : Sm E) {x y : Nat} {u : Wd} (h : Walks E x u y) : ∀ {z}, Walks E x u z → y = z := by
  induction h with
  | nil =>
    intro z k
    generalize e : ([] : Wd) = w at k
    cases k with
    | nil => rfl
    | snoc => simp at e
  | snoc h1 h2 h3 ih =>
    intro z k
    obtain ⟨m, k1, _, k3⟩ := k.last
    cases ih k1
    exact st_det d sm h2 h3 k3
/-- in such a graph a reduced word goes where the word goes -/
theorem walks_red {E : Edges} (d : Det E) (sm : Sm E) {x y : Nat} {u : Wd} (h : Walks E x u y) : Walks E x (red u) y := by
  induction h with
  | nil => exact .nil
  | @snoc u m c y h1 h2 h3 ih =>
    rw [red_app]
    show Walks E x (rstep (red u) c) y
    rcases List.eq_nil_or_concat (red u) with e | ⟨r, a, e⟩
    · rw [e] at ih ⊢; exact .snoc (u := []) ih h2 h3
    · rw [List.concat_eq_append] at e
      rw [e] at ih ⊢
      unfold rstep
      rw [List.getLast?_concat, List.dropLast_concat]
      by_cases ca : a = tn c
      · rw [if_pos (by rw [ca])]
        obtain ⟨m', k1, k2, k3⟩ := ih.last
        have k4 := k3.flip k2
        rw [ca, tn_tn h2] at k4
        rw [← st_det d sm h2 k4 h3]; exact k1
      · rw [if_neg (fun z => ca (Option.some.inj z))]
        exact .snoc ih h2 h3
/-! ### potentials -/
structure Pot (K : List Wd) (E : Edges) (φ : Nat → Wd) : Prop where
  z : φ 0 = []
  w : ∀ x, W4 (φ x)
  e : ∀ e ∈ E, Gen K (φ e.1 ++ [e.2.1] ++ bk (φ e.2.2))
theorem w41 {c : Nat} (h : L4 c) : W4 [c] := fun d hd => by cases List.mem_singleton.mp hd; exact h
theorem Sm.l4 {E : Edges} (sm : Sm E) {e : Nat × Nat × Nat} (h : e ∈ E) : L4 e.2.1 := by rcases sm e h with q | q <;> rw [q] <;> decide
theorem Pot.st {K : List Wd} {E : Edges} {φ : Nat → Wd} (P : Pot K E φ) {x s y : Nat} (hs : L4 s) (h : St E x s y) : Gen K (φ x ++ [s] ++ bk (φ y)) := by
  rcases h with h | h
  · exact P.e _ h
  · have := (P.e _ h).inv
    simp only [bk_app, bk_bk (P.w _)] at this
    have e : bk [tn s] = [s] := by show [tn (tn s)] = _; rw [tn_tn hs]
    rw [e, ← List.append_assoc] at this
    exact this
theorem Pot.walks {K : List Wd} {E : Edges} {φ : Nat → Wd} (P : Pot K E φ) {x y : Nat} {u : Wd} (h : Walks E x u y) : Gen K (φ x ++ u ++ bk (φ y)) := by
  induction h with
  | nil => exact .eqv .nil (((P.w x).app (fun _ h => by cases h)).app (P.w x).bk) (by rw [List.append_nil]; exact (eqv_bkr (P.w x)).symm)
  | @snoc u m c y h1 h2 h3 ih =>
    have g := ih.mul (P.st h2 h3)
    have hu := h1.w4
    refine .eqv g (((P.w x).app (hu.app (w41 h2))).app (P.w y).bk) ?_
    have e1 : (φ x ++ u ++ bk (φ m)) ++ (φ m ++ [c] ++ bk (φ y)) = (φ x ++ u) ++ ((bk (φ m) ++ φ m) ++ ([c] ++ bk (φ y))) := by simp
    have e2 : φ x ++ (u ++ [c]) ++ bk (φ y) = (φ x ++ u) ++ ([] ++ ([c] ++ bk (φ y))) := by simp
    rw [e1, e2]
    have n : W4 [] := fun _ h => by cases h
    exact Eqv.app ((P.w x).app hu) ((P.w x).app hu) (((P.w m).bk.app (P.w m)).app ((w41 h2).app (P.w y).bk)) (n.app ((w41 h2).app (P.w y).bk)) rfl (Eqv.app ((P.w m).bk.app (P.w m)) n ((w41 h2).app (P.w y).bk) ((w41 h2).app (P.w y).bk) (eqv_bkl (P.w m)) rfl)
/-- what holds of a graph made of K, folded or not -/
structure FInv (K : List Wd) (E : Edges) : Prop where
  sm : Sm E
  p : ∃ φ, Pot K E φ
  k : ∀ k ∈ K, Walks E 0 k 0
/-- folded to its end: it tells what is made -/
theorem told_iff {K : List Wd} {E : Edges} (I : FInv K E) (d : Det E) {w : Wd} (hw : W4 w) : Walks E 0 (red w) 0 ↔ Gen K w := by
  constructor
  · intro h
    obtain ⟨φ, P⟩ := I.p
    have g := P.walks h
    rw [P.z] at g
    have g : Gen K ([] ++ red w ++ []) := g
    rw [List.nil_append, List.append_nil] at g
    exact .eqv g hw (fold_rd (rd_red hw))
  · intro h
    induction h with
    | nil => exact .nil
    | gen hk _ => exact walks_red d I.sm (I.k _ hk)
    | @mul u v a b iha ihb =>
      have := walks_red d I.sm ((iha a.w4).trans (ihb b.w4))
      rw [red_redl a.w4, red_redr a.w4 b.w4] at this
      exact this
    | @inv u a iha =>
      have := walks_red d I.sm (iha a.w4).flip
      rw [show red (bk (red u)) = red (bk u) from eqv_bk (W4.red a.w4) a.w4 (fold_rd (rd_red a.w4))] at this
      exact this
    | eqv a _ e ih => rw [← e]; exact ih a.w4
/-! ### folding -/
def mrg (g k : Nat) (x : Nat) : Nat := if x = g then k else x
def Clash (E : Edges) (g k : Nat) : Prop := (∃ x a, (x, a, g) ∈ E ∧ (x, a, k) ∈ E) ∨ ∃ a z, (g, a, z) ∈ E ∧ (k, a, z) ∈ E
theorem Clash.symm {E : Edges} {g k : Nat} (h : Clash E g k) : Clash E k g := by
  rcases h with ⟨x, a, h1, h2⟩ | ⟨a, z, h1, h2⟩
  · exact .inl ⟨x, a, h2, h1⟩
  · exact .inr ⟨a, z, h2, h1⟩
theorem clash_gen {K : List Wd} {E : Edges} {φ : Nat → Wd} (P : Pot K E φ) (sm : Sm E) {g k : Nat} (h : Clash E g k) : Gen K (φ g ++ bk (φ k)) := by
  have n : W4 [] := fun _ h => by cases h
  rcases h with ⟨x, a, h1, h2⟩ | ⟨a, z, h1, h2⟩
  · have la := w41 (sm.l4 h1)
    have q := (P.e _ h1).inv.mul (P.e _ h2)
    refine .eqv q ((P.w g).app (P.w k).bk) ?_
    have wx := (P.w x).app la
    have e1 : bk (φ x ++ [a] ++ bk (φ g)) ++ (φ x ++ [a] ++ bk (φ k)) = φ g ++ ((bk (φ x ++ [a]) ++ (φ x ++ [a])) ++ bk (φ k)) := by rw [bk_app, bk_bk (P.w g)]; simp
    have e2 : φ g ++ bk (φ k) = φ g ++ ([] ++ bk (φ k)) := rfl
    show red (bk (φ x ++ [a] ++ bk (φ g)) ++ (φ x ++ [a] ++ bk (φ k))) = _
    rw [e1, e2]
    exact Eqv.app (P.w g) (P.w g) ((wx.bk.app wx).app (P.w k).bk) (n.app (P.w k).bk) rfl (Eqv.app (wx.bk.app wx) n (P.w k).bk (P.w k).bk (eqv_bkl wx) rfl)
  · have la := w41 (sm.l4 h1)
    have q := (P.e _ h1).mul (P.e _ h2).inv
    refine .eqv q ((P.w g).app (P.w k).bk) ?_
    have wz := la.app (P.w z).bk
    have e1 : (φ g ++ [a] ++ bk (φ z)) ++ bk (φ k ++ [a] ++ bk (φ z)) = φ g ++ ((([a] ++ bk (φ z)) ++ bk ([a] ++ bk (φ z))) ++ bk (φ k)) := by rw [List.append_assoc (φ k), bk_app (φ k)]; simp
    have e2 : φ g ++ bk (φ k) = φ g ++ ([] ++ bk (φ k)) := rfl
    show red ((φ g ++ [a] ++ bk (φ z)) ++ bk (φ k ++ [a] ++ bk (φ z))) = _
    rw [e1, e2]
    exact Eqv.app (P.w g) (P.w g) ((wz.app wz.bk).app (P.w k).bk) (n.app (P.w k).bk) rfl (Eqv.app (wz.app wz.bk) n (P.w k).bk (P.w k).bk (eqv_bkr wz) rfl)
/-- two rooms made one -/
theorem fold_inv {K : List Wd} {E E' : Edges} {g k : Nat} (I : FInv K E) (h : Clash E g k) (hg : g ≠ 0) (hE : ∀ e, e ∈ E' ↔ ∃ f ∈ E, e = (mrg g k f.1, f.2.1, mrg g k f.2.2)) : FInv K E' := by
  refine ⟨fun e he => ?_, ?_, fun w hw => ?_⟩
  · obtain ⟨f, hf, rfl⟩ := (hE e).mp he
    exact I.sm f hf
  · obtain ⟨φ, P⟩ := I.p
    refine ⟨φ, P.z, P.w, fun e he => ?_⟩
    obtain ⟨f, hf, rfl⟩ := (hE e).mp he
    have n : W4 [] := fun _ h => by cases h
    have la := w41 (I.sm.l4 hf)
    have gk := clash_gen P I.sm h
    have kg := clash_gen P I.sm h.symm
    have q0 := P.e f hf
    show Gen K (φ (mrg g k f.1) ++ [f.2.1] ++ bk (φ (mrg g k f.2.2)))
    -- the first end
    have q1 : Gen K (φ (mrg g k f.1) ++ [f.2.1] ++ bk (φ f.2.2)) := by
      unfold mrg
      by_cases c : f.1 = g
      · rw [if_pos c]
        rw [c] at q0
        refine .eqv (kg.mul q0) (((P.w k).app la).app (P.w _).bk) ?_
        have e1 : (φ k ++ bk (φ g)) ++ (φ g ++ [f.2.1] ++ bk (φ f.2.2)) = φ k ++ ((bk (φ g) ++ φ g) ++ ([f.2.1] ++ bk (φ f.2.2))) := by simp
        have e2 : φ k ++ [f.2.1] ++ bk (φ f.2.2) = φ k ++ ([] ++ ([f.2.1] ++ bk (φ f.2.2))) := by simp
        rw [e1, e2]
        have t := la.app (P.w f.2.2).bk
        exact Eqv.app (P.w k) (P.w k) (((P.w g).bk.app (P.w g)).app t) (n.app t) rfl (Eqv.app ((P.w g).bk.app (P.w g)) n t t (eqv_bkl (P.w g)) rfl)
      · rw [if_neg c]; exact q0
    unfold mrg at q1 ⊢
    generalize (if f.1 = g then k else f.1) = x1 at q1 ⊢
    by_cases c : f.2.2 = g
    · rw [if_pos c]
      rw [c] at q1
      refine .eqv (q1.mul gk) (((P.w x1).app la).app (P.w k).bk) ?_
      have e1 : (φ x1 ++ [f.2.1] ++ bk (φ g)) ++ (φ g ++ bk (φ k)) = (φ x1 ++ [f.2.1]) ++ ((bk (φ g) ++ φ g) ++ bk (φ k)) := by simp
      have e2 : φ x1 ++ [f.2.1] ++ bk (φ k) = (φ x1 ++ [f.2.1]) ++ ([] ++ bk (φ k)) := by simp
      rw [e1, e2]
      have t := (P.w x1).app la
      exact Eqv.app t t (((P.w g).bk.app (P.w g)).app (P.w k).bk) (n.app (P.w k).bk) rfl (Eqv.app ((P.w g).bk.app (P.w g)) n (P.w k).bk (P.w k).bk (eqv_bkl (P.w g)) rfl)
    · rw [if_neg c]; exact q1
  · have q := I.k w hw
    have mv : ∀ {x y u}, Walks E x u y → Walks E' (mrg g k x) u (mrg g k y) := by
      intro x y u h
      induction h with
      | nil => exact .nil
      | snoc _ h2 h3 ih =>
        refine .snoc ih h2 ?_
        rcases h3 with h3 | h3
        · exact .inl ((hE _).mpr ⟨_, h3, rfl⟩)
        · exact .inr ((hE _).mpr ⟨_, h3, rfl⟩)
    have := mv q
    have z : mrg g k 0 = 0 := if_neg (fun z => hg z.symm)
    rw [z] at this
    exact this
end K78
/-! K78: walks: paths. -/
namespace K78
open PySem PySem.Spec L2
variable {B : Bs}
def PreW (ds : List PyData) : Prop := ∃ l, ds = [S l] ∧ W4 l ∧ l.length ≤ 1000
theorem ok_turned_step (T : Told B) : Ok B 1 d_turned_step p_turned_step (spD (fun ds => ∃ c, ds = [S [c]] ∧ L4 c) fun ds r => ∀ c, ds = [S [c]] → r = S [tn c]) := by
  refine ok_d (h_turned_step T) s_turned_step (by rintro ds ⟨c, rfl, _⟩; rfl) fun c hr F hro ds h => ?_
  obtain ⟨c, rfl, hc⟩ := h
  have nd := s_turned_step.nd
  have fin : (if decide (c ∈ CAPS) then Txt.lower (tx [c]) else Txt.upper (tx [c])) = tx [tn c] := turn_W hc
  refine sws_one (sw_ret (ew_if (bw_cmp rfl (ew_name 0 (ew_strc CAPS (g_CAPITAL T) (op_in_c ⟨_, rfl, fun h => ?_, fun h => ?_⟩))))))
  · rw [h] at fin
    refine ew_lower (ew_name 0 ⟨tx [c], rfl, by show 1 ≤ 5000000; decide, ?_⟩)
    intro c' e; cases e
    exact congrArg PyData.str fin
  · rw [h] at fin
    refine ew_upper (ew_name 0 ⟨tx [c], rfl, by show 1 ≤ 5000000; decide, ?_⟩)
    intro c' e; cases e
    exact congrArg PyData.str fin
/-- a call of turned_step, wherever -/
theorem ew_turned {X : Cx} {F : Fm} {ε : Env} {e : Expr} {p pos : Pos} {Q : PyData → Prop} (T : Told (bsOf X)) (h : EW X F e ε fun d => ∃ c, d = S [c] ∧ L4 c ∧ Q (S [tn c])) (hr : Room 1 X.A) (hg : Gl X "turned_step" := by rfl)
    (he : starEach [e] X.env = (false, eval e X.env) :: starEach [] X.env := by rfl) (hpl : (backTo pos (starEach [] X.env)).any (·.1) = false := by rfl) : EW X F (.Call (.Name "turned_step" p) [e] [] pos) ε Q :=
  ew_call (ok_turned_step T) (g_turned_step T) (aw_cons (h.imp fun d ⟨c, ed, hc, q⟩ => aw_nil (by subst ed; exact ⟨⟨c, rfl, hc⟩, fun r hr => by rw [hr c rfl]; exact q⟩)) he) hr hg (he := he) (hpl := hpl)
theorem flat_sing (l : Wd) : (l.map fun c => [c]).flatten = l := by
  induction l with
  | nil => rfl
  | cons c l ih => rw [List.map_cons, List.flatten_cons, ih]; rfl
theorem sum_sing (l : Wd) : ((l.map fun c => [c]).map List.length).sum = l.length := by
  induction l with
  | nil => rfl
  | cons c l ih => rw [List.map_cons, List.map_cons, List.sum_cons, ih, List.length_cons]; exact Nat.add_comm ..
theorem ok_back_word (T : Told B) : Ok B 2 d_back_word p_back_word (spD PreW fun ds r => ∀ l, ds = [S l] → r = S (bk l)) := by
  refine ok_d (h_back_word T) s_back_word (by rintro ds ⟨c, rfl, _⟩; rfl) fun c hr F hro ds h => ?_
  obtain ⟨l, rfl, hl, hz⟩ := h
  have nd := s_back_word.nd
  refine sws_one (sw_ret (ew_join (ew_lcn [("step", 1)] 1 l.reverse (fun c => S [c]) (fun c => S [tn c]) (iw_str (ew_revS (ew_name 0 ⟨l, rfl, by omega, _, rfl, rfl, by rw [List.length_reverse]; omega, fun x hx => ?_, ?_⟩))))))
  · intro s1 H1 C1 cl1 fp1
    exact ew_turned T (ew_name 1 ⟨x, rfl, hl x (List.mem_reverse.mp hx), rfl⟩) (hr.mono (by decide))
  · refine ⟨(bk l).map fun c => [c], ?_, ?_, ?_⟩
    · unfold bk; simp only [List.map_map]; rfl
    · rw [sum_sing]; unfold bk; rw [List.length_map, List.length_reverse]; omega
    · rw [flat_sing]; intro l' e; cases e; rfl
end K78
/-! K78: more small rules. -/
namespace K78
open PySem PySem.Spec L2
theorem ixN_nat (n i : Nat) : ixN n (i : Int) = if i < n then some i else none := by
  unfold ixN
  rw [if_pos (by omega)]
  by_cases h : i < n
  · rw [if_pos (by omega), if_pos h]; simp
  · rw [if_neg (by omega), if_neg h]
theorem ixN_last (n : Nat) : ixN n (-1) = if 0 < n then some (n - 1) else none := by
  unfold ixN
  rw [if_neg (by omega)]
  by_cases h : 0 < n
  · rw [if_pos (by omega), if_pos h]; congr 1; omega
  · rw [if_neg (by omega), if_neg h]
theorem atI_last {α : Type} (xs : List α) : atI xs (-1) = xs.getLast? := by
  unfold atI
  rw [ixN_last, List.getLast?_eq_getElem?]
  cases xs with
  | nil => rfl
  | cons x xs => rfl
theorem atI_nat {α : Type} (xs : List α) (i : Nat) : atI xs (i : Int) = xs[i]? := by
  unfold atI
  rw [ixN_nat]
  by_cases h : i < xs.length
  · rw [if_pos h]; rfl
  · rw [if_neg h, List.getElem?_eq_none (by omega)]; rfl
section
variable {X : Cx} {F : Fm} {ε : Env} {R : ER} {a b e c o tg iter elt : Expr} {es : List Expr} {pos p p1 p2 p3 p4 apos cpos pos' : Pos} {Q : PyData → Prop} {x : Str} {scope : Scope}
theorem ew_neg {i : Int} {j : Nat} (q : Q (.int (-i))) : EW X F (.UnaryOp .USub (.Constant (.int i) j p) pos) ε Q := by
  refine ew_un (ew_int fun Hb H v1 s r Q' k => ⟨_, un_neg, i, dt_int r, k _ _ Hb H (Gr.refl s) (.int _) q⟩)
/-- compared with [] -/
theorem op_ne_nil {ds : List PyData} (hu : X.A.units + 64 < cLine) (n : Nat) (hn : n < 64) (hs : ∀ d ∈ ds, d.canLay0 = true ∧ d.depth ≤ n) (q : Q (.bool (!ds.isEmpty))) : OpW X (compareOp .NotEq) (.list ds) (.list []) Q := by
  refine op_ne_d hu (by simpa using shaped_list (enc := id) (xs := ds) n hn hs) (by decide +kernel) ?_
  cases ds with
  | nil => exact q
  | cons d ds => exact q
theorem op_eq_nil {ds : List PyData} (hu : X.A.units + 64 < cLine) (n : Nat) (hn : n < 64) (hs : ∀ d ∈ ds, d.canLay0 = true ∧ d.depth ≤ n) (q : Q (.bool ds.isEmpty)) : OpW X (compareOp .Eq) (.list ds) (.list []) Q := by
  refine op_eq_d hu (by simpa using shaped_list (enc := id) (xs := ds) n hn hs) (by decide +kernel) ?_
  cases ds with
  | nil => exact q
  | cons d ds => exact q
/-- sorted({x: True for x in texts}) -/
theorem ew_sortDc (own : List (Str × Nat)) (j : Nat) {k : Nat} (ws : List Wd) (hm : X.mg "sorted" = none) (h : IW X F (.Name x p) iter ε fun ds => ds = ws.map S ∧ ws.length < 64 ∧ ∀ ys : List Wd, ys.Nodup → (∀ w, w ∈ ys ↔ w ∈ ws) → Q (.list (ys.map S)))
    (ok : BlkOk X.N X.env.scope scope own := by exact blkOk_by (by kernel_rfl)) (hc : X.calm = true := by rfl) (hN : X.N.Nodup := by first | assumption | decide +kernel) (hs : ∀ x, foldedSetIterable iter X.env x = pure x := by intro _; rfl)
    (hv : j ∈ own.map (·.2) := by decide) (hi : X.N[j]? = some x := by rfl) (hx : InBlk X scope fun Y => L2.Loc Y.env.scope x := by intro _ _ _ _ _; first | exact .inl rfl | exact .inr rfl) (hf : InBlk X scope fun Y => Y.fn x = true ∨ Y.env.scope.names.lookup x = some .local := by intro _ _ _ _ _; first | exact .inl rfl | exact .inr rfl)
    (hvis : InBlk X scope fun Y => Vis Y.env.scope x := by intro _ _ _ _ _; first | exact Or.inl rfl | exact Or.inr (Or.inl rfl) | exact Or.inr (Or.inr rfl)) (hdg : (x == ("__debug__" : Str)) = false := by decide) (hcd : (x == ("__classdict__" : Str)) = false := by decide)
    (hjl : (ε[j]?).isSome = true := by rfl) (hg : Gl X "sorted" := by rfl) (he : starEach [.DictComp (.Name x p2) (.Constant (.bool true) k p3) [⟨.Name x p, iter, [], 0⟩] scope p4] X.env = (false, eval (.DictComp (.Name x p2) (.Constant (.bool true) k p3) [⟨.Name x p, iter, [], 0⟩] scope p4) X.env) :: starEach [] X.env := by rfl)
    (hpl : (backTo pos (starEach [] X.env)).any (·.1) = false := by rfl) : EW X F (.Call (.Name "sorted" p1) [.DictComp (.Name x p2) (.Constant (.bool true) k p3) [⟨.Name x p, iter, [], 0⟩] scope p4] [] pos) ε Q := fun hd Hb H σ S Q' kq => by
  refine pe_run (pe_callB (call_sortedD hc) hg hm (by decide +kernel) (pa_cons (pe_dc (own := own) (g := gName j) (tt := tYes) (tk := tVar j) (tv := tC (.bl true)) hc hN pi_sem ok (fun s H C cl fp => pg_name (X := blkX X scope s H C cl fp) hN hi (hx s H C cl fp) (hf s H C cl fp)) (fun s H C cl fp => pts_nil) (fun s H C cl fp => pe_var (X := blkX X scope s H C cl fp) hi (hvis s H C cl fp) hdg hcd) (fun s H C cl fp => pe_bl) hs) pa_nil he) (by decide) (by decide) he hpl) (h hd Hb H σ S _ fun J ds Hb1 H1 S1 g1 it ⟨e1, h64, q⟩ => fun D nD => ?_)
  subst e1
  have hl1 : (ws.map K78.S).length = ws.length := List.length_map ..
  -- the dict, turn by turn
  refine ⟨fun i m H' => i + m = ws.length ∧ ∃ Hb' kvs, Same Hb1 Hb' ∧ Gr0 Hb1 H1 Hb' H' ∧ Hb' D = none ∧ H' D = some (.dK kvs) ∧ ∃ ks : List Wd, kvs.map (·.1) = ks.map (fun w => Sum.inr (tx w)) ∧ ks.Nodup ∧ ks.length ≤ i ∧ ∀ w, w ∈ ks ↔ w ∈ ws.take i,
    ⟨ws.length, Nat.zero_add _, Hb1, [], Same.refl _, Gr.tmp S1.si nD, S1.si.free nD, upd_same, [], rfl, List.nodup_nil, Nat.le_refl _, fun w => by simp⟩, fun i m H' ⟨em, Hb2, kvs, sm, g2, nb, hD, ks, ek, nd, lk, mk⟩ => ?_⟩
  have S2 : SI F hd Hb2 H' σ ε := S1.grow g2
  by_cases hi' : i < ws.length
  · refine .inr ⟨it.goes i H' (by rw [hl1]; exact hi') (sm.trans S2.si), fun H3 => ∃ Hb3 kvs, Same Hb1 Hb3 ∧ Gr0 Hb1 H1 Hb3 H3 ∧ Hb3 D = none ∧ H3 D = some (.dK kvs) ∧ ∃ ks : List Wd, kvs.map (·.1) = ks.map (fun w => Sum.inr (tx w)) ∧ ks.Nodup ∧ ks.length ≤ i + 1 ∧ ∀ w, w ∈ ks ↔ w ∈ ws.take (i + 1), fun H3 z => ⟨m - 1, by omega, by omega, z⟩, fun y H3 hy => ?_⟩
    obtain ⟨Hb3, d, g3, ed, rd⟩ := it.yields i H' y H3 (by rw [hl1]; exact hi') (sm.trans S2.si) hy Hb2 sm S2.si
    rw [List.getElem?_map] at ed
    cases ew : ws[i]? with
    | none => rw [ew] at ed; cases ed
    | some w =>
      rw [ew] at ed
      cases ed
      cases dt_str rd
      have lw : j < (wipe σ (own.map (·.2))).length := by rw [wipe_length, S.len]; exact (List.getElem?_eq_some_iff.mp (Option.some_get hjl).symm).1
      have hD3 : H3 D = some (.dK kvs) := g3.same _ _ hD
      have nb3 : Hb3 D = none := (g3.n D (by rw [hD]; intro z; cases z)).trans nb
      have g4 := g2.trans0 g3
      have kz : kvs.length = ks.length := by have := congrArg List.length ek; simpa using this
      refine ⟨wipe_eq (List.length_set ..) (fun a ha => List.getElem?_set_ne (fun e => ha (by rw [← e]; exact hv))) |>.trans wipe_wipe, ?_⟩
      simp only [tYes, if_true]
      refine ⟨.str (tx w), List.getElem?_set_self lw, kvs, .inr (tx w), rfl, hD3, by rw [kz]; exact Nat.lt_of_le_of_lt lk (Nat.lt_trans (Nat.lt_trans hi' h64) (by decide)), Hb3, putK kvs (.inr (tx w)) (.bl true), sm.trans g3.b, ⟨g4.b, same_updb g4.i nb3, g4.n, fun a o _ e => by rw [upd_ne (ne_of_none e nD)]; exact Gr0.same g4 _ _ e, fun a e => some_upd (g4.t a e)⟩, nb3, upd_same, ?_⟩
      have tk : ws.take (i + 1) = ws.take i ++ [w] := by rw [List.take_add_one, ew]; rfl
      have pk : (putK kvs (.inr (tx w)) (.bl true)).map (·.1) = if (kvs.any fun kv => decide (kv.1 = Sum.inr (tx w))) = true then kvs.map (·.1) else kvs.map (·.1) ++ [Sum.inr (tx w)] := by
        unfold putK
        split
        · rw [List.map_map]
          refine List.map_congr_left fun q _ => ?_
          show (if q.1 = _ then (q.1, _) else q).1 = q.1
          split <;> rfl
        · rw [List.map_append]; rfl
      have mem : (kvs.any fun kv => decide (kv.1 = Sum.inr (tx w))) = true ↔ w ∈ ks := by
        rw [List.any_eq_true]
        constructor
        · rintro ⟨q, hq, e⟩
          have : q.1 ∈ ks.map (fun w => (Sum.inr (tx w) : Key)) := by rw [← ek]; exact List.mem_map.mpr ⟨q, hq, rfl⟩
          rw [of_decide_eq_true e] at this
          obtain ⟨w', hw', e'⟩ := List.mem_map.mp this
          cases tx_inj (Sum.inr.inj e')
          exact hw'
        · intro hw
          have : (Sum.inr (tx w) : Key) ∈ kvs.map (·.1) := by rw [ek]; exact List.mem_map.mpr ⟨w, hw, rfl⟩
          obtain ⟨q, hq, e⟩ := List.mem_map.mp this
          exact ⟨q, hq, decide_eq_true e⟩
      by_cases c : w ∈ ks
      · rw [if_pos (mem.mpr c)] at pk
        refine ⟨ks, pk.trans ek, nd, Nat.le_succ_of_le lk, fun v => ?_⟩
        rw [tk, List.mem_append, List.mem_singleton, mk v]
        constructor
        · exact .inl
        · rintro (z | rfl)
          · exact z
          · exact (mk v).mp c
      · rw [if_neg (fun z => c (mem.mp z))] at pk
        refine ⟨ks ++ [w], by rw [pk, ek, List.map_append]; rfl, ?_, by rw [List.length_append]; exact Nat.succ_le_succ lk, fun v => ?_⟩
        · rw [List.nodup_append]
          exact ⟨nd, by simp, fun a ha b hb => by rw [List.mem_singleton] at hb; subst hb; intro z; subst z; exact c ha⟩
        · rw [tk, List.mem_append, List.mem_append, mk v]
  · have ei : i = ws.length := by omega
    subst ei
    rw [List.take_length] at mk
    refine .inl ⟨by have := it.stops H' (sm.trans S2.si); rw [hl1] at this; exact this, D, kvs, ks.map tx, rfl, Rd.of hD, by rw [ek, List.map_map]; rfl, by rw [List.length_map]; omega, fun ys p hp _ hn => ?_⟩
    have e1 : ys = (ys.map fun z => z.cps.toList).map tx := by
      rw [List.map_map]; conv => lhs; rw [← List.map_id ys]
      exact List.map_congr_left fun z _ => tx_of z
    have hp2 : (ys.map fun z => z.cps.toList).Perm ks := by
      have := hp.map fun z : Str => z.cps.toList
      rw [List.map_map] at this
      have e : (fun z : Str => z.cps.toList) ∘ tx = id := by funext w; exact tx_list w
      rw [e, List.map_id] at this
      exact this
    have g5 := Gr.new (o := .lst (ys.map V.str)) S2.si hn
    refine kq _ _ _ _ (S2.grow g5) (g1.trans0 (g2.trans0 g5)) ?_ (q (ys.map fun z => z.cps.toList) (hp2.nodup_iff.mpr nd) fun w => (hp2.mem_iff).trans (mk w))
    refine .lst upd_same ?_
    rw [show (ys.map V.str) = ((ys.map fun z => z.cps.toList).map fun w => V.str (tx w)) from by rw [List.map_map]; exact List.map_congr_left fun z _ => congrArg V.str (tx_of z)]
    exact dtAll_of_S _
/-! ### counting -/
theorem nodup_len {α : Type} [DecidableEq α] : ∀ {ys ws : List α}, ys.Nodup → (∀ w, w ∈ ys → w ∈ ws) → ys.length ≤ ws.length
  | [], ws, _, _ => Nat.zero_le _
  | y :: ys, ws, h, s => by
    rw [List.nodup_cons] at h
    have e := List.length_erase_of_mem (s y (List.mem_cons_self ..))
    have p : 0 < ws.length := List.length_pos_of_mem (s y (List.mem_cons_self ..))
    have := nodup_len (ys := ys) (ws := ws.erase y) h.2 fun w hw => (List.mem_erase_of_ne (fun z => h.1 (by rw [z] at hw; exact hw))).mpr (s w (List.mem_cons_of_mem _ hw))
    rw [List.length_cons]; omega
/-! ### promises at values -/
abbrev spV (args : List PyData) (P : PyData → Prop) : Sp := spD (fun ds => ds = args) fun _ r => P r
abbrev spSV (args : List PyData) (P : PyData → Prop) : Sp := spS (fun ds => ds = args) fun _ r => P r
theorem ok_v {B : Bs} {k : Nat} {d : He.DefD} {N ps : List Str} {args : List PyData} {P : PyData → Prop} (h : ∃ fd, Has B d ps fd) (S : FnScope N ps d.scope) (hlen : args.length = ps.length)
    (body : ∀ c : Fr, Room k (cx B d N c).A → ∀ F : Fm, ¬ F.ro → SWs (cx B d N c) F d.body (env0 N args) ⟨fun _ => P .none, fun r _ => P r, fun _ => False, fun _ => False⟩) : Ok B (k + 1) d ps (spV args P) :=
  ok_d h S (fun ds e => by rw [e]; exact hlen) fun c hr F hro ds e => by subst e; exact body c hr F hro
theorem ok_sv {B : Bs} {k : Nat} {d : He.DefD} {N ps : List Str} {args : List PyData} {P : PyData → Prop} (h : ∃ fd, Has B d ps fd) (S : FnScope N ps d.scope) (hlen : args.length + 1 = ps.length)
    (body : ∀ c : Fr, Room k (cx B d N c).A → ∀ F A, ¬ F.ro → IsS A F → SWs (cx B d N c) F d.body (env1 N (.val (.ref A)) args) ⟨fun _ => P .none, fun r _ => P r, fun _ => False, fun _ => False⟩) : Ok B (k + 1) d ps (spSV args P) :=
  ok_s h S (fun ds e => by rw [e]; exact hlen) fun c hr F A hro hs ds e => by subst e; exact body c hr F A hro hs
/-! ### loops over what is told by a code -/
theorem sw_forM {α : Type} {body : List Stmt} (xs : List α) (enc : α → PyData) (I : Nat → Env → Prop) (h : IW X F tg iter ε fun ds => ds = xs.map enc) (h0 : I 0 ε)
    (turn : ∀ i x ε', xs[i]? = some x → I i ε' → TW X F tg (enc x) ε' fun ε2 => SWs X F body ε2 { R with nx := I (i + 1), ct := I (i + 1), bk := R.nx }) (done : ∀ ε', I xs.length ε' → R.nx ε')
    (hc : X.calm = true := by rfl) (hp : PassesOwn (model X.prog X.w) X.A X.env X.xe := by exact PassesOwn.never) (hs : ∀ x, foldedSetIterable iter X.env x = pure x := by intro _; rfl) : SW X F (.For tg iter body [] pos) ε R :=
  sw_for (by
    intro hd Hb H σ S R' k
    refine h hd Hb H σ S R' fun J ds Hb' H' S' g it e => k J ds Hb' H' S' g it ⟨I, h0, fun i d ε' ed hI => ?_, fun ε' hI => done ε' (by rw [e, List.length_map] at hI; exact hI)⟩
    rw [e, List.getElem?_map] at ed
    cases ex : xs[i]? with
    | none => rw [ex] at ed; cases ed
    | some x => rw [ex] at ed; cases ed; exact turn i x ε' ex hI) hc hp hs
theorem fold_take {α β : Type} (f : β → α → β) (a : β) {xs : List α} {i : Nat} {x : α} (h : xs[i]? = some x) : (xs.take (i + 1)).foldl f a = f ((xs.take i).foldl f a) x := by
  rw [List.take_add_one, h, List.foldl_append]; rfl
end
end K78
/-! K78: walks: reduced words, trees. -/
namespace K78
open PySem PySem.Spec L2
variable {B : Bs}
theorem sing_lay (l : Wd) (h : W4 l) : ∀ d ∈ (l.map fun c => S [c]), d.canLay0 = true ∧ d.depth ≤ 0 := fun d hd => by
  obtain ⟨c, hc, rfl⟩ := List.mem_map.mp hd
  exact ⟨lay_s (fun a ha => by rw [List.mem_singleton] at ha; rw [ha]; rcases h c hc with e | e | e | e <;> rw [e] <;> decide), Nat.le_refl _⟩
theorem getLast_sing (l : Wd) : (l.map fun c => S [c]).getLast? = l.getLast?.map fun c => S [c] := by rw [List.getLast?_map]
theorem dropLast_sing (l : Wd) : (l.map fun c => S [c]).dropLast = l.dropLast.map fun c => S [c] := by rw [List.map_dropLast]
theorem sing_inj {c d : Nat} : decide ([c] = [d]) = decide (c = d) := by simp
theorem ok_reduced_word (T : Told B) (l : Wd) (hl : W4 l) (hz : l.length ≤ 1000) : Ok B 2 d_reduced_word p_reduced_word (spV [S l] fun r => r = S (red l)) := by
  refine ok_v (h_reduced_word T) s_reduced_word rfl fun c hr F hro => ?_
  have nd := s_reduced_word.nd
  refine sws_cons (sw_setL 1 (aw_nil (sws_cons (sw_forM l (fun c => S [c]) (fun i ε => ∃ s, ε = [.dat (S l), .lst ((((l.take i).foldl rstep []).map fun c => S [c])), s]) (iw_str (ew_name 0 ⟨_, rfl, rfl⟩)) ⟨_, rfl⟩ ?_ ?_))))
  · rintro i x ε' hx ⟨s, rfl⟩
    have h4 : L4 x := hl x (List.mem_of_getElem? hx)
    have ha : W4 ((l.take i).foldl rstep []) := W4.fold (fun a ha => hl a (List.mem_of_mem_take ha)) (fun _ h => by cases h)
    have hzl : ((l.take i).foldl rstep []).length ≤ 1000 := by have := fold_len (l.take i) []; rw [List.length_take] at this; simp at this; omega
    have nxt : (l.take (i + 1)).foldl rstep [] = rstep ((l.take i).foldl rstep []) x := fold_take _ _ hx
    revert ha hzl nxt
    generalize (l.take i).foldl rstep [] = acc
    intro ha hzl nxt
    refine tw_name 2 (sws_one (sw_if (bw_seen 1 (bw_w (bww_and (bw_cmp rfl (ew_name 1 (ew_lst (aw_nil (op_ne_nil hr.units 0 (by decide) (sing_lay acc ha) ⟨_, rfl, fun h => ?_, fun h => ?_⟩))))))))))
    · cases hg : acc.getLast? with
      | none => rw [List.getLast?_eq_none_iff] at hg; subst hg; cases h
      | some g =>
        refine bww_and1 (bw_cmp rfl (ew_ix (ew_name 1 (ew_neg (ix_l (d := S [g]) (by rw [atI_last, getLast_sing, hg]; rfl) (ew_turned T (ew_name 2 ⟨x, rfl, h4, op_eq_s ⟨_, rfl, fun h => ?_, fun h => ?_⟩⟩) (hr.mono (by decide))))))))
        · rw [sing_inj, decide_eq_true_eq] at h
          refine sws_one (sw_pop 1 rfl (fun z => by rw [List.map_eq_nil_iff] at z; subst z; cases hg) ⟨.dat (S [x]), ?_⟩)
          rw [nxt]; unfold rstep
          rw [if_pos (by rw [hg, h]), dropLast_sing]; rfl
        · rw [sing_inj, decide_eq_false_iff_not] at h
          refine sws_one (sw_append 1 rfl (by rw [List.length_map]; omega) (ew_name 2 ⟨.dat (S [x]), ?_⟩))
          rw [nxt]; unfold rstep
          rw [if_neg (by rw [hg]; intro z; exact h (Option.some.inj z)), List.map_append]; rfl
    · refine ⟨fun z => (by cases z), fun _ => ?_⟩
      have : acc = [] := by simpa using h
      subst this
      refine sws_one (sw_append 1 rfl (by decide) (ew_name 2 ⟨.dat (S [x]), ?_⟩))
      rw [nxt]; rfl
  · rintro ε' ⟨s, rfl⟩
    rw [List.take_length]
    refine sws_freeze 1 (sws_one (sw_ret (ew_join (ew_name 1 ⟨(red l).map fun c => [c], ?_, ?_, ?_⟩))))
    · rw [List.map_map]; rfl
    · rw [sum_sing]; have := red_len l; omega
    · rw [flat_sing]
/-- a call of reduced_word -/
theorem ew_reduced {X : Cx} {F : Fm} {ε : Env} {e : Expr} {p pos : Pos} {Q : PyData → Prop} (T : Told (bsOf X)) (h : EW X F e ε fun d => ∃ l, d = S l ∧ W4 l ∧ l.length ≤ 1000 ∧ Q (S (red l))) (hr : Room 2 X.A) (hg : Gl X "reduced_word" := by rfl)
    (he : starEach [e] X.env = (false, eval e X.env) :: starEach [] X.env := by rfl) (hpl : (backTo pos (starEach [] X.env)).any (·.1) = false := by rfl) : EW X F (.Call (.Name "reduced_word" p) [e] [] pos) ε Q :=
  ew_callJ (h_reduced_word T) (g_reduced_word T) (aw_cons (h.imp fun d ⟨l, ed, h4, hz, q⟩ => aw_nil (by subst ed; exact ⟨_, ok_reduced_word T l h4 hz, fun r hr => by rw [hr]; exact q⟩)) he) hr hg (he := he) (hpl := hpl)
/-! ### trees -/
/-- the words on the way -/
def pres (l : Wd) : List Wd := (List.range (l.length + 1)).map fun k => red (l.take k)
theorem ok_in_order (T : Told B) (ws : List Wd) (hz : ws.length < 64) (hl : ∀ w ∈ ws, w.length ≤ 1000) : Ok B 2 d_in_order p_in_order (spV [.list (ws.map S)] fun r => ∃ ys : List Wd, r = .list (ys.map S) ∧ ys.Nodup ∧ ∀ w, w ∈ ys ↔ w ∈ ws) := by
  refine ok_v (h_in_order T) s_in_order rfl fun c hr F hro => ?_
  have nd := s_in_order.nd
  refine sws_cons (sw_set 1 (ew_sortDc [("word", 2)] 2 ws (b_sorted T) (iw_list (ew_name 0 ⟨_, rfl, rfl, hz, fun ys ny my => ?_⟩))))
  have hz2 : ys.length < 64 := Nat.lt_of_le_of_lt (nodup_len ny fun w hw => (my w).mp hw) hz
  refine sws_one (sw_ret (ew_sortLen S List.length (b_sorted T) (b_len T) (ew_name 1 ⟨ys, rfl, by omega, fun b hb => ⟨tx_len b, ?_⟩, fun bs' pm _ => ⟨bs', rfl, pm.nodup_iff.mpr ny, fun w => (pm.mem_iff).trans (my w)⟩⟩) ?_))
  · have := hl b ((my b).mp hb); omega
  · have := hr.units; omega
end K78
/-! K78: walks: trees, paths read. -/
namespace K78
open PySem PySem.Spec L2
variable {B : Bs}
theorem sIx_none (n d : Nat) : HT.sIx n d none = d := rfl
theorem sIx_neg1 (n d : Nat) : HT.sIx n d (some (-1)) = n - 1 := by unfold HT.sIx; simp; omega
theorem sIx_nat (n d i : Nat) : HT.sIx n d (some (i : Int)) = min i n := by unfold HT.sIx; simp; omega
theorem cut_last {α : Type} (xs : List α) : cutD xs none (some (-1)) = xs.dropLast := by
  unfold cutD
  rw [sIx_neg1, sIx_none, List.drop_zero, List.dropLast_eq_take, Nat.sub_zero]
theorem cut_mid {α : Type} (xs : List α) : cutD xs (some (1 : Int)) (some (-1)) = xs.tail.dropLast := by
  unfold cutD
  rw [sIx_neg1, show ((1 : Int)) = ((1 : Nat) : Int) from rfl, sIx_nat, List.dropLast_eq_take, List.length_tail]
  cases xs with
  | nil => rfl
  | cons x xs => simp [Nat.min_def]
theorem cut_from {α : Type} (xs : List α) (i : Nat) : cutD xs (some (i : Int)) none = xs.drop i := by
  unfold cutD
  rw [sIx_nat, sIx_none]
  by_cases h : i ≤ xs.length
  · rw [Nat.min_eq_left h, List.take_of_length_le]; rw [List.length_drop]; exact Nat.le_refl _
  · rw [Nat.min_eq_right (by omega), List.drop_eq_nil_of_le (Nat.le_refl _), List.drop_eq_nil_of_le (by omega), List.take_nil]
theorem cut_to {α : Type} (xs : List α) (i : Nat) : cutD xs none (some (i : Int)) = xs.take i := by
  unfold cutD
  rw [sIx_nat, sIx_none, List.drop_zero, Nat.sub_zero]
  by_cases h : i ≤ xs.length
  · rw [Nat.min_eq_left h]
  · rw [Nat.min_eq_right (by omega), List.take_of_length_le (Nat.le_refl _), List.take_of_length_le (by omega)]
theorem cut_seg {α : Type} (xs : List α) (i j : Nat) : cutD xs (some (i : Int)) (some (j : Int)) = (xs.drop i).take (j - i) := by
  unfold cutD
  rw [sIx_nat, sIx_nat]
  by_cases h : i ≤ xs.length
  · rw [Nat.min_eq_left h]
    by_cases h2 : j ≤ xs.length
    · rw [Nat.min_eq_left h2]
    · rw [Nat.min_eq_right (by omega), List.take_of_length_le (by rw [List.length_drop]; exact Nat.le_refl _), List.take_of_length_le (by rw [List.length_drop]; omega)]
  · rw [Nat.min_eq_right (show xs.length ≤ i by omega), List.drop_eq_nil_of_le (Nat.le_refl _), List.drop_eq_nil_of_le (by omega), List.take_nil, List.take_nil]
theorem rstep_W (acc : Wd) (c : Nat) : rstep acc c = if acc ≠ [] ∧ acc.getLast? = some (tn c) then acc.dropLast else acc ++ [c] := by
  unfold rstep
  by_cases h : acc.getLast? = some (tn c)
  · rw [if_pos h, if_pos ⟨fun z => (by rw [z] at h; cases h), h⟩]
  · rw [if_neg h, if_neg (fun z => h z.2)]
/-- here[:-1] if here != '' and here[-1] == turned_step(step) else here + step -/
theorem ok_tree_of (T : Told B) (l : Wd) (hl : W4 l) (hz : l.length ≤ 60) : Ok B 3 d_tree_of p_tree_of (spV [S l] fun r => ∃ ys : List Wd, r = .list (ys.map S) ∧ ys.Nodup ∧ ∀ w, w ∈ ys ↔ w ∈ pres l) := by
  refine ok_v (h_tree_of T) s_tree_of rfl fun c hr F hro => ?_
  have nd := s_tree_of.nd
  refine sws_cons (sw_par 1 2 (pw_ld (aw_cons (ew_tx [] (aw_nil (ew_tx [] ?_))))))
  refine sws_cons (sw_forM l (fun c => S [c]) (fun i ε => ∃ s, ε = [.dat (S l), .lst (((List.range (i + 1)).map fun k => S (red (l.take k)))), .dat (S (red (l.take i))), s]) (iw_str (ew_name 0 ⟨_, rfl, rfl⟩)) ⟨_, rfl⟩ ?_ ?_)
  · rintro i x ε' hx ⟨s, rfl⟩
    have h4 : L4 x := hl x (List.mem_of_getElem? hx)
    have hi : i < l.length := (List.getElem?_eq_some_iff.mp hx).1
    have ha : W4 (red (l.take i)) := W4.red fun a ha => hl a (List.mem_of_mem_take ha)
    have hzl : (red (l.take i)).length ≤ 60 := by have := red_len (l.take i); rw [List.length_take] at this; omega
    have nxt : red (l.take (i + 1)) = rstep (red (l.take i)) x := fold_take _ _ hx
    refine tw_name 3 (sws_cons (sw_set 2 (EW.imp (Q := fun d => d = S (red (l.take (i + 1)))) (ew_if (bw_w (bww_and (bw_cmp rfl (ew_name 2 (ew_tx [] (op_ne_s ⟨_, rfl, fun h => ?_, fun h => ?_⟩))))))) fun r hr => ?_)))
    · have hne : red (l.take i) ≠ [] := by simpa using h
      refine bww_and1 (bw_cmp rfl (ew_ix (ew_name 2 (ew_neg (ix_s (c := (red (l.take i)).getLast hne) (by rw [atI_last, List.getLast?_eq_getLast hne]) (by omega) (ew_turned T (ew_name 3 ⟨x, rfl, h4, op_eq_s ⟨_, rfl, fun h => ?_, fun h => ?_⟩⟩) (hr.mono (by decide))))))))
      · rw [sing_inj, decide_eq_true_eq] at h
        refine ew_slice (ew_name 2 (ow_none (ow_some (ew_neg ⟨_, rfl, sl_s (l := red (l.take i)) (by omega) (?_ : _ = _)⟩))))
        rw [nxt, cut_last]; unfold rstep
        rw [if_pos (by rw [List.getLast?_eq_getLast hne, h])]
      · rw [sing_inj, decide_eq_false_iff_not] at h
        refine ew_bin (ew_name 2 (ew_name 3 (op_add_s (l := red (l.take i)) (m := [x]) (by simp; omega) (?_ : _ = _))))
        rw [nxt]; unfold rstep
        rw [if_neg (by rw [List.getLast?_eq_getLast hne]; intro z; exact h (Option.some.inj z))]
    · refine ⟨fun z => (by cases z), fun _ => ?_⟩
      have : red (l.take i) = [] := by simpa using h
      refine ew_bin (ew_name 2 (ew_name 3 (op_add_s (l := red (l.take i)) (m := [x]) (by simp; omega) (?_ : _ = _))))
      rw [nxt, this]; rfl
    · subst hr
      refine sws_one (sw_append 1 rfl (by rw [List.length_map, List.length_range]; omega) (ew_name 2 ⟨.dat (S [x]), ?_⟩))
      rw [List.range_succ (n := i + 1), List.map_append]; rfl
  · rintro ε' ⟨s, rfl⟩
    refine sws_freeze 1 (sws_one (sw_ret (ew_callJ (h_in_order T) (g_in_order T) (aw_cons (ew_name 1 (aw_nil ⟨_, (?_ : Ok _ 2 _ _ _), fun r hr => hr⟩))))))
    have e : ((List.range (l.length + 1)).map fun k => S (red (l.take k))) = (pres l).map S := by unfold pres; rw [List.map_map]; rfl
    rw [e]
    refine ok_in_order T (pres l) ?_ ?_
    · unfold pres; rw [List.length_map, List.length_range]; omega
    · intro w hw
      unfold pres at hw
      obtain ⟨k, _, rfl⟩ := List.mem_map.mp hw
      have := red_len (l.take k)
      rw [List.length_take] at this
      omega
end K78
/-! K78: xs[-1] += e. -/
namespace K78
open PySem PySem.Spec L2
section
variable {X : Cx} {F : Fm} {ε : Env} {R : ER} {a b e c o tg iter elt : Expr} {es : List Expr} {pos p p1 p2 p3 p4 apos cpos pos' tpos : Pos} {Q : PyData → Prop} {x : Str}
def tGetLast : V → V → Hp → VK → Prop := fun o i H Q => ∃ a vs v, o = .ref a ∧ i = .int (-1) ∧ H a = some (.lst vs) ∧ vs.getLast? = some v ∧ Q v H
theorem pget_last : PGet X tGetLast := by
  intro pins s σ H o i ov iv Q I ro ri h
  obtain ⟨a, vs, v, rfl, rfl, ha, hv, q⟩ := h
  cases ro
  obtain ⟨t, rfl⟩ := ri
  obtain ⟨its, r, pl, hz⟩ := I.list (SqL.of (K := X.K) ha)
  have hl := r.length
  rw [List.getLast?_eq_getElem?] at hv
  obtain ⟨w, ew, rw'⟩ := r.get hv
  have hp : 0 < vs.length := by
    cases vs with
    | nil => cases hv
    | cons x xs => exact Nat.succ_pos _
  refine PySem.wpAny_getItem_list_neg (x := w) pl.isList (by decide) (by rw [List.size_toArray]; omega) (by decide) ?_ ⟨v, H, I, rw', q⟩
  rw [List.size_toArray, show ((-1 : Int) + its.length).toNat = vs.length - 1 by omega]
  simpa using ew
theorem sw_augLast (i : Nat) {k : Nat} {ds : List PyData} {l : Wd} (hε : ε[i]? = some (.lst (ds ++ [S l]))) (h : EW X F e ε fun d => ∃ m, d = S m ∧ l.length + m.length ≤ 16000000 ∧ R.nx (ε.set i (.lst (ds ++ [S (l ++ m)])))) (hN : X.N[i]? = some x := by rfl) (hv : Vis X.env.scope x := by first | exact Or.inl rfl | exact Or.inr (Or.inl rfl) | exact Or.inr (Or.inr rfl))
    (hdg : (x == ("__debug__" : Str)) = false := by decide) (hcd : (x == ("__classdict__" : Str)) = false := by decide) (h0 : i ≠ 0 := by decide) (ha : ∀ ov iv new, augStore (.UnaryOp .USub (.Constant (.int 1) k p1) p2) ov iv new = (do holding [new, ov, iv] (setItem ov iv new); release [new, ov, iv] []; pure .next) := by intros; rfl) :
    SW X F (.AugAssign (.Subscript (.Name x p) (.UnaryOp .USub (.Constant (.int 1) k p1) p2) tpos) .Add e pos) ε R := fun hd Hb H σ S' D kk => by
  obtain ⟨ad, vs, eu, had, r, na, up⟩ := own_at S' hε h0
  obtain ⟨ws, v, rfl, rw1, rv⟩ : ∃ ws v, vs = ws ++ [v] ∧ DtAll Hb ws ds ∧ Dt Hb v (S l) := by
    have hl := dta_len r
    rw [List.length_append, List.length_singleton] at hl
    have hne : vs ≠ [] := fun z => by rw [z] at hl; simp at hl
    have r1 := dta_dropLast r
    rw [List.dropLast_concat] at r1
    obtain ⟨d, ed, rd⟩ := dta_at r (i := vs.length - 1) (v := vs.getLast hne) (by rw [← List.getLast?_eq_getElem?, List.getLast?_eq_getLast hne])
    rw [show vs.length - 1 = ds.length by omega, List.getElem?_append_right (Nat.le_refl _), Nat.sub_self] at ed
    cases ed
    exact ⟨vs.dropLast, vs.getLast hne, (List.dropLast_concat_getLast hne).symm, r1, rd⟩
  refine ps_run (ps_augS (pe_var hN hv hdg hcd) (pe_un un_neg pe_int) pget_last pe_sem (op_sem : OpR X (inplaceOp .Add) _) set_list ha) ⟨_, eu, _, rfl, ad, ws ++ [v], v, rfl, rfl, had, by simp, h hd Hb H σ S' _ fun v2 d2 Hb2 H2 S2 g2 r2 ⟨m, ed, hz, q⟩ => ?_⟩
  subst ed
  intro pins s σ' u w I ru rw2
  obtain ⟨ad', vs', eu', had', r', na', up'⟩ := own_at S2 hε h0
  rw [eu] at eu'
  cases eu'
  have hl' := dta_len r'
  have ho : OpW X (inplaceOp .Add) (S l) (S m) (fun d => d = S (l ++ m)) := iop_add_s hz rfl
  obtain ⟨rr, ho, hr⟩ := ho Hb2 H2 v v2 S2.si (dt_mono g2.b rv) r2 (fun z H3 => rSetL (.ref ad) (.int (-1)) z H3 fun H4 => D.nx σ H4) fun z d Hb' H' g rd qd => by
    subst qd
    have S3 := S2.grow g
    obtain ⟨ad', vs', eu', had', r', na', up'⟩ := own_at S3 hε h0
    rw [eu] at eu'
    cases eu'
    have hl' := dta_len r'
    rw [List.length_append, List.length_singleton] at hl'
    refine ⟨ad, vs', -1, ds.length, rfl, rfl, had', ?_, ?_⟩
    · rw [ixN_last, if_pos (by omega)]; congr 1; omega
    · refine kk.nx _ _ _ _ (g2.b.trans g.b) (up' _ (ds ++ [S (l ++ m)]) ?_) q
      have e1 := dta_set r' ds.length rd
      rw [List.set_append_right _ _ (Nat.le_refl _), Nat.sub_self] at e1
      exact e1
  exact ho pins s σ' H2 v v2 u w _ I ru rw2 hr
end
end K78
/-! K78: walks: texts of paths read. -/
namespace K78
open PySem PySem.Spec L2
variable {B : Bs}
/-! ### texts of paths -/
abbrev Tx := Wd × List (Nat × Wd)
def Tx.un (t : Tx) : Wd := t.1 ++ t.2.flatMap fun p => p.1 :: p.2
def Tx.ls (t : Tx) : Wd := t.2.map (·.1)
def Tx.ms (t : Tx) : List Wd := t.1 :: t.2.map (·.2)
structure Good (t : Tx) : Prop where
  ne : t.2 ≠ []
  l4 : ∀ p ∈ t.2, L4 p.1
  mks : ∀ m ∈ t.ms, m.Sublist DIGS
  pl : (∀ m ∈ t.ms, m = []) ∨ (∀ p ∈ t.2, p.1 = 97 ∨ p.1 = 98)
  z : t.un.length ≤ 100
def scan (s : Wd × List Wd × Wd) (c : Nat) : Wd × List Wd × Wd := if c ∈ DIGS then (s.1, s.2.1, s.2.2 ++ [c]) else (s.1 ++ [c], s.2.1 ++ [s.2.2], [])
def sg (s : Wd × List Wd × Wd) : List Wd := s.2.1 ++ [s.2.2]
theorem scan_digs : ∀ (m : Wd) (s : Wd × List Wd × Wd), (∀ c ∈ m, c ∈ DIGS) → m.foldl scan s = (s.1, s.2.1, s.2.2 ++ m)
  | [], s, _ => by simp
  | c :: m, s, h => by
    rw [List.foldl_cons, scan_digs m _ fun d hd => h d (List.mem_cons_of_mem _ hd)]
    unfold scan
    rw [if_pos (h c (List.mem_cons_self ..))]
    simp
theorem scan_pairs : ∀ (ps : List (Nat × Wd)) (s : Wd × List Wd × Wd), (∀ p ∈ ps, L4 p.1 ∧ ∀ c ∈ p.2, c ∈ DIGS) → ((ps.flatMap fun p => p.1 :: p.2).foldl scan s).1 = s.1 ++ ps.map (·.1) ∧ sg ((ps.flatMap fun p => p.1 :: p.2).foldl scan s) = sg s ++ ps.map (·.2)
  | [], s, _ => by simp
  | p :: ps, s, h => by
    obtain ⟨h1, h2⟩ := h p (List.mem_cons_self ..)
    have nd : p.1 ∉ DIGS := by rcases h1 with e | e | e | e <;> rw [e] <;> decide
    have e1 : (p.1 :: p.2).foldl scan s = (s.1 ++ [p.1], s.2.1 ++ [s.2.2], p.2) := by
      rw [List.foldl_cons, scan_digs p.2 _ h2]; unfold scan; rw [if_neg nd]; rfl
    have := scan_pairs ps ((p.1 :: p.2).foldl scan s) fun q hq => h q (List.mem_cons_of_mem _ hq)
    rw [List.flatMap_cons, List.foldl_append, this.1, this.2, e1]
    constructor
    · simp
    · unfold sg; simp
theorem scan_un {t : Tx} (h : Good t) : (t.un.foldl scan ([], [], [])).1 = t.ls ∧ sg (t.un.foldl scan ([], [], [])) = t.ms := by
  unfold Tx.un
  rw [List.foldl_append, scan_digs t.1 _ fun c hc => (h.mks t.1 (List.mem_cons_self ..)).subset hc]
  have := scan_pairs t.2 (([] : Wd), ([] : List Wd), [] ++ t.1) fun p hp => ⟨h.l4 p hp, fun c hc => (h.mks p.2 (List.mem_cons_of_mem _ (List.mem_map.mpr ⟨p, hp, rfl⟩))).subset hc⟩
  rw [this.1, this.2]
  exact ⟨by simp [Tx.ls], by simp [Tx.ms, sg]⟩
/-- each sign of a text is one of these -/
def Sgn1 (c : Nat) : Prop := c ∈ DIGS ∨ L4 c
theorem un_sgn {t : Tx} (h : Good t) : ∀ c ∈ t.un, Sgn1 c := fun c hc => by
  unfold Tx.un at hc
  rcases List.mem_append.mp hc with q | q
  · exact .inl ((h.mks t.1 (List.mem_cons_self ..)).subset q)
  · obtain ⟨p, hp, hc⟩ := List.mem_flatMap.mp q
    rcases List.mem_cons.mp hc with rfl | hc
    · exact .inr (h.l4 p hp)
    · exact .inl ((h.mks p.2 (List.mem_cons_of_mem _ (List.mem_map.mpr ⟨p, hp, rfl⟩))).subset hc)
theorem scan_len : ∀ (l : Wd) (s : Wd × List Wd × Wd), (l.foldl scan s).1.length ≤ s.1.length + l.length ∧ (l.foldl scan s).2.1.length ≤ s.2.1.length + l.length ∧ (l.foldl scan s).2.2.length ≤ s.2.2.length + l.length
  | [], s => by simp
  | c :: l, s => by
    have := scan_len l (scan s c)
    have e : (scan s c).1.length ≤ s.1.length + 1 ∧ (scan s c).2.1.length ≤ s.2.1.length + 1 ∧ (scan s c).2.2.length ≤ s.2.2.length + 1 := by
      unfold scan
      by_cases h : c ∈ DIGS
      · rw [if_pos h]; simp
      · rw [if_neg h]; simp
    rw [List.foldl_cons, List.length_cons]
    omega
/-! ### rising -/
def rising (l : Wd) : Bool := (l.zip l.tail).all fun p => decide (p.1 < p.2)
theorem rising_sub {m : Wd} (h : m.Sublist DIGS) : rising m = true := by
  have hp : DIGS.Pairwise (· < ·) := by decide
  have hm := hp.sublist h
  clear h hp
  unfold rising
  rw [List.all_eq_true]
  intro p hp
  induction m with
  | nil => cases hp
  | cons a m ih =>
    cases m with
    | nil => cases hp
    | cons b m =>
      rw [List.pairwise_cons] at hm
      rw [List.tail_cons, List.zip_cons_cons] at hp
      rcases List.mem_cons.mp hp with rfl | hp
      · exact decide_eq_true (hm.1 b (List.mem_cons_self ..))
      · exact ih hm.2 hp
theorem lt_sing (a b : Nat) : decide (([a] : Wd) < [b]) = decide (a < b) := by
  have e : ([a] : Wd) < [b] ↔ a < b := ⟨fun h => (by cases h with | rel h => exact h | cons h => cases h), fun h => List.Lex.rel h⟩
  simp only [e]
theorem zip_sing (l m : Wd) : List.zipWith (fun a b => PyData.tuple [a, b]) (sgn l) (sgn m) = (l.zip m).map fun p => PyData.tuple [S [p.1], S [p.2]] := by
  induction l generalizing m with
  | nil => rfl
  | cons a l ih =>
    cases m with
    | nil => rfl
    | cons b m =>
      show _ :: _ = _ :: _
      exact congrArg _ (ih m)
theorem ok_is_rising (T : Told B) (l : Wd) (hz : l.length ≤ 1000) : Ok B 1 d_is_rising p_is_rising (spV [S l] fun r => r = .bool (rising l)) := by
  refine ok_v (h_is_rising T) s_is_rising rfl fun c hr F hro => ?_
  have nd := s_is_rising.nd
  refine sws_one (sw_ret (ew_allc (l.zip l.tail) (fun p => decide (p.1 < p.2)) (b_all T) (ew_lc [("one", 1), ("other", 2)] (lcw_of (l.zip l.tail) (fun p => PyData.tuple [S [p.1], S [p.2]]) (fun p => .bool (decide (p.1 < p.2))) (fun _ => true) (iw_zipS (b_zip T) (ew_name 0 (ew_slice (ew_name 0 (ow_some (ew_int ⟨_, rfl, ow_none (sl_s (l := l) (by omega) ⟨l, l.tail, rfl, ?_, ?_, ?_, ?_, ?_⟩)⟩))))))))))
  · rw [show ((1 : Int)) = ((1 : Nat) : Int) from rfl, cut_from, List.drop_one]
  · exact zip_sing l l.tail
  · rw [List.length_zip, List.length_tail]; omega
  · intro p hp s1 H1 C1 cl1 fp1
    refine two_tup (twos_cons (two_name 1 (twos_cons (two_name 2 (twos_nil ?_)))))
    intro s2 H2 C2 cl2 fp2
    refine bws_nil ⟨rfl, fun _ s3 H3 C3 cl3 fp3 => ?_⟩
    refine ew_cmp rfl (ew_name 1 (ew_name 2 (op_lt_s ?_)))
    rw [lt_sing]
  · rw [List.filter_eq_self.mpr fun _ _ => rfl]
    exact ⟨rfl, rfl⟩
/-! ### parsed -/
abbrev sing (l : Wd) : List PyData := l.map fun c => S [c]
def dPair (t : Tx) : PyData := .tuple [.list (sing t.ls), .list (t.ms.map S)]
theorem Good.un_ne {t : Tx} (h : Good t) : t.un ≠ [] := fun z => by
  unfold Tx.un at z
  have := (List.append_eq_nil_iff.mp z).2
  cases e : t.2 with
  | nil => exact h.ne e
  | cons p ps => rw [e] at this; simp at this
theorem Good.ls_W {t : Tx} (h : Good t) : W4 t.ls := fun c hc => by
  obtain ⟨p, hp, rfl⟩ := List.mem_map.mp hc
  exact h.l4 p hp
theorem Good.ls_ne {t : Tx} (h : Good t) : t.ls ≠ [] := fun z => h.ne (List.map_eq_nil_iff.mp z)
theorem Good.ls_len {t : Tx} (h : Good t) : t.ls.length ≤ 100 := by
  have := (scan_len t.un ([], [], [])).1
  rw [(scan_un h).1] at this
  have := h.z
  simp at *
  omega
theorem Good.ms_len {t : Tx} (h : Good t) : t.ms.length ≤ 101 := by
  have := h.ls_len
  unfold Tx.ls at this
  unfold Tx.ms
  rw [List.length_map] at this
  rw [List.length_cons, List.length_map]; omega
theorem Good.m_len {t : Tx} (h : Good t) : ∀ m ∈ t.ms, m.length ≤ 10 := fun m hm => (h.mks m hm).length_le
theorem Good.scan_L {t : Tx} (h : Good t) {i x : Nat} (hx : t.un[i]? = some x) : Sgn1 x := un_sgn h x (List.mem_of_getElem? hx)
theorem ok_parsed (T : Told B) (t : Tx) (h : Good t) : Ok B 2 d_parsed p_parsed (spV [S t.un] fun r => r = dPair t) := by
  refine ok_v (h_parsed T) s_parsed rfl fun c hr F hro => ?_
  have nd := s_parsed.nd
  have hun := h.un_ne
  refine sws_cons (sw_if (bw_w (bww_or (bw_not (bw_val (ew_isi (T := "str") (b := fun _ => true) (b_isinstance T) (b_str T) (ew_name 0 ⟨?_, true, rfl, fun z => (by cases z), fun _ => ?_⟩)))))))
  · show kitB "str" "str" = some true
    decide +kernel
  refine bww_or1 (bw_cmp rfl (ew_name 0 (ew_tx [] (op_eq_s ⟨_, rfl, fun z => absurd (of_decide_eq_true z) hun, fun _ => sws_nil ?_⟩))))
  refine sws_cons (sw_par 1 2 (pw_ln (aw_nil (nw_lst (aw_cons (ew_tx [] (aw_nil ?_)))))))
  refine sws_cons (sw_forM t.un (fun c => S [c]) (fun i ε => ∃ s, ε = [.dat (S t.un), .lst (sing ((t.un.take i).foldl scan ([], [], [])).1), .lst ((sg ((t.un.take i).foldl scan ([], [], []))).map S), s, .un, .un, .un]) (iw_str (ew_name 0 ⟨_, rfl, rfl⟩)) ⟨_, rfl⟩ ?_ ?_)
  · rintro i x ε' hx ⟨s, rfl⟩
    have hs := h.scan_L hx
    have nxt : (t.un.take (i + 1)).foldl scan ([], [], []) = scan ((t.un.take i).foldl scan ([], [], [])) x := fold_take _ _ hx
    have hl := scan_len (t.un.take i) ([], [], [])
    have hz : (t.un.take i).length ≤ 100 := by have := h.z; rw [List.length_take]; omega
    revert nxt hl
    generalize (t.un.take i).foldl scan ([], [], []) = st
    intro nxt hl
    simp only [List.length_nil, Nat.zero_add] at hl
    refine tw_name 3 (sws_one (sw_if (bw_cmp rfl (ew_name 3 (ew_strc DIGS (g_DIGITS T) (op_in_c ⟨_, rfl, fun hd => ?_, fun hd => ?_⟩))))))
    · have hd := of_decide_eq_true hd
      refine sws_one (sw_augLast 2 (ds := st.2.1.map S) (l := st.2.2) ?_ (ew_name 3 ⟨[x], rfl, ?_, .dat (S [x]), ?_⟩))
      · show some (Sl.lst ((st.2.1 ++ [st.2.2]).map S)) = _
        rw [List.map_append]; rfl
      · simp only [List.length_singleton]; omega
      · have e1 : (scan st x).1 = st.1 := by unfold scan; rw [if_pos hd]
        have e2 : (sg (scan st x)).map S = st.2.1.map S ++ [S (st.2.2 ++ [x])] := by unfold scan sg; rw [if_pos hd]; simp
        rw [nxt, e1, e2]; rfl
    · have hd := of_decide_eq_false hd
      have h4 : L4 x := hs.resolve_left hd
      have e1 : sing (scan st x).1 = sing st.1 ++ [S [x]] := by unfold scan; rw [if_neg hd]; simp [sing]
      have e2 : (sg (scan st x)).map S = (sg st).map S ++ [S []] := by unfold scan sg; rw [if_neg hd]; simp
      have z1 : (sing st.1).length < 16000000 := by rw [List.length_map]; omega
      have z2 : ((sg st).map S).length < 16000000 := by unfold sg; rw [List.length_map, List.length_append, List.length_singleton]; omega
      refine sws_one (sw_if (bw_w (bww_or (bw_cmp rfl (ew_name 3 (ew_strc SMALLS (g_SMALL T) (op_in_c ⟨_, rfl, fun hd => ?_, fun hd2 => ?_⟩)))))))
      · refine ⟨fun _ => ?_, fun z => (by cases z)⟩
        refine sws_cons (sw_append 1 rfl z1 (ew_name 3 (sws_one (sw_append 2 rfl z2 (ew_tx [] ⟨.dat (S [x]), ?_⟩)))))
        rw [nxt, e1, e2]; rfl
      · refine bww_or1 (bw_cmp rfl (ew_name 3 (ew_strc CAPS (g_CAPITAL T) (op_in_c ⟨_, rfl, fun hd => ?_, fun hd3 => ?_⟩))))
        · refine sws_cons (sw_append 1 rfl z1 (ew_name 3 (sws_one (sw_append 2 rfl z2 (ew_tx [] ⟨.dat (S [x]), ?_⟩)))))
          rw [nxt, e1, e2]; rfl
        · have hd2 := of_decide_eq_false hd2
          have hd3 := of_decide_eq_false hd3
          exfalso
          rcases h4 with rfl | rfl | rfl | rfl
          · exact hd2 (by decide)
          · exact hd2 (by decide)
          · exact hd3 (by decide)
          · exact hd3 (by decide)
  · rintro ε' ⟨s, rfl⟩
    rw [List.take_length, (scan_un h).1, (scan_un h).2]
    refine sws_freeze 1 (sws_freeze 2 (sws_cons (sw_if (bw_w (bww_or (bw_cmp rfl (ew_name 1 (ew_lst (aw_nil (op_eq_nil hr.units 0 (by decide) (sing_lay t.ls h.ls_W) ⟨_, rfl, fun z => ?_, fun _ => ?_⟩))))))))))
    · exfalso
      rw [List.isEmpty_iff, List.map_eq_nil_iff] at z
      exact h.ls_ne z
    refine bww_or1 (bw_not (bw_val (ew_allc t.ms rising (b_all T) (ew_lcn [("mark", 6)] 6 t.ms S (fun m => .bool (rising m)) (iw_list (ew_name 2 ⟨_, rfl, rfl, ?_, fun m hm s1 H1 C1 cl1 fp1 => ?_, rfl, _, rfl, ?_⟩))))))
    · have := h.ms_len; omega
    · exact ew_callJ (h_is_rising T) (g_is_rising T) (aw_cons (ew_name 6 (aw_nil ⟨_, ok_is_rising T m (by have := h.m_len m hm; omega), fun r hr => hr⟩)))
    · have e : t.ms.all rising = true := List.all_eq_true.mpr fun m hm => rising_sub (h.mks m hm)
      rw [e]
      refine ⟨fun z => (by cases z), fun _ => sws_nil ?_⟩
      refine sws_cons (sw_set 4 (ew_anyc t.ls (fun c => decide (c ∈ CAPS)) (b_any T) (ew_lcn [("step", 5)] 5 t.ls (fun c => S [c]) (fun c => .bool (decide (c ∈ CAPS))) (iw_list (ew_name 1 ⟨_, rfl, rfl, ?_, fun m hm s1 H1 C1 cl1 fp1 => ?_, rfl, ?_⟩)))))
      · have := h.ls_len; omega
      · exact ew_cmp rfl (ew_name 5 (ew_strc CAPS (g_CAPITAL T) (op_in_c rfl)))
      · refine sws_one (sw_ret (ew_if (bw_w (bww_and (bw_val (ew_name 4 ⟨_, rfl, fun hb => ?_, fun hb => ?_⟩))))))
        · refine bww_and1 (bw_val (ew_anyc t.ms (fun m => !decide (m = [])) (b_any T) (ew_lcn [("mark", 6)] 6 t.ms S (fun m => .bool (!decide (m = []))) (iw_list (ew_name 2 ⟨_, rfl, rfl, ?_, fun m hm s1 H1 C1 cl1 fp1 => ?_, rfl, _, rfl, ?_, ?_⟩)))))
          · have := h.ms_len; omega
          · exact ew_cmp rfl (ew_name 6 (ew_tx [] (op_ne_s rfl)))
          · intro z
            exfalso
            obtain ⟨m, hm, z⟩ := List.any_eq_true.mp z
            obtain ⟨x, hx, hb⟩ := List.any_eq_true.mp hb
            rcases h.pl with p | p
            · rw [p m hm] at z; cases z
            · obtain ⟨q, hq, rfl⟩ := List.mem_map.mp hx
              have hb := of_decide_eq_true hb
              rcases p q hq with e | e <;> rw [e] at hb <;> exact absurd hb (by decide)
          · intro _
            exact ew_tup (aw_cons (ew_name 1 (aw_cons (ew_name 2 (aw_nil rfl)))))
        · refine ⟨fun z => (by cases z), fun _ => ?_⟩
          exact ew_tup (aw_cons (ew_name 1 (aw_cons (ew_name 2 (aw_nil rfl)))))
end K78
/-! K78: walks: manners, hands. -/
namespace K78
open PySem PySem.Spec L2
variable {B : Bs}
/-! ### manners -/
inductive Mn where | any | matched | turned
def Mn.w : Mn → Wd
  | .any => [97, 110, 121] | .matched => [109, 97, 116, 99, 104, 101, 100] | .turned => [116, 117, 114, 110, 101, 100]
def Mns : List Wd := [Mn.any.w, Mn.matched.w, Mn.turned.w]
theorem Mn.mem (m : Mn) : m.w ∈ Mns := by cases m <;> decide
theorem manners_at (T : Told B) (H : Hp) : SqT B.K H (He.ga B.K "MANNERS") (Mns.map fun w => V.str (tx w)) ∧ B.mg "MANNERS" = some (.ref (He.ga B.K "MANNERS")) := by
  obtain ⟨h, a, b, c, e⟩ := T
  obtain ⟨e1, e2⟩ := He.ba e
  have z := He.tupB_ok e1 H
  refine ⟨?_, He.glo_ok a b e2⟩
  have q : ([He.Dv.str "any", .str "matched", .str "turned"] : List He.Dv).map (He.Dv.v B.K) = Mns.map fun w => V.str (tx w) := by
    show [V.str ("any" : Str), V.str ("matched" : Str), V.str ("turned" : Str)] = _
    decide +kernel
  rw [q] at z
  exact z
theorem ew_inM {X : Cx} {F : Fm} {ε : Env} {e : Expr} {p pos : Pos} {Q : PyData → Prop} (T : Told (bsOf X)) (h : EW X F e ε fun d => ∃ m : Mn, d = S m.w ∧ Q (.bool true)) (hg : Gl X "MANNERS" := by rfl) (hm : behindInMarks .In (.Name "MANNERS" p) = false := by rfl) : EW X F (.Compare e [.In] [.Name "MANNERS" p] pos) ε Q := fun hd Hb H σ S' Q' k => by
  refine pe_run (pe_cmpR op_in_seq pe_sem (pe_glob (v := .ref (He.ga (bsOf X).K "MANNERS")) hg (manners_at T (fun _ => none)).2 rfl) hm) (h hd Hb H σ S' _ fun v d Hb' H' S2 g r ⟨m, ed, q⟩ => ?_)
  subst ed
  cases r
  refine ⟨_, _, rfl, .inr (manners_at T H').1, rfl, flat_S Mns, ?_⟩
  rw [if_neg Bool.false_ne_true, inV_s, decide_eq_true m.mem]
  exact k _ _ _ _ S2 g (.bl true) q
theorem ok_is_manner (T : Told B) (m : Mn) : Ok B 1 d_is_manner p_is_manner (spV [S m.w] fun r => r = .bool true) := by
  refine ok_v (h_is_manner T) s_is_manner rfl fun c hr F hro => ?_
  have nd := s_is_manner.nd
  refine sws_one (sw_ret (ew_and (ew_isi (T := "str") (b := fun _ => true) (b_isinstance T) (b_str T) (ew_name 0 ⟨?_, true, rfl, fun _ => ?_, fun z => (by cases z)⟩))))
  · show kitB "str" "str" = some true
    decide +kernel
  · exact ew_one (ew_inM T (ew_name 0 ⟨m, rfl, rfl⟩))
/-! ### lists, tuples -/
def sqD (b : Bool) (ds : List PyData) : PyData := if b then .tuple ds else .list ds
theorem sqD_seq (b : Bool) (ds : List PyData) : IsSeq (sqD b ds) ds := by cases b; exact .inl rfl; exact .inr rfl
theorem ok_is_list (T : Told B) (b : Bool) (ds : List PyData) : Ok B 1 d_is_list p_is_list (spV [sqD b ds] fun r => r = .bool true) := by
  refine ok_v (h_is_list T) s_is_list rfl fun c hr F hro => ?_
  have nd := s_is_list.nd
  refine sws_one (sw_ret (ew_isi2 (T := "list") (U := "tuple") (b1 := fun _ => !b) (b2 := fun _ => b) (b_isinstance T) (b_list T) (b_tuple T) (ew_name 0 ⟨?_, ?_, ?_⟩)))
  · cases b
    · show kitB "list" "list" = some true; decide +kernel
    · show kitB "tuple" "list" = some false; decide +kernel
  · cases b
    · show kitB "list" "tuple" = some false; decide +kernel
    · show kitB "tuple" "tuple" = some true; decide +kernel
  · cases b <;> rfl
/-! ### paths of a manner -/
def Suit : Mn → Tx → Prop
  | .any, t => ∀ p ∈ t.2, p.1 = 97 ∨ p.1 = 98
  | _, t => ∀ m ∈ t.ms, m = []
/-- a call of parsed -/
theorem ew_parsed {X : Cx} {F : Fm} {ε : Env} {e : Expr} {p pos : Pos} {Q : PyData → Prop} (T : Told (bsOf X)) (h : EW X F e ε fun d => ∃ t : Tx, d = S t.un ∧ Good t ∧ Q (dPair t)) (hr : Room 2 X.A) (hg : Gl X "parsed" := by rfl)
    (he : starEach [e] X.env = (false, eval e X.env) :: starEach [] X.env := by rfl) (hpl : (backTo pos (starEach [] X.env)).any (·.1) = false := by rfl) : EW X F (.Call (.Name "parsed" p) [e] [] pos) ε Q :=
  ew_callJ (h_parsed T) (g_parsed T) (aw_cons (h.imp fun d ⟨t, ed, hg, q⟩ => aw_nil (by subst ed; exact ⟨_, ok_parsed T t hg, fun r hr => by rw [hr]; exact q⟩)) he) hr hg (he := he) (hpl := hpl)
theorem ew_is_manner {X : Cx} {F : Fm} {ε : Env} {e : Expr} {p pos : Pos} {Q : PyData → Prop} (T : Told (bsOf X)) (h : EW X F e ε fun d => ∃ m : Mn, d = S m.w ∧ Q (.bool true)) (hr : Room 1 X.A) (hg : Gl X "is_manner" := by rfl)
    (he : starEach [e] X.env = (false, eval e X.env) :: starEach [] X.env := by rfl) (hpl : (backTo pos (starEach [] X.env)).any (·.1) = false := by rfl) : EW X F (.Call (.Name "is_manner" p) [e] [] pos) ε Q :=
  ew_callJ (h_is_manner T) (g_is_manner T) (aw_cons (h.imp fun d ⟨m, ed, q⟩ => aw_nil (by subst ed; exact ⟨_, ok_is_manner T m, fun r hr => by rw [hr]; exact q⟩)) he) hr hg (he := he) (hpl := hpl)
theorem mn_any (m : Mn) : decide (m.w = [97, 110, 121]) = (match m with | .any => true | _ => false) := by cases m <;> rfl
theorem ok_is_path (T : Told B) (m : Mn) (t : Tx) (h : Good t) (hs : Suit m t) : Ok B 3 d_is_path p_is_path (spV [S m.w, S t.un] fun r => r = .bool true) := by
  refine ok_v (h_is_path T) s_is_path rfl fun c hr F hro => ?_
  have nd := s_is_path.nd
  refine sws_cons (sw_if (bw_not (bw_val (ew_is_manner T (ew_name 0 ⟨m, rfl, true, rfl, fun z => (by cases z), fun _ => sws_nil ?_⟩) (hr.mono (by decide))))))
  refine sws_cons (sw_set 2 (ew_parsed T (ew_name 1 ⟨t, rfl, h, ?_⟩) (hr.mono (by decide))))
  refine sws_cons (sw_if (bw_cmp rfl (ew_name 2 (ew_non (op_is_n (.inr (.inr ⟨_, rfl⟩)) ⟨_, rfl, fun z => (by cases z), fun _ => sws_nil ?_⟩)))))
  refine sws_cons (sw_if (bw_cmp rfl (ew_name 0 (ew_tx [97, 110, 121] (op_eq_s ⟨_, rfl, fun z => ?_, fun z => sws_nil ?_⟩)))))
  · rw [mn_any] at z
    have hl := h.ls_len
    refine sws_one (sw_ret (ew_allc t.ls (fun c => decide (c ∈ SMALLS)) (b_all T) (ew_lcn [("step", 4)] 4 t.ls (fun c => S [c]) (fun c => .bool (decide (c ∈ SMALLS))) (iw_list (ew_ix (ew_name 2 (ew_int (ix_t (d := .list (sing t.ls)) rfl ⟨_, rfl, rfl, by omega, fun x hx s1 H1 C1 cl1 fp1 => ?_, rfl, ?_⟩))))))))
    · exact ew_cmp rfl (ew_name 4 (ew_strc SMALLS (g_SMALL T) (op_in_c rfl)))
    · show PyData.bool _ = PyData.bool true
      congr 1
      refine List.all_eq_true.mpr fun x hx => ?_
      obtain ⟨q, hq, rfl⟩ := List.mem_map.mp hx
      cases m with
      | any => rcases hs q hq with e | e <;> rw [e] <;> decide
      | _ => cases z
  · rw [mn_any] at z
    have hl := h.ms_len
    refine sws_one (sw_ret (ew_allc t.ms (fun m => decide (m = [])) (b_all T) (ew_lcn [("mark", 3)] 3 t.ms S (fun m => .bool (decide (m = []))) (iw_list (ew_ix (ew_name 2 (ew_int (ix_t (d := .list (t.ms.map S)) rfl ⟨_, rfl, rfl, by omega, fun x hx s1 H1 C1 cl1 fp1 => ?_, rfl, ?_⟩))))))))
    · exact ew_cmp rfl (ew_name 3 (ew_tx [] (op_eq_s rfl)))
    · show PyData.bool _ = PyData.bool true
      congr 1
      refine List.all_eq_true.mpr fun x hx => ?_
      cases m with
      | any => cases z
      | _ => exact decide_eq_true (hs x hx)
theorem ok_steps (T : Told B) (t : Tx) (h : Good t) : Ok B 3 d_steps p_steps (spV [S t.un] fun r => r = .list (sing t.ls)) := by
  refine ok_v (h_steps T) s_steps rfl fun c hr F hro => ?_
  have nd := s_steps.nd
  refine sws_cons (sw_set 1 (ew_parsed T (ew_name 0 ⟨t, rfl, h, ?_⟩) (hr.mono (by decide))))
  refine sws_cons (sw_if (bw_cmp rfl (ew_name 1 (ew_non (op_is_n (.inr (.inr ⟨_, rfl⟩)) ⟨_, rfl, fun z => (by cases z), fun _ => sws_nil ?_⟩)))))
  exact sws_one (sw_ret (ew_ix (ew_name 1 (ew_int (ix_t (d := .list (sing t.ls)) rfl rfl)))))
theorem ok_marks (T : Told B) (t : Tx) (h : Good t) : Ok B 3 d_marks p_marks (spV [S t.un] fun r => r = .list (t.ms.map S)) := by
  refine ok_v (h_marks T) s_marks rfl fun c hr F hro => ?_
  have nd := s_marks.nd
  refine sws_cons (sw_set 1 (ew_parsed T (ew_name 0 ⟨t, rfl, h, ?_⟩) (hr.mono (by decide))))
  refine sws_cons (sw_if (bw_cmp rfl (ew_name 1 (ew_non (op_is_n (.inr (.inr ⟨_, rfl⟩)) ⟨_, rfl, fun z => (by cases z), fun _ => sws_nil ?_⟩)))))
  exact sws_one (sw_ret (ew_ix (ew_name 1 (ew_int (ix_t (d := .list (t.ms.map S)) rfl rfl)))))
end K78
/-! K78: walks: hands, groups. -/
namespace K78
open PySem PySem.Spec L2
variable {B : Bs}
section
variable {X : Cx} {F : Fm} {ε : Env} {e tg iter : Expr} {p pos tpos : Pos} {elts : List Expr} {kk : Nat}
theorem iw_sq (b : Bool) {Q : List PyData → Prop} (h : EW X F iter ε fun d => ∃ ds, d = sqD b ds ∧ Q ds) : IW X F tg iter ε Q := by
  cases b
  · exact iw_list h
  · exact iw_tup h
theorem iw_enumSq (b : Bool) {Q : List PyData → Prop} (hm : X.mg "enumerate" = none) (h : EW X F e ε fun d => ∃ ds, d = sqD b ds ∧ Q (enumD ds)) (hg : Gl X "enumerate" := by rfl) (hs : starEach [e] X.env = [(false, eval e X.env)] := by rfl) : IW X F (.Tuple elts kk tpos) (.Call (.Name "enumerate" p) [e] [] pos) ε Q := by
  cases b
  · exact iw_enum hm h hg hs
  · exact iw_enumT hm h hg hs
theorem sl_sq (b : Bool) {ds : List PyData} {i : Nat} {Q : PyData → Prop} (hi : i < ds.length) (q : Q (sqD b (ds.take i))) : SlW X (sqD b ds) none (some (i : Int)) Q := by
  cases b
  · exact sl_l (by rw [cut_to]; exact q)
  · exact sl_t (by rw [sIx_nat]; omega) (by rw [cut_to]; exact q)
end
theorem enum_map {α : Type} (xs : List α) (f : α → PyData) : enumD (xs.map f) = xs.zipIdx.map fun p => .tuple [.int (p.2 : Nat), f p.1] := by
  unfold enumD
  rw [List.mapIdx_eq_zipIdx_map, List.zipIdx_map, List.map_map]
  rfl
theorem zipIdx_at {α : Type} {xs : List α} {p : α × Nat} (h : p ∈ xs.zipIdx) : xs[p.2]? = some p.1 := by
  obtain ⟨a, i⟩ := p
  exact List.mem_zipIdx_iff_getElem?.mp h
theorem nodup_pre {α : Type} [DecidableEq α] {us : List α} (h : us.Nodup) {i : Nat} {w : α} (e : us[i]? = some w) : w ∉ us.take i := fun z => by
  obtain ⟨j, hj, ej⟩ := List.mem_take_iff_getElem.mp z
  obtain ⟨hi, ei⟩ := List.getElem?_eq_some_iff.mp e
  exact List.pairwise_iff_getElem.mp h j i (by omega) hi (by omega) (ej.trans ei.symm)
theorem ok_is_hand (T : Told B) (m : Mn) (b : Bool) (ws : List Tx) (hz : ws.length ≤ 4) (hg : ∀ t ∈ ws, Good t ∧ Suit m t) (nw : (ws.map Tx.un).Nodup) : Ok B 4 d_is_hand p_is_hand (spV [S m.w, sqD b ((ws.map Tx.un).map S)] fun r => r = .bool true) := by
  refine ok_v (h_is_hand T) s_is_hand rfl fun c hr F hro => ?_
  have nd := s_is_hand.nd
  have hl : ((ws.map Tx.un).map S).length = ws.length := by rw [List.length_map, List.length_map]
  refine sws_cons (sw_if (bw_w (bww_or (bw_not (bw_val (ew_callJ (h_is_list T) (g_is_list T) (aw_cons (ew_name 1 (aw_nil ⟨_, ok_is_list T b _, fun r hr => ⟨true, hr, fun z => (by cases z), fun _ => ?_⟩⟩)))))))))
  refine bww_or (bw_cmp rfl (ew_len (b_len T) (ew_name 1 (.inl ⟨_, sqD_seq b _, ew_intc (g_MOST_KNOWN T) (op_gt_i ⟨_, rfl, fun z => ?_, fun _ => ?_⟩)⟩))))
  · have z := of_decide_eq_true z
    rw [hl] at z
    omega
  refine bww_or1 (bw_not (bw_val (ew_allc ws (fun _ => true) (b_all T) (ew_lcn [("path", 3)] 3 ws (fun t => S t.un) (fun _ => .bool true) (iw_sq b (ew_name 1 ⟨(ws.map Tx.un).map S, rfl, by rw [List.map_map]; rfl, by omega, fun t ht s1 H1 C1 cl1 fp1 => ?_, rfl, true, ?_, fun z => (by cases z), fun _ => sws_nil ?_⟩))))))
  · exact ew_callJ (h_is_path T) (g_is_path T) (aw_cons (ew_name 0 (aw_cons (ew_name 3 (aw_nil ⟨_, ok_is_path T m t (hg t ht).1 (hg t ht).2, fun r hr => hr⟩)))))
  · congr 1; exact List.all_eq_true.mpr fun _ _ => rfl
  refine sws_one (sw_ret (ew_allc (ws.map Tx.un).zipIdx (fun p => !decide (p.1 ∈ (ws.map Tx.un).take p.2)) (b_all T) (ew_lc [("at", 2), ("path", 3)] (lcw_of (ws.map Tx.un).zipIdx (fun p => .tuple [.int (p.2 : Nat), S p.1]) (fun p => .bool (!decide (p.1 ∈ (ws.map Tx.un).take p.2))) (fun _ => true) (iw_enumSq b (b_enumerate T) (ew_name 1 ⟨_, rfl, ?_, ?_, fun p hp s1 H1 C1 cl1 fp1 => ?_, ?_, ?_⟩))))))
  · rw [enum_map]
  · rw [List.length_zipIdx, List.length_map]; omega
  · have hp := zipIdx_at hp
    have hlt : p.2 < ((ws.map Tx.un).map S).length := by
      have := (List.getElem?_eq_some_iff.mp hp).1
      rw [List.length_map]; exact this
    refine two_tup (twos_cons (two_name 2 (twos_cons (two_name 3 (twos_nil ?_)))))
    intro s2 H2 C2 cl2 fp2
    refine bws_nil ⟨rfl, fun _ s3 H3 C3 cl3 fp3 => ?_⟩
    refine ew_cmp rfl (ew_name 3 (ew_slice (ew_name 1 (ow_none (ow_some (ew_name 2 ⟨_, rfl, sl_sq b hlt (op_nin_ls (ws := (ws.map Tx.un).take p.2) (by rw [List.map_take]; exact sqD_seq b _) rfl)⟩))))))
  · rw [List.filter_eq_self.mpr fun _ _ => rfl]
  · show PyData.bool _ = PyData.bool true
    congr 1
    refine List.all_eq_true.mpr fun p hp => ?_
    rw [decide_eq_false (nodup_pre nw (zipIdx_at hp))]; rfl
/-! ### hands -/
abbrev Hand := Bool × List Tx
def Hand.us (h : Hand) : List Wd := h.2.map Tx.un
def Hand.d (h : Hand) : PyData := sqD h.1 (h.us.map S)
structure HandOk (m : Mn) (h : Hand) : Prop where
  z : h.2.length ≤ 4
  g : ∀ t ∈ h.2, Good t ∧ Suit m t
  n : h.us.Nodup
theorem ok_checked_hands (T : Told B) (m : Mn) (b : Bool) (hs : List Hand) (hz : hs.length ≤ 5) (hh : ∀ h ∈ hs, HandOk m h) : Ok B 5 d_checked_hands p_checked_hands (spV [S m.w, sqD b (hs.map Hand.d)] fun r => r = .list (hs.map fun h => .list (h.us.map S))) := by
  refine ok_v (h_checked_hands T) s_checked_hands rfl fun c hr F hro => ?_
  have nd := s_checked_hands.nd
  refine sws_cons (sw_if (bw_not (bw_val (ew_is_manner T (ew_name 0 ⟨m, rfl, true, rfl, fun z => (by cases z), fun _ => sws_nil ?_⟩) (hr.mono (by decide))))))
  refine sws_cons (sw_if (bw_not (bw_val (ew_callJ (h_is_list T) (g_is_list T) (aw_cons (ew_name 1 (aw_nil ⟨_, ok_is_list T b _, fun r hr => ⟨true, hr, fun z => (by cases z), fun _ => sws_nil ?_⟩⟩)))))))
  refine sws_cons (sw_forM hs.zipIdx (fun p => .tuple [.int (p.2 : Nat), p.1.d]) (fun i ε => ∃ s1 s2, ε = [.dat (S m.w), .dat (sqD b (hs.map Hand.d)), .dat s1, .dat s2] ∨ ε = [.dat (S m.w), .dat (sqD b (hs.map Hand.d)), .un, .un]) (iw_enumSq b (b_enumerate T) (ew_name 1 ⟨_, rfl, enum_map hs Hand.d⟩)) ⟨.none, .none, .inr rfl⟩ ?_ ?_)
  · rintro i p ε' hp ⟨s1, s2, hε⟩
    have hp := zipIdx_at (List.mem_of_getElem? hp)
    have hi : p.2 < hs.length := (List.getElem?_eq_some_iff.mp hp).1
    have ho := hh p.1 (List.mem_of_getElem? hp)
    have fin : ∀ ε0 : Env, ε0 = [.dat (S m.w), .dat (sqD b (hs.map Hand.d)), .dat (.int (p.2 : Nat)), .dat p.1.d] → True := fun _ _ => trivial
    rcases hε with rfl | rfl
    all_goals
      refine tw_tup (tws_cons (tw_name 2 (tws_cons (tw_name 3 (tws_nil ?_)))))
      refine sws_one (sw_if (bw_w (bww_or (bw_cmp rfl (ew_name 2 (ew_intc (g_MOST_HANDS T) (op_eq_i ⟨_, rfl, fun z => ?_, fun _ => ?_⟩)))))))
      · have z := of_decide_eq_true z
        omega
      · refine bww_or1 (bw_not (bw_val (ew_callJ (h_is_hand T) (g_is_hand T) (aw_cons (ew_name 0 (aw_cons (ew_name 3 (aw_nil ⟨_, ok_is_hand T m p.1.1 p.1.2 ho.z ho.g ho.n, fun r hr => ⟨true, hr, fun z => (by cases z), fun _ => sws_nil ⟨_, _, .inl rfl⟩⟩⟩))))))))
  · rintro ε' ⟨s1, s2, hε⟩
    rcases hε with rfl | rfl
    all_goals
      refine sws_one (sw_ret (ew_lcn [("hand", 3)] 3 hs Hand.d (fun h => .list (h.us.map S)) (iw_sq b (ew_name 1 ⟨_, rfl, rfl, by omega, fun h hh s1 H1 C1 cl1 fp1 => ?_, ?_⟩))))
      · exact ew_callTy (T := "list") (b_list T) (aw_cons (ew_name 3 (aw_nil (c_list (sqD_seq h.1 _) rfl))))
      · rfl
theorem ok_checked_path_of (T : Told B) (m : Mn) (t : Tx) (h : Good t) (hs : Suit m t) : Ok B 4 d_checked_path_of p_checked_path_of (spV [S m.w, S t.un] fun _ => True) := by
  refine ok_v (h_checked_path_of T) s_checked_path_of rfl fun c hr F hro => ?_
  have nd := s_checked_path_of.nd
  refine sws_cons (sw_if (bw_not (bw_val (ew_callJ (h_is_path T) (g_is_path T) (aw_cons (ew_name 0 (aw_cons (ew_name 1 (aw_nil ⟨_, ok_is_path T m t h hs, fun r hr => ⟨true, hr, fun z => (by cases z), fun _ => sws_nil ?_⟩⟩)))))))))
  exact sws_one (sw_ret (ew_name 1 trivial))
/-! ### what a group knows -/
def addK (us : List (List Wd)) (acc : List Wd) (at_ : Nat) : List Wd := acc ++ (us.getD at_ []).filter fun w => !decide (w ∈ acc)
def known (us : List (List Wd)) (g : List Nat) : List Wd := g.foldl (addK us) []
def dI (p : List Nat) : PyData := .list (p.map fun n => .int (n : Nat))
theorem free_texts {ts : PyData} (ws : List Wd) : freeAll ts (ws.map S) := by
  induction ws with
  | nil => trivial
  | cons w ws ih => exact ⟨trivial, ih⟩
theorem ok_known_to (T : Told B) (us : List (List Wd)) (g : List Nat) (hu : ∀ u ∈ us, u.length ≤ 4) (hg : ∀ n ∈ g, n < us.length) (hz : g.length ≤ 5) : Ok B 1 d_known_to p_known_to (spV [.list (us.map fun u => .list (u.map S)), dI g] fun r => r = .list ((known us g).map S)) := by
  refine ok_v (h_known_to T) s_known_to rfl fun c hr F hro => ?_
  have nd := s_known_to.nd
  refine sws_cons (sw_setL 2 (aw_nil (sws_cons (sw_forM g (fun n => .int (n : Nat)) (fun i ε => ((g.take i).foldl (addK us) []).length ≤ 4 * i ∧ ∃ s, still s = true ∧ ε = [.dat (.list (us.map fun u => .list (u.map S))), .dat (dI g), .lst (((g.take i).foldl (addK us) []).map S), s, .un]) (iw_list (ew_name 1 ⟨_, rfl, rfl⟩)) ⟨Nat.le_refl _, _, rfl, rfl⟩ ?_ ?_))))
  · rintro i n ε' hn ⟨hl, s, _, rfl⟩
    have hi : i < g.length := (List.getElem?_eq_some_iff.mp hn).1
    have hn4 := hg n (List.mem_of_getElem? hn)
    have nxt : (g.take (i + 1)).foldl (addK us) [] = addK us ((g.take i).foldl (addK us) []) n := fold_take _ _ hn
    revert nxt hl
    generalize (g.take i).foldl (addK us) [] = acc
    intro hl nxt
    have eu : us[n]? = some (us.getD n []) := by rw [List.getD_eq_getElem?_getD, List.getElem?_eq_getElem hn4]; rfl
    have hu4 := hu _ (List.mem_of_getElem? eu)
    refine tw_name 3 (sws_one ?_)
    refine sw_extend 2 rfl ?_
    refine ew_lcSeen 2 [("path", 4)] ?_
    refine lcw_of (us.getD n []) S S (fun w => !decide (w ∈ acc)) ?_
    refine iw_list (ew_ix (ew_name 0 (ew_name 3 (ix_l (d := .list ((us.getD n []).map S)) ?_ ?_))))
    · rw [atI_nat, List.getElem?_map, eu]; rfl
    refine ⟨_, rfl, rfl, by omega, fun w hw s1 H1 C1 cl1 fp1 => ?_, _, rfl, free_texts _, _, rfl, ?_, ?_⟩
    · refine two_name 4 fun s2 H2 C2 cl2 fp2 => bws_one (bw_cmp rfl (ew_name 4 (ew_name 2 (op_nin_ls (.inl rfl) ⟨_, rfl, rfl, fun _ s3 H3 C3 cl3 fp3 => ew_name 4 rfl⟩))))
    · have := List.length_filter_le (fun w => !decide (w ∈ acc)) (us.getD n [])
      rw [List.length_map, List.length_map]; omega
    · refine ⟨?_, .dat (.int (n : Nat)), rfl, ?_⟩
      · rw [nxt]; unfold addK
        have := List.length_filter_le (fun w => !decide (w ∈ acc)) (us.getD n [])
        rw [List.length_append]; omega
      · rw [nxt]; unfold addK; rw [List.map_append]; rfl
  · rintro ε' ⟨hl, s, _, rfl⟩
    rw [List.take_length]
    exact sws_freeze 2 (sws_one (sw_ret (ew_name 2 rfl)))
end K78
/-! K78: walks: groups; the law's readers. -/
namespace K78
open PySem PySem.Spec L2
variable {B : Bs}
def addP (acc : List (List Nat)) (at_ : Nat) : List (List Nat) := acc ++ acc.map (· ++ [at_])
def subs (n : Nat) : List (List Nat) := (List.range n).foldl addP [[]]
theorem subs_fold : ∀ (l : List Nat) (acc : List (List Nat)) (k : Nat), (∀ p ∈ acc, p.length ≤ k) → (l.foldl addP acc).length = acc.length * 2 ^ l.length ∧ ∀ p ∈ l.foldl addP acc, p.length ≤ k + l.length
  | [], acc, k, h => by simpa using h
  | a :: l, acc, k, h => by
    have h2 : ∀ p ∈ addP acc a, p.length ≤ k + 1 := fun p hp => by
      unfold addP at hp
      rcases List.mem_append.mp hp with q | q
      · exact Nat.le_succ_of_le (h p q)
      · obtain ⟨q', hq, rfl⟩ := List.mem_map.mp q
        have := h q' hq
        rw [List.length_append, List.length_singleton]; omega
    obtain ⟨e1, e2⟩ := subs_fold l (addP acc a) (k + 1) h2
    rw [List.foldl_cons]
    refine ⟨?_, fun p hp => ?_⟩
    · rw [e1]; unfold addP
      rw [List.length_append, List.length_map, List.length_cons, Nat.pow_succ]
      rw [← Nat.two_mul, Nat.mul_comm 2, Nat.mul_assoc, Nat.mul_comm 2]
    · have := e2 p hp
      rw [List.length_cons]; omega
theorem dI_app (p : List Nat) (n : Nat) : dI (p ++ [n]) = .list ((p.map fun n => PyData.int (n : Nat)) ++ [.int (n : Nat)]) := by unfold dI; rw [List.map_append]; rfl
theorem ok_parts_of (T : Told B) (n : Nat) (hn : n ≤ 5) : Ok B 1 d_parts_of p_parts_of (spV [.int (n : Nat)] fun r => ∃ gs : List (List Nat), r = .list (gs.map dI) ∧ gs.Perm (subs n) ∧ gs.Pairwise fun a b => a.length ≤ b.length) := by
  refine ok_v (h_parts_of T) s_parts_of rfl fun c hr F hro => ?_
  have nd := s_parts_of.nd
  have low : ∀ i, i ≤ n → (((List.range n).take i).foldl addP [[]]).length ≤ 32 ∧ ∀ p ∈ ((List.range n).take i).foldl addP [[]], p.length ≤ 5 := fun i hi => by
    obtain ⟨e1, e2⟩ := subs_fold ((List.range n).take i) [[]] 0 (by simp)
    have hl : ((List.range n).take i).length ≤ 5 := by rw [List.length_take, List.length_range]; omega
    refine ⟨?_, fun p hp => by have := e2 p hp; omega⟩
    rw [e1, List.length_singleton, Nat.one_mul]
    exact Nat.le_trans (Nat.pow_le_pow_right (by decide) hl) (by decide)
  refine sws_cons (sw_setL 1 (aw_cons (ew_lst (aw_nil (aw_nil ?_)))))
  refine sws_cons (sw_forM (List.range n) (fun n => .int (n : Nat)) (fun i ε => ∃ s, still s = true ∧ ε = [.dat (.int (n : Nat)), .lst ((((List.range n).take i).foldl addP [[]]).map dI), s, .un]) (iw_range1 (b_range T) (ew_name 0 ⟨(n : Nat), rfl, by omega, by omega, by rw [Int.toNat_natCast]⟩)) ⟨_, rfl, rfl⟩ ?_ ?_)
  · rintro i a ε' ha ⟨s, _, rfl⟩
    have hi : i < n := by have := (List.getElem?_eq_some_iff.mp ha).1; rw [List.length_range] at this; exact this
    obtain ⟨l1, l2⟩ := low i (by omega)
    have nxt : ((List.range n).take (i + 1)).foldl addP [[]] = addP (((List.range n).take i).foldl addP [[]]) a := fold_take _ _ ha
    revert nxt l1 l2
    generalize ((List.range n).take i).foldl addP [[]] = acc
    intro l1 l2 nxt
    refine tw_name 2 (sws_one ?_)
    refine sw_extend 1 rfl ?_
    refine ew_lcSeen 1 [("part", 3)] ?_
    refine lcw_of acc dI (fun p => dI (p ++ [a])) (fun _ => true) ?_
    refine iw_list (ew_name 1 ⟨_, rfl, rfl, by omega, fun p hp s1 H1 C1 cl1 fp1 => ?_, ?_⟩)
    · refine two_name 3 fun s2 H2 C2 cl2 fp2 => bws_nil ⟨rfl, fun _ s3 H3 C3 cl3 fp3 => ?_⟩
      refine ew_bin (ew_name 3 (ew_lst (aw_cons (ew_name 2 (aw_nil (op_cat_d ?_ ?_))))))
      · have := l2 p hp; rw [List.length_map]; simp; omega
      · exact (dI_app p a).symm
    rw [List.filter_eq_self.mpr fun _ _ => rfl]
    refine ⟨_, rfl, ?_, _, rfl, ?_, .dat (.int (a : Nat)), rfl, ?_⟩
    · have ne : ∀ ps : List (List Nat), (∀ p ∈ ps, p ∈ acc) → freeAll (.list (acc.map dI)) (ps.map fun p => dI (p ++ [a])) := by
        intro ps
        induction ps with
        | nil => intro _; trivial
        | cons p ps ih =>
          intro hps
          refine ⟨?_, ih fun q hq => hps q (List.mem_cons_of_mem _ hq)⟩
          show free _ (dI (p ++ [a]))
          rw [dI_app]
          refine ⟨fun z => ?_, ?_⟩
          · have z := PyData.list.inj z
            have := congrArg List.getLast? z
            rw [List.getLast?_append, List.getLast?_map, List.getLast?_map] at this
            cases e : acc.getLast? with
            | none => rw [e] at this; simp at this
            | some x => rw [e] at this; simp [dI] at this
          · have : ∀ is : List Nat, freeAll (.list (acc.map dI)) ((is.map fun n => PyData.int (n : Nat)) ++ [.int (a : Nat)]) := by
              intro is
              induction is with
              | nil => exact ⟨trivial, trivial⟩
              | cons i is ih => exact ⟨trivial, ih⟩
            exact this p
      exact ne acc fun p hp => hp
    · rw [List.length_map, List.length_map]; omega
    · rw [nxt]; unfold addP; rw [List.map_append, List.map_map]; rfl
  · rintro ε' ⟨s, _, rfl⟩
    rw [List.length_range, List.take_of_length_le (by rw [List.length_range]; exact Nat.le_refl _)]
    obtain ⟨l1, l2⟩ := low n (Nat.le_refl _)
    rw [List.take_of_length_le (by rw [List.length_range]; exact Nat.le_refl _)] at l1 l2
    refine sws_freeze 1 (sws_one (sw_ret (ew_sortLen dI List.length (b_sorted T) (b_len T) (ew_name 1 ⟨subs n, rfl, ?_, fun p hp => ⟨List.length_map .., ?_⟩, fun gs pm ps => ⟨gs, rfl, pm, ps⟩⟩) ?_)))
    · show (subs n).length ≤ _
      unfold subs; omega
    · have := l2 p hp; omega
    · have := hr.units; omega
end K78
/-! K78: walks: the law's words. -/
namespace K78
open PySem PySem.Spec L2
variable {B : Bs}
theorem lturn_W {c : Nat} (h : L4 c) : (if decide ([c] = (Txt.upper (tx [c])).cps.toList) then Txt.lower (tx [c]) else Txt.upper (tx [c])) = tx [tn c] := by rcases h with rfl | rfl | rfl | rfl <;> decide +kernel
theorem ok_law_turn (T : Told B) (c0 : Nat) (h : L4 c0) : Ok B 1 d_law_turn p_law_turn (spV [S [c0]] fun r => r = S [tn c0]) := by
  refine ok_v (h_law_turn T) s_law_turn rfl fun c hr F hro => ?_
  have nd := s_law_turn.nd
  have fin := lturn_W h
  have eu : PyData.str (Txt.upper (tx [c0])) = S (Txt.upper (tx [c0])).cps.toList := congrArg PyData.str (tx_of _)
  refine sws_one (sw_ret (ew_if (bw_cmp rfl (ew_name 0 (ew_upper (ew_name 0 ⟨tx [c0], rfl, by show 1 ≤ 5000000; decide, ?_⟩))))))
  rw [eu]
  refine op_eq_s ⟨_, rfl, fun z => ?_, fun z => ?_⟩
  · rw [z] at fin
    exact ew_lower (ew_name 0 ⟨tx [c0], rfl, by show 1 ≤ 5000000; decide, congrArg PyData.str fin⟩)
  · rw [z] at fin
    exact ew_upper (ew_name 0 ⟨tx [c0], rfl, by show 1 ≤ 5000000; decide, congrArg PyData.str fin⟩)
theorem ew_lturn {X : Cx} {F : Fm} {ε : Env} {e : Expr} {p pos : Pos} {Q : PyData → Prop} (T : Told (bsOf X)) (h : EW X F e ε fun d => ∃ c, d = S [c] ∧ L4 c ∧ Q (S [tn c])) (hr : Room 1 X.A) (hg : Gl X "_law_turn" := by rfl)
    (he : starEach [e] X.env = (false, eval e X.env) :: starEach [] X.env := by rfl) (hpl : (backTo pos (starEach [] X.env)).any (·.1) = false := by rfl) : EW X F (.Call (.Name "_law_turn" p) [e] [] pos) ε Q :=
  ew_callJ (h_law_turn T) (g_law_turn T) (aw_cons (h.imp fun d ⟨c, ed, hc, q⟩ => aw_nil (by subst ed; exact ⟨_, ok_law_turn T c hc, fun r hr => by rw [hr]; exact q⟩)) he) hr hg (he := he) (hpl := hpl)
theorem ok_law_back (T : Told B) (l : Wd) (hl : W4 l) (hz : l.length ≤ 1000) : Ok B 2 d_law_back p_law_back (spV [S l] fun r => r = S (bk l)) := by
  refine ok_v (h_law_back T) s_law_back rfl fun c hr F hro => ?_
  have nd := s_law_back.nd
  refine sws_one (sw_ret (ew_join (ew_lcn [("_law_sign", 1)] 1 l.reverse (fun c => S [c]) (fun c => S [tn c]) (iw_str (ew_revS (ew_name 0 ⟨l, rfl, by omega, _, rfl, rfl, by rw [List.length_reverse]; omega, fun x hx => ?_, ?_⟩))))))
  · intro s1 H1 C1 cl1 fp1
    exact ew_lturn T (ew_name 1 ⟨x, rfl, hl x (List.mem_reverse.mp hx), rfl⟩) (hr.mono (by decide))
  · refine ⟨(bk l).map fun c => [c], ?_, ?_, ?_⟩
    · unfold bk; simp only [List.map_map]; rfl
    · rw [sum_sing]; unfold bk; rw [List.length_map, List.length_reverse]; omega
    · rw [flat_sing]
theorem ew_lback {X : Cx} {F : Fm} {ε : Env} {e : Expr} {p pos : Pos} {Q : PyData → Prop} (T : Told (bsOf X)) (h : EW X F e ε fun d => ∃ l, d = S l ∧ W4 l ∧ l.length ≤ 1000 ∧ Q (S (bk l))) (hr : Room 2 X.A) (hg : Gl X "_law_back" := by rfl)
    (he : starEach [e] X.env = (false, eval e X.env) :: starEach [] X.env := by rfl) (hpl : (backTo pos (starEach [] X.env)).any (·.1) = false := by rfl) : EW X F (.Call (.Name "_law_back" p) [e] [] pos) ε Q :=
  ew_callJ (h_law_back T) (g_law_back T) (aw_cons (h.imp fun d ⟨l, ed, h4, hz, q⟩ => aw_nil (by subst ed; exact ⟨_, ok_law_back T l h4 hz, fun r hr => by rw [hr]; exact q⟩)) he) hr hg (he := he) (hpl := hpl)
/-- found[-1:] -/
theorem cut_tail1 {α : Type} (xs : List α) : cutD xs (some (-1)) none = xs.drop (xs.length - 1) := by
  unfold cutD
  rw [sIx_neg1, sIx_none, List.take_of_length_le (by rw [List.length_drop]; exact Nat.le_refl _)]
theorem tail1_iff (l : Wd) (c : Nat) : (l.drop (l.length - 1) = [c]) ↔ l.getLast? = some c := by
  rcases List.eq_nil_or_concat l with rfl | ⟨m, x, rfl⟩
  · simp
  · simp
theorem ok_law_short (T : Told B) (l : Wd) (hl : W4 l) (hz : l.length ≤ 1000) : Ok B 2 d_law_short p_law_short (spV [S l] fun r => r = S (red l)) := by
  refine ok_v (h_law_short T) s_law_short rfl fun c hr F hro => ?_
  have nd := s_law_short.nd
  refine sws_cons (sw_set 1 (ew_tx [] (sws_cons (sw_forM l (fun c => S [c]) (fun i ε => ∃ s, ε = [.dat (S l), .dat (S (red (l.take i))), s]) (iw_str (ew_name 0 ⟨_, rfl, rfl⟩)) ⟨_, rfl⟩ ?_ ?_))))
  · rintro i x ε' hx ⟨s, rfl⟩
    have h4 : L4 x := hl x (List.mem_of_getElem? hx)
    have hzl : (red (l.take i)).length ≤ 1000 := by have := red_len (l.take i); rw [List.length_take] at this; omega
    have nxt : red (l.take (i + 1)) = rstep (red (l.take i)) x := fold_take _ _ hx
    refine tw_name 2 (sws_one (sw_set 1 (EW.imp (Q := fun d => d = S (red (l.take (i + 1)))) (ew_if (bw_cmp rfl (ew_slice (ew_name 1 (ow_some (ew_neg ⟨_, rfl, ow_none (sl_s (l := red (l.take i)) (by omega) (ew_lturn T (ew_name 2 ⟨x, rfl, h4, ?_⟩) (hr.mono (by decide))))⟩)))))) fun r hr => ?_)))
    · rw [cut_tail1]
      refine op_eq_s ⟨_, rfl, fun z => ?_, fun z => ?_⟩
      · have z := (tail1_iff _ _).mp (of_decide_eq_true z)
        refine ew_slice (ew_name 1 (ow_none (ow_some (ew_neg ⟨_, rfl, sl_s (l := red (l.take i)) (by omega) (?_ : _ = _)⟩))))
        rw [nxt, cut_last]; unfold rstep; rw [if_pos z]
      · have z := fun y => of_decide_eq_false z ((tail1_iff _ _).mpr y)
        refine ew_bin (ew_name 1 (ew_name 2 (op_add_s (l := red (l.take i)) (m := [x]) (by simp; omega) (?_ : _ = _))))
        rw [nxt]; unfold rstep; rw [if_neg z]
    · subst hr; exact ⟨_, rfl⟩
  · rintro ε' ⟨s, rfl⟩
    rw [List.take_length]
    exact sws_one (sw_ret (ew_name 1 rfl))
theorem ew_lshort {X : Cx} {F : Fm} {ε : Env} {e : Expr} {p pos : Pos} {Q : PyData → Prop} (T : Told (bsOf X)) (h : EW X F e ε fun d => ∃ l, d = S l ∧ W4 l ∧ l.length ≤ 1000 ∧ Q (S (red l))) (hr : Room 2 X.A) (hg : Gl X "_law_short" := by rfl)
    (he : starEach [e] X.env = (false, eval e X.env) :: starEach [] X.env := by rfl) (hpl : (backTo pos (starEach [] X.env)).any (·.1) = false := by rfl) : EW X F (.Call (.Name "_law_short" p) [e] [] pos) ε Q :=
  ew_callJ (h_law_short T) (g_law_short T) (aw_cons (h.imp fun d ⟨l, ed, h4, hz, q⟩ => aw_nil (by subst ed; exact ⟨_, ok_law_short T l h4 hz, fun r hr => by rw [hr]; exact q⟩)) he) hr hg (he := he) (hpl := hpl)
theorem ok_law_tree (T : Told B) (l : Wd) (hl : W4 l) (hz : l.length ≤ 60) : Ok B 2 d_law_tree p_law_tree (spV [S l] fun r => ∃ ys : List Wd, r = .list (ys.map S) ∧ ys.Nodup ∧ ∀ w, w ∈ ys ↔ w ∈ pres l) := by
  refine ok_v (h_law_tree T) s_law_tree rfl fun c hr F hro => ?_
  have nd := s_law_tree.nd
  refine sws_cons (sw_par 1 2 (pw_ld (aw_cons (ew_tx [] (aw_nil (ew_tx [] ?_))))))
  refine sws_cons (sw_forM l (fun c => S [c]) (fun i ε => ∃ s ys, ys.Nodup ∧ ys.length ≤ i + 1 ∧ (∀ w, w ∈ ys ↔ ∃ k, k ≤ i ∧ w = red (l.take k)) ∧ ε = [.dat (S l), .lst (ys.map S), .dat (S (red (l.take i))), s]) (iw_str (ew_name 0 ⟨_, rfl, rfl⟩)) ⟨.un, [[]], by simp, Nat.le_refl _, fun w => ?_, rfl⟩ ?_ ?_)
  · rw [List.mem_singleton]
    constructor
    · rintro rfl; exact ⟨0, Nat.le_refl _, rfl⟩
    · rintro ⟨k, hk, rfl⟩
      have : k = 0 := by omega
      subst this; rfl
  · rintro i x ε' hx ⟨s, ys, ny, ly, my, rfl⟩
    have h4 : L4 x := hl x (List.mem_of_getElem? hx)
    have hi : i < l.length := (List.getElem?_eq_some_iff.mp hx).1
    have hzl : (red (l.take i)).length ≤ 60 := by have := red_len (l.take i); rw [List.length_take] at this; omega
    have nxt : red (l.take (i + 1)) = rstep (red (l.take i)) x := fold_take _ _ hx
    refine tw_name 3 (sws_cons (sw_set 2 (EW.imp (Q := fun d => d = S (red (l.take (i + 1)))) (ew_if (bw_cmp rfl (ew_slice (ew_name 2 (ow_some (ew_neg ⟨_, rfl, ow_none (sl_s (l := red (l.take i)) (by omega) (ew_lturn T (ew_name 3 ⟨x, rfl, h4, ?_⟩) (hr.mono (by decide))))⟩)))))) fun r hr => ?_)))
    · rw [cut_tail1]
      refine op_eq_s ⟨_, rfl, fun z => ?_, fun z => ?_⟩
      · have z := (tail1_iff _ _).mp (of_decide_eq_true z)
        refine ew_slice (ew_name 2 (ow_none (ow_some (ew_neg ⟨_, rfl, sl_s (l := red (l.take i)) (by omega) (?_ : _ = _)⟩))))
        rw [nxt, cut_last]; unfold rstep; rw [if_pos z]
      · have z := fun y => of_decide_eq_false z ((tail1_iff _ _).mpr y)
        refine ew_bin (ew_name 2 (ew_name 3 (op_add_s (l := red (l.take i)) (m := [x]) (by simp; omega) (?_ : _ = _))))
        rw [nxt]; unfold rstep; rw [if_neg z]
    · subst hr
      refine sws_one (sw_if (bw_seen 1 (bw_cmp rfl (ew_name 2 (ew_name 1 (op_nin_ls (.inl rfl) ⟨_, rfl, fun z => ?_, fun z => ?_⟩))))))
      · have z : red (l.take (i + 1)) ∉ ys := by simpa using z
        refine sws_one (sw_append 1 rfl (by rw [List.length_map]; omega) (ew_name 2 ⟨.dat (S [x]), ys ++ [red (l.take (i + 1))], ?_, by rw [List.length_append, List.length_singleton]; omega, fun w => ?_, by rw [List.map_append]; rfl⟩))
        · rw [List.nodup_append]
          exact ⟨ny, by simp, fun a ha b hb => by rw [List.mem_singleton] at hb; subst hb; intro y; subst y; exact z ha⟩
        · rw [List.mem_append, List.mem_singleton, my]
          constructor
          · rintro (⟨k, hk, e⟩ | e)
            · exact ⟨k, by omega, e⟩
            · exact ⟨i + 1, Nat.le_refl _, e⟩
          · rintro ⟨k, hk, e⟩
            by_cases ck : k = i + 1
            · subst ck; exact .inr e
            · exact .inl ⟨k, by omega, e⟩
      · have z : red (l.take (i + 1)) ∈ ys := by simpa using z
        refine sws_nil ⟨.dat (S [x]), ys, ny, by omega, fun w => ?_, rfl⟩
        rw [my]
        constructor
        · rintro ⟨k, hk, e⟩; exact ⟨k, by omega, e⟩
        · rintro ⟨k, hk, e⟩
          by_cases ck : k = i + 1
          · subst ck; rw [e]; exact (my _).mp z
          · exact ⟨k, by omega, e⟩
  · rintro ε' ⟨s, ys, ny, ly, my, rfl⟩
    refine sws_freeze 1 (sws_one (sw_ret (ew_sortLen S List.length (b_sorted T) (b_len T) (ew_callB (id := "sorted") (b_sorted T) (aw_cons (ew_name 1 (aw_nil (c_sortS (ws := ys) (by omega) fun zs pz => ?_))))) ?_)))
    · refine ⟨zs, rfl, by rw [pz.length_eq]; omega, fun w hw => ⟨tx_len w, ?_⟩, fun bs pm _ => ⟨bs, rfl, (pm.trans pz).nodup_iff.mpr ny, fun w => ((pm.trans pz).mem_iff).trans ?_⟩⟩
      · obtain ⟨k, hk, rfl⟩ := (my w).mp (pz.mem_iff.mp hw)
        have := red_len (l.take k)
        rw [List.length_take] at this
        omega
      · rw [my]; unfold pres
        constructor
        · rintro ⟨k, hk, rfl⟩; exact List.mem_map.mpr ⟨k, List.mem_range.mpr (by omega), rfl⟩
        · intro h; obtain ⟨k, hk, rfl⟩ := List.mem_map.mp h; exact ⟨k, by have := List.mem_range.mp hk; omega, rfl⟩
    · have := hr.units; omega
end K78
/-! K78: walks: the law reads a path. -/
namespace K78
open PySem PySem.Spec L2
variable {B : Bs}
section
variable {X : Cx} {F : Fm} {ε : Env} {R : ER} {e : Expr} {pos p p1 p2 tpos : Pos} {x : Str}
/-- xs[-1] = e -/
theorem sw_setLast (i : Nat) {k : Nat} {ds : List PyData} {d0 : PyData} (hε : ε[i]? = some (.lst (ds ++ [d0]))) (h : EW X F e ε fun d => R.nx (ε.set i (.lst (ds ++ [d])))) (hN : X.N[i]? = some x := by rfl) (hv : Vis X.env.scope x := by first | exact Or.inl rfl | exact Or.inr (Or.inl rfl) | exact Or.inr (Or.inr rfl))
    (hdg : (x == ("__debug__" : Str)) = false := by decide) (hcd : (x == ("__classdict__" : Str)) = false := by decide) (h0 : i ≠ 0 := by decide)
    (ha : ∀ v, assign (.Subscript (.Name x p) (.UnaryOp .USub (.Constant (.int 1) k p1) p2) tpos) X.env v = (do
      let ov ← holding [v] (eval (.Name x p) X.env)
      let iv ← holding [v, ov] (eval (.UnaryOp .USub (.Constant (.int 1) k p1) p2) X.env)
      standAt tpos
      holding [v, ov, iv] (setItem ov iv v)
      release [v, ov, iv] []) := by intro _; rfl)
    (hs : swapsWithSole [.Subscript (.Name x p) (.UnaryOp .USub (.Constant (.int 1) k p1) p2) tpos] e pos.line X.env = pure false := by rfl) (hw : swappedStores [.Subscript (.Name x p) (.UnaryOp .USub (.Constant (.int 1) k p1) p2) tpos] e X.env = pure none := by rfl)
    (h1 : (assignEach [.Subscript (.Name x p) (.UnaryOp .USub (.Constant (.int 1) k p1) p2) tpos] X.env).map (·.2) = [assign (.Subscript (.Name x p) (.UnaryOp .USub (.Constant (.int 1) k p1) p2) tpos) X.env] := by rfl) :
    SW X F (.Assign [.Subscript (.Name x p) (.UnaryOp .USub (.Constant (.int 1) k p1) p2) tpos] e pos) ε R := fun hd Hb H σ S' D kk => by
  refine ps_run (ps_asg pe_sem (pg_sub (pe_var hN hv hdg hcd) (pe_un un_neg pe_int) set_list ha) hs hw h1) (h hd Hb H σ S' _ fun v d Hb' H' S2 g r q => ?_)
  obtain ⟨ad, vs, eu, had, rv, na, up⟩ := own_at S2 hε h0
  have hl := dta_len rv
  rw [List.length_append, List.length_singleton] at hl
  refine ⟨_, eu, _, rfl, ad, vs, -1, ds.length, rfl, rfl, had, ?_, ?_⟩
  · rw [ixN_last, if_pos (by omega)]; congr 1; omega
  · refine kk.nx _ _ _ _ g.b (up _ (ds ++ [d]) ?_) q
    have e1 := dta_set rv ds.length r
    rw [List.set_append_right _ _ (Nat.le_refl _), Nat.sub_self] at e1
    exact e1
end
/-- a slot's content forgotten -/
theorem SI.forget {F : Fm} {hd : Hid} {Hb H : Hp} {σ : L2.St} {ε : Env} (S' : SI F hd Hb H σ ε) (j : Nat) : SI F hd Hb H σ (ε.set j .un) := by
  obtain ⟨ow, h1, h2⟩ := S'.ow
  refine ⟨S'.gr, S'.j, by rw [List.length_set]; exact S'.len, ow, h1, fun i s e => ?_⟩
  rcases set_at e with ⟨rfl, rfl, l⟩ | ⟨c, e⟩
  · trivial
  · exact h2 i s e
theorem sws_forget {X : Cx} {F : Fm} {ε : Env} {R : ER} {rest : List Stmt} (j : Nat) (h : SWs X F rest (ε.set j .un) R) : SWs X F rest ε R := fun hd Hb H σ S' D k => h _ _ _ _ (S'.forget j) D k
theorem filter_sub {m : Wd} : ∀ {D : Wd}, D.Nodup → m.Sublist D → D.filter (fun d => decide (d ∈ m)) = m := by
  intro D nd h
  induction h with
  | slnil => rfl
  | cons a h ih =>
    rw [List.nodup_cons] at nd
    rw [List.filter_cons_of_neg (by simpa using fun z => nd.1 (h.subset z))]
    exact ih nd.2
  | @cons_cons l₁ l₂ a h ih =>
    rw [List.nodup_cons] at nd
    rw [List.filter_cons_of_pos (by simp)]
    congr 1
    have := ih nd.2
    conv => rhs; rw [← this]
    refine List.filter_congr fun d hd => ?_
    have : d ≠ a := fun z => nd.1 (z ▸ hd)
    simp [this]
theorem lowcase {c : Nat} (h : c = 97 ∨ c = 98) : Txt.lower (tx [c]) = tx [c] := by rcases h with rfl | rfl <;> decide +kernel
theorem lowcaseX {c : Nat} (h : L4 c) : ∃ l, Txt.lower (tx [c]) = tx l := ⟨_, tx_of _⟩
theorem ok_law_read (T : Told B) (t : Tx) (h : Good t) : Ok B 1 d_law_read p_law_read (spV [S t.un] fun r => r = dPair t) := by
  refine ok_v (h_law_read T) s_law_read rfl fun c hr F hro => ?_
  have nd := s_law_read.nd
  refine sws_cons (sw_if (bw_not (bw_val (ew_isi (T := "str") (b := fun _ => true) (b_isinstance T) (b_str T) (ew_name 0 ⟨?_, true, rfl, fun z => (by cases z), fun _ => sws_nil ?_⟩)))))
  · show kitB "str" "str" = some true
    decide +kernel
  refine sws_cons (sw_par 1 2 (pw_ln (aw_nil (nw_lst (aw_cons (ew_tx [] (aw_nil ?_)))))))
  refine sws_cons (sw_forM t.un (fun c => S [c]) (fun i ε => ∃ s, ε = [.dat (S t.un), .lst (sing ((t.un.take i).foldl scan ([], [], [])).1), .lst ((sg ((t.un.take i).foldl scan ([], [], []))).map S), s, .un, .un, .un]) (iw_str (ew_name 0 ⟨_, rfl, rfl⟩)) ⟨_, rfl⟩ ?_ ?_)
  · rintro i x ε' hx ⟨s, rfl⟩
    have hs := h.scan_L hx
    have nxt : (t.un.take (i + 1)).foldl scan ([], [], []) = scan ((t.un.take i).foldl scan ([], [], [])) x := fold_take _ _ hx
    have hl := scan_len (t.un.take i) ([], [], [])
    have hz : (t.un.take i).length ≤ 100 := by have := h.z; rw [List.length_take]; omega
    revert nxt hl
    generalize (t.un.take i).foldl scan ([], [], []) = st
    intro nxt hl
    simp only [List.length_nil, Nat.zero_add] at hl
    refine tw_name 3 (sws_one (sw_if (bw_cmp rfl (ew_name 3 (ew_tx DIGS (op_in_c ⟨_, rfl, fun hd => ?_, fun hd => ?_⟩))))))
    · have hd := of_decide_eq_true hd
      have es : (sg st).map S = st.2.1.map S ++ [S st.2.2] := by unfold sg; rw [List.map_append]; rfl
      refine sws_one (sw_setLast 2 (ds := st.2.1.map S) (d0 := S st.2.2) (by show some (Sl.lst ((sg st).map S)) = _; rw [es]) (ew_bin (ew_seen 2 (ew_ix (ew_name 2 (ew_neg (ix_l (d := S st.2.2) ?_ ⟨trivial, ew_name 3 (op_add_s (l := st.2.2) (m := [x]) ?_ ⟨.dat (S [x]), ?_⟩)⟩)))))))
      · rw [atI_last, es, List.getLast?_concat]
      · simp only [List.length_singleton]; omega
      · have e1 : (scan st x).1 = st.1 := by unfold scan; rw [if_pos hd]
        have e2 : (sg (scan st x)).map S = st.2.1.map S ++ [S (st.2.2 ++ [x])] := by unfold scan sg; rw [if_pos hd]; simp
        rw [nxt, e1, e2]; rfl
    · have hd := of_decide_eq_false hd
      have h4 : L4 x := hs.resolve_left hd
      have e1 : sing (scan st x).1 = sing st.1 ++ [S [x]] := by unfold scan; rw [if_neg hd]; simp [sing]
      have e2 : (sg (scan st x)).map S = (sg st).map S ++ [S []] := by unfold scan sg; rw [if_neg hd]; simp
      have z1 : (sing st.1).length < 16000000 := by rw [List.length_map]; omega
      have z2 : ((sg st).map S).length < 16000000 := by unfold sg; rw [List.length_map, List.length_append, List.length_singleton]; omega
      refine sws_one (sw_if (bw_cmp rfl (ew_name 3 (ew_tx (SMALLS ++ CAPS) (op_in_c ⟨_, rfl, fun hd => ?_, fun hd2 => ?_⟩)))))
      · refine sws_cons (sw_append 1 rfl z1 (ew_name 3 (sws_one (sw_append 2 rfl z2 (ew_tx [] ⟨.dat (S [x]), ?_⟩)))))
        rw [nxt, e1, e2]; rfl
      · have hd2 := of_decide_eq_false hd2
        exfalso
        rcases h4 with rfl | rfl | rfl | rfl <;> exact hd2 (by decide)
  · rintro ε' ⟨s, rfl⟩
    rw [List.take_length, (scan_un h).1, (scan_un h).2]
    have hms := h.ms_len
    have hls := h.ls_len
    refine sws_freeze 1 (sws_freeze 2 (sws_forget 3 ?_))
    refine sws_cons (sw_set 4 (ew_allc t.ms (fun _ => true) (b_all T) (ew_lcn [("_law_x", 0)] 0 t.ms S (fun _ => .bool true) (iw_list (ew_name 2 ⟨_, rfl, rfl, by omega, fun m hm s1 H1 C1 cl1 fp1 => ?_, rfl, ?_⟩)))))
    · refine ew_cmp rfl (ew_join (ew_lct [("_law_d", 6)] 6 DIGS (fun c => S [c]) (fun c => S [c]) (fun d => decide (d ∈ m)) (iw_str (ew_tx DIGS ⟨_, rfl, rfl, by decide, fun d hd s2 H2 C2 cl2 fp2 => ?_, ?_⟩))))
      · exact bw_cmp rfl (ew_name 6 (ew_name 0 (op_in_c ⟨_, rfl, rfl, fun _ s3 H3 C3 cl3 fp3 => ew_name 6 rfl⟩)))
      · rw [filter_sub (by decide) (h.mks m hm)]
        refine ⟨m.map fun c => [c], by rw [List.map_map]; rfl, by rw [sum_sing]; have := h.m_len m hm; omega, ?_⟩
        rw [flat_sing]
        refine ew_name 0 (op_eq_s ?_)
        rw [decide_eq_true rfl]
    have ea : t.ms.all (fun _ => true) = true := List.all_eq_true.mpr fun _ _ => rfl
    rw [ea]
    have sumz : ∀ ms : List Wd, (∀ m ∈ ms, m.length ≤ 10) → (ms.map List.length).sum ≤ 10 * ms.length := by
      intro ms
      induction ms with
      | nil => intro _; exact Nat.le_refl _
      | cons m ms ih =>
        intro hm
        have h1 := hm m (List.mem_cons_self ..)
        have h2 := ih fun q hq => hm q (List.mem_cons_of_mem _ hq)
        rw [List.map_cons, List.sum_cons, List.length_cons]; omega
    refine sws_cons (sw_set 5 (EW.imp (Q := fun d => d = .bool true) (ew_or (ew_cmp rfl (ew_join (ew_name 2 ⟨t.ms, rfl, by have := sumz t.ms h.m_len; omega, ew_tx [] (op_eq_s ⟨_, rfl, fun _ => rfl, fun z => ?_⟩)⟩)))) fun r hr => ?_))
    · have z := of_decide_eq_false z
      have hp : ∀ p ∈ t.2, p.1 = 97 ∨ p.1 = 98 := h.pl.resolve_left fun y => z (List.flatten_eq_nil_iff.mpr y)
      refine ew_one (ew_allc t.ls (fun _ => true) (b_all T) (ew_lcn [("_law_sign", 3)] 3 t.ls (fun c => S [c]) (fun _ => .bool true) (iw_list (ew_name 1 ⟨_, rfl, rfl, by omega, fun c hc s1 H1 C1 cl1 fp1 => ?_, rfl, ?_⟩))))
      · obtain ⟨p, hp', rfl⟩ := List.mem_map.mp hc
        refine ew_cmp rfl (ew_name 3 (ew_lower (ew_name 3 ⟨tx [p.1], rfl, by show 1 ≤ 5000000; decide, ?_⟩)))
        rw [lowcase (hp p hp')]
        exact op_eq_s (by rw [decide_eq_true rfl])
      · show PyData.bool _ = _
        congr 1; exact List.all_eq_true.mpr fun _ _ => rfl
    subst hr
    refine sws_one (sw_ret (ew_if (bw_w (bww_and (bw_cmp rfl (ew_name 1 (ew_lst (aw_nil (op_ne_nil hr.units 0 (by decide) (sing_lay t.ls h.ls_W) ⟨_, rfl, fun z => ?_, fun z => ?_⟩)))))))))
    · refine bww_and (bw_val (ew_name 4 ⟨true, rfl, fun _ => bww_and1 (bw_val (ew_name 5 ⟨true, rfl, fun _ => ?_, fun z => (by cases z)⟩)), fun z => (by cases z)⟩))
      exact ew_tup (aw_cons (ew_name 1 (aw_cons (ew_name 2 (aw_nil rfl)))))
    · exfalso
      have : (t.ls.map fun c => S [c]) = [] := by simpa using z
      exact h.ls_ne (List.map_eq_nil_iff.mp this)
end K78
/-! K78: walks: fits, bridges. -/
namespace K78
open PySem PySem.Spec L2
variable {B : Bs}
section
variable {X : Cx} {Q : PyData → Prop}
theorem op_ne_enc {α : Type} [DecidableEq α] {enc : α → PyData} {xs ys : List α} (hu : X.A.units + 64 < cLine) (h : ∀ x y, PyData.eqv (enc x) (enc y) = decide (x = y)) (n : Nat) (hn : n < 64) (hx : ∀ x ∈ xs, (enc x).canLay0 = true ∧ (enc x).depth ≤ n) (hy : ∀ x ∈ ys, (enc x).canLay0 = true ∧ (enc x).depth ≤ n) (q : Q (.bool (!decide (xs = ys)))) :
    OpW X (compareOp .NotEq) (.list (xs.map enc)) (.list (ys.map enc)) Q :=
  op_ne_d hu (shaped_list n hn hx) (shaped_list n hn hy) (by rw [eqv_list h]; exact q)
end
theorem sing1_eqv (x y : Nat) : PyData.eqv (S [x]) (S [y]) = decide (x = y) := by rw [eqv_s, sing_inj]
theorem lay1 {x : Nat} (h : L4 x) : (S [x]).canLay0 = true ∧ (S [x]).depth ≤ 0 := ⟨lay_s fun a ha => by rw [List.mem_singleton] at ha; rw [ha]; rcases h with e | e | e | e <;> rw [e] <;> decide, Nat.le_refl _⟩
theorem layD {m : Wd} (h : m.Sublist DIGS) : (S m).canLay0 = true ∧ (S m).depth ≤ 0 := ⟨lay_s fun a ha => by have := h.subset ha; unfold DIGS at this; have := List.mem_range'_1.mp this; omega, Nat.le_refl _⟩
/-- fits, at i -/
def fitB (t k : Tx) (i : Nat) : Bool := decide ((t.ls.drop i).take k.ls.length = k.ls) && (decide (k.ms.tail.dropLast = (t.ms.drop (i + 1)).take (k.ls.length - 1)) && ((k.ms.headD []).all (fun d => decide (d ∈ t.ms.getD i [])) && (k.ms.getLastD []).all fun d => decide (d ∈ t.ms.getD (i + k.ls.length) [])))
theorem Tx.ms_len (t : Tx) : t.ms.length = t.ls.length + 1 := by unfold Tx.ms Tx.ls; rw [List.length_cons, List.length_map, List.length_map]
theorem seg_mid (ms : List Wd) (i n : Nat) (h : i + n + 1 ≤ ms.length) (hn : 1 ≤ n) : ((ms.drop i).take (n + 1)).tail.dropLast = (ms.drop (i + 1)).take (n - 1) := by
  have e : ((ms.drop i).take (n + 1)).tail = (ms.drop (i + 1)).take n := by
    rw [← List.drop_one, List.drop_take, List.drop_drop]; rfl
  rw [e, List.dropLast_eq_take, List.length_take, List.length_drop, List.take_take]
  congr 1; omega
theorem ew_steps {X : Cx} {F : Fm} {ε : Env} {e : Expr} {p pos : Pos} {Q : PyData → Prop} (T : Told (bsOf X)) (h : EW X F e ε fun d => ∃ t : Tx, d = S t.un ∧ Good t ∧ Q (.list (sing t.ls))) (hr : Room 3 X.A) (hg : Gl X "steps" := by rfl)
    (he : starEach [e] X.env = (false, eval e X.env) :: starEach [] X.env := by rfl) (hpl : (backTo pos (starEach [] X.env)).any (·.1) = false := by rfl) : EW X F (.Call (.Name "steps" p) [e] [] pos) ε Q :=
  ew_callJ (h_steps T) (g_steps T) (aw_cons (h.imp fun d ⟨t, ed, hg, q⟩ => aw_nil (by subst ed; exact ⟨_, ok_steps T t hg, fun r hr => by rw [hr]; exact q⟩)) he) hr hg (he := he) (hpl := hpl)
theorem ew_marks {X : Cx} {F : Fm} {ε : Env} {e : Expr} {p pos : Pos} {Q : PyData → Prop} (T : Told (bsOf X)) (h : EW X F e ε fun d => ∃ t : Tx, d = S t.un ∧ Good t ∧ Q (.list (t.ms.map S))) (hr : Room 3 X.A) (hg : Gl X "marks" := by rfl)
    (he : starEach [e] X.env = (false, eval e X.env) :: starEach [] X.env := by rfl) (hpl : (backTo pos (starEach [] X.env)).any (·.1) = false := by rfl) : EW X F (.Call (.Name "marks" p) [e] [] pos) ε Q :=
  ew_callJ (h_marks T) (g_marks T) (aw_cons (h.imp fun d ⟨t, ed, hg, q⟩ => aw_nil (by subst ed; exact ⟨_, ok_marks T t hg, fun r hr => by rw [hr]; exact q⟩)) he) hr hg (he := he) (hpl := hpl)
theorem ew_lread {X : Cx} {F : Fm} {ε : Env} {e : Expr} {p pos : Pos} {Q : PyData → Prop} (T : Told (bsOf X)) (h : EW X F e ε fun d => ∃ t : Tx, d = S t.un ∧ Good t ∧ Q (dPair t)) (hr : Room 1 X.A) (hg : Gl X "_law_read" := by rfl)
    (he : starEach [e] X.env = (false, eval e X.env) :: starEach [] X.env := by rfl) (hpl : (backTo pos (starEach [] X.env)).any (·.1) = false := by rfl) : EW X F (.Call (.Name "_law_read" p) [e] [] pos) ε Q :=
  ew_callJ (h_law_read T) (g_law_read T) (aw_cons (h.imp fun d ⟨t, ed, hg, q⟩ => aw_nil (by subst ed; exact ⟨_, ok_law_read T t hg, fun r hr => by rw [hr]; exact q⟩)) he) hr hg (he := he) (hpl := hpl)
theorem ok_fits (T : Told B) (t k : Tx) (ht : Good t) (hk : Good k) (i : Nat) (hi : i + k.ls.length ≤ t.ls.length) : Ok B 4 d_fits p_fits (spV [S t.un, .int (i : Nat), S k.un] fun r => r = .bool (fitB t k i)) := by
  refine ok_v (h_fits T) s_fits rfl fun c hr F hro => ?_
  have nd := s_fits.nd
  have ltl := ht.ls_len
  have lkl := hk.ls_len
  have hn : 1 ≤ k.ls.length := List.length_pos_iff.mpr hk.ls_ne
  have htm := t.ms_len
  have hkm := k.ms_len
  refine sws_cons (sw_par 3 4 (pw_dd (ew_steps T (ew_name 2 ⟨k, rfl, hk, ew_steps T (ew_name 0 ⟨t, rfl, ht, ?_⟩) (hr.mono (by decide))⟩) (hr.mono (by decide)))))
  refine sws_cons (sw_set 5 (ew_bin (ew_name 1 (ew_len (b_len T) (ew_name 3 (.inl ⟨_, .inl rfl, op_add_i ?_⟩))))))
  rw [List.length_map, ← Int.natCast_add]
  refine sws_cons (sw_if (bw_cmp rfl (ew_slice (ew_name 4 (ow_some (ew_name 1 ⟨_, rfl, ow_some (ew_name 5 ⟨_, rfl, sl_l (ew_name 3 ?_)⟩)⟩))))))
  rw [cut_seg, show i + k.ls.length - i = k.ls.length by omega, show ((sing t.ls).drop i).take k.ls.length = sing ((t.ls.drop i).take k.ls.length) by unfold sing; rw [List.map_take, List.map_drop]]
  refine op_ne_enc hr.units sing1_eqv 0 (by decide) (fun x hx => lay1 (ht.ls_W x (List.mem_of_mem_drop (List.mem_of_mem_take hx)))) (fun x hx => lay1 (hk.ls_W x hx)) ⟨_, rfl, fun z => ?_, fun z => sws_nil ?_⟩
  · have z : (t.ls.drop i).take k.ls.length ≠ k.ls := by simpa using z
    refine sws_one (sw_ret (ew_bl ?_))
    unfold fitB; rw [decide_eq_false z]; rfl
  have z1 : (t.ls.drop i).take k.ls.length = k.ls := by simpa using z
  refine sws_cons (sw_asg (ew_tup (aw_cons ?_)))
  refine ew_marks T (ew_name 2 ⟨k, rfl, hk, aw_cons ?_⟩) (hr.mono (by decide))
  refine ew_slice (ew_marks T (ew_name 0 ⟨t, rfl, ht, ?_⟩) (hr.mono (by decide)))
  refine ow_some (ew_name 1 ⟨_, rfl, ow_some (ew_bin (ew_name 5 (ew_int (op_add_i ⟨_, rfl, sl_l ?_⟩))))⟩)
  refine aw_nil (tw_tup (tws_cons (tw_name 6 (tws_cons (tw_name 7 (tws_nil ?_))))))
  rw [show ((i + k.ls.length : Nat) : Int) + 1 = ((i + k.ls.length + 1 : Nat) : Int) by omega, cut_seg, show i + k.ls.length + 1 - i = k.ls.length + 1 by omega, show ((t.ms.map S).drop i).take (k.ls.length + 1) = ((t.ms.drop i).take (k.ls.length + 1)).map S by rw [List.map_take, List.map_drop]]
  have es := seg_mid t.ms i k.ls.length (by omega) hn
  have eh : ((t.ms.drop i).take (k.ls.length + 1))[0]? = some (t.ms.getD i []) := by
    rw [List.getElem?_take_of_lt (by omega), List.getElem?_drop, Nat.add_zero, List.getD_eq_getElem?_getD, List.getElem?_eq_getElem (by omega)]; rfl
  have el : ((t.ms.drop i).take (k.ls.length + 1)).getLast? = some (t.ms.getD (i + k.ls.length) []) := by
    rw [List.getLast?_eq_getElem?, List.length_take, List.length_drop, Nat.min_eq_left (by omega), Nat.add_sub_cancel, List.getElem?_take_of_lt (by omega), List.getElem?_drop, List.getD_eq_getElem?_getD, List.getElem?_eq_getElem (by omega)]; rfl
  have ew : ∀ m ∈ ((t.ms.drop i).take (k.ls.length + 1)), m ∈ t.ms := fun m hm => List.mem_of_mem_drop (List.mem_of_mem_take hm)
  revert es eh el ew
  generalize (t.ms.drop i).take (k.ls.length + 1) = sg
  intro es eh el ew
  have ek0 : k.ms[0]? = some (k.ms.headD []) := rfl
  have ekl : k.ms.getLast? = some (k.ms.getLastD []) := by
    cases e : k.ms with
    | nil => rw [e] at hkm; simp at hkm
    | cons a l => simp [List.getLastD, List.getLast?]
  refine sws_cons (sw_if (bw_cmp rfl (ew_slice (ew_name 6 (ow_some (ew_int ⟨_, rfl, ow_some (ew_neg ⟨_, rfl, sl_l (ew_slice (ew_name 7 (ow_some (ew_int ⟨_, rfl, ow_some (ew_neg ⟨_, rfl, sl_l ?_⟩)⟩))))⟩)⟩))))))
  rw [cut_mid, cut_mid, ← List.map_tail, ← List.map_dropLast, ← List.map_tail, ← List.map_dropLast]
  refine op_ne_enc hr.units eqv_s 0 (by decide) (fun x hx => layD (hk.mks x (List.mem_of_mem_tail (List.dropLast_subset _ hx)))) (fun x hx => layD (ht.mks x (ew x (List.mem_of_mem_tail (List.dropLast_subset _ hx))))) ⟨_, rfl, fun z => ?_, fun z => sws_nil ?_⟩
  · have z : k.ms.tail.dropLast ≠ sg.tail.dropLast := by simpa using z
    rw [es] at z
    refine sws_one (sw_ret (ew_bl ?_))
    unfold fitB; rw [decide_eq_true z1, decide_eq_false z]; rfl
  have z2 : k.ms.tail.dropLast = sg.tail.dropLast := by simpa using z
  rw [es] at z2
  have l0 := hk.m_len _ (List.mem_of_getElem? ek0)
  have ll := hk.m_len _ (List.mem_of_getLast? ekl)
  have fin : ∀ b1 b2 : Bool, b1 = (k.ms.headD []).all (fun d => decide (d ∈ t.ms.getD i [])) → b2 = (k.ms.getLastD []).all (fun d => decide (d ∈ t.ms.getD (i + k.ls.length) [])) → fitB t k i = (b1 && b2) := fun b1 b2 e1 e2 => by
    unfold fitB; rw [decide_eq_true z1, decide_eq_true z2, e1, e2]; rfl
  refine sws_one (sw_ret (ew_and (ew_allc (k.ms.headD []) (fun d => decide (d ∈ t.ms.getD i [])) (b_all T) (ew_lcn [("digit", 8)] 8 (k.ms.headD []) (fun c => S [c]) (fun d => .bool (decide (d ∈ t.ms.getD i []))) (iw_str (ew_ix (ew_name 6 (ew_int (ix_l (d := S (k.ms.headD [])) ?_ ⟨_, rfl, rfl, by omega, fun x hx s1 H1 C1 cl1 fp1 => ?_, rfl, _, rfl, fun zt => ?_, fun zf => ?_⟩)))))))))
  · rw [show ((0 : Int)) = ((0 : Nat) : Int) from rfl, atI_nat, List.getElem?_map, ek0]; rfl
  · refine ew_cmp rfl (ew_name 8 (ew_ix (ew_name 7 (ew_int (ix_l (d := S (t.ms.getD i [])) ?_ (op_in_c rfl))))))
    rw [show ((0 : Int)) = ((0 : Nat) : Int) from rfl, atI_nat, List.getElem?_map, eh]; rfl
  · refine ew_one (ew_allc (k.ms.getLastD []) (fun d => decide (d ∈ t.ms.getD (i + k.ls.length) [])) (b_all T) (ew_lcn [("digit", 8)] 8 (k.ms.getLastD []) (fun c => S [c]) (fun d => .bool (decide (d ∈ t.ms.getD (i + k.ls.length) []))) (iw_str (ew_ix (ew_name 6 (ew_neg (ix_l (d := S (k.ms.getLastD [])) ?_ ⟨_, rfl, rfl, by omega, fun x hx s1 H1 C1 cl1 fp1 => ?_, rfl, ?_⟩)))))))
    · rw [atI_last, List.getLast?_map, ekl]; rfl
    · refine ew_cmp rfl (ew_name 8 (ew_ix (ew_name 7 (ew_neg (ix_l (d := S (t.ms.getD (i + k.ls.length) [])) ?_ (op_in_c rfl))))))
      rw [atI_last, List.getLast?_map, el]; rfl
    · rw [fin _ _ rfl rfl, zt]; rfl
  · rw [fin _ _ rfl rfl, zf]; rfl
end K78
/-! K78: walks: the law's fits, bridges. -/
namespace K78
open PySem PySem.Spec L2
variable {B : Bs}
theorem ok_law_fits (T : Told B) (t k : Tx) (ht : Good t) (hk : Good k) (i : Nat) (hi : i + k.ls.length ≤ t.ls.length) : Ok B 2 d_law_fits p_law_fits (spV [S t.un, .int (i : Nat), S k.un] fun r => r = .bool (fitB t k i)) := by
  refine ok_v (h_law_fits T) s_law_fits rfl fun c hr F hro => ?_
  have nd := s_law_fits.nd
  have ltl := ht.ls_len
  have lkl := hk.ls_len
  have hn : 1 ≤ k.ls.length := List.length_pos_iff.mpr hk.ls_ne
  have htm := t.ms_len
  have hkm := k.ms_len
  refine sws_cons (sw_asg (ew_tup (aw_cons ?_)))
  refine ew_lread T (ew_name 0 ⟨t, rfl, ht, aw_cons ?_⟩) (hr.mono (by decide))
  refine ew_lread T (ew_name 2 ⟨k, rfl, hk, aw_nil ?_⟩) (hr.mono (by decide))
  refine tw_tup (tws_cons (tw_tup (tws_cons (tw_name 3 (tws_cons (tw_name 4 (tws_nil ?_)))))))
  refine tws_cons (tw_tup (tws_cons (tw_name 5 (tws_cons (tw_name 6 (tws_nil (tws_nil ?_)))))))
  refine sws_cons (sw_set 7 (ew_bin (ew_name 1 (ew_len (b_len T) (ew_name 5 (.inl ⟨_, .inl rfl, op_add_i ?_⟩))))))
  rw [List.length_map, ← Int.natCast_add]
  have eh : t.ms[i]? = some (t.ms.getD i []) := by rw [List.getD_eq_getElem?_getD, List.getElem?_eq_getElem (by omega)]; rfl
  have el : t.ms[i + k.ls.length]? = some (t.ms.getD (i + k.ls.length) []) := by rw [List.getD_eq_getElem?_getD, List.getElem?_eq_getElem (by omega)]; rfl
  have ek0 : k.ms[0]? = some (k.ms.headD []) := rfl
  have ekl : k.ms.getLast? = some (k.ms.getLastD []) := by
    cases e : k.ms with
    | nil => rw [e] at hkm; simp at hkm
    | cons a l => simp [List.getLastD, List.getLast?]
  refine sws_cons (sw_if (bw_w (bww_or (bw_cmp rfl (ew_name 1 (ew_int (op_lt_i ⟨_, rfl, fun z => ?_, fun _ => ?_⟩)))))))
  · exact absurd (of_decide_eq_true z) (by omega)
  refine bww_or (bw_cmp rfl (ew_slice (ew_name 3 (ow_some (ew_name 1 ⟨_, rfl, ow_some (ew_name 7 ⟨_, rfl, sl_l (ew_name 5 ?_)⟩)⟩)))))
  rw [cut_seg, show i + k.ls.length - i = k.ls.length by omega, show ((sing t.ls).drop i).take k.ls.length = sing ((t.ls.drop i).take k.ls.length) by unfold sing; rw [List.map_take, List.map_drop]]
  refine op_ne_enc hr.units sing1_eqv 0 (by decide) (fun x hx => lay1 (ht.ls_W x (List.mem_of_mem_drop (List.mem_of_mem_take hx)))) (fun x hx => lay1 (hk.ls_W x hx)) ⟨_, rfl, fun z => ?_, fun z => ?_⟩
  · have z : (t.ls.drop i).take k.ls.length ≠ k.ls := by simpa using z
    refine ⟨fun _ => sws_one (sw_ret (ew_bl ?_)), fun y => (by cases y)⟩
    unfold fitB; rw [decide_eq_false z]; rfl
  have z1 : (t.ls.drop i).take k.ls.length = k.ls := by simpa using z
  refine bww_or1 (bw_cmp rfl (ew_slice (ew_name 4 (ow_some (ew_bin (ew_name 1 (ew_int (op_add_i ⟨_, rfl, ow_some (ew_name 7 ⟨_, rfl, sl_l (ew_slice (ew_name 6 (ow_some (ew_int ⟨_, rfl, ow_some (ew_neg ⟨_, rfl, sl_l ?_⟩)⟩))))⟩)⟩))))))))
  rw [show ((i : Nat) : Int) + 1 = ((i + 1 : Nat) : Int) by omega, cut_seg, show i + k.ls.length - (i + 1) = k.ls.length - 1 by omega, cut_mid, ← List.map_tail, ← List.map_dropLast, show ((t.ms.map S).drop (i + 1)).take (k.ls.length - 1) = ((t.ms.drop (i + 1)).take (k.ls.length - 1)).map S by rw [List.map_take, List.map_drop]]
  refine op_ne_enc hr.units eqv_s 0 (by decide) (fun x hx => layD (ht.mks x (List.mem_of_mem_drop (List.mem_of_mem_take hx)))) (fun x hx => layD (hk.mks x (List.mem_of_mem_tail (List.dropLast_subset _ hx)))) ⟨_, rfl, fun z => ?_, fun z => sws_nil ?_⟩
  · have z : (t.ms.drop (i + 1)).take (k.ls.length - 1) ≠ k.ms.tail.dropLast := by simpa using z
    refine sws_one (sw_ret (ew_bl ?_))
    unfold fitB; rw [decide_eq_true z1, decide_eq_false (fun y => z y.symm)]; rfl
  have z2 : k.ms.tail.dropLast = (t.ms.drop (i + 1)).take (k.ls.length - 1) := by
    have z : (t.ms.drop (i + 1)).take (k.ls.length - 1) = k.ms.tail.dropLast := by simpa using z
    exact z.symm
  have l0 := hk.m_len _ (List.mem_of_getElem? ek0)
  have ll := hk.m_len _ (List.mem_of_getLast? ekl)
  have fin : ∀ b1 b2 : Bool, b1 = (k.ms.headD []).all (fun d => decide (d ∈ t.ms.getD i [])) → b2 = (k.ms.getLastD []).all (fun d => decide (d ∈ t.ms.getD (i + k.ls.length) [])) → fitB t k i = (b1 && b2) := fun b1 b2 e1 e2 => by
    unfold fitB; rw [decide_eq_true z1, decide_eq_true z2, e1, e2]; rfl
  refine sws_one (sw_ret (ew_and (ew_allc (k.ms.headD []) (fun d => decide (d ∈ t.ms.getD i [])) (b_all T) (ew_lcn [("_law_d", 8)] 8 (k.ms.headD []) (fun c => S [c]) (fun d => .bool (decide (d ∈ t.ms.getD i []))) (iw_str (ew_ix (ew_name 6 (ew_int (ix_l (d := S (k.ms.headD [])) ?_ ⟨_, rfl, rfl, by omega, fun x hx s1 H1 C1 cl1 fp1 => ?_, rfl, _, rfl, fun zt => ?_, fun zf => ?_⟩)))))))))
  · rw [show ((0 : Int)) = ((0 : Nat) : Int) from rfl, atI_nat, List.getElem?_map, ek0]; rfl
  · refine ew_cmp rfl (ew_name 8 (ew_ix (ew_name 4 (ew_name 1 (ix_l (d := S (t.ms.getD i [])) ?_ (op_in_c rfl))))))
    rw [atI_nat, List.getElem?_map, eh]; rfl
  · refine ew_one (ew_allc (k.ms.getLastD []) (fun d => decide (d ∈ t.ms.getD (i + k.ls.length) [])) (b_all T) (ew_lcn [("_law_d", 8)] 8 (k.ms.getLastD []) (fun c => S [c]) (fun d => .bool (decide (d ∈ t.ms.getD (i + k.ls.length) []))) (iw_str (ew_ix (ew_name 6 (ew_neg (ix_l (d := S (k.ms.getLastD [])) ?_ ⟨_, rfl, rfl, by omega, fun x hx s1 H1 C1 cl1 fp1 => ?_, rfl, ?_⟩)))))))
    · rw [atI_last, List.getLast?_map, ekl]; rfl
    · refine ew_cmp rfl (ew_name 8 (ew_ix (ew_name 4 (ew_name 7 (ix_l (d := S (t.ms.getD (i + k.ls.length) [])) ?_ (op_in_c rfl))))))
      rw [atI_nat, List.getElem?_map, el]; rfl
    · rw [fin _ _ rfl rfl, zt]; rfl
  · rw [fin _ _ rfl rfl, zf]; rfl
/-! ### bridges -/
def spots (t k : Tx) : List Nat := (List.range (t.ls.length + 1 - k.ls.length)).filter (fitB t k)
def brs (t : Tx) (ks : List Tx) : List (Nat × Nat × Nat) := ks.zipIdx.flatMap fun p => (spots t p.1).map fun i => (p.2, i, i + p.1.ls.length)
def enc3 (b : Nat × Nat × Nat) : PyData := .tuple [.int (b.1 : Nat), .int (b.2.1 : Nat), .int (b.2.2 : Nat)]
theorem flat_take {α β : Type} (f : α → List β) {xs : List α} {i : Nat} {x : α} (h : xs[i]? = some x) : (xs.take (i + 1)).flatMap f = (xs.take i).flatMap f ++ f x := by
  rw [List.take_add_one, h, List.flatMap_append]; simp
theorem spots_len (t k : Tx) : (spots t k).length ≤ t.ls.length + 1 := by
  have := List.length_filter_le (fitB t k) (List.range (t.ls.length + 1 - k.ls.length))
  rw [List.length_range] at this
  unfold spots; omega
theorem ok_line_bridges (T : Told B) (t : Tx) (ks : List Tx) (ht : Good t) (hk : ∀ k ∈ ks, Good k) (hz : ks.length ≤ 20) : Ok B 5 d_line_bridges p_line_bridges (spV [.list (ks.map fun k => S k.un), S t.un] fun r => r = .list ((brs t ks).map enc3)) := by
  refine ok_v (h_line_bridges T) s_line_bridges rfl fun c hr F hro => ?_
  have nd := s_line_bridges.nd
  have ltl := ht.ls_len
  refine sws_cons (sw_par 2 3 (pw_ld (aw_nil (ew_len (b_len T) (ew_steps T (ew_name 1 ⟨t, rfl, ht, .inl ⟨_, .inl rfl, ?_⟩⟩) (hr.mono (by decide)))))))
  rw [List.length_map]
  refine sws_cons (sw_forM ks.zipIdx (fun p => .tuple [.int (p.2 : Nat), S p.1.un]) (fun i ε => ((ks.zipIdx.take i).flatMap fun p => (spots t p.1).map fun i => (p.2, i, i + p.1.ls.length)).length ≤ 101 * i ∧ ∃ s1 s2 s3, ε = [.dat (.list (ks.map fun k => S k.un)), .dat (S t.un), .lst (((ks.zipIdx.take i).flatMap fun p => (spots t p.1).map fun i => (p.2, i, i + p.1.ls.length)).map enc3), .dat (.int (t.ls.length : Nat)), s1, s2, s3, .un]) (iw_enum (b_enumerate T) (ew_name 0 ⟨_, rfl, enum_map ks _⟩)) ⟨Nat.le_refl _, _, _, _, rfl⟩ ?_ ?_)
  · rintro i p ε' hp ⟨hl, s1, s2, s3, rfl⟩
    have hp0 := hp
    have hp := zipIdx_at (List.mem_of_getElem? hp)
    have hi : i < ks.length := by have := (List.getElem?_eq_some_iff.mp hp0).1; rw [List.length_zipIdx] at this; exact this
    have hkp := hk p.1 (List.mem_of_getElem? hp)
    have lkl := hkp.ls_len
    have nxt := flat_take (fun p : Tx × Nat => (spots t p.1).map fun i => (p.2, i, i + p.1.ls.length)) hp0
    have hsp := spots_len t p.1
    revert nxt hl
    generalize ((ks.zipIdx.take i).flatMap fun p => (spots t p.1).map fun i => (p.2, i, i + p.1.ls.length)) = acc
    intro hl nxt
    refine tw_tup (tws_cons (tw_name 4 (tws_cons (tw_name 5 (tws_nil ?_)))))
    refine sws_cons (sw_set 6 (ew_len (b_len T) (ew_steps T (ew_name 5 ⟨p.1, rfl, hkp, .inl ⟨_, .inl rfl, ?_⟩⟩) (hr.mono (by decide)))))
    rw [List.length_map]
    refine sws_one (sw_extend 2 rfl ?_)
    refine ew_lct [("i", 7)] 7 (List.range (t.ls.length + 1 - p.1.ls.length)) (fun i => .int (i : Nat)) (fun i => enc3 (p.2, i, i + p.1.ls.length)) (fitB t p.1) ?_
    refine iw_range1 (b_range T) (ew_bin (ew_bin (ew_name 3 (ew_name 6 (op_sub_i (ew_int (op_add_i ⟨((t.ls.length : Nat) : Int) - ((p.1.ls.length : Nat) : Int) + 1, rfl, by omega, by omega, ?_, ?_, fun x hx s1 H1 C1 cl1 fp1 => ?_, ?_⟩)))))))
    · rw [show (((t.ls.length : Nat) : Int) - ((p.1.ls.length : Nat) : Int) + 1).toNat = t.ls.length + 1 - p.1.ls.length by omega]
    · rw [List.length_range]; omega
    · have hx := List.mem_range.mp hx
      refine bw_val (ew_callJ (h_fits T) (g_fits T) (aw_cons (ew_name 1 (aw_cons (ew_name 7 (aw_cons (ew_name 5 (aw_nil ⟨_, ok_fits T t p.1 ht hkp x (by omega), fun r hr => ⟨_, hr, rfl, fun _ s3 H3 C3 cl3 fp3 => ?_⟩⟩))))))))
      refine ew_tup (aw_cons (ew_name 4 (aw_cons (ew_name 7 (aw_cons (ew_bin (ew_name 7 (ew_name 6 (op_add_i (aw_nil ?_))))))))))
      unfold enc3; simp
    · refine ⟨_, rfl, ?_, ?_⟩
      · show _ + ((spots t p.1).map _).length ≤ _
        rw [List.length_map, List.length_map]; omega
      · refine ⟨?_, .dat (.int (p.2 : Nat)), .dat (S p.1.un), .dat (.int (p.1.ls.length : Nat)), ?_⟩
        · rw [nxt, List.length_append, List.length_map]; omega
        · rw [nxt, List.map_append, List.map_map]; rfl
  · rintro ε' ⟨hl, s1, s2, s3, rfl⟩
    rw [List.take_length]
    exact sws_freeze 2 (sws_one (sw_ret (ew_name 2 rfl)))
end K78
/-! K78: plain: costs, their passes. -/
namespace K78
/-! ### tables told by a code -/
section
variable {κ κ' α β : Type} [DecidableEq κ] [DecidableEq κ']
theorem valG_enc (f : κ → κ') (g : α → β) (hf : ∀ a b, f a = f b → a = b) (k : κ) : ∀ kvs : List (κ × α), valG (kvs.map fun p => (f p.1, g p.2)) (f k) = (valG kvs k).map g
  | [] => rfl
  | p :: r => by
    rw [List.map_cons, valG_cons, valG_cons, valG_enc f g hf k r]
    by_cases e : p.1 = k
    · rw [if_pos e, if_pos (congrArg f e)]; rfl
    · rw [if_neg e, if_neg (fun z => e (hf _ _ z))]
theorem putG_enc (f : κ → κ') (g : α → β) (hf : ∀ a b, f a = f b → a = b) (k : κ) (v : α) (kvs : List (κ × α)) : putG (kvs.map fun p => (f p.1, g p.2)) (f k) (g v) = (putG kvs k v).map fun p => (f p.1, g p.2) := by
  unfold putG
  have e : ((kvs.map fun p => (f p.1, g p.2)).any fun kv => decide (kv.1 = f k)) = (kvs.any fun kv => decide (kv.1 = k)) := by
    rw [List.any_map]
    refine congrArg (List.any kvs) (funext fun p => ?_)
    show decide (f p.1 = f k) = decide (p.1 = k)
    by_cases e : p.1 = k
    · rw [decide_eq_true e, decide_eq_true (congrArg f e)]
    · rw [decide_eq_false e, decide_eq_false (fun z => e (hf _ _ z))]
  rw [e]
  split
  · rw [List.map_map, List.map_map]
    refine List.map_congr_left fun p _ => ?_
    show (if f p.1 = f k then (f p.1, g v) else (f p.1, g p.2)) = (f (if p.1 = k then (p.1, v) else p).1, g (if p.1 = k then (p.1, v) else p).2)
    by_cases e : p.1 = k
    · rw [if_pos e, if_pos (congrArg f e)]
    · rw [if_neg e, if_neg (fun z => e (hf _ _ z))]
  · rw [List.map_append]; rfl
theorem keys_put {kvs : List (κ × α)} {k : κ} {v : α} (h : (kvs.map (·.1)).Nodup) : ((putG kvs k v).map (·.1)).Nodup := by
  rw [putG_keys]
  split
  · exact h
  · rename_i c
    rw [List.nodup_append]
    exact ⟨h, by simp, fun a ha b hb => by rw [List.mem_singleton] at hb; subst hb; intro z; subst z; exact c ((valG_some_iff kvs a).mpr ha)⟩
theorem mem_put {kvs : List (κ × α)} {k j : κ} {v : α} : j ∈ (putG kvs k v).map (·.1) ↔ j = k ∨ j ∈ kvs.map (·.1) := by
  rw [← valG_some_iff, valG_put, ← valG_some_iff]
  by_cases c : j = k
  · rw [if_pos c]; simp [c]
  · rw [if_neg c]; simp [c]
end
/-! ### costs -/
abbrev Cost := Nat × Nat
def LtC (a b : Cost) : Prop := a.1 < b.1 ∨ (a.1 = b.1 ∧ a.2 < b.2)
instance : DecidableRel LtC := fun a b => inferInstanceAs (Decidable (_ ∨ _))
theorem LtC.trans {a b c : Cost} (h : LtC a b) (k : LtC b c) : LtC a c := by unfold LtC at *; omega
theorem LtC.irr {a : Cost} (h : LtC a a) : False := by unfold LtC at h; omega
/-- the table of costs, the table of where one came from -/
abbrev LS (α : Type) := List (Nat × Cost) × List (Nat × (Nat × α))
section
variable {α : Type}
def lead (s : LS α) (here there : Nat) (pr : α) (backs : Nat) : Bool × LS α :=
  match valG s.1 here with
  | none => (false, s)
  | some c => match valG s.1 there with
    | none => (true, (putG s.1 there (c.1 + backs, c.2 + 1), putG s.2 there (here, pr)))
    | some d => if LtC (c.1 + backs, c.2 + 1) d then (true, (putG s.1 there (c.1 + backs, c.2 + 1), putG s.2 there (here, pr))) else (false, s)
theorem lead_false {s : LS α} {here there : Nat} {pr : α} {backs : Nat} (h : (lead s here there pr backs).1 = false) : (lead s here there pr backs).2 = s := by
  unfold lead at *
  split
  · rfl
  · rename_i c e
    rw [e] at h
    split
    · rename_i e2; rw [e2] at h; cases h
    · rename_i d e2
      rw [e2] at h
      by_cases l : LtC (c.1 + backs, c.2 + 1) d
      · simp only [if_pos l] at h; cases h
      · rw [if_neg l]
theorem lead_true {s : LS α} {here there : Nat} {pr : α} {backs : Nat} (h : (lead s here there pr backs).1 = true) : ∃ c, valG s.1 here = some c ∧ (lead s here there pr backs).2 = (putG s.1 there (c.1 + backs, c.2 + 1), putG s.2 there (here, pr)) ∧ ∀ d, valG s.1 there = some d → LtC (c.1 + backs, c.2 + 1) d := by
  unfold lead at *
  cases e : valG s.1 here with
  | none => rw [e] at h; cases h
  | some c =>
    rw [e] at h
    refine ⟨c, rfl, ?_⟩
    cases e2 : valG s.1 there with
    | none => rw [e2] at h; exact ⟨rfl, fun d z => by cases z⟩
    | some d =>
      rw [e2] at h
      by_cases l : LtC (c.1 + backs, c.2 + 1) d
      · simp only [if_pos l]; exact ⟨trivial, fun d' z => by cases z; exact l⟩
      · simp only [if_neg l] at h; cases h
/-- a place that is known stays known -/
theorem lead_keys {s : LS α} {here there : Nat} {pr : α} {backs : Nat} {k : Nat} : (valG s.1 k).isSome = true → (valG (lead s here there pr backs).2.1 k).isSome = true := fun h => by
  cases e : (lead s here there pr backs).1 with
  | false => rw [lead_false e]; exact h
  | true =>
    obtain ⟨c, e1, e2, _⟩ := lead_true e
    rw [e2]
    show (valG (putG _ _ _) k).isSome = true
    rw [valG_put]
    split
    · rfl
    · exact h
/-- where no lead helps, both ends are known -/
theorem lead_closed {s : LS α} {here there : Nat} {pr : α} {backs : Nat} (h : (lead s here there pr backs).1 = false) (k : (valG s.1 here).isSome = true) : (valG s.1 there).isSome = true := by
  unfold lead at h
  cases e : valG s.1 here with
  | none => rw [e] at k; cases k
  | some c =>
    rw [e] at h
    cases e2 : valG s.1 there with
    | none => rw [e2] at h; cases h
    | some d => rfl
/-! ### reach -/
inductive Rch (br : List (Nat × Nat × Nat)) : Nat → Prop
  | zero : Rch br 0
  | on {b} : b ∈ br → Rch br b.2.1 → Rch br b.2.2
  | back {b} : b ∈ br → Rch br b.2.2 → Rch br b.2.1
/-- what holds of the tables -/
structure LInv (br : List (Nat × Nat × Nat)) (L : Nat) (s : LS α) : Prop where
  nd : (s.1.map (·.1)).Nodup
  nd2 : (s.2.map (·.1)).Nodup
  z : valG s.1 0 = some (0, 0)
  r : ∀ k, (valG s.1 k).isSome = true → k ≤ L ∧ Rch br k
  r2 : ∀ k, (valG s.2 k).isSome = true → (valG s.1 k).isSome = true
  c : ∀ k d, k ≠ 0 → valG s.1 k = some d → ∃ h pr e, valG s.2 k = some (h, pr) ∧ valG s.1 h = some e ∧ LtC e d
theorem lead_inv {br : List (Nat × Nat × Nat)} {L : Nat} {s : LS α} {here there : Nat} {pr : α} {backs : Nat} (I : LInv br L s) (hL : there ≤ L) (hr : Rch br here → Rch br there) : LInv br L (lead s here there pr backs).2 := by
  cases e : (lead s here there pr backs).1 with
  | false => rw [lead_false e]; exact I
  | true =>
    obtain ⟨c, e1, e2, e3⟩ := lead_true e
    rw [e2]
    have hne : there ≠ 0 := fun z => by
      subst z
      have := e3 _ I.z
      unfold LtC at this; omega
    have hnh : here ≠ there := fun z => by
      subst z
      have := e3 _ e1
      unfold LtC at this; simp only at this; omega
    refine ⟨keys_put I.nd, keys_put I.nd2, ?_, fun k h => ?_, fun k h => ?_, fun k d h0 h => ?_⟩
    · show valG (putG _ _ _) 0 = _
      rw [valG_put, if_neg (fun z => hne z.symm)]; exact I.z
    · have h : (valG (putG s.1 there (c.1 + backs, c.2 + 1)) k).isSome = true := h
      rw [valG_put] at h
      by_cases ck : k = there
      · subst ck; exact ⟨hL, hr (I.r here (by rw [e1]; rfl)).2⟩
      · rw [if_neg ck] at h; exact I.r k h
    · have h : (valG (putG s.2 there (here, pr)) k).isSome = true := h
      show (valG (putG s.1 there (c.1 + backs, c.2 + 1)) k).isSome = true
      rw [valG_put] at h ⊢
      by_cases ck : k = there
      · rw [if_pos ck]; rfl
      · rw [if_neg ck] at h ⊢; exact I.r2 k h
    · have h : valG (putG s.1 there (c.1 + backs, c.2 + 1)) k = some d := h
      show ∃ h' pr' e', valG (putG s.2 there (here, pr)) k = some (h', pr') ∧ valG (putG s.1 there (c.1 + backs, c.2 + 1)) h' = some e' ∧ LtC e' d
      rw [valG_put] at h
      by_cases ck : k = there
      · rw [if_pos ck] at h
        cases h
        refine ⟨here, pr, c, by rw [valG_put, if_pos ck], by rw [valG_put, if_neg hnh]; exact e1, ?_⟩
        unfold LtC; simp only; omega
      · rw [if_neg ck] at h
        obtain ⟨h', pr', e', q1, q2, q3⟩ := I.c k d h0 h
        by_cases ch : h' = there
        · subst ch
          exact ⟨h', pr', _, by rw [valG_put, if_neg ck]; exact q1, by rw [valG_put, if_pos rfl], (e3 _ q2).trans q3⟩
        · exact ⟨h', pr', e', by rw [valG_put, if_neg ck]; exact q1, by rw [valG_put, if_neg ch]; exact q2, q3⟩
/-! ### a pass, and that they end -/
variable (on back : Nat → α)
def turnL (acc : Bool × LS α) (b : Nat × Nat × Nat) : Bool × LS α :=
  let r1 := lead acc.2 b.2.1 b.2.2 (on b.1) 0
  if r1.1 = true then (true, r1.2) else let r2 := lead r1.2 b.2.2 b.2.1 (back b.1) 1; (acc.1 || r2.1, r2.2)
def passL (br : List (Nat × Nat × Nat)) (s : LS α) : Bool × LS α := br.foldl (turnL on back) (false, s)
end
end K78
/-! K78: plain: the passes end. -/
namespace K78
/-! ### rows that shrink -/
def oPut : Option Cost → Nat × (Nat × Nat)
  | none => (1, (0, 0))
  | some c => (0, c)
def pLt (a b : Nat × (Nat × Nat)) : Prop := a.1 < b.1 ∨ (a.1 = b.1 ∧ (a.2.1 < b.2.1 ∨ (a.2.1 = b.2.1 ∧ a.2.2 < b.2.2)))
theorem pLt_wf : WellFounded pLt := by
  refine ⟨fun a => ?_⟩
  have key : ∀ x y z : Nat, Acc pLt (x, (y, z)) := by
    intro x
    induction x using Nat.strongRecOn with
    | _ x ihx =>
      intro y
      induction y using Nat.strongRecOn with
      | _ y ihy =>
        intro z
        induction z using Nat.strongRecOn with
        | _ z ihz =>
          refine ⟨_, fun b h => ?_⟩
          obtain ⟨b1, b2, b3⟩ := b
          rcases h with h | ⟨h1, h | ⟨h2, h3⟩⟩
          · exact ihx b1 h b2 b3
          · cases h1; exact ihy b2 h b3
          · cases h1; cases h2; exact ihz b3 h3
  exact key a.1 a.2.1 a.2.2
def oLt (a b : Option Cost) : Prop := pLt (oPut a) (oPut b)
theorem oLt_wf : WellFounded oLt := InvImage.wf oPut pLt_wf
inductive LexL {β : Type} (r : β → β → Prop) : List β → List β → Prop
  | head {a b : β} {xs ys : List β} : r a b → xs.length = ys.length → LexL r (a :: xs) (b :: ys)
  | tail {a : β} {xs ys : List β} : LexL r xs ys → LexL r (a :: xs) (a :: ys)
theorem LexL.len {β : Type} {r : β → β → Prop} {xs ys : List β} (h : LexL r xs ys) : xs.length = ys.length := by
  induction h with
  | head _ e => exact congrArg Nat.succ e
  | tail _ ih => exact congrArg Nat.succ ih
theorem lexL_wf {β : Type} {r : β → β → Prop} (w : WellFounded r) : WellFounded (LexL r) := by
  have key : ∀ n (xs : List β), xs.length = n → Acc (LexL r) xs := by
    intro n
    induction n with
    | zero =>
      intro xs h
      refine ⟨_, fun ys hy => ?_⟩
      have := hy.len
      rw [h] at this
      cases hy <;> cases this
    | succ n ih =>
      have step : ∀ a : β, ∀ xs : List β, xs.length = n → Acc (LexL r) (a :: xs) := by
        intro a
        induction a using w.induction with
        | _ a iha =>
          intro xs hl
          have acc := ih xs hl
          induction acc with
          | intro xs _ ihx =>
            refine ⟨_, fun ys hy => ?_⟩
            cases hy with
            | head hr e => exact iha _ hr _ (e.trans hl)
            | tail hr => exact ihx _ hr (hr.len.trans hl)
      intro xs h
      cases xs with
      | nil => cases h
      | cons a xs => exact step a xs (Nat.succ.inj h)
  exact ⟨fun xs => key _ xs rfl⟩
section
variable {α : Type}
def row (L : Nat) (s : LS α) : List (Option Cost) := (List.range (L + 1)).map fun k => valG s.1 k
def Less (L : Nat) (s' s : LS α) : Prop := LexL oLt (row L s') (row L s)
theorem less_wf (L : Nat) : WellFounded (Less (α := α) L) := InvImage.wf (row L) (lexL_wf oLt_wf)
theorem lexL_set {β : Type} {r : β → β → Prop} {f g : Nat → β} {t : Nat} (h : r (f t) (g t)) (e : ∀ k, k ≠ t → f k = g k) : ∀ (l : List Nat), t ∈ l → LexL r (l.map f) (l.map g)
  | [], ht => by cases ht
  | a :: l, ht => by
    rw [List.map_cons, List.map_cons]
    by_cases c : a = t
    · subst c; exact .head h (by simp)
    · rw [e a c]
      exact .tail (lexL_set h e l ((List.mem_cons.mp ht).resolve_left fun z => c z.symm))
theorem lead_less {L : Nat} {s : LS α} {here there : Nat} {pr : α} {backs : Nat} (hL : there ≤ L) (h : (lead s here there pr backs).1 = true) : Less L (lead s here there pr backs).2 s := by
  obtain ⟨c, e1, e2, e3⟩ := lead_true h
  rw [e2]
  refine lexL_set (t := there) ?_ (fun k hk => ?_) _ (List.mem_range.mpr (by omega))
  · show oLt (valG (putG _ _ _) there) (valG s.1 there)
    rw [valG_put, if_pos rfl]
    cases e : valG s.1 there with
    | none => exact .inl (by show (0 : Nat) < 1; decide)
    | some d =>
      have := e3 d e
      refine .inr ⟨rfl, ?_⟩
      exact this
  · show valG (putG _ _ _) k = valG s.1 k
    rw [valG_put, if_neg hk]
variable (on back : Nat → α)
/-- all that a part of a pass does -/
theorem turns_ok {br : List (Nat × Nat × Nat)} {L : Nat} (hbr : ∀ b ∈ br, b.2.1 ≤ L ∧ b.2.2 ≤ L) : ∀ (l : List (Nat × Nat × Nat)) (acc : Bool × LS α), (∀ b ∈ l, b ∈ br) → LInv br L acc.2 →
    LInv br L (l.foldl (turnL on back) acc).2 ∧ ((l.foldl (turnL on back) acc).1 = false → (l.foldl (turnL on back) acc).2 = acc.2 ∧ acc.1 = false ∧ ∀ b ∈ l, (lead acc.2 b.2.1 b.2.2 (on b.1) 0).1 = false ∧ (lead acc.2 b.2.2 b.2.1 (back b.1) 1).1 = false) ∧
    ((l.foldl (turnL on back) acc).1 = true → acc.1 = true ∨ Relation.TransGen (Less L) (l.foldl (turnL on back) acc).2 acc.2) ∧ ((l.foldl (turnL on back) acc).2 = acc.2 ∨ Relation.TransGen (Less L) (l.foldl (turnL on back) acc).2 acc.2)
  | [], acc, _, I => ⟨I, fun h => ⟨rfl, h, fun b hb => by cases hb⟩, fun h => .inl h, .inl rfl⟩
  | b :: l, acc, hl, I => by
    have hb := hl b (List.mem_cons_self ..)
    obtain ⟨b1, b2⟩ := hbr b hb
    have I1 : LInv br L (lead acc.2 b.2.1 b.2.2 (on b.1) 0).2 := lead_inv I b2 fun h => .on hb h
    have I2 : LInv br L (lead (lead acc.2 b.2.1 b.2.2 (on b.1) 0).2 b.2.2 b.2.1 (back b.1) 1).2 := lead_inv I1 b1 fun h => .back hb h
    rw [List.foldl_cons]
    cases e1 : (lead acc.2 b.2.1 b.2.2 (on b.1) 0).1 with
    | true =>
      have et : turnL on back acc b = (true, (lead acc.2 b.2.1 b.2.2 (on b.1) 0).2) := by unfold turnL; simp only [e1, if_true]
      have g1 := lead_less b2 e1
      obtain ⟨q1, q2, q3, q4⟩ := turns_ok hbr l (turnL on back acc b) (fun c hc => hl c (List.mem_cons_of_mem _ hc)) (by rw [et]; exact I1)
      rw [et] at q1 q2 q3 q4 ⊢
      have fin : Relation.TransGen (Less L) (l.foldl (turnL on back) (true, (lead acc.2 b.2.1 b.2.2 (on b.1) 0).2)).2 acc.2 := by
        rcases q4 with z | z
        · rw [z]; exact .single g1
        · exact z.tail g1
      exact ⟨q1, fun h => (by have := (q2 h).2.1; cases this), fun _ => .inr fin, .inr fin⟩
    | false =>
      have es := lead_false e1
      cases e2 : (lead acc.2 b.2.2 b.2.1 (back b.1) 1).1 with
      | true =>
        have et : turnL on back acc b = (true, (lead acc.2 b.2.2 b.2.1 (back b.1) 1).2) := by unfold turnL; simp only [e1, es, e2]; simp
        have g1 := lead_less b1 e2
        rw [es] at I2
        obtain ⟨q1, q2, q3, q4⟩ := turns_ok hbr l (turnL on back acc b) (fun c hc => hl c (List.mem_cons_of_mem _ hc)) (by rw [et]; exact I2)
        rw [et] at q1 q2 q3 q4 ⊢
        have fin : Relation.TransGen (Less L) (l.foldl (turnL on back) (true, (lead acc.2 b.2.2 b.2.1 (back b.1) 1).2)).2 acc.2 := by
          rcases q4 with z | z
          · rw [z]; exact .single g1
          · exact z.tail g1
        exact ⟨q1, fun h => (by have := (q2 h).2.1; cases this), fun _ => .inr fin, .inr fin⟩
      | false =>
        have es2 := lead_false e2
        have et : turnL on back acc b = acc := by unfold turnL; simp only [e1, es, e2, es2]; simp
        obtain ⟨q1, q2, q3, q4⟩ := turns_ok hbr l (turnL on back acc b) (fun c hc => hl c (List.mem_cons_of_mem _ hc)) (by rw [et]; exact I)
        rw [et] at q1 q2 q3 q4 ⊢
        exact ⟨q1, fun h => ⟨(q2 h).1, (q2 h).2.1, fun c hc => (List.mem_cons.mp hc).elim (fun z => by rw [z]; exact ⟨e1, e2⟩) ((q2 h).2.2 c)⟩, q3, q4⟩
/-- the passes end after so many -/
inductive Stops (br : List (Nat × Nat × Nat)) : Nat → LS α → Prop
  | now {s} : (passL on back br s).1 = false → Stops br 0 s
  | more {n s} : (passL on back br s).1 = true → Stops br n (passL on back br s).2 → Stops br (n + 1) s
theorem stops {br : List (Nat × Nat × Nat)} {L : Nat} (hbr : ∀ b ∈ br, b.2.1 ≤ L ∧ b.2.2 ≤ L) (s : LS α) : LInv br L s → ∃ n, Stops on back br n s := by
  induction s using (WellFounded.transGen (less_wf (α := α) L)).induction with
  | _ s ih =>
    intro I
    obtain ⟨q1, q2, q3, _⟩ := turns_ok on back hbr br (false, s) (fun _ h => h) I
    cases e : (passL on back br s).1 with
    | false => exact ⟨0, .now e⟩
    | true =>
      have g := (q3 e).resolve_left (by simp)
      obtain ⟨n, hn⟩ := ih _ g q1
      exact ⟨n + 1, .more e hn⟩
/-- what a pass that changes nothing tells -/
theorem pass_end {br : List (Nat × Nat × Nat)} {L : Nat} (hbr : ∀ b ∈ br, b.2.1 ≤ L ∧ b.2.2 ≤ L) {s : LS α} (I : LInv br L s) (h : (passL on back br s).1 = false) : (passL on back br s).2 = s ∧ ∀ k, Rch br k → (valG s.1 k).isSome = true := by
  obtain ⟨q1, q2, _, _⟩ := turns_ok on back hbr br (false, s) (fun _ h => h) I
  obtain ⟨e, _, cl⟩ := q2 h
  refine ⟨e, fun k hk => ?_⟩
  induction hk with
  | zero => rw [I.z]; rfl
  | on hb _ ih => exact lead_closed (cl _ hb).1 ih
  | back hb _ ih => exact lead_closed (cl _ hb).2 ih
theorem pass_inv {br : List (Nat × Nat × Nat)} {L : Nat} (hbr : ∀ b ∈ br, b.2.1 ≤ L ∧ b.2.2 ≤ L) {s : LS α} (I : LInv br L s) : LInv br L (passL on back br s).2 := (turns_ok on back hbr br (false, s) (fun _ h => h) I).1
end
end K78
/-! K78: __init__, C(..).m(..), methods at values. -/
namespace K78
open PySem PySem.Spec L2
/-! ### methods at values -/
abbrev spOV (C : Addr) (fl : List (Str × Fv)) (args : List PyData) (P : List (Str × Fv) → PyData → Prop) : Sp := spO C (fun fl0 ds => fl0 = fl ∧ ds = args) fun _ _ fl' r => P fl' r
abbrev spPV (C : Addr) (fl : List (Str × Fv)) (args : List PyData) (P : PyData → Prop) : Sp := spP C (fun fl0 ds => fl0 = fl ∧ ds = args) fun _ _ r => P r
/-- __init__ of a new object -/
def spI (C : Addr) (args : List PyData) (P : List (Str × Fv) → Prop) : Sp := fun vs H Q _ => ∃ Hb p dx vs', vs = .ref p :: vs' ∧ Same Hb H ∧ DtAll Hb vs' args ∧ H p = some (.ins C dx []) ∧ Hb p = none ∧
  ∀ Hb' H' ow' fl', Gr (· = p) Hb H Hb' H' → Ob Hb' H' ow' p C fl' → (∀ a, ow' a ≠ none → a = p ∨ H a = none) → P fl' → Q .non H'
section
variable {B : Bs} {k : Nat} {d : He.DefD} {N ps : List Str} {C : Addr} {args : List PyData}
theorem ok_ov {fl : List (Str × Fv)} {P : List (Str × Fv) → PyData → Prop} (h : ∃ fd, Has B d ps fd) (S : FnScope N ps d.scope) (hne : fl ≠ []) (hlen : args.length + 1 = ps.length)
    (body : ∀ c : Fr, Room k (cx B d N c).A → ∀ F p, ¬ F.ro → IsN F → SWs (cx B d N c) F d.body (env1 N (.obj p C fl) args) ⟨fun ε => ∃ fl', ε[0]? = some (.obj p C fl') ∧ P fl' .none, fun r ε => ∃ fl', ε[0]? = some (.obj p C fl') ∧ P fl' r, fun _ => False, fun _ => False⟩) : Ok B (k + 1) d ps (spOV C fl args P) :=
  ok_o h S (fun fl0 ds e => by rw [e.2]; exact hlen) (fun c hr F p fl0 ds hro hN _ e => by obtain ⟨rfl, rfl⟩ := e; exact body c hr F p hro hN) (.inl fun fl0 ds e => by rw [e.1]; exact hne)
theorem ok_pv {fl : List (Str × Fv)} {P : PyData → Prop} (h : ∃ fd, Has B d ps fd) (S : FnScope N ps d.scope) (hlen : args.length + 1 = ps.length)
    (body : ∀ c : Fr, Room k (cx B d N c).A → ∀ F p, IsN F → SWs (cx B d N c) F d.body (env1 N (.obj p C fl) args) ⟨fun _ => P .none, fun r _ => P r, fun _ => False, fun _ => False⟩) : Ok B (k + 1) d ps (spPV C fl args P) :=
  ok_p h S (fun fl0 ds e => by rw [e.2]; exact hlen) fun c hr F p fl0 ds hN e => by obtain ⟨rfl, rfl⟩ := e; exact body c hr F p hN
theorem ok_i {P : List (Str × Fv) → Prop} (h : ∃ fd, Has B d ps fd) (S : FnScope N ps d.scope) (hlen : args.length + 1 = ps.length)
    (body : ∀ c : Fr, Room k (cx B d N c).A → ∀ F p, ¬ F.ro → IsN F → IsInit F p → SWs (cx B d N c) F d.body (env1 N (.obj p C []) args) ⟨fun ε => ∃ fl', ε[0]? = some (.obj p C fl') ∧ P fl', fun _ _ => False, fun _ => False, fun _ => False⟩) : Ok B (k + 1) d ps (spI C args P) := by
  refine ok_of h S (fun vs H Q E ⟨Hb, p, dx, vs', e, s, r, _⟩ => by rw [e, List.length_cons, dta_len r]; exact hlen) fun c hr H vs Q ⟨Hb, p, dx, vs', e, s, r, hp, hb, q⟩ => ?_
  subst e
  have mH : ∀ a, a = p → H a ≠ none := fun a e => by rw [e, hp]; intro z; cases z
  refine body c hr (FO (· = p) False Hb H mH) p (fun z => z) ⟨rfl, rfl⟩ (fun a m => m) [] Hb H (L2.start N (.ref p :: vs')) (si_one (ow := fun a => if a = p then some (.sl 0 none) else none) ⟨fun a pl e => ?_, fun k a ds e => (by cases e)⟩ ⟨dx, [], rfl, if_pos rfl, hp, .nil, List.nodup_nil⟩ r (Gr.refl s) trivial) _ ⟨fun Hb' H' σ' ε' b S' ⟨fl', e, z⟩ => ?_, fun Hb' H' σ' ε' b S' z => z, fun Hb' H' σ' ε' b S' z => z, fun v d Hb' H' σ' ε' b S' rd z => z.elim⟩
  · by_cases c : a = p
    · subst c
      simp only [if_true] at e
      cases e
      exact ⟨hb, .inl ⟨⟨none, rfl⟩, .inl rfl⟩, fun z => z, by rw [hp]; intro z; cases z⟩
    · simp only [if_neg c] at e; cases e
  · obtain ⟨ow', o', w⟩ := ob_end S' e
    exact q Hb' H' ow' fl' S'.gr o' (fun a ha => (w a ha).imp (fun z => z.resolve_right fun f => f) fun z => z) z
end
/-! ### calls -/
section
variable {X : Cx} {F : Fm} {ε : Env} {R : ER} {a b e c o : Expr} {es : List Expr} {pos p p2 apos cpos pos' : Pos} {Q : PyData → Prop} {hd : Hid} {Hb H Hb' H' : Hp} {σ : L2.St} {x : Str} {k : Nat} {d' : He.DefD} {ps : List Str}
theorem xw_selfJ {C pp : Addr} {fl : List (Str × Fv)} {n m : Str} {QX : PyData → Env → Prop} (h : ∃ fd, Has (bsOf X) d' ps fd) (cl : Cls X.K C) (hm : Meth X.K C m (He.fAd X.K d'.at_)) (hF : IsN F)
    (ha : AW X F (e :: es) ε fun ds => ∃ P : List (Str × Fv) → PyData → Prop, Ok (bsOf X) k d' ps (spOV C fl ds P) ∧ ∀ fl' r, P fl' r → QX r (ε.set 0 (.obj pp C fl'))) (hε : ε[0]? = some (.obj pp C fl) := by rfl) (hlk : fl.lookup m = none := by rfl) (hro : ¬ F.ro := by assumption) (hr : Room k X.A := by exact Room.mono ‹_› (by decide)) (hN : X.N[0]? = some n := by rfl)
    (hv : Vis X.env.scope n := by first | exact Or.inl rfl | exact Or.inr (Or.inl rfl) | exact Or.inr (Or.inr rfl)) (hdg : (n == ("__debug__" : Str)) = false := by decide) (hcd : (n == ("__classdict__" : Str)) = false := by decide)
    (hst : starEach (e :: es) X.env = (false, eval e X.env) :: starEach es X.env := by rfl) (hpl : (backTo pos (starEach es X.env)).any (·.1) = false := by rfl)
    (ht : eval (.Call (.Attribute (.Name n p) m apos) (e :: es) [] pos) X.env = (do
      let ov ← eval (.Name n p) X.env
      standAt apos.atName
      let (f, first) ← holding [ov] (getMethod ov m (plainOf (.Name n p) X.env))
      callWith pos f first (backTo pos (starEach (e :: es) X.env)) (backToKw pos (keywordEach [] X.env))) := by rfl) : XW X F (.Call (.Attribute (.Name n p) m apos) (e :: es) [] pos) ε QX :=
  xw_self (f := C) (C := C) (pp := pp) (fl := fl) (Pre := fun fl0 ds => fl0 = fl ∧ ∃ P : List (Str × Fv) → PyData → Prop, Ok (bsOf X) k d' ps (spOV C fl ds P) ∧ ∀ fl' r, P fl' r → QX r (ε.set 0 (.obj pp C fl'))) (Post := fun _ _ fl' r => QX r (ε.set 0 (.obj pp C fl')))
    (Ok.join h fun vs H Q' E ⟨Hb, ow, p, fl0, vs', ds, e, s, r, o, ⟨e0, P, ok, q⟩, f⟩ => ⟨_, ok, Hb, ow, p, fl0, vs', ds, e, s, r, o, ⟨e0, rfl⟩, fun v d Hb' H' ow' fl' g o' w rd pd => f v d Hb' H' ow' fl' g o' w rd (q fl' d pd)⟩) cl hm hF (by
      intro hd Hb H σ S Q' kk
      exact ha hd Hb H σ S Q' fun vs ds Hb' H' S' g r l z => kk vs ds Hb' H' S' g r l ⟨⟨rfl, z⟩, fun fl' r hr => hr⟩) hε hlk hro hr hN hv hdg hcd hst hpl ht
theorem ew_selfJ {C pp : Addr} {fl : List (Str × Fv)} {n m : Str} (h : ∃ fd, Has (bsOf X) d' ps fd) (cl : Cls X.K C) (hm : Meth X.K C m (He.fAd X.K d'.at_))
    (ha : AW X F (e :: es) ε fun ds => ∃ P : PyData → Prop, Ok (bsOf X) k d' ps (spPV C fl ds P) ∧ ∀ r, P r → Q r) (hε : ε[0]? = some (.obj pp C fl) := by rfl) (hlk : fl.lookup m = none := by rfl) (hr : Room k X.A := by exact Room.mono ‹_› (by decide)) (hN : X.N[0]? = some n := by rfl)
    (hv : Vis X.env.scope n := by first | exact Or.inl rfl | exact Or.inr (Or.inl rfl) | exact Or.inr (Or.inr rfl)) (hdg : (n == ("__debug__" : Str)) = false := by decide) (hcd : (n == ("__classdict__" : Str)) = false := by decide)
    (hst : starEach (e :: es) X.env = (false, eval e X.env) :: starEach es X.env := by rfl) (hpl : (backTo pos (starEach es X.env)).any (·.1) = false := by rfl)
    (ht : eval (.Call (.Attribute (.Name n p) m apos) (e :: es) [] pos) X.env = (do
      let ov ← eval (.Name n p) X.env
      standAt apos.atName
      let (f, first) ← holding [ov] (getMethod ov m (plainOf (.Name n p) X.env))
      callWith pos f first (backTo pos (starEach (e :: es) X.env)) (backToKw pos (keywordEach [] X.env))) := by rfl) : EW X F (.Call (.Attribute (.Name n p) m apos) (e :: es) [] pos) ε Q :=
  ew_self (f := C) (C := C) (pp := pp) (fl := fl) (Pre := fun fl0 ds => fl0 = fl ∧ ∃ P : PyData → Prop, Ok (bsOf X) k d' ps (spPV C fl ds P) ∧ ∀ r, P r → Q r) (Post := fun _ _ r => Q r)
    (Ok.join h fun vs H Q' E ⟨Hb, ow, p, fl0, vs', ds, e, s, r, o, ⟨e0, P, ok, q⟩, f⟩ => ⟨_, ok, Hb, ow, p, fl0, vs', ds, e, s, r, o, ⟨e0, rfl⟩, fun v d Hb' H' g rd pd => f v d Hb' H' g rd (q d pd)⟩) cl hm (by
      intro hd Hb H σ S Q' kk
      exact ha hd Hb H σ S Q' fun vs ds Hb' H' S' g r l z => kk vs ds Hb' H' S' g r l ⟨⟨rfl, z⟩, fun r hr => hr⟩) hε hlk hr hN hv hdg hcd hst hpl ht
/-! ### C(..).m(..) -/
/-- lists of attributes become data -/
def frz1 (f : Str) (fl : List (Str × Fv)) : List (Str × Fv) := match fl.lookup f with | some (.lst ds) => putFl f (.dat (.list ds)) fl | _ => fl
theorem Ob.freeze {ow : Ow} {C pp : Addr} {fl : List (Str × Fv)} {H0 : Hp} (f : Str) (o : Ob Hb H ow pp C fl) (s : Same Hb H) (nw : ∀ a, ow a ≠ none → a = pp ∨ H0 a = none) (hp : ∃ dx fs, H pp = some (.ins C dx fs)) : ∃ Hb' ow', Ob Hb' H ow' pp C (frz1 f fl) ∧ Same Hb Hb' ∧ Same Hb' H ∧ (∀ a, H0 a ≠ none → Hb' a = Hb a) ∧ ∀ a, ow' a ≠ none → a = pp ∨ H0 a = none := by
  unfold frz1
  obtain ⟨dx, fs, e1, op, hpp, hfl, nd⟩ := o.s
  split
  · rename_i ds hf
    obtain ⟨v, hv', a, vs, rfl, oa, ha, r⟩ := fl_look hfl hf
    obtain ⟨a1, a2, x, a3⟩ := o.c a _ oa
    have npa : a ≠ pp := fun z => by rw [z, hpp] at ha; cases ha
    have a5 : H0 a = none := (nw a (by rw [oa]; intro z; cases z)).resolve_left npa
    have sm : Same Hb (upd Hb a (.lst vs)) := same_new a1
    have up : ∀ b q, ow b = some q → q ≠ .sl 0 (some f) → (fun b => if b = a then none else ow b) b = some q := fun b q e z => (if_neg (fun w => by rw [w, oa] at e; exact z (Option.some.inj e).symm)).trans e
    refine ⟨upd Hb a (.lst vs), fun b => if b = a then none else ow b, ⟨up _ _ op (by intro z; cases z), fun b pl e => ?_, dx, fs, rfl, up _ _ op (by intro z; cases z), hpp, ?_, putFl_nodup nd⟩, sm, fun b x e => ?_, fun b e => ?_, fun b e => ?_⟩
    · by_cases c : b = a
      · simp only [if_pos c] at e; cases e
      · obtain ⟨b1, b2, b3⟩ := o.c b pl (by simpa only [if_neg c] using e)
        exact ⟨by rw [upd_ne c]; exact b1, b2, b3⟩
    · have z := fl_put (f := f) (v := .ref a) (x := .dat (.list ds)) (Hb' := upd Hb a (.lst vs)) (H' := H) (ow' := fun b => if b = a then none else ow b) (show Dt _ _ _ from .lst upd_same (dta_mono sm r)) (fun g v y hg h => h.move sm (fun b q => up b _ q (by intro z; cases z; exact hg rfl)) fun b u q w => w) hfl nd
      rw [putF_same hv'] at z
      exact z
    · by_cases c : b = a
      · subst c; rw [upd_same] at e; rw [← e]; exact ha
      · rw [upd_ne c] at e; exact s b x e
    · rw [upd_ne]; intro z; subst z; exact e a5
    · by_cases c : b = a
      · simp only [if_pos c] at e; exact absurd rfl e
      · simp only [if_neg c] at e; exact nw b e
  · exact ⟨Hb, ow, o, Same.refl _, s, fun _ _ => rfl, nw⟩
def frzs (fs : List Str) (fl : List (Str × Fv)) : List (Str × Fv) := fs.foldl (fun fl f => frz1 f fl) fl
theorem Ob.freezes {C pp : Addr} {H0 : Hp} : ∀ (fs : List Str) {Hb H : Hp} {ow : Ow} {fl : List (Str × Fv)}, Ob Hb H ow pp C fl → Same Hb H → (∀ a, ow a ≠ none → a = pp ∨ H0 a = none) → (∃ dx fs, H pp = some (.ins C dx fs)) → ∃ Hb' ow', Ob Hb' H ow' pp C (frzs fs fl) ∧ Same Hb Hb' ∧ Same Hb' H ∧ (∀ a, H0 a ≠ none → Hb' a = Hb a) ∧ ∀ a, ow' a ≠ none → a = pp ∨ H0 a = none
  | [], Hb, H, ow, fl, o, s, nw, hp => ⟨Hb, ow, o, Same.refl _, s, fun _ _ => rfl, nw⟩
  | f :: fs, Hb, H, ow, fl, o, s, nw, hp => by
    obtain ⟨Hb1, ow1, o1, s1, t1, n1, w1⟩ := o.freeze f s nw hp
    obtain ⟨Hb2, ow2, o2, s2, t2, n2, w2⟩ := Ob.freezes fs o1 t1 w1 hp
    exact ⟨Hb2, ow2, o2, s1.trans s2, t2, fun a h => (n2 a h).trans (n1 a h), w2⟩
/-- the new object, made -/
theorem made_ok {C pp dx : Addr} (S : SI F hd Hb H σ ε) (h1 : H pp = none) (h2 : H dx = none) (h3 : dx ≠ pp) : SI F hd Hb (upd (upd H dx (.own pp)) pp (.ins C dx [])) σ ε ∧ Gr0 Hb H Hb (upd (upd H dx (.own pp)) pp (.ins C dx [])) ∧ Hb pp = none := by
  have g1 : Gr0 Hb H Hb (upd H dx (.own pp)) := Gr.tmp S.si h2
  have S1 := S.grow g1
  have g2 : Gr0 Hb (upd H dx (.own pp)) Hb (upd (upd H dx (.own pp)) pp (.ins C dx [])) := Gr.tmp S1.si (by rw [upd_ne (Ne.symm h3)]; exact h1)
  exact ⟨S1.grow g2, g1.trans0 g2, S.si.free h1⟩
theorem ew_makeM {C : Addr} {n m : Str} {d2 : He.DefD} {ps2 : List Str} {ka : Nat} (fz : List Str) (hi : ∃ fd, Has (bsOf X) d' ps fd) (hmt : ∃ fd, Has (bsOf X) d2 ps2 fd) (M : Mk X.K C (He.fAd X.K d'.at_)) (cl : Cls X.K C) (hm : Meth X.K C m (He.fAd X.K d2.at_)) (hg2 : X.mg n = some (.ref C))
    (ha : AW X F (e :: es) ε fun ds => ∃ P : List (Str × Fv) → Prop, Ok (bsOf X) ka d' ps (spI C ds P) ∧ ∀ fl, P fl → (frzs fz fl).lookup m = none ∧ ∃ PR : PyData → Prop, Ok (bsOf X) k d2 ps2 (spPV C (frzs fz fl) [] PR) ∧ ∀ r, PR r → Q r)
    (hra : Room (ka + 1) X.A) (hr : Room k X.A) (hg : Gl X n := by rfl) (hdb : (n == ("__debug__" : Str)) = false := by decide) (he : starEach (e :: es) X.env = (false, eval e X.env) :: starEach es X.env := by rfl) (hpl : (backTo pos (starEach es X.env)).any (·.1) = false := by rfl)
    (ht : eval (.Call (.Attribute (.Call (.Name n p) (e :: es) [] pos) m apos) [] [] cpos) X.env = (do
      let ov ← eval (.Call (.Name n p) (e :: es) [] pos) X.env
      standAt apos.atName
      let (f, first) ← holding [ov] (getMethod ov m (plainOf (.Call (.Name n p) (e :: es) [] pos) X.env))
      callWith cpos f first (backTo cpos (starEach [] X.env)) (backToKw cpos (keywordEach [] X.env))) := by rfl) : EW X F (.Call (.Attribute (.Call (.Name n p) (e :: es) [] pos) m apos) [] [] cpos) ε Q := fun hd Hb H σ S Q' q => by
  have OI : Ok (bsOf X) ka d' ps (fun vs H Q' E => ∃ ds P, Ok (bsOf X) ka d' ps (spI C ds P) ∧ spI C ds P vs H Q' E) := Ok.join hi fun vs H Q E ⟨ds, P, o, z⟩ => ⟨_, o, z⟩
  have OM : Ok (bsOf X) k d2 ps2 (fun vs H Q' E => ∃ fl PR, Ok (bsOf X) k d2 ps2 (spPV C fl [] PR) ∧ spPV C fl [] PR vs H Q' E) := Ok.join hmt fun vs H Q E ⟨ds, P, o, z⟩ => ⟨_, o, z⟩
  obtain ⟨fd1, hfb1⟩ := hi
  obtain ⟨fd2, hfb2⟩ := hmt
  have o1 := OI.2 fd1 hfb1
  have o2 := OM.2 fd2 hfb2
  obtain ⟨hf1, hb1⟩ := hfb1
  obtain ⟨hf2, hb2⟩ := hfb2
  refine pe_run (pe_meth0 (X := X) (E := fun _ _ _ => True) (pe_make (E := fun _ _ _ => True) M o1 hra hg hg2 hb1 .nil pass0 pa_sem hdb he hpl) cl hm o2 hr hb2 .nil pass0 ht) (ha hd Hb H σ S _ fun vs ds Hb1 H1 S1 g1 r1 l1 ⟨P, okI, z⟩ => fun x dx hx hdx hne => ?_)
  obtain ⟨S2, g2, nb⟩ := made_ok (C := C) S1 hx hdx hne
  rw [List.append_nil]
  refine ⟨ds, P, okI, Hb1, x, dx, vs, rfl, S2.si, r1, upd_same, nb, fun Hb3 H3 ow3 fl3 g3 o3 w3 p3 => ⟨rfl, ?_⟩⟩
  obtain ⟨fr, PR, okM, pr⟩ := z fl3 p3
  have w3' : ∀ a, ow3 a ≠ none → a = x ∨ H1 a = none := fun a h => (w3 a h).imp (fun z => z) fun z => Classical.byContradiction fun y => (g2.t a y) z
  obtain ⟨dx3, fs3, e3, op3, hp3, hfl3, nd3⟩ := o3.s
  obtain ⟨Hb4, ow4, o4, s4, t4, n4, w4⟩ := Ob.freezes (H0 := H1) fz o3 g3.i w3' ⟨dx3, fs3, hp3⟩
  obtain ⟨dx4, fs4, e4, op4, hp4, hfl4, nd4⟩ := o4.s
  refine ⟨x, dx4, fs4, rfl, hp4, fl_none hfl4 fr, frzs fz fl3, PR, okM, Hb4, ow4, x, _, [], [], rfl, t4, .nil, o4, ⟨rfl, rfl⟩, fun v d Hb5 H5 g5 rd pd => ?_⟩
  have G : Gr0 Hb1 H1 Hb5 H5 := ⟨(g3.b.trans s4).trans g5.b, g5.i, fun a h => ((g5.n a (g3.t a (g2.t a h))).trans (n4 a h)).trans (g3.n a (g2.t a h)), fun a o _ h => Gr0.same g5 a o (g3.h a o (fun e => by rw [e, hx] at h; cases h) (Gr0.same g2 a o h)), fun a h => g5.t a (g3.t a (g2.t a h))⟩
  exact q v d Hb5 H5 (S1.grow G) (g1.trans0 G) rd (pr d pd)
/-- C(..).m(name) -/
theorem ew_makeM1 {C : Addr} {n m : Str} {d2 : He.DefD} {ps2 : List Str} {ka : Nat} (fz : List Str) (j : Nat) {y : Str} {py : Pos} {dy : PyData} (hi : ∃ fd, Has (bsOf X) d' ps fd) (hmt : ∃ fd, Has (bsOf X) d2 ps2 fd) (M : Mk X.K C (He.fAd X.K d'.at_)) (cl : Cls X.K C) (hm : Meth X.K C m (He.fAd X.K d2.at_)) (hg2 : X.mg n = some (.ref C))
    (ha : AW X F (e :: es) ε fun ds => ∃ P : List (Str × Fv) → Prop, Ok (bsOf X) ka d' ps (spI C ds P) ∧ ∀ fl, P fl → (frzs fz fl).lookup m = none ∧ ∃ PR : PyData → Prop, Ok (bsOf X) k d2 ps2 (spPV C (frzs fz fl) [dy] PR) ∧ ∀ r, PR r → Q r)
    (hra : Room (ka + 1) X.A) (hr : Room k X.A) (hε : ε[j]? = some (.dat dy) := by rfl) (hN : X.N[j]? = some y := by rfl) (hv : Vis X.env.scope y := by first | exact Or.inl rfl | exact Or.inr (Or.inl rfl) | exact Or.inr (Or.inr rfl)) (hdg : (y == ("__debug__" : Str)) = false := by decide) (hcd : (y == ("__classdict__" : Str)) = false := by decide)
    (hg : Gl X n := by rfl) (hdb : (n == ("__debug__" : Str)) = false := by decide) (he : starEach (e :: es) X.env = (false, eval e X.env) :: starEach es X.env := by rfl) (hpl : (backTo pos (starEach es X.env)).any (·.1) = false := by rfl)
    (hst2 : starEach [.Name y py] X.env = (false, eval (.Name y py) X.env) :: starEach [] X.env := by rfl) (hpl2 : (backTo cpos (starEach [] X.env)).any (·.1) = false := by rfl)
    (ht : eval (.Call (.Attribute (.Call (.Name n p) (e :: es) [] pos) m apos) [.Name y py] [] cpos) X.env = (do
      let ov ← eval (.Call (.Name n p) (e :: es) [] pos) X.env
      standAt apos.atName
      let (f, first) ← holding [ov] (getMethod ov m (plainOf (.Call (.Name n p) (e :: es) [] pos) X.env))
      callWith cpos f first (backTo cpos (starEach [.Name y py] X.env)) (backToKw cpos (keywordEach [] X.env))) := by rfl) : EW X F (.Call (.Attribute (.Call (.Name n p) (e :: es) [] pos) m apos) [.Name y py] [] cpos) ε Q := fun hd Hb H σ S Q' q => by
  have OI : Ok (bsOf X) ka d' ps (fun vs H Q' E => ∃ ds P, Ok (bsOf X) ka d' ps (spI C ds P) ∧ spI C ds P vs H Q' E) := Ok.join hi fun vs H Q E ⟨ds, P, o, z⟩ => ⟨_, o, z⟩
  have OM : Ok (bsOf X) k d2 ps2 (fun vs H Q' E => ∃ fl PR, Ok (bsOf X) k d2 ps2 (spPV C fl [dy] PR) ∧ spPV C fl [dy] PR vs H Q' E) := Ok.join hmt fun vs H Q E ⟨ds, P, o, z⟩ => ⟨_, o, z⟩
  obtain ⟨fd1, hfb1⟩ := hi
  obtain ⟨fd2, hfb2⟩ := hmt
  have o1 := OI.2 fd1 hfb1
  have o2 := OM.2 fd2 hfb2
  obtain ⟨hf1, hb1⟩ := hfb1
  obtain ⟨hf2, hb2⟩ := hfb2
  refine pe_run (pe_meth (X := X) (E := fun _ _ _ => True) (pe_make (E := fun _ _ _ => True) M o1 hra hg hg2 hb1 .nil pass0 pa_sem hdb he hpl) cl hm o2 hr hb2 .nil pass0 (pa_cons (pe_var hN hv hdg hcd) pa_nil hst2) hst2 hpl2 ht) (ha hd Hb H σ S _ fun vs ds Hb1 H1 S1 g1 r1 l1 ⟨P, okI, z⟩ => fun x dx hx hdx hne => ?_)
  obtain ⟨S2, g2, nb⟩ := made_ok (C := C) S1 hx hdx hne
  rw [List.append_nil]
  refine ⟨ds, P, okI, Hb1, x, dx, vs, rfl, S2.si, r1, upd_same, nb, fun Hb3 H3 ow3 fl3 g3 o3 w3 p3 => ⟨rfl, ?_⟩⟩
  obtain ⟨fr, PR, okM, pr⟩ := z fl3 p3
  have w3' : ∀ a, ow3 a ≠ none → a = x ∨ H1 a = none := fun a h => (w3 a h).imp (fun z => z) fun z => Classical.byContradiction fun y => (g2.t a y) z
  obtain ⟨dx3, fs3, e3, op3, hp3, hfl3, nd3⟩ := o3.s
  obtain ⟨Hb4, ow4, o4, s4, t4, n4, w4⟩ := Ob.freezes (H0 := H1) fz o3 g3.i w3' ⟨dx3, fs3, hp3⟩
  obtain ⟨dx4, fs4, e4, op4, hp4, hfl4, nd4⟩ := o4.s
  obtain ⟨ow, h1, h2⟩ := S1.ow
  obtain ⟨u, eu, ru⟩ := h2 j _ hε
  refine ⟨x, dx4, fs4, rfl, hp4, fl_none hfl4 fr, u, getD_of eu, frzs fz fl3, PR, okM, Hb4, ow4, x, _, [u], [dy], rfl, t4, .cons (dt_mono (g3.b.trans s4) ru) .nil, o4, ⟨rfl, rfl⟩, fun v d Hb5 H5 g5 rd pd => ?_⟩
  have G : Gr0 Hb1 H1 Hb5 H5 := ⟨(g3.b.trans s4).trans g5.b, g5.i, fun a h => ((g5.n a (g3.t a (g2.t a h))).trans (n4 a h)).trans (g3.n a (g2.t a h)), fun a o _ h => Gr0.same g5 a o (g3.h a o (fun e => by rw [e, hx] at h; cases h) (Gr0.same g2 a o h)), fun a h => g5.t a (g3.t a (g2.t a h))⟩
  exact q v d Hb5 H5 (S1.grow G) (g1.trans0 G) rd (pr d pd)
end
end K78
/-! K78: walks: the line. -/
namespace K78
open PySem PySem.Spec L2
variable {B : Bs}
section
variable {X : Cx} {F : Fm} {ε : Env} {Q : PyData → Prop} {e : Expr} {pos p2 p3 : Pos}
/-- xs[::-1] -/
theorem ew_revL {k : Nat} {p1 : Pos} (h : EW X F e ε fun d => ∃ ds, d = .list ds ∧ Q (.list ds.reverse)) : EW X F (.Subscript e (.Slice none none (some (.UnaryOp .USub (.Constant (.int 1) k p1) p2)) p3) pos) ε Q := fun hd Hb H σ S' Q' q =>
  pe_run (pe_revL pe_sem) (h hd Hb H σ S' _ fun v d Hb1 H1 S1 g1 r ⟨ds, ed, z⟩ => by
    subst ed
    obtain ⟨a, vs, rfl, ha, ra⟩ := dt_lst r
    exact ⟨a, vs, rfl, SqL.of (S1.si _ _ ha), fun p hp => q _ _ _ _ (S1.grow (Gr.new S1.si hp)) (g1.trans0 (Gr.new S1.si hp)) (.lst upd_same (dta_mono (Gr.new S1.si hp).b (dta_rev ra))) z⟩)
end
theorem lex2 (a b : Cost) : HT.lexLt [(a.1 : Int), (a.2 : Int)] [(b.1 : Int), (b.2 : Int)] = decide (LtC a b) := by
  rw [HT.lexLt_cons, HT.lexLt_cons, HT.lexLt_nil_nil]
  have d : ∀ {p q : Prop} [Decidable p] [Decidable q], (p ↔ q) → decide p = decide q := fun h => by simp only [h]
  by_cases h : (a.1 : Int) = b.1
  · rw [if_pos h]
    by_cases h2 : (a.2 : Int) = b.2
    · rw [if_pos h2, decide_eq_false (by unfold LtC; omega)]
    · rw [if_neg h2]; exact d (by unfold LtC; omega)
  · rw [if_neg h]; exact d (by unfold LtC; omega)
abbrev encK (k : Nat) : Key := .inl (k : Int)
theorem encK_inj (a b : Nat) (h : encK a = encK b) : a = b := by have := Sum.inl.inj h; omega
def encCost (c : Cost) : PyData := .tuple [.int (c.1 : Nat), .int (c.2 : Nat)]
def encCame (c : Nat × PyData) : PyData := .tuple [.int (c.1 : Nat), c.2]
abbrev LS1 := LS PyData
def encCs (s : LS1) : List (Key × PyData) := s.1.map fun p => (encK p.1, encCost p.2)
def encCm (s : LS1) : List (Key × PyData) := s.2.map fun p => (encK p.1, encCame p.2)
def lineFl (last : Nat) (br : List (Nat × Nat × Nat)) (s : LS1) : List (Str × Fv) := [("last", .dat (.int (last : Nat))), ("bridges", .dat (.list (br.map enc3))), ("costs", .dK (encCs s)), ("came", .dK (encCm s))]
theorem ok_leads (T : Told B) (last : Nat) (br : List (Nat × Nat × Nat)) (s : LS1) (i j : Nat) (pr : PyData) (bk : Nat) (z1 : s.1.length < 1000000) (z2 : s.2.length < 1000000) : Ok B 1 d_Line_leads p_Line_leads (spOV (He.ga B.K "Line") (lineFl last br s) [.int (i : Nat), .int (j : Nat), pr, .int (bk : Nat)] fun fl' r => fl' = lineFl last br (lead s i j pr bk).2 ∧ r = .bool (lead s i j pr bk).1) := by
  refine ok_ov (h_Line_leads T) s_Line_leads (by unfold lineFl; simp) rfl fun c hr F p hro hN => ?_
  have nd := s_Line_leads.nd
  have hu : (cx B d_Line_leads n_Line_leads c).A.units + 1 < cLine := by have := hr.units; omega
  have vC : ∀ k : Nat, valG (encCs s) (encK k) = (valG s.1 k).map encCost := fun k => valG_enc encK encCost encK_inj k s.1
  refine sws_cons (sw_if (bw_dnin (ref_fld (c_Line T) (a_Line_costs T)) hu (ew_name 1 ⟨(valG s.1 i).isSome, .inl ⟨_, encK i, rfl, rfl, by rw [vC]; cases valG s.1 i <;> rfl⟩, fun z => ?_, fun z => sws_nil ?_⟩)))
  · refine sws_one (sw_ret (ew_bl ⟨_, rfl, ?_⟩))
    cases e : valG s.1 i with
    | some d => rw [e] at z; cases z
    | none => unfold lead; rw [e]; exact ⟨rfl, rfl⟩
  cases e1 : valG s.1 i with
  | none => rw [e1] at z; cases z
  | some cc =>
  have e1' : valG (encCs s) (encK i) = some (encCost cc) := by rw [vC, e1]; rfl
  refine sws_cons (sw_set 5 (ew_tup (aw_cons (ew_bin (ew_ix (ew_dget (ref_fld (c_Line T) (a_Line_costs T)) hu (ew_name 1 ⟨encK i, _, rfl, e1', ew_int (ix_t rfl (ew_name 4 (op_add_i (aw_cons (ew_bin (ew_ix (ew_dget (ref_fld (c_Line T) (a_Line_costs T)) hu (ew_name 1 ⟨encK i, _, rfl, e1', ew_int (ix_t rfl (ew_int (op_add_i (aw_nil ?_))))⟩))))))))⟩)))))))
  have ec : PyData.tuple [.int (((cc.1 : Nat) : Int) + ((bk : Nat) : Int)), .int (((cc.2 : Nat) : Int) + 1)] = encCost (cc.1 + bk, cc.2 + 1) := by unfold encCost; simp
  rw [ec]
  have put : SWs (cx B d_Line_leads n_Line_leads c) F ((d_Line_leads.body.drop 3)) [.obj p (He.ga B.K "Line") (lineFl last br s), .dat (.int (i : Nat)), .dat (.int (j : Nat)), .dat pr, .dat (.int (bk : Nat)), .dat (encCost (cc.1 + bk, cc.2 + 1))] ⟨fun ε => ∃ fl', ε[0]? = some (.obj p (He.ga B.K "Line") fl') ∧ fl' = lineFl last br (putG s.1 j (cc.1 + bk, cc.2 + 1), putG s.2 j (i, pr)) ∧ PyData.none = .bool true, fun r ε => ∃ fl', ε[0]? = some (.obj p (He.ga B.K "Line") fl') ∧ fl' = lineFl last br (putG s.1 j (cc.1 + bk, cc.2 + 1), putG s.2 j (i, pr)) ∧ r = .bool true, fun _ => False, fun _ => False⟩ := by
    refine sws_cons (sw_dput (ref_fld (c_Line T) (a_Line_costs T)) hu (by unfold encCs; rw [List.length_map]; omega) (ew_name 5 (ew_name 2 ⟨encK j, rfl, ?_⟩)))
    refine sws_cons (sw_dput (ref_fld (c_Line T) (a_Line_came T)) hu (by unfold encCm; rw [List.length_map]; omega) (ew_tup (aw_cons (ew_name 1 (aw_cons (ew_name 3 (aw_nil (ew_name 2 ⟨encK j, rfl, ?_⟩))))))))
    refine sws_one (sw_ret (ew_bl ⟨_, rfl, ?_, rfl⟩))
    have q1 := putG_enc encK encCost encK_inj j (cc.1 + bk, cc.2 + 1) s.1
    have q2 := putG_enc encK encCame encK_inj j (i, pr) s.2
    unfold lineFl
    show [_, _, _, _] = [_, _, _, _]
    congr 3
    · exact congrArg (fun z => (("costs" : Str), Fv.dK z)) q1
    · exact congrArg (fun z => [(("came" : Str), Fv.dK z)]) q2
  have el : ∀ b : Bool, (lead s i j pr bk).1 = b → ((b = true ∧ (lead s i j pr bk).2 = (putG s.1 j (cc.1 + bk, cc.2 + 1), putG s.2 j (i, pr))) ∨ (b = false ∧ (lead s i j pr bk).2 = s)) := fun b hb => by
    cases b with
    | true =>
      obtain ⟨c', q1, q2, _⟩ := lead_true hb
      rw [e1] at q1; cases q1
      exact .inl ⟨rfl, q2⟩
    | false => exact .inr ⟨rfl, lead_false hb⟩
  refine sws_cons (sw_if (bw_w (bww_and (bw_din (ref_fld (c_Line T) (a_Line_costs T)) hu (ew_name 2 ⟨(valG s.1 j).isSome, .inl ⟨_, encK j, rfl, rfl, by rw [vC]; cases valG s.1 j <;> rfl⟩, fun z => ?_, fun z => ?_⟩)))))
  · cases e2 : valG s.1 j with
    | none => rw [e2] at z; cases z
    | some dd =>
    have e2' : valG (encCs s) (encK j) = some (encCost dd) := by rw [vC, e2]; rfl
    refine bww_and1 (bw_not (bw_cmp rfl (ew_name 5 (ew_dget (ref_fld (c_Line T) (a_Line_costs T)) hu (ew_name 2 ⟨encK j, _, rfl, e2', op_lt_t (a := [((cc.1 + bk : Nat) : Int), ((cc.2 + 1 : Nat) : Int)]) (b := [(dd.1 : Int), (dd.2 : Int)]) (by omega) ?_⟩)))))
    rw [lex2 (cc.1 + bk, cc.2 + 1) dd]
    have es : (lead s i j pr bk).1 = decide (LtC (cc.1 + bk, cc.2 + 1) dd) := by
      unfold lead; rw [e1, e2]
      by_cases l : LtC (cc.1 + bk, cc.2 + 1) dd
      · rw [decide_eq_true l]; simp only [if_pos l]
      · rw [decide_eq_false l]; simp only [if_neg l]
    refine ⟨_, rfl, fun z => ?_, fun z => sws_nil ?_⟩
    · have ef : (lead s i j pr bk).1 = false := by rw [es]; simpa using z
      refine sws_one (sw_ret (ew_bl ⟨_, rfl, ?_, by rw [ef]⟩))
      rw [lead_false ef]
    · have et : (lead s i j pr bk).1 = true := by rw [es]; simpa using z
      have q := (el true et).resolve_right (fun y => by cases y.1)
      rw [q.2, et]
      exact put
  · refine ⟨fun y => (by cases y), fun _ => sws_nil ?_⟩
    cases e2 : valG s.1 j with
    | some dd => rw [e2] at z; cases z
    | none =>
    have et : (lead s i j pr bk).1 = true := by unfold lead; rw [e1, e2]
    have q := (el true et).resolve_right (fun y => by cases y.1)
    rw [q.2, et]
    exact put
end K78
/-! K78: walks: the line made, its plan. -/
namespace K78
open PySem PySem.Spec L2
variable {B : Bs}
def WON : Wd := [111, 110]
def WBACK : Wd := [98, 97, 99, 107]
def pOn (i : Nat) : PyData := .tuple [.int (i : Nat), S WON]
def pBack (i : Nat) : PyData := .tuple [.int (i : Nat), S WBACK]
theorem brs_le {t : Tx} {ks : List Tx} : ∀ b ∈ brs t ks, b.2.1 ≤ t.ls.length ∧ b.2.2 ≤ t.ls.length := fun b hb => by
  obtain ⟨p, hp, hb⟩ := List.mem_flatMap.mp hb
  obtain ⟨i, hi, rfl⟩ := List.mem_map.mp hb
  have := List.mem_range.mp (List.mem_filter.mp hi).1
  constructor
  · show i ≤ _; omega
  · show i + _ ≤ _; omega
theorem linv_len {br : List (Nat × Nat × Nat)} {L : Nat} {s : LS1} (I : LInv br L s) : s.1.length ≤ L + 1 ∧ s.2.length ≤ L + 1 := by
  have h1 := nodup_len (ws := List.range (L + 1)) I.nd fun w hw => List.mem_range.mpr (by have := (I.r w ((valG_some_iff s.1 w).mpr hw)).1; omega)
  have h2 := nodup_len (ws := List.range (L + 1)) I.nd2 fun w hw => List.mem_range.mpr (by have := (I.r w (I.r2 w ((valG_some_iff s.2 w).mpr hw))).1; omega)
  rw [List.length_map, List.length_range] at h1 h2
  exact ⟨h1, h2⟩
def s0L : LS1 := ([(0, (0, 0))], [])
theorem s0_inv (br : List (Nat × Nat × Nat)) (L : Nat) : LInv br L s0L := by
  have e : ∀ k d, valG s0L.1 k = some d → k = 0 := fun k d h => by
    unfold s0L at h
    rw [valG_cons, valG_nil] at h
    split at h
    · rename_i c; exact c.symm
    · cases h
  refine ⟨by simp [s0L], by simp [s0L], rfl, fun k h => ?_, fun k h => (by cases h), fun k d h0 h => absurd (e k d h) h0⟩
  cases q : valG s0L.1 k with
  | none => rw [q] at h; cases h
  | some d => rw [e k d q]; exact ⟨Nat.zero_le _, .zero⟩
/-- the line, made -/
def LineEnd (t : Tx) (ks : List Tx) (fl : List (Str × Fv)) : Prop := ∃ s : LS1, fl = lineFl t.ls.length (brs t ks) s ∧ LInv (brs t ks) t.ls.length s ∧ ∀ k, (valG s.1 k).isSome = true ↔ Rch (brs t ks) k
theorem ok_Line_init (T : Told B) (t : Tx) (ks : List Tx) (ht : Good t) (hk : ∀ k ∈ ks, Good k) (hz : ks.length ≤ 20) : Ok B 6 d_Line_init p_Line_init (spI (He.ga B.K "Line") [.list (ks.map fun k => S k.un), S t.un] (LineEnd t ks)) := by
  refine ok_i (h_Line_init T) s_Line_init rfl fun c hr F p hro hN hI => ?_
  have nd := s_Line_init.nd
  have ltl := ht.ls_len
  refine sws_cons (sw_fldD (ew_len (b_len T) (ew_steps T (ew_name 2 ⟨t, rfl, ht, .inl ⟨_, .inl rfl, ?_⟩⟩) (hr.mono (by decide)))) (c_Line T) (a_Line_last T))
  refine sws_cons (sw_fldD (ew_callJ (h_line_bridges T) (g_line_bridges T) (aw_cons (ew_name 1 (aw_cons (ew_name 2 (aw_nil ⟨_, ok_line_bridges T t ks ht hk hz, fun r er => ?_⟩)))))) (c_Line T) (a_Line_bridges T))
  subst er
  refine sws_cons (sw_fldN (nw_disp00 ?_) (c_Line T) (a_Line_costs T))
  refine sws_cons (sw_fldN (nw_dK ?_) (c_Line T) (a_Line_came T))
  refine sws_cons (sw_set 3 (ew_bl ?_))
  rw [List.length_map]
  have hbr := brs_le (t := t) (ks := ks)
  generalize hbe : brs t ks = br at hbr ⊢
  obtain ⟨n0, hn0⟩ := stops pOn pBack hbr s0L (s0_inv br t.ls.length)
  refine sws_one (sw_while (I := fun m ε => ∃ (s : LS1) (s1 s2 s3 : Sl), LInv br t.ls.length s ∧ ((∃ n, m = n + 1 ∧ Stops pOn pBack br n s ∧ ε = [.obj p (He.ga B.K "Line") (lineFl t.ls.length br s), .dat (.list (ks.map fun k => S k.un)), .dat (S t.un), .dat (.bool true), s1, s2, s3]) ∨
      (m = 0 ∧ (passL pOn pBack br s).1 = false ∧ ε = [.obj p (He.ga B.K "Line") (lineFl t.ls.length br s), .dat (.list (ks.map fun k => S k.un)), .dat (S t.un), .dat (.bool false), s1, s2, s3]))) (m := n0 + 1) ⟨s0L, .un, .un, .un, s0_inv br _, .inl ⟨n0, rfl, hn0, rfl⟩⟩ ?_)
  rintro m ε' ⟨s, s1, s2, s3, I, ⟨n, rfl, hn, rfl⟩ | ⟨rfl, hp, rfl⟩⟩
  · refine bw_val (ew_name 3 ⟨true, rfl, fun _ => ?_, fun z => (by cases z)⟩)
    refine sws_cons (sw_set 3 (ew_bl ?_))
    refine sws_one (sw_forM br enc3 (fun i ε => LInv br t.ls.length ((br.take i).foldl (turnL pOn pBack) (false, s)).2 ∧ ∃ s1 s2 s3 : Sl, ε = [.obj p (He.ga B.K "Line") (lineFl t.ls.length br ((br.take i).foldl (turnL pOn pBack) (false, s)).2), .dat (.list (ks.map fun k => S k.un)), .dat (S t.un), .dat (.bool ((br.take i).foldl (turnL pOn pBack) (false, s)).1), s1, s2, s3]) (iw_list (ew_fld ⟨_, rfl, rfl⟩ (c_Line T) (a_Line_bridges T))) ⟨I, s1, s2, s3, rfl⟩ ?_ ?_)
    · rintro i b ε' hb ⟨I1, s1, s2, s3, rfl⟩
      have hmb := List.mem_of_getElem? hb
      obtain ⟨l1, l2⟩ := hbr b hmb
      have nxt : (br.take (i + 1)).foldl (turnL pOn pBack) (false, s) = turnL pOn pBack ((br.take i).foldl (turnL pOn pBack) (false, s)) b := fold_take _ _ hb
      revert nxt I1
      generalize (br.take i).foldl (turnL pOn pBack) (false, s) = acc
      intro I1 nxt
      obtain ⟨z1, z2⟩ := linv_len I1
      have J1 : LInv br t.ls.length (lead acc.2 b.2.1 b.2.2 (pOn b.1) 0).2 := lead_inv I1 l2 fun h => .on hmb h
      have J2 : LInv br t.ls.length (lead (lead acc.2 b.2.1 b.2.2 (pOn b.1) 0).2 b.2.2 b.2.1 (pBack b.1) 1).2 := lead_inv J1 l1 fun h => .back hmb h
      obtain ⟨z3, z4⟩ := linv_len J1
      refine tw_tup (tws_cons (tw_name 4 (tws_cons (tw_name 5 (tws_cons (tw_name 6 (tws_nil ?_)))))))
      refine sws_one (sw_ifX (bx_or (bx_val ?_)))
      refine xw_selfJ (k := 1) (h_Line_leads T) (c_Line T) (m_Line_leads T) hN ?_
      refine aw_cons (ew_name 5 (aw_cons (ew_name 6 (aw_cons (ew_tup (aw_cons (ew_name 4 (aw_cons (ew_tx WON (aw_nil (aw_cons (ew_int (aw_nil ?_)))))))))))))
      refine ⟨_, ok_leads T t.ls.length br acc.2 b.2.1 b.2.2 (pOn b.1) 0 (by omega) (by omega), fun fl' r hh => ?_⟩
      obtain ⟨rfl, rfl⟩ := hh
      refine ⟨_, rfl, fun hb1 => ⟨fun _ => ?_, fun z => (by cases z)⟩, fun hb1 => ?_⟩
      · refine sws_one (sw_set 3 (ew_bl ?_))
        have et : turnL pOn pBack acc b = (true, (lead acc.2 b.2.1 b.2.2 (pOn b.1) 0).2) := by unfold turnL; simp only [hb1, if_true]
        rw [nxt, et]
        exact ⟨J1, _, _, _, rfl⟩
      · refine bx_val ?_
        refine xw_selfJ (k := 1) (h_Line_leads T) (c_Line T) (m_Line_leads T) hN ?_
        refine aw_cons (ew_name 6 (aw_cons (ew_name 5 (aw_cons (ew_tup (aw_cons (ew_name 4 (aw_cons (ew_tx WBACK (aw_nil (aw_cons (ew_int (aw_nil ?_)))))))))))))
        refine ⟨_, ok_leads T t.ls.length br (lead acc.2 b.2.1 b.2.2 (pOn b.1) 0).2 b.2.2 b.2.1 (pBack b.1) 1 (by omega) (by omega), fun fl' r hh => ?_⟩
        obtain ⟨rfl, rfl⟩ := hh
        have et : turnL pOn pBack acc b = (acc.1 || (lead (lead acc.2 b.2.1 b.2.2 (pOn b.1) 0).2 b.2.2 b.2.1 (pBack b.1) 1).1, (lead (lead acc.2 b.2.1 b.2.2 (pOn b.1) 0).2 b.2.2 b.2.1 (pBack b.1) 1).2) := by unfold turnL; simp only [hb1]; simp
        refine ⟨_, rfl, fun hb2 => ?_, fun hb2 => ?_⟩
        · refine sws_one (sw_set 3 (ew_bl ?_))
          rw [nxt, et, hb2, Bool.or_true]
          exact ⟨J2, _, _, _, rfl⟩
        · refine sws_nil ?_
          rw [nxt, et, hb2, Bool.or_false]
          exact ⟨J2, _, _, _, rfl⟩
    · rintro ε' ⟨I1, s1, s2, s3, rfl⟩
      rw [List.take_length] at I1 ⊢
      show ∃ m' : Nat, m' < n + 1 ∧ _
      cases hn with
      | now h0 =>
        have q := (pass_end pOn pBack hbr I h0).1
        have h0' : ((br.foldl (turnL pOn pBack) (false, s))).1 = false := h0
        have q' : ((br.foldl (turnL pOn pBack) (false, s))).2 = s := q
        rw [h0', q']
        exact ⟨0, by omega, s, s1, s2, s3, I, .inr ⟨rfl, h0, rfl⟩⟩
      | @more n' _ h0 h1 =>
        have h0' : ((br.foldl (turnL pOn pBack) (false, s))).1 = true := h0
        rw [h0']
        exact ⟨n' + 1, by omega, _, s1, s2, s3, I1, .inl ⟨n', rfl, h1, rfl⟩⟩
  · refine bw_val (ew_name 3 ⟨false, rfl, fun z => (by cases z), fun _ => ?_⟩)
    refine ⟨_, rfl, s, ?_, ?_, fun k => ⟨fun h => ?_, fun h => ?_⟩⟩
    · rw [hbe]
    · rw [hbe]; exact I
    · rw [hbe]; exact (I.r k h).2
    · rw [hbe] at h; exact (pass_end pOn pBack hbr I hp).2 k h
end K78
/-! K78: walks: the line's plan. -/
namespace K78
open PySem PySem.Spec L2
variable {B : Bs}
theorem filter_lt {α : Type} {p q : α → Bool} : ∀ {l : List α} {x : α}, (∀ a, p a = true → q a = true) → x ∈ l → q x = true → p x = false → (l.filter p).length < (l.filter q).length
  | [], x, _, h, _, _ => by cases h
  | a :: l, x, hpq, h, h1, h2 => by
    have mono : (l.filter p).length ≤ (l.filter q).length := by
      rw [← List.countP_eq_length_filter, ← List.countP_eq_length_filter]
      exact List.countP_mono_left fun a _ => hpq a
    rcases List.mem_cons.mp h with rfl | h
    · rw [List.filter_cons_of_neg (by rw [h2]; exact Bool.false_ne_true), List.filter_cons_of_pos h1, List.length_cons]; omega
    · have ih := filter_lt hpq h h1 h2
      by_cases c : p a = true
      · rw [List.filter_cons_of_pos c, List.filter_cons_of_pos (hpq a c), List.length_cons, List.length_cons]; omega
      · rw [List.filter_cons_of_neg c]
        by_cases c2 : q a = true
        · rw [List.filter_cons_of_pos c2, List.length_cons]; omega
        · rw [List.filter_cons_of_neg c2]; exact ih
theorem val_mem {κ α : Type} [DecidableEq κ] {k : κ} {v : α} : ∀ {kvs : List (κ × α)}, valG kvs k = some v → (k, v) ∈ kvs
  | p :: r, h => by
    rw [valG_cons] at h
    by_cases c : p.1 = k
    · rw [if_pos c] at h; cases h; subst c; exact List.mem_cons_self ..
    · rw [if_neg c] at h; exact List.mem_cons_of_mem _ (val_mem h)
theorem ok_Line_plan (T : Told B) (br : List (Nat × Nat × Nat)) (L : Nat) (s : LS1) (I : LInv br L s) (hL : L ≤ 1000) : Ok B 1 d_Line_told_plan p_Line_told_plan (spPV (He.ga B.K "Line") (lineFl L br s) [] fun r => ((valG s.1 L).isSome = true ∧ ∃ ds, r = .list ds) ∨ ((valG s.1 L).isSome = false ∧ r = .none)) := by
  refine ok_pv (h_Line_told_plan T) s_Line_told_plan rfl fun c hr F p hN => ?_
  have nd := s_Line_told_plan.nd
  have hu : (cx B d_Line_told_plan n_Line_told_plan c).A.units + 1 < cLine := by have := hr.units; omega
  have vC : ∀ k : Nat, valG (encCs s) (encK k) = (valG s.1 k).map encCost := fun k => valG_enc encK encCost encK_inj k s.1
  have vM : ∀ k : Nat, valG (encCm s) (encK k) = (valG s.2 k).map encCame := fun k => valG_enc encK encCame encK_inj k s.2
  obtain ⟨l1, l2⟩ := linv_len I
  refine sws_cons (sw_if (bw_dnin (ref_fld (c_Line T) (a_Line_costs T)) hu (ew_fld ⟨(valG s.1 L).isSome, .inl ⟨_, encK L, rfl, rfl, by rw [vC]; cases valG s.1 L <;> rfl⟩, fun z => ?_, fun z => sws_nil ?_⟩ (c_Line T) (a_Line_last T))))
  · cases e : (valG s.1 L).isSome with
    | true => rw [e] at z; cases z
    | false => exact sws_one (sw_ret (ew_non (.inr ⟨by first | exact e | rfl, rfl⟩)))
  have e0 : (valG s.1 L).isSome = true := by simpa using z
  refine sws_cons (sw_par 1 2 (pw_ld (aw_nil (ew_fld ?_ (c_Line T) (a_Line_last T)))))
  obtain ⟨c0, ec0⟩ := Option.isSome_iff_exists.mp e0
  refine sws_cons (sw_while (I := fun m ε => ∃ (k : Nat) (cost : Cost) (ds : List PyData) (sl : Sl), valG s.1 k = some cost ∧ m = (s.1.filter fun q => decide (LtC q.2 cost)).length ∧ ds.length + m ≤ s.1.length ∧ ε = [.obj p (He.ga B.K "Line") (lineFl L br s), .lst ds, .dat (.int (k : Nat)), sl]) (m := (s.1.filter fun q => decide (LtC q.2 c0)).length) ⟨L, c0, [], .un, ec0, rfl, by simpa using List.length_filter_le _ _, rfl⟩ ?_)
  rintro m ε' ⟨k, cost, ds, sl, ek, rfl, hm, rfl⟩
  refine bw_cmp rfl (ew_name 2 (ew_int (op_ne_i ⟨_, rfl, fun z => ?_, fun z => ?_⟩)))
  · have hk : k ≠ 0 := by
      intro h; subst h; simp at z
    obtain ⟨h, pr, e, q1, q2, q3⟩ := I.c k cost hk ek
    have vm : valG (encCm s) (encK k) = some (encCame (h, pr)) := by rw [vM, q1]; rfl
    have lt : (s.1.filter fun q => decide (LtC q.2 e)).length < (s.1.filter fun q => decide (LtC q.2 cost)).length :=
      filter_lt (x := (h, e)) (fun a ha => decide_eq_true ((of_decide_eq_true ha).trans q3)) (val_mem q2) (decide_eq_true q3) (decide_eq_false fun y => y.irr)
    refine sws_cons (sw_asg (ew_dget (ref_fld (c_Line T) (a_Line_came T)) hu (ew_name 2 ⟨encK k, _, rfl, vm, tw_tup (tws_cons (tw_name 2 (tws_cons (tw_name 3 (tws_nil ?_)))))⟩)))
    refine sws_one (sw_append 1 rfl (by omega) (ew_name 3 ⟨(s.1.filter fun q => decide (LtC q.2 e)).length, lt, h, e, ds ++ [pr], .dat pr, q2, rfl, ?_, rfl⟩))
    rw [List.length_append, List.length_singleton]; omega
  · refine sws_freeze 1 (sws_one (sw_ret (ew_revL (ew_name 1 ⟨_, rfl, .inl ⟨e0, _, rfl⟩⟩))))
end K78
/-! K78: plain: a graph built from the kept words; how many rooms. -/
namespace K78
def edge (x s y : Nat) : Nat × Nat × Nat := if s < 91 then (y, tn s, x) else (x, s, y)
theorem edge_st {x s y : Nat} (hs : L4 s) (E : Edges) : St (E ++ [edge x s y]) x s y := by
  unfold edge
  by_cases h : s < 91
  · rw [if_pos h]; exact .inr (List.mem_append_right _ (List.mem_singleton.mpr rfl))
  · rw [if_neg h]; exact .inl (List.mem_append_right _ (List.mem_singleton.mpr rfl))
theorem edge_sm {x s y : Nat} (hs : L4 s) : (edge x s y).2.1 = 97 ∨ (edge x s y).2.1 = 98 := by
  rcases hs with rfl | rfl | rfl | rfl
  · exact .inl rfl
  · exact .inr rfl
  · exact .inl rfl
  · exact .inr rfl
structure RInv0 (K : List Wd) (E : Edges) (many : Nat) : Prop where
  sm : Sm E
  p : ∃ φ, Pot K E φ
  r : ∀ e ∈ E, e.1 < many ∧ e.2.2 < many
  n : 0 < many
structure RInv (K : List Wd) (E : Edges) (many here : Nat) (pre : Wd) : Prop where
  sm : Sm E
  p : ∃ φ, Pot K E φ ∧ φ here = pre
  r : ∀ e ∈ E, e.1 < many ∧ e.2.2 < many
  n : here < many
  w : Walks E 0 pre here
theorem RInv0.start {K : List Wd} {E : Edges} {many : Nat} (I : RInv0 K E many) : RInv K E many 0 [] := by
  obtain ⟨φ, P⟩ := I.p
  exact ⟨I.sm, ⟨φ, P, P.z⟩, I.r, I.n, .nil⟩
theorem sm_app {E : Edges} {x s y : Nat} (h : Sm E) (hs : L4 s) : Sm (E ++ [edge x s y]) := fun e he => by
  rcases List.mem_append.mp he with q | q
  · exact h e q
  · cases List.mem_singleton.mp q; exact edge_sm hs
/-- an edge whose word is made -/
theorem edge_gen {K : List Wd} {x s y : Nat} {φ : Nat → Wd} (hs : L4 s) (w : ∀ x, W4 (φ x)) (g : Gen K (φ x ++ [s] ++ bk (φ y))) : Gen K (φ (edge x s y).1 ++ [(edge x s y).2.1] ++ bk (φ (edge x s y).2.2)) := by
  unfold edge
  by_cases h : s < 91
  · rw [if_pos h]
    have q := g.inv
    simp only [bk_app, bk_bk (w y)] at q
    show Gen K (φ y ++ [tn s] ++ bk (φ x))
    have e : bk [s] = [tn s] := rfl
    rw [e, ← List.append_assoc] at q
    exact q
  · rw [if_neg h]; exact g
theorem RInv.step {K : List Wd} {E : Edges} {many here : Nat} {pre : Wd} (I : RInv K E many here pre) {s : Nat} (hs : L4 s) : RInv K (E ++ [edge here s many]) (many + 1) many (pre ++ [s]) := by
  obtain ⟨φ, P, hp⟩ := I.p
  have hne : here ≠ many := Nat.ne_of_lt I.n
  have wp : W4 pre := by rw [← hp]; exact P.w here
  let ψ : Nat → Wd := fun x => if x = many then pre ++ [s] else φ x
  have hψ : ∀ x, W4 (ψ x) := fun x => by
    show W4 (if x = many then pre ++ [s] else φ x)
    split
    · exact wp.app (w41 hs)
    · exact P.w x
  have ψ0 : ψ here = pre := (if_neg hne).trans hp
  have ψm : ψ many = pre ++ [s] := if_pos rfl
  refine ⟨sm_app I.sm hs, ⟨ψ, ⟨?_, hψ, fun e he => ?_⟩, ψm⟩, fun e he => ?_, Nat.lt_succ_self _, (I.w.mono fun e h => List.mem_append_left _ h).snoc hs (edge_st hs E)⟩
  · show (if 0 = many then pre ++ [s] else φ 0) = []
    rw [if_neg (by have := I.n; omega)]; exact P.z
  · rcases List.mem_append.mp he with q | q
    · obtain ⟨r1, r2⟩ := I.r e q
      have e1 : ψ e.1 = φ e.1 := if_neg (by omega)
      have e2 : ψ e.2.2 = φ e.2.2 := if_neg (by omega)
      rw [e1, e2]; exact P.e e q
    · cases List.mem_singleton.mp q
      refine edge_gen hs hψ ?_
      rw [ψ0, ψm]
      refine .eqv .nil ((wp.app (w41 hs)).app (wp.app (w41 hs)).bk) ?_
      exact (eqv_bkr (wp.app (w41 hs))).symm
  · rcases List.mem_append.mp he with q | q
    · obtain ⟨r1, r2⟩ := I.r e q; omega
    · cases List.mem_singleton.mp q
      have := I.n
      unfold edge
      split <;> simp only <;> omega
theorem RInv.close {K : List Wd} {E : Edges} {many many' here : Nat} {pre : Wd} (I : RInv K E many here pre) {s : Nat} (hs : L4 s) (hk : pre ++ [s] ∈ K) (hm : many ≤ many') : RInv0 K (E ++ [edge here s 0]) many' ∧ Walks (E ++ [edge here s 0]) 0 (pre ++ [s]) 0 := by
  obtain ⟨φ, P, hp⟩ := I.p
  have wp : W4 pre := by rw [← hp]; exact P.w here
  refine ⟨⟨sm_app I.sm hs, ⟨φ, P.z, P.w, fun e he => ?_⟩, fun e he => ?_, by have := I.n; omega⟩, (I.w.mono fun e h => List.mem_append_left _ h).snoc hs (edge_st hs E)⟩
  · rcases List.mem_append.mp he with q | q
    · exact P.e e q
    · cases List.mem_singleton.mp q
      refine edge_gen hs P.w ?_
      rw [hp, P.z]
      have : Gen K (pre ++ [s]) := .gen hk (wp.app (w41 hs))
      show Gen K (pre ++ [s] ++ [])
      rw [List.append_nil]; exact this
  · rcases List.mem_append.mp he with q | q
    · obtain ⟨r1, r2⟩ := I.r e q; omega
    · cases List.mem_singleton.mp q
      have := I.n
      unfold edge
      split <;> simp only <;> omega
theorem RInv0.finv {K : List Wd} {E : Edges} {many : Nat} (I : RInv0 K E many) (w : ∀ k ∈ K, Walks E 0 k 0) : FInv K E := ⟨I.sm, I.p, w⟩
/-! ### rooms -/
def rms (E : Edges) : List Nat := E.flatMap fun e => [e.1, e.2.2]
theorem mem_rms {E : Edges} {x : Nat} : x ∈ rms E ↔ ∃ e ∈ E, x = e.1 ∨ x = e.2.2 := by
  unfold rms
  rw [List.mem_flatMap]
  constructor
  · rintro ⟨e, he, h⟩
    refine ⟨e, he, ?_⟩
    simpa using h
  · rintro ⟨e, he, h⟩; exact ⟨e, he, by simpa using h⟩
/-- how many rooms below N -/
def cnt (N : Nat) (E : Edges) : Nat := ((List.range N).filter fun x => decide (x ∈ rms E)).length
theorem cnt_le (N : Nat) (E : Edges) : cnt N E ≤ N := by
  unfold cnt
  have := List.length_filter_le (fun x => decide (x ∈ rms E)) (List.range N)
  rw [List.length_range] at this; exact this
theorem clash_rms {E : Edges} {g k : Nat} (h : Clash E g k) : g ∈ rms E ∧ k ∈ rms E := by
  rcases h with ⟨x, a, h1, h2⟩ | ⟨a, z, h1, h2⟩
  · exact ⟨mem_rms.mpr ⟨_, h1, .inr rfl⟩, mem_rms.mpr ⟨_, h2, .inr rfl⟩⟩
  · exact ⟨mem_rms.mpr ⟨_, h1, .inl rfl⟩, mem_rms.mpr ⟨_, h2, .inl rfl⟩⟩
theorem mrg_rms {E E' : Edges} {g k : Nat} (h : Clash E g k) (hgk : g ≠ k) (hE : ∀ e, e ∈ E' ↔ ∃ f ∈ E, e = (mrg g k f.1, f.2.1, mrg g k f.2.2)) : ∀ x, x ∈ rms E' → x ∈ rms E ∧ x ≠ g := fun x hx => by
  obtain ⟨e, he, hx⟩ := mem_rms.mp hx
  obtain ⟨f, hf, rfl⟩ := (hE e).mp he
  have key : ∀ y, y = f.1 ∨ y = f.2.2 → mrg g k y ∈ rms E ∧ mrg g k y ≠ g := fun y hy => by
    unfold mrg
    by_cases c : y = g
    · rw [if_pos c]; exact ⟨(clash_rms h).2, fun z => hgk z.symm⟩
    · rw [if_neg c]; exact ⟨mem_rms.mpr ⟨f, hf, hy⟩, c⟩
  rcases hx with rfl | rfl
  · exact key _ (.inl rfl)
  · exact key _ (.inr rfl)
end K78
/-! K78: walks: folds, their parts. -/
namespace K78
open PySem PySem.Spec L2
variable {B : Bs}
def enc4 (e : Nat × Nat × Nat) : PyData := .tuple [.int (e.1 : Nat), S [e.2.1], .int (e.2.2 : Nat), .list []]
def foldFl (m : Nat) (x : Fv) : List (Str × Fv) := [("many", .dat (.int (m : Nat))), ("edges", x)]
theorem ok_opposite (T : Told B) : Ok B 1 d_opposite p_opposite (spV [.list []] fun r => r = .list []) := by
  refine ok_v (h_opposite T) s_opposite rfl fun c hr F hro => ?_
  have nd := s_opposite.nd
  refine sws_one (sw_ret (ew_lc [("index", 1), ("way", 2)] (lcw_of ([] : List Nat) (fun _ => .none) (fun _ => .none) (fun _ => true) (iw_list (ew_revL (ew_name 0 ⟨_, rfl, _, rfl, rfl, by decide, fun x hx => (by cases hx), rfl⟩))))))
theorem ok_shortened (T : Told B) : Ok B 1 d_shortened p_shortened (spV [.list []] fun r => r = .list []) := by
  refine ok_v (h_shortened T) s_shortened rfl fun c hr F hro => ?_
  have nd := s_shortened.nd
  refine sws_cons (sw_setL 1 (aw_nil (sws_cons (sw_forM ([] : List Nat) (fun _ => .none) (fun i ε => ε = [.dat (.list []), .lst [], .un, .un]) (iw_list (ew_name 0 ⟨_, rfl, rfl⟩)) rfl ?_ ?_))))
  · intro i x ε' hx
    cases hx
  · rintro ε' rfl
    exact sws_freeze 1 (sws_one (sw_ret (ew_name 1 rfl)))
theorem ew_opposite {X : Cx} {F : Fm} {ε : Env} {e : Expr} {p pos : Pos} {Q : PyData → Prop} (T : Told (bsOf X)) (h : EW X F e ε fun d => d = .list [] ∧ Q (.list [])) (hr : Room 1 X.A) (hg : Gl X "opposite" := by rfl)
    (he : starEach [e] X.env = (false, eval e X.env) :: starEach [] X.env := by rfl) (hpl : (backTo pos (starEach [] X.env)).any (·.1) = false := by rfl) : EW X F (.Call (.Name "opposite" p) [e] [] pos) ε Q :=
  ew_callJ (h_opposite T) (g_opposite T) (aw_cons (h.imp fun d ⟨ed, q⟩ => aw_nil (by subst ed; exact ⟨_, ok_opposite T, fun r hr => by rw [hr]; exact q⟩)) he) hr hg (he := he) (hpl := hpl)
theorem ew_shortened {X : Cx} {F : Fm} {ε : Env} {e : Expr} {p pos : Pos} {Q : PyData → Prop} (T : Told (bsOf X)) (h : EW X F e ε fun d => d = .list [] ∧ Q (.list [])) (hr : Room 1 X.A) (hg : Gl X "shortened" := by rfl)
    (he : starEach [e] X.env = (false, eval e X.env) :: starEach [] X.env := by rfl) (hpl : (backTo pos (starEach [] X.env)).any (·.1) = false := by rfl) : EW X F (.Call (.Name "shortened" p) [e] [] pos) ε Q :=
  ew_callJ (h_shortened T) (g_shortened T) (aw_cons (h.imp fun d ⟨ed, q⟩ => aw_nil (by subst ed; exact ⟨_, ok_shortened T, fun r hr => by rw [hr]; exact q⟩)) he) hr hg (he := he) (hpl := hpl)
theorem caps_lt {s : Nat} (hs : L4 s) : decide (s ∈ CAPS) = decide (s < 91) := by rcases hs with rfl | rfl | rfl | rfl <;> decide
theorem low_tn {s : Nat} (hs : L4 s) (h : s < 91) : Txt.lower (tx [s]) = tx [tn s] := by rcases hs with rfl | rfl | rfl | rfl <;> first | (exact absurd h (by decide)) | decide +kernel
theorem ok_adds (T : Told B) (m : Nat) (E : Edges) (x s y : Nat) (hs : L4 s) (hz : E.length < 1000000) : Ok B 2 d_Fold_adds p_Fold_adds (spOV (He.ga B.K "Fold") (foldFl m (.lst (E.map enc4))) [.int (x : Nat), S [s], .int (y : Nat), .list []] fun fl' _ => fl' = foldFl m (.lst ((E ++ [edge x s y]).map enc4))) := by
  refine ok_ov (h_Fold_adds T) s_Fold_adds (by unfold foldFl; simp) rfl fun c hr F p hro hN => ?_
  have nd := s_Fold_adds.nd
  refine sws_one (sw_if (bw_cmp rfl (ew_name 2 (ew_strc CAPS (g_CAPITAL T) (op_in_c ⟨_, rfl, fun z => ?_, fun z => ?_⟩)))))
  · rw [caps_lt hs] at z
    have z := of_decide_eq_true z
    refine sws_one (sw_appR (ref_fld (c_Fold T) (a_Fold_edges T)) (by rw [List.length_map]; omega) (ew_tup (aw_cons (ew_name 3 (aw_cons (ew_lower (ew_name 2 ⟨tx [s], rfl, by show 1 ≤ 5000000; decide, aw_cons (ew_name 1 (aw_cons (ew_opposite T (ew_name 4 ⟨rfl, aw_nil ?_⟩) (hr.mono (by decide)))))⟩)))))))
    rw [low_tn hs z]
    refine ⟨_, rfl, ?_⟩
    unfold edge
    rw [if_pos z, List.map_append]; rfl
  · rw [caps_lt hs] at z
    have z := of_decide_eq_false z
    refine sws_one (sw_appR (ref_fld (c_Fold T) (a_Fold_edges T)) (by rw [List.length_map]; omega) (ew_tup (aw_cons (ew_name 1 (aw_cons (ew_name 2 (aw_cons (ew_name 3 (aw_cons (ew_name 4 (aw_nil ?_)))))))))))
    refine ⟨_, rfl, ?_⟩
    unfold edge
    rw [if_neg z, List.map_append]; rfl
theorem ok_parted (T : Told B) (x y : Nat) : Ok B 1 d_parted p_parted (spV [.int (x : Nat), .int (y : Nat), .list [], .list []] fun r => r = if y = 0 then .tuple [.int (x : Nat), .int 0, .list []] else .tuple [.int (y : Nat), .int (x : Nat), .list []]) := by
  refine ok_v (h_parted T) s_parted rfl fun c hr F hro => ?_
  have nd := s_parted.nd
  refine sws_cons (sw_if (bw_cmp rfl (ew_name 1 (ew_int (op_eq_i ⟨_, rfl, fun z => ?_, fun z => sws_nil ?_⟩)))))
  · have z := of_decide_eq_true z
    have z : y = 0 := by omega
    exact sws_one (sw_ret (ew_tup (aw_cons (ew_name 0 (aw_cons (ew_int (aw_cons (ew_name 3 (aw_nil (by rw [if_pos z]))))))))))
  · have z := of_decide_eq_false z
    have z : y ≠ 0 := by omega
    exact sws_one (sw_ret (ew_tup (aw_cons (ew_name 1 (aw_cons (ew_name 0 (aw_cons (ew_name 2 (aw_nil (by rw [if_neg z]))))))))))
end K78
/-! K78: walks: a round added, clashes. -/
namespace K78
open PySem PySem.Spec L2
variable {B : Bs}
theorem ok_adds_round (T : Told B) (K : List Wd) (m : Nat) (E : Edges) (w : Wd) (I : RInv0 K E m) (hw : w ∈ K) (h4 : W4 w) (hne : w ≠ []) (hz : w.length ≤ 100) (hE : E.length < 10000) :
    Ok B 3 d_Fold_adds_round p_Fold_adds_round (spOV (He.ga B.K "Fold") (foldFl m (.lst (E.map enc4))) [S w, .list []] fun fl' _ => ∃ E' m', fl' = foldFl m' (.lst (E'.map enc4)) ∧ RInv0 K E' m' ∧ (∀ e ∈ E, e ∈ E') ∧ Walks E' 0 w 0 ∧ E'.length = E.length + w.length) := by
  refine ok_ov (h_Fold_adds_round T) s_Fold_adds_round (by unfold foldFl; simp) rfl fun c hr F p hro hN => ?_
  have nd := s_Fold_adds_round.nd
  have hlen : 0 < w.length := List.length_pos_iff.mpr hne
  refine sws_cons (sw_set 3 (ew_int ?_))
  refine sws_one (sw_forM w.zipIdx (fun q => .tuple [.int (q.2 : Nat), S [q.1]]) (fun i ε => ∃ (E1 : Edges) (m1 here : Nat) (s1 s2 s3 : Sl), ε = [.obj p (He.ga B.K "Fold") (foldFl m1 (.lst (E1.map enc4))), .dat (S w), .dat (.list []), .dat (.int (here : Nat)), s1, s2, s3] ∧ (∀ e ∈ E, e ∈ E1) ∧ E1.length = E.length + i ∧
    ((i < w.length ∧ RInv K E1 m1 here (w.take i)) ∨ (i = w.length ∧ RInv0 K E1 m1 ∧ Walks E1 0 w 0))) (iw_enumS (b_enumerate T) (ew_name 1 ⟨w, rfl, enum_map w (fun c => S [c])⟩)) ⟨E, m, 0, .un, .un, .un, rfl, fun e h => h, rfl, .inl ⟨hlen, I.start⟩⟩ ?_ ?_)
  · rintro i q ε' hq ⟨E1, m1, here, s1, s2, s3, rfl, hE1, lE1, hI⟩
    have hq1 := zipIdx_at (List.mem_of_getElem? hq)
    have hi : i < w.length := by have := (List.getElem?_eq_some_iff.mp hq).1; rw [List.length_zipIdx] at this; exact this
    have ei : q = (w[i], i) := by
      have := hq
      rw [List.getElem?_zipIdx, List.getElem?_eq_getElem hi] at this
      simp at this
      exact this.symm
    subst ei
    have I1 : RInv K E1 m1 here (w.take i) := (hI.resolve_right fun z => by omega).2
    have hs : L4 w[i] := h4 _ (List.getElem_mem hi)
    have tk : w.take (i + 1) = w.take i ++ [w[i]] := by rw [List.take_add_one, List.getElem?_eq_getElem hi]; rfl
    refine tw_tup (tws_cons (tw_name 4 (tws_cons (tw_name 5 (tws_nil ?_)))))
    refine sws_cons (sw_set 6 (EW.imp (Q := fun d => d = .int ((if i + 1 = w.length then 0 else m1 : Nat) : Nat)) (ew_if (bw_cmp rfl (ew_name 4 (ew_bin (ew_len (b_len T) (ew_name 1 (.inr ⟨w, rfl, by omega, ew_int (op_sub_i (op_eq_i ⟨_, rfl, fun z => ?_, fun z => ?_⟩))⟩)))))) ) fun r er => ?_))
    · have z := of_decide_eq_true z
      refine ew_int ?_
      rw [if_pos (by omega)]; rfl
    · have z := of_decide_eq_false z
      refine ew_fld ?_ (c_Fold T) (a_Fold_many T)
      rw [if_neg (by omega)]
    subst er
    refine sws_cons (sw_fldA (d1 := .int (m1 : Nat)) (c_Fold T) (a_Fold_many T) (ew_callTy (T := "int") (b_int T) (aw_cons (ew_cmp rfl (ew_name 6 (ew_int (op_ne_i (aw_nil (c_int_b ?_)))))))))
    refine iop_add_i ?_
    by_cases hlast : i + 1 = w.length
    · rw [if_pos hlast]
      refine sws_cons (sw_exprX (xw_selfJ (k := 2) (h_Fold_adds T) (c_Fold T) (m_Fold_adds T) hN ?_))
      refine aw_cons (ew_name 3 (aw_cons (ew_name 5 (aw_cons (ew_name 6 (aw_cons (EW.imp (Q := fun d => d = .list []) ?_ fun d ed => ?_)))))))
      · exact ew_if (bw_cmp rfl (ew_name 4 (ew_int (op_eq_i ⟨_, rfl, fun _ => ew_name 2 rfl, fun _ => ew_lst (aw_nil rfl)⟩))))
      · subst ed
        have em : ((m1 : Nat) : Int) + (if (!decide (((0 : Nat) : Int) = 0)) = true then 1 else 0) = ((m1 : Nat) : Int) := by simp
        rw [em]
        refine aw_nil ⟨_, ok_adds T m1 E1 here w[i] 0 hs (by omega), fun fl' r hh => ?_⟩
        subst hh
        refine sws_one (sw_set 3 (ew_name 6 ?_))
        obtain ⟨J0, JW⟩ := I1.close (many' := m1) hs (by rw [← tk, hlast, List.take_length]; exact hw) (Nat.le_refl _)
        rw [← tk, hlast, List.take_length] at JW
        exact ⟨_, m1, 0, _, _, _, rfl, fun e h => List.mem_append_left _ (hE1 e h), by rw [List.length_append, List.length_singleton]; omega, .inr ⟨hlast, J0, JW⟩⟩
    · rw [if_neg hlast]
      refine sws_cons (sw_exprX (xw_selfJ (k := 2) (h_Fold_adds T) (c_Fold T) (m_Fold_adds T) hN ?_))
      refine aw_cons (ew_name 3 (aw_cons (ew_name 5 (aw_cons (ew_name 6 (aw_cons (EW.imp (Q := fun d => d = .list []) ?_ fun d ed => ?_)))))))
      · exact ew_if (bw_cmp rfl (ew_name 4 (ew_int (op_eq_i ⟨_, rfl, fun _ => ew_name 2 rfl, fun _ => ew_lst (aw_nil rfl)⟩))))
      · subst ed
        have hm0 : m1 ≠ 0 := by have := I1.n; omega
        have em : ((m1 : Nat) : Int) + (if (!decide (((m1 : Nat) : Int) = 0)) = true then 1 else 0) = ((m1 + 1 : Nat) : Int) := by
          rw [decide_eq_false (by omega)]; simp
        rw [em]
        refine aw_nil ⟨_, ok_adds T (m1 + 1) E1 here w[i] m1 hs (by omega), fun fl' r hh => ?_⟩
        subst hh
        refine sws_one (sw_set 3 (ew_name 6 ?_))
        have J := I1.step hs
        rw [← tk] at J
        exact ⟨_, m1 + 1, m1, _, _, _, rfl, fun e h => List.mem_append_left _ (hE1 e h), by rw [List.length_append, List.length_singleton]; omega, .inl ⟨by omega, J⟩⟩
  · rintro ε' ⟨E1, m1, here, s1, s2, s3, rfl, hE1, lE1, hI⟩
    rw [List.length_zipIdx] at hI lE1
    obtain ⟨_, J0, JW⟩ := hI.resolve_left fun z => by omega
    exact ⟨_, rfl, E1, m1, rfl, J0, hE1, JW, lE1⟩
end K78
/-! K78: walks: clashes, steps, walks in a graph. -/
namespace K78
open PySem PySem.Spec L2
variable {B : Bs}
/-- what a clash's two ends come to -/
def PartD (E : Edges) (r : PyData) : Prop := ∃ g k : Nat, r = .tuple [.int (g : Nat), .int (k : Nat), .list []] ∧ g ≠ 0 ∧ g ≠ k ∧ Clash E g k
def NoClash (a b : Nat × Nat × Nat) : Prop := a.2.1 = b.2.1 → (a.1 = b.1 ↔ a.2.2 = b.2.2)
theorem ew_partedC {X : Cx} {F : Fm} {ε : Env} {es : List Expr} {e : Expr} {p pos : Pos} {Q : PyData → Prop} (T : Told (bsOf X)) {E : Edges} {x y : Nat} (hxy : x ≠ y) (hc : Clash E x y) (h : AW X F (e :: es) ε fun ds => ds = [.int (x : Nat), .int (y : Nat), .list [], .list []] ∧ ∀ r, PartD E r → Q r) (hr : Room 1 X.A) (hg : Gl X "parted" := by rfl)
    (he : starEach (e :: es) X.env = (false, eval e X.env) :: starEach es X.env := by rfl) (hpl : (backTo pos (starEach es X.env)).any (·.1) = false := by rfl) : EW X F (.Call (.Name "parted" p) (e :: es) [] pos) ε Q :=
  ew_callJ (h_parted T) (g_parted T) (by
    intro hd Hb H σ S' Q' k
    refine h hd Hb H σ S' Q' fun vs ds Hb' H' S2 g r l ⟨ed, q⟩ => k vs ds Hb' H' S2 g r l ?_
    subst ed
    refine ⟨_, ok_parted T x y, fun r hr => q r ?_⟩
    rw [hr]
    by_cases c : y = 0
    · rw [if_pos c]; exact ⟨x, 0, rfl, by omega, by omega, c ▸ hc⟩
    · rw [if_neg c]; exact ⟨y, x, rfl, c, fun z => hxy z.symm, hc.symm⟩) hr hg (he := he) (hpl := hpl)
theorem ok_clash (T : Told B) (m : Nat) (E : Edges) (sm : Sm E) (hz : E.length < 10000) : Ok B 2 d_Fold_clash p_Fold_clash (spPV (He.ga B.K "Fold") (foldFl m (.dat (.list (E.map enc4)))) [] fun r => (r = .none ∧ Det E) ∨ PartD E r) := by
  refine ok_pv (h_Fold_clash T) s_Fold_clash rfl fun c hr F p hN => ?_
  have nd := s_Fold_clash.nd
  refine sws_cons (sw_forM E.zipIdx (fun q => .tuple [.int (q.2 : Nat), enc4 q.1]) (fun i ε => (∃ s1 s2 s3 : Sl, ε = [.obj p (He.ga B.K "Fold") (foldFl m (.dat (.list (E.map enc4)))), s1, s2, s3]) ∧ ∀ a b, a < i → b < a → ∀ f g, E[a]? = some f → E[b]? = some g → NoClash f g) (iw_enum (b_enumerate T) (ew_fld ⟨_, rfl, enum_map E enc4⟩ (c_Fold T) (a_Fold_edges T))) ⟨⟨_, _, _, rfl⟩, fun a b h => absurd h (Nat.not_lt_zero _)⟩ ?_ ?_)
  · rintro i q ε' hq ⟨⟨s1, s2, s3, rfl⟩, hI⟩
    have hq1 := zipIdx_at (List.mem_of_getElem? hq)
    have hi : i < E.length := by have := (List.getElem?_eq_some_iff.mp hq).1; rw [List.length_zipIdx] at this; exact this
    have ei : q.2 = i := by
      have := hq
      rw [List.getElem?_zipIdx, List.getElem?_eq_getElem hi] at this
      simp at this
      rw [← this]
    obtain ⟨⟨x1, a1, y1⟩, qi⟩ := q
    have ei : qi = i := ei
    subst ei
    have hq1 : E[qi]? = some (x1, a1, y1) := hq1
    have m1 := List.mem_of_getElem? hq1
    refine tw_tup (tws_cons (tw_name 1 (tws_cons (tw_name 2 (tws_nil ?_)))))
    refine sws_one (sw_forM (E.take qi) enc4 (fun j ε => (∃ s3 : Sl, ε = [.obj p (He.ga B.K "Fold") (foldFl m (.dat (.list (E.map enc4)))), .dat (.int (qi : Nat)), .dat (enc4 (x1, a1, y1)), s3]) ∧ ∀ b, b < j → ∀ g, (E.take qi)[b]? = some g → NoClash (x1, a1, y1) g) (iw_list (ew_slice (ew_fld (ow_none (ow_some (ew_name 1 ⟨_, rfl, sl_l ⟨_, rfl, by rw [cut_to, List.map_take]⟩⟩))) (c_Fold T) (a_Fold_edges T)))) ⟨⟨_, rfl⟩, fun b h => absurd h (Nat.not_lt_zero _)⟩ ?_ ?_)
    · rintro j ⟨x2, a2, y2⟩ ε' hj ⟨⟨s3, rfl⟩, hJ⟩
      have m2 : (x2, a2, y2) ∈ E := List.mem_of_mem_take (List.mem_of_getElem? hj)
      refine tw_name 3 ?_
      -- one[1] == other[1]
      have fin : NoClash (x1, a1, y1) (x2, a2, y2) → (∃ s3 : Sl, [Sl.obj p (He.ga B.K "Fold") (foldFl m (.dat (.list (E.map enc4)))), .dat (.int (qi : Nat)), .dat (enc4 (x1, a1, y1)), .dat (enc4 (x2, a2, y2))] = [.obj p (He.ga B.K "Fold") (foldFl m (.dat (.list (E.map enc4)))), .dat (.int (qi : Nat)), .dat (enc4 (x1, a1, y1)), s3]) ∧ ∀ b, b < j + 1 → ∀ g, (E.take qi)[b]? = some g → NoClash (x1, a1, y1) g := fun nc => by
        refine ⟨⟨_, rfl⟩, fun b hb g hg => ?_⟩
        by_cases cb : b = j
        · subst cb; rw [hj] at hg; cases hg; exact nc
        · exact hJ b (by omega) g hg
      refine sws_cons (sw_if (bw_w (bww_and (bw_cmp rfl (ew_ix (ew_name 2 (ew_int (ix_t (d := S [a1]) rfl (ew_ix (ew_name 3 (ew_int (ix_t (d := S [a2]) rfl (op_eq_s ⟨_, rfl, fun za => ?_, fun za => ?_⟩)))))))))))))
      · rw [sing_inj] at za
        have za := of_decide_eq_true za
        subst za
        refine bww_and (bw_cmp rfl (ew_ix (ew_name 2 (ew_int (ix_t (d := .int (x1 : Nat)) rfl (ew_ix (ew_name 3 (ew_int (ix_t (d := .int (x2 : Nat)) rfl (op_eq_i ⟨_, rfl, fun zb => ?_, fun zb => ?_⟩))))))))))
        · have zb := of_decide_eq_true zb
          have zb : x1 = x2 := by omega
          subst zb
          refine bww_and1 (bw_cmp rfl (ew_ix (ew_name 2 (ew_int (ix_t (d := .int (y1 : Nat)) rfl (ew_ix (ew_name 3 (ew_int (ix_t (d := .int (y2 : Nat)) rfl (op_ne_i ⟨_, rfl, fun zc => ?_, fun zc => sws_nil ?_⟩))))))))))
          · have zc : y1 ≠ y2 := by
              intro h; subst h; simp at zc
            refine sws_one (sw_ret (ew_partedC T (E := E) (x := y2) (y := y1) (fun z => zc z.symm) (.inl ⟨x1, a1, m2, m1⟩) ?_ (hr.mono (by decide))))
            refine aw_cons (ew_ix (ew_name 3 (ew_int (ix_t (d := .int (y2 : Nat)) rfl (aw_cons (ew_ix (ew_name 2 (ew_int (ix_t (d := .int (y1 : Nat)) rfl ?_)))))))))
            refine aw_cons (ew_bin (ew_opposite T (ew_ix (ew_name 3 (ew_int (ix_t (d := .list []) rfl ⟨rfl, ew_ix (ew_name 2 (ew_int (ix_t (d := .list []) rfl (op_cat_d (by decide) ?_))))⟩)))) (hr.mono (by decide))))
            refine aw_cons (ew_bin (ew_opposite T (ew_ix (ew_name 2 (ew_int (ix_t (d := .list []) rfl ⟨rfl, ew_ix (ew_name 3 (ew_int (ix_t (d := .list []) rfl (op_cat_d (by decide) (aw_nil ⟨rfl, fun r h => .inr h⟩)))))⟩)))) (hr.mono (by decide))))
          · have zc : y1 = y2 := by
              by_cases h : y1 = y2
              · exact h
              · rw [decide_eq_false (by omega)] at zc; cases zc
            subst zc
            refine sws_cons (sw_if (bw_w (bww_and (bw_cmp rfl (ew_ix (ew_name 2 (ew_int (ix_t (d := S [a1]) rfl (ew_ix (ew_name 3 (ew_int (ix_t (d := S [a1]) rfl (op_eq_s ⟨_, rfl, fun za => ?_, fun za => ⟨fun z => (by cases z), fun _ => sws_nil (sws_nil (fin fun _ => ⟨fun _ => rfl, fun _ => rfl⟩))⟩⟩)))))))))))))
            refine bww_and (bw_cmp rfl (ew_ix (ew_name 2 (ew_int (ix_t (d := .int (y1 : Nat)) rfl (ew_ix (ew_name 3 (ew_int (ix_t (d := .int (y1 : Nat)) rfl (op_eq_i ⟨_, rfl, fun zb => ?_, fun zb => ⟨fun z => (by cases z), fun _ => sws_nil (sws_nil (fin fun _ => ⟨fun _ => rfl, fun _ => rfl⟩))⟩⟩))))))))))
            refine bww_and1 (bw_cmp rfl (ew_ix (ew_name 2 (ew_int (ix_t (d := .int (x1 : Nat)) rfl (ew_ix (ew_name 3 (ew_int (ix_t (d := .int (x1 : Nat)) rfl (op_ne_i ⟨_, rfl, fun zd => ?_, fun zd => sws_nil (sws_nil (fin fun _ => ⟨fun _ => rfl, fun _ => rfl⟩))⟩))))))))))
            rw [decide_eq_true rfl] at zd; cases zd
        · have zb : x1 ≠ x2 := fun h => by rw [h, decide_eq_true rfl] at zb; cases zb
          refine ⟨fun z => (by cases z), fun _ => sws_nil ?_⟩
          refine sws_cons (sw_if (bw_w (bww_and (bw_cmp rfl (ew_ix (ew_name 2 (ew_int (ix_t (d := S [a1]) rfl (ew_ix (ew_name 3 (ew_int (ix_t (d := S [a1]) rfl (op_eq_s ⟨_, rfl, fun za => ?_, fun za => ?_⟩)))))))))))))
          · refine bww_and (bw_cmp rfl (ew_ix (ew_name 2 (ew_int (ix_t (d := .int (y1 : Nat)) rfl (ew_ix (ew_name 3 (ew_int (ix_t (d := .int (y2 : Nat)) rfl (op_eq_i ⟨_, rfl, fun zc => ?_, fun zc => ?_⟩))))))))))
            · have zc := of_decide_eq_true zc
              have zc : y1 = y2 := by omega
              subst zc
              refine bww_and1 (bw_cmp rfl (ew_ix (ew_name 2 (ew_int (ix_t (d := .int (x1 : Nat)) rfl (ew_ix (ew_name 3 (ew_int (ix_t (d := .int (x2 : Nat)) rfl (op_ne_i ⟨_, rfl, fun zd => ?_, fun zd => ?_⟩))))))))))
              · refine sws_one (sw_ret (ew_partedC T (E := E) (x := x2) (y := x1) (fun z => zb z.symm) (.inr ⟨a1, y1, m2, m1⟩) ?_ (hr.mono (by decide))))
                refine aw_cons (ew_ix (ew_name 3 (ew_int (ix_t (d := .int (x2 : Nat)) rfl (aw_cons (ew_ix (ew_name 2 (ew_int (ix_t (d := .int (x1 : Nat)) rfl ?_)))))))))
                refine aw_cons (ew_bin (ew_ix (ew_name 3 (ew_int (ix_t (d := .list []) rfl (ew_opposite T (ew_ix (ew_name 2 (ew_int (ix_t (d := .list []) rfl ⟨rfl, op_cat_d (by decide) ?_⟩)))) (hr.mono (by decide))))))))
                refine aw_cons (ew_bin (ew_ix (ew_name 2 (ew_int (ix_t (d := .list []) rfl (ew_opposite T (ew_ix (ew_name 3 (ew_int (ix_t (d := .list []) rfl ⟨rfl, op_cat_d (by decide) (aw_nil ⟨rfl, fun r h => .inr h⟩)⟩)))) (hr.mono (by decide))))))))
              · rw [decide_eq_false (by omega)] at zd; cases zd
            · have zc : y1 ≠ y2 := fun h => by rw [h, decide_eq_true rfl] at zc; cases zc
              exact ⟨fun z => (by cases z), fun _ => sws_nil (sws_nil (fin fun _ => ⟨fun h => absurd h zb, fun h => absurd h zc⟩))⟩
          · rw [decide_eq_true rfl] at za; cases za
      · rw [sing_inj] at za
        have za := of_decide_eq_false za
        refine ⟨fun z => (by cases z), fun _ => sws_nil ?_⟩
        refine sws_cons (sw_if (bw_w (bww_and (bw_cmp rfl (ew_ix (ew_name 2 (ew_int (ix_t (d := S [a1]) rfl (ew_ix (ew_name 3 (ew_int (ix_t (d := S [a2]) rfl (op_eq_s ⟨_, rfl, fun zb => ?_, fun zb => ?_⟩)))))))))))))
        · rw [sing_inj] at zb; exact absurd (of_decide_eq_true zb) za
        · exact ⟨fun z => (by cases z), fun _ => sws_nil (sws_nil (fin fun h => absurd h za))⟩
    · rintro ε' ⟨⟨s3, rfl⟩, hJ⟩
      refine ⟨⟨_, _, _, rfl⟩, fun a b ha hb f g hf hg => ?_⟩
      by_cases ca : a = qi
      · subst ca
        rw [hq1] at hf; cases hf
        refine hJ b (by rw [List.length_take]; omega) g ?_
        rw [List.getElem?_take_of_lt hb]; exact hg
      · exact hI a b (by omega) hb f g hf hg
  · rintro ε' ⟨⟨s1, s2, s3, rfl⟩, hI⟩
    rw [List.length_zipIdx] at hI
    refine sws_one (sw_ret (ew_non (.inl ⟨rfl, fun e he f hf hl => ?_⟩)))
    obtain ⟨a, ha⟩ := List.getElem?_of_mem he
    obtain ⟨b, hb⟩ := List.getElem?_of_mem hf
    have la := (List.getElem?_eq_some_iff.mp ha).1
    have lb := (List.getElem?_eq_some_iff.mp hb).1
    rcases Nat.lt_trichotomy a b with h | h | h
    · have := hI b a lb h f e hb ha hl.symm
      exact ⟨fun z => (this.mp z.symm).symm, fun z => (this.mpr z.symm).symm⟩
    · subst h; rw [ha] at hb; cases hb; exact ⟨fun _ => rfl, fun _ => rfl⟩
    · exact hI a b la h e f ha hb hl
end K78
/-! K78: walks: rooms put together, steps. -/
namespace K78
open PySem PySem.Spec L2
variable {B : Bs}
theorem sw_to {X : Cx} {F : Fm} {ε : Env} {R : ER} {st : Stmt} (ε1 : Env) (h : SW X F st ε ⟨fun ε' => ε' = ε1, fun _ _ => False, fun _ => False, fun _ => False⟩) (q : R.nx ε1) : SW X F st ε R :=
  h.imp (fun ε' e => by subst e; exact q) (fun _ _ z => z.elim) (fun _ z => z.elim) (fun _ z => z.elim)
def mrgE (g k : Nat) (e : Nat × Nat × Nat) : Nat × Nat × Nat := (mrg g k e.1, e.2.1, mrg g k e.2.2)
def key3 (e : Nat × Nat × Nat) : List Key := [.inl (e.1 : Int), .inr (tx [e.2.1]), .inl (e.2.2 : Int)]
theorem key3_inj {e f : Nat × Nat × Nat} (h : key3 e = key3 f) : e = f := by
  obtain ⟨a, b, c⟩ := e
  obtain ⟨x, y, z⟩ := f
  unfold key3 at h
  simp only [List.cons.injEq, Sum.inl.injEq, Sum.inr.injEq] at h
  obtain ⟨h1, h2, h3, _⟩ := h
  have h2 := tx_inj h2
  simp at h2
  have h1 : (a : Int) = x := h1
  have h3 : (c : Int) = z := h3
  have : a = x := by omega
  have : c = z := by omega
  subst_vars; rfl
theorem ok_puts (T : Told B) (m : Nat) (E : Edges) (g k : Nat) (hz : E.length < 10000) : Ok B 2 d_Fold_puts p_Fold_puts (spOV (He.ga B.K "Fold") (foldFl m (.dat (.list (E.map enc4)))) [.int (g : Nat), .int (k : Nat), .list []] fun fl' _ => ∃ E' : Edges, fl' = foldFl m (.dat (.list (E'.map enc4))) ∧ (∀ e, e ∈ E' ↔ ∃ f ∈ E, e = (mrg g k f.1, f.2.1, mrg g k f.2.2)) ∧ E'.length ≤ E.length) := by
  refine ok_ov (h_Fold_puts T) s_Fold_puts (by unfold foldFl; simp) rfl fun c hr F p hro hN => ?_
  have nd := s_Fold_puts.nd
  have hu : (cx B d_Fold_puts n_Fold_puts c).A.units + 1 < cLine := by have := hr.units; omega
  refine sws_cons (sw_par 4 5 (pw_ln (aw_nil (nw_dT ?_))))
  refine sws_cons (sw_forM E enc4 (fun i ε => ∃ (E' : Edges) (kvs : List (List Key × PyData)) (s1 s2 s3 s4 : Sl), ε = [.obj p (He.ga B.K "Fold") (foldFl m (.dat (.list (E.map enc4)))), .dat (.int (g : Nat)), .dat (.int (k : Nat)), .dat (.list []), .lst (E'.map enc4), .fv (.dT kvs), s1, s2, s3, s4] ∧ (∀ e, e ∈ E' ↔ ∃ f ∈ E.take i, e = mrgE g k f) ∧ E'.length ≤ i ∧ kvs.length ≤ i ∧ ∀ e, (valG kvs (key3 e)).isSome = true ↔ e ∈ E')
    (iw_list (ew_fld ⟨_, rfl, rfl⟩ (c_Fold T) (a_Fold_edges T))) ⟨[], [], .un, .un, .un, .un, rfl, fun e => by simp, Nat.le_refl _, Nat.le_refl _, fun e => by simp [valG_nil]⟩ ?_ ?_)
  · rintro i ⟨x, a, y⟩ ε' hx ⟨E', kvs, s1, s2, s3, s4, rfl, hE, lE, lk, hk⟩
    have tk : E.take (i + 1) = E.take i ++ [(x, a, y)] := by rw [List.take_add_one, hx]; rfl
    have hi : i < E.length := (List.getElem?_eq_some_iff.mp hx).1
    refine tw_tup (tws_cons (tw_name 6 (tws_cons (tw_name 7 (tws_cons (tw_name 8 (tws_cons (tw_name 9 (tws_nil ?_)))))))))
    refine sws_cons (sw_to [.obj p (He.ga B.K "Fold") (foldFl m (.dat (.list (E.map enc4)))), .dat (.int (g : Nat)), .dat (.int (k : Nat)), .dat (.list []), .lst (E'.map enc4), .fv (.dT kvs), .dat (.int ((mrg g k x : Nat) : Nat)), .dat (S [a]), .dat (.int (y : Nat)), .dat (.list [])] (sw_if (bw_cmp rfl (ew_name 6 (ew_name 1 (op_eq_i ⟨_, rfl, fun z => ?_, fun z => sws_nil ?_⟩))))) ?_)
    · have z := of_decide_eq_true z
      refine sws_one (sw_par 6 9 (pw_dd (ew_name 2 (ew_bin (ew_name 3 (ew_name 9 (op_cat_d (ds := []) (es := []) (by decide) ?_)))))))
      rw [show mrg g k x = k from if_pos (by omega)]; rfl
    · have z := of_decide_eq_false z
      rw [show mrg g k x = x from if_neg (by omega)]; rfl
    refine sws_cons (sw_to [.obj p (He.ga B.K "Fold") (foldFl m (.dat (.list (E.map enc4)))), .dat (.int (g : Nat)), .dat (.int (k : Nat)), .dat (.list []), .lst (E'.map enc4), .fv (.dT kvs), .dat (.int ((mrg g k x : Nat) : Nat)), .dat (S [a]), .dat (.int ((mrg g k y : Nat) : Nat)), .dat (.list [])] (sw_if (bw_cmp rfl (ew_name 8 (ew_name 1 (op_eq_i ⟨_, rfl, fun z => ?_, fun z => sws_nil ?_⟩))))) ?_)
    · have z := of_decide_eq_true z
      refine sws_one (sw_par 8 9 (pw_dd (ew_name 2 (ew_bin (ew_name 9 (ew_opposite T (ew_name 3 ⟨rfl, op_cat_d (ds := []) (es := []) (by decide) ?_⟩) (hr.mono (by decide))))))))
      rw [show mrg g k y = k from if_pos (by omega)]; rfl
    · have z := of_decide_eq_false z
      rw [show mrg g k y = y from if_neg (by omega)]
      try rfl
    have em : mrgE g k (x, a, y) = (mrg g k x, a, mrg g k y) := rfl
    refine sws_one (sw_if (bw_dnin (ref_slot 5) hu (ew_tup (aw_cons (ew_name 6 (aw_cons (ew_name 7 (aw_cons (ew_name 8 (aw_nil ⟨(valG kvs (key3 (mrgE g k (x, a, y)))).isSome, .inr ⟨kvs, key3 (mrgE g k (x, a, y)), rfl, rfl, rfl⟩, fun z => ?_, fun z => sws_nil ?_⟩))))))))))
    · have z : (valG kvs (key3 (mrgE g k (x, a, y)))).isSome = false := by simpa using z
      have z' : mrgE g k (x, a, y) ∉ E' := fun h => by rw [(hk _).mpr h] at z; cases z
      refine sws_cons (sw_dputT (ref_slot 5) hu (by omega) (ew_bl (ew_tup (aw_cons (ew_name 6 (aw_cons (ew_name 7 (aw_cons (ew_name 8 (aw_nil ⟨key3 (mrgE g k (x, a, y)), rfl, ?_⟩))))))))))
      refine sws_one (sw_append 4 rfl (by rw [List.length_map]; omega) (ew_tup (aw_cons (ew_name 6 (aw_cons (ew_name 7 (aw_cons (ew_name 8 (aw_cons (ew_shortened T (ew_name 9 ⟨rfl, aw_nil ?_⟩) (hr.mono (by decide))))))))))))
      refine ⟨E' ++ [mrgE g k (x, a, y)], putG kvs (key3 (mrgE g k (x, a, y))) (.bool true), .dat (.int ((mrg g k x : Nat) : Nat)), .dat (S [a]), .dat (.int ((mrg g k y : Nat) : Nat)), .dat (.list []), ?_, fun e => ?_, ?_, ?_, fun e => ?_⟩
      · rw [List.map_append]; rfl
      · rw [List.mem_append, List.mem_singleton, hE, tk]
        constructor
        · rintro (⟨f, hf, rfl⟩ | rfl)
          · exact ⟨f, List.mem_append_left _ hf, rfl⟩
          · exact ⟨_, List.mem_append_right _ (List.mem_singleton.mpr rfl), rfl⟩
        · rintro ⟨f, hf, rfl⟩
          rcases List.mem_append.mp hf with q | q
          · exact .inl ⟨f, q, rfl⟩
          · cases List.mem_singleton.mp q; exact .inr rfl
      · rw [List.length_append, List.length_singleton]; omega
      · have := putG_len kvs (key3 (mrgE g k (x, a, y))) (PyData.bool true); omega
      · rw [valG_put, List.mem_append, List.mem_singleton]
        by_cases ce : key3 e = key3 (mrgE g k (x, a, y))
        · rw [if_pos ce]; exact ⟨fun _ => .inr (key3_inj ce), fun _ => rfl⟩
        · rw [if_neg ce, hk]; exact ⟨.inl, fun h => h.elim (fun q => q) fun q => absurd (congrArg key3 q) ce⟩
    · have z : (valG kvs (key3 (mrgE g k (x, a, y)))).isSome = true := by simpa using z
      have z' := (hk _).mp z
      refine ⟨E', kvs, .dat (.int ((mrg g k x : Nat) : Nat)), .dat (S [a]), .dat (.int ((mrg g k y : Nat) : Nat)), .dat (.list []), rfl, fun e => ?_, by omega, by omega, hk⟩
      rw [hE, tk]
      constructor
      · rintro ⟨f, hf, rfl⟩; exact ⟨f, List.mem_append_left _ hf, rfl⟩
      · rintro ⟨f, hf, rfl⟩
        rcases List.mem_append.mp hf with q | q
        · exact ⟨f, q, rfl⟩
        · cases List.mem_singleton.mp q; exact (hE _).mp z'
  · rintro ε' ⟨E', kvs, s1, s2, s3, s4, rfl, hE, lE, lk, hk⟩
    rw [List.take_length] at hE
    refine sws_freeze 4 (sws_one (sw_fldD (ew_name 4 ⟨_, rfl, E', rfl, hE, lE⟩) (c_Fold T) (a_Fold_edges T)))
end K78
/-! K78: walks: steps in a graph, the fold made. -/
namespace K78
open PySem PySem.Spec L2
variable {B : Bs}
def StepD (E : Edges) (x s : Nat) (r : PyData) : Prop := (r = .none ∧ ∀ y, ¬ St E x s y) ∨ ∃ y : Nat, r = .tuple [.int (y : Nat), .list []] ∧ St E x s y
theorem ok_step (T : Told B) (m : Nat) (E : Edges) (x s : Nat) (hs : L4 s) : Ok B 2 d_Fold_step p_Fold_step (spPV (He.ga B.K "Fold") (foldFl m (.dat (.list (E.map enc4)))) [.int (x : Nat), S [s]] (StepD E x s)) := by
  refine ok_pv (h_Fold_step T) s_Fold_step rfl fun c hr F p hN => ?_
  have nd := s_Fold_step.nd
  refine sws_cons (sw_forM E enc4 (fun i ε => (∃ s1 s2 s3 s4 : Sl, ε = [.obj p (He.ga B.K "Fold") (foldFl m (.dat (.list (E.map enc4)))), .dat (.int (x : Nat)), .dat (S [s]), s1, s2, s3, s4]) ∧ ∀ e ∈ E.take i, ¬ (e.2.1 = s ∧ e.1 = x) ∧ ¬ (e.2.1 = tn s ∧ e.2.2 = x))
    (iw_list (ew_fld ⟨_, rfl, rfl⟩ (c_Fold T) (a_Fold_edges T))) ⟨⟨_, _, _, _, rfl⟩, fun e he => by simp at he⟩ ?_ ?_)
  · rintro i ⟨x1, a, y1⟩ ε' hx ⟨⟨s1, s2, s3, s4, rfl⟩, hI⟩
    have m1 := List.mem_of_getElem? hx
    have tk : E.take (i + 1) = E.take i ++ [(x1, a, y1)] := by rw [List.take_add_one, hx]; rfl
    refine tw_tup (tws_cons (tw_name 3 (tws_cons (tw_name 4 (tws_cons (tw_name 5 (tws_cons (tw_name 6 (tws_nil ?_)))))))))
    have nxt : ¬ (a = s ∧ x1 = x) → ¬ (a = tn s ∧ y1 = x) → (∃ s1 s2 s3 s4 : Sl, [Sl.obj p (He.ga B.K "Fold") (foldFl m (.dat (.list (E.map enc4)))), .dat (.int (x : Nat)), .dat (S [s]), .dat (.int (x1 : Nat)), .dat (S [a]), .dat (.int (y1 : Nat)), .dat (.list [])] = [.obj p (He.ga B.K "Fold") (foldFl m (.dat (.list (E.map enc4)))), .dat (.int (x : Nat)), .dat (S [s]), s1, s2, s3, s4]) ∧ ∀ e ∈ E.take (i + 1), ¬ (e.2.1 = s ∧ e.1 = x) ∧ ¬ (e.2.1 = tn s ∧ e.2.2 = x) := fun n1 n2 => by
      refine ⟨⟨_, _, _, _, rfl⟩, fun e he => ?_⟩
      rw [tk] at he
      rcases List.mem_append.mp he with q | q
      · exact hI e q
      · cases List.mem_singleton.mp q; exact ⟨n1, n2⟩
    refine sws_cons (sw_if (bw_w (bww_and (bw_cmp rfl (ew_name 2 (ew_name 4 (op_eq_s ⟨_, rfl, fun z => ?_, fun z => ?_⟩)))))))
    · rw [sing_inj] at z
      have z := of_decide_eq_true z
      refine bww_and1 (bw_cmp rfl (ew_name 3 (ew_name 1 (op_eq_i ⟨_, rfl, fun z1 => ?_, fun z1 => sws_nil ?_⟩))))
      · have z1 := of_decide_eq_true z1
        have z1 : x1 = x := by omega
        refine sws_one (sw_ret (ew_tup (aw_cons (ew_name 5 (aw_cons (ew_name 6 (aw_nil (.inr ⟨y1, rfl, .inl ?_⟩))))))))
        rw [z, ← z1]; exact m1
      · have z1 := of_decide_eq_false z1
        have n1 : ¬ (a = s ∧ x1 = x) := fun h => z1 (by rw [h.2])
        refine sws_one (sw_if (bw_w (bww_and (bw_cmp rfl (ew_turned T (ew_name 2 ⟨s, rfl, hs, ew_name 4 (op_eq_s ⟨_, rfl, fun z2 => ?_, fun z2 => ⟨fun y => (by cases y), fun _ => sws_nil (nxt n1 fun h => ?_)⟩⟩)⟩) (hr.mono (by decide)))))))
        · rw [sing_inj] at z2
          have z2 := of_decide_eq_true z2
          refine bww_and1 (bw_cmp rfl (ew_name 5 (ew_name 1 (op_eq_i ⟨_, rfl, fun z3 => ?_, fun z3 => sws_nil (nxt n1 fun h => ?_)⟩))))
          · have z3 : ((y1 : Nat) : Int) = (x : Nat) := of_decide_eq_true z3
            have z3 : y1 = x := by omega
            refine sws_one (sw_ret (ew_tup (aw_cons (ew_name 3 (aw_cons (ew_opposite T (ew_name 6 ⟨rfl, aw_nil (.inr ⟨x1, rfl, .inr ?_⟩)⟩) (hr.mono (by decide))))))))
            rw [z2, ← z3]; exact m1
          · exact (of_decide_eq_false z3) (by rw [h.2])
        · rw [sing_inj] at z2
          exact (of_decide_eq_false z2) h.1.symm
    · rw [sing_inj] at z
      have z := of_decide_eq_false z
      have n1 : ¬ (a = s ∧ x1 = x) := fun h => z h.1.symm
      refine ⟨fun y => (by cases y), fun _ => sws_nil ?_⟩
      refine sws_one (sw_if (bw_w (bww_and (bw_cmp rfl (ew_turned T (ew_name 2 ⟨s, rfl, hs, ew_name 4 (op_eq_s ⟨_, rfl, fun z2 => ?_, fun z2 => ⟨fun y => (by cases y), fun _ => sws_nil (nxt n1 fun h => ?_)⟩⟩)⟩) (hr.mono (by decide)))))))
      · rw [sing_inj] at z2
        have z2 := of_decide_eq_true z2
        refine bww_and1 (bw_cmp rfl (ew_name 5 (ew_name 1 (op_eq_i ⟨_, rfl, fun z3 => ?_, fun z3 => sws_nil (nxt n1 fun h => ?_)⟩))))
        · have z3 : ((y1 : Nat) : Int) = (x : Nat) := of_decide_eq_true z3
          have z3 : y1 = x := by omega
          refine sws_one (sw_ret (ew_tup (aw_cons (ew_name 3 (aw_cons (ew_opposite T (ew_name 6 ⟨rfl, aw_nil (.inr ⟨x1, rfl, .inr ?_⟩)⟩) (hr.mono (by decide))))))))
          rw [z2, ← z3]; exact m1
        · exact (of_decide_eq_false z3) (by rw [h.2])
      · rw [sing_inj] at z2
        exact (of_decide_eq_false z2) h.1.symm
  · rintro ε' ⟨⟨s1, s2, s3, s4, rfl⟩, hI⟩
    rw [List.take_length] at hI
    refine sws_one (sw_ret (ew_non (.inl ⟨rfl, fun y h => ?_⟩)))
    rcases h with h | h
    · exact (hI _ h).1 ⟨rfl, rfl⟩
    · exact (hI _ h).2 ⟨rfl, rfl⟩
end K78
/-! K78: walks: the fold made, what it tells. -/
namespace K78
open PySem PySem.Spec L2
variable {B : Bs}
theorem ok_walked (T : Told B) (m : Nat) (E : Edges) (sm : Sm E) (d : Det E) (w : Wd) (hw : W4 w) (hz : w.length ≤ 1000) : Ok B 3 d_Fold_walked p_Fold_walked (spPV (He.ga B.K "Fold") (foldFl m (.dat (.list (E.map enc4)))) [S w] fun r => (r = .none ∧ ∀ y, ¬ Walks E 0 (red w) y) ∨ ∃ y : Nat, r = .tuple [.int (y : Nat), .list []] ∧ Walks E 0 (red w) y) := by
  refine ok_pv (h_Fold_walked T) s_Fold_walked rfl fun c hr F p hN => ?_
  have nd := s_Fold_walked.nd
  have hrw := W4.red hw
  refine sws_cons (sw_par 2 3 (pw_dd (ew_int (ew_lst (aw_nil ?_)))))
  refine sws_cons (sw_forM (red w) (fun c => S [c]) (fun i ε => ∃ (y : Nat) (s1 s2 : Sl), Walks E 0 ((red w).take i) y ∧ ε = [.obj p (He.ga B.K "Fold") (foldFl m (.dat (.list (E.map enc4)))), .dat (S w), .dat (.int (y : Nat)), .dat (.list []), s1, s2]) (iw_str (ew_reduced T (ew_name 1 ⟨w, rfl, hw, hz, _, rfl, rfl⟩) (hr.mono (by decide)))) ⟨0, .un, .un, .nil, rfl⟩ ?_ ?_)
  · rintro i x ε' hx ⟨y, s1, s2, hW, rfl⟩
    have h4 : L4 x := hrw x (List.mem_of_getElem? hx)
    have hi : i < (red w).length := (List.getElem?_eq_some_iff.mp hx).1
    have tk : (red w).take (i + 1) = (red w).take i ++ [x] := by rw [List.take_add_one, hx]; rfl
    refine tw_name 4 (sws_cons (sw_set 5 (ew_selfJ (k := 2) (h_Fold_step T) (c_Fold T) (m_Fold_step T) (aw_cons (ew_name 2 (aw_cons (ew_name 4 (aw_nil ⟨_, ok_step T m E y x h4, fun r hr' => ?_⟩))))))))
    rcases hr' with ⟨rfl, no⟩ | ⟨z, rfl, st⟩
    · refine sws_cons (sw_if (bw_cmp rfl (ew_name 5 (ew_non (op_is_n (d1 := .none) (.inl rfl) ⟨_, rfl, fun _ => ?_, fun z => (by cases z)⟩)))))
      refine sws_one (sw_ret (ew_non (.inl ⟨rfl, fun z hz' => ?_⟩)))
      have split : ∀ (u v : Wd) (z : Nat), Walks E 0 (u ++ v) z → ∃ t, Walks E 0 u t := by
        intro u v
        refine snoc_ind (P := fun v => ∀ z, Walks E 0 (u ++ v) z → ∃ t, Walks E 0 u t) (fun z h => ⟨z, by rw [List.append_nil] at h; exact h⟩) (fun v c ih z h => ?_) v
        rw [← List.append_assoc] at h
        obtain ⟨m', h1, _, _⟩ := h.last
        exact ih m' h1
      have hz2 : Walks E 0 ((red w).take (i + 1) ++ (red w).drop (i + 1)) z := by rw [List.take_append_drop]; exact hz'
      obtain ⟨t, ht⟩ := split _ _ _ hz2
      rw [tk] at ht
      obtain ⟨m', h1, _, h3⟩ := ht.last
      rw [walks_det d sm h1 hW] at h3
      exact no t h3
    · refine sws_cons (sw_if (bw_cmp rfl (ew_name 5 (ew_non (op_is_n (.inr (.inr ⟨_, rfl⟩)) ⟨_, rfl, fun z => (by cases z), fun _ => sws_nil ?_⟩)))))
      refine sws_one (sw_par 2 3 (pw_dd (ew_ix (ew_name 5 (ew_int (ix_t (d := .int (z : Nat)) rfl (ew_bin (ew_name 3 (ew_ix (ew_name 5 (ew_int (ix_t (d := .list []) rfl (op_cat_d (ds := []) (es := []) (by decide) ?_)))))))))))))
      exact ⟨z, .dat (S [x]), .dat (.tuple [.int (z : Nat), .list []]), by rw [tk]; exact .snoc hW h4 st, rfl⟩
  · rintro ε' ⟨y, s1, s2, hW, rfl⟩
    rw [List.take_length] at hW
    refine sws_one (sw_ret (ew_tup (aw_cons (ew_name 2 (aw_cons (ew_shortened T (ew_name 3 ⟨rfl, aw_nil (.inr ⟨y, rfl, hW⟩)⟩) (hr.mono (by decide))))))))
theorem ok_Fold_plan (T : Told B) (m : Nat) (E : Edges) (sm : Sm E) (d : Det E) (w : Wd) (hw : W4 w) (hz : w.length ≤ 1000) : Ok B 4 d_Fold_told_plan p_Fold_told_plan (spPV (He.ga B.K "Fold") (foldFl m (.dat (.list (E.map enc4)))) [S w] fun r => (r = .none ∧ ¬ Walks E 0 (red w) 0) ∨ (r = .list [] ∧ Walks E 0 (red w) 0)) := by
  refine ok_pv (h_Fold_told_plan T) s_Fold_told_plan rfl fun c hr F p hN => ?_
  have nd := s_Fold_told_plan.nd
  refine sws_cons (sw_set 2 (ew_selfJ (k := 3) (h_Fold_walked T) (c_Fold T) (m_Fold_walked T) (aw_cons (ew_name 1 (aw_nil ⟨_, ok_walked T m E sm d w hw hz, fun r hr' => ?_⟩)))))
  rcases hr' with ⟨rfl, no⟩ | ⟨y, rfl, hW⟩
  · refine sws_one (sw_ret (ew_if (bw_w (bww_and (bw_cmp rfl (ew_name 2 (ew_non (op_nis_n (d1 := .none) (.inl rfl) ⟨_, rfl, fun z => (by cases z), fun _ => ⟨fun z => (by cases z), fun _ => ew_non (.inl ⟨rfl, no 0⟩)⟩⟩))))))))
  · refine sws_one (sw_ret (ew_if (bw_w (bww_and (bw_cmp rfl (ew_name 2 (ew_non (op_nis_n (.inr (.inr ⟨_, rfl⟩)) ⟨_, rfl, fun _ => ?_, fun z => (by cases z)⟩))))))))
    refine bww_and1 (bw_cmp rfl (ew_ix (ew_name 2 (ew_int (ix_t (d := .int (y : Nat)) rfl (ew_int (op_eq_i ⟨_, rfl, fun z => ?_, fun z => ?_⟩)))))))
    · have z : ((y : Nat) : Int) = 0 := of_decide_eq_true z
      have z : y = 0 := by omega
      subst z
      exact ew_ix (ew_name 2 (ew_int (ix_t (d := .list []) rfl (.inr ⟨rfl, hW⟩))))
    · have z : ¬ ((y : Nat) : Int) = 0 := of_decide_eq_false z
      refine ew_non (.inl ⟨rfl, fun h => z ?_⟩)
      rw [walks_det d sm hW h]; rfl
theorem cnt_lt {N : Nat} {E E' : Edges} {g k : Nat} (h : Clash E g k) (hgk : g ≠ k) (hN : ∀ x, x ∈ rms E → x < N) (hE : ∀ e, e ∈ E' ↔ ∃ f ∈ E, e = (mrg g k f.1, f.2.1, mrg g k f.2.2)) : cnt N E' < cnt N E := by
  have q := mrg_rms h hgk hE
  have hg := (clash_rms h).1
  exact filter_lt (x := g) (fun a ha => decide_eq_true (q a (of_decide_eq_true ha)).1) (List.mem_range.mpr (hN g hg)) (decide_eq_true hg) (decide_eq_false fun z => (q g z).2 rfl)
theorem ok_folds (T : Told B) (K : List Wd) (m N : Nat) (E : Edges) (I : FInv K E) (hN : ∀ x, x ∈ rms E → x < N) (hz : E.length < 10000) : Ok B 3 d_Fold_folds p_Fold_folds (spOV (He.ga B.K "Fold") (foldFl m (.dat (.list (E.map enc4)))) [] fun fl' _ => ∃ E' : Edges, fl' = foldFl m (.dat (.list (E'.map enc4))) ∧ FInv K E' ∧ Det E') := by
  refine ok_ov (h_Fold_folds T) s_Fold_folds (by unfold foldFl; simp) rfl fun c hr F p hro hNN => ?_
  have nd := s_Fold_folds.nd
  refine sws_cons (sw_set 1 (EW.imp (Q := fun r => (r = .none ∧ Det E) ∨ PartD E r) (ew_self0 (f := 0) (k := 2) (ok_clash T m E I.sm hz) (c_Fold T) (m_Fold_clash T) ⟨⟨rfl, rfl⟩, fun r h => h⟩) fun r hr' => ?_))
  refine sws_one (sw_while (I := fun mm ε => ∃ (E1 : Edges) (r : PyData) (s1 s2 s3 : Sl), FInv K E1 ∧ (∀ x, x ∈ rms E1 → x < N) ∧ E1.length < 10000 ∧ mm = cnt N E1 ∧ ((r = .none ∧ Det E1) ∨ PartD E1 r) ∧ ε = [.obj p (He.ga B.K "Fold") (foldFl m (.dat (.list (E1.map enc4)))), .dat r, s1, s2, s3]) (m := cnt N E) ⟨E, r, .un, .un, .un, I, hN, hz, rfl, hr', rfl⟩ ?_)
  rintro mm ε' ⟨E1, r1, s1, s2, s3, I1, hN1, hz1, rfl, hr1, rfl⟩
  rcases hr1 with ⟨rfl, hd⟩ | ⟨g, k, rfl, hg, hgk, hc⟩
  · refine bw_cmp rfl (ew_name 1 (ew_non (op_nis_n (d1 := .none) (.inl rfl) ⟨_, rfl, fun z => (by cases z), fun _ => ⟨_, rfl, E1, rfl, I1, hd⟩⟩)))
  · refine bw_cmp rfl (ew_name 1 (ew_non (op_nis_n (.inr (.inr ⟨_, rfl⟩)) ⟨_, rfl, fun _ => ?_, fun z => (by cases z)⟩)))
    refine sws_cons (sw_asg (ew_name 1 (tw_tup (tws_cons (tw_name 2 (tws_cons (tw_name 3 (tws_cons (tw_name 4 (tws_nil ?_))))))))))
    refine sws_cons (sw_exprX (xw_selfJ (k := 2) (h_Fold_puts T) (c_Fold T) (m_Fold_puts T) hNN (aw_cons (ew_name 2 (aw_cons (ew_name 3 (aw_cons (ew_name 4 (aw_nil ⟨_, ok_puts T m E1 g k hz1, fun fl' r h => ?_⟩)))))))))
    obtain ⟨E2, rfl, hE2, lE2⟩ := h
    have I2 := fold_inv I1 hc hg hE2
    have hN2 : ∀ x, x ∈ rms E2 → x < N := fun x hx => hN1 x (mrg_rms hc hgk hE2 x hx).1
    refine sws_one (sw_set 1 (EW.imp (Q := fun r => (r = .none ∧ Det E2) ∨ PartD E2 r) (ew_self0 (f := 0) (k := 2) (ok_clash T m E2 I2.sm (by omega)) (c_Fold T) (m_Fold_clash T) ⟨⟨rfl, rfl⟩, fun r h => h⟩) fun r hr2 => ?_))
    exact ⟨cnt N E2, cnt_lt hc hgk hN1 hE2, E2, r, _, _, _, I2, hN2, by omega, rfl, hr2, rfl⟩
end K78
/-! K78: walks: the fold made. -/
namespace K78
open PySem PySem.Spec L2
variable {B : Bs}
def FoldEnd (K : List Wd) (fl : List (Str × Fv)) : Prop := ∃ m E, fl = foldFl m (.dat (.list (E.map enc4))) ∧ FInv K E ∧ Det E
theorem ok_Fold_init (T : Told B) (K : List Wd) (h4 : ∀ k ∈ K, W4 k ∧ k ≠ [] ∧ k.length ≤ 100) (hz : K.length ≤ 20) : Ok B 5 d_Fold_init p_Fold_init (spI (He.ga B.K "Fold") [.list (K.map S), .bool false] (FoldEnd K)) := by
  refine ok_i (h_Fold_init T) s_Fold_init rfl fun c hr F p hro hN hI => ?_
  have nd := s_Fold_init.nd
  refine sws_cons (sw_fldD (ew_int ?_) (c_Fold T) (a_Fold_many T))
  refine sws_cons (sw_fldN (nw_lst (aw_nil ?_)) (c_Fold T) (a_Fold_edges T))
  refine sws_cons (sw_forM K.zipIdx (fun q => .tuple [.int (q.2 : Nat), S q.1]) (fun i ε => ∃ (E : Edges) (m : Nat) (s1 s2 : Sl), ε = [.obj p (He.ga B.K "Fold") (foldFl m (.lst (E.map enc4))), .dat (.list (K.map S)), .dat (.bool false), s1, s2] ∧ RInv0 K E m ∧ E.length ≤ 100 * i ∧ ∀ k ∈ K.take i, Walks E 0 k 0)
    (iw_enum (b_enumerate T) (ew_name 1 ⟨_, rfl, enum_map K S⟩)) ⟨[], 1, .un, .un, rfl, ⟨fun e he => (by cases he), ⟨fun _ => [], rfl, fun _ c hc => (by cases hc), fun e he => (by cases he)⟩, fun e he => (by cases he), by decide⟩, Nat.le_refl _, fun k hk => by simp at hk⟩ ?_ ?_)
  · rintro i q ε' hq ⟨E, m, s1, s2, rfl, I, lE, hW⟩
    have hq1 := zipIdx_at (List.mem_of_getElem? hq)
    have hi : i < K.length := by have := (List.getElem?_eq_some_iff.mp hq).1; rw [List.length_zipIdx] at this; exact this
    have ei : q = (K[i], i) := by
      have := hq
      rw [List.getElem?_zipIdx, List.getElem?_eq_getElem hi] at this
      simp at this
      exact this.symm
    subst ei
    have hk := List.getElem_mem hi
    obtain ⟨k1, k2, k3⟩ := h4 _ hk
    have tk : K.take (i + 1) = K.take i ++ [K[i]] := by rw [List.take_add_one, List.getElem?_eq_getElem hi]; rfl
    refine tw_tup (tws_cons (tw_name 3 (tws_cons (tw_name 4 (tws_nil ?_)))))
    refine sws_one (sw_exprX (xw_selfJ (k := 3) (h_Fold_adds_round T) (c_Fold T) (m_Fold_adds_round T) hN ?_))
    refine aw_cons (ew_name 4 (aw_cons (ew_if (bw_val (ew_name 2 ⟨false, rfl, fun z => (by cases z), fun _ => ew_lst (aw_nil (aw_nil ?_))⟩)))))
    refine ⟨_, ok_adds_round T K m E K[i] I hk k1 k2 k3 (by omega), fun fl' r h => ?_⟩
    obtain ⟨E', m', rfl, I', sub, W, lE'⟩ := h
    refine ⟨E', m', _, _, rfl, I', by omega, fun k hk => ?_⟩
    rw [tk] at hk
    rcases List.mem_append.mp hk with z | z
    · exact (hW k z).mono sub
    · cases List.mem_singleton.mp z; exact W
  · rintro ε' ⟨E, m, s1, s2, rfl, I, lE, hW⟩
    rw [List.length_zipIdx] at lE hW
    rw [List.take_length] at hW
    have hN' : ∀ x, x ∈ rms E → x < m := fun x hx => by
      obtain ⟨e, he, h⟩ := mem_rms.mp hx
      have := I.r e he
      rcases h with rfl | rfl
      · exact this.1
      · exact this.2
    refine sws_freezeF "edges" hI ?_
    refine sws_one (sw_exprX (xw_self0 (f := 0) (k := 3) (ok_folds T K m m E (I.finv hW) hN' (by omega)) (c_Fold T) (m_Fold_folds T) hN ⟨⟨rfl, rfl⟩, fun fl' r h => ?_⟩))
    obtain ⟨E', rfl, I', d'⟩ := h
    exact ⟨_, rfl, m, E', rfl, I', d'⟩
end K78
/-! K78: plain: the tree's walk. -/
namespace K78
open PySem
/-- one direction of a kept word -/
def dirW (w : Wd) (back : Bool) : Wd := if back then bk w else w
theorem dirW_w4 {w : Wd} {b : Bool} (h : W4 w) : W4 (dirW w b) := by cases b; exact h; exact h.bk
inductive Near (P K : List Wd) : Wd → Prop
  | nil : Near P K []
  | go {p w b} : Near P K p → w ∈ K → (∀ x ∈ cov p (dirW w b), x ∈ P) → Near P K (red (p ++ dirW w b))
def Cvd (P K : List Wd) (x : Wd) : Prop := x = [] ∨ ∃ p w b, Near P K p ∧ w ∈ K ∧ (∀ y ∈ cov p (dirW w b), y ∈ P) ∧ x ∈ cov p (dirW w b)
abbrev Brg := Nat × Wd × Wd
/-- the bridge of a word at a place -/
def brg (i : Nat) (p w : Wd) (b : Bool) : Brg := if b then (i, red (p ++ bk w), p) else (i, p, red (p ++ w))
structure TS where
  taken : List Brg
  walk : List PyData
  ways : List (Wd × List PyData)
  cvd : List Wd
def TS.keys (s : TS) : List Wd := s.ways.map (·.1)
structure TInv (P K : List Wd) (o : Nat) (s : TS) : Prop where
  tn : s.taken.Nodup
  t2 : ∀ i p q, (i, p, q) ∈ s.taken → ∃ w, K[i]? = some w ∧ q = red (p ++ w) ∧ p ∈ s.keys ∧ q ∈ s.keys ∧ ∀ x ∈ cov p w, x ∈ P ∧ x ∈ s.cvd
  wk : s.walk.length + o ≤ 2 * s.taken.length
  kn : s.keys.Nodup
  kP : ∀ x ∈ s.keys, x ∈ P ∧ Near P K x
  k0 : [] ∈ s.keys
  kl : ∀ e ∈ s.ways, e.2.length < s.ways.length
  cn : s.cvd.Nodup
  cP : ∀ x ∈ s.cvd, x ∈ P ∧ Cvd P K x
  c0 : [] ∈ s.cvd
structure Ext (s s' : TS) : Prop where
  k : ∀ x ∈ s.keys, x ∈ s'.keys
  t : ∀ b ∈ s.taken, b ∈ s'.taken
theorem Ext.refl (s : TS) : Ext s s := ⟨fun _ h => h, fun _ h => h⟩
theorem Ext.trans {s s' s'' : TS} (h : Ext s s') (k : Ext s' s'') : Ext s s'' := ⟨fun x z => k.k x (h.k x z), fun x z => k.t x (h.t x z)⟩
def DoneAt (P K : List Wd) (s : TS) (p : Wd) : Prop := ∀ i w b, K[i]? = some w → (∀ x ∈ cov p (dirW w b), x ∈ P) → brg i p w b ∈ s.taken
theorem DoneAt.mono {P K : List Wd} {s s' : TS} {p : Wd} (h : DoneAt P K s p) (e : Ext s s') : DoneAt P K s' p := fun i w b hw hc => e.t _ (h i w b hw hc)
theorem taken_len {P K : List Wd} {o : Nat} {s : TS} (I : TInv P K o s) : s.taken.length ≤ K.length * (P.length * P.length) := by
  have h := nodup_len (ws := (List.range K.length).flatMap fun i => P.flatMap fun p => P.map fun q => (i, p, q)) I.tn fun b hb => by
    obtain ⟨i, p, q⟩ := b
    obtain ⟨w, e1, e2, e3, e4, _⟩ := I.t2 i p q hb
    refine List.mem_flatMap.mpr ⟨i, List.mem_range.mpr (List.getElem?_eq_some_iff.mp e1).1, List.mem_flatMap.mpr ⟨p, (I.kP p e3).1, List.mem_map.mpr ⟨q, (I.kP q e4).1, rfl⟩⟩⟩
  have e1 : ∀ (i : Nat) (L : List Wd), (L.flatMap fun p => P.map fun q => (i, p, q)).length = L.length * P.length := by
    intro i L
    induction L with
    | nil => simp
    | cons a L ih => rw [List.flatMap_cons, List.length_append, ih, List.length_map, List.length_cons, Nat.succ_mul, Nat.add_comm]
  have e2 : ∀ L : List Nat, (L.flatMap fun i => P.flatMap fun p => P.map fun q => (i, p, q)).length = L.length * (P.length * P.length) := by
    intro L
    induction L with
    | nil => simp
    | cons a L ih => rw [List.flatMap_cons, List.length_append, ih, e1, List.length_cons, Nat.succ_mul, Nat.add_comm]
  rw [e2, List.length_range] at h
  exact h
/-- a bridge taken, its cover covered, its end reached -/
theorem brg_ends {i : Nat} {p w : Wd} {b : Bool} (hp : Rd p) (hw : W4 w) : ∃ x y, brg i p w b = (i, x, y) ∧ y = red (x ++ w) ∧ (∀ z, z ∈ cov x w ↔ z ∈ cov p (dirW w b)) ∧ ((x = p ∧ y = red (p ++ dirW w b)) ∨ (y = p ∧ x = red (p ++ dirW w b))) := by
  cases b with
  | false => exact ⟨p, red (p ++ w), rfl, rfl, fun z => Iff.rfl, .inl ⟨rfl, rfl⟩⟩
  | true =>
    have e := way_back hp hw.bk
    rw [bk_bk hw] at e
    refine ⟨red (p ++ bk w), p, rfl, e.symm, fun z => ?_, .inr ⟨rfl, rfl⟩⟩
    have := cov_back (x := z) hp.w4 hw.bk
    rw [bk_bk hw] at this
    exact this
/-- so many places: every place is a key -/
theorem all_keys {P K : List Wd} {o : Nat} {s : TS} (I : TInv P K o s) (h : P.length ≤ s.keys.length) {x : Wd} (hx : x ∈ P) : x ∈ s.keys := by
  by_cases c : x ∈ s.keys
  · exact c
  · have := nodup_len (ys := x :: s.keys) (ws := P) (List.nodup_cons.mpr ⟨c, I.kn⟩) fun y hy => (List.mem_cons.mp hy).elim (fun e => e ▸ hx) fun q => (I.kP y q).1
    rw [List.length_cons] at this; omega
/-- at the end -/
theorem tree_end {P K : List Wd} {o : Nat} {s : TS} (I : TInv P K o s) (hP : ∀ x ∈ P, Rd x) (hK : ∀ w ∈ K, W4 w) (d : ∀ p ∈ s.keys, DoneAt P K s p) : (∀ x, x ∈ s.keys ↔ Near P K x) ∧ ∀ x, x ∈ s.cvd ↔ Cvd P K x := by
  have near : ∀ x, Near P K x → x ∈ s.keys := fun x h => by
    induction h with
    | nil => exact I.k0
    | @go p w b _ hw hc ih =>
      obtain ⟨i, hi⟩ := List.getElem?_of_mem hw
      have hb := d p ih i w b hi hc
      obtain ⟨x, y, e, _, _, q⟩ := brg_ends (i := i) (b := b) (hP p (I.kP p ih).1) (hK w hw)
      rw [e] at hb
      obtain ⟨w', _, _, k1, k2, _⟩ := I.t2 i x y hb
      rcases q with ⟨_, q⟩ | ⟨_, q⟩
      · rw [← q]; exact k2
      · rw [← q]; exact k1
  refine ⟨fun x => ⟨fun h => (I.kP x h).2, near x⟩, fun x => ⟨fun h => (I.cP x h).2, fun h => ?_⟩⟩
  rcases h with rfl | ⟨p, w, b, hn, hw, hc, hx⟩
  · exact I.c0
  · have hp := near p hn
    obtain ⟨i, hi⟩ := List.getElem?_of_mem hw
    have hb := d p hp i w b hi hc
    obtain ⟨x', y, e, _, cv, _⟩ := brg_ends (i := i) (b := b) (hP p (I.kP p hp).1) (hK w hw)
    rw [e] at hb
    obtain ⟨w', e1, _, _, _, k3⟩ := I.t2 i x' y hb
    rw [hi] at e1; cases e1
    exact (k3 x ((cv x).mpr hx)).2
end K78
/-! K78: plain: a bridge taken. -/
namespace K78
open PySem
theorem take_inv {P K : List Wd} {o : Nat} {s0 : TS} (I : TInv P K o s0) (hP : ∀ x ∈ P, Rd x) (hK : ∀ w ∈ K, W4 w) {i : Nat} {w place : Wd} {b : Bool} (hi : K[i]? = some w) (hp : place ∈ s0.keys) (hc : ∀ x ∈ cov place (dirW w b), x ∈ P) (hb : brg i place w b ∉ s0.taken)
    {cv : List Wd} (hcn : cv.Nodup) (hcm : ∀ x, x ∈ cv ↔ x ∈ s0.cvd ∨ x ∈ cov place (dirW w b)) {wk : List PyData} (hwk : wk.length = s0.walk.length + 1) {ways : List (Wd × List PyData)}
    (hw : (red (place ++ dirW w b) ∈ s0.keys ∧ ways = s0.ways) ∨ (red (place ++ dirW w b) ∉ s0.keys ∧ ∃ ds, ways = s0.ways ++ [(red (place ++ dirW w b), ds)] ∧ ds.length ≤ s0.ways.length)) : TInv P K (o + 1) ⟨s0.taken ++ [brg i place w b], wk, ways, cv⟩ := by
  have hwK := hK w (List.mem_of_getElem? hi)
  have hpR := hP place (I.kP place hp).1
  obtain ⟨x, y, e, ey, cvx, ends⟩ := brg_ends (i := i) (b := b) hpR hwK
  have keys' : ∀ z, z ∈ (⟨s0.taken ++ [brg i place w b], wk, ways, cv⟩ : TS).keys ↔ z ∈ s0.keys ∨ z = red (place ++ dirW w b) := fun z => by
    unfold TS.keys
    rcases hw with ⟨h1, h2⟩ | ⟨h1, ds, h2, _⟩
    · simp only [h2]
      exact ⟨.inl, fun h => h.elim (fun q => q) fun q => q ▸ h1⟩
    · simp only [h2, List.map_append, List.mem_append]; simp
  have kThere : red (place ++ dirW w b) ∈ (⟨s0.taken ++ [brg i place w b], wk, ways, cv⟩ : TS).keys := (keys' _).mpr (.inr rfl)
  have kPlace : place ∈ (⟨s0.taken ++ [brg i place w b], wk, ways, cv⟩ : TS).keys := (keys' _).mpr (.inl hp)
  have nearT : Near P K (red (place ++ dirW w b)) := .go (I.kP place hp).2 (List.mem_of_getElem? hi) hc
  refine ⟨?_, fun i' p q h => ?_, ?_, ?_, fun z hz => ?_, (keys' _).mpr (.inl I.k0), fun ee he => ?_, hcn, fun z hz => ?_, (hcm _).mpr (.inl I.c0)⟩
  · rw [List.nodup_append]
    exact ⟨I.tn, by simp, fun a ha c hc' => by rw [List.mem_singleton] at hc'; subst hc'; intro z; subst z; exact hb ha⟩
  · rcases List.mem_append.mp h with h | h
    · obtain ⟨w', e1, e2, e3, e4, e5⟩ := I.t2 i' p q h
      exact ⟨w', e1, e2, (keys' _).mpr (.inl e3), (keys' _).mpr (.inl e4), fun z hz => ⟨(e5 z hz).1, (hcm z).mpr (.inl (e5 z hz).2)⟩⟩
    · have h := List.mem_singleton.mp h
      rw [e] at h
      cases h
      refine ⟨w, hi, ey, ?_, ?_, fun z hz => ⟨hc z ((cvx z).mp hz), (hcm z).mpr (.inr ((cvx z).mp hz))⟩⟩
      · rcases ends with ⟨q, _⟩ | ⟨_, q⟩
        · rw [q]; exact kPlace
        · rw [q]; exact kThere
      · rcases ends with ⟨_, q⟩ | ⟨q, _⟩
        · rw [q]; exact kThere
        · rw [q]; exact kPlace
  · show wk.length + (o + 1) ≤ 2 * (s0.taken ++ [brg i place w b]).length
    rw [List.length_append, List.length_singleton]
    have := I.wk
    omega
  · unfold TS.keys
    rcases hw with ⟨h1, h2⟩ | ⟨h1, ds, h2, _⟩
    · simp only [h2]; exact I.kn
    · simp only [h2, List.map_append]
      rw [List.nodup_append]
      exact ⟨I.kn, by simp, fun a ha c hc' => by
        have hc' := List.mem_singleton.mp hc'
        subst hc'; intro z; subst z; exact h1 ha⟩
  · rcases (keys' z).mp hz with h | rfl
    · exact I.kP z h
    · exact ⟨hc _ cov_end, nearT⟩
  · show ee.2.length < ways.length
    have he : ee ∈ ways := he
    rcases hw with ⟨h1, h2⟩ | ⟨h1, ds, h2, h3⟩
    · rw [h2] at he ⊢; exact I.kl ee he
    · rw [h2] at he ⊢
      rw [List.length_append, List.length_singleton]
      rcases List.mem_append.mp he with q | q
      · have := I.kl ee q; omega
      · cases List.mem_singleton.mp q
        show ds.length < _
        omega
  · rcases (hcm z).mp hz with h | h
    · exact I.cP z h
    · exact ⟨hc z h, .inr ⟨place, w, b, (I.kP place hp).2, List.mem_of_getElem? hi, hc, h⟩⟩
/-- a last pair of the walk -/
theorem TInv.back {P K : List Wd} {o : Nat} {s : TS} (I : TInv P K (o + 1) s) (d : PyData) : TInv P K o { s with walk := s.walk ++ [d] } :=
  ⟨I.tn, I.t2, by show (s.walk ++ [d]).length + o ≤ 2 * s.taken.length; rw [List.length_append, List.length_singleton]; have := I.wk; omega, I.kn, I.kP, I.k0, I.kl, I.cn, I.cP, I.c0⟩
/-! ### covering -/
def addC (cv : List Wd) (w : Wd) : List Wd := if w ∈ cv then cv else cv ++ [w]
theorem addC_mem {cv : List Wd} {w x : Wd} : x ∈ addC cv w ↔ x ∈ cv ∨ x = w := by
  unfold addC
  split
  · rename_i h; exact ⟨.inl, fun z => z.elim (fun q => q) fun q => q ▸ h⟩
  · rw [List.mem_append, List.mem_singleton]
theorem addC_nd {cv : List Wd} {w : Wd} (h : cv.Nodup) : (addC cv w).Nodup := by
  unfold addC
  split
  · exact h
  · rename_i c
    rw [List.nodup_append]
    exact ⟨h, by simp, fun a ha b hb => by rw [List.mem_singleton] at hb; subst hb; intro z; subst z; exact c ha⟩
theorem addCs_mem : ∀ (cs cv : List Wd) (x : Wd), x ∈ cs.foldl addC cv ↔ x ∈ cv ∨ x ∈ cs
  | [], cv, x => by simp
  | c :: cs, cv, x => by
    rw [List.foldl_cons, addCs_mem cs _ x, addC_mem, List.mem_cons]
    constructor
    · rintro ((h | h) | h)
      · exact .inl h
      · exact .inr (.inl h)
      · exact .inr (.inr h)
    · rintro (h | h | h)
      · exact .inl (.inl h)
      · exact .inl (.inr h)
      · exact .inr h
theorem addCs_nd : ∀ (cs cv : List Wd), cv.Nodup → (cs.foldl addC cv).Nodup
  | [], cv, h => h
  | c :: cs, cv, h => addCs_nd cs _ (addC_nd h)
end K78
/-! K78: walks: the tree. -/
namespace K78
open PySem PySem.Spec L2
variable {B : Bs}
def wayW (b : Bool) : Wd := if b then WBACK else WON
def encB (b : Brg) : PyData := .tuple [.int (b.1 : Nat), S b.2.1, S b.2.2]
abbrev encT (w : Wd) : Key := .inr (tx w)
theorem encT_inj (a b : Wd) (h : encT a = encT b) : a = b := tx_inj (Sum.inr.inj h)
def encWays (ws : List (Wd × List PyData)) : List (Key × PyData) := ws.map fun p => (encT p.1, .list p.2)
def encCv (cv : List Wd) : List (Key × PyData) := cv.map fun w => (encT w, .bool true)
def treeFl (P : List Wd) (en : Wd) (K : List Wd) (s : TS) : List (Str × Fv) := [("places", .dat (.list (P.map S))), ("end", .dat (S en)), ("words", .dat (.list (K.map S))), ("taken", .lst (s.taken.map encB)), ("walk", .lst s.walk), ("ways", .dK (encWays s.ways)), ("covered", .dK (encCv s.cvd))]
theorem cv_any (cv : List Wd) (w : Wd) : ((encCv cv).any fun kv => decide (kv.1 = encT w)) = decide (w ∈ cv) := by
  unfold encCv
  rw [List.any_map]
  induction cv with
  | nil => rfl
  | cons a cv ih =>
    rw [List.any_cons, ih]
    show (decide (encT a = encT w) || decide (w ∈ cv)) = _
    by_cases h : a = w
    · subst h; simp
    · rw [decide_eq_false (fun z => h (encT_inj _ _ z))]
      have : w ≠ a := fun z => h z.symm
      simp [this]
theorem put_cv (cv : List Wd) (w : Wd) : putG (encCv cv) (encT w) (.bool true) = encCv (addC cv w) := by
  unfold putG addC
  rw [cv_any]
  by_cases h : w ∈ cv
  · rw [if_pos (decide_eq_true h), if_pos h]
    unfold encCv
    rw [List.map_map]
    refine List.map_congr_left fun p _ => ?_
    show (if encT p = encT w then (encT p, PyData.bool true) else (encT p, .bool true)) = _
    split <;> rfl
  · rw [if_neg (by rw [decide_eq_false h]; exact Bool.false_ne_true), if_neg h]
    unfold encCv; rw [List.map_append]; rfl
theorem val_ways (ws : List (Wd × List PyData)) (w : Wd) : valG (encWays ws) (encT w) = (valG ws w).map .list := valG_enc encT PyData.list encT_inj w ws
theorem put_ways {ws : List (Wd × List PyData)} {w : Wd} {ds : List PyData} (h : w ∉ ws.map (·.1)) : putG (encWays ws) (encT w) (.list ds) = encWays (ws ++ [(w, ds)]) := by
  have e := putG_enc encT PyData.list encT_inj w ds ws
  unfold encWays at e ⊢
  rw [e]
  have : putG ws w ds = ws ++ [(w, ds)] := by
    unfold putG
    rw [if_neg]
    rw [valG_any]
    intro z
    exact h ((valG_some_iff ws w).mp z)
  rw [this]
/-- a promise of goes_around, with so many places left -/
def GoesOk (B : Bs) (P K : List Wd) (en : Wd) (k n : Nat) : Prop := ∀ (o : Nat) (s0 : TS) (place : Wd), TInv P K o s0 → place ∈ s0.keys → P.length ≤ s0.keys.length + n →
  Ok B k d_Tree_goes_around p_Tree_goes_around (spOV (He.ga B.K "Tree") (treeFl P en K s0) [S place] fun fl' _ => ∃ s', fl' = treeFl P en K s' ∧ TInv P K o s' ∧ Ext s0 s' ∧ DoneAt P K s' place ∧ ∀ x ∈ s'.keys, x ∉ s0.keys → DoneAt P K s' x)
structure TreeOk (P K : List Wd) : Prop where
  p : ∀ x ∈ P, Rd x ∧ x.length ≤ 60
  n : P.length ≤ 61
  k : ∀ w ∈ K, W4 w ∧ w.length ≤ 40
  z : K.length ≤ 20
def tkn (s0 : TS) (b : Brg) : TS := { s0 with taken := s0.taken ++ [b] }
theorem ok_takes (T : Told B) {P K : List Wd} (en : Wd) (tok : TreeOk P K) (k n : Nat) (hk : 2 ≤ k) (G : ∀ m, m < n → GoesOk B P K en k m) (o : Nat) (s0 : TS) (I : TInv P K o s0) (i : Nat) (w place : Wd) (b : Bool) (hi : K[i]? = some w) (hp : place ∈ s0.keys) (hc : ∀ x ∈ cov place (dirW w b), x ∈ P) (hb : brg i place w b ∉ s0.taken)
    (hn : P.length ≤ s0.keys.length + n) (cs : List Wd) (hcs : ∀ x, x ∈ cs ↔ x ∈ cov place (dirW w b)) (hcz : cs.length ≤ 100) :
    Ok B (k + 1) d_Tree_takes p_Tree_takes (spOV (He.ga B.K "Tree") (treeFl P en K (tkn s0 (brg i place w b))) [.tuple [.int (i : Nat), S (wayW b)], S place, S (red (place ++ dirW w b)), .list (cs.map S)] fun fl' _ => ∃ s', fl' = treeFl P en K s' ∧ TInv P K o s' ∧ Ext (tkn s0 (brg i place w b)) s' ∧ ∀ x ∈ s'.keys, x ∉ s0.keys → DoneAt P K s' x) := by
  refine ok_ov (h_Tree_takes T) s_Tree_takes (by unfold treeFl; simp) rfl fun c hr F p hro hN => ?_
  have nd := s_Tree_takes.nd
  have hu : (cx B d_Tree_takes n_Tree_takes c).A.units + 1 < cLine := by have := hr.units; omega
  have hPR : ∀ x ∈ P, Rd x := fun x hx => (tok.p x hx).1
  have hKW : ∀ w ∈ K, W4 w := fun w hw => (tok.k w hw).1
  have tl := taken_len I
  have tlz : s0.taken.length ≤ 20 * (61 * 61) := Nat.le_trans tl (Nat.mul_le_mul tok.z (Nat.mul_le_mul tok.n tok.n))
  have cvz : s0.cvd.length ≤ P.length := nodup_len I.cn fun x hx => (I.cP x hx).1
  have kz : s0.ways.length ≤ P.length := by
    have := nodup_len I.kn fun x hx => (I.kP x hx).1
    unfold TS.keys at this; rw [List.length_map] at this; exact this
  have Pz := tok.n
  generalize hthere : red (place ++ dirW w b) = there at *
  generalize hbr : brg i place w b = br at *
  refine sws_cons (sw_forM cs S (fun j ε => ∃ sl : Sl, ε = [.obj p (He.ga B.K "Tree") (treeFl P en K { tkn s0 br with cvd := (cs.take j).foldl addC s0.cvd }), .dat (.tuple [.int (i : Nat), S (wayW b)]), .dat (S place), .dat (S there), .dat (.list (cs.map S)), sl] ∧ ((cs.take j).foldl addC s0.cvd).length ≤ s0.cvd.length + j) (iw_list (ew_name 4 ⟨_, rfl, rfl⟩)) ⟨_, rfl, Nat.le_refl _⟩ ?_ ?_)
  · rintro j x ε' hx ⟨sl, rfl, lj⟩
    have hj : j < cs.length := (List.getElem?_eq_some_iff.mp hx).1
    have nxt : (cs.take (j + 1)).foldl addC s0.cvd = addC ((cs.take j).foldl addC s0.cvd) x := fold_take _ _ hx
    revert nxt lj
    generalize (cs.take j).foldl addC s0.cvd = cv
    intro lj nxt
    refine tw_name 5 (sws_one (sw_dput (kvs := encCv cv) (ref_fld (c_Tree T) (a_Tree_covered T)) hu (by unfold encCv; rw [List.length_map]; omega) (ew_bl (ew_name 5 ⟨encT x, rfl, ?_⟩))))
    rw [put_cv, nxt]
    refine ⟨.dat (S x), rfl, ?_⟩
    unfold addC
    split
    · omega
    · rw [List.length_append, List.length_singleton]; omega
  · rintro ε' ⟨sl, rfl, lj⟩
    rw [List.take_length] at lj ⊢
    have hcm : ∀ x, x ∈ cs.foldl addC s0.cvd ↔ x ∈ s0.cvd ∨ x ∈ cov place (dirW w b) := fun x => by rw [addCs_mem, hcs]
    have hcn := addCs_nd cs s0.cvd I.cn
    generalize cs.foldl addC s0.cvd = cv at hcm hcn ⊢
    have wz : s0.walk.length ≤ 2 * s0.taken.length := by have := I.wk; omega
    refine sws_cons (sw_appR (ref_fld (c_Tree T) (a_Tree_walk T)) (by show s0.walk.length < _; omega) (ew_name 1 ?_))
    -- the end, from a state with one pair of the walk lacking
    have keyV : (valG s0.ways there).isSome = decide (there ∈ s0.keys) := by
      by_cases h : there ∈ s0.keys
      · rw [decide_eq_true h]; exact (valG_some_iff _ _).mpr h
      · rw [decide_eq_false h]
        cases e : (valG s0.ways there).isSome with
        | false => rfl
        | true => exact absurd ((valG_some_iff _ _).mp e) h
    have back : ∀ (s3 : TS) (s1 : Sl), TInv P K (o + 1) s3 → Ext (tkn s0 br) s3 → (∀ x ∈ s3.keys, x ∉ s0.keys → DoneAt P K s3 x) → SWs (cx B d_Tree_takes n_Tree_takes c) F (d_Tree_takes.body.drop 3) [.obj p (He.ga B.K "Tree") (treeFl P en K s3), .dat (.tuple [.int (i : Nat), S (wayW b)]), .dat (S place), .dat (S there), .dat (.list (cs.map S)), s1]
        ⟨fun ε => ∃ fl', ε[0]? = some (.obj p (He.ga B.K "Tree") fl') ∧ ∃ s', fl' = treeFl P en K s' ∧ TInv P K o s' ∧ Ext (tkn s0 br) s' ∧ ∀ x ∈ s'.keys, x ∉ s0.keys → DoneAt P K s' x, fun r ε => ∃ fl', ε[0]? = some (.obj p (He.ga B.K "Tree") fl') ∧ ∃ s', fl' = treeFl P en K s' ∧ TInv P K o s' ∧ Ext (tkn s0 br) s' ∧ ∀ x ∈ s'.keys, x ∉ s0.keys → DoneAt P K s' x, fun _ => False, fun _ => False⟩ := fun s3 s1 I3 X3 D3 => by
      have tl3 := taken_len I3
      have tlz3 : s3.taken.length ≤ 20 * (61 * 61) := Nat.le_trans tl3 (Nat.mul_le_mul tok.z (Nat.mul_le_mul tok.n tok.n))
      have wz3 := I3.wk
      refine sws_one (sw_appR (ref_fld (c_Tree T) (a_Tree_walk T)) (by show s3.walk.length < _; omega) (ew_tup (aw_cons (ew_ix (ew_name 1 (ew_int (ix_t (d := .int (i : Nat)) rfl (aw_cons (EW.imp (Q := fun d => True) ?_ fun d _ => aw_nil ?_)))))))))
      · refine ew_if (bw_cmp rfl (ew_ix (ew_name 1 (ew_int (ix_t (d := S (wayW b)) rfl (ew_tx WON (op_eq_s ⟨_, rfl, fun _ => ew_tx WBACK trivial, fun _ => ew_tx WON trivial⟩)))))))
      · exact ⟨_, rfl, _, rfl, I3.back _, ⟨X3.k, X3.t⟩, D3⟩
    refine sws_cons (sw_if (bw_dnin (ref_fld (c_Tree T) (a_Tree_ways T)) hu (ew_name 3 ⟨(valG s0.ways there).isSome, .inl ⟨_, encT there, rfl, rfl, ?_⟩, fun z => ?_, fun z => sws_nil ?_⟩)))
    · show (valG (encWays s0.ways) (encT there)).isSome = _
      rw [val_ways]; cases valG s0.ways there <;> rfl
    · have z : there ∉ s0.keys := by rw [keyV] at z; simpa using z
      have hn0 : 0 < n := by
        rcases Nat.eq_zero_or_pos n with h | h
        · subst h
          exact absurd (all_keys I hn (hc there (by rw [← hthere]; exact cov_end))) z
        · exact h
      obtain ⟨ds, eds⟩ := Option.isSome_iff_exists.mp ((valG_some_iff s0.ways place).mpr hp)
      have dsz := I.kl (place, ds) (val_mem eds)
      have dsz : ds.length < s0.ways.length := dsz
      have eds' : valG (encWays s0.ways) (encT place) = some (.list ds) := by rw [val_ways, eds]; rfl
      refine sws_cons (sw_dput (kvs := encWays s0.ways) (ref_fld (c_Tree T) (a_Tree_ways T)) hu (by unfold encWays; rw [List.length_map]; omega) (ew_bin (ew_dget (ref_fld (c_Tree T) (a_Tree_ways T)) hu (ew_name 2 ⟨encT place, .list ds, rfl, eds', ew_lst (aw_cons (ew_name 1 (aw_nil (op_cat_d (ds := ds) (es := [.tuple [.int (i : Nat), S (wayW b)]]) ?_ (ew_name 3 ⟨encT there, rfl, ?_⟩)))))⟩))))
      · simp only [List.length_singleton]; omega
      rw [put_ways z]
      have J : TInv P K (o + 1) ⟨s0.taken ++ [br], s0.walk ++ [.tuple [.int (i : Nat), S (wayW b)]], s0.ways ++ [(there, ds ++ [.tuple [.int (i : Nat), S (wayW b)]])], cv⟩ := by
        rw [← hbr]
        refine take_inv I hPR hKW hi hp hc (by rw [hbr]; exact hb) hcn hcm (by rw [List.length_append, List.length_singleton]) (.inr ⟨by rw [hthere]; exact z, _, by rw [hthere], ?_⟩)
        rw [List.length_append, List.length_singleton]; omega
      generalize hs2 : (⟨s0.taken ++ [br], s0.walk ++ [.tuple [.int (i : Nat), S (wayW b)]], s0.ways ++ [(there, ds ++ [.tuple [.int (i : Nat), S (wayW b)]])], cv⟩ : TS) = s2 at J
      have k2 : s2.keys = s0.keys ++ [there] := by rw [← hs2]; unfold TS.keys; rw [List.map_append]; rfl
      have t2 : s2.taken = s0.taken ++ [br] := by rw [← hs2]
      refine sws_one (sw_exprX (xw_selfJ (k := k) (hr := hr) (h_Tree_goes_around T) (c_Tree T) (m_Tree_goes_around T) hN (fl := treeFl P en K s2) (hε := by rw [← hs2]; rfl) ?_))
      refine aw_cons (ew_name 3 (aw_nil ⟨_, G (n - 1) (by omega) (o + 1) s2 there J (by rw [k2]; simp) (by rw [k2, List.length_append, List.length_singleton]; omega), fun fl' r h => ?_⟩))
      obtain ⟨s3, rfl, I3, X3, D3, N3⟩ := h
      refine back s3 sl I3 ⟨fun x hx => X3.k x (by rw [k2]; exact List.mem_append_left _ hx), fun x hx => X3.t x (by rw [t2]; exact hx)⟩ fun x hx hx0 => ?_
      by_cases cx' : x = there
      · subst cx'; exact D3
      · exact N3 x hx (by rw [k2, List.mem_append, List.mem_singleton]; rintro (q | q); exact hx0 q; exact cx' q)
    · have z : there ∈ s0.keys := by rw [keyV] at z; simpa using z
      have J : TInv P K (o + 1) ⟨s0.taken ++ [br], s0.walk ++ [.tuple [.int (i : Nat), S (wayW b)]], s0.ways, cv⟩ := by
        rw [← hbr]
        exact take_inv I hPR hKW hi hp hc (by rw [hbr]; exact hb) hcn hcm (by rw [List.length_append, List.length_singleton]) (.inl ⟨by rw [hthere]; exact z, rfl⟩)
      exact back _ sl J ⟨fun x hx => hx, fun x hx => hx⟩ fun x hx hx0 => absurd hx hx0
end K78
/-! K78: walks: the tree gone around. -/
namespace K78
open PySem PySem.Spec L2
variable {B : Bs}
theorem eqv_encB (x y : Brg) : PyData.eqv (encB x) (encB y) = decide (x = y) := by
  obtain ⟨a, b, c⟩ := x
  obtain ⟨d, e, f⟩ := y
  show (PyData.eqv (.int (a : Nat)) (.int (d : Nat)) && (PyData.eqv (S b) (S e) && (PyData.eqv (S c) (S f) && true))) = _
  rw [eqv_i, eqv_s, eqv_s, Bool.and_true, ← Bool.decide_and, ← Bool.decide_and]
  refine decide_eq_decide.mpr ⟨fun h => ?_, fun h => ?_⟩
  · obtain ⟨h1, h2, h3⟩ := h
    have : a = d := by omega
    subst_vars; rfl
  · cases h; exact ⟨rfl, rfl, rfl⟩
theorem lay_encB {x : Brg} (h1 : lo x.2.1) (h2 : lo x.2.2) : (encB x).canLay0 = true ∧ (encB x).depth ≤ 1 := by
  obtain ⟨a, b, c⟩ := x
  refine ⟨?_, ?_⟩
  · show (PyData.canLay0 (.int (a : Nat)) && (PyData.canLay0 (S b) && (PyData.canLay0 (S c) && true))) = true
    rw [lay_s h1, lay_s h2]; rfl
  · exact Nat.le_refl _
theorem lo_Rd {l : Wd} (h : Rd l) : lo l := lo_W4 h.w4
/-- the covers, by the trees -/
theorem cov_pres {p l : Wd} (hp : W4 p) (hl : W4 l) (x : Wd) : (∃ o ∈ pres l, x = red (p ++ o)) ↔ x ∈ cov p l := by
  unfold pres
  rw [mem_cov]
  constructor
  · rintro ⟨o, ho, rfl⟩
    obtain ⟨k, hk, rfl⟩ := List.mem_map.mp ho
    have hk := List.mem_range.mp hk
    exact ⟨k, by omega, red_redr hp fun a ha => hl a (List.mem_of_mem_take ha)⟩
  · rintro ⟨k, hk, rfl⟩
    exact ⟨_, List.mem_map.mpr ⟨k, List.mem_range.mpr (by omega), rfl⟩, (red_redr hp fun a ha => hl a (List.mem_of_mem_take ha)).symm⟩
theorem brg_at {i : Nat} {p w : Wd} {b : Bool} : brg i p w b = if b then (i, red (p ++ dirW w b), p) else (i, p, red (p ++ dirW w b)) := by
  cases b <;> rfl
theorem GoesOk.mono {P K : List Wd} {en : Wd} {j k n : Nat} (h : GoesOk B P K en j n) (l : j ≤ k) : GoesOk B P K en k n := fun o s0 place I hp hn => (h o s0 place I hp hn).mono l
theorem keys_len {P K : List Wd} {o : Nat} {s s' : TS} (I : TInv P K o s) (e : Ext s s') : s.keys.length ≤ s'.keys.length := nodup_len I.kn e.k
/-- comprehensions over what is known only when it is walked -/
theorem lcw_ofE {X : Cx} {F : Fm} {ε : Env} {tg iter elt : Expr} {ifs : List Expr} {Q : PyData → Prop} {scope : Scope} {vs : List Nat} {α : Type} (h : IW X F tg iter ε fun ds => ∃ (xs : List α) (enc out : α → PyData) (t : α → Bool), ds = xs.map enc ∧ xs.length < 16000000 ∧
      (∀ x ∈ xs, InBlk X scope fun Y => TWo Y F vs tg (enc x) (wipeE ε vs) fun ε2 => InBlk X scope fun Y => BWs Y F ifs ε2 fun b => b = t x ∧ (b = true → InBlk X scope fun Y => EW Y F elt ε2 fun d' => d' = out x)) ∧ Q (.list ((xs.filter t).map out))) : LcW X F scope vs tg iter elt ifs ε Q := by
  intro hd Hb H σ S R' k
  refine h hd Hb H σ S R' fun J ds Hb' H' S' g it ⟨xs, enc, out, t, e1, hz, turn, q⟩ => k J ds Hb' H' S' g it ⟨fun i acc => acc = ((xs.take i).filter t).map out, by simp, fun i d acc ed ea => ?_, fun acc ea => ?_⟩
  · subst e1 ea
    rw [List.getElem?_map] at ed
    cases ex : xs[i]? with
    | none => rw [ex] at ed; cases ed
    | some x =>
      rw [ex] at ed; cases ed
      refine ⟨?_, fun s1 H1 C1 cl1 fp1 => ?_⟩
      · rw [List.length_map]
        exact Nat.lt_of_le_of_lt (Nat.le_trans (List.length_filter_le _ _) (by rw [List.length_take]; exact Nat.min_le_right ..)) hz
      · intro hd2 Hb2 H2 σ2 v S2 r2 Q2 k2
        refine turn x (List.mem_of_getElem? ex) s1 H1 C1 cl1 fp1 hd2 Hb2 H2 σ2 v S2 r2 Q2 fun Hb3 H3 σ3 ε3 S3 g3 l1 f1 m1 n1 z => k2 Hb3 H3 σ3 ε3 S3 g3 l1 f1 m1 n1 fun s4 H4 C4 cl4 fp4 => ?_
        intro hd5 Hb5 H5 σ5 S5 Q5 k5
        have tk : xs.take (i + 1) = xs.take i ++ [x] := by rw [List.take_add_one, ex]; rfl
        refine z s4 H4 C4 cl4 fp4 hd5 Hb5 H5 σ5 S5 Q5 fun b Hb6 H6 S6 g6 ⟨eb, zz⟩ => k5 b Hb6 H6 S6 g6 ⟨fun bt => ?_, fun bf => ?_⟩
        · intro s7 H7 C7 cl7 fp7
          refine (zz bt s7 H7 C7 cl7 fp7).imp fun d' ed' => ?_
          show _ = List.map out (List.filter t (List.take (i + 1) xs))
          rw [tk, List.filter_append, List.map_append, ed']
          have : t x = true := by rw [← eb, bt]
          simp [List.filter, this]
        · have : t x = false := by rw [← eb, bf]
          show _ = List.map out (List.filter t (List.take (i + 1) xs))
          rw [tk, List.filter_append, List.map_append]
          simp [List.filter, this]
  · subst e1 ea
    rw [List.length_map, List.take_length]
    exact q
theorem ok_goes (T : Told B) {P K : List Wd} (en : Wd) (tok : TreeOk P K) (k n : Nat) (hk : 2 ≤ k) (G : ∀ m, m < n → GoesOk B P K en k m) : GoesOk B P K en (k + 2) n := by
  intro o s0 place I hp hn
  refine ok_ov (h_Tree_goes_around T) s_Tree_goes_around (by unfold treeFl; simp) rfl fun c hr F p hro hN => ?_
  have nd := s_Tree_goes_around.nd
  have hu : (cx B d_Tree_goes_around n_Tree_goes_around c).A.units + 65 < cLine := by have := hr.un; omega
  have hPR : ∀ x ∈ P, Rd x := fun x hx => (tok.p x hx).1
  have hKW : ∀ w ∈ K, W4 w := fun w hw => (tok.k w hw).1
  have hplP := (I.kP place hp).1
  have hpl := hPR _ hplP
  have hplz := (tok.p _ hplP).2
  have hpw := hpl.w4
  refine sws_one (sw_forM K.zipIdx (fun q => .tuple [.int (q.2 : Nat), S q.1]) (fun i ε => ∃ (s : TS) (s1 s2 s3 s4 s5 s6 s7 : Sl), ε = [.obj p (He.ga B.K "Tree") (treeFl P en K s), .dat (S place), s1, s2, s3, s4, s5, s6, s7, .un] ∧
      TInv P K o s ∧ Ext s0 s ∧ (∀ x ∈ s.keys, x ∉ s0.keys → DoneAt P K s x) ∧ ∀ j w b, j < i → K[j]? = some w → (∀ x ∈ cov place (dirW w b), x ∈ P) → brg j place w b ∈ s.taken)
    (iw_enum (b_enumerate T) (ew_fld ⟨_, rfl, enum_map K S⟩ (c_Tree T) (a_Tree_words T))) ⟨s0, .un, .un, .un, .un, .un, .un, .un, rfl, I, .refl _, fun x h1 h2 => absurd h1 h2, fun j w b hj => absurd hj (Nat.not_lt_zero _)⟩ ?_ ?_)
  · rintro i q ε' hq ⟨s, s1, s2, s3, s4, s5, s6, s7, rfl, I1, X1, D1, A1⟩
    have hq1 := zipIdx_at (List.mem_of_getElem? hq)
    have hi : i < K.length := by have := (List.getElem?_eq_some_iff.mp hq).1; rw [List.length_zipIdx] at this; exact this
    have ei : q = (K[i], i) := by
      have := hq
      rw [List.getElem?_zipIdx, List.getElem?_eq_getElem hi] at this
      simp at this
      exact this.symm
    subst ei
    have hKi : K[i]? = some K[i] := List.getElem?_eq_getElem hi
    generalize K[i] = w at hKi hq hq1 ⊢
    have hwK := List.mem_of_getElem? hKi
    obtain ⟨hw4, hwz⟩ := tok.k w hwK
    refine tw_tup (tws_cons (tw_name 2 (tws_cons (tw_name 3 (tws_nil ?_)))))
    refine sws_one (sw_forM [false, true] (fun b => .tuple [S (wayW b), S (dirW w b)]) (fun j ε => ∃ (s : TS) (s3 s4 s5 s6 s7 : Sl), ε = [.obj p (He.ga B.K "Tree") (treeFl P en K s), .dat (S place), .dat (.int (i : Nat)), .dat (S w), s3, s4, s5, s6, s7, .un] ∧
      TInv P K o s ∧ Ext s0 s ∧ (∀ x ∈ s.keys, x ∉ s0.keys → DoneAt P K s x) ∧ (∀ j w b, j < i → K[j]? = some w → (∀ x ∈ cov place (dirW w b), x ∈ P) → brg j place w b ∈ s.taken) ∧
      ∀ b ∈ [false, true].take j, (∀ x ∈ cov place (dirW w b), x ∈ P) → brg i place w b ∈ s.taken)
      ?_
      ⟨s, s3, s4, s5, s6, s7, rfl, I1, X1, D1, A1, fun b hb => (by cases hb)⟩ ?_ ?_)
    · refine iw_list (ew_lst (aw_cons (ew_tup (aw_cons (ew_tx WON (aw_cons (ew_name 3 (aw_nil ?_))))))))
      refine aw_cons (ew_tup (aw_cons (ew_tx WBACK (aw_cons ?_))))
      refine ew_call (hr := hr.mono (by omega)) (ok_back_word T) (g_back_word T) (aw_cons (ew_name 3 (aw_nil ⟨⟨w, rfl, hw4, by omega⟩, fun r hr => ?_⟩)))
      have hr := hr w rfl
      subst hr
      exact aw_nil (aw_nil ⟨_, rfl, rfl⟩)
    · rintro j b ε' hj ⟨s, s3, s4, s5, s6, s7, rfl, I1, X1, D1, A1, A2⟩
      have hd4 : W4 (dirW w b) := dirW_w4 hw4
      have hdz : (dirW w b).length ≤ 40 := by
        cases b
        · exact hwz
        · show (bk w).length ≤ 40; rw [bk_len]; exact hwz
      have hp1 : place ∈ s.keys := X1.k _ hp
      have tk2 : [false, true].take (j + 1) = [false, true].take j ++ [b] := by rw [List.take_add_one, hj]; rfl
      have hn1 : P.length ≤ s.keys.length + n := by have := keys_len I X1; omega
      have tl := taken_len I1
      have tlz : s.taken.length ≤ 20 * (61 * 61) := Nat.le_trans tl (Nat.mul_le_mul tok.z (Nat.mul_le_mul tok.n tok.n))
      have hth : Rd (red (place ++ dirW w b)) := rd_red (hpw.app hd4)
      refine tw_tup (tws_cons (tw_name 4 (tws_cons (tw_name 5 (tws_nil ?_)))))
      refine sws_cons (sw_setLc 6 [("one", 9)] (lcw_ofE (α := Wd) (iw_list (ew_callJ (hr := hr.mono (by omega)) (h_tree_of T) (g_tree_of T) (aw_cons (ew_name 5 (aw_nil ⟨_, ok_tree_of T (dirW w b) hd4 (by omega), fun r hr' => ?_⟩)))))))
      obtain ⟨ys, rfl, yn, ym⟩ := hr'
      have yz : ys.length ≤ 41 := by
        have := nodup_len yn fun x hx => (ym x).mp hx
        unfold pres at this; rw [List.length_map, List.length_range] at this; omega
      have y4 : ∀ o ∈ ys, W4 o ∧ o.length ≤ 40 := fun o ho => by
        have ho := (ym o).mp ho
        unfold pres at ho
        obtain ⟨k, _, rfl⟩ := List.mem_map.mp ho
        refine ⟨W4.red fun a ha => hd4 a (List.mem_of_mem_take ha), ?_⟩
        have := red_len ((dirW w b).take k)
        rw [List.length_take] at this; omega
      refine ⟨_, rfl, ys, S, fun o => S (red (place ++ o)), fun _ => true, rfl, by omega, fun o ho => ?_, ?_⟩
      · obtain ⟨o4, oz⟩ := y4 o ho
        exact two_nm 9 (fun _ _ _ _ _ => fun _ _ _ _ _ => bws_nil ⟨rfl, fun _ s1 H1 C1 cl1 fp1 => ew_reduced T (ew_bin (ew_name 1 (ew_name 9 (op_add_s (by omega) ⟨_, rfl, hpw.app o4, by rw [List.length_append]; omega, rfl⟩)))) (hr.mono (by omega))⟩)
      rw [List.filter_eq_self.mpr fun _ _ => rfl]
      obtain ⟨cs, hcs0⟩ : ∃ cs : List Wd, cs = ys.map fun o => red (place ++ o) := ⟨_, rfl⟩
      have ecs : (ys.map fun o => S (red (place ++ o))) = cs.map S := by rw [hcs0, List.map_map]; rfl
      have hcs : ∀ x, x ∈ cs ↔ x ∈ cov place (dirW w b) := fun x => by
        rw [← cov_pres hpw hd4, hcs0, List.mem_map]
        constructor
        · rintro ⟨o, ho, rfl⟩; exact ⟨o, (ym o).mp ho, rfl⟩
        · rintro ⟨o, ho, rfl⟩; exact ⟨o, (ym o).mpr ho, rfl⟩
      have hcz : cs.length ≤ 100 := by rw [hcs0, List.length_map]; omega
      show SWs _ _ _ _ _
      rw [ecs]
      refine sws_cons (sw_set 7 (ew_reduced T (ew_bin (ew_name 1 (ew_name 5 (op_add_s (by omega) ⟨_, rfl, hpw.app hd4, by rw [List.length_append]; omega, ?_⟩)))) (hr.mono (by omega))))
      refine sws_cons (sw_set 8 (EW.imp (Q := fun d => d = encB (brg i place w b)) (ew_if (bw_cmp rfl (ew_name 4 (ew_tx WON (op_eq_s ⟨_, rfl, fun z => ?_, fun z => ?_⟩))))) fun r er => ?_))
      · refine ew_tup (aw_cons (ew_name 2 (aw_cons (ew_name 1 (aw_cons (ew_name 7 (aw_nil ?_)))))))
        cases b
        · rfl
        · exact absurd z (by decide)
      · refine ew_tup (aw_cons (ew_name 2 (aw_cons (ew_name 7 (aw_cons (ew_name 1 (aw_nil ?_)))))))
        cases b
        · exact absurd z (by decide)
        · rfl
      subst er
      have lay : ∀ x, x = brg i place w b ∨ x ∈ s.taken → (encB x).canLay0 = true ∧ (encB x).depth ≤ 1 := by
        rintro x (rfl | hx)
        · cases b
          · exact lay_encB (lo_Rd hpl) (lo_Rd hth)
          · exact lay_encB (lo_Rd hth) (lo_Rd hpl)
        · obtain ⟨i', p', q'⟩ := x
          obtain ⟨w', _, _, h1, h2, _⟩ := I1.t2 i' p' q' hx
          exact lay_encB (lo_Rd (hPR _ (I1.kP _ h1).1)) (lo_Rd (hPR _ (I1.kP _ h2).1))
      have skip : ((∀ x ∈ cov place (dirW w b), x ∈ P) → brg i place w b ∈ s.taken) → ∀ b' ∈ [false, true].take (j + 1), (∀ x ∈ cov place (dirW w b'), x ∈ P) → brg i place w b' ∈ s.taken := fun h b' hb' => by
        rw [tk2] at hb'
        rcases List.mem_append.mp hb' with q | q
        · exact A2 b' q
        · cases List.mem_singleton.mp q; exact h
      refine sws_one (sw_if (bw_w (bww_and (bw_inR (ref_fld (c_Tree T) (a_Tree_taken T)) (ew_name 8 (op_nin_enc hu eqv_encB 1 (by decide) lay ⟨_, rfl, fun z => ?_, fun z => ⟨fun y => (by cases y), fun _ => sws_nil ?_⟩⟩))))))
      · have hb : brg i place w b ∉ s.taken := by simpa using z
        refine bww_and1 (bw_val (ew_allc cs (fun x => decide (x ∈ P)) (b_all T) (ew_lcn [("one", 9)] 9 cs S (fun x => .bool (decide (x ∈ P))) (iw_list (ew_name 6 ⟨_, rfl, rfl, by omega, fun x hx s1 H1 C1 cl1 fp1 => ?_, rfl, _, rfl, fun zt => ?_, fun zf => sws_nil ?_⟩)))))
        · exact ew_cmp rfl (ew_name 9 (ew_fld (op_in_ls (.inl rfl) rfl) (c_Tree T) (a_Tree_places T)))
        · have hc : ∀ x ∈ cov place (dirW w b), x ∈ P := fun x hx => of_decide_eq_true (List.all_eq_true.mp zt x ((hcs x).mpr hx))
          have em : s.taken.map encB ++ [encB (brg i place w b)] = (s.taken ++ [brg i place w b]).map encB := by rw [List.map_append]; rfl
          refine sws_cons (sw_appR (ref_fld (c_Tree T) (a_Tree_taken T)) (by rw [List.length_map]; omega) (ew_name 8 ?_))
          rw [em]
          refine sws_one (sw_exprX (xw_selfJ (k := k + 1) (hr := hr) (h_Tree_takes T) (c_Tree T) (m_Tree_takes T) hN (fl := treeFl P en K (tkn s (brg i place w b))) ?_))
          refine aw_cons (ew_tup (aw_cons (ew_name 2 (aw_cons (ew_name 4 (aw_nil (aw_cons (ew_name 1 (aw_cons (ew_name 7 (aw_cons (ew_name 6 (aw_nil ⟨_, ok_takes T en tok k n hk G o s I1 i w place b hKi hp1 hc hb hn1 cs hcs hcz, fun fl' r hh => ?_⟩)))))))))))))
          obtain ⟨s', rfl, I', X', D'⟩ := hh
          have X2 : Ext s s' := ⟨X'.k, fun x hx => X'.t x (List.mem_append_left _ hx)⟩
          have hbt : brg i place w b ∈ s'.taken := X'.t _ (List.mem_append_right _ (List.mem_singleton.mpr rfl))
          refine ⟨s', _, _, _, _, _, rfl, I', X1.trans X2, fun x hx hx0 => ?_, fun j w b hj hw hc => X2.t _ (A1 j w b hj hw hc), fun b' hb' hc' => ?_⟩
          · by_cases hxs : x ∈ s.keys
            · exact (D1 x hxs hx0).mono X2
            · exact D' x hx hxs
          · rw [tk2] at hb'
            rcases List.mem_append.mp hb' with q | q
            · exact X2.t _ (A2 b' q hc')
            · cases List.mem_singleton.mp q; exact hbt
        · refine ⟨s, _, _, _, _, _, rfl, I1, X1, D1, A1, skip fun hc => ?_⟩
          exfalso
          rw [List.all_eq_false] at zf
          obtain ⟨x, hx, hx2⟩ := zf
          exact hx2 (decide_eq_true (hc x ((hcs x).mp hx)))
      · exact ⟨s, _, _, _, _, _, rfl, I1, X1, D1, A1, skip fun _ => by simpa using z⟩
    · rintro ε' ⟨s, s3, s4, s5, s6, s7, rfl, I1, X1, D1, A1, A2⟩
      refine ⟨s, _, _, _, _, _, _, _, rfl, I1, X1, D1, fun j w' b hj hw' hc => ?_⟩
      by_cases e : j = i
      · subst e
        rw [hKi] at hw'; cases hw'
        exact A2 b (by cases b <;> simp) hc
      · exact A1 j w' b (by omega) hw' hc
  · rintro ε' ⟨s, s1, s2, s3, s4, s5, s6, s7, rfl, I1, X1, D1, A1⟩
    rw [List.length_zipIdx] at A1
    exact ⟨_, rfl, s, rfl, I1, X1, fun i w b hw hc => A1 i w b (List.getElem?_eq_some_iff.mp hw).1 hw hc, D1⟩
end K78
/-! K78: walks: the tree made, its plan. -/
namespace K78
open PySem PySem.Spec L2
variable {B : Bs}
theorem goes_ok (T : Told B) {P K : List Wd} (en : Wd) (tok : TreeOk P K) : ∀ n, GoesOk B P K en (2 * n + 4) n := by
  intro n
  induction n using Nat.strongRecOn with
  | ind n ih => exact ok_goes T en tok (2 * n + 2) n (by omega) fun m hm => (ih m hm).mono (by omega)
theorem near_mono {P P' K : List Wd} (h : ∀ x, x ∈ P → x ∈ P') {x : Wd} (n : Near P K x) : Near P' K x := by
  induction n with
  | nil => exact .nil
  | go _ hw hc ih => exact .go ih hw fun x hx => h _ (hc x hx)
theorem cvd_mono {P P' K : List Wd} (h : ∀ x, x ∈ P → x ∈ P') {x : Wd} (n : Cvd P K x) : Cvd P' K x := by
  rcases n with e | ⟨p, w, b, h1, h2, h3, h4⟩
  · exact .inl e
  · exact .inr ⟨p, w, b, near_mono h h1, h2, fun y hy => h _ (h3 y hy), h4⟩
/-- what the tree tells -/
def ToldM (K : List Wd) (w : Wd) : Prop := Near (pres w) K (red w) ∧ ∀ x ∈ pres w, Cvd (pres w) K x
theorem pres_rd {w : Wd} (h : W4 w) : ∀ x ∈ pres w, Rd x := fun x hx => by
  unfold pres at hx
  obtain ⟨k, _, rfl⟩ := List.mem_map.mp hx
  exact rd_red fun a ha => h a (List.mem_of_mem_take ha)
theorem pres_len {w : Wd} {x : Wd} (h : x ∈ pres w) : x.length ≤ w.length := by
  unfold pres at h
  obtain ⟨k, _, rfl⟩ := List.mem_map.mp h
  have := red_len (w.take k)
  rw [List.length_take] at this; omega
theorem pres_nil (w : Wd) : [] ∈ pres w := List.mem_map.mpr ⟨0, List.mem_range.mpr (by omega), rfl⟩
structure TreeEnd (K : List Wd) (w : Wd) (P : List Wd) (s : TS) : Prop where
  pn : P.Nodup
  pm : ∀ x, x ∈ P ↔ x ∈ pres w
  i : TInv P K 0 s
  k : ∀ x, x ∈ s.keys ↔ Near P K x
  c : ∀ x, x ∈ s.cvd ↔ Cvd P K x
def s0T : TS := ⟨[], [], [([], [])], [[]]⟩
theorem s0T_inv {P K : List Wd} (h : [] ∈ P) : TInv P K 0 s0T where
  tn := List.nodup_nil
  t2 := fun i p q h => by cases h
  wk := Nat.le_refl _
  kn := by decide
  kP := fun x hx => by
    cases List.mem_singleton.mp (show x ∈ [([] : Wd)] from hx); exact ⟨h, .nil⟩
  k0 := List.mem_singleton.mpr rfl
  kl := fun e he => by
    cases List.mem_singleton.mp (show e ∈ [(([] : Wd), ([] : List PyData))] from he); decide
  cn := by decide
  cP := fun x hx => by
    cases List.mem_singleton.mp (show x ∈ [([] : Wd)] from hx); exact ⟨h, .inl rfl⟩
  c0 := List.mem_singleton.mpr rfl
theorem ok_Tree_init (T : Told B) (K : List Wd) (w : Wd) (hw : W4 w) (hz : w.length ≤ 40) (h4 : ∀ k ∈ K, W4 k ∧ k.length ≤ 40) (hk : K.length ≤ 20) : Ok B 127 d_Tree_init p_Tree_init (spI (He.ga B.K "Tree") [.list (K.map S), S w] fun fl => ∃ P s, fl = treeFl P (red w) K s ∧ TreeEnd K w P s) := by
  refine ok_i (h_Tree_init T) s_Tree_init rfl fun c hr F p hro hN hI => ?_
  have nd := s_Tree_init.nd
  refine sws_cons (sw_fldD (ew_callJ (hr := hr.mono (by decide)) (h_tree_of T) (g_tree_of T) (aw_cons (ew_name 2 (aw_nil ⟨_, ok_tree_of T w hw (by omega), fun r hr' => ?_⟩)))) (c_Tree T) (a_Tree_places T))
  obtain ⟨P, rfl, pn, pm⟩ := hr'
  refine sws_cons (sw_fldD (ew_reduced T (ew_name 2 ⟨w, rfl, hw, by omega, ?_⟩) (hr.mono (by decide))) (c_Tree T) (a_Tree_end T))
  refine sws_cons (sw_fldD (ew_name 1 ?_) (c_Tree T) (a_Tree_words T))
  refine sws_cons (sw_fldN (nw_lst (aw_nil ?_)) (c_Tree T) (a_Tree_taken T))
  refine sws_cons (sw_fldN (nw_lst (aw_nil ?_)) (c_Tree T) (a_Tree_walk T))
  refine sws_cons (sw_fldN (nw_dispSL ?_) (c_Tree T) (a_Tree_ways T))
  refine sws_cons (sw_fldN (nw_dispSB ?_) (c_Tree T) (a_Tree_covered T))
  have PZ : P.length ≤ 41 := by
    have := nodup_len pn fun x hx => (pm x).mp hx
    unfold pres at this; rw [List.length_map, List.length_range] at this; omega
  have tok : TreeOk P K := ⟨fun x hx => ⟨pres_rd hw x ((pm x).mp hx), by have := pres_len ((pm x).mp hx); omega⟩, by omega, h4, hk⟩
  have P0 : [] ∈ P := (pm []).mpr (pres_nil w)
  refine sws_one (sw_exprX (xw_selfJ (k := 126) (hr := hr) (h_Tree_goes_around T) (c_Tree T) (m_Tree_goes_around T) hN (fl := treeFl P (red w) K s0T) ?_))
  refine aw_cons (ew_tx [] (aw_nil ⟨_, ((goes_ok T (red w) tok P.length).mono (by omega)) 0 s0T [] (s0T_inv P0) (List.mem_singleton.mpr rfl) (Nat.le_add_left _ _), fun fl' r h => ?_⟩))
  obtain ⟨s, rfl, I, X, D, N⟩ := h
  have dn : ∀ q ∈ s.keys, DoneAt P K s q := fun q hq => by
    by_cases h : q = []
    · subst h; exact D
    · exact N q hq fun z => h (List.mem_singleton.mp z)
  obtain ⟨e1, e2⟩ := tree_end I (fun x hx => (tok.p x hx).1) (fun x hx => (h4 x hx).1) dn
  exact ⟨_, rfl, P, s, rfl, pn, pm, I, e1, e2⟩
def treeFl2 (P : List Wd) (en : Wd) (K : List Wd) (s : TS) : List (Str × Fv) := [("places", .dat (.list (P.map S))), ("end", .dat (S en)), ("words", .dat (.list (K.map S))), ("taken", .lst (s.taken.map encB)), ("walk", .dat (.list s.walk)), ("ways", .dK (encWays s.ways)), ("covered", .dK (encCv s.cvd))]
theorem subset_of_len {α : Type} [DecidableEq α] {xs ys : List α} (nx : xs.Nodup) (sub : ∀ x ∈ xs, x ∈ ys) (h : ys.length ≤ xs.length) : ∀ y ∈ ys, y ∈ xs := fun y hy => by
  by_cases c : y ∈ xs
  · exact c
  · have := nodup_len (ys := y :: xs) (ws := ys) (List.nodup_cons.mpr ⟨c, nx⟩) fun w hw => by
      rcases List.mem_cons.mp hw with rfl | q
      · exact hy
      · exact sub w q
    rw [List.length_cons] at this; omega
theorem ok_Tree_plan (T : Told B) (K : List Wd) (w : Wd) (hz : w.length ≤ 40) (hk : K.length ≤ 20) (P : List Wd) (s : TS) (E : TreeEnd K w P s) : Ok B 1 d_Tree_told_plan p_Tree_told_plan (spPV (He.ga B.K "Tree") (treeFl2 P (red w) K s) [] fun r => (r = .none ∧ ¬ ToldM K w) ∨ ((∃ ds, r = .list ds) ∧ ToldM K w)) := by
  refine ok_pv (h_Tree_told_plan T) s_Tree_told_plan rfl fun c hr F p hN => ?_
  have nd := s_Tree_told_plan.nd
  have hu : (cx B d_Tree_told_plan n_Tree_told_plan c).A.units + 1 < cLine := by have := hr.units; omega
  obtain ⟨pn, pm, I, ek, ec⟩ := E
  have PZ : P.length ≤ 41 := by
    have := nodup_len pn fun x hx => (pm x).mp hx
    unfold pres at this; rw [List.length_map, List.length_range] at this; omega
  have tl := taken_len I
  have tlz : s.taken.length ≤ 20 * (41 * 41) := Nat.le_trans tl (Nat.mul_le_mul hk (Nat.mul_le_mul PZ PZ))
  have wz := I.wk
  have kz : s.ways.length ≤ P.length := by
    have := nodup_len I.kn fun x hx => (I.kP x hx).1
    unfold TS.keys at this; rw [List.length_map] at this; exact this
  have toP : ∀ x, Near P K x ↔ Near (pres w) K x := fun x => ⟨near_mono fun y hy => (pm y).mp hy, near_mono fun y hy => (pm y).mpr hy⟩
  have toC : ∀ x, Cvd P K x ↔ Cvd (pres w) K x := fun x => ⟨cvd_mono fun y hy => (pm y).mp hy, cvd_mono fun y hy => (pm y).mpr hy⟩
  have keyV : (valG s.ways (red w)).isSome = decide (red w ∈ s.keys) := by
    by_cases h : red w ∈ s.keys
    · rw [decide_eq_true h]; exact (valG_some_iff _ _).mpr h
    · rw [decide_eq_false h]
      cases e : (valG s.ways (red w)).isSome with
      | false => rfl
      | true => exact absurd ((valG_some_iff _ _).mp e) h
  have keyE : (valG (encWays s.ways) (encT (red w))).isSome = decide (red w ∈ s.keys) := by
    rw [val_ways, ← keyV]; cases valG s.ways (red w) <;> rfl
  refine sws_cons (sw_if (bw_w (bww_or (bw_dnin (ref_fld (c_Tree T) (a_Tree_ways T)) hu (ew_fld ⟨decide (red w ∈ s.keys), .inl ⟨_, encT (red w), rfl, rfl, keyE⟩, fun z => ⟨fun _ => ?_, fun y => (by cases y)⟩, fun z => ?_⟩ (c_Tree T) (a_Tree_end T))))))
  · have z : red w ∉ s.keys := by simpa using z
    exact sws_one (sw_ret (ew_non (.inl ⟨rfl, fun h => z ((ek _).mpr ((toP _).mpr h.1))⟩)))
  · have z : red w ∈ s.keys := by simpa using z
    refine bww_or1 (bw_cmp rfl (ew_lenR (n := s.cvd.length) (ref_fld (c_Tree T) (a_Tree_covered T)) (b_len T) (.inr ⟨_, rfl, by unfold encCv; rw [List.length_map]⟩) (ew_len (b_len T) (ew_fld (.inl ⟨_, .inl rfl, op_ne_i ⟨_, rfl, fun y => ?_, fun y => sws_nil ?_⟩⟩) (c_Tree T) (a_Tree_places T)))))
    · rw [List.length_map] at y
      have y : s.cvd.length ≠ P.length := by
        have : ¬ ((s.cvd.length : Int) = (P.length : Int)) := by simpa using y
        omega
      refine sws_one (sw_ret (ew_non (.inl ⟨rfl, fun h => y ?_⟩)))
      have l1 := nodup_len I.cn fun x hx => (I.cP x hx).1
      have l2 := nodup_len pn fun x hx => (ec x).mpr ((toC x).mpr (h.2 x ((pm x).mp hx)))
      omega
    · rw [List.length_map] at y
      have y : s.cvd.length = P.length := by
        have : ((s.cvd.length : Int) = (P.length : Int)) := by simpa using y
        omega
      obtain ⟨ds, eds⟩ := Option.isSome_iff_exists.mp ((valG_some_iff s.ways (red w)).mpr z)
      have dsz : ds.length < s.ways.length := I.kl (red w, ds) (val_mem eds)
      have eds' : valG (encWays s.ways) (encT (red w)) = some (.list ds) := by rw [val_ways, eds]; rfl
      refine sws_one (sw_ret (ew_bin (ew_fld (d := .list s.walk) (ew_dget (ref_fld (c_Tree T) (a_Tree_ways T)) hu (ew_fld ⟨encT (red w), .list ds, rfl, eds', op_cat_d (ds := s.walk) (es := ds) (by omega) (.inr ⟨⟨_, rfl⟩, ?_, fun x hx => ?_⟩)⟩ (c_Tree T) (a_Tree_end T))) (c_Tree T) (a_Tree_walk T))))
      · exact (toP _).mp ((ek _).mp z)
      · exact (toC _).mp ((ec x).mp (subset_of_len I.cn (fun x hx => (I.cP x hx).1) (by omega) x ((pm x).mpr hx)))
end K78
/-! K78: walks: what kept paths tell. -/
namespace K78
open PySem PySem.Spec L2
variable {B : Bs}
def TellsP : Mn → List Tx → Tx → Prop
  | .any, ks, t => Rch (brs t ks) t.ls.length
  | .matched, ks, t => ToldM (ks.map Tx.un) t.un
  | .turned, ks, t => Gen (ks.map Tx.un) t.un
structure FitM (m : Mn) (ks : List Tx) (t : Tx) : Prop where
  gt : Good t
  st : Suit m t
  zt : t.un.length ≤ 40
  gk : ∀ k ∈ ks, Good k ∧ Suit m k ∧ k.un.length ≤ 40
  z : ks.length ≤ 20
theorem un_W {t : Tx} (h : Good t) (hm : ∀ m ∈ t.ms, m = []) : W4 t.un := fun c hc => by
  unfold Tx.un at hc
  rcases List.mem_append.mp hc with q | q
  · rw [hm t.1 (List.mem_cons_self ..)] at q; cases q
  · obtain ⟨p, hp, hq⟩ := List.mem_flatMap.mp q
    rcases List.mem_cons.mp hq with rfl | q2
    · exact h.l4 p hp
    · rw [hm p.2 (List.mem_cons_of_mem _ (List.mem_map_of_mem hp))] at q2; cases q2
def BoolI (P : Prop) (r : PyData) : Prop := ∃ b : Bool, r = .bool b ∧ (b = true ↔ P)
theorem ok_plan_of (T : Told B) (m : Mn) (ks : List Tx) (t : Tx) (h : FitM m ks t) (hm : m ≠ .turned) : Ok B 129 d_plan_of p_plan_of (spV [S m.w, .list ((ks.map Tx.un).map S), S t.un] fun r => (r = .none ∧ ¬ TellsP m ks t) ∨ ((∃ ds, r = .list ds) ∧ TellsP m ks t)) := by
  refine ok_v (h_plan_of T) s_plan_of rfl fun c hr F hro => ?_
  have nd := s_plan_of.nd
  obtain ⟨gt, st, zt, gk, z⟩ := h
  have e : (ks.map Tx.un).map S = ks.map fun k => S k.un := by rw [List.map_map]; rfl
  cases m with
  | turned => exact absurd rfl hm
  | any =>
    refine sws_cons (sw_if (bw_cmp rfl (ew_name 0 (ew_tx Mn.any.w (op_eq_s ⟨_, rfl, fun _ => ?_, fun y => ?_⟩)))))
    rotate_left
    · exact absurd y (by decide)
    refine sws_one (sw_ret (ew_makeM [] (ka := 6) (k := 1) (h_Line_init T) (h_Line_told_plan T) (k_Line T) (c_Line T) (m_Line_told_plan T) (g_Line T) (aw_cons (ew_name 1 (aw_cons (ew_name 2 (aw_nil ⟨LineEnd t ks, ?_, fun fl hfl => ?_⟩))))) (hr.mono (by decide)) (hr.mono (by decide))))
    · rw [e]; exact ok_Line_init T t ks gt (fun k hk => (gk k hk).1) z
    · obtain ⟨s, rfl, I, hR⟩ := hfl
      refine ⟨rfl, _, ok_Line_plan T (brs t ks) t.ls.length s I (by have := gt.ls_len; omega), fun r hr => ?_⟩
      rcases hr with ⟨h1, h2⟩ | ⟨h1, h2⟩
      · exact .inr ⟨h2, (hR _).mp h1⟩
      · exact .inl ⟨h2, fun h3 => by rw [(hR _).mpr h3] at h1; cases h1⟩
  | matched =>
    refine sws_cons (sw_if (bw_cmp rfl (ew_name 0 (ew_tx Mn.any.w (op_eq_s ⟨_, rfl, fun y => ?_, fun _ => sws_nil ?_⟩)))))
    · exact absurd y (by decide)
    refine sws_cons (sw_if (bw_cmp rfl (ew_name 0 (ew_tx Mn.matched.w (op_eq_s ⟨_, rfl, fun _ => ?_, fun y => ?_⟩)))))
    rotate_left
    · exact absurd y (by decide)
    have hw := un_W gt st
    have h4 : ∀ k ∈ ks.map Tx.un, W4 k ∧ k.length ≤ 40 := fun k hk => by
      obtain ⟨k0, hk0, rfl⟩ := List.mem_map.mp hk
      obtain ⟨g, s, l⟩ := gk k0 hk0
      exact ⟨un_W g s, l⟩
    have hz : (ks.map Tx.un).length ≤ 20 := by rw [List.length_map]; exact z
    refine sws_one (sw_ret (ew_makeM ["walk"] (ka := 127) (k := 1) (h_Tree_init T) (h_Tree_told_plan T) (k_Tree T) (c_Tree T) (m_Tree_told_plan T) (g_Tree T) (aw_cons (ew_name 1 (aw_cons (ew_name 2 (aw_nil ⟨_, ok_Tree_init T (ks.map Tx.un) t.un hw zt h4 hz, fun fl hfl => ?_⟩))))) hr (hr.mono (by decide))))
    obtain ⟨P, s, rfl, E⟩ := hfl
    exact ⟨rfl, _, ok_Tree_plan T (ks.map Tx.un) t.un zt hz P s E, fun r hr => hr⟩
theorem ok_tells_path (T : Told B) (m : Mn) (ks : List Tx) (t : Tx) (h : FitM m ks t) : Ok B 130 d_tells_path p_tells_path (spV [S m.w, .list ((ks.map Tx.un).map S), S t.un] (BoolI (TellsP m ks t))) := by
  refine ok_v (h_tells_path T) s_tells_path rfl fun c hr F hro => ?_
  have nd := s_tells_path.nd
  by_cases hm : m = .turned
  · subst hm
    obtain ⟨gt, st, zt, gk, z⟩ := h
    refine sws_cons (sw_if (bw_cmp rfl (ew_name 0 (ew_tx Mn.turned.w (op_eq_s ⟨_, rfl, fun _ => ?_, fun y => ?_⟩)))))
    rotate_left
    · exact absurd y (by decide)
    have hw := un_W gt st
    have h4 : ∀ k ∈ ks.map Tx.un, W4 k ∧ k ≠ [] ∧ k.length ≤ 100 := fun k hk => by
      obtain ⟨k0, hk0, rfl⟩ := List.mem_map.mp hk
      obtain ⟨g, s, l⟩ := gk k0 hk0
      exact ⟨un_W g s, g.un_ne, by omega⟩
    have hz : (ks.map Tx.un).length ≤ 20 := by rw [List.length_map]; exact z
    refine sws_one (sw_ret (ew_cmp rfl (ew_makeM1 [] (ka := 5) (k := 4) 2 (h_Fold_init T) (h_Fold_told_plan T) (k_Fold T) (c_Fold T) (m_Fold_told_plan T) (g_Fold T) (aw_cons (ew_name 1 (aw_cons (ew_bl (aw_nil ⟨_, ok_Fold_init T (ks.map Tx.un) h4 hz, fun fl hfl => ?_⟩))))) (hr.mono (by decide)) (hr.mono (by decide)))))
    obtain ⟨m, E, rfl, I, d⟩ := hfl
    refine ⟨rfl, _, ok_Fold_plan T m E I.sm d t.un hw (by omega), fun r hr => ?_⟩
    have ti := told_iff I d hw
    rcases hr with ⟨rfl, no⟩ | ⟨rfl, yes⟩
    · exact ew_non (op_nis_n (.inl rfl) ⟨false, rfl, fun z => (by cases z), fun z => absurd (ti.mpr z) no⟩)
    · exact ew_non (op_nis_n (.inr (.inl ⟨_, rfl⟩)) ⟨true, rfl, fun _ => ti.mp yes, fun _ => rfl⟩)
  · have hd : decide (m.w = Mn.turned.w) = false := by cases m <;> first | rfl | exact absurd rfl hm
    refine sws_cons (sw_if (bw_cmp rfl (ew_name 0 (ew_tx Mn.turned.w (op_eq_s ⟨_, rfl, fun y => ?_, fun _ => sws_nil ?_⟩)))))
    · exact absurd (hd.symm.trans y) (by decide)
    refine sws_one (sw_ret (ew_cmp rfl (ew_callJ (hr := hr) (h_plan_of T) (g_plan_of T) (aw_cons (ew_name 0 (aw_cons (ew_name 1 (aw_cons (ew_name 2 (aw_nil ⟨_, ok_plan_of T m ks t h hm, fun r hr => ?_⟩))))))))))
    rcases hr with ⟨rfl, no⟩ | ⟨⟨ds, rfl⟩, yes⟩
    · exact ew_non (op_nis_n (.inl rfl) ⟨false, rfl, fun z => (by cases z), fun z => absurd z no⟩)
    · exact ew_non (op_nis_n (.inr (.inl ⟨_, rfl⟩)) ⟨true, rfl, fun _ => yes, fun _ => rfl⟩)
end K78
/-! K78: plain: least groups; walks: telling. -/
namespace K78
open PySem PySem.Spec L2
variable {B : Bs}
/-! ### groups -/
theorem subs_mem : ∀ (n : Nat) (g : List Nat), g ∈ subs n ↔ g.Sublist (List.range n)
  | 0, g => by
    show g ∈ [[]] ↔ g.Sublist []
    rw [List.mem_singleton, List.sublist_nil]
  | n + 1, g => by
    have e : subs (n + 1) = addP (subs n) n := by unfold subs; rw [List.range_succ, List.foldl_append]; rfl
    rw [e, List.range_succ]
    unfold addP
    rw [List.mem_append, List.mem_map, List.sublist_append_iff]
    constructor
    · rintro (h | ⟨p, hp, rfl⟩)
      · exact ⟨g, [], by simp, (subs_mem n g).mp h, List.nil_sublist _⟩
      · exact ⟨p, [n], rfl, (subs_mem n p).mp hp, List.Sublist.refl _⟩
    · rintro ⟨l1, l2, rfl, h1, h2⟩
      cases h2 with
      | cons _ h =>
        rw [List.sublist_nil.mp h]
        left; rw [List.append_nil]; exact (subs_mem n l1).mpr h1
      | cons_cons _ h =>
        rw [List.sublist_nil.mp h]
        right; exact ⟨l1, (subs_mem n l1).mpr h1, rfl⟩
theorem subs_nodup : ∀ n : Nat, (subs n).Nodup
  | 0 => by show [([] : List Nat)].Nodup; decide
  | n + 1 => by
    have e : subs (n + 1) = addP (subs n) n := by unfold subs; rw [List.range_succ, List.foldl_append]; rfl
    rw [e]
    unfold addP
    rw [List.nodup_append]
    refine ⟨subs_nodup n, ?_, ?_⟩
    · exact List.pairwise_map.mpr ((subs_nodup n).imp fun ne e => ne (List.append_cancel_right e))
    · rintro a ha b hb rfl
      obtain ⟨p, hp, rfl⟩ := List.mem_map.mp hb
      have := ((subs_mem n _).mp ha).subset (List.mem_append_right p (List.mem_singleton.mpr rfl))
      exact absurd (List.mem_range.mp this) (Nat.lt_irrefl _)
theorem range_nodup (n : Nat) : (List.range n).Nodup := List.nodup_range
theorem sub_eq {n : Nat} {g h : List Nat} (hg : g ∈ subs n) (hh : h ∈ subs n) (e : ∀ x, x ∈ g ↔ x ∈ h) : g = h := by
  have a := filter_sub (range_nodup n) ((subs_mem n g).mp hg)
  have b := filter_sub (range_nodup n) ((subs_mem n h).mp hh)
  rw [← a, ← b]
  congr 1
  funext x
  exact decide_eq_decide.mpr (e x)
theorem subs_nd {n : Nat} {g : List Nat} (h : g ∈ subs n) : g.Nodup := ((subs_mem n g).mp h).nodup (range_nodup n)
theorem sub_lt {n : Nat} {g h : List Nat} (hg : g ∈ subs n) (hh : h ∈ subs n) (s : ∀ x ∈ h, x ∈ g) (ne : h ≠ g) : h.length < g.length := by
  have l := nodup_len (subs_nd hh) s
  rcases Nat.lt_or_ge h.length g.length with q | q
  · exact q
  · exact absurd (sub_eq hh hg fun x => ⟨s x, subset_of_len (subs_nd hh) s q x⟩) ne
/-- least of these that have P -/
def Least (n : Nat) (P : List Nat → Prop) (g : List Nat) : Prop := g ∈ subs n ∧ P g ∧ ∀ h ∈ subs n, P h → (∀ x ∈ h, x ∈ g) → h = g
/-- below each one there is a least one -/
theorem least_below {n : Nat} {P : List Nat → Prop} : ∀ (k : Nat) (g : List Nat), g.length ≤ k → g ∈ subs n → P g → ∃ h, Least n P h ∧ ∀ x ∈ h, x ∈ g := by
  intro k
  induction k with
  | zero =>
    intro g hk hg hP
    have : g = [] := List.length_eq_zero_iff.mp (by omega)
    subst this
    refine ⟨[], ⟨hg, hP, fun h _ _ hs => ?_⟩, fun x h => h⟩
    cases h with
    | nil => rfl
    | cons a l => exact absurd (hs a (List.mem_cons_self ..)) (by simp)
  | succ k ih =>
    intro g hk hg hP
    by_cases c : ∃ h ∈ subs n, P h ∧ (∀ x ∈ h, x ∈ g) ∧ h ≠ g
    · obtain ⟨h, h1, h2, h3, h4⟩ := c
      obtain ⟨h', a, b⟩ := ih h (by have := sub_lt hg h1 h3 h4; omega) h1 h2
      exact ⟨h', a, fun x hx => h3 x (b x hx)⟩
    · refine ⟨g, ⟨hg, hP, fun h h1 h2 h3 => ?_⟩, fun x h => h⟩
      by_cases e : h = g
      · exact e
      · exact absurd ⟨h, h1, h2, h3, e⟩ c
/-- a turn of the search: what is found so far is the least ones so far -/
theorem search_step {n : Nat} {P : List Nat → Prop} {gs fs : List (List Nat)} {i : Nat} {g : List Nat} (pm : gs.Perm (subs n)) (ps : gs.Pairwise fun a b => a.length ≤ b.length) (hg : gs[i]? = some g)
    (hf : ∀ h, h ∈ fs ↔ h ∈ gs.take i ∧ Least n P h) : (Least n P g ↔ P g ∧ ¬ ∃ f ∈ fs, ∀ x ∈ f, x ∈ g) ∧ g ∉ fs := by
  have hgs : g ∈ subs n := pm.mem_iff.mp (List.mem_of_getElem? hg)
  have nd : gs.Nodup := pm.nodup_iff.mpr (subs_nodup n)
  have hgt : g ∉ gs.take i := nodup_pre nd hg
  refine ⟨⟨fun h => ⟨h.2.1, ?_⟩, fun ⟨h1, h2⟩ => ⟨hgs, h1, fun h a b c => ?_⟩⟩, fun h => hgt ((hf g).mp h).1⟩
  · rintro ⟨f, hf1, hf2⟩
    obtain ⟨q1, q2⟩ := (hf f).mp hf1
    have := h.2.2 f q2.1 q2.2.1 hf2
    subst this
    exact hgt q1
  · by_cases e : h = g
    · exact e
    exfalso
    obtain ⟨h', l, s⟩ := least_below (n := n) (P := P) h.length h (Nat.le_refl _) a b
    have hlt : h'.length < g.length := by
      have q1 := nodup_len (subs_nd l.1) s
      have q2 := sub_lt hgs a c e
      omega
    refine h2 ⟨h', (hf h').mpr ⟨?_, l⟩, fun x hx => c x (s x hx)⟩
    obtain ⟨j, hj⟩ := List.getElem?_of_mem (pm.mem_iff.mpr l.1)
    by_cases c : j < i
    · exact List.mem_of_getElem? (l := gs.take i) (i := j) (by rw [List.getElem?_take, if_pos c]; exact hj)
    · exfalso
      obtain ⟨hi1, hi2⟩ := List.getElem?_eq_some_iff.mp hg
      obtain ⟨hj1, hj2⟩ := List.getElem?_eq_some_iff.mp hj
      have hne : i ≠ j := fun e => by subst e; rw [hi2] at hj2; subst hj2; omega
      have := List.pairwise_iff_getElem.mp ps i j hi1 hj1 (by omega)
      rw [hi2, hj2] at this
      omega
/-! ### the texts of Tx tell it -/
theorem un_inj {a b : Tx} (ha : Good a) (hb : Good b) (e : a.un = b.un) : a = b := by
  obtain ⟨a1, a2⟩ := scan_un ha
  obtain ⟨b1, b2⟩ := scan_un hb
  rw [e] at a1 a2
  have e1 : a.ls = b.ls := a1.symm.trans b1
  have e2 : a.ms = b.ms := a2.symm.trans b2
  obtain ⟨m, l⟩ := a
  obtain ⟨m', l'⟩ := b
  unfold Tx.ls at e1
  unfold Tx.ms at e2
  have e3 : m = m' := (List.cons.inj e2).1
  have e4 : l.map (·.2) = l'.map (·.2) := (List.cons.inj e2).2
  subst e3
  have : l = l' := by
    clear ha hb e a1 a2 b1 b2 e2
    induction l generalizing l' with
    | nil => cases l' with
      | nil => rfl
      | cons x l' => cases e4
    | cons x l ih => cases l' with
      | nil => cases e4
      | cons y l' =>
        obtain ⟨p1, p2⟩ := List.cons.inj e1
        obtain ⟨q1, q2⟩ := List.cons.inj e4
        rw [ih l' q2 p2]
        obtain ⟨x1, x2⟩ := x
        obtain ⟨y1, y2⟩ := y
        cases p1; cases q1; rfl
  subst this; rfl
theorem uns_inj : ∀ {ks js : List Tx}, (∀ k ∈ ks, Good k) → (∀ k ∈ js, Good k) → ks.map Tx.un = js.map Tx.un → ks = js
  | [], [], _, _, _ => rfl
  | [], _ :: _, _, _, e => by cases e
  | _ :: _, [], _, _, e => by cases e
  | k :: ks, j :: js, h1, h2, e => by
    obtain ⟨e1, e2⟩ := List.cons.inj e
    rw [un_inj (h1 k (List.mem_cons_self ..)) (h2 j (List.mem_cons_self ..)) e1, uns_inj (fun x hx => h1 x (List.mem_cons_of_mem _ hx)) (fun x hx => h2 x (List.mem_cons_of_mem _ hx)) e2]
theorem uns_of {P : Tx → Prop} : ∀ (l : List Wd), (∀ w ∈ l, ∃ k, P k ∧ Tx.un k = w) → ∃ ks : List Tx, ks.map Tx.un = l ∧ ∀ k ∈ ks, P k
  | [], _ => ⟨[], rfl, fun k hk => by cases hk⟩
  | w :: l, h => by
    obtain ⟨k, h1, h2⟩ := h w (List.mem_cons_self ..)
    obtain ⟨ks, e, hk⟩ := uns_of l fun x hx => h x (List.mem_cons_of_mem _ hx)
    refine ⟨k :: ks, by rw [List.map_cons, h2, e], fun x hx => ?_⟩
    rcases List.mem_cons.mp hx with rfl | q
    · exact h1
    · exact hk x q
/-- whether texts tell a path -/
def Tw (m : Mn) (K : List Wd) (t : Tx) : Prop := ∃ ks : List Tx, ks.map Tx.un = K ∧ (∀ k ∈ ks, Good k) ∧ TellsP m ks t
theorem tw_iff {m : Mn} {ks : List Tx} {t : Tx} (h : ∀ k ∈ ks, Good k) : Tw m (ks.map Tx.un) t ↔ TellsP m ks t :=
  ⟨fun ⟨js, e, hj, q⟩ => by rw [← uns_inj hj h e]; exact q, fun q => ⟨ks, rfl, h, q⟩⟩
theorem known_mem {us : List (List Wd)} : ∀ (g : List Nat) (acc : List Wd), ∀ w ∈ g.foldl (addK us) acc, w ∈ acc ∨ ∃ u ∈ us, w ∈ u
  | [], acc, w, h => .inl h
  | a :: g, acc, w, h => by
    rcases known_mem g (addK us acc a) w h with q | q
    · unfold addK at q
      rcases List.mem_append.mp q with q | q
      · exact .inl q
      · have q := (List.mem_filter.mp q).1
        rw [List.getD_eq_getElem?_getD] at q
        cases e : us[a]? with
        | none => rw [e] at q; cases q
        | some u => rw [e] at q; exact .inr ⟨u, List.mem_of_getElem? e, q⟩
    · exact .inr q
theorem known_len {us : List (List Wd)} (hu : ∀ u ∈ us, u.length ≤ 4) : ∀ (g : List Nat) (acc : List Wd), (g.foldl (addK us) acc).length ≤ acc.length + 4 * g.length
  | [], acc => Nat.le_refl _
  | a :: g, acc => by
    have h1 := known_len hu g (addK us acc a)
    have h2 : (addK us acc a).length ≤ acc.length + 4 := by
      unfold addK
      rw [List.length_append]
      have := List.length_filter_le (fun w => !decide (w ∈ acc)) (us.getD a [])
      have : (us.getD a []).length ≤ 4 := by
        rw [List.getD_eq_getElem?_getD]
        cases e : us[a]? with
        | none => simp
        | some u => exact hu u (List.mem_of_getElem? e)
      omega
    rw [List.foldl_cons, List.length_cons]; omega
/-- hands as the law deals them -/
structure HandsOk (m : Mn) (hs : List Hand) : Prop where
  z : hs.length ≤ 5
  h : ∀ h ∈ hs, HandOk m h
  l : ∀ h ∈ hs, ∀ t ∈ h.2, t.un.length ≤ 40
theorem known_tx {m : Mn} {hs : List Hand} (H : HandsOk m hs) (g : List Nat) (hg : g.length ≤ 5) : ∃ ks : List Tx, ks.map Tx.un = known (hs.map Hand.us) g ∧ (∀ k ∈ ks, Good k ∧ Suit m k ∧ k.un.length ≤ 40) ∧ ks.length ≤ 20 := by
  obtain ⟨ks, e, h⟩ := uns_of (P := fun k => Good k ∧ Suit m k ∧ k.un.length ≤ 40) (known (hs.map Hand.us) g) fun w hw => by
    rcases known_mem g [] w hw with q | ⟨u, hu, q⟩
    · cases q
    · obtain ⟨h, hh, rfl⟩ := List.mem_map.mp hu
      obtain ⟨t, ht, rfl⟩ := List.mem_map.mp q
      exact ⟨t, ⟨((H.h h hh).g t ht).1, ((H.h h hh).g t ht).2, H.l h hh t ht⟩, rfl⟩
  refine ⟨ks, e, h, ?_⟩
  have l := known_len (us := hs.map Hand.us) (fun u hu => by
    obtain ⟨h, hh, rfl⟩ := List.mem_map.mp hu
    unfold Hand.us; rw [List.length_map]; exact (H.h h hh).z) g []
  have : ks.length = (known (hs.map Hand.us) g).length := by rw [← e, List.length_map]
  unfold known at this
  simp only [List.length_nil] at l
  omega
/-- a group tells -/
def Tg (m : Mn) (hs : List Hand) (t : Tx) (g : List Nat) : Prop := Tw m (known (hs.map Hand.us) g) t
/-- a loop over what is known only when it is walked -/
theorem sw_forE {X : Cx} {F : Fm} {ε : Env} {R : ER} {tg iter : Expr} {pos : Pos} {α : Type} {body : List Stmt} (h : IW X F tg iter ε fun ds => ∃ (xs : List α) (enc : α → PyData) (I : Nat → Env → Prop), ds = xs.map enc ∧ I 0 ε ∧
    (∀ i x ε', xs[i]? = some x → I i ε' → TW X F tg (enc x) ε' fun ε2 => SWs X F body ε2 { R with nx := I (i + 1), ct := I (i + 1), bk := R.nx }) ∧ ∀ ε', I xs.length ε' → R.nx ε')
    (hc : X.calm = true := by rfl) (hp : PassesOwn (model X.prog X.w) X.A X.env X.xe := by exact PassesOwn.never) (hs : ∀ x, foldedSetIterable iter X.env x = pure x := by intro _; rfl) : SW X F (.For tg iter body [] pos) ε R :=
  sw_for (by
    intro hd Hb H σ S R' k
    refine h hd Hb H σ S R' fun J ds Hb' H' S' g it ⟨xs, enc, I, e, h0, turn, done⟩ => k J ds Hb' H' S' g it ⟨I, h0, fun i d ε' ed hI => ?_, fun ε' hI => done ε' (by rw [e, List.length_map] at hI; exact hI)⟩
    subst e
    rw [List.getElem?_map] at ed
    cases ex : xs[i]? with
    | none => rw [ex] at ed; cases ed
    | some x => rw [ex] at ed; cases ed; exact turn i x ε' ex hI) hc hp hs
theorem ok_telling (T : Told B) (m : Mn) (b : Bool) (hs : List Hand) (t : Tx) (H : HandsOk m hs) (gt : Good t) (st : Suit m t) (zt : t.un.length ≤ 40) :
    Ok B 131 d_telling p_telling (spV [S m.w, sqD b (hs.map Hand.d), S t.un] fun r => ∃ fs : List (List Nat), r = .list (fs.map dI) ∧ fs.Nodup ∧ ∀ g, g ∈ fs ↔ Least hs.length (Tg m hs t) g) := by
  refine ok_v (h_telling T) s_telling rfl fun c hr F hro => ?_
  have nd := s_telling.nd
  have eh : (hs.map fun h => PyData.list (h.us.map S)) = (hs.map Hand.us).map fun u => .list (u.map S) := by rw [List.map_map]; rfl
  refine sws_cons (sw_set 3 (ew_callJ (hr := hr.mono (by decide)) (h_checked_hands T) (g_checked_hands T) (aw_cons (ew_name 0 (aw_cons (ew_name 1 (aw_nil ⟨_, ok_checked_hands T m b hs H.z H.h, fun r er => ?_⟩)))))))
  subst er
  refine sws_cons (sw_expr (ew_callJ (hr := hr.mono (by decide)) (h_checked_path_of T) (g_checked_path_of T) (aw_cons (ew_name 0 (aw_cons (ew_name 2 (aw_nil ⟨_, ok_checked_path_of T m t gt st, fun r _ => ?_⟩)))))))
  refine sws_cons (sw_setL 4 (aw_nil ?_))
  have hlen : (hs.map fun h => PyData.list (h.us.map S)).length = hs.length := List.length_map ..
  refine sws_cons ?_
  refine sw_forE (α := List Nat) (iw_list (ew_callJ (k := 1) (hr := hr.mono (by decide)) (h_parts_of T) (g_parts_of T) (aw_cons (ew_len (b_len T) (ew_name 3 (.inl ⟨_, .inl rfl, aw_nil ?_⟩))))))
  rw [hlen]
  refine ⟨_, ok_parts_of T hs.length H.z, fun r hr' => ?_⟩
  obtain ⟨gs, rfl, pm, ps⟩ := hr'
  have gz : gs.length ≤ 32 := by
    have := pm.length_eq
    have e := (subs_fold (List.range hs.length) [[]] 0 (by simp)).1
    rw [List.length_range, List.length_singleton, Nat.one_mul] at e
    have : (subs hs.length).length = 2 ^ hs.length := e
    have := Nat.pow_le_pow_right (n := 2) (by decide) H.z
    omega
  refine ⟨_, rfl, gs, dI, fun i ε => ∃ (fs : List (List Nat)) (s1 s2 s3 : Sl), ε = [.dat (S m.w), .dat (sqD b (hs.map Hand.d)), .dat (S t.un), .dat (.list (hs.map fun h => PyData.list (h.us.map S))), .lst (fs.map dI), s1, .un, .un] ∧ fs.Nodup ∧ fs.length ≤ i ∧ ∀ h, h ∈ fs ↔ h ∈ gs.take i ∧ Least hs.length (Tg m hs t) h, rfl, ⟨[], .un, .un, .un, rfl, List.nodup_nil, Nat.le_refl _, fun h => by simp⟩, ?_, ?_⟩
  · rintro i g ε' hg ⟨fs, s1, s2, s3, rfl, fn, fz, hf⟩
    have hi : i < gs.length := (List.getElem?_eq_some_iff.mp hg).1
    have hgs : g ∈ subs hs.length := pm.mem_iff.mp (List.mem_of_getElem? hg)
    have gsub := (subs_mem _ _).mp hgs
    have gl : g.length ≤ 5 := by have := gsub.length_le; rw [List.length_range] at this; have := H.z; omega
    have glt : ∀ n ∈ g, n < (hs.map Hand.us).length := fun n hn => by rw [List.length_map]; exact List.mem_range.mp (gsub.subset hn)
    obtain ⟨st1, st2⟩ := search_step pm ps hg hf
    have tk : gs.take (i + 1) = gs.take i ++ [g] := by rw [List.take_add_one, hg]; rfl
    have no : (¬ Least hs.length (Tg m hs t) g) → ∃ (fs' : List (List Nat)) (s1 s2 s3 : Sl), ([.dat (S m.w), .dat (sqD b (hs.map Hand.d)), .dat (S t.un), .dat (.list (hs.map fun h => PyData.list (h.us.map S))), .lst (fs.map dI), .dat (dI g), .un, .un] : Env) = [.dat (S m.w), .dat (sqD b (hs.map Hand.d)), .dat (S t.un), .dat (.list (hs.map fun h => PyData.list (h.us.map S))), .lst (fs'.map dI), s1, .un, .un] ∧ fs'.Nodup ∧ fs'.length ≤ i + 1 ∧ ∀ h, h ∈ fs' ↔ h ∈ gs.take (i + 1) ∧ Least hs.length (Tg m hs t) h := fun hn =>
      ⟨fs, .dat (dI g), .un, .un, rfl, fn, by omega, fun h => by
        rw [hf h, tk, List.mem_append, List.mem_singleton]
        exact ⟨fun ⟨a, b⟩ => ⟨.inl a, b⟩, fun ⟨a, b⟩ => a.elim (fun q => ⟨q, b⟩) fun q => absurd (q ▸ b) hn⟩⟩
    refine tw_name 5 (sws_one (sw_if (bw_not (bw_seen 4 (bw_val (ew_anyc fs (fun f => f.all fun x => decide (x ∈ g)) (b_any T) (ew_lcn [("less", 6)] 6 fs dI (fun f => .bool (f.all fun x => decide (x ∈ g))) (iw_list (ew_name 4 ⟨_, rfl, rfl, by omega, fun f hfm s1 H1 C1 cl1 fp1 => ?_, rfl, _, rfl, fun z => ?_, fun z => sws_nil ?_⟩)))))))))
    · refine ew_allc f (fun x => decide (x ∈ g)) (b_all T) (ew_lcn [("at", 7)] 7 f (fun n => .int (n : Nat)) (fun x => .bool (decide (x ∈ g))) (iw_list (ew_name 6 ⟨_, rfl, rfl, ?_, fun x hx s2 H2 C2 cl2 fp2 => ?_, rfl, rfl⟩)))
      · have := ((subs_mem _ _).mp ((hf f).mp hfm).2.1).length_le
        rw [List.length_range] at this; have := H.z; omega
      · refine ew_cmp rfl (ew_name 7 (ew_name 5 (op_in_li (ws := g.map fun n => ((n : Nat) : Int)) (.inl ?_) ?_)))
        · unfold dI; rw [List.map_map]; rfl
        · refine congrArg PyData.bool (decide_eq_decide.mpr ⟨fun h => ?_, fun h => List.mem_map_of_mem h⟩)
          obtain ⟨y, hy, e⟩ := List.mem_map.mp h
          have : y = x := by omega
          exact this ▸ hy
    · have z : ¬ ∃ f ∈ fs, ∀ x ∈ f, x ∈ g := by
        rintro ⟨f, h1, h2⟩
        have : (fs.any fun f => f.all fun x => decide (x ∈ g)) = true := List.any_eq_true.mpr ⟨f, h1, List.all_eq_true.mpr fun x hx => decide_eq_true (h2 x hx)⟩
        rw [this] at z; cases z
      obtain ⟨ks, eks, hks, kz⟩ := known_tx H g gl
      have hks1 : ∀ k ∈ ks, Good k := fun k hk => (hks k hk).1
      have hT := tw_iff (m := m) (t := t) hks1
      rw [eks] at hT
      refine sws_one (sw_if (bw_val (ew_callJ (k := 130) (hr := hr) (h_tells_path T) (g_tells_path T) (aw_cons (ew_name 0 (aw_cons (ew_callJ (k := 1) (hr := hr.mono (by decide)) (h_known_to T) (g_known_to T) (aw_cons (ew_name 3 (aw_cons (ew_name 5 (aw_nil ?_))))))))))))
      have okk := ok_known_to T (hs.map Hand.us) g (fun u hu => by
        obtain ⟨h, hh, rfl⟩ := List.mem_map.mp hu
        unfold Hand.us; rw [List.length_map]; exact (H.h h hh).z) glt gl
      rw [← eh] at okk
      refine ⟨_, okk, fun r er => aw_cons (ew_name 2 (aw_nil ?_))⟩
      subst er
      rw [← eks]
      refine ⟨_, ok_tells_path T m ks t ⟨gt, st, zt, hks, kz⟩, fun r hr' => ?_⟩
      obtain ⟨bb, rfl, hb⟩ := hr'
      refine ⟨bb, rfl, fun zt => ?_, fun zf => sws_nil (no fun h => ?_)⟩
      · have hl : Least hs.length (Tg m hs t) g := st1.mpr ⟨hT.mpr (hb.mp zt), z⟩
        refine sws_one (sw_append 4 rfl (by rw [List.length_map]; omega) (ew_name 5 ⟨fs ++ [g], .dat (dI g), .un, .un, by rw [List.map_append]; rfl, ?_, by rw [List.length_append, List.length_singleton]; omega, fun h => ?_⟩))
        · rw [List.nodup_append]
          refine ⟨fn, by simp, fun a ha b hb e => ?_⟩
          cases List.mem_singleton.mp hb; subst e; exact st2 ha
        · rw [List.mem_append, List.mem_singleton, hf h, tk, List.mem_append, List.mem_singleton]
          exact ⟨fun q => q.elim (fun ⟨a, b⟩ => ⟨.inl a, b⟩) fun e => ⟨.inr e, e ▸ hl⟩, fun ⟨a, b⟩ => a.elim (fun q => .inl ⟨q, b⟩) .inr⟩
      · have := hb.mpr (hT.mp h.2.1)
        rw [zf] at this; cases this
    · refine no fun h => (st1.mp h).2 ?_
      have z : (fs.any fun f => f.all fun x => decide (x ∈ g)) = true := by
        cases e : (fs.any fun f => f.all fun x => decide (x ∈ g)) with
        | true => rfl
        | false => rw [e] at z; cases z
      obtain ⟨f, h1, h2⟩ := List.any_eq_true.mp z
      exact ⟨f, h1, fun x hx => of_decide_eq_true (List.all_eq_true.mp h2 x hx)⟩
  · rintro ε' ⟨fs, s1, s2, s3, rfl, fn, fz, hf⟩
    rw [List.take_length] at hf
    refine sws_freeze 4 (sws_one (sw_ret (ew_name 4 ⟨fs, rfl, fn, fun g => ?_⟩)))
    rw [hf g]
    exact ⟨fun h => h.2, fun h => ⟨pm.mem_iff.mpr h.1, h⟩⟩
end K78
/-! K78: the law's state. -/
namespace K78
open PySem PySem.Spec L2
section
variable {X : Cx} {F : Fm} {ε : Env} {R : ER} {e : Expr} {pos p p2 tpos : Pos} {Q : PyData → Prop} {hd : Hid} {Hb H : Hp} {σ : L2.St} {n : Str} {A : Addr}
theorem st_at (hF : IsS A F) (S : SI F hd Hb H σ ε) : ∃ (cc : Addr) (ns : List Int) (i v : Int) (b : Bool), Hb A = none ∧ Hb cc = some (.lst (ns.map .int)) ∧ H A = some (.lst [.ref cc, .int i, .int v, .bl b]) ∧ ns.length ≤ 63 := by
  obtain ⟨cc, ns, hJ, _⟩ := hF
  have j := S.j
  rw [hJ] at j
  obtain ⟨a, b, i, v, k, e, l⟩ := j
  exact ⟨cc, ns, i, v, k, a, b, e, l⟩
/-- state[i] -/
theorem ew_st (i : Int) {kk : Nat} (hF : IsS A F) (h : ∀ (Hb : Hp) cc (ns : List Int) m v b, Hb cc = some (.lst (ns.map .int)) → ns.length ≤ 63 → ∃ u d, atI [V.ref cc, .int m, .int v, .bl b] i = some u ∧ Dt Hb u d ∧ Q d)
    (hε : ε[0]? = some (.val (.ref A)) := by rfl) (hN : X.N[0]? = some n := by rfl) (hv : Vis X.env.scope n := by first | exact Or.inl rfl | exact Or.inr (Or.inl rfl) | exact Or.inr (Or.inr rfl))
    (hdg : (n == ("__debug__" : Str)) = false := by decide) (hcd : (n == ("__classdict__" : Str)) = false := by decide) : EW X F (.Subscript (.Name n p) (.Constant (.int i) kk p2) pos) ε Q := fun hd Hb H σ S Q' k => by
  obtain ⟨cc, ns, m, v, b, a1, a2, a3, a4⟩ := st_at hF S
  obtain ⟨u, d, e, r, q⟩ := h Hb cc ns m v b a2 a4
  exact pe_run (pe_ix ix_list (pe_var hN hv hdg hcd) pe_int fun _ _ => rfl) ⟨_, val_at S hε, A, _, i, u, rfl, rfl, SqL.of a3, e, k _ _ _ _ S (Gr.refl S.si) r q⟩
theorem ew_st0 {kk : Nat} (hF : IsS A F) (h : ∀ ns : List Int, ns.length ≤ 63 → Q (.list (ns.map .int)))
    (hε : ε[0]? = some (.val (.ref A)) := by rfl) (hN : X.N[0]? = some n := by rfl) (hv : Vis X.env.scope n := by first | exact Or.inl rfl | exact Or.inr (Or.inl rfl) | exact Or.inr (Or.inr rfl))
    (hdg : (n == ("__debug__" : Str)) = false := by decide) (hcd : (n == ("__classdict__" : Str)) = false := by decide) : EW X F (.Subscript (.Name n p) (.Constant (.int 0) kk p2) pos) ε Q :=
  ew_st 0 hF (fun Hb cc ns m v b a l => ⟨_, .list (ns.map .int), rfl, .lst a (dtAll_of_ints ns), h ns l⟩) hε hN hv hdg hcd
theorem ew_st1 {kk : Nat} (hF : IsS A F) (h : ∀ i : Int, Q (.int i))
    (hε : ε[0]? = some (.val (.ref A)) := by rfl) (hN : X.N[0]? = some n := by rfl) (hv : Vis X.env.scope n := by first | exact Or.inl rfl | exact Or.inr (Or.inl rfl) | exact Or.inr (Or.inr rfl))
    (hdg : (n == ("__debug__" : Str)) = false := by decide) (hcd : (n == ("__classdict__" : Str)) = false := by decide) : EW X F (.Subscript (.Name n p) (.Constant (.int 1) kk p2) pos) ε Q :=
  ew_st 1 hF (fun Hb cc ns m v b a l => ⟨_, .int m, rfl, .int m, h m⟩) hε hN hv hdg hcd
theorem ew_st2 {kk : Nat} (hF : IsS A F) (h : ∀ i : Int, Q (.int i))
    (hε : ε[0]? = some (.val (.ref A)) := by rfl) (hN : X.N[0]? = some n := by rfl) (hv : Vis X.env.scope n := by first | exact Or.inl rfl | exact Or.inr (Or.inl rfl) | exact Or.inr (Or.inr rfl))
    (hdg : (n == ("__debug__" : Str)) = false := by decide) (hcd : (n == ("__classdict__" : Str)) = false := by decide) : EW X F (.Subscript (.Name n p) (.Constant (.int 2) kk p2) pos) ε Q :=
  ew_st 2 hF (fun Hb cc ns m v b a l => ⟨_, .int v, rfl, .int v, h v⟩) hε hN hv hdg hcd
theorem ew_st3 {kk : Nat} (hF : IsS A F) (h : ∀ b : Bool, Q (.bool b))
    (hε : ε[0]? = some (.val (.ref A)) := by rfl) (hN : X.N[0]? = some n := by rfl) (hv : Vis X.env.scope n := by first | exact Or.inl rfl | exact Or.inr (Or.inl rfl) | exact Or.inr (Or.inr rfl))
    (hdg : (n == ("__debug__" : Str)) = false := by decide) (hcd : (n == ("__classdict__" : Str)) = false := by decide) : EW X F (.Subscript (.Name n p) (.Constant (.int 3) kk p2) pos) ε Q :=
  ew_st 3 hF (fun Hb cc ns m v b a l => ⟨_, .bool b, rfl, .bl b, h b⟩) hε hN hv hdg hcd
/-- what may stand at a place of the state -/
def StV : Int → PyData → Prop
  | 1, d => ∃ i, d = .int i
  | 2, d => ∃ i, d = .int i
  | 3, d => ∃ b, d = .bool b
  | _, _ => False
theorem st_new (hF : IsS A F) (S : SI F hd Hb H σ ε) {o : HO} (j : F.J Hb (upd H A o)) : SI F hd Hb (upd H A o) σ ε := by
  have hJ := hF
  obtain ⟨cc, ns, _, hJd⟩ := hJ
  obtain ⟨cc, ns, i, v, b, a1, a2, a3, a4⟩ := st_at hF S
  refine S.growJ ⟨fun _ _ h => h, same_updb S.si a1, fun _ _ => rfl, fun a u na h => ?_, fun a h => some_upd h⟩ j
  rw [hJd] at na
  rw [upd_ne na]; exact h
/-- state[i] = e -/
theorem sw_st (i : Int) {kk : Nat} (hF : IsS A F) (h : EW X F e ε fun d => StV i d ∧ R.nx ε) (hε : ε[0]? = some (.val (.ref A)) := by rfl) (hN : X.N[0]? = some n := by rfl) (hv : Vis X.env.scope n := by first | exact Or.inl rfl | exact Or.inr (Or.inl rfl) | exact Or.inr (Or.inr rfl))
    (hdg : (n == ("__debug__" : Str)) = false := by decide) (hcd : (n == ("__classdict__" : Str)) = false := by decide)
    (ha : ∀ v, assign (.Subscript (.Name n p) (.Constant (.int i) kk p2) tpos) X.env v = (do
      let ov ← holding [v] (eval (.Name n p) X.env)
      let iv ← holding [v, ov] (eval (.Constant (.int i) kk p2) X.env)
      standAt tpos
      holding [v, ov, iv] (setItem ov iv v)
      release [v, ov, iv] []) := by intro _; rfl)
    (hs : swapsWithSole [.Subscript (.Name n p) (.Constant (.int i) kk p2) tpos] e pos.line X.env = pure false := by rfl) (hw : swappedStores [.Subscript (.Name n p) (.Constant (.int i) kk p2) tpos] e X.env = pure none := by rfl)
    (h1 : (assignEach [.Subscript (.Name n p) (.Constant (.int i) kk p2) tpos] X.env).map (·.2) = [assign (.Subscript (.Name n p) (.Constant (.int i) kk p2) tpos) X.env] := by rfl) :
    SW X F (.Assign [.Subscript (.Name n p) (.Constant (.int i) kk p2) tpos] e pos) ε R := fun hd Hb H σ S D kk => by
  refine ps_run (ps_asg pe_sem (pg_sub (pe_var hN hv hdg hcd) pe_int set_list ha) hs hw h1) (h hd Hb H σ S _ fun v d Hb' H' S2 g r ⟨q1, q2⟩ => ?_)
  have hJ := hF
  obtain ⟨cc, ns, hJ, _⟩ := hJ
  have j := S2.j
  rw [hJ] at j
  obtain ⟨a, b, m, y, k, ea, l⟩ := j
  have fin : ∀ (m' y' : Int) (k' : Bool), SI F hd Hb' (upd H' A (.lst [.ref cc, .int m', .int y', .bl k'])) σ ε := fun m' y' k' =>
    st_new hF S2 (by rw [hJ]; exact ⟨a, b, m', y', k', upd_same, l⟩)
  unfold StV at q1
  split at q1
  · obtain ⟨z, rfl⟩ := q1
    cases dt_int r
    exact ⟨_, val_at S2 hε, A, _, 1, 1, rfl, rfl, ea, rfl, kk.nx _ _ _ _ g.b (fin z y k) q2⟩
  · obtain ⟨z, rfl⟩ := q1
    cases dt_int r
    exact ⟨_, val_at S2 hε, A, _, 2, 2, rfl, rfl, ea, rfl, kk.nx _ _ _ _ g.b (fin m z k) q2⟩
  · obtain ⟨z, rfl⟩ := q1
    cases dt_bl r
    exact ⟨_, val_at S2 hε, A, _, 3, 3, rfl, rfl, ea, rfl, kk.nx _ _ _ _ g.b (fin m y z) q2⟩
  · exact q1.elim
end
variable {B : Bs}
end K78
/-! K78: walks: the law's draws. -/
namespace K78
open PySem PySem.Spec L2
variable {B : Bs}
theorem sw_mid {X : Cx} {F : Fm} {ε : Env} {R : ER} {st : Stmt} (M : Env → Prop) (h : SW X F st ε ⟨M, fun _ _ => False, fun _ => False, fun _ => False⟩) (q : ∀ ε', M ε' → R.nx ε') : SW X F st ε R :=
  h.imp q (fun _ _ z => z.elim) (fun _ z => z.elim) (fun _ z => z.elim)
theorem pos_mod (i : Int) {n : Nat} (h : 0 < n) : ∃ k : Nat, i % ((n : Nat) : Int) = ((k : Nat) : Int) ∧ k < n := by
  have h1 : 0 ≤ i % (n : Int) := Int.emod_nonneg i (by omega)
  have h2 : i % (n : Int) < (n : Int) := Int.emod_lt_of_pos i (by omega)
  exact ⟨(i % (n : Int)).toNat, by omega, by omega⟩
def primes5 : List Int := [2147483647, 2147483629, 2147483587, 2147483579, 2147483563]
theorem ok_law_fill (T : Told B) : Ok B 1 d_law_fill p_law_fill (spSV [] fun _ => True) := by
  refine ok_sv (h_law_fill T) s_law_fill rfl fun c hr F A hro hF => ?_
  have nd := s_law_fill.nd
  refine sws_cons (sw_par 1 2 (pw_dd (ew_st0 hF fun ns nz => ew_st1 hF fun nth => ?_)))
  refine sws_cons (sw_set 3 (ew_bin (ew_bin (ew_int (ew_name 2 (op_mul_i (.inl (by omega)) (ew_int (op_add_i ?_))))))))
  refine sws_cons (sw_mid (fun ε' => ∃ z : Int, ε' = [.val (.ref A), .dat (.list (ns.map .int)), .dat (.int nth), .dat (.int z), .un, .un, .un]) (sw_if (bw_cmp rfl (ew_len (b_len T) (ew_name 1 (.inl ⟨_, .inl rfl, ew_int (op_gt_i ⟨_, rfl, fun hpos => ?_, fun _ => sws_nil ⟨_, rfl⟩⟩)⟩))))) ?_)
  · rw [List.length_map] at hpos
    have hpos := of_decide_eq_true hpos
    obtain ⟨k, hk, hlt⟩ := pos_mod nth (n := ns.length) (by omega)
    have hix : atI (ns.map PyData.int) (nth % ((ns.length : Nat) : Int)) = some (.int ns[k]) := by
      rw [hk, atI_nat, List.getElem?_map, List.getElem?_eq_getElem hlt]; rfl
    refine sws_one (sw_set 3 (ew_bin (ew_bin (ew_int (ew_bin (ew_name 2 (ew_len (b_len T) (ew_name 1 (.inl ⟨_, .inl rfl, ?_⟩)))))))))
    rw [List.length_map]
    refine op_div_i ⟨by omega, by omega⟩ (op_mul_i (.inl (by omega)) (ew_ix (ew_name 1 (ew_bin (ew_callTy (T := "int") (b_int T) (aw_cons (ew_name 2 (aw_nil (c_int_i (ew_len (b_len T) (ew_name 1 (.inl ⟨_, .inl rfl, ?_⟩))))))))))))
    rw [List.length_map]
    exact op_mod_i (by omega) (ix_l hix (op_add_i ⟨_, rfl⟩))
  rintro ε' ⟨seed, rfl⟩
  refine sws_cons (sw_st 1 hF (ew_bin (ew_name 2 (ew_int (op_add_i ⟨⟨_, rfl⟩, ?_⟩)))))
  refine sws_cons (sw_st 3 hF (EW.imp (Q := fun d => ∃ b, d = .bool b) ?_ fun d hd => ⟨hd, ?_⟩))
  · refine ew_or (ew_cmp rfl (ew_name 2 (ew_len (b_len T) (ew_name 1 (.inl ⟨_, .inl rfl, op_ge_i ⟨_, rfl, fun _ => ⟨_, rfl⟩, fun _ => ?_⟩⟩)))))
    exact ew_one (ew_cmp rfl (ew_name 3 (ew_bin (ew_int (ew_int (op_pow_i (i := 10) (j := 18) ⟨by omega, by omega, by decide⟩ (op_lt_i ⟨_, rfl⟩)))))))
  refine sws_cons (sw_st 2 hF (ew_bin (ew_name 3 (ew_bin (ew_int (ew_int (op_pow_i (i := 10) (j := 18) ⟨by omega, by omega, by decide⟩ (op_sub_i ⟨⟨_, rfl⟩, ?_⟩))))))))
  refine sws_one (sw_if (bw_val (ew_st3 hF fun b => ⟨b, rfl, fun _ => ?_, fun _ => sws_nil trivial⟩)))
  refine sws_cons (sw_st 2 hF (ew_int ⟨⟨_, rfl⟩, ?_⟩))
  refine sws_one (sw_forM primes5.zipIdx (fun p => .tuple [.int (p.2 : Nat), .int p.1]) (fun i ε => ∃ s1 s2 s3 : Sl, ε = [.val (.ref A), .dat (.list (ns.map .int)), .dat (.int nth), .dat (.int seed), s1, s2, s3]) ?_ ⟨_, _, _, rfl⟩ ?_ fun ε' _ => trivial)
  · refine iw_enumT (b_enumerate T) (ew_tup (aw_cons (ew_int (aw_cons (ew_int (aw_cons (ew_int (aw_cons (ew_int (aw_cons (ew_int (aw_nil ?_))))))))))))
    exact ⟨_, rfl, enum_map primes5 PyData.int⟩
  rintro i p ε' hp ⟨s1, s2, s3, rfl⟩
  have hp1 := zipIdx_at (List.mem_of_getElem? hp)
  have hpm : p.1 ∈ primes5 := List.mem_of_getElem? hp1
  have hb : 0 < p.1 ∧ p.1 < 2147483648 := by
    have : ∀ q ∈ primes5, 0 < q ∧ q < 2147483648 := by decide
    exact this _ hpm
  have hk : p.2 < 5 := (List.getElem?_eq_some_iff.mp hp1).1
  refine tw_tup (tws_cons (tw_name 4 (tws_cons (tw_name 5 (tws_nil ?_)))))
  refine sws_cons (sw_set 6 (ew_bin (ew_callTy (T := "int") (b_int T) (aw_cons (ew_bin (ew_bin (ew_bin (ew_name 3 (ew_bin (ew_bin (ew_int (ew_name 4 (op_mul_i (.inl (by omega)) (ew_name 4 (op_mul_i (j := ((p.2 : Nat) : Int)) (.inr (by omega)) (op_add_i (ew_bin (ew_int (ew_name 4 (op_mul_i (.inl (by omega)) (op_add_i ?_)))))))))))))))))))))
  refine ew_bin (ew_int (ew_bin (ew_int (ew_name 4 (op_mul_i (.inl (by omega)) (op_add_i (op_mul_i (j := 48271 + 2 * ((p.2 : Nat) : Int)) (.inr (by omega)) (aw_nil (c_int_i (ew_name 5 (op_mod_i hb.1 ?_)))))))))))
  generalize hfar : (_ : Int) % p.1 = far
  have hf : 0 ≤ far ∧ far < 2147483648 := hfar ▸ (⟨Int.emod_nonneg _ (by omega), Int.lt_trans (Int.emod_lt_of_pos _ hb.1) hb.2⟩ : 0 ≤ (_ : Int) % p.1 ∧ (_ : Int) % p.1 < 2147483648)
  refine sws_one (sw_st 2 hF (ew_bin (ew_bin (ew_st2 hF fun z => ew_name 5 (op_mul_i (j := p.1) (.inr (by omega)) (ew_bin (ew_callTy (T := "int") (b_int T) (aw_cons (ew_bin (ew_name 6 (ew_int (op_pow_i (i := far) (j := 5) ⟨by omega, by omega, by omega⟩ (aw_nil (c_int_i (ew_name 5 (op_mod_i hb.1 (op_add_i ⟨⟨_, rfl⟩, _, _, _, rfl⟩)))))))))))))))))
theorem ok_law_take (T : Told B) (n : Nat) (h : 0 < n) (hz : n < 1000000) : Ok B 2 d_law_take p_law_take (spSV [.int (n : Nat)] fun r => ∃ k : Nat, r = .int (k : Nat) ∧ k < n) := by
  refine ok_sv (h_law_take T) s_law_take rfl fun c hr F A hro hF => ?_
  have nd := s_law_take.nd
  refine sws_cons (sw_set 2 (ew_int ?_))
  refine sws_cons (sw_while (I := fun m ε => ∃ laps : Nat, laps + m = 64 ∧ ε = [.val (.ref A), .dat (.int (n : Nat)), .dat (.int (laps : Nat)), .un]) (m := 64) ⟨0, rfl, rfl⟩ ?_)
  rintro m ε' ⟨laps, hl, rfl⟩
  refine BW.imp (QB := fun b => b = true → laps < 64) (bw_w (bww_and (bw_cmp rfl (ew_name 2 (ew_int (op_lt_i ⟨_, rfl, fun z => ?_, fun _ y => (by cases y)⟩)))))) fun b hb => ⟨fun bt => ?_, fun _ => ?_⟩
  · have z : laps < 64 := by have := of_decide_eq_true z; omega
    refine bww_and1 (BW.imp (QB := fun _ => True) (bw_w (bww_or (bw_cmp rfl (ew_st2 hF fun v => ew_int (op_eq_i ⟨_, rfl, fun _ => trivial, fun _ => ?_⟩))))) fun _ _ _ => z)
    exact bww_or1 (bw_w (bww_and (bw_val (ew_st3 hF fun b => ⟨b, rfl, fun _ => bww_and1 (bw_cmp rfl (ew_st2 hF fun v2 => ew_bin (ew_name 1 (ew_int (op_mul_i (i := ((n : Nat) : Int)) (j := 4096) (.inr (by omega)) (op_lt_i ⟨_, rfl, trivial⟩)))))), fun _ => trivial⟩))))
  · have hl2 := hb bt
    refine sws_cons (sw_expr (ew_callSJ 0 (k := 1) (h_law_fill T) (g_law_fill T) hF (aw_nil ⟨_, ok_law_fill T, fun _ _ => ?_⟩)))
    refine sws_cons (sw_aug 2 rfl (ew_int (iop_add_i ?_)))
    rw [show ((laps : Nat) : Int) + 1 = ((laps + 1 : Nat) : Int) by omega]
    refine sws_one (sw_mid (fun ε' => ε' = [.val (.ref A), .dat (.int (n : Nat)), .dat (.int ((laps + 1 : Nat) : Nat)), .un]) (sw_if (BW.imp (QB := fun _ => True) (bw_w (bww_and (bw_val (ew_st3 hF fun b => ⟨b, rfl, fun _ => bww_and1 (bw_cmp rfl (ew_st2 hF fun v2 => ew_bin (ew_name 1 (ew_int (op_mul_i (i := ((n : Nat) : Int)) (j := 4096) (.inr (by omega)) (op_lt_i ⟨_, rfl, trivial⟩)))))), fun _ => trivial⟩)))) fun b _ => ⟨fun _ => ?_, fun _ => sws_nil rfl⟩)) ?_)
    · refine sws_one (sw_st 2 hF (ew_bin (ew_st2 hF fun v => ew_bin (ew_bin (ew_name 1 (ew_int (op_mul_i (i := ((n : Nat) : Int)) (j := 4096) (.inr (by omega)) (ew_bin (ew_int (ew_bin (ew_callTy (T := "int") (b_int T) (aw_cons (ew_st2 hF fun v2 => aw_nil (c_int_i (ew_int (op_mod_i (j := 4093) (by omega) (op_add_i (op_mul_i (i := ((n : Nat) : Int) * 4096) (.inl (by omega)) (op_add_i ⟨⟨_, rfl⟩, rfl⟩)))))))))))))))))))
    · rintro ε' rfl
      exact ⟨m - 1, by omega, laps + 1, by omega, rfl⟩
  · refine sws_cons (sw_set 3 (ew_bin (ew_callTy (T := "int") (b_int T) (aw_cons (ew_st2 hF fun v2 => aw_nil (c_int_i (ew_name 1 (op_mod_i (j := ((n : Nat) : Int)) (by omega) ?_))))))))
    obtain ⟨k, hk, hlt⟩ := pos_mod v2 h
    rw [hk]
    refine sws_cons (sw_st 2 hF (ew_bin (ew_st2 hF fun v => ew_name 1 (op_div_i (j := ((n : Nat) : Int)) ⟨by omega, by omega⟩ ⟨⟨_, rfl⟩, ?_⟩))))
    exact sws_one (sw_ret (ew_name 3 ⟨k, rfl, hlt⟩))
/-- a draw -/
theorem ew_take {X : Cx} {F : Fm} {ε : Env} {A : Addr} {n : Str} {e : Expr} {p p2 pos : Pos} {Q : PyData → Prop} (T : Told (bsOf X)) (hF : IsS A F) (h : EW X F e ε fun d => ∃ m : Nat, d = .int (m : Nat) ∧ 0 < m ∧ m < 1000000 ∧ ∀ k : Nat, k < m → Q (.int (k : Nat)))
    (hr : Room 2 X.A) (hε : ε[0]? = some (.val (.ref A)) := by rfl) (hN : X.N[0]? = some n := by rfl) (hv : Vis X.env.scope n := by first | exact Or.inl rfl | exact Or.inr (Or.inl rfl) | exact Or.inr (Or.inr rfl)) (hdg : (n == ("__debug__" : Str)) = false := by decide)
    (hcd : (n == ("__classdict__" : Str)) = false := by decide) (hg : Gl X "_law_take" := by rfl)
    (he : starEach (.Name n p2 :: [e]) X.env = (false, eval (.Name n p2) X.env) :: starEach [e] X.env := by rfl) (hs : starEach [e] X.env = (false, eval e X.env) :: starEach [] X.env := by rfl) (hpl : (backTo pos (starEach [e] X.env)).any (·.1) = false := by rfl) : EW X F (.Call (.Name "_law_take" p) (.Name n p2 :: [e]) [] pos) ε Q :=
  ew_callSJ 0 (k := 2) (h_law_take T) (g_law_take T) hF (aw_cons (h.imp fun d ⟨m, ed, h1, h2, q⟩ => by
    subst ed
    exact aw_nil ⟨_, ok_law_take T m h1 h2, fun r ⟨k, er, hk⟩ => by subst er; exact q k hk⟩) hs) hε hr hN hv hdg hcd hg (by decide) he hpl
theorem ok_law_one (T : Told B) (ds : List PyData) (h : ds ≠ []) (hz : ds.length < 1000000) : Ok B 3 d_law_one p_law_one (spSV [.list ds] fun r => r ∈ ds) := by
  refine ok_sv (h_law_one T) s_law_one rfl fun c hr F A hro hF => ?_
  have nd := s_law_one.nd
  have hp : 0 < ds.length := List.length_pos_iff.mpr h
  refine sws_one (sw_ret (ew_ix (ew_name 1 (ew_take T hF (ew_len (b_len T) (ew_name 1 (.inl ⟨_, .inl rfl, ds.length, rfl, hp, hz, fun k hk => ix_l (d := ds[k]) ?_ (List.getElem_mem hk)⟩))) (hr.mono (by decide))))))
  rw [atI_nat, List.getElem?_eq_getElem hk]
theorem ew_one1 {X : Cx} {F : Fm} {ε : Env} {A : Addr} {n : Str} {e : Expr} {p p2 pos : Pos} {Q : PyData → Prop} (T : Told (bsOf X)) (hF : IsS A F) (h : EW X F e ε fun d => ∃ ds, d = .list ds ∧ ds ≠ [] ∧ ds.length < 1000000 ∧ ∀ r ∈ ds, Q r)
    (hr : Room 3 X.A) (hε : ε[0]? = some (.val (.ref A)) := by rfl) (hN : X.N[0]? = some n := by rfl) (hv : Vis X.env.scope n := by first | exact Or.inl rfl | exact Or.inr (Or.inl rfl) | exact Or.inr (Or.inr rfl)) (hdg : (n == ("__debug__" : Str)) = false := by decide)
    (hcd : (n == ("__classdict__" : Str)) = false := by decide) (hg : Gl X "_law_one" := by rfl)
    (he : starEach (.Name n p2 :: [e]) X.env = (false, eval (.Name n p2) X.env) :: starEach [e] X.env := by rfl) (hs : starEach [e] X.env = (false, eval e X.env) :: starEach [] X.env := by rfl) (hpl : (backTo pos (starEach [e] X.env)).any (·.1) = false := by rfl) : EW X F (.Call (.Name "_law_one" p) (.Name n p2 :: [e]) [] pos) ε Q :=
  ew_callSJ 0 (k := 3) (h_law_one T) (g_law_one T) hF (aw_cons (h.imp fun d ⟨ds, ed, h1, h2, q⟩ => by
    subst ed
    exact aw_nil ⟨_, ok_law_one T ds h1 h2, fun r hr => q r hr⟩) hs) hε hr hN hv hdg hcd hg (by decide) he hpl
theorem ok_law_handed (T : Told B) (ds : List PyData) : Ok B 3 d_law_handed p_law_handed (spSV [.list ds] fun r => ∃ b, r = sqD b ds) := by
  refine ok_sv (h_law_handed T) s_law_handed rfl fun c hr F A hro hF => ?_
  have nd := s_law_handed.nd
  refine sws_one (sw_ret (ew_if (bw_cmp rfl (ew_take T hF (ew_int ⟨2, rfl, by decide, by decide, fun k hk => ew_int (op_eq_i ⟨_, rfl, fun _ => ?_, fun _ => ?_⟩)⟩) (hr.mono (by decide))))))
  · exact ew_callTy (T := "list") (b_list T) (aw_cons (ew_name 1 (aw_nil (c_list (.inl rfl) ⟨false, rfl⟩))))
  · exact ew_callTy (T := "tuple") (b_tuple T) (aw_cons (ew_name 1 (aw_nil (c_tuple ⟨true, rfl⟩))))
theorem ok_law_fresh (T : Told B) (ns : List Int) (hz : ns.length ≤ 63) : Ok B 1 d_law_fresh p_law_fresh (spV [.list (ns.map .int)] fun r => r = .list [.list (ns.map .int), .int 0, .int 0, .bool false]) := by
  refine ok_v (h_law_fresh T) s_law_fresh rfl fun c hr F hro => ?_
  have nd := s_law_fresh.nd
  refine sws_one (sw_ret (ew_lst (aw_cons (ew_slice (ew_name 0 (ow_none (ow_some (ew_int ⟨_, rfl, sl_l (aw_cons (ew_int (aw_cons (ew_int (aw_cons (ew_bl (aw_nil ?_)))))))⟩))))))))
  rw [show ((63 : Int)) = ((63 : Nat) : Int) from rfl, cut_to, List.take_of_length_le (by rw [List.length_map]; exact hz)]
end K78
/-! K78: comprehensions whose tests, elements are drawn; walks: same, fewer, word, marked, path. -/
namespace K78
open PySem PySem.Spec L2
section
variable {X : Cx} {F : Fm} {ε : Env} {tg iter elt : Expr} {ifs : List Expr} {Q : PyData → Prop} {scope : Scope} {vs : List Nat}
/-- what a test lets through -/
theorem lcw_sub {α : Type} (xs : List α) (enc : α → PyData) (h : IW X F tg iter ε fun ds => ds = xs.map enc ∧ xs.length < 16000000 ∧
      (∀ x ∈ xs, InBlk X scope fun Y => TWo Y F vs tg (enc x) (wipeE ε vs) fun ε2 => InBlk X scope fun Y => BWs Y F ifs ε2 fun b => b = true → InBlk X scope fun Y => EW Y F elt ε2 fun d' => d' = enc x) ∧ ∀ ys : List α, ys.Sublist xs → Q (.list (ys.map enc))) : LcW X F scope vs tg iter elt ifs ε Q := by
  intro hd Hb H σ S R' k
  refine h hd Hb H σ S R' fun J ds Hb' H' S' g it ⟨e1, hz, turn, q⟩ => k J ds Hb' H' S' g it ⟨fun i acc => ∃ ys : List α, ys.Sublist (xs.take i) ∧ acc = ys.map enc, ⟨[], List.nil_sublist _, rfl⟩, fun i d acc ed ea => ?_, fun acc ea => ?_⟩
  · subst e1
    obtain ⟨ys, sub, rfl⟩ := ea
    rw [List.getElem?_map] at ed
    cases ex : xs[i]? with
    | none => rw [ex] at ed; cases ed
    | some x =>
      rw [ex] at ed; cases ed
      have tk : xs.take (i + 1) = xs.take i ++ [x] := by rw [List.take_add_one, ex]; rfl
      refine ⟨?_, fun s1 H1 C1 cl1 fp1 => ?_⟩
      · rw [List.length_map]
        exact Nat.lt_of_le_of_lt (Nat.le_trans sub.length_le (by rw [List.length_take]; exact Nat.min_le_right ..)) hz
      · intro hd2 Hb2 H2 σ2 v S2 r2 Q2 k2
        refine turn x (List.mem_of_getElem? ex) s1 H1 C1 cl1 fp1 hd2 Hb2 H2 σ2 v S2 r2 Q2 fun Hb3 H3 σ3 ε3 S3 g3 l1 f1 m1 n1 z => k2 Hb3 H3 σ3 ε3 S3 g3 l1 f1 m1 n1 fun s4 H4 C4 cl4 fp4 => ?_
        intro hd5 Hb5 H5 σ5 S5 Q5 k5
        refine z s4 H4 C4 cl4 fp4 hd5 Hb5 H5 σ5 S5 Q5 fun b Hb6 H6 S6 g6 zz => k5 b Hb6 H6 S6 g6 ⟨fun bt => ?_, fun bf => ?_⟩
        · intro s7 H7 C7 cl7 fp7
          refine (zz bt s7 H7 C7 cl7 fp7).imp fun d' ed' => ?_
          subst ed'
          exact ⟨ys ++ [x], by rw [tk]; exact List.Sublist.append sub (List.Sublist.refl _), by rw [List.map_append]; rfl⟩
        · exact ⟨ys, by rw [tk]; exact sub.trans (List.sublist_append_left _ _), rfl⟩
  · subst e1
    obtain ⟨ys, sub, rfl⟩ := ea
    rw [List.length_map, List.take_length] at sub
    exact q ys sub
/-- elements that are known by a relation alone -/
theorem lcw_rel {α β : Type} (h : IW X F tg iter ε fun ds => ∃ (xs : List α) (enc : α → PyData) (out : β → PyData) (Rl : α → β → Prop), ds = xs.map enc ∧ xs.length < 16000000 ∧
      (∀ x ∈ xs, InBlk X scope fun Y => TWo Y F vs tg (enc x) (wipeE ε vs) fun ε2 => InBlk X scope fun Y => BWs Y F ifs ε2 fun b => b = true ∧ InBlk X scope fun Y => EW Y F elt ε2 fun d' => ∃ y, d' = out y ∧ Rl x y) ∧
      ∀ ys : List β, ys.length = xs.length → (∀ (i : Nat) (x : α) (y : β), xs[i]? = some x → ys[i]? = some y → Rl x y) → Q (.list (ys.map out))) : LcW X F scope vs tg iter elt ifs ε Q := by
  intro hd Hb H σ S R' k
  refine h hd Hb H σ S R' fun J ds Hb' H' S' g it ⟨xs, enc, out, Rl, e1, hz, turn, q⟩ => k J ds Hb' H' S' g it ⟨fun i acc => ∃ ys : List β, ys.length = i ∧ i ≤ xs.length ∧ (∀ (i : Nat) (x : α) (y : β), xs[i]? = some x → ys[i]? = some y → Rl x y) ∧ acc = ys.map out, ⟨[], rfl, Nat.zero_le _, fun i x y _ h => (by simp at h), rfl⟩, fun i d acc ed ea => ?_, fun acc ea => ?_⟩
  · subst e1
    obtain ⟨ys, el, li, hR, rfl⟩ := ea
    rw [List.getElem?_map] at ed
    cases ex : xs[i]? with
    | none => rw [ex] at ed; cases ed
    | some x =>
      rw [ex] at ed; cases ed
      have hi : i < xs.length := (List.getElem?_eq_some_iff.mp ex).1
      refine ⟨by rw [List.length_map]; omega, fun s1 H1 C1 cl1 fp1 => ?_⟩
      intro hd2 Hb2 H2 σ2 v S2 r2 Q2 k2
      refine turn x (List.mem_of_getElem? ex) s1 H1 C1 cl1 fp1 hd2 Hb2 H2 σ2 v S2 r2 Q2 fun Hb3 H3 σ3 ε3 S3 g3 l1 f1 m1 n1 z => k2 Hb3 H3 σ3 ε3 S3 g3 l1 f1 m1 n1 fun s4 H4 C4 cl4 fp4 => ?_
      intro hd5 Hb5 H5 σ5 S5 Q5 k5
      refine z s4 H4 C4 cl4 fp4 hd5 Hb5 H5 σ5 S5 Q5 fun b Hb6 H6 S6 g6 zz => k5 b Hb6 H6 S6 g6 ⟨fun bt => ?_, fun bf => absurd (zz.1.symm.trans bf) (by decide)⟩
      intro s7 H7 C7 cl7 fp7
      refine (zz.2 s7 H7 C7 cl7 fp7).imp fun d' ⟨y, ed', r⟩ => ?_
      subst ed'
      refine ⟨ys ++ [y], by rw [List.length_append, List.length_singleton]; omega, hi, fun j x' y' e1 e2 => ?_, by rw [List.map_append]; rfl⟩
      rcases Nat.lt_or_ge j ys.length with c | c
      · rw [List.getElem?_append_left c] at e2; exact hR j x' y' e1 e2
      · have hj : j < (ys ++ [y]).length := (List.getElem?_eq_some_iff.mp e2).1
        rw [List.length_append, List.length_singleton] at hj
        have : j = i := by omega
        subst this
        rw [ex] at e1; cases e1
        rw [List.getElem?_append_right c, el, Nat.sub_self] at e2
        cases e2; exact r
  · subst e1
    obtain ⟨ys, el, li, hR, rfl⟩ := ea
    rw [List.length_map] at el
    exact q ys el hR
end
variable {B : Bs}
/-! ### some of the digits -/
theorem sum_map_sing (l : Wd) : ((l.map fun c => [c]).map List.length).sum = l.length := sum_sing l
theorem ok_law_fewer (T : Told B) (m : Wd) (hz : m.length ≤ 1000) : Ok B 3 d_law_fewer p_law_fewer (spSV [S m] fun r => ∃ m' : Wd, r = S m' ∧ m'.Sublist m) := by
  refine ok_sv (h_law_fewer T) s_law_fewer rfl fun c hr F A hro hF => ?_
  have nd := s_law_fewer.nd
  refine sws_one (sw_ret (ew_join (ew_lc [("_law_d", 2)] (lcw_sub m (fun c => S [c]) (iw_str (ew_name 1 ⟨tx m, rfl, rfl, by omega, fun x hx s1 H1 C1 cl1 fp1 => ?_, fun ys sub => ⟨ys.map fun c => [c], ?_, ?_, ?_⟩⟩))))))
  · refine two_name 2 fun s2 H2 C2 cl2 fp2 => bws_one (bw_cmp rfl (ew_take T hF (ew_int ⟨3, rfl, by decide, by decide, fun k hk => ew_int (op_gt_i ⟨_, rfl, fun _ s3 H3 C3 cl3 fp3 => ew_name 2 rfl⟩)⟩) (hr.mono (by decide))))
  · rw [List.map_map]; rfl
  · rw [sum_sing]; have := sub.length_le; omega
  · rw [flat_sing]; exact ⟨ys, rfl, sub⟩
/-! ### drawn words -/
/-- a letter of a manner -/
def LM (m : Mn) (c : Nat) : Prop := (c = 97 ∨ c = 98) ∨ (m ≠ .any ∧ (c = 65 ∨ c = 66))
theorem LM.l4 {m : Mn} {c : Nat} (h : LM m c) : L4 c := by
  unfold L4
  rcases h with (h | h) | ⟨_, h | h⟩ <;> omega
def Lts (l : Wd) : Prop := l ≠ [] ∧ l.length ≤ 2 ∧ ∀ c ∈ l, c = 97 ∨ c = 98
theorem upcase {c : Nat} (h : c = 97 ∨ c = 98) : ∃ c', Txt.upper (tx [c]) = tx [c'] ∧ (c' = 65 ∨ c' = 66) := by
  rcases h with rfl | rfl
  · exact ⟨65, by decide +kernel, .inl rfl⟩
  · exact ⟨66, by decide +kernel, .inr rfl⟩
theorem ok_law_word (T : Told B) (m : Mn) (l : Wd) (hl : Lts l) (many : Nat) (h1 : 0 < many) (h2 : many ≤ 100) : Ok B 4 d_law_word p_law_word (spSV [S m.w, S l, .int (many : Nat)] fun r => ∃ w : Wd, r = S w ∧ w ≠ [] ∧ w.length ≤ many ∧ ∀ c ∈ w, LM m c) := by
  refine ok_sv (h_law_word T) s_law_word rfl fun c hr F A hro hF => ?_
  have nd := s_law_word.nd
  refine sws_cons (sw_set 4 (ew_tx [] ?_))
  refine sws_cons (sw_forE (α := Nat) (iw_range1 (b_range T) (ew_bin (ew_int (ew_take T hF (ew_name 3 ⟨many, rfl, h1, by omega, fun k hk => op_add_i ⟨(1 : Int) + ((k : Nat) : Int), rfl, by omega, by omega, ?_⟩⟩) (hr.mono (by decide)))))))
  rw [show ((1 : Int) + ((k : Nat) : Int)).toNat = 1 + k by omega]
  refine ⟨List.range (1 + k), fun i => .int (i : Nat), fun i ε => ∃ (w : Wd) (s5 s6 : Sl), ε = [.val (.ref A), .dat (S m.w), .dat (S l), .dat (.int (many : Nat)), .dat (S w), s5, s6] ∧ w.length = i ∧ ∀ c ∈ w, LM m c, rfl, ⟨[], .un, .un, rfl, rfl, fun c hc => (by cases hc)⟩, ?_, ?_⟩
  · rintro i x ε' hx ⟨w, s5, s6, rfl, wl, hw⟩
    have hi : i < 1 + k := by have := (List.getElem?_eq_some_iff.mp hx).1; rw [List.length_range] at this; exact this
    obtain ⟨l1, l2, l3⟩ := hl
    refine tw_name 5 (sws_cons (sw_set 6 (ew_one1 T hF (ew_callTy (T := "list") (b_list T) (aw_cons (ew_name 2 (aw_nil (c_list_s (by omega) ⟨sgn l, rfl, ?_, ?_, fun r hr' => ?_⟩))))) (hr.mono (by decide)))))
    · unfold sgn; intro z; exact l1 (List.map_eq_nil_iff.mp z)
    · unfold sgn; rw [List.length_map]; omega
    obtain ⟨ch, hch, rfl⟩ := List.mem_map.mp hr'
    have hc := l3 ch hch
    show SWs _ _ _ _ _
    refine sws_one (sw_aug 4 rfl (EW.imp (Q := fun d => ∃ c', d = S [c'] ∧ LM m c') (ew_if (bw_w (bww_and (bw_cmp rfl (ew_name 1 (ew_tx Mn.any.w (op_ne_s ⟨_, rfl, fun z1 => ?_, fun z1 => ?_⟩))))))) fun d ⟨c', ed, hc'⟩ => ?_))
    · refine bww_and1 (bw_cmp rfl (ew_take T hF (ew_int ⟨3, rfl, by decide, by decide, fun k hk => ew_int (op_eq_i ⟨_, rfl, fun _ => ?_, fun _ => ?_⟩)⟩) (hr.mono (by decide))))
      · obtain ⟨c', e1, e2⟩ := upcase hc
        refine ew_upper (ew_name 6 ⟨tx [ch], rfl, by rw [tx_len, List.length_singleton]; decide, ?_⟩)
        rw [e1]
        exact ⟨c', rfl, .inr ⟨fun z => by subst z; simp at z1, e2⟩⟩
      · exact ew_name 6 ⟨ch, rfl, .inl hc⟩
    · exact ⟨fun z => (by cases z), fun _ => ew_name 6 ⟨ch, rfl, .inl hc⟩⟩
    · subst ed
      refine iop_add_s (l := w) (m := [c']) (by simp; omega) ⟨w ++ [c'], _, _, rfl, by rw [List.length_append, List.length_singleton]; omega, fun c hc => ?_⟩
      rcases List.mem_append.mp hc with q | q
      · exact hw c q
      · cases List.mem_singleton.mp q; exact hc'
  · rintro ε' ⟨w, s5, s6, rfl, wl, hw⟩
    rw [List.length_range] at wl
    exact sws_one (sw_ret (ew_name 4 ⟨w, rfl, fun z => by subst z; simp at wl; omega, by omega, hw⟩))
end K78
/-! K78: walks: paths drawn with digits. -/
namespace K78
open PySem PySem.Spec L2
variable {B : Bs}
/-- a word as a path without digits -/
def wtx (w : Wd) : Tx := ([], w.map fun c => (c, []))
theorem wtx_un (w : Wd) : (wtx w).un = w := by
  unfold wtx Tx.un
  rw [List.nil_append, List.flatMap_map]
  induction w with
  | nil => rfl
  | cons a w ih => rw [List.flatMap_cons, ih]; rfl
theorem wtx_ms (w : Wd) : ∀ m ∈ (wtx w).ms, m = [] := fun m hm => by
  unfold wtx Tx.ms at hm
  rcases List.mem_cons.mp hm with h | h
  · exact h
  · rw [List.map_map] at h
    obtain ⟨c, _, rfl⟩ := List.mem_map.mp h
    rfl
theorem wtx_good {w : Wd} (h : W4 w) (hne : w ≠ []) (hz : w.length ≤ 100) : Good (wtx w) where
  ne := fun z => hne (List.map_eq_nil_iff.mp z)
  l4 := fun p hp => by obtain ⟨c, hc, rfl⟩ := List.mem_map.mp hp; exact h c hc
  mks := fun m hm => by rw [wtx_ms w m hm]; exact List.nil_sublist _
  pl := .inl (wtx_ms w)
  z := by rw [wtx_un]; exact hz
theorem wtx_suit {m : Mn} {w : Wd} (h : m = .any → ∀ c ∈ w, c = 97 ∨ c = 98) : Suit m (wtx w) := by
  cases m with
  | any => exact fun p hp => by obtain ⟨c, hc, rfl⟩ := List.mem_map.mp hp; exact h rfl c hc
  | matched => exact wtx_ms w
  | turned => exact wtx_ms w
/-- a path so far: some marks, letters -/
structure Part (w : Wd) (i : Nat) (t : Tx) : Prop where
  n : i = t.2.length + 1
  l : t.ls = w.take (i - 1)
  m : ∀ m ∈ t.ms, m.Sublist DIGS
theorem un_snoc (t : Tx) (c : Nat) (m : Wd) : Tx.un (t.1, t.2 ++ [(c, m)]) = t.un ++ ([c] ++ m) := by
  unfold Tx.un
  rw [List.flatMap_append, List.append_assoc]; simp
theorem ok_law_marked (T : Told B) (w D : Wd) (hw : w ≠ []) (hw4 : ∀ c ∈ w, c = 97 ∨ c = 98) (hz : w.length ≤ 20) (hD : D.Sublist DIGS) (most : Nat) (hm : most ≤ 10) : Ok B 4 d_law_marked p_law_marked (spSV [S w, S D, .int (most : Nat)] fun r => ∃ t : Tx, r = S t.un ∧ Good t ∧ Suit .any t ∧ t.un.length ≤ w.length + most) := by
  refine ok_sv (h_law_marked T) s_law_marked rfl fun c hr F A hro hF => ?_
  have nd := s_law_marked.nd
  have Dz : D.length ≤ 10 := hD.length_le
  refine sws_cons (sw_par 4 5 (pw_dd (ew_tx [] (ew_name 3 ?_))))
  refine sws_cons (sw_forM ([] :: w.map fun c => [c]) S (fun i ε => ∃ (found : Wd) (left : Nat) (s6 s7 : Sl), ε = [.val (.ref A), .dat (S w), .dat (S D), .dat (.int (most : Nat)), .dat (S found), .dat (.int (left : Nat)), s6, s7, .un] ∧
    ((i = 0 ∧ found = [] ∧ left = most) ∨ ∃ t : Tx, Part w i t ∧ found = t.un ∧ found.length + left = (i - 1) + most)) ?_ ⟨[], most, .un, .un, rfl, .inl ⟨rfl, rfl, rfl⟩⟩ ?_ ?_)
  · refine iw_list (ew_bin (ew_lst (aw_cons (ew_tx [] (aw_nil (ew_callTy (T := "list") (b_list T) (aw_cons (ew_name 1 (aw_nil (c_list_s (l := w) (by omega) (op_cat_d ?_ ?_)))))))))))
    · unfold sgn; rw [List.length_map]; simp; omega
    · refine ⟨_, rfl, ?_⟩
      unfold sgn; rw [List.map_cons, List.map_map]; rfl
  · rintro i x ε' hx ⟨found, left, s6, s7, rfl, hI⟩
    have hi : i < w.length + 1 := by have := (List.getElem?_eq_some_iff.mp hx).1; rw [List.length_cons, List.length_map] at this; exact this
    have fz : found.length + left ≤ w.length + most := by
      rcases hI with ⟨_, rfl, rfl⟩ | ⟨t, hp, _, e⟩
      · simp
      · omega
    have xz : x.length ≤ 1 := by
      have hx := List.mem_of_getElem? hx
      rcases List.mem_cons.mp hx with rfl | q
      · decide
      · obtain ⟨c, _, rfl⟩ := List.mem_map.mp q; exact Nat.le_refl _
    refine tw_name 6 (sws_cons (sw_set 7 (ew_slice (ew_join (ew_lc [("_law_d", 8)] (lcw_sub D (fun c => S [c]) (iw_str (ew_name 2 ⟨tx D, rfl, rfl, by omega, fun y hy s1 H1 C1 cl1 fp1 => ?_, fun ys sub => ⟨ys.map fun c => [c], ?_, ?_, ?_⟩⟩))))))))
    · refine two_name 8 fun s2 H2 C2 cl2 fp2 => bws_one (bw_cmp rfl (ew_take T hF (ew_int ⟨3, rfl, by decide, by decide, fun k hk => ew_int (op_eq_i ⟨_, rfl, fun _ s3 H3 C3 cl3 fp3 => ew_name 8 rfl⟩)⟩) (hr.mono (by decide))))
    · rw [List.map_map]; rfl
    · rw [sum_sing]; have := sub.length_le; omega
    rw [flat_sing]
    have ysz := sub.length_le
    refine ow_none (ow_some (ew_name 5 ⟨_, rfl, sl_s (by omega) ?_⟩))
    rw [cut_to]
    have sub2 : (ys.take left).Sublist DIGS := ((List.take_sublist _ _).trans sub).trans hD
    have lz : (ys.take left).length ≤ left := by rw [List.length_take]; exact Nat.min_le_left ..
    generalize ys.take left = mk at sub2 lz
    refine sws_one (sw_par 4 5 (pw_dd (ew_bin (ew_bin (ew_name 4 (ew_name 6 (op_add_s (l := found) (m := x) (by omega) (ew_name 7 (op_add_s (l := found ++ x) (m := mk) (by rw [List.length_append]; omega) (ew_bin (ew_name 5 (ew_len (b_len T) (ew_name 7 (.inr ⟨mk, rfl, by omega, op_sub_i ?_⟩))))))))))))))
    rw [show ((left : Nat) : Int) - ((mk.length : Nat) : Int) = ((left - mk.length : Nat) : Int) by omega]
    refine ⟨found ++ x ++ mk, left - mk.length, .dat (S x), .dat (S mk), rfl, .inr ?_⟩
    rcases hI with ⟨rfl, rfl, rfl⟩ | ⟨t, hp, rfl, e⟩
    · cases hx
      refine ⟨(mk, []), ⟨rfl, rfl, fun m hm => ?_⟩, ?_, ?_⟩
      · cases List.mem_singleton.mp hm; exact sub2
      · simp [Tx.un]
      · simp; omega
    · have hn := hp.n
      have hi2 : i - 1 < w.length := by omega
      have ex : x = [w[i - 1]] := by
        have : ([] :: w.map fun c => [c])[i]? = some [w[i - 1]] := by
          obtain ⟨j, rfl⟩ : ∃ j, i = j + 1 := ⟨i - 1, by omega⟩
          rw [List.getElem?_cons_succ, List.getElem?_map]
          simp only [Nat.add_sub_cancel] at hi2 ⊢
          rw [List.getElem?_eq_getElem hi2]; rfl
        rw [this] at hx; cases hx; rfl
      subst ex
      refine ⟨(t.1, t.2 ++ [(w[i - 1], mk)]), ⟨?_, ?_, fun m hm => ?_⟩, ?_, ?_⟩
      · show i + 1 = (t.2 ++ [_]).length + 1
        rw [List.length_append, List.length_singleton, ← hn]
      · have : Tx.ls (t.1, t.2 ++ [(w[i - 1], mk)]) = t.ls ++ [w[i - 1]] := by unfold Tx.ls; rw [List.map_append]; rfl
        rw [this, hp.l, show i + 1 - 1 = (i - 1) + 1 by omega, List.take_add_one, List.getElem?_eq_getElem hi2]; rfl
      · have : Tx.ms (t.1, t.2 ++ [(w[i - 1], mk)]) = t.ms ++ [mk] := by unfold Tx.ms; rw [List.map_append]; rfl
        rw [this] at hm
        rcases List.mem_append.mp hm with q | q
        · exact hp.m m q
        · cases List.mem_singleton.mp q; exact sub2
      · rw [un_snoc, List.append_assoc]
      · rw [List.length_append, List.length_append, List.length_singleton]; omega
  · rintro ε' ⟨found, left, s6, s7, rfl, hI⟩
    rw [List.length_cons, List.length_map] at hI
    have hwl := List.length_pos_iff.mpr hw
    obtain ⟨t, hp, rfl, e⟩ := hI.resolve_left fun z => by omega
    have hl : t.ls = w := by rw [hp.l]; exact List.take_length
    have e : t.un.length + left = w.length + most := by rw [Nat.add_sub_cancel] at e; exact e
    have h98 : ∀ p ∈ t.2, p.1 = 97 ∨ p.1 = 98 := fun p hp' => hw4 _ (by rw [← hl]; exact List.mem_map_of_mem hp')
    refine sws_one (sw_ret (ew_name 4 ⟨t, rfl, ⟨fun z => ?_, fun p hp' => ?_, hp.m, .inr h98, by omega⟩, h98, by omega⟩))
    · have := hp.n; rw [z] at this; simp only [List.length_nil] at this; have q : w.length + 1 = 0 + 1 := this; omega
    · unfold L4; rcases h98 p hp' with h | h <;> omega
theorem ok_law_path (T : Told B) (l : Wd) (hl : Lts l) : Ok B 5 d_law_path p_law_path (spSV [S Mn.any.w, S l, .int 6] fun r => ∃ t : Tx, r = S t.un ∧ Good t ∧ Suit .any t ∧ t.un.length ≤ 10) := by
  refine ok_sv (h_law_path T) s_law_path rfl fun c hr F A hro hF => ?_
  have nd := s_law_path.nd
  refine sws_cons (sw_set 4 (ew_callSJ 0 (k := 4) (hr := hr) (h_law_word T) (g_law_word T) hF (aw_cons (ew_name 1 (aw_cons (ew_name 2 (aw_cons (ew_name 3 (aw_nil ⟨_, ok_law_word T .any l hl 6 (by decide) (by decide), fun r hr' => ?_⟩)))))))))
  obtain ⟨w, rfl, wne, wz, hw⟩ := hr'
  have hw98 : ∀ c ∈ w, c = 97 ∨ c = 98 := fun c hc => (hw c hc).elim id fun z => absurd rfl z.1
  have hw4 : W4 w := fun c hc => (hw c hc).l4
  refine sws_cons (sw_if (BW.imp (QB := fun _ => True) (bw_w (bww_or (bw_cmp rfl (ew_name 1 (ew_tx Mn.any.w (op_ne_s ⟨_, rfl, fun _ => trivial, fun _ => ?_⟩)))))) fun b _ => ⟨fun _ => sws_one (sw_ret (ew_name 4 ⟨wtx w, ?_, wtx_good hw4 wne (by omega), wtx_suit fun _ => hw98, ?_⟩)), fun _ => sws_nil ?_⟩))
  · exact bww_or1 (bw_cmp rfl (ew_take T hF (ew_int ⟨3, rfl, by decide, by decide, fun k hk => ew_int (op_gt_i ⟨_, rfl, trivial⟩)⟩) (hr.mono (by decide))))
  · rw [wtx_un]
  · rw [wtx_un]; omega
  refine sws_one (sw_ret (ew_callSJ 0 (k := 4) (hr := hr) (h_law_marked T) (g_law_marked T) hF (aw_cons (ew_name 4 (aw_cons (ew_one1 T hF (ew_lst (aw_cons (ew_tx [49, 51, 53, 55] (aw_cons (ew_tx [48, 50, 54, 56] (aw_nil ⟨_, rfl, by simp, by decide, fun r hr' => ?_⟩)))))) (hr.mono (by decide))))))))
  have e : ∃ D : Wd, r = S D ∧ D.Sublist DIGS := by
    rcases List.mem_cons.mp hr' with rfl | q
    · exact ⟨_, rfl, by decide⟩
    · cases List.mem_singleton.mp q; exact ⟨_, rfl, by decide⟩
  obtain ⟨D, rfl, hD⟩ := e
  refine aw_cons (ew_int (aw_nil ⟨_, ok_law_marked T w D wne hw98 (by omega) hD 4 (by decide), fun r ⟨t, e1, e2, e3, e4⟩ => ⟨t, e1, e2, e3, by omega⟩⟩))
end K78
/-! K78: walks: made, twisted. -/
namespace K78
open PySem PySem.Spec L2
variable {B : Bs}
def encPl (q : Nat × Bool) : PyData := .tuple [.int (q.1 : Nat), S (wayW q.2)]
theorem flat_len {ls : List Wd} {k : Nat} (h : ∀ l ∈ ls, l.length ≤ k) : (ls.map List.length).sum ≤ k * ls.length ∧ ls.flatten.length ≤ k * ls.length := by
  induction ls with
  | nil => exact ⟨Nat.le_refl _, Nat.le_refl _⟩
  | cons a ls ih =>
    have h1 := h a (List.mem_cons_self ..)
    obtain ⟨i1, i2⟩ := ih fun l hl => h l (List.mem_cons_of_mem _ hl)
    rw [List.map_cons, List.sum_cons, List.flatten_cons, List.length_append, List.length_cons, Nat.mul_succ]
    omega
theorem ok_law_made (T : Told B) (K : List Wd) (pl : List (Nat × Bool)) (hk : ∀ w ∈ K, W4 w ∧ w.length ≤ 3) (hp : ∀ q ∈ pl, q.1 < K.length) (hz : pl.length ≤ 4) : Ok B 3 d_law_made p_law_made (spV [.list (K.map S), .list (pl.map encPl)] fun r => ∃ w : Wd, r = S w ∧ W4 w ∧ w.length ≤ 12) := by
  refine ok_v (h_law_made T) s_law_made rfl fun c hr F hro => ?_
  have nd := s_law_made.nd
  have word : ∀ q ∈ pl, W4 (dirW (K.getD q.1 []) q.2) ∧ (dirW (K.getD q.1 []) q.2).length ≤ 3 := fun q hq => by
    have e : K[q.1]? = some (K.getD q.1 []) := by rw [List.getD_eq_getElem?_getD, List.getElem?_eq_getElem (hp q hq)]; rfl
    obtain ⟨a, b⟩ := hk _ (List.mem_of_getElem? e)
    refine ⟨dirW_w4 a, ?_⟩
    unfold dirW
    split
    · rw [bk_len]; exact b
    · exact b
  refine sws_one (sw_ret (ew_join (ew_lc [("_law_index", 2), ("_law_way", 3)] (lcw_of pl encPl (fun q => S (dirW (K.getD q.1 []) q.2)) (fun _ => true) (iw_list (ew_name 1 ⟨_, rfl, rfl, by omega, fun q hq s1 H1 C1 cl1 fp1 => ?_, ?_⟩))))))
  · refine two_tup (twos_cons (two_name 2 (twos_cons (two_name 3 (twos_nil ?_)))))
    intro s2 H2 C2 cl2 fp2
    refine bws_nil ⟨rfl, fun _ s3 H3 C3 cl3 fp3 => ?_⟩
    have e : atI (K.map S) ((q.1 : Nat) : Int) = some (S (K.getD q.1 [])) := by rw [atI_nat, List.getElem?_map, List.getD_eq_getElem?_getD, List.getElem?_eq_getElem (hp q hq)]; rfl
    obtain ⟨h4, hl⟩ := word q hq
    refine ew_if (bw_cmp rfl (ew_name 3 (ew_tx WON (op_eq_s ⟨_, rfl, fun z => ?_, fun z => ?_⟩))))
    · refine ew_ix (ew_name 0 (ew_name 2 (ix_l e ?_)))
      obtain ⟨i, b⟩ := q
      cases b
      · rfl
      · exact absurd (show decide (wayW true = WON) = true from z) (by decide)
    · obtain ⟨i, b⟩ := q
      cases b
      · exact absurd (show decide (wayW false = WON) = false from z) (by decide)
      refine ew_lback T (ew_ix (ew_name 0 (ew_name 2 (ix_l e ⟨_, rfl, ?_, ?_, rfl⟩)))) (hr.mono (by decide))
      · have := h4.bk; unfold dirW at this; rw [if_pos rfl] at this
        have q := hk (K.getD i []) (List.mem_of_getElem? (i := i) (by rw [List.getD_eq_getElem?_getD, List.getElem?_eq_getElem (hp (i, true) hq)]; rfl))
        exact q.1
      · have q := hk (K.getD i []) (List.mem_of_getElem? (i := i) (by rw [List.getD_eq_getElem?_getD, List.getElem?_eq_getElem (hp (i, true) hq)]; rfl))
        have h3 : (K.getD i []).length ≤ 3 := q.2
        show (K.getD i []).length ≤ 1000
        omega
  · rw [List.filter_eq_self.mpr fun _ _ => rfl]
    have fl := flat_len (ls := pl.map fun q => dirW (K.getD q.1 []) q.2) (k := 3) fun l hl => by
      obtain ⟨q, hq, rfl⟩ := List.mem_map.mp hl; exact (word q hq).2
    rw [List.length_map] at fl
    refine ⟨pl.map fun q => dirW (K.getD q.1 []) q.2, by rw [List.map_map]; rfl, by omega, _, rfl, fun c hc => ?_, by omega⟩
    obtain ⟨l, hl, hcl⟩ := List.mem_flatten.mp hc
    obtain ⟨q, hq, rfl⟩ := List.mem_map.mp hl
    exact (word q hq).1 c hcl
structure TwistOk (m : Mn) (K : List Wd) (p : Wd) : Prop where
  nd : K.Nodup
  z : K.length ≤ 4
  k : ∀ w ∈ K, W4 w ∧ w ≠ [] ∧ w.length ≤ 3
  p4 : W4 p
  pne : p ≠ []
  pz : p.length ≤ 8
theorem ok_law_twisted (T : Told B) (m : Mn) (l : Wd) (hl : Lts l) : Ok B 5 d_law_twisted p_law_twisted (spSV [S m.w, S l] fun r => ∃ K p, r = .tuple [.list (K.map S), S p] ∧ TwistOk m K p) := by
  refine ok_sv (h_law_twisted T) s_law_twisted rfl fun c hr F A hro hF => ?_
  have nd := s_law_twisted.nd
  refine sws_cons (sw_set 3 (ew_lst (aw_nil ?_)))
  refine sws_cons (sw_forE (α := Nat) (iw_range1 (b_range T) (ew_bin (ew_int (ew_take T hF (ew_int ⟨4, rfl, by decide, by decide, fun k hk => op_add_i ⟨(1 : Int) + ((k : Nat) : Int), rfl, by omega, by omega, ?_⟩⟩) (hr.mono (by decide)))))))
  rw [show ((1 : Int) + ((k : Nat) : Int)).toNat = 1 + k by omega]
  refine ⟨List.range (1 + k), fun i => .int (i : Nat), fun i ε => ∃ (K : List Wd) (s4 s5 : Sl), still s4 = true ∧ ε = [.val (.ref A), .dat (S m.w), .dat (S l), .dat (.list (K.map S)), s4, s5, .un, .un] ∧ K.Nodup ∧ K.length ≤ i ∧ (0 < i → K ≠ []) ∧ ∀ w ∈ K, W4 w ∧ w ≠ [] ∧ w.length ≤ 3, rfl, ⟨[], .un, .un, rfl, rfl, List.nodup_nil, Nat.le_refl _, fun z => absurd z (Nat.lt_irrefl _), fun w hw => (by cases hw)⟩, ?_, ?_⟩
  · rintro i x ε' hx ⟨K, s4, s5, hs4, rfl, kn, kz, kne, hk⟩
    have hi : i < 1 + k := by have := (List.getElem?_eq_some_iff.mp hx).1; rw [List.length_range] at this; exact this
    refine tw_name 4 (sws_cons (sw_set 5 (ew_callSJ 0 (k := 4) (hr := hr) (h_law_word T) (g_law_word T) hF (aw_cons (ew_name 1 (aw_cons (ew_name 2 (aw_cons (ew_int (aw_nil ⟨_, ok_law_word T m l hl 3 (by decide) (by decide), fun r hr' => ?_⟩))))))))))
    obtain ⟨w, rfl, wne, wz, hw⟩ := hr'
    have hw4 : W4 w := fun c hc => (hw c hc).l4
    refine sws_one (sw_set 3 (EW.imp (Q := fun d => d = .list ((addC K w).map S)) (ew_if (bw_cmp rfl (ew_name 5 (ew_name 3 (op_nin_ls (.inl rfl) ⟨_, rfl, fun z => ?_, fun z => ?_⟩))))) fun d ed => ?_))
    · have z : w ∉ K := by simpa using z
      refine ew_bin (ew_name 3 (ew_lst (aw_cons (ew_name 5 (aw_nil (op_cat_d ?_ ?_))))))
      · rw [List.length_map]; simp; omega
      · unfold addC; rw [if_neg z, List.map_append]; rfl
    · have z : w ∈ K := by simpa using z
      refine ew_name 3 ?_
      unfold addC; rw [if_pos z]
    · subst ed
      refine ⟨addC K w, .dat (.int (x : Nat)), _, rfl, rfl, addC_nd kn, ?_, fun _ => ?_, fun w' hw' => ?_⟩
      · unfold addC; split
        · omega
        · rw [List.length_append, List.length_singleton]; omega
      · intro z
        have := (addC_mem (cv := K) (w := w) (x := w)).mpr (.inr rfl)
        rw [z] at this; cases this
      · rcases addC_mem.mp hw' with q | rfl
        · exact hk w' q
        · exact ⟨hw4, wne, wz⟩
  rintro ε' ⟨K, s4, s5, hs4, rfl, kn, kz, kne, hk⟩
  rw [List.length_range] at kz kne
  have kne := kne (by omega)
  have klp : 0 < K.length := List.length_pos_iff.mpr kne
  refine sws_cons (sw_setLc 6 [("_law_k", 4)] (hst := by show (still s4 && true) = true; rw [hs4]; rfl) (lcw_rel (α := Nat) (β := Nat × Bool) (iw_range1 (b_range T) (ew_bin (ew_int (ew_take T hF (ew_int ⟨4, rfl, by decide, by decide, fun k2 hk2 => op_add_i ⟨(1 : Int) + ((k2 : Nat) : Int), rfl, by omega, by omega, ?_⟩⟩) (hr.mono (by decide))))))))
  rw [show ((1 : Int) + ((k2 : Nat) : Int)).toNat = 1 + k2 by omega]
  refine ⟨List.range (1 + k2), fun i => .int (i : Nat), encPl, fun _ y => y.1 < K.length, rfl, by rw [List.length_range]; omega, fun x hx => ?_, fun pl pz hpl => ?_⟩
  · refine two_nm 4 (fun _ _ _ _ _ => fun s2 H2 C2 cl2 fp2 => bws_nil ⟨rfl, fun s3 H3 C3 cl3 fp3 => ?_⟩)
    refine ew_tup (aw_cons (ew_take T hF (ew_len (b_len T) (ew_name 3 (.inl ⟨K.map S, .inl rfl, K.length, by rw [List.length_map], klp, by omega, fun i hi => aw_cons ?_⟩))) (hr.mono (by decide))))
    refine ew_one1 T hF (ew_lst (aw_cons (ew_tx WON (aw_cons (ew_tx WBACK (aw_nil ⟨_, rfl, by simp, by decide, fun r hr' => aw_nil ?_⟩)))))) (hr.mono (by decide))
    rcases List.mem_cons.mp hr' with rfl | q
    · exact ⟨(i, false), rfl, hi⟩
    · cases List.mem_singleton.mp q; exact ⟨(i, true), rfl, hi⟩
  rw [List.length_range] at pz
  have hpl' : ∀ q ∈ pl, q.1 < K.length := fun q hq => by
    obtain ⟨i, hi⟩ := List.getElem?_of_mem hq
    have hl : i < pl.length := (List.getElem?_eq_some_iff.mp hi).1
    exact hpl i _ q (List.getElem?_eq_getElem (by rw [List.length_range]; omega)) hi
  show SWs _ _ _ _ _
  refine sws_cons (sw_set 7 (ew_callJ (k := 3) (hr := hr.mono (by decide)) (h_law_made T) (g_law_made T) (aw_cons (ew_name 3 (aw_cons (ew_name 6 (aw_nil ⟨_, ok_law_made T K pl (fun w hw => ⟨(hk w hw).1, (hk w hw).2.2⟩) hpl' (by omega), fun r hr' => ?_⟩)))))))
  obtain ⟨p0, rfl, p04, p0z⟩ := hr'
  refine sws_cons (sw_set 7 (EW.imp (Q := fun d => ∃ p : Wd, d = S p ∧ W4 p ∧ p.length ≤ 12) (ew_if (bw_cmp rfl (ew_take T hF (ew_int ⟨2, rfl, by decide, by decide, fun k3 hk3 => ew_int (op_eq_i ⟨_, rfl, fun _ => ?_, fun _ => ew_name 7 ⟨p0, rfl, p04, p0z⟩⟩)⟩) (hr.mono (by decide))))) fun d hd => ?_))
  · refine ew_lshort T (ew_name 7 ⟨p0, rfl, p04, by omega, _, rfl, p04.red, ?_⟩) (hr.mono (by decide))
    have := red_len p0; omega
  obtain ⟨p, rfl, p4, pz'⟩ := hd
  refine sws_one (sw_ret (ew_tup (aw_cons (ew_name 3 (aw_cons (EW.imp (Q := fun d => ∃ p : Wd, d = S p ∧ W4 p ∧ p ≠ [] ∧ p.length ≤ 8) (ew_if (bw_cmp rfl (ew_name 7 (ew_tx [] (op_ne_s ⟨_, rfl, fun z => ?_, fun z => ?_⟩))))) fun d hd => aw_nil ?_))))))
  · have z : p ≠ [] := by simpa using z
    refine ew_slice (ew_name 7 (ow_none (ow_some (ew_int ⟨_, rfl, sl_s (l := p) (by omega) ?_⟩))))
    rw [show ((8 : Int)) = ((8 : Nat) : Int) from rfl, cut_to]
    refine ⟨_, rfl, fun c hc => p4 c (List.mem_of_mem_take hc), fun y => ?_, by rw [List.length_take]; omega⟩
    have := List.length_pos_iff.mpr z
    have := congrArg List.length y
    rw [List.length_take, List.length_nil] at this; omega
  · refine ew_callSJ 0 (k := 4) (hr := hr) (h_law_word T) (g_law_word T) hF (aw_cons (ew_name 1 (aw_cons (ew_name 2 (aw_cons (ew_int (aw_nil ⟨_, ok_law_word T m l hl 4 (by decide) (by decide), fun r hr' => ?_⟩)))))))
    obtain ⟨w, rfl, wne, wz, hw⟩ := hr'
    exact ⟨w, rfl, fun c hc => (hw c hc).l4, wne, by omega⟩
  · obtain ⟨p', rfl, a, b, c⟩ := hd
    exact ⟨K, p', rfl, kn, by omega, hk, a, b, c⟩
end K78
/-! K78: walks: pieces, kept paths drawn. -/
namespace K78
open PySem PySem.Spec L2
variable {B : Bs}
def sumL (ms : List Wd) : Nat := (ms.map List.length).sum
theorem sumL_cons (m : Wd) (ms : List Wd) : sumL (m :: ms) = m.length + sumL ms := by unfold sumL; rw [List.map_cons, List.sum_cons]
theorem sumL_app (xs ys : List Wd) : sumL (xs ++ ys) = sumL xs + sumL ys := by unfold sumL; rw [List.map_append, List.sum_append]
theorem sumL_sub {xs ys : List Wd} (h : xs.Sublist ys) : sumL xs ≤ sumL ys := by
  induction h with
  | slnil => exact Nat.le_refl _
  | cons a _ ih => rw [sumL_cons]; omega
  | cons_cons a _ ih => rw [sumL_cons, sumL_cons]; omega
theorem sumL_rel : ∀ {xs ys : List Wd}, ys.length = xs.length → (∀ (i : Nat) (x y : Wd), xs[i]? = some x → ys[i]? = some y → y.Sublist x) → sumL ys ≤ sumL xs ∧ ∀ y ∈ ys, ∃ x ∈ xs, y.Sublist x
  | [], [], _, _ => ⟨Nat.le_refl _, fun y hy => by cases hy⟩
  | [], _ :: _, h, _ => by cases h
  | _ :: _, [], h, _ => by cases h
  | x :: xs, y :: ys, h, r => by
    have h0 := r 0 x y rfl rfl
    obtain ⟨a, b⟩ := sumL_rel (xs := xs) (ys := ys) (by simpa using h) fun i x' y' e1 e2 => r (i + 1) x' y' (by rw [List.getElem?_cons_succ]; exact e1) (by rw [List.getElem?_cons_succ]; exact e2)
    rw [sumL_cons, sumL_cons]
    refine ⟨by have := h0.length_le; omega, fun z hz => ?_⟩
    rcases List.mem_cons.mp hz with rfl | q
    · exact ⟨x, List.mem_cons_self .., h0⟩
    · obtain ⟨x', hx, hs⟩ := b z q; exact ⟨x', List.mem_cons_of_mem _ hx, hs⟩
theorem un_len (t : Tx) : t.un.length = t.ls.length + sumL t.ms := by
  obtain ⟨m, l⟩ := t
  unfold Tx.un Tx.ls Tx.ms
  rw [List.length_append, sumL_cons, List.length_map]
  have : ∀ l : List (Nat × Wd), (l.flatMap fun p => p.1 :: p.2).length = l.length + sumL (l.map (·.2)) := fun l => by
    induction l with
    | nil => rfl
    | cons p l ih => rw [List.flatMap_cons, List.length_append, ih, List.map_cons, sumL_cons, List.length_cons, List.length_cons]; omega
  rw [this]
  show m.length + (l.length + sumL (l.map (·.2))) = l.length + (m.length + sumL (l.map (·.2)))
  omega
/-- the path of letters and marks -/
def mkT (ls : Wd) (ms : List Wd) : Tx := (ms.headD [], ls.zip ms.tail)
theorem mkT_ls {ls : Wd} {ms : List Wd} (h : ms.length = ls.length + 1) : (mkT ls ms).ls = ls := by
  unfold mkT Tx.ls
  show (ls.zip ms.tail).map Prod.fst = ls
  rw [List.map_fst_zip]
  rw [List.length_tail]; omega
theorem mkT_ms {ls : Wd} {ms : List Wd} (h : ms.length = ls.length + 1) : (mkT ls ms).ms = ms := by
  unfold mkT Tx.ms
  show ms.headD [] :: (ls.zip ms.tail).map Prod.snd = ms
  rw [List.map_snd_zip (by rw [List.length_tail]; omega)]
  cases ms with
  | nil => simp at h
  | cons a l => rfl
structure Marks (n S0 : Nat) (ms : List Wd) : Prop where
  n : ms.length = n + 1
  s : ∀ m ∈ ms, m.Sublist DIGS
  z : sumL ms ≤ S0
theorem ew_fewer {X : Cx} {F : Fm} {ε : Env} {A : Addr} {n : Str} {e : Expr} {p p2 pos : Pos} {Q : PyData → Prop} (T : Told (bsOf X)) (hF : IsS A F) (h : EW X F e ε fun d => ∃ m : Wd, d = S m ∧ m.length ≤ 1000 ∧ ∀ m' : Wd, m'.Sublist m → Q (S m'))
    (hr : Room 3 X.A) (hε : ε[0]? = some (.val (.ref A)) := by rfl) (hN : X.N[0]? = some n := by rfl) (hv : Vis X.env.scope n := by first | exact Or.inl rfl | exact Or.inr (Or.inl rfl) | exact Or.inr (Or.inr rfl)) (hdg : (n == ("__debug__" : Str)) = false := by decide)
    (hcd : (n == ("__classdict__" : Str)) = false := by decide) (hg : Gl X "_law_fewer" := by rfl)
    (he : starEach (.Name n p2 :: [e]) X.env = (false, eval (.Name n p2) X.env) :: starEach [e] X.env := by rfl) (hs : starEach [e] X.env = (false, eval e X.env) :: starEach [] X.env := by rfl) (hpl : (backTo pos (starEach [e] X.env)).any (·.1) = false := by rfl) : EW X F (.Call (.Name "_law_fewer" p) (.Name n p2 :: [e]) [] pos) ε Q :=
  ew_callSJ 0 (k := 3) (h_law_fewer T) (g_law_fewer T) hF (aw_cons (h.imp fun d ⟨m, ed, h1, q⟩ => by
    subst ed
    exact aw_nil ⟨_, ok_law_fewer T m h1, fun r ⟨m', er, hm⟩ => by subst er; exact q m' hm⟩) hs) hε hr hN hv hdg hcd hg (by decide) he hpl
structure PiecesOk (ks : List Tx) (z : Nat) : Prop where
  nd : (ks.map Tx.un).Nodup
  z : ks.length ≤ z
  k : ∀ k ∈ ks, Good k ∧ Suit .any k ∧ k.un.length ≤ 10
theorem ok_law_pieces (T : Told B) (t : Tx) (ht : Good t) (hs : Suit .any t) (hz : t.un.length ≤ 10) : Ok B 4 d_law_pieces p_law_pieces (spSV [S t.un, .int 4] fun r => ∃ ks : List Tx, r = .list ((ks.map Tx.un).map S) ∧ PiecesOk ks 4) := by
  refine ok_sv (h_law_pieces T) s_law_pieces rfl fun c hr F A hro hF => ?_
  have nd := s_law_pieces.nd
  have ul := un_len t
  have lz : t.ls.length ≤ 10 := by omega
  have lp : 0 < t.ls.length := List.length_pos_iff.mpr ht.ls_ne
  have ml := t.ms_len
  have mz : ∀ m ∈ t.ms, m.length ≤ 10 := ht.m_len
  refine sws_cons (sw_asg (ew_lread T (ew_name 1 ⟨t, rfl, ht, tw_tup (tws_cons (tw_name 3 (tws_cons (tw_name 4 (tws_nil ?_)))))⟩) (hr.mono (by decide))))
  refine sws_cons (sw_setL 5 (aw_nil ?_))
  refine sws_cons (sw_forM (List.range 4) (fun i => .int (i : Nat)) (fun i ε => ∃ (ks : List Tx) (s6 s7 s8 s9 s10 : Sl), ε = [.val (.ref A), .dat (S t.un), .dat (.int 4), .dat (.list (sing t.ls)), .dat (.list (t.ms.map S)), .lst ((ks.map Tx.un).map S), s6, s7, s8, s9, s10, .un, .un] ∧ PiecesOk ks i) (iw_range1 (b_range T) (ew_name 2 ⟨(4 : Int), rfl, by decide, by decide, rfl⟩)) ⟨[], .un, .un, .un, .un, .un, rfl, ⟨List.nodup_nil, Nat.le_refl _, fun k hk => (by cases hk)⟩⟩ ?_ ?_)
  · rintro q x ε' hq ⟨ks, s6, s7, s8, s9, s10, rfl, hks⟩
    have hq4 : q < 4 := by have := (List.getElem?_eq_some_iff.mp hq).1; rw [List.length_range] at this; exact this
    refine tw_name 6 (sws_cons (sw_set 7 (ew_take T hF (ew_len (b_len T) (ew_name 3 (.inl ⟨sing t.ls, .inl rfl, t.ls.length, by rw [List.length_map], lp, by omega, fun i hi => ?_⟩))) (hr.mono (by decide)))))
    refine sws_cons (sw_set 8 (ew_bin (ew_bin (ew_name 7 (ew_int (op_add_i (ew_take T hF (ew_bin (ew_len (b_len T) (ew_name 3 (.inl ⟨sing t.ls, .inl rfl, ew_name 7 (op_sub_i ⟨t.ls.length - i, ?_, by omega, by omega, fun k hk => op_add_i ?_⟩)⟩)))) (hr.mono (by decide)))))))))
    · rw [List.length_map]; congr 1; omega
    rw [show ((i : Nat) : Int) + 1 + ((k : Nat) : Int) = ((i + (k + 1) : Nat) : Int) by omega]
    obtain ⟨n, hn⟩ : ∃ n, n = k + 1 := ⟨_, rfl⟩
    rw [← hn]
    have hn1 : 1 ≤ n := by omega
    have hin : i + n ≤ t.ls.length := by omega
    clear hn hk
    have m0 : Marks n (sumL t.ms) ((t.ms.drop i).take (n + 1)) := ⟨by rw [List.length_take, List.length_drop]; omega, fun m hm => ht.mks m (List.mem_of_mem_drop (List.mem_of_mem_take hm)), sumL_sub ((List.take_sublist _ _).trans (List.drop_sublist _ _))⟩
    refine sws_cons (sw_set 9 (ew_callTy (T := "list") (b_list T) (aw_cons (ew_slice (ew_name 4 (ow_some (ew_name 7 ⟨_, rfl, ow_some (ew_bin (ew_name 8 (ew_int (op_add_i ⟨_, rfl, sl_l (aw_nil (c_list (.inl rfl) ?_))⟩))))⟩)))))))
    rw [show ((i + n : Nat) : Int) + 1 = ((i + n + 1 : Nat) : Int) by omega, cut_seg, show i + n + 1 - i = n + 1 by omega, show ((t.ms.map S).drop i).take (n + 1) = ((t.ms.drop i).take (n + 1)).map S by rw [List.map_take, List.map_drop]]
    generalize (t.ms.drop i).take (n + 1) = ms at m0
    have mzz : ∀ {ms : List Wd}, Marks n (sumL t.ms) ms → ∀ m ∈ ms, m.length ≤ 10 := fun M m hm => (M.s m hm).length_le
    refine sws_cons (sw_mid (fun ε' => ∃ ms : List Wd, Marks n (sumL t.ms) ms ∧ ε' = [.val (.ref A), .dat (S t.un), .dat (.int 4), .dat (.list (sing t.ls)), .dat (.list (t.ms.map S)), .lst ((ks.map Tx.un).map S), .dat (.int (x : Nat)), .dat (.int (i : Nat)), .dat (.int ((i + n : Nat) : Nat)), .dat (.list (ms.map S)), s10, .un, .un]) (sw_if (bw_cmp rfl (ew_take T hF (ew_int ⟨2, rfl, by decide, by decide, fun _ _ => ew_int (op_eq_i ⟨_, rfl, fun _ => ?_, fun _ => sws_nil ⟨ms, m0, rfl⟩⟩)⟩) (hr.mono (by decide))))) ?_)
    · have mn := m0.n
      obtain ⟨a, mid, b, rfl⟩ : ∃ a mid b, ms = a :: (mid ++ [b]) := by
        cases ms with
        | nil => simp at mn
        | cons a r =>
          have hr : r ≠ [] := fun z => by subst z; simp at mn; omega
          exact ⟨a, r.dropLast, r.getLast hr, by rw [List.dropLast_concat_getLast]⟩
      have ha := m0.s a (List.mem_cons_self ..)
      have hb := m0.s b (List.mem_cons_of_mem _ (List.mem_append_right _ (List.mem_singleton.mpr rfl)))
      have az := ha.length_le
      have bz := hb.length_le
      have midz : mid.length ≤ 20 := by rw [List.length_cons, List.length_append] at mn; simp at mn; omega
      refine sws_one (sw_set 9 (ew_bin (ew_bin (ew_lst (aw_cons (ew_fewer T hF (ew_ix (ew_name 9 (ew_int (ix_l (d := S a) ?_ ⟨a, rfl, Nat.le_trans az (by decide), fun a' ha' => aw_nil ?_⟩)))) hr))))))
      · rw [show ((0 : Int)) = ((0 : Nat) : Int) from rfl, atI_nat]; rfl
      refine ew_slice (ew_name 9 (ow_some (ew_int ⟨_, rfl, ow_some (ew_neg ⟨_, rfl, sl_l ?_⟩)⟩)))
      rw [cut_mid]
      have e1 : ((a :: (mid ++ [b])).map S).tail.dropLast = mid.map S := by rw [List.map_cons, List.tail_cons, List.map_append]; exact List.dropLast_concat
      rw [e1]
      refine op_cat_d (by rw [List.length_map]; simp; omega) (ew_lst (aw_cons (ew_fewer T hF (ew_ix (ew_name 9 (ew_neg (ix_l (d := S b) ?_ ⟨b, rfl, Nat.le_trans bz (by decide), fun b' hb' => aw_nil ?_⟩)))) hr)))
      · rw [atI_last, List.map_cons, List.map_append]
        show (S a :: (mid.map S ++ [S b])).getLast? = _
        rw [← List.cons_append, List.getLast?_append]; rfl
      refine op_cat_d (by rw [List.length_append, List.length_map]; simp; omega) ?_
      refine ⟨a' :: (mid ++ [b']), ⟨?_, fun m hm => ?_, ?_⟩, ?_⟩
      · rw [List.length_cons, List.length_append] at mn ⊢; exact mn
      · rcases List.mem_cons.mp hm with rfl | q
        · exact ha'.trans ha
        · rcases List.mem_append.mp q with q | q
          · exact m0.s m (List.mem_cons_of_mem _ (List.mem_append_left _ q))
          · cases List.mem_singleton.mp q; exact hb'.trans hb
      · have := m0.z
        have l1 := ha'.length_le
        have l2 := hb'.length_le
        rw [sumL_cons, sumL_app, sumL_cons] at this ⊢
        omega
      · have e2 : (a' :: (mid ++ [b'])).map S = [S a'] ++ mid.map S ++ [S b'] := by rw [List.map_cons, List.map_append]; rfl
        rw [e2]; rfl
    rintro ε' ⟨ms, m1, rfl⟩
    refine sws_cons (sw_mid (fun ε' => ∃ ms : List Wd, Marks n (sumL t.ms) ms ∧ ε' = [.val (.ref A), .dat (S t.un), .dat (.int 4), .dat (.list (sing t.ls)), .dat (.list (t.ms.map S)), .lst ((ks.map Tx.un).map S), .dat (.int (x : Nat)), .dat (.int (i : Nat)), .dat (.int ((i + n : Nat) : Nat)), .dat (.list (ms.map S)), s10, .un, .un]) (sw_if (bw_cmp rfl (ew_take T hF (ew_int ⟨6, rfl, by decide, by decide, fun _ _ => ew_int (op_eq_i ⟨_, rfl, fun _ => ?_, fun _ => sws_nil ⟨ms, m1, rfl⟩⟩)⟩) (hr.mono (by decide))))) ?_)
    · refine sws_one (sw_setLc 9 [("_law_x", 11)] (lcw_rel (α := Wd) (β := Wd) (iw_list (ew_name 9 ⟨_, rfl, ms, S, S, fun x y => y.Sublist x, rfl, by rw [m1.n]; omega, fun y hy => ?_, fun ys yl yr => ?_⟩))))
      · exact two_nm 11 (fun _ _ _ _ _ => fun s2 H2 C2 cl2 fp2 => bws_nil ⟨rfl, fun s3 H3 C3 cl3 fp3 => ew_fewer T hF (ew_name 11 ⟨y, rfl, Nat.le_trans (mzz m1 y hy) (by decide), fun m' hm' => ⟨m', rfl, hm'⟩⟩) hr⟩)
      · obtain ⟨z1, z2⟩ := sumL_rel yl yr
        refine ⟨ys, ⟨by rw [yl]; exact m1.n, fun y hy => ?_, Nat.le_trans z1 m1.z⟩, rfl⟩
        obtain ⟨x', hx', hs'⟩ := z2 y hy
        exact hs'.trans (m1.s x' hx')
    rintro ε' ⟨ms, m2, rfl⟩
    have mn := m2.n
    have sl : ((t.ls.drop i).take n).length = n := by rw [List.length_take, List.length_drop]; omega
    have sg98 : ∀ c ∈ (t.ls.drop i).take n, c = 97 ∨ c = 98 := fun c hc => by
      have hc := List.mem_of_mem_drop (List.mem_of_mem_take hc)
      obtain ⟨p, hp, rfl⟩ := List.mem_map.mp hc
      exact hs p hp
    have eseg : ((sing t.ls).drop i).take (i + n - i) = sing ((t.ls.drop i).take n) := by unfold sing; rw [show i + n - i = n by omega, List.map_take, List.map_drop]
    generalize (t.ls.drop i).take n = seg at sl sg98 eseg
    have e0 : ms[0]? = some (ms.headD []) := by
      cases ms with
      | nil => simp at mn
      | cons a l => rfl
    have hd10 := mzz m2 _ (List.mem_of_getElem? e0)
    have kls : (mkT seg ms).ls = seg := mkT_ls (by rw [mn, sl])
    have kms : (mkT seg ms).ms = ms := mkT_ms (by rw [mn, sl])
    have ku : (mkT seg ms).un.length ≤ t.ls.length + sumL t.ms := by
      rw [un_len, kls, kms, sl]; have := m2.z; omega
    have kg98 : ∀ p ∈ (mkT seg ms).2, p.1 = 97 ∨ p.1 = 98 := fun p hp => sg98 _ (by rw [← kls]; exact List.mem_map_of_mem hp)
    have kg : Good (mkT seg ms) := ⟨fun z => by
        have := congrArg List.length kls
        unfold Tx.ls at this; rw [z, sl] at this; simp at this; omega, fun p hp => by unfold L4; rcases kg98 p hp with h | h <;> omega, by rw [kms]; exact m2.s, .inr kg98, by omega⟩
    refine sws_cons (sw_set 10 (ew_bin (ew_ix (ew_name 9 (ew_int (ix_l (d := S (ms.headD [])) (by rw [show ((0 : Int)) = ((0 : Nat) : Int) from rfl, atI_nat, List.getElem?_map, e0]; rfl) (ew_join (ew_lc [("_law_x", 11), ("_law_d", 12)] (lcw_of (seg.zip ms.tail) (fun p => PyData.tuple [S [p.1], S p.2]) (fun p => S (p.1 :: p.2)) (fun _ => true) (iw_zip (b_zip T) (ew_slice (ew_name 3 (ow_some (ew_name 7 ⟨_, rfl, ow_some (ew_name 8 ⟨_, rfl, sl_l (ew_slice (ew_name 9 (ow_some (ew_int ⟨_, rfl, ow_none (sl_l ?_)⟩))))⟩)⟩))))))))))))))
    rw [cut_seg, eseg, show ((1 : Int)) = ((1 : Nat) : Int) from rfl, cut_from, List.drop_one, ← List.map_tail]
    refine ⟨_, _, rfl, rfl, ?_, ?_, fun p hp s1 H1 C1 cl1 fp1 => ?_, ?_⟩
    · unfold sing
      rw [List.zipWith_map_left, List.zipWith_map_right, List.zip, List.map_zipWith]
    · rw [List.length_zip]; omega
    · have hp2 := mzz m2 p.2 (List.mem_of_mem_tail (List.of_mem_zip hp).2)
      refine two_tup (twos_cons (two_name 11 (twos_cons (two_name 12 (twos_nil ?_)))))
      intro s2 H2 C2 cl2 fp2
      refine bws_nil ⟨rfl, fun _ s3 H3 C3 cl3 fp3 => ?_⟩
      exact ew_bin (ew_name 11 (ew_name 12 (op_add_s (l := [p.1]) (m := p.2) (by simp; omega) rfl)))
    rw [List.filter_eq_self.mpr fun _ _ => rfl]
    have ejn : ((seg.zip ms.tail).map fun p => p.1 :: p.2).flatten = (seg.zip ms.tail).flatMap fun p => p.1 :: p.2 := by rw [List.flatMap_def]
    have ejl : (((seg.zip ms.tail).map fun p => p.1 :: p.2).map List.length).sum = ((seg.zip ms.tail).flatMap fun p => p.1 :: p.2).length := by rw [← ejn, List.length_flatten]
    have eun : ms.headD [] ++ ((seg.zip ms.tail).flatMap fun p => p.1 :: p.2) = (mkT seg ms).un := rfl
    have el := congrArg List.length eun
    rw [List.length_append] at el
    refine ⟨(seg.zip ms.tail).map fun p => p.1 :: p.2, by rw [List.map_map]; rfl, by rw [ejl]; omega, ?_⟩
    rw [ejn]
    refine op_add_s (l := ms.headD []) (by omega) ?_
    rw [eun]
    generalize mkT seg ms = kt at kg kg98 ku
    refine sws_one (sw_if (bw_inR (ref_slot 5) (ew_name 10 (op_nin_ls (.inl rfl) ⟨_, rfl, fun z => ?_, fun z => sws_nil ?_⟩))))
    · have z : kt.un ∉ ks.map Tx.un := by simpa using z
      have kz := hks.z
      refine sws_one (sw_append 5 rfl (by rw [List.length_map, List.length_map]; omega) (ew_name 10 ⟨ks ++ [kt], _, _, _, _, _, by rw [List.map_append, List.map_append]; rfl, ⟨?_, by rw [List.length_append, List.length_singleton]; omega, fun k hk => ?_⟩⟩))
      · rw [List.map_append, List.nodup_append]
        refine ⟨hks.nd, by simp, fun a ha b hb e => ?_⟩
        cases List.mem_singleton.mp hb; subst e; exact z ha
      · rcases List.mem_append.mp hk with q | q
        · exact hks.k k q
        · cases List.mem_singleton.mp q; exact ⟨kg, kg98, by omega⟩
    · exact ⟨ks, _, _, _, _, _, rfl, ⟨hks.nd, by have := hks.z; omega, hks.k⟩⟩
  · rintro ε' ⟨ks, s6, s7, s8, s9, s10, rfl, hks⟩
    exact sws_freeze 5 (sws_one (sw_ret (ew_name 5 ⟨ks, rfl, hks⟩)))
end K78
/-! K78: lists of lists that are filled: the inner ones are hidden. -/
namespace K78
open PySem PySem.Spec L2
theorem idx_nodup {as : List Addr} : ∀ {k : Nat} {a : Addr}, as.Nodup → as[k]? = some a → as.idxOf a = k := by
  induction as with
  | nil => intro k a _ h; cases h
  | cons b as ih =>
    intro k a hn h
    cases k with
    | zero => cases h; exact List.idxOf_cons_self
    | succ k =>
      have h' : as[k]? = some a := h
      have ne : b ≠ a := fun e => by subst e; exact (List.nodup_cons.mp hn).1 (List.mem_of_getElem? h')
      rw [List.idxOf_cons, beq_eq_false_iff_ne.mpr ne, ih (List.nodup_cons.mp hn).2 h']; rfl
theorem snoc_indA {α : Type} {P : List α → Prop} (h0 : P []) (h1 : ∀ u c, P u → P (u ++ [c])) (u : List α) : P u := by
  have : ∀ v : List α, P v.reverse := fun v => by
    induction v with
    | nil => exact h0
    | cons a v ih => rw [List.reverse_cons]; exact h1 _ _ ih
  have h := this u.reverse
  rw [List.reverse_reverse] at h; exact h
section
variable {X : Cx} {F : Fm} {ε : Env} {hd : Hid} {Hb H H' : Hp} {σ : L2.St}
/-- new lists become hidden ones; a list of them -/
theorem SI.adopt (S : SI F hd Hb H σ ε) {L : Addr} {as : List Addr} (sm : Same H H') (nL : H L = none) (hL : H' L = some (.lst (as.map V.ref))) (an : as.Nodup) (ha : ∀ a ∈ as, a ≠ L ∧ H a = none ∧ H' a = some (.lst [])) : SI F (hd ++ as.map fun a => (a, [])) (upd Hb L (.lst (as.map V.ref))) H' σ ε := by
  have g : Gr0 Hb H (upd Hb L (.lst (as.map V.ref))) H' := by
    refine ⟨same_new (S.dead nL).1, fun b x e => ?_, fun b e => ?_, fun b o _ e => sm b o e, fun b e => ?_⟩
    · by_cases c : b = L
      · subst c; rw [upd_same] at e; rw [← e]; exact hL
      · rw [upd_ne c] at e; exact sm b x (S.si b x e)
    · rw [upd_ne]; intro z; subst z; exact e nL
    · cases q : H b with
      | none => exact absurd q e
      | some o => rw [sm b o q]; intro z; cases z
  obtain ⟨ow, h1, h2⟩ := S.ow
  have ne : ∀ b q, ow b = some q → b ∉ as := fun b q e z => (h1.c b _ e).2.2.2 (ha b z).2.1
  refine ⟨S.gr.trans0 g, F.j1 _ _ _ _ g S.j, S.len, fun b => if b ∈ as then some (.hid (hd.length + as.idxOf b)) else ow b, ⟨fun b q e => ?_, fun k b ds e => ?_⟩, fun j t e => (h2 j t e).move g.b (fun b x q => (if_neg (ne b _ q)).trans q) fun b u x q z => sm b u z⟩
  · by_cases c : b ∈ as
    · obtain ⟨b1, b2, b3⟩ := ha b c
      obtain ⟨d1, d2, d3, d4⟩ := S.dead b2
      exact ⟨by rw [upd_ne b1]; exact d1, .inr d2, d3, by rw [b3]; intro z; cases z⟩
    · obtain ⟨a1, a2, a3, a4⟩ := h1.c b q (by simpa only [if_neg c] using e)
      exact ⟨(g.n b a4).trans a1, a2, a3, g.t b a4⟩
  · by_cases c : k < hd.length
    · rw [List.getElem?_append_left c] at e
      exact (h1.h k b ds e).move g.b (fun b q => (if_neg (ne b _ q)).trans q) fun b u q z => sm b u z
    · rw [List.getElem?_append_right (by omega), List.getElem?_map] at e
      cases q : as[k - hd.length]? with
      | none => rw [q] at e; cases e
      | some a =>
        rw [q] at e
        cases e
        have hm := List.mem_of_getElem? q
        refine ⟨b, [], rfl, ?_, (ha b hm).2.2, .nil⟩
        refine (if_pos hm).trans ?_
        rw [idx_nodup an q]
        congr 2; omega
theorem SI.hiddenAt (S : SI F hd Hb H σ ε) {k : Nat} {a : Addr} {ds : List PyData} (e0 : hd[k]? = some (a, ds)) : ∃ vs, H a = some (.lst vs) ∧ DtAll Hb vs ds ∧ Hb a = none ∧ F.H0 a = none ∧ ¬ F.Jd a ∧ ∀ vs' ds', DtAll Hb vs' ds' → SI F (hd.set k (a, ds')) Hb (upd H a (.lst vs')) σ ε := by
  obtain ⟨ow, h1, h2⟩ := S.ow
  have hk : k < hd.length := (List.getElem?_eq_some_iff.mp e0).1
  obtain ⟨b, vs, eb, oa, ha, r⟩ := h1.h _ _ _ e0
  cases eb
  obtain ⟨a1, a2, a3, a4⟩ := h1.c a _ oa
  have a5 : F.H0 a = none := a2.elim (fun z => by obtain ⟨⟨x, e⟩, _⟩ := z; cases e) fun z => z
  refine ⟨vs, ha, r, a1, a5, a3, fun vs' ds' r' => ⟨⟨S.gr.b, same_updb S.gr.i a1, S.gr.n, fun b u hm e => ?_, fun b e => some_upd (S.gr.t b e)⟩, F.j2 _ _ _ _ a3 S.j, S.len, ow, ⟨fun b pl e => ?_, fun j b es e => ?_⟩, fun j t e => ?_⟩⟩
  · rw [upd_ne]
    · exact S.gr.h b u hm e
    · intro z; subst z; rw [a5] at e; cases e
  · obtain ⟨b1, b2, b3, b4⟩ := h1.c b pl e
    exact ⟨b1, b2, b3, some_upd b4⟩
  · by_cases c : j = k
    · subst c
      rw [List.getElem?_set_self hk] at e
      cases e
      exact ⟨a, vs', rfl, oa, upd_same, r'⟩
    · rw [List.getElem?_set_ne (fun z => c z.symm)] at e
      refine (h1.h j b es e).move (Same.refl _) (fun _ q => q) fun b u q z => (upd_ne fun w => ?_).trans z
      subst w; rw [oa] at q; cases q; exact c rfl
  · refine (h2 j t e).mono (Same.refl _) fun b u y q z => (upd_ne fun w => ?_).trans z
    subst w; rw [oa] at q; cases q
/-- all hidden ones become data -/
theorem SI.revealAll : ∀ {as : List Addr} {dss : List (List PyData)} {Hb : Hp}, as.length = dss.length → SI F (hd ++ as.zip dss) Hb H σ ε → ∃ Hb', Same Hb Hb' ∧ SI F hd Hb' H σ ε ∧ DtAll Hb' (as.map V.ref) (dss.map .list) := by
  intro as
  refine snoc_indA (P := fun as : List Addr => ∀ {dss : List (List PyData)} {Hb : Hp}, as.length = dss.length → SI F (hd ++ as.zip dss) Hb H σ ε → ∃ Hb', Same Hb Hb' ∧ SI F hd Hb' H σ ε ∧ DtAll Hb' (as.map V.ref) (dss.map .list)) ?_ ?_ as
  · intro dss Hb e S
    have : dss = [] := List.length_eq_zero_iff.mp (by simpa using e.symm)
    subst this
    rw [List.zip_nil_left, List.append_nil] at S
    exact ⟨Hb, Same.refl _, S, .nil⟩
  · intro as a ih dss Hb e S
    rw [List.length_append, List.length_singleton] at e
    have hne : dss ≠ [] := fun z => by subst z; simp at e
    obtain ⟨ds0, d, rfl⟩ : ∃ ds0 d, dss = ds0 ++ [d] := ⟨dss.dropLast, dss.getLast hne, (List.dropLast_concat_getLast hne).symm⟩
    rw [List.length_append, List.length_singleton] at e
    have el : as.length = ds0.length := by omega
    rw [List.zip_append el, ← List.append_assoc] at S
    obtain ⟨vs, ha, r, a1, S1⟩ := SI.reveal (a := a) (ds := d) S
    obtain ⟨Hb', s', S', r'⟩ := ih el S1
    refine ⟨Hb', (same_new a1).trans s', S', ?_⟩
    rw [List.map_append, List.map_append]
    exact dta_snoc r' (.lst (s' _ _ upd_same) (dta_mono ((same_new a1).trans s') r))
theorem SI.asDat (S : SI F hd Hb H σ ε) {i : Nat} {v : V} {d : PyData} (hε : ε[i]? = some (.val v)) (r : Dt Hb v d) : SI F hd Hb H σ (ε.set i (.dat d)) := by
  have hv := val_at S hε
  have e : σ.set i (some v) = σ := by
    apply List.ext_getElem?
    intro j
    by_cases c : i = j
    · subst c
      rw [List.getElem?_set_self (List.getElem?_eq_some_iff.mp hv).1, hv]
    · rw [List.getElem?_set_ne c]
  have := S.setDat (i := i) r
  rw [e] at this
  exact this
/-- name = [[] for x in ..] -/
theorem sem_hands {D : Ends} {x y : Str} {px py p pos spos : Pos} {iter : Expr} {scope : Scope} (j i : Nat) (P : Nat → Prop) (S : SI F hd Hb H σ ε) (hP : ∀ n, P n → n ≤ 1000) (hi : IW X F (.Name x px) iter ε fun ds => ∃ n : Nat, ds.length = n ∧ P n)
    (done : ∀ (Hb' H' : Hp) (L : Addr) (as : List Addr), P as.length → Same Hb Hb' → SI F (hd ++ as.map fun a => (a, [])) Hb' H' (σ.set j (some (.ref L))) (ε.set j (.val (.ref L))) → Hb' L = some (.lst (as.map V.ref)) → D.nx (σ.set j (some (.ref L))) H')
    (hst : stillAt ε [i] = true := by rfl) (ok : BlkOk X.N X.env.scope scope [(x, i)] := by exact blkOk_by (by kernel_rfl)) (hc : X.calm = true := by rfl) (hN : X.N.Nodup := by first | assumption | decide +kernel) (hy : X.N[j]? = some y := by rfl) (hyl : X.env.scope.names.lookup y = some .local := by rfl)
    (hsw : swapsWith (.ListComp (.List [] p) [⟨.Name x px, iter, [], 0⟩] scope pos) (some (.Name y py)) spos.line X.env = pure true := by exact sw_true rfl rfl rfl (by kernel_rfl)) (hs : ∀ x, foldedSetIterable iter X.env x = pure x := by intro _; rfl)
    (hx : InBlk X scope fun Y => L2.Loc Y.env.scope x := by intro _ _ _ _ _; first | exact .inl rfl | exact .inr rfl) (hf : InBlk X scope fun Y => Y.fn x = true ∨ Y.env.scope.names.lookup x = some .local := by intro _ _ _ _ _; first | exact .inl rfl | exact .inr rfl) (hxi : X.N[i]? = some x := by rfl) :
    tSemS X (.Assign [.Name y py] (.ListComp (.List [] p) [⟨.Name x px, iter, [], 0⟩] scope pos) spos) D σ H := by
  refine ps_run (ps_setLc (own := [(x, i)]) (g := fun v σ H Q => InBlk X scope fun Y => tSemG Y (.Name x px) v σ H Q) (tt := fun σ H Q => InBlk X scope fun Y => tSemTs Y [] σ H Q) (te := fun σ H Q => InBlk X scope fun Y => tSem Y (.List [] p) σ H Q) hc hN hy hyl hsw pi_sem ok
    (fun s H C cl fp => ⟨fun pins s' σ H v u Q I r h => (h _ _ _ _ _).run pins s' u I r⟩) (fun s H C cl fp => ⟨fun pins s' σ H Q I h => (h _ _ _ _ _).run pins s' I⟩) (fun s H C cl fp => ⟨fun pins s' σ H Q I h => (h _ _ _ _ _).run pins s' I⟩) hs) ?_
  refine hi hd Hb H σ S _ fun J ds Hb1 H1 S1 g1 it ⟨n, en, hPn⟩ => fun L nL => ?_
  have nz := hP n hPn
  refine ⟨fun i m H' => i + m = n ∧ Same H1 H' ∧ ∃ as : List Addr, as.length = i ∧ as.Nodup ∧ (∀ a ∈ as, a ≠ L ∧ H1 a = none ∧ H' a = some (.lst [])) ∧ H' L = some (.lst (as.map V.ref)), ⟨n, Nat.zero_add _, same_new nL, [], rfl, List.nodup_nil, fun a h => (by cases h), upd_same⟩, fun t m H' ⟨em, sm, as, el, an, ha, hL⟩ => ?_⟩
  by_cases ht : t < n
  · refine .inr ⟨it.goes t H' (by omega) (S1.si.trans sm), fun H3 => Same H1 H3 ∧ ∃ as : List Addr, as.length = t + 1 ∧ as.Nodup ∧ (∀ a ∈ as, a ≠ L ∧ H1 a = none ∧ H3 a = some (.lst [])) ∧ H3 L = some (.lst (as.map V.ref)), fun H3 ⟨s3, z⟩ => ⟨m - 1, by omega, by omega, s3, z⟩, fun v H3 hy => ?_⟩
    obtain ⟨Hb3, d, g3, ed, rd⟩ := it.yields t H' v H3 (by omega) (S1.si.trans sm) hy H' (S1.si.trans sm) (Same.refl _)
    have s3 : Same H' H3 := g3.same
    intro sA HA CA clA fpA
    refine pg_run (pg_name (X := blkX X scope sA HA CA clA fpA) (i := i) hN hxi (hx sA HA CA clA fpA) (hf sA HA CA clA fpA)) ?_
    refine ⟨(wipe_eq (List.length_set ..) fun j hj => List.getElem?_set_ne (fun e => hj (by rw [← e]; exact List.mem_singleton.mpr rfl))).trans wipe_wipe, fun sB HB CB clB fpB => ?_⟩
    refine pts_run pts_nil ?_
    unfold tYes
    simp only [↓reduceIte]
    intro sC HC CC clC fpC
    refine pe_run (pe_lst pa_nil) ⟨Nat.zero_le _, fun q hq => ?_⟩
    have qL : q ≠ L := fun e => by subst e; rw [s3 _ _ hL] at hq; cases hq
    have q1 : H1 q = none := Classical.byContradiction fun z => by
      cases e : H1 q with
      | none => exact z e
      | some o => rw [s3 _ _ (sm _ _ e)] at hq; cases hq
    refine ⟨as.map V.ref, by rw [upd_ne (fun z => qL z.symm)]; exact s3 _ _ hL, by rw [List.length_map]; show as.length < sizeLine; rw [el]; exact Nat.lt_of_lt_of_le (by omega : t < 1000) (by decide), ?_⟩
    refine ⟨fun a o e => ?_, as ++ [q], by rw [List.length_append, List.length_singleton]; omega, ?_, fun a h => ?_, ?_⟩
    · have e3 := s3 _ _ (sm _ _ e)
      rw [upd_ne (fun z => by subst z; rw [nL] at e; cases e), upd_ne (fun z => by subst z; rw [q1] at e; cases e)]; exact e3
    · rw [List.nodup_append]
      refine ⟨an, by simp, fun a h b hb e => ?_⟩
      cases List.mem_singleton.mp hb; subst e
      rw [s3 _ _ (ha _ h).2.2] at hq; cases hq
    · rcases List.mem_append.mp h with h | h
      · obtain ⟨a1, a2, a3⟩ := ha a h
        refine ⟨a1, a2, ?_⟩
        rw [upd_ne a1, upd_ne (fun z => by subst z; rw [s3 _ _ a3] at hq; cases hq)]
        exact s3 _ _ a3
      · cases List.mem_singleton.mp h
        exact ⟨qL, q1, by rw [upd_ne qL, upd_same]⟩
    · rw [upd_same, List.map_append]; rfl
  · have et : t = n := by omega
    subst et
    refine .inl ⟨by rw [← en]; exact it.stops H' (S1.si.trans sm), ?_⟩
    refine done (upd Hb1 L (.lst (as.map V.ref))) H' L as (by rw [el]; exact hPn) (g1.b.trans (same_new (S1.dead nL).1)) ((S1.adopt sm nL hL an ha).setVal (i := j)) upd_same
end
end K78
/-! K78: walks: hands drawn. -/
namespace K78
open PySem PySem.Spec L2
variable {B : Bs}
structure KeptOk (m : Mn) (ks : List Tx) (t : Tx) : Prop where
  gt : Good t
  st : Suit m t
  zt : t.un.length ≤ 40
  nd : (ks.map Tx.un).Nodup
  z : ks.length ≤ 4
  gk : ∀ k ∈ ks, Good k ∧ Suit m k ∧ k.un.length ≤ 40
theorem ew_ltrs {X : Cx} {F : Fm} {ε : Env} {A : Addr} {n : Str} {p p2 p3 p4 p5 pos : Pos} {i1 i2 : Nat} {Q : PyData → Prop} (T : Told (bsOf X)) (hF : IsS A F) (h : ∀ l, Lts l → Q (S l))
    (hr : Room 3 X.A) (hε : ε[0]? = some (.val (.ref A)) := by rfl) (hN : X.N[0]? = some n := by rfl) (hv : Vis X.env.scope n := by first | exact Or.inl rfl | exact Or.inr (Or.inl rfl) | exact Or.inr (Or.inr rfl)) (hdg : (n == ("__debug__" : Str)) = false := by decide)
    (hcd : (n == ("__classdict__" : Str)) = false := by decide) (hg : Gl X "_law_one" := by rfl)
    (he : starEach (.Name n p2 :: [.List [.Constant (.str "a") i1 p3, .Constant (.str "ab") i2 p4] p5]) X.env = (false, eval (.Name n p2) X.env) :: starEach [.List [.Constant (.str "a") i1 p3, .Constant (.str "ab") i2 p4] p5] X.env := by rfl)
    (hs : starEach [.List [.Constant (.str "a") i1 p3, .Constant (.str "ab") i2 p4] p5] X.env = (false, eval (.List [.Constant (.str "a") i1 p3, .Constant (.str "ab") i2 p4] p5) X.env) :: starEach [] X.env := by rfl) (hpl : (backTo pos (starEach [.List [.Constant (.str "a") i1 p3, .Constant (.str "ab") i2 p4] p5] X.env)).any (·.1) = false := by rfl) :
    EW X F (.Call (.Name "_law_one" p) (.Name n p2 :: [.List [.Constant (.str "a") i1 p3, .Constant (.str "ab") i2 p4] p5]) [] pos) ε Q := by
  refine ew_one1 T hF (ew_lst (aw_cons (ew_tx [97] (aw_cons (ew_tx [97, 98] (aw_nil ⟨_, rfl, by simp, by decide, fun r hr' => ?_⟩))))) (hl := Nat.le_of_ble_eq_true rfl)) hr hε hN hv hdg hcd hg he hs hpl
  rcases List.mem_cons.mp hr' with rfl | q
  · exact h _ ⟨by simp, by decide, by decide⟩
  · cases List.mem_singleton.mp q; exact h _ ⟨by simp, by decide, by decide⟩
theorem ok_law_some_kept (T : Told B) (m : Mn) : Ok B 6 d_law_some_kept p_law_some_kept (spSV [S m.w, .int 4] fun r => ∃ (ks : List Tx) (t : Tx), r = .tuple [.list ((ks.map Tx.un).map S), S t.un] ∧ KeptOk m ks t) := by
  refine ok_sv (h_law_some_kept T) s_law_some_kept rfl fun c hr F A hro hF => ?_
  have nd := s_law_some_kept.nd
  refine sws_cons (sw_if (bw_cmp rfl (ew_name 1 (ew_tx Mn.any.w (op_ne_s ⟨_, rfl, fun z => ?_, fun z => sws_nil ?_⟩)))))
  · have hm : m ≠ .any := fun e => by subst e; simp at z
    refine sws_cons (sw_asg (ew_callSJ 0 (k := 5) (hr := hr) (h_law_twisted T) (g_law_twisted T) hF (aw_cons (ew_name 1 (aw_cons (ew_ltrs T hF (fun l hl => aw_nil ⟨_, ok_law_twisted T m l hl, fun r hr' => ?_⟩) (hr.mono (by decide))))))))
    obtain ⟨K, p, rfl, tw⟩ := hr'
    refine tw_tup (tws_cons (tw_name 3 (tws_cons (tw_name 4 (tws_nil ?_)))))
    refine sws_one (sw_ret (ew_tup (aw_cons (ew_slice (ew_name 3 (ow_none (ow_some (ew_name 2 ⟨_, rfl, sl_l (aw_cons (ew_name 4 (aw_nil ?_)))⟩))))))))
    rw [show ((4 : Int)) = ((4 : Nat) : Int) from rfl, cut_to, List.take_of_length_le (by rw [List.length_map]; exact tw.z)]
    have ek : (K.map wtx).map Tx.un = K := by
      rw [List.map_map]
      conv => rhs; rw [← List.map_id K]
      exact List.map_congr_left fun w _ => wtx_un w
    have sm : ∀ w : Wd, Suit m (wtx w) := fun w => wtx_suit fun e => absurd e hm
    refine ⟨K.map wtx, wtx p, by rw [ek, wtx_un], wtx_good tw.p4 tw.pne (by have := tw.pz; omega), sm p, by rw [wtx_un]; have := tw.pz; omega, by rw [ek]; exact tw.nd, by rw [List.length_map]; exact tw.z, fun k hk => ?_⟩
    obtain ⟨w, hw, rfl⟩ := List.mem_map.mp hk
    obtain ⟨a1, a2, a3⟩ := tw.k w hw
    exact ⟨wtx_good a1 a2 (by omega), sm w, by rw [wtx_un]; omega⟩
  · have hm : m = .any := by cases m <;> first | rfl | exact absurd z (by decide)
    subst hm
    refine sws_cons (sw_set 4 (ew_callSJ 0 (k := 5) (hr := hr) (h_law_path T) (g_law_path T) hF (aw_cons (ew_tx Mn.any.w (aw_cons (ew_ltrs T hF (fun l hl => aw_cons (ew_int (aw_nil ⟨_, ok_law_path T l hl, fun r hr' => ?_⟩))) (hr.mono (by decide))))))))
    obtain ⟨t, rfl, gt, st, zt⟩ := hr'
    refine sws_one (sw_ret (ew_tup (aw_cons (ew_callSJ 0 (k := 4) (hr := hr.mono (by decide)) (h_law_pieces T) (g_law_pieces T) hF (aw_cons (ew_name 4 (aw_cons (ew_name 2 (aw_nil ⟨_, ok_law_pieces T t gt st zt, fun r hr' => ?_⟩)))))))))
    obtain ⟨ks, rfl, P⟩ := hr'
    exact aw_cons (ew_name 4 (aw_nil ⟨ks, t, rfl, gt, st, by omega, P.nd, P.z, fun k hk => ⟨(P.k k hk).1, (P.k k hk).2.1, by have := (P.k k hk).2.2; omega⟩⟩))
theorem zip_set {α β : Type} : ∀ {as : List α} {bs : List β} {i : Nat} {a : α} {b : β}, as[i]? = some a → (as.zip bs).set i (a, b) = as.zip (bs.set i b)
  | [], _, _, _, _, h => by cases h
  | _ :: _, [], _, _, _, _ => rfl
  | x :: as, y :: bs, 0, a, b, h => by cases h; rfl
  | x :: as, y :: bs, i + 1, a, b, h => by
    show (x, y) :: (as.zip bs).set i (a, b) = (x, y) :: as.zip (bs.set i b)
    rw [zip_set (as := as) (bs := bs) (by exact h)]
def ssD (uss : List (List Wd)) : List (List PyData) := uss.map fun us => us.map S
theorem ok_law_hands (T : Told B) (m : Mn) : Ok B 7 d_law_hands p_law_hands (spSV [S m.w, .int 5] fun r => ∃ (ks : List Tx) (t : Tx) (uss : List (List Wd)), r = .tuple [.list (uss.map fun us => .list (us.map S)), S t.un] ∧ KeptOk m ks t ∧ uss.length ≤ 5 ∧ ∀ us ∈ uss, us.Sublist (ks.map Tx.un)) := by
  refine ok_sv (h_law_hands T) s_law_hands rfl fun c hr F A hro hF => ?_
  have nd := s_law_hands.nd
  refine sws_cons (sw_asg (ew_callSJ 0 (k := 6) (hr := hr) (h_law_some_kept T) (g_law_some_kept T) hF (aw_cons (ew_name 1 (aw_cons (ew_int (aw_nil ⟨_, ok_law_some_kept T m, fun r hr' => ?_⟩)))))))
  obtain ⟨ks, t, rfl, hk⟩ := hr'
  refine tw_tup (tws_cons (tw_name 3 (tws_cons (tw_name 4 (tws_nil ?_)))))
  have Kz : (ks.map Tx.un).length ≤ 4 := by rw [List.length_map]; exact hk.z
  generalize hK : ks.map Tx.un = K at Kz
  intro hd Hb H σ S0 D kk
  refine pss_run (pss_cons ps_sem pss_sem) ?_
  refine sem_hands 5 8 (fun n => n ≤ 5) S0 (fun n h => by omega) (iw_range1 (b_range T) (ew_take T hF (ew_bin (ew_name 2 (ew_int (op_add_i ⟨6, rfl, by decide, by decide, fun k hk => ⟨((k : Nat) : Int), rfl, by omega, by omega, k, by simp, by omega⟩⟩)))) (hr.mono (by decide)))) ?_
  intro Hb1 H1 L as asz sm1 S1 hL1
  have E0 : (hd ++ as.map fun a => (a, ([] : List PyData))) = hd ++ as.zip (ssD (List.replicate as.length [])) := by
    congr 1
    unfold ssD
    rw [List.map_replicate]
    clear S1 hL1 asz
    induction as with
    | nil => rfl
    | cons a as ih => rw [List.map_cons, List.length_cons, List.replicate_succ, List.zip_cons_cons, ih]; rfl
  rw [E0] at S1
  refine pss_run (pss_cons ps_sem pss_sem) ?_
  -- the loops
  have SF : ∀ (Hb2 H2 : Hp) (σ2 : L2.St) (uss : List (List Wd)) (s6 s7 : Sl), Same Hb1 Hb2 → SI F (hd ++ as.zip (ssD uss)) Hb2 H2 σ2 [.val (.ref A), .dat (S m.w), .dat (.int 5), .dat (.list (K.map S)), .dat (S t.un), .val (.ref L), s6, s7, .un] → uss.length = as.length → (∀ us ∈ uss, us.Sublist K) → tSemB (cx B d_law_hands n_law_hands c) (d_law_hands.body.drop 3) D σ2 H2 := by
    intro Hb2 H2 σ2 uss s6 s7 sm2 S2 lu hu
    obtain ⟨Hb3, sm3, S3, r3⟩ := SI.revealAll (by unfold ssD; rw [List.length_map, lu]) S2
    have rL : Dt Hb3 (.ref L) (.list (uss.map fun us => .list (us.map S))) := by
      have e : (ssD uss).map PyData.list = uss.map fun us => .list (us.map S) := by unfold ssD; rw [List.map_map]; rfl
      rw [e] at r3
      exact .lst (sm3 _ _ (sm2 _ _ hL1)) r3
    have S4 := S3.asDat (i := 5) rfl rL
    have W : SWs (cx B d_law_hands n_law_hands c) F (d_law_hands.body.drop 3) [.val (.ref A), .dat (S m.w), .dat (.int 5), .dat (.list (K.map S)), .dat (S t.un), .dat (.list (uss.map fun us => .list (us.map S))), s6, s7, .un] ⟨fun _ => False, fun r _ => ∃ (ks : List Tx) (t : Tx) (uss : List (List Wd)), r = .tuple [.list (uss.map fun us => .list (us.map S)), S t.un] ∧ KeptOk m ks t ∧ uss.length ≤ 5 ∧ ∀ us ∈ uss, us.Sublist (ks.map Tx.un), fun _ => False, fun _ => False⟩ :=
      sws_one (sw_ret (ew_tup (aw_cons (ew_name 5 (aw_cons (ew_name 4 (aw_nil ⟨ks, t, uss, rfl, hk, by omega, by rw [hK]; exact hu⟩)))))))
    refine W _ _ _ _ S4 D ⟨fun _ _ _ _ _ _ z => z.elim, fun _ _ _ _ _ _ z => z.elim, fun _ _ _ _ _ _ z => z.elim, fun v d Hb' H' σ' ε' b S' r z => kk.rt v d Hb' H' σ' ε' ((sm1.trans (sm2.trans sm3)).trans b) S' r z⟩
  refine ps_run (ps_for PassesOwn.never rfl pi_sem pg_sem pss_sem fun _ => rfl) ?_
  refine iw_list (ew_name 3 ⟨_, rfl, (rfl : K.map S = K.map S)⟩) _ Hb1 H1 _ S1 _ fun J ds Hb2 H2 S2 g2 it eds => ?_
  subst eds
  refine ⟨fun k n σ' H' => k + n = K.length ∧ ∃ (Hb' : Hp) (uss : List (List Wd)) (s6 s7 : Sl), Same Hb2 Hb' ∧ SI F (hd ++ as.zip (ssD uss)) Hb' H' σ' [.val (.ref A), .dat (S m.w), .dat (.int 5), .dat (.list (K.map S)), .dat (S t.un), .val (.ref L), s6, s7, .un] ∧ uss.length = as.length ∧ ∀ us ∈ uss, us.Sublist (K.take k),
    ⟨K.length, Nat.zero_add _, Hb2, List.replicate as.length [], .un, .un, Same.refl _, S2, by rw [List.length_replicate], fun us hu => by rw [List.eq_of_mem_replicate hu]; exact List.nil_sublist _⟩, fun k n σ' H' ⟨ekn, Hb3, uss, s6, s7, sm3, S3, lu, hu⟩ => ?_⟩
  by_cases hkn : k < K.length
  · refine .inr ⟨it.goes k H' (by rw [List.length_map]; exact hkn) (sm3.trans S3.si), fun σ4 H4 => ∃ (Hb' : Hp) (uss : List (List Wd)) (s6 s7 : Sl), Same Hb2 Hb' ∧ SI F (hd ++ as.zip (ssD uss)) Hb' H4 σ4 [.val (.ref A), .dat (S m.w), .dat (.int 5), .dat (.list (K.map S)), .dat (S t.un), .val (.ref L), s6, s7, .un] ∧ uss.length = as.length ∧ ∀ us ∈ uss, us.Sublist (K.take (k + 1)),
      fun σ4 H4 z => ⟨n - 1, by omega, by omega, z⟩, fun v H4 hy => ?_⟩
    obtain ⟨Hb4, d, g4, ed, rd⟩ := it.yields k H' v H4 (by rw [List.length_map]; exact hkn) (sm3.trans S3.si) hy Hb3 sm3 S3.si
    rw [List.getElem?_map, List.getElem?_eq_getElem hkn] at ed
    cases ed
    have tk : K.take (k + 1) = K.take k ++ [K[k]] := by rw [List.take_add_one, List.getElem?_eq_getElem hkn]; rfl
    generalize K[k] = w at rd tk
    refine (tw_name (X := cx B d_law_hands n_law_hands c) 6 (QE := fun ε' => ε' = [.val (.ref A), .dat (S m.w), .dat (.int 5), .dat (.list (K.map S)), .dat (S t.un), .val (.ref L), .dat (S w), s7, .un]) rfl) _ Hb4 H4 σ' v (S3.grow g4) rd _ fun Hb5 H5 σ5 ε5 S5 g5 e5 => ?_
    subst e5
    have sm5 : Same Hb2 Hb5 := (sm3.trans g4.b).trans g5.b
    have hL5 : Hb5 L = some (.lst (as.map V.ref)) := sm5 _ _ (g2.b _ _ hL1)
    refine pss_run (pss_one ps_sem) (ps_run (ps_for PassesOwn.never rfl pi_sem pg_sem pss_sem fun _ => rfl) (pi_run (pi_list (pe_var (i := 5) rfl (by first | exact Or.inl rfl | exact Or.inr (Or.inl rfl) | exact Or.inr (Or.inr rfl)))) ⟨_, val_at S5 rfl, L, rfl, ⟨_, SqL.of (S5.si _ _ hL5)⟩, ?_⟩))
    have wl := walk_list (K := (cx B d_law_hands n_law_hands c).K) (a := L) (xs := as.map V.ref)
    refine ⟨fun i q σ6 H6 => i + q = as.length ∧ ∃ (Hb' : Hp) (uss : List (List Wd)) (s7 : Sl), Same Hb5 Hb' ∧ SI F (hd ++ as.zip (ssD uss)) Hb' H6 σ6 [.val (.ref A), .dat (S m.w), .dat (.int 5), .dat (.list (K.map S)), .dat (S t.un), .val (.ref L), .dat (S w), s7, .un] ∧ uss.length = as.length ∧ ∀ (j : Nat) (us : List Wd), uss[j]? = some us → us.Sublist (if j < i then K.take (k + 1) else K.take k),
      ⟨as.length, Nat.zero_add _, Hb5, uss, s7, Same.refl _, S5, lu, fun j us hj => by rw [if_neg (Nat.not_lt_zero j)]; exact hu us (List.mem_of_getElem? hj)⟩, fun i q σ6 H6 ⟨eiq, Hb6, uss6, s76, sm6, S6, lu6, hu6⟩ => ?_⟩
    have hL6 := S6.si _ _ (sm6 _ _ hL5)
    by_cases hi : i < as.length
    · refine .inr ⟨wl.goes i H6 (by rw [List.length_map]; exact hi) (SqL.of hL6), fun σ7 H7 => ∃ (Hb' : Hp) (uss : List (List Wd)) (s7 : Sl), Same Hb5 Hb' ∧ SI F (hd ++ as.zip (ssD uss)) Hb' H7 σ7 [.val (.ref A), .dat (S m.w), .dat (.int 5), .dat (.list (K.map S)), .dat (S t.un), .val (.ref L), .dat (S w), s7, .un] ∧ uss.length = as.length ∧ ∀ (j : Nat) (us : List Wd), uss[j]? = some us → us.Sublist (if j < i + 1 then K.take (k + 1) else K.take k),
        fun σ7 H7 z => ⟨q - 1, by omega, by omega, z⟩, fun x H7 hy7 => ?_⟩
      obtain ⟨rfl, ex⟩ := wl.yields i H6 x H7 (by rw [List.length_map]; exact hi) (SqL.of hL6) hy7
      rw [List.getElem?_map, List.getElem?_eq_getElem hi] at ex
      cases ex
      have ea : as[i]? = some as[i] := List.getElem?_eq_getElem hi
      generalize as[i] = a at ea ⊢
      have S7 := S6.setVal (i := 7) (x := V.ref a)
      refine pg_run (pg_name (i := 7) nd rfl (.inl rfl) (by first | exact .inl rfl | exact .inr rfl)) ?_
      -- what a turn leaves
      have hui : i < uss6.length := by rw [lu6]; exact hi
      have eu : uss6[i]? = some uss6[i] := List.getElem?_eq_getElem hui
      generalize uss6[i] = us0 at eu
      have sub0 : us0.Sublist (K.take k) := by have := hu6 i us0 eu; rwa [if_neg (Nat.lt_irrefl i)] at this
      have e0 : (hd ++ as.zip (ssD uss6))[hd.length + i]? = some (a, us0.map S) := by
        rw [List.getElem?_append_right (by omega), show hd.length + i - hd.length = i by omega]
        exact List.getElem?_zip_eq_some.mpr ⟨ea, by unfold ssD; rw [List.getElem?_map, eu]; rfl⟩
      refine pss_run (pss_one ps_sem) (ps_run (ps_if pt_sem pss_sem pss_sem) ?_)
      refine (bw_cmp (X := cx B d_law_hands n_law_hands c) (QB := fun _ => True) rfl (ew_take T hF (ew_int ⟨3, rfl, by decide, by decide, fun k hk => ew_int (op_eq_i ⟨_, rfl, trivial⟩)⟩) (hr.mono (by decide)))) _ Hb6 H7 _ S7 _ fun b Hb8 H8 S8 g8 _ => ?_
      have sm8 : Same Hb5 Hb8 := sm6.trans g8.b
      cases b with
      | false =>
        refine iteF (pss_run pss_nil ⟨Hb8, uss6, .val (.ref a), sm8, S8, lu6, fun j us hj => ?_⟩)
        have := hu6 j us hj
        by_cases c1 : j < i
        · rw [if_pos c1] at this; rw [if_pos (by omega)]; exact this
        · rw [if_neg c1] at this
          by_cases c2 : j < i + 1
          · rw [if_pos c2, tk]; exact this.trans (List.sublist_append_left _ _)
          · rw [if_neg c2]; exact this
      | true =>
        obtain ⟨vs8, ha8, _⟩ := S8.hiddenAt e0
        refine iteT (pss_run (pss_one ps_sem) (ps_run (ps_expr (pe_bm PySem.F.plainAttrs_list PySem.F.slot_list_append PySem.F.type_list_append mt_append (pe_var (i := 7) rfl (by first | exact Or.inl rfl | exact Or.inr (Or.inl rfl) | exact Or.inr (Or.inr rfl))) (pa_cons pe_sem pa_nil rfl) rfl rfl rfl rfl rfl) rfl) ⟨_, val_at S8 rfl, .inl ⟨rfl, _, SqL.of ha8⟩, ?_⟩))
        refine (ew_name (X := cx B d_law_hands n_law_hands c) 6 (Q := fun d => d = S w) rfl) _ Hb8 H8 _ S8 _ fun v9 d9 Hb9 H9 S9 g9 r9 e9 => ?_
        subst e9
        obtain ⟨vs9, ha9, r10, _, _, _, up9⟩ := S9.hiddenAt e0
        have u0z : us0.length ≤ 4 := by have := sub0.length_le; rw [List.length_take] at this; omega
        refine ⟨a, vs9, v9, rfl, rfl, ha9, ?_, ?_⟩
        · rw [dta_len r10, List.length_map]; exact Nat.lt_of_le_of_lt u0z (by decide)
        have S10 := up9 (vs9 ++ [v9]) (us0.map S ++ [S w]) (dta_snoc r10 r9)
        have e1 : (hd ++ as.zip (ssD uss6)).set (hd.length + i) (a, us0.map S ++ [S w]) = hd ++ as.zip (ssD (uss6.set i (us0 ++ [w]))) := by
          rw [List.set_append_right _ _ (by omega), show hd.length + i - hd.length = i by omega, zip_set ea]
          unfold ssD
          rw [List.map_set, List.map_append]; rfl
        rw [e1] at S10
        refine ⟨Hb9, uss6.set i (us0 ++ [w]), .val (.ref a), sm8.trans g9.b, S10, by rw [List.length_set]; exact lu6, fun j us hj => ?_⟩
        by_cases c : i = j
        · subst c
          rw [List.getElem?_set_self hui] at hj
          cases hj
          rw [if_pos (by omega), tk]
          exact List.Sublist.append sub0 (List.Sublist.refl _)
        · rw [List.getElem?_set_ne c] at hj
          have := hu6 j us hj
          by_cases c1 : j < i
          · rw [if_pos c1] at this; rw [if_pos (by omega)]; exact this
          · rw [if_neg c1] at this; rw [if_neg (by omega)]; exact this
    · have ei : i = as.length := by omega
      subst ei
      refine .inl ⟨?_, Hb6, uss6, .dat (S w), s76, sm5.trans sm6, S6, lu6, fun us hus => ?_⟩
      · have := wl.stops H6 (SqL.of hL6)
        rw [List.length_map] at this; exact this
      · obtain ⟨j, hj⟩ := List.getElem?_of_mem hus
        have := hu6 j us hj
        have hl := (List.getElem?_eq_some_iff.mp hj).1
        rw [if_pos (by omega)] at this
        exact this
  · have ek : k = K.length := by omega
    subst ek
    rw [List.take_length] at hu
    refine .inl ⟨?_, SF Hb3 H' σ' uss s6 s7 (g2.b.trans sm3) S3 lu hu⟩
    have := it.stops H' (sm3.trans S3.si)
    rw [List.length_map] at this; exact this
end K78
/-! K78: plain: the law's passes; three names at once, get, a dict returned. -/
namespace K78
open PySem PySem.Spec L2
/-! ### passes -/
section
variable {br : List (Nat × Nat × Nat)} {bl : List (Nat × Nat)} {L : Nat}
abbrev Tb := List (Nat × Cost)
def Kn (kvs : Tb) (k : Nat) : Prop := (valG kvs k).isSome = true
structure RI (br : List (Nat × Nat × Nat)) (L : Nat) (kvs : Tb) : Prop where
  nd : (kvs.map (·.1)).Nodup
  z : Kn kvs 0
  r : ∀ k, Kn kvs k → k ≤ L ∧ Rch br k
def LStep (kvs : Tb) (here there : Nat) (kvs' : Tb) : Prop := (¬ Kn kvs here ∧ kvs' = kvs) ∨ (Kn kvs here ∧ ∃ c, kvs' = putG kvs there c)
theorem kn_put {kvs : Tb} {there k : Nat} {c : Cost} : Kn (putG kvs there c) k ↔ k = there ∨ Kn kvs k := by
  unfold Kn
  rw [valG_put]
  by_cases h : k = there
  · rw [if_pos h]; exact ⟨fun _ => .inl h, fun _ => rfl⟩
  · rw [if_neg h]; exact ⟨.inr, fun z => z.resolve_left h⟩
/-- what holds within a pass -/
structure PI (br : List (Nat × Nat × Nat)) (L : Nat) (kvs0 : Tb) (dn : List (Nat × Nat)) (kvs : Tb) : Prop where
  i : RI br L kvs
  g : ∀ k, Kn kvs0 k → Kn kvs k
  d : ∀ p ∈ dn, Kn kvs0 p.1 → Kn kvs p.2
theorem PI.step {kvs0 kvs kvs' : Tb} {dn : List (Nat × Nat)} {h t : Nat} (I : PI br L kvs0 dn kvs) (hL : t ≤ L) (hr : Rch br h → Rch br t) (s : LStep kvs h t kvs') : PI br L kvs0 (dn ++ [(h, t)]) kvs' := by
  rcases s with ⟨no, rfl⟩ | ⟨yes, c, rfl⟩
  · refine ⟨I.i, I.g, fun p hp hk => ?_⟩
    rcases List.mem_append.mp hp with q | q
    · exact I.d p q hk
    · cases List.mem_singleton.mp q; exact absurd (I.g _ hk) no
  · refine ⟨⟨keys_put I.i.nd, kn_put.mpr (.inr I.i.z), fun k hk => ?_⟩, fun k hk => kn_put.mpr (.inr (I.g k hk)), fun p hp hk => ?_⟩
    · rcases kn_put.mp hk with rfl | q
      · exact ⟨hL, hr (I.i.r h yes).2⟩
      · exact I.i.r k q
    · rcases List.mem_append.mp hp with q | q
      · exact kn_put.mpr (.inr (I.d p q hk))
      · cases List.mem_singleton.mp q; exact kn_put.mpr (.inl rfl)
def Clos (br : List (Nat × Nat × Nat)) (kvs : Tb) : Prop := ∀ k, Rch br k → Kn kvs k
def TI (br : List (Nat × Nat × Nat)) (L t : Nat) (kvs : Tb) : Prop := RI br L kvs ∧ (Clos br kvs ∨ t < kvs.length)
theorem kn_mem {kvs : Tb} {k : Nat} : Kn kvs k ↔ k ∈ kvs.map (·.1) := valG_some_iff kvs k
theorem RI.len {kvs : Tb} (I : RI br L kvs) : kvs.length ≤ L + 1 := by
  have := nodup_len (ys := kvs.map (·.1)) (ws := List.range (L + 1)) I.nd fun k hk => List.mem_range.mpr (by have := (I.r k (kn_mem.mpr hk)).1; omega)
  rw [List.length_map, List.length_range] at this; exact this
def both (bl : List (Nat × Nat)) : List (Nat × Nat) := bl.flatMap fun b => [(b.1, b.2), (b.2, b.1)]
theorem pass_done {kvs0 kvs : Tb} {t : Nat} (hb : ∀ i j n, (n, i, j) ∈ br → (i, j) ∈ bl) (T0 : TI br L t kvs0) (I : PI br L kvs0 (both bl) kvs) : TI br L (t + 1) kvs := by
  refine ⟨I.i, ?_⟩
  rcases T0.2 with c | c
  · exact .inl fun k hk => I.g k (c k hk)
  have sub : ∀ k ∈ kvs0.map (·.1), k ∈ kvs.map (·.1) := fun k hk => kn_mem.mp (I.g k (kn_mem.mpr hk))
  have l := nodup_len T0.1.nd sub
  rw [List.length_map, List.length_map] at l
  by_cases e : kvs.length = kvs0.length
  · refine .inl fun k hk => ?_
    have back : ∀ k, Kn kvs k → Kn kvs0 k := fun k hk => kn_mem.mpr (subset_of_len T0.1.nd sub (by rw [List.length_map, List.length_map]; omega) k (kn_mem.mp hk))
    induction hk with
    | zero => exact I.i.z
    | @on b hb' _ ih => exact I.d (b.2.1, b.2.2) (List.mem_flatMap.mpr ⟨(b.2.1, b.2.2), hb _ _ b.1 hb', by simp⟩) (back _ ih)
    | @back b hb' _ ih => exact I.d (b.2.2, b.2.1) (List.mem_flatMap.mpr ⟨(b.2.1, b.2.2), hb _ _ b.1 hb', by simp⟩) (back _ ih)
  · exact .inr (by omega)
theorem pass_all {kvs : Tb} {t : Nat} (T0 : TI br L t kvs) (ht : L + 1 ≤ t) : ∀ k, Kn kvs k ↔ Rch br k := fun k =>
  ⟨fun h => (T0.1.r k h).2, fun h => by
    rcases T0.2 with c | c
    · exact c k h
    · have := T0.1.len; omega⟩
end
section
variable {X : Cx} {F : Fm} {ε : Env} {R : ER} {a b e c o k f : Expr} {es : List Expr} {pos p apos cpos pos' : Pos} {put : Fv → Env} {Q : PyData → Prop}
/-- three names: data, a new thing, [] -/
theorem sw_par3 (i j l : Nat) {x y z : Str} {px py pz pt pt2 pc : Pos} {kt k2 : Nat} (h : EW X F a ε fun d1 => NW X F b ε fun x => R.nx (((ε.set i (.dat d1)).set j (.fv x)).set l (.lst []))) (hij : i ≠ j := by decide) (hil : i ≠ l := by decide) (hjl : j ≠ l := by decide) (hc : X.calm = true := by rfl) (hN : X.N.Nodup := by first | assumption | decide +kernel) (hi : X.N[i]? = some x := by rfl) (hj : X.N[j]? = some y := by rfl) (hl : X.N[l]? = some z := by rfl)
    (hx : X.env.scope.names.lookup x = some .local := by rfl) (hy : X.env.scope.names.lookup y = some .local := by rfl) (hz : X.env.scope.names.lookup z = some .local := by rfl) (hw : swappedStores [.Tuple [.Name x px, .Name y py, .Name z pz] kt pt] (.Tuple [a, b, .List [] pc] k2 pt2) X.env = pure (some [x, y, z]) := by rfl)
    (hs : swapsWithSole [.Tuple [.Name x px, .Name y py, .Name z pz] kt pt] (.Tuple [a, b, .List [] pc] k2 pt2) pos.line X.env = pure false := by rfl) (s1 : starEach [a, b, .List [] pc] X.env = (false, eval a X.env) :: starEach [b, .List [] pc] X.env := by rfl) (s2 : starEach [b, .List [] pc] X.env = (false, eval b X.env) :: starEach [.List [] pc] X.env := by rfl) (s3 : starEach [.List [] pc] X.env = (false, eval (.List [] pc) X.env) :: starEach [] X.env := by rfl) :
    SW X F (.Assign [.Tuple [.Name x px, .Name y py, .Name z pz] kt pt] (.Tuple [a, b, .List [] pc] k2 pt2) pos) ε R := fun hd Hb H σ S D kk => by
  refine ps_run (ps_par3 hc hN hi hj hl hij hil hjl hx hy hz (pa_cons pe_sem (pa_cons pe_sem (pa_cons (pe_lst pa_nil) pa_nil s3) s2) s1) hw hs) ?_
  refine h hd Hb H σ S _ fun v1 d1 Hb1 H1 S1 g1 r1 z1 => z1 hd Hb1 H1 σ S1 _ fun ad od xd Hb2 H2 S2 g2 nd od1 q => ?_
  refine ⟨Nat.zero_le _, fun pl np => ?_⟩
  refine ⟨_, _, _, rfl, ?_⟩
  have r2 := dt_mono g2.b r1
  exact kk.nx _ _ _ _ (g1.b.trans g2.b) (((S2.setDat (i := i) r2).setNew (i := j) nd od1).setNew (i := l) (o := .lst []) (x := .lst []) np ⟨[], rfl, .nil⟩) q
/-- d.get(k, f) -/
theorem ew_dgetD {kvs : List (Key × PyData)} (hr : RefW X F o ε (.dK kvs) put) (hu : X.A.units + 1 < cLine) (h : EW X F e ε fun dk => EW X F f ε fun df => ∃ key, dk = keyD key ∧ Q ((valG kvs key).getD df)) (m : M2 X o "get" apos e f cpos := by exact ⟨rfl, rfl, rfl, rfl⟩) : EW X F (.Call (.Attribute o "get" apos) [e, f] [] cpos) ε Q := fun hd Hb H σ S Q' q => by
  refine pe_run (pe_dget2 hu pe_sem pe_sem pe_sem m) (hr hd Hb H σ S _ fun l ra => ?_)
  obtain ⟨ob, hl, ws, rfl, rk⟩ := ra.ob
  refine ⟨l, rfl, .inl ⟨ws, .inl hl⟩, h hd Hb H σ S _ fun v d Hb1 H1 S1 g1 r1 z1 => z1 hd Hb1 H1 σ S1 _ fun w df Hb2 H2 S2 g2 r2 ⟨key, ed, qd⟩ => ?_⟩
  subst ed
  have hl2 := gr_stay g2 ra.nj (gr_stay g1 ra.nj hl)
  refine ⟨valV ws key, by rw [keyV r1]; exact DGet.k hl2, ?_⟩
  rcases rk.val key with ⟨x, y⟩ | ⟨w2, d2, x, y, rd⟩
  · rw [x]; rw [y] at qd; exact q _ _ _ _ S2 (g1.transM g2) r2 qd
  · rw [x]; rw [y] at qd; exact q _ _ _ _ S2 (g1.transM g2) (dt_mono (g1.b.trans g2.b) rd) qd
end
/-! ### a new dict returned -/
/-- statements, whatever the ends -/
def SD (X : Cx) (F : Fm) (st : List Stmt) (ε : Env) (D : Ends) : Prop := ∀ hd Hb H σ, SI F hd Hb H σ ε → tSemB X st D σ H
theorem sd_cons {X : Cx} {F : Fm} {st : Stmt} {rest : List Stmt} {ε : Env} {D : Ends} (M : Env → Prop) (h : SW X F st ε ⟨M, fun _ _ => False, fun _ => False, fun _ => False⟩) (k : ∀ ε', M ε' → SD X F rest ε' D) : SD X F (st :: rest) ε D := fun hd Hb H σ S =>
  pss_run (pss_cons ps_sem pss_sem) (h hd Hb H σ S _ ⟨fun Hb' H' σ' ε' _ S' z => k ε' z hd Hb' H' σ' S', fun _ _ _ _ _ _ z => z.elim, fun _ _ _ _ _ _ z => z.elim, fun _ _ _ _ _ _ _ _ _ z => z.elim⟩)
def spN (args : List PyData) (P : List (Key × PyData) → Prop) : Sp := fun vs H Q _ => ∃ Hb, Same Hb H ∧ DtAll Hb vs args ∧ ∀ a ws kvs Hb' H', Gr0 Hb H Hb' H' → H' a = some (.dK ws) → KvOk Hb' ws kvs → P kvs → Q (.ref a) H'
theorem ok_n {B : Bs} {k : Nat} {d : He.DefD} {N ps : List Str} {args : List PyData} {P : List (Key × PyData) → Prop} (h : ∃ fd, Has B d ps fd) (S : FnScope N ps d.scope) (hlen : args.length = ps.length)
    (body : ∀ c : Fr, Room k (cx B d N c).A → ∀ F : Fm, ¬ F.ro → ∀ D : Ends, (∀ hd Hb H σ ε i kvs, SI F hd Hb H σ ε → i ≠ 0 → ε[i]? = some (.fv (.dK kvs)) → P kvs → ∃ a, σ[i]? = some (some (.ref a)) ∧ D.rt (.ref a) H) → SD (cx B d N c) F d.body (env0 N args) D) : Ok B (k + 1) d ps (spN args P) := by
  refine ok_of h S (fun vs H Q E ⟨Hb, s, r, _⟩ => (dta_len r).trans hlen) fun c hr H vs Q ⟨Hb, s, r, q⟩ => ?_
  refine body c hr (F0 Hb H) (fun z => z) _ (fun hd Hb' H' σ ε i kvs S' h0 hε hP => ?_) [] Hb H (L2.start N vs) (si_dat r (Gr.refl s) trivial (by rw [dta_len r, hlen]; exact scope_len S))
  obtain ⟨ow, h1, h2⟩ := S'.ow
  obtain ⟨u, eu, a, ws, rfl, oa, ha, hk⟩ := h2 i _ hε
  exact ⟨a, getD_of eu, q a ws kvs Hb' H' S'.gr ha hk hP⟩
/-- k in f(..), the answer a new dict -/
theorem ew_inN {X : Cx} {F : Fm} {ε : Env} {x : Str} {k e : Expr} {es : List Expr} {p pos cpos : Pos} {Q : PyData → Prop} {n : Nat} {d' : He.DefD} {ps : List Str} (h : ∃ fd, Has (bsOf X) d' ps fd) (hm : X.mg x = some (.ref (He.fAd X.K d'.at_))) (hu : X.A.units + 1 < cLine)
    (ha : EW X F k ε fun dk => AW X F (e :: es) ε fun ds => ∃ (P : List (Key × PyData) → Prop) (key : Key), dk = keyD key ∧ Ok (bsOf X) n d' ps (spN ds P) ∧ ∀ kvs, P kvs → Q (.bool (valG kvs key).isSome)) (hr : Room n X.A) (hg : Gl X x := by rfl) (hdb : (x == ("__debug__" : Str)) = false := by decide)
    (he : starEach (e :: es) X.env = (false, eval e X.env) :: starEach es X.env := by rfl) (hpl : (backTo cpos (starEach es X.env)).any (·.1) = false := by rfl) (hmm : behindInMarks .In (.Call (.Name x p) (e :: es) [] cpos) = false := by rfl) : EW X F (.Compare k [.In] [.Call (.Name x p) (e :: es) [] cpos] pos) ε Q := fun hd Hb H σ S Q' q => by
  obtain ⟨⟨fd, hfb⟩, ok⟩ := Ok.join (B := bsOf X) (k := n) (sp := fun vs H Q E => ∃ ds P, Ok (bsOf X) n d' ps (spN ds P) ∧ spN ds P vs H Q E) h fun vs H Q E ⟨ds, P, o, z⟩ => ⟨_, o, z⟩
  have ok := ok fd hfb
  obtain ⟨hf, hb⟩ := hfb
  refine pe_run (pe_cmp (pc_din hu pe_sem (pe_call (X := X) (E := fun _ _ _ => True) ok hr hg hm hf.kp hb .nil pass0 pa_sem hdb he hpl)) hmm) (ha hd Hb H σ S _ fun v dk Hb1 H1 S1 g1 r1 z1 => z1 hd Hb1 H1 σ S1 _ fun vs ds Hb2 H2 S2 g2 r2 l2 ⟨P, key, ek, o, qq⟩ => ?_)
  rw [List.append_nil]
  subst ek
  refine ⟨ds, P, o, Hb2, S2.si, r2, fun a ws kvs Hb3 H3 g3 ha3 hk3 hP => ?_⟩
  obtain ⟨u, hgt, hu'⟩ := dget_any (Hb := Hb3) (x := .dK kvs) (b := (valG kvs key).isSome) ha3 ⟨ws, rfl, hk3⟩ (dt_mono g3.i (dt_mono g3.b (dt_mono g2.b r1))) (.inl ⟨kvs, key, rfl, rfl, rfl⟩)
  · exact ⟨a, u, rfl, hgt, by rw [hu']; exact q _ _ _ _ (S2.grow g3) ((g1.transM g2).trans0 g3) (.bl _) (qq kvs hP)⟩
end K78
/-! K78: walks: the places reached. -/
namespace K78
open PySem PySem.Spec L2
variable {B : Bs}
def enc2 (b : Nat × Nat) : PyData := .tuple [.int (b.1 : Nat), .int (b.2 : Nat)]
def spotL (t k : Tx) : List (Nat × Nat) := (spots t k).map fun i => (i, i + k.ls.length)
def brL (t : Tx) (ks : List Tx) : List (Nat × Nat) := ks.flatMap (spotL t)
theorem brL_mem {t : Tx} {ks : List Tx} {i j : Nat} : (i, j) ∈ brL t ks ↔ ∃ n, (n, i, j) ∈ brs t ks := by
  unfold brL brs spotL
  rw [List.mem_flatMap]
  constructor
  · rintro ⟨k, hk, h⟩
    obtain ⟨x, hx, e⟩ := List.mem_map.mp h
    cases e
    obtain ⟨n, hn⟩ := List.getElem?_of_mem hk
    exact ⟨n, List.mem_flatMap.mpr ⟨(k, n), List.mem_zipIdx_iff_getElem?.mpr hn, List.mem_map.mpr ⟨i, hx, rfl⟩⟩⟩
  · rintro ⟨n, h⟩
    obtain ⟨p, hp, h⟩ := List.mem_flatMap.mp h
    obtain ⟨x, hx, e⟩ := List.mem_map.mp h
    cases e
    exact ⟨p.1, List.mem_of_getElem? (zipIdx_at hp), List.mem_map.mpr ⟨i, hx, rfl⟩⟩
def encCs1 (kvs : Tb) : List (Key × PyData) := kvs.map fun p => (encK p.1, encCost p.2)
theorem val_cs (kvs : Tb) (k : Nat) : valG (encCs1 kvs) (encK k) = (valG kvs k).map encCost := valG_enc encK encCost encK_inj k kvs
theorem put_cs (kvs : Tb) (k : Nat) (c : Cost) : putG (encCs1 kvs) (encK k) (encCost c) = encCs1 (putG kvs k c) := putG_enc encK encCost encK_inj k c kvs
theorem isSome_map {α β : Type} (f : α → β) (o : Option α) : (o.map f).isSome = o.isSome := by cases o <;> rfl
theorem ok_law_reached (T : Told B) (t : Tx) (ks : List Tx) (ht : Good t) (hk : ∀ k ∈ ks, Good k) (hz : ks.length ≤ 20) : Ok B 3 d_law_reached p_law_reached (spN [S t.un, .list ((ks.map Tx.un).map S)] fun kvs => ∀ k : Nat, (valG kvs (encK k)).isSome = true ↔ Rch (brs t ks) k) := by
  refine ok_n (h_law_reached T) s_law_reached rfl fun c hr F hro D hD => ?_
  have nd := s_law_reached.nd
  have hu : (cx B d_law_reached n_law_reached c).A.units + 1 < cLine := by have := hr.units; omega
  have ltl := ht.ls_len
  refine sd_cons (fun ε => ε = [.dat (S t.un), .dat (.list ((ks.map Tx.un).map S)), .dat (.int (t.ls.length : Nat)), .fv (.dK (encCs1 [(0, (0, 0))])), .lst [], .un, .un, .un, .un, .un, .un, .un, .un, .un]) ?_ ?_
  · refine sw_par3 2 3 4 (ew_len (b_len T) (ew_ix (ew_lread T (ew_name 0 ⟨t, rfl, ht, ew_int (ix_t (d := .list (sing t.ls)) rfl (.inl ⟨sing t.ls, .inl rfl, nw_disp00 ?_⟩))⟩) (hr.mono (by decide)))))
    rw [List.length_map]; rfl
  rintro ε rfl
  refine sd_cons (fun ε => ∃ s5 s6 s8 : Sl, ε = [.dat (S t.un), .dat (.list ((ks.map Tx.un).map S)), .dat (.int (t.ls.length : Nat)), .fv (.dK (encCs1 [(0, (0, 0))])), .lst ((brL t ks).map enc2), s5, s6, .un, .un, .un, .un, .un, .un, .un]) ?_ ?_
  · refine sw_forM ks (fun k => S k.un) (fun i ε => ((ks.take i).flatMap (spotL t)).length ≤ 101 * i ∧ ∃ s5 s6 : Sl, ε = [.dat (S t.un), .dat (.list ((ks.map Tx.un).map S)), .dat (.int (t.ls.length : Nat)), .fv (.dK (encCs1 [(0, (0, 0))])), .lst (((ks.take i).flatMap (spotL t)).map enc2), s5, s6, .un, .un, .un, .un, .un, .un, .un]) (iw_list (ew_name 1 ⟨(ks.map Tx.un).map S, rfl, by rw [List.map_map]; rfl⟩)) ⟨Nat.le_refl _, _, _, rfl⟩ ?_ ?_
    · rintro i k ε' hki ⟨hl, s5, s6, rfl⟩
      have hi : i < ks.length := (List.getElem?_eq_some_iff.mp hki).1
      have hkp := hk k (List.mem_of_getElem? hki)
      have lkl := hkp.ls_len
      have nxt := flat_take (spotL t) hki
      have hsp := spots_len t k
      revert nxt hl
      generalize (ks.take i).flatMap (spotL t) = acc
      intro hl nxt
      refine tw_name 5 (sws_cons (sw_set 6 (ew_len (b_len T) (ew_ix (ew_lread T (ew_name 5 ⟨k, rfl, hkp, ew_int (ix_t (d := .list (sing k.ls)) rfl (.inl ⟨sing k.ls, .inl rfl, ?_⟩))⟩) (hr.mono (by decide)))))))
      rw [List.length_map]
      refine sws_one (sw_extend 4 rfl ?_)
      refine ew_lct [("_law_i", 8)] 8 (List.range (t.ls.length + 1 - k.ls.length)) (fun i => .int (i : Nat)) (fun i => enc2 (i, i + k.ls.length)) (fitB t k) ?_
      refine iw_range1 (b_range T) (ew_bin (ew_bin (ew_name 2 (ew_name 6 (op_sub_i (ew_int (op_add_i ⟨((t.ls.length : Nat) : Int) - ((k.ls.length : Nat) : Int) + 1, rfl, by omega, by omega, ?_, ?_, fun x hx s1 H1 C1 cl1 fp1 => ?_, ?_⟩)))))))
      · rw [show (((t.ls.length : Nat) : Int) - ((k.ls.length : Nat) : Int) + 1).toNat = t.ls.length + 1 - k.ls.length by omega]
      · rw [List.length_range]; omega
      · have hx := List.mem_range.mp hx
        refine bw_val (ew_callJ (k := 2) (hr := hr) (h_law_fits T) (g_law_fits T) (aw_cons (ew_name 0 (aw_cons (ew_name 8 (aw_cons (ew_name 5 (aw_nil ⟨_, ok_law_fits T t k ht hkp x (by omega), fun r er => ⟨_, er, rfl, fun _ s3 H3 C3 cl3 fp3 => ?_⟩⟩))))))))
        refine ew_tup (aw_cons (ew_name 8 (aw_cons (ew_bin (ew_name 8 (ew_name 6 (op_add_i (aw_nil ?_))))))))
        unfold enc2; simp
      · refine ⟨_, rfl, ?_, ?_⟩
        · show _ + ((spots t k).map _).length ≤ _
          rw [List.length_map, List.length_map]; omega
        · refine ⟨?_, .dat (S k.un), .dat (.int (k.ls.length : Nat)), ?_⟩
          · rw [nxt, List.length_append]; unfold spotL; rw [List.length_map]; omega
          · rw [nxt, List.map_append, show (spotL t k).map enc2 = (spots t k).map (fun i => enc2 (i, i + k.ls.length)) by unfold spotL; rw [List.map_map]; rfl]; rfl
    · rintro ε' ⟨_, s5, s6, rfl⟩
      rw [List.take_length]
      exact ⟨s5, s6, .un, rfl⟩
  rintro ε ⟨s5, s6, _, rfl⟩
  have hmem : ∀ {i j : Nat}, (i, j) ∈ brL t ks ↔ ∃ n, (n, i, j) ∈ brs t ks := brL_mem
  have hle := brs_le (t := t) (ks := ks)
  generalize hbr : brs t ks = br at hmem hle
  generalize brL t ks = bl at hmem ⊢
  have hL2 : ∀ b ∈ bl, (b.1 ≤ t.ls.length ∧ b.2 ≤ t.ls.length) ∧ (Rch br b.1 → Rch br b.2) ∧ (Rch br b.2 → Rch br b.1) := fun b hb => by
    obtain ⟨n, hn⟩ := hmem.mp hb
    exact ⟨hle _ hn, fun h => .on hn h, fun h => .back hn h⟩
  refine sd_cons (fun ε => ∃ kvs : Tb, TI br t.ls.length (2 * t.ls.length + 2) kvs ∧ ε[3]? = some (.fv (.dK (encCs1 kvs)))) ?_ ?_
  · refine sw_freeze 4 ?_
    refine sw_forM (List.range (2 * t.ls.length + 2)) (fun i => .int (i : Nat)) (fun i ε => ∃ (kvs : Tb) (s7 s8 s9 s10 s11 s12 s13 : Sl), TI br t.ls.length i kvs ∧ ε = [.dat (S t.un), .dat (.list ((ks.map Tx.un).map S)), .dat (.int (t.ls.length : Nat)), .fv (.dK (encCs1 kvs)), .dat (.list (bl.map enc2)), s5, s6, s7, s8, s9, s10, s11, s12, s13])
      ?_ ⟨[(0, (0, 0))], .un, .un, .un, .un, .un, .un, .un, ⟨⟨by simp, rfl, fun k hk => ?_⟩, .inr (by simp)⟩, rfl⟩ ?_ ?_
    · refine iw_range1 (b_range T) (ew_bin (ew_bin (ew_int (ew_name 2 (op_mul_i (i := 2) (.inl (by omega)) (ew_int (op_add_i ⟨2 * ((t.ls.length : Nat) : Int) + 2, rfl, by omega, by omega, ?_⟩)))))))
      rw [show (2 * ((t.ls.length : Nat) : Int) + 2).toNat = 2 * t.ls.length + 2 by omega]
    · have : k = 0 := by
        unfold Kn at hk
        rw [valG_cons] at hk
        by_cases h : (0 : Nat) = k
        · exact h.symm
        · have h' : ¬ ((0, ((0 : Nat), (0 : Nat))) : Nat × Cost).1 = k := h
          rw [if_neg h'] at hk; cases hk
      subst this; exact ⟨Nat.zero_le _, .zero⟩
    · rintro i x ε' hx ⟨kvs0, s7, s8, s9, s10, s11, s12, s13, T0, rfl⟩
      refine tw_name 7 (sws_one (sw_forM bl enc2 (fun j ε => ∃ (kvs : Tb) (s8 s9 s10 s11 s12 s13 : Sl), PI br t.ls.length kvs0 (both (bl.take j)) kvs ∧ ε = [.dat (S t.un), .dat (.list ((ks.map Tx.un).map S)), .dat (.int (t.ls.length : Nat)), .fv (.dK (encCs1 kvs)), .dat (.list (bl.map enc2)), s5, s6, .dat (.int (x : Nat)), s8, s9, s10, s11, s12, s13])
        (iw_list (ew_name 4 ⟨_, rfl, rfl⟩)) ⟨kvs0, s8, s9, s10, s11, s12, s13, ⟨T0.1, fun k h => h, fun p hp => (by cases hp)⟩, rfl⟩ ?_ ?_))
      · rintro j b ε' hb ⟨kvs1, s8, s9, s10, s11, s12, s13, I1, rfl⟩
        have tk : bl.take (j + 1) = bl.take j ++ [b] := by rw [List.take_add_one, hb]; rfl
        obtain ⟨⟨b1, b2⟩, r1, r2⟩ := hL2 b (List.mem_of_getElem? hb)
        have bth : both (bl.take (j + 1)) = both (bl.take j) ++ [(b.1, b.2), (b.2, b.1)] := by unfold both; rw [tk, List.flatMap_append]; simp
        refine tw_tup (tws_cons (tw_name 8 (tws_cons (tw_name 9 (tws_nil ?_)))))
        refine sws_one (sw_forM [(b.1, b.2, 0), (b.2, b.1, 1)] enc3 (fun q ε => ∃ (kvs : Tb) (s10 s11 s12 s13 : Sl), PI br t.ls.length kvs0 (both (bl.take j) ++ [(b.1, b.2), (b.2, b.1)].take q) kvs ∧ ε = [.dat (S t.un), .dat (.list ((ks.map Tx.un).map S)), .dat (.int (t.ls.length : Nat)), .fv (.dK (encCs1 kvs)), .dat (.list (bl.map enc2)), s5, s6, .dat (.int (x : Nat)), .dat (.int (b.1 : Nat)), .dat (.int (b.2 : Nat)), s10, s11, s12, s13])
          ?_ ⟨kvs1, s10, s11, s12, s13, by rw [List.take_zero, List.append_nil]; exact I1, rfl⟩ ?_ ?_)
        · refine iw_list (ew_lst (aw_cons (ew_tup (aw_cons (ew_name 8 (aw_cons (ew_name 9 (aw_cons (ew_int (aw_nil ?_))))))))))
          refine aw_cons (ew_tup (aw_cons (ew_name 9 (aw_cons (ew_name 8 (aw_cons (ew_int (aw_nil (aw_nil ⟨_, rfl, rfl⟩)))))))))
        · rintro q y ε' hy ⟨kvs2, s10, s11, s12, s13, I2, rfl⟩
          have hq : ∃ dn : Nat × Nat, [(b.1, b.2), (b.2, b.1)].take (q + 1) = [(b.1, b.2), (b.2, b.1)].take q ++ [dn] ∧ y.1 = dn.1 ∧ y.2.1 = dn.2 ∧ dn.2 ≤ t.ls.length ∧ (Rch br dn.1 → Rch br dn.2) := by
            rcases q with _ | _ | q
            · cases hy; exact ⟨(b.1, b.2), rfl, rfl, rfl, b2, r1⟩
            · cases hy; exact ⟨(b.2, b.1), rfl, rfl, rfl, b1, r2⟩
            · simp at hy
          obtain ⟨⟨h, th⟩, etk, e1, e2, lth, rth⟩ := hq
          obtain ⟨y1, y2, y3⟩ := y
          cases e1; cases e2
          have kz := I2.i.len
          have step : ∀ kvs3, LStep kvs2 h th kvs3 → PI br t.ls.length kvs0 (both (bl.take j) ++ [(b.1, b.2), (b.2, b.1)].take (q + 1)) kvs3 := fun kvs3 s => by
            rw [etk, ← List.append_assoc]; exact I2.step lth rth s
          refine tw_tup (tws_cons (tw_name 10 (tws_cons (tw_name 11 (tws_cons (tw_name 12 (tws_nil ?_)))))))
          refine sws_one (sw_if (bw_din (ref_slot 3) hu (ew_name 10 ⟨(valG kvs2 h).isSome, .inl ⟨_, encK h, rfl, rfl, by rw [val_cs, isSome_map]⟩, fun z => ?_, fun z => sws_nil ⟨kvs2, _, _, _, s13, step kvs2 (.inl ⟨by unfold Kn; rw [z]; exact Bool.false_ne_true, rfl⟩), rfl⟩⟩)))
          obtain ⟨c0, ec0⟩ := Option.isSome_iff_exists.mp z
          have vC : valG (encCs1 kvs2) (encK h) = some (encCost c0) := by rw [val_cs, ec0]; rfl
          refine sws_cons (sw_set 13 (ew_tup (aw_cons (ew_bin (ew_ix (ew_dget (ref_slot 3) hu (ew_name 10 ⟨encK h, _, rfl, vC, ew_int (ix_t (d := .int (c0.1 : Nat)) rfl (ew_name 12 (op_add_i (aw_cons ?_))))⟩)))))))
          refine ew_bin (ew_ix (ew_dget (ref_slot 3) hu (ew_name 10 ⟨encK h, _, rfl, vC, ew_int (ix_t (d := .int (c0.2 : Nat)) rfl (ew_int (op_add_i (aw_nil ?_))))⟩)))
          obtain ⟨cn, ecn⟩ : ∃ cn : Cost, cn = (c0.1 + y3, c0.2 + 1) := ⟨_, rfl⟩
          have en : PyData.tuple [.int ((c0.1 : Nat) + (y3 : Nat)), .int ((c0.2 : Nat) + 1)] = encCost cn := by rw [ecn]; unfold encCost; simp
          rw [en]
          have get : ∃ cg : Cost, (valG (encCs1 kvs2) (encK th)).getD (encCost cn) = encCost cg := by
            rw [val_cs]
            cases valG kvs2 th with
            | none => exact ⟨cn, rfl⟩
            | some c => exact ⟨c, rfl⟩
          obtain ⟨cg, eg⟩ := get
          refine sws_one (sw_dput (kvs := encCs1 kvs2) (ref_slot 3) hu (by unfold encCs1; rw [List.length_map]; omega) (EW.imp (Q := fun d => ∃ cm : Cost, d = encCost cm) (ew_callB (id := "min") (b_min T) (aw_cons (ew_lst (aw_cons (ew_dgetD (ref_slot 3) hu (ew_name 11 (ew_name 13 ⟨encK th, rfl, ?_⟩)))))) (hv := by decide +kernel)) fun d hd => ?_))
          · rw [eg]
            refine aw_cons (ew_name 13 (aw_nil (aw_nil ?_)))
            refine c_minPairs (ps := [((cg.1 : Nat), (cg.2 : Nat)), ((cn.1 : Nat), (cn.2 : Nat))]) rfl (by have := hr.un; omega) (by simp) fun z hz => ?_
            rcases List.mem_cons.mp hz with rfl | q
            · exact ⟨cg, rfl⟩
            · cases List.mem_singleton.mp q; exact ⟨cn, rfl⟩
          · obtain ⟨cm, rfl⟩ := hd
            refine ew_name 11 ⟨encK th, rfl, ?_⟩
            rw [put_cs]
            exact ⟨putG kvs2 th cm, _, _, _, _, step _ (.inr ⟨by unfold Kn; exact z, cm, rfl⟩), rfl⟩
        · rintro ε' ⟨kvs2, s10, s11, s12, s13, I2, rfl⟩
          refine ⟨kvs2, _, _, s10, s11, s12, s13, ?_, rfl⟩
          rw [bth]; exact I2
      · rintro ε' ⟨kvs1, s8, s9, s10, s11, s12, s13, I1, rfl⟩
        rw [List.take_length] at I1
        exact ⟨kvs1, _, s8, s9, s10, s11, s12, s13, pass_done (fun i j n h => hmem.mpr ⟨n, h⟩) T0 I1, rfl⟩
    · rintro ε' ⟨kvs, s7, s8, s9, s10, s11, s12, s13, T0, rfl⟩
      rw [List.length_range] at T0
      exact ⟨kvs, T0, rfl⟩
  rintro ε ⟨kvs, T0, hε⟩
  intro hd Hb H σ S
  have fin := pass_all T0 (by omega)
  obtain ⟨a, ea, q⟩ := hD hd Hb H σ ε 3 _ S (by decide) hε fun k => by rw [val_cs, isSome_map, hbr]; exact fin k
  exact pss_run (pss_one (ps_ret (pe_var (i := 3) rfl (by first | exact Or.inl rfl | exact Or.inr (Or.inl rfl) | exact Or.inr (Or.inr rfl))))) ⟨_, ea, q⟩
end K78
/-! K78: walks: the law's tree. -/
namespace K78
open PySem PySem.Spec L2
variable {B : Bs}
theorem ok_law_made_here (T : Told B) (p w : Wd) (hp : W4 p) (hw : W4 w) (zp : p.length ≤ 100) (zw : w.length ≤ 100) : Ok B 3 d_law_made_here p_law_made_here (spV [S p, S w] fun r => r = .list ((cov p w).map S)) := by
  refine ok_v (h_law_made_here T) s_law_made_here rfl fun c hr F hro => ?_
  have nd := s_law_made_here.nd
  refine sws_one (sw_ret (ew_lcn [("_law_k", 2)] 2 (List.range (w.length + 1)) (fun i => .int (i : Nat)) (fun k => S (red (p ++ w.take k))) (iw_range1 (b_range T) (ew_bin (ew_len (b_len T) (ew_name 1 (.inr ⟨w, rfl, by omega, ew_int (op_add_i ⟨((w.length : Nat) : Int) + 1, rfl, by omega, by omega, ?_, ?_, fun k hk s1 H1 C1 cl1 fp1 => ?_, ?_⟩)⟩)))))))
  · rw [show (((w.length : Nat) : Int) + 1).toNat = w.length + 1 by omega]
  · rw [List.length_range]; omega
  · refine ew_lshort T (ew_bin (ew_name 0 (ew_slice (ew_name 1 (ow_none (ow_some (ew_name 2 ⟨_, rfl, sl_s (l := w) (by omega) ?_⟩))))))) (hr.mono (by decide))
    rw [cut_to]
    have tz : (w.take k).length ≤ 100 := by rw [List.length_take]; omega
    exact op_add_s (l := p) (m := w.take k) (by omega) ⟨_, rfl, hp.app fun a ha => hw a (List.mem_of_mem_take ha), by rw [List.length_append]; omega, rfl⟩
  · unfold cov; rw [List.map_map]; rfl
theorem cov_len (p w : Wd) : (cov p w).length = w.length + 1 := by unfold cov; rw [List.length_map, List.length_range]
theorem cov_last (p w : Wd) : (cov p w).getLast? = some (red (p ++ w)) := by
  unfold cov
  rw [List.range_succ, List.map_append, List.getLast?_append]
  simp
/-! ### plain -/
/-- all directions of the kept words -/
def dirs (K : List Wd) : List Wd := K ++ K.map bk
theorem mem_dirs {K : List Wd} {w : Wd} : w ∈ dirs K ↔ ∃ w0 ∈ K, ∃ b, w = dirW w0 b := by
  unfold dirs
  rw [List.mem_append, List.mem_map]
  constructor
  · rintro (h | ⟨w0, h, rfl⟩)
    · exact ⟨w, h, false, rfl⟩
    · exact ⟨w0, h, true, rfl⟩
  · rintro ⟨w0, h, b, rfl⟩
    cases b
    · exact .inl h
    · exact .inr ⟨w0, h, rfl⟩
structure NI (P K near cvd : List Wd) : Prop where
  nd : near.Nodup
  n : ∀ x ∈ near, x ∈ P ∧ Near P K x
  n0 : [] ∈ near
  c : ∀ x ∈ cvd, Cvd P K x
  c0 : [] ∈ cvd
def Did (P near cvd : List Wd) (pl w : Wd) : Prop := (∀ x ∈ cov pl w, x ∈ P) → red (pl ++ w) ∈ near ∧ ∀ x ∈ cov pl w, x ∈ cvd
theorem Did.mono {P near cvd near' cvd' : List Wd} {pl w : Wd} (h : Did P near cvd pl w) (a : ∀ x ∈ near, x ∈ near') (b : ∀ x ∈ cvd, x ∈ cvd') : Did P near' cvd' pl w := fun z => ⟨a _ (h z).1, fun x hx => b x ((h z).2 x hx)⟩
def AllDone (P K near cvd : List Wd) : Prop := ∀ pl ∈ near, ∀ w ∈ dirs K, Did P near cvd pl w
theorem tree_law {P K near cvd : List Wd} (I : NI P K near cvd) (d : AllDone P K near cvd) : (∀ x, x ∈ near ↔ Near P K x) ∧ ∀ x, x ∈ cvd ↔ Cvd P K x := by
  have h1 : ∀ x, Near P K x → x ∈ near := fun x hx => by
    induction hx with
    | nil => exact I.n0
    | @go p w b _ hw hc ih => exact (d p ih (dirW w b) (mem_dirs.mpr ⟨w, hw, b, rfl⟩) hc).1
  refine ⟨fun x => ⟨fun h => (I.n x h).2, h1 x⟩, fun x => ⟨I.c x, fun h => ?_⟩⟩
  rcases h with rfl | ⟨p, w, b, hp, hw, hc, hx⟩
  · exact I.c0
  · exact (d p (h1 p hp) (dirW w b) (mem_dirs.mpr ⟨w, hw, b, rfl⟩) hc).2 x hx
def addF (cvd over : List Wd) : List Wd := cvd ++ over.filter fun x => !decide (x ∈ cvd)
theorem addF_mem {cvd over : List Wd} {x : Wd} : x ∈ addF cvd over ↔ x ∈ cvd ∨ x ∈ over := by
  unfold addF
  rw [List.mem_append, List.mem_filter]
  constructor
  · rintro (h | ⟨h, _⟩)
    · exact .inl h
    · exact .inr h
  · rintro (h | h)
    · exact .inl h
    · by_cases c : x ∈ cvd
      · exact .inl c
      · exact .inr ⟨h, by simp [c]⟩
theorem addF_len {cvd over : List Wd} : (addF cvd over).length ≤ cvd.length + over.length := by
  unfold addF
  have := List.length_filter_le (fun x => !decide (x ∈ cvd)) over
  rw [List.length_append]; omega
theorem NI.take {P K near cvd : List Wd} (I : NI P K near cvd) {pl w : Wd} (hpl : pl ∈ near) (hw : w ∈ dirs K) (hc : ∀ x ∈ cov pl w, x ∈ P) : NI P K (addC near (red (pl ++ w))) (addF cvd (cov pl w)) ∧ Did P (addC near (red (pl ++ w))) (addF cvd (cov pl w)) pl w := by
  obtain ⟨w0, hw0, b, rfl⟩ := mem_dirs.mp hw
  have hn := (I.n pl hpl).2
  refine ⟨⟨addC_nd I.nd, fun x hx => ?_, addC_mem.mpr (.inl I.n0), fun x hx => ?_, addF_mem.mpr (.inl I.c0)⟩, fun _ => ⟨addC_mem.mpr (.inr rfl), fun x hx => addF_mem.mpr (.inr hx)⟩⟩
  · rcases addC_mem.mp hx with h | rfl
    · exact I.n x h
    · exact ⟨hc _ cov_end, .go hn hw0 hc⟩
  · rcases addF_mem.mp hx with h | h
    · exact I.c x h
    · exact .inr ⟨pl, w0, b, hn, hw0, hc, h⟩
/-! ### three names, data -/
theorem sw_par3d {X : Cx} {F : Fm} {ε : Env} {R : ER} {a b c : Expr} {pos : Pos} (i j l : Nat) {x y z : Str} {px py pz pt pt2 : Pos} {kt k2 : Nat} (h : EW X F a ε fun d1 => EW X F b ε fun d2 => EW X F c ε fun d3 => R.nx (((ε.set i (.dat d1)).set j (.dat d2)).set l (.dat d3))) (hij : i ≠ j := by decide) (hil : i ≠ l := by decide) (hjl : j ≠ l := by decide) (hc : X.calm = true := by rfl) (hN : X.N.Nodup := by first | assumption | decide +kernel) (hi : X.N[i]? = some x := by rfl) (hj : X.N[j]? = some y := by rfl) (hl : X.N[l]? = some z := by rfl)
    (hx : X.env.scope.names.lookup x = some .local := by rfl) (hy : X.env.scope.names.lookup y = some .local := by rfl) (hz : X.env.scope.names.lookup z = some .local := by rfl) (hw : swappedStores [.Tuple [.Name x px, .Name y py, .Name z pz] kt pt] (.Tuple [a, b, c] k2 pt2) X.env = pure (some [x, y, z]) := by rfl)
    (hs : swapsWithSole [.Tuple [.Name x px, .Name y py, .Name z pz] kt pt] (.Tuple [a, b, c] k2 pt2) pos.line X.env = pure false := by rfl) (s1 : starEach [a, b, c] X.env = (false, eval a X.env) :: starEach [b, c] X.env := by rfl) (s2 : starEach [b, c] X.env = (false, eval b X.env) :: starEach [c] X.env := by rfl) (s3 : starEach [c] X.env = (false, eval c X.env) :: starEach [] X.env := by rfl) :
    SW X F (.Assign [.Tuple [.Name x px, .Name y py, .Name z pz] kt pt] (.Tuple [a, b, c] k2 pt2) pos) ε R := fun hd Hb H σ S D kk => by
  refine ps_run (ps_par3 hc hN hi hj hl hij hil hjl hx hy hz (pa_cons pe_sem (pa_cons pe_sem (pa_cons pe_sem pa_nil s3) s2) s1) hw hs) ?_
  refine h hd Hb H σ S _ fun v1 d1 Hb1 H1 S1 g1 r1 z1 => z1 hd Hb1 H1 σ S1 _ fun v2 d2 Hb2 H2 S2 g2 r2 z2 => z2 hd Hb2 H2 σ S2 _ fun v3 d3 Hb3 H3 S3 g3 r3 q => ?_
  exact ⟨_, _, _, rfl, kk.nx _ _ _ _ ((g1.b.trans g2.b).trans g3.b) (((S3.setDat (i := i) (dt_mono (g2.b.trans g3.b) r1)).setDat (i := j) (dt_mono g3.b r2)).setDat (i := l) r3) q⟩
theorem ok_law_told_tree (T : Told B) (K : List Wd) (w : Wd) (hw : W4 w) (hz : w.length ≤ 40) (h4 : ∀ k ∈ K, W4 k ∧ k.length ≤ 40) (hk : K.length ≤ 20) : Ok B 4 d_law_told_tree p_law_told_tree (spV [.list (K.map S), S w] (BoolI (ToldM K w))) := by
  refine ok_v (h_law_told_tree T) s_law_told_tree rfl fun c hr F hro => ?_
  have nd := s_law_told_tree.nd
  refine sws_cons (sw_asg (ew_tup (aw_cons (ew_callJ (k := 2) (hr := hr.mono (by decide)) (h_law_tree T) (g_law_tree T) (aw_cons (ew_name 1 (aw_nil ⟨_, ok_law_tree T w hw (by omega), fun r hr' => ?_⟩)))))))
  obtain ⟨P, rfl, pn, pm⟩ := hr'
  refine aw_cons (ew_lst (aw_cons (ew_tx [] (aw_nil (aw_cons (ew_lst (aw_cons (ew_tx [] (aw_nil (aw_nil (tw_tup (tws_cons (tw_name 2 (tws_cons (tw_name 3 (tws_cons (tw_name 4 (tws_nil ?_))))))))))))))))))
  have PZ : P.length ≤ 41 := by
    have := nodup_len pn fun x hx => (pm x).mp hx
    unfold pres at this; rw [List.length_map, List.length_range] at this; omega
  have Prd : ∀ x ∈ P, Rd x ∧ x.length ≤ 40 := fun x hx => ⟨pres_rd hw x ((pm x).mp hx), by have := pres_len ((pm x).mp hx); omega⟩
  have P0 : [] ∈ P := (pm []).mpr (pres_nil w)
  have PP : 0 < P.length := List.length_pos_iff.mpr fun z => by rw [z] at P0; cases P0
  have dz : (dirs K).length ≤ 40 := by unfold dirs; rw [List.length_append, List.length_map]; omega
  have d4 : ∀ v ∈ dirs K, W4 v ∧ v.length ≤ 40 := fun v hv => by
    obtain ⟨w0, h0, b, rfl⟩ := mem_dirs.mp hv
    obtain ⟨a, z⟩ := h4 w0 h0
    refine ⟨dirW_w4 a, ?_⟩
    unfold dirW; split
    · rw [bk_len]; exact z
    · exact z
  have nz : ∀ {near cvd : List Wd}, NI P K near cvd → near.length ≤ P.length := fun I => nodup_len I.nd fun x hx => (I.n x hx).1
  refine sws_cons (sw_mid (fun ε' => ∃ (near cvd : List Wd) (s5 s6 s7 s8 s9 : Sl), NI P K near cvd ∧ AllDone P K near cvd ∧ ε' = [.dat (.list (K.map S)), .dat (S w), .dat (.list (P.map S)), .dat (.list (near.map S)), .dat (.list (cvd.map S)), s5, s6, s7, s8, s9, .un]) ?_ ?_)
  · refine sw_forM (List.range P.length) (fun i => .int (i : Nat)) (fun t ε => ∃ (near cvd : List Wd) (s5 s6 s7 s8 s9 : Sl), NI P K near cvd ∧ t + 1 ≤ near.length ∧ cvd.length ≤ 1 + 41 * (1640 * t) ∧ ε = [.dat (.list (K.map S)), .dat (S w), .dat (.list (P.map S)), .dat (.list (near.map S)), .dat (.list (cvd.map S)), s5, s6, s7, s8, s9, .un])
      ?_ ⟨[[]], [[]], .un, .un, .un, .un, .un, ⟨by simp, fun x hx => ?_, by simp, fun x hx => .inl (List.mem_singleton.mp hx), by simp⟩, Nat.le_refl _, Nat.le_refl _, rfl⟩ ?_ ?_
    · refine iw_range1 (b_range T) (ew_len (b_len T) (ew_name 2 (.inl ⟨P.map S, .inl rfl, ⟨((P.length : Nat) : Int), ?_, by omega, by omega, by simp⟩⟩)))
      rw [List.length_map]
    · cases List.mem_singleton.mp hx; exact ⟨P0, .nil⟩
    · rintro t x ε' hx ⟨near0, cvd0, s5, s6, s7, s8, s9, I0, ht0, hcz0, rfl⟩
      have htP : t < P.length := by have := (List.getElem?_eq_some_iff.mp hx).1; rw [List.length_range] at this; exact this
      refine tw_name 5 (sws_cons (sw_set 6 (ew_len (b_len T) (ew_name 3 (.inl ⟨near0.map S, .inl rfl, ?_⟩)))))
      rw [List.length_map]
      have n0z := nz I0
      refine sws_cons (sw_forM near0 S (fun q ε => ∃ (near cvd : List Wd) (s7 s8 s9 : Sl), NI P K near cvd ∧ (∀ x ∈ near0, x ∈ near) ∧ (∀ pl ∈ near0.take q, ∀ v ∈ dirs K, Did P near cvd pl v) ∧ cvd.length ≤ 1 + 41 * (1640 * t + 40 * q) ∧ ε = [.dat (.list (K.map S)), .dat (S w), .dat (.list (P.map S)), .dat (.list (near.map S)), .dat (.list (cvd.map S)), .dat (.int (x : Nat)), .dat (.int (near0.length : Nat)), s7, s8, s9, .un])
        ?_ ⟨near0, cvd0, s7, s8, s9, I0, fun _ h => h, fun pl h => (by simp at h), by omega, rfl⟩ ?_ ?_)
      · exact iw_list (ew_callTy (T := "list") (b_list T) (aw_cons (ew_name 3 (aw_nil (c_list (.inl rfl) ⟨_, rfl, rfl⟩)))))
      · rintro q pl ε' hq ⟨near1, cvd1, s7, s8, s9, I1, sub1, did1, hcz1, rfl⟩
        have hql : q < near0.length := (List.getElem?_eq_some_iff.mp hq).1
        have tkq : near0.take (q + 1) = near0.take q ++ [pl] := by rw [List.take_add_one, hq]; rfl
        have hpl0 := List.mem_of_getElem? hq
        obtain ⟨plr, plz⟩ := Prd pl (I0.n pl hpl0).1
        refine tw_name 7 (sws_one (sw_forM (dirs K) S (fun r ε => ∃ (near cvd : List Wd) (s8 s9 : Sl), NI P K near cvd ∧ (∀ x ∈ near0, x ∈ near) ∧ (∀ pl ∈ near0.take q, ∀ v ∈ dirs K, Did P near cvd pl v) ∧ (∀ v ∈ (dirs K).take r, Did P near cvd pl v) ∧ cvd.length ≤ 1 + 41 * (1640 * t + 40 * q + r) ∧ ε = [.dat (.list (K.map S)), .dat (S w), .dat (.list (P.map S)), .dat (.list (near.map S)), .dat (.list (cvd.map S)), .dat (.int (x : Nat)), .dat (.int (near0.length : Nat)), .dat (S pl), s8, s9, .un])
          ?_ ⟨near1, cvd1, s8, s9, I1, sub1, did1, fun v h => (by simp at h), hcz1, rfl⟩ ?_ ?_))
        · refine iw_list (ew_bin (ew_name 0 (ew_lcn [("_law_x", 10)] 10 K S (fun v => S (bk v)) (iw_list (ew_name 0 ⟨_, rfl, rfl, by omega, fun v hv s1 H1 C1 cl1 fp1 => ?_, op_cat_d ?_ ⟨_, rfl, ?_⟩⟩)))))
          · exact ew_lback T (ew_name 10 ⟨v, rfl, (h4 v hv).1, by have := (h4 v hv).2; omega, rfl⟩) (hr.mono (by decide))
          · rw [List.length_map, List.length_map]; omega
          · unfold dirs; rw [List.map_append, List.map_map]; rfl
        · rintro r v ε' hv ⟨near, cvd, s8, s9, I, sub, did, did2, hcz, rfl⟩
          have hrl : r < (dirs K).length := (List.getElem?_eq_some_iff.mp hv).1
          have hvd := List.mem_of_getElem? hv
          obtain ⟨v4, vz⟩ := d4 v hvd
          have tkr : (dirs K).take (r + 1) = (dirs K).take r ++ [v] := by rw [List.take_add_one, hv]; rfl
          have cz : cvd.length ≤ 3000000 := by omega
          refine tw_name 8 (sws_cons (sw_set 9 (ew_callJ (k := 3) (hr := hr) (h_law_made_here T) (g_law_made_here T) (aw_cons (ew_name 7 (aw_cons (ew_name 8 (aw_nil ⟨_, ok_law_made_here T pl v plr.w4 v4 (by omega) (by omega), fun rr er => ?_⟩))))))))
          subst er
          have lastC := cov_last pl v
          have lenC := cov_len pl v
          have hcovM : (∀ x ∈ cov pl v, x ∈ P) → NI P K (addC near (red (pl ++ v))) (addF cvd (cov pl v)) ∧ Did P (addC near (red (pl ++ v))) (addF cvd (cov pl v)) pl v := I.take (sub pl hpl0) hvd
          generalize hcv : cov pl v = cv at lastC lenC hcovM
          refine sws_one (sw_if (bw_val (ew_allc cv (fun x => decide (x ∈ P)) (b_all T) (ew_lcn [("_law_x", 10)] 10 cv S (fun x => .bool (decide (x ∈ P))) (iw_list (ew_name 9 ⟨_, rfl, rfl, by omega, fun y hy s1 H1 C1 cl1 fp1 => ew_cmp rfl (ew_name 10 (ew_name 2 (op_in_ls (.inl rfl) rfl))), rfl, _, rfl, fun zt => ?_, fun zf => sws_nil ?_⟩))))))
          · have hc : ∀ x ∈ cv, x ∈ P := fun x hx => of_decide_eq_true (List.all_eq_true.mp zt x hx)
            obtain ⟨I', D'⟩ := hcovM hc
            have nz1 := nz I
            refine sws_cons (sw_set 4 (ew_bin (ew_name 4 (ew_lct [("_law_x", 10)] 10 cv S S (fun y => !decide (y ∈ cvd)) (iw_list (ew_name 9 ⟨_, rfl, rfl, by omega, fun y hy s1 H1 C1 cl1 fp1 => ?_, op_cat_d ?_ ?_⟩))))))
            · exact bw_cmp rfl (ew_name 10 (ew_name 4 (op_nin_ls (.inl rfl) ⟨_, rfl, rfl, fun _ s3 H3 C3 cl3 fp3 => ew_name 10 rfl⟩)))
            · have := List.length_filter_le (fun y => !decide (y ∈ cvd)) cv
              rw [List.length_map, List.length_map]; omega
            have eC : cvd.map S ++ (cv.filter fun y => !decide (y ∈ cvd)).map S = (addF cvd cv).map S := by unfold addF; rw [List.map_append]
            rw [eC]
            have eL : atI (cv.map S) (-1) = some (S (red (pl ++ v))) := by rw [atI_last, List.getLast?_map, lastC]; rfl
            have fl := addF_len (cvd := cvd) (over := cv)
            have did' : ∀ v' ∈ (dirs K).take (r + 1), Did P (addC near (red (pl ++ v))) (addF cvd cv) pl v' := fun v' hv' => by
              rw [tkr] at hv'
              rcases List.mem_append.mp hv' with h | h
              · exact (did2 v' h).mono (fun x hx => addC_mem.mpr (.inl hx)) fun x hx => addF_mem.mpr (.inl hx)
              · cases List.mem_singleton.mp h; exact D'
            have did0 : ∀ pl' ∈ near0.take q, ∀ v' ∈ dirs K, Did P (addC near (red (pl ++ v))) (addF cvd cv) pl' v' := fun pl' h v' hv' => (did pl' h v' hv').mono (fun x hx => addC_mem.mpr (.inl hx)) fun x hx => addF_mem.mpr (.inl hx)
            have sub' : ∀ x ∈ near0, x ∈ addC near (red (pl ++ v)) := fun x hx => addC_mem.mpr (.inl (sub x hx))
            refine sws_one (sw_if (bw_cmp rfl (ew_ix (ew_name 9 (ew_neg (ix_l eL (ew_name 3 (op_nin_ls (.inl rfl) ⟨_, rfl, fun z => ?_, fun z => sws_nil ?_⟩))))))))
            · have z : red (pl ++ v) ∉ near := by simpa using z
              have eN : addC near (red (pl ++ v)) = near ++ [red (pl ++ v)] := by unfold addC; rw [if_neg z]
              refine sws_one (sw_set 3 (ew_bin (ew_name 3 (ew_lst (aw_cons (ew_ix (ew_name 9 (ew_neg (ix_l eL (aw_nil (op_cat_d ?_ ?_)))))))))))
              · rw [List.length_map]; simp; omega
              · refine ⟨addC near (red (pl ++ v)), addF cvd cv, .dat (S v), .dat (.list (cv.map S)), I', sub', did0, did', by omega, ?_⟩
                rw [eN, List.map_append]; rfl
            · have z : red (pl ++ v) ∈ near := by simpa using z
              have eN : addC near (red (pl ++ v)) = near := by unfold addC; rw [if_pos z]
              rw [eN] at I' did' did0 sub'
              exact ⟨near, addF cvd cv, _, _, I', sub', did0, did', by omega, rfl⟩
          · refine ⟨near, cvd, _, _, I, sub, did, fun v' hv' => ?_, by omega, rfl⟩
            rw [tkr] at hv'
            rcases List.mem_append.mp hv' with h | h
            · exact did2 v' h
            · cases List.mem_singleton.mp h
              intro hc
              rw [hcv] at hc
              exact absurd zf (by rw [List.all_eq_true.mpr fun x hx => decide_eq_true (hc x hx)]; decide)
        · rintro ε' ⟨near, cvd, s8, s9, I, sub, did, did2, hcz, rfl⟩
          rw [List.take_length] at did2
          refine ⟨near, cvd, _, s8, s9, I, sub, fun pl' h v' hv' => ?_, by omega, rfl⟩
          rw [tkq] at h
          rcases List.mem_append.mp h with h | h
          · exact did pl' h v' hv'
          · cases List.mem_singleton.mp h; exact did2 v' hv'
      · rintro ε' ⟨near, cvd, s7, s8, s9, I, sub, did, hcz, rfl⟩
        rw [List.take_length] at did
        have nz1 := nz I
        have le := nodup_len I0.nd sub
        refine sws_one (sw_if (bw_cmp rfl (ew_len (b_len T) (ew_name 3 (.inl ⟨near.map S, .inl rfl, ew_name 6 (op_eq_i ⟨_, rfl, fun z => sws_one (sw_break ?_), fun z => sws_nil ?_⟩)⟩)))))
        · rw [List.length_map] at z
          have z : near.length = near0.length := by have := of_decide_eq_true z; omega
          have back := subset_of_len I0.nd sub (by omega)
          exact ⟨near, cvd, _, _, s7, s8, s9, I, fun pl hpl v hv => did pl (back pl hpl) v hv, rfl⟩
        · rw [List.length_map] at z
          have z : near.length ≠ near0.length := fun e => by rw [e] at z; simp at z
          exact ⟨near, cvd, _, _, s7, s8, s9, I, by omega, by omega, rfl⟩
    · rintro ε' ⟨near, cvd, s5, s6, s7, s8, s9, I, ht, hcz, rfl⟩
      rw [List.length_range] at ht
      have := nz I; omega
  rintro ε' ⟨near, cvd, s5, s6, s7, s8, s9, I, D, rfl⟩
  obtain ⟨e1, e2⟩ := tree_law I D
  have toP : ∀ x, Near P K x ↔ Near (pres w) K x := fun x => ⟨near_mono fun y hy => (pm y).mp hy, near_mono fun y hy => (pm y).mpr hy⟩
  have toC : ∀ x, Cvd P K x ↔ Cvd (pres w) K x := fun x => ⟨cvd_mono fun y hy => (pm y).mp hy, cvd_mono fun y hy => (pm y).mpr hy⟩
  refine sws_one (sw_ret (ew_and (ew_cmp rfl (ew_lshort T (ew_name 1 ⟨w, rfl, hw, by omega, ew_name 3 (op_in_ls (.inl rfl) ⟨_, rfl, fun z => ?_, fun z => ?_⟩)⟩) (hr.mono (by decide))))))
  · have z := of_decide_eq_true z
    refine ew_one (ew_allc P (fun x => decide (x ∈ cvd)) (b_all T) (ew_lcn [("_law_x", 10)] 10 P S (fun x => .bool (decide (x ∈ cvd))) (iw_list (ew_name 2 ⟨_, rfl, rfl, by omega, fun y hy s1 H1 C1 cl1 fp1 => ew_cmp rfl (ew_name 10 (ew_name 4 (op_in_ls (.inl rfl) rfl))), rfl, _, rfl, ?_⟩))))
    rw [List.all_eq_true]
    constructor
    · exact fun h => ⟨(toP _).mp ((e1 _).mp z), fun x hx => (toC x).mp ((e2 x).mp (of_decide_eq_true (h x ((pm x).mpr hx))))⟩
    · exact fun h x hx => decide_eq_true ((e2 x).mpr ((toC x).mpr (h.2 x ((pm x).mp hx))))
  · have z := of_decide_eq_false z
    exact ⟨false, rfl, fun y => (by cases y), fun h => absurd ((e1 _).mpr ((toP _).mpr h.1)) z⟩
end K78
/-! K78: walks: the law's folded graph. -/
namespace K78
open PySem PySem.Spec L2
variable {B : Bs}
def encE (e : Nat × Nat × Nat) : PyData := .tuple [.int (e.1 : Nat), S [e.2.1], .int (e.2.2 : Nat)]
theorem eqv_encE (x y : Nat × Nat × Nat) : PyData.eqv (encE x) (encE y) = decide (x = y) := by
  obtain ⟨a, b, c⟩ := x
  obtain ⟨d, e, f⟩ := y
  show (PyData.eqv (.int (a : Nat)) (.int (d : Nat)) && (PyData.eqv (S [b]) (S [e]) && (PyData.eqv (.int (c : Nat)) (.int (f : Nat)) && true))) = _
  rw [eqv_i, eqv_s, eqv_i, Bool.and_true, ← Bool.decide_and, ← Bool.decide_and]
  refine decide_eq_decide.mpr ⟨fun h => ?_, fun h => ?_⟩
  · obtain ⟨h1, h2, h3⟩ := h
    have : a = d := by omega
    have : c = f := by omega
    have : b = e := by simpa using h2
    subst_vars; rfl
  · cases h; exact ⟨rfl, rfl, rfl⟩
theorem lay_encE {e : Nat × Nat × Nat} (h : e.2.1 < 128) : (encE e).canLay0 = true ∧ (encE e).depth ≤ 1 := by
  obtain ⟨a, b, c⟩ := e
  refine ⟨?_, Nat.le_refl _⟩
  show (PyData.canLay0 (.int (a : Nat)) && (PyData.canLay0 (S [b]) && (PyData.canLay0 (.int (c : Nat)) && true))) = true
  rw [lay_s (l := [b]) (fun x hx => by cases List.mem_singleton.mp hx; exact h)]; rfl
/-- what a clash is told by -/
def ClashD (E : Edges) (r : PyData) : Prop := ∃ g k : Nat, r = .tuple [.int (g : Nat), .int (k : Nat)] ∧ g ≠ k ∧ Clash E g k
theorem ok_law_clash (T : Told B) (E : Edges) (hz : E.length < 10000) : Ok B 1 d_law_clash p_law_clash (spV [.list (E.map encE)] fun r => (r = .none ∧ Det E) ∨ ClashD E r) := by
  refine ok_v (h_law_clash T) s_law_clash rfl fun c hr F hro => ?_
  have nd := s_law_clash.nd
  refine sws_cons (sw_forM E.zipIdx (fun q => .tuple [.int (q.2 : Nat), encE q.1]) (fun i ε => (∃ s1 s2 s3 : Sl, ε = [.dat (.list (E.map encE)), s1, s2, s3]) ∧ ∀ a b, a < i → b < a → ∀ f g, E[a]? = some f → E[b]? = some g → NoClash f g) (iw_enum (b_enumerate T) (ew_name 0 ⟨_, rfl, enum_map E encE⟩)) ⟨⟨_, _, _, rfl⟩, fun a b h => absurd h (Nat.not_lt_zero _)⟩ ?_ ?_)
  · rintro i q ε' hq ⟨⟨s1, s2, s3, rfl⟩, hI⟩
    have hq1 := zipIdx_at (List.mem_of_getElem? hq)
    have hi : i < E.length := by have := (List.getElem?_eq_some_iff.mp hq).1; rw [List.length_zipIdx] at this; exact this
    have ei : q.2 = i := by
      have := hq
      rw [List.getElem?_zipIdx, List.getElem?_eq_getElem hi] at this
      simp at this
      rw [← this]
    obtain ⟨⟨x1, a1, y1⟩, qi⟩ := q
    have ei : qi = i := ei
    subst ei
    have hq1 : E[qi]? = some (x1, a1, y1) := hq1
    have m1 := List.mem_of_getElem? hq1
    refine tw_tup (tws_cons (tw_name 1 (tws_cons (tw_name 2 (tws_nil ?_)))))
    refine sws_one (sw_forM (E.take qi) encE (fun j ε => (∃ s3 : Sl, ε = [.dat (.list (E.map encE)), .dat (.int (qi : Nat)), .dat (encE (x1, a1, y1)), s3]) ∧ ∀ b, b < j → ∀ g, (E.take qi)[b]? = some g → NoClash (x1, a1, y1) g) (iw_list (ew_slice (ew_name 0 (ow_none (ow_some (ew_name 1 ⟨_, rfl, sl_l ⟨_, rfl, by rw [cut_to, List.map_take]⟩⟩)))))) ⟨⟨_, rfl⟩, fun b h => absurd h (Nat.not_lt_zero _)⟩ ?_ ?_)
    · rintro j ⟨x2, a2, y2⟩ ε' hj ⟨⟨s3, rfl⟩, hJ⟩
      have m2 : (x2, a2, y2) ∈ E := List.mem_of_mem_take (List.mem_of_getElem? hj)
      refine tw_name 3 ?_
      have fin : NoClash (x1, a1, y1) (x2, a2, y2) → (∃ s3 : Sl, [Sl.dat (.list (E.map encE)), .dat (.int (qi : Nat)), .dat (encE (x1, a1, y1)), .dat (encE (x2, a2, y2))] = [.dat (.list (E.map encE)), .dat (.int (qi : Nat)), .dat (encE (x1, a1, y1)), s3]) ∧ ∀ b, b < j + 1 → ∀ g, (E.take qi)[b]? = some g → NoClash (x1, a1, y1) g := fun nc => by
        refine ⟨⟨_, rfl⟩, fun b hb g hg => ?_⟩
        by_cases cb : b = j
        · subst cb; rw [hj] at hg; cases hg; exact nc
        · exact hJ b (by omega) g hg
      refine sws_one (sw_if (bw_w (bww_and (bw_cmp rfl (ew_ix (ew_name 2 (ew_int (ix_t (d := S [a1]) rfl (ew_ix (ew_name 3 (ew_int (ix_t (d := S [a2]) rfl (op_eq_s ⟨_, rfl, fun za => ?_, fun za => ?_⟩)))))))))))))
      · rw [sing_inj] at za
        have za := of_decide_eq_true za
        subst za
        refine bww_and1 (bw_cmp rfl (ew_cmp rfl (ew_ix (ew_name 2 (ew_int (ix_t (d := .int (x1 : Nat)) rfl (ew_ix (ew_name 3 (ew_int (ix_t (d := .int (x2 : Nat)) rfl (op_eq_i ?_))))))))) ))
        refine ew_cmp rfl (ew_ix (ew_name 2 (ew_int (ix_t (d := .int (y1 : Nat)) rfl (ew_ix (ew_name 3 (ew_int (ix_t (d := .int (y2 : Nat)) rfl (op_eq_i (op_ne_b ⟨_, rfl, fun zb => ?_, fun zb => sws_nil (fin fun _ => ?_)⟩))))))))))
        · by_cases ex : x1 = x2
          · subst ex
            have ey : y1 ≠ y2 := fun e => by subst e; simp at zb
            refine sws_one (sw_ret (ew_if (bw_cmp rfl (ew_ix (ew_name 2 (ew_int (ix_t (d := .int (x1 : Nat)) rfl (ew_ix (ew_name 3 (ew_int (ix_t (d := .int (x1 : Nat)) rfl (op_eq_i ⟨_, rfl, fun _ => ?_, fun z => ?_⟩))))))))) )))
            · exact ew_tup (aw_cons (ew_ix (ew_name 2 (ew_int (ix_t (d := .int (y1 : Nat)) rfl (aw_cons (ew_ix (ew_name 3 (ew_int (ix_t (d := .int (y2 : Nat)) rfl (aw_nil (.inr ⟨y1, y2, rfl, ey, .inl ⟨x1, a1, m1, m2⟩⟩))))))))))))
            · exact absurd rfl (of_decide_eq_false z)
          · have ey : y1 = y2 := by
              by_cases h : y1 = y2
              · exact h
              · rw [decide_eq_false (by omega), decide_eq_false (by omega)] at zb; cases zb
            subst ey
            refine sws_one (sw_ret (ew_if (bw_cmp rfl (ew_ix (ew_name 2 (ew_int (ix_t (d := .int (x1 : Nat)) rfl (ew_ix (ew_name 3 (ew_int (ix_t (d := .int (x2 : Nat)) rfl (op_eq_i ⟨_, rfl, fun z => ?_, fun _ => ?_⟩))))))))) )))
            · exact absurd (of_decide_eq_true z) (by omega)
            · exact ew_tup (aw_cons (ew_ix (ew_name 2 (ew_int (ix_t (d := .int (x1 : Nat)) rfl (aw_cons (ew_ix (ew_name 3 (ew_int (ix_t (d := .int (x2 : Nat)) rfl (aw_nil (.inr ⟨x1, x2, rfl, ex, .inr ⟨a1, y1, m1, m2⟩⟩))))))))))))
        · have zb : decide ((x1 : Int) = (x2 : Int)) = decide ((y1 : Int) = (y2 : Int)) := by
            cases h1 : decide ((x1 : Int) = (x2 : Int)) <;> cases h2 : decide ((y1 : Int) = (y2 : Int)) <;> rw [h1, h2] at zb <;> first | rfl | cases zb
          have zb := decide_eq_decide.mp zb
          show x1 = x2 ↔ y1 = y2
          omega
      · rw [sing_inj] at za
        have za := of_decide_eq_false za
        exact ⟨fun z => (by cases z), fun _ => sws_nil (fin fun h => absurd h za)⟩
    · rintro ε' ⟨⟨s3, rfl⟩, hJ⟩
      refine ⟨⟨_, _, _, rfl⟩, fun a b ha hb f g hf hg => ?_⟩
      by_cases ca : a = qi
      · subst ca
        rw [hq1] at hf; cases hf
        refine hJ b (by rw [List.length_take]; omega) g ?_
        rw [List.getElem?_take_of_lt hb]; exact hg
      · exact hI a b (by omega) hb f g hf hg
  · rintro ε' ⟨⟨s1, s2, s3, rfl⟩, hI⟩
    rw [List.length_zipIdx] at hI
    refine sws_one (sw_ret (ew_non (.inl ⟨rfl, fun e he f hf hl => ?_⟩)))
    obtain ⟨a, ha⟩ := List.getElem?_of_mem he
    obtain ⟨b, hb⟩ := List.getElem?_of_mem hf
    have la := (List.getElem?_eq_some_iff.mp ha).1
    have lb := (List.getElem?_eq_some_iff.mp hb).1
    rcases Nat.lt_trichotomy a b with h | h | h
    · have := hI b a lb h f e hb ha hl.symm
      exact ⟨fun z => (this.mp z.symm).symm, fun z => (this.mpr z.symm).symm⟩
    · subst h; rw [ha] at hb; cases hb; exact ⟨fun _ => rfl, fun _ => rfl⟩
    · exact hI a b la h e f ha hb hl
theorem det_clash {E : Edges} (d : Det E) {g k : Nat} (h : Clash E g k) : g = k := by
  rcases h with ⟨x, a, h1, h2⟩ | ⟨a, z, h1, h2⟩
  · exact (d _ h1 _ h2 rfl).mp rfl
  · exact (d _ h1 _ h2 rfl).mpr rfl
theorem cnt_zero {E : Edges} {N : Nat} (hN : ∀ x, x ∈ rms E → x < N) (h : cnt N E = 0) : Det E := by
  have : ∀ x, x ∉ rms E := fun x hx => by
    have hm : x ∈ (List.range N).filter fun x => decide (x ∈ rms E) := List.mem_filter.mpr ⟨List.mem_range.mpr (hN x hx), decide_eq_true hx⟩
    rw [List.length_eq_zero_iff.mp h] at hm; cases hm
  exact fun e he => absurd (mem_rms.mpr ⟨e, he, .inl rfl⟩) (this _)
theorem low_L4 {s : Nat} (hs : L4 s) : Txt.lower (tx [s]) = tx [if s < 91 then tn s else s] := by rcases hs with rfl | rfl | rfl | rfl <;> decide +kernel
theorem tn_ne {s : Nat} (hs : L4 s) : s ≠ tn s := by rcases hs with rfl | rfl | rfl | rfl <;> decide
theorem up_sm {s : Nat} (hs : s = 97 ∨ s = 98) : Txt.upper (tx [s]) = tx [tn s] := by rcases hs with rfl | rfl <;> decide +kernel
theorem ok_law_folded (T : Told B) (K : List Wd) (h4 : ∀ k ∈ K, W4 k ∧ k ≠ [] ∧ k.length ≤ 100) (hz : K.length ≤ 20) : Ok B 2 d_law_folded p_law_folded (spV [.list (K.map S)] fun r => ∃ E : Edges, r = .list (E.map encE) ∧ FInv K E ∧ Det E) := by
  refine ok_v (h_law_folded T) s_law_folded rfl fun c hr F hro => ?_
  have nd := s_law_folded.nd
  refine sws_cons (sw_par 1 2 (pw_ld (aw_nil (ew_int ?_))))
  refine sws_cons (sw_forM K S (fun i ε => ∃ (E : Edges) (m : Nat) (s3 s4 s5 s6 s7 : Sl), RInv0 K E m ∧ E.length ≤ 100 * i ∧ m ≤ 1 + 100 * i ∧ (∀ k ∈ K.take i, Walks E 0 k 0) ∧ ε = [.dat (.list (K.map S)), .lst (E.map encE), .dat (.int (m : Nat)), s3, s4, s5, s6, s7, .un, .un, .un, .un, .un, .un, .un, .un, .un]) (iw_list (ew_name 0 ⟨_, rfl, rfl⟩))
    ⟨[], 1, .un, .un, .un, .un, .un, ⟨fun e he => (by cases he), ⟨fun _ => [], rfl, fun _ c hc => (by cases hc), fun e he => (by cases he)⟩, fun e he => (by cases he), by decide⟩, Nat.le_refl _, Nat.le_refl _, fun k hk => (by simp at hk), rfl⟩ ?_ ?_)
  · rintro i w ε' hw ⟨E, m, s3, s4, s5, s6, s7, I, lE, lm, hW, rfl⟩
    have hi : i < K.length := (List.getElem?_eq_some_iff.mp hw).1
    have hwK := List.mem_of_getElem? hw
    obtain ⟨w4, wne, wz⟩ := h4 w hwK
    have hlen : 0 < w.length := List.length_pos_iff.mpr wne
    have tkK : K.take (i + 1) = K.take i ++ [w] := by rw [List.take_add_one, hw]; rfl
    refine tw_name 3 (sws_cons (sw_set 4 (ew_int ?_)))
    refine sws_one (sw_forM w.zipIdx (fun q => .tuple [.int (q.2 : Nat), S [q.1]]) (fun j ε => ∃ (E1 : Edges) (m1 here : Nat) (s5 s6 s7 : Sl), ε = [.dat (.list (K.map S)), .lst (E1.map encE), .dat (.int (m1 : Nat)), .dat (S w), .dat (.int (here : Nat)), s5, s6, s7, .un, .un, .un, .un, .un, .un, .un, .un, .un] ∧ (∀ e ∈ E, e ∈ E1) ∧ E1.length = E.length + j ∧ m1 = m + j ∧
      ((j < w.length ∧ RInv K E1 m1 here (w.take j)) ∨ (j = w.length ∧ RInv0 K E1 m1 ∧ Walks E1 0 w 0))) (iw_enumS (b_enumerate T) (ew_name 3 ⟨w, rfl, enum_map w (fun c => S [c])⟩)) ⟨E, m, 0, s5, s6, s7, rfl, fun e h => h, rfl, rfl, .inl ⟨hlen, I.start⟩⟩ ?_ ?_)
    · rintro j q ε' hq ⟨E1, m1, here, s5, s6, s7, rfl, hE1, lE1, lm1, hI⟩
      have hj : j < w.length := by have := (List.getElem?_eq_some_iff.mp hq).1; rw [List.length_zipIdx] at this; exact this
      have ei : q = (w[j], j) := by
        have := hq
        rw [List.getElem?_zipIdx, List.getElem?_eq_getElem hj] at this
        simp at this
        exact this.symm
      subst ei
      have I1 : RInv K E1 m1 here (w.take j) := (hI.resolve_right fun z => by omega).2
      have hs : L4 w[j] := w4 _ (List.getElem_mem hj)
      have tk : w.take (j + 1) = w.take j ++ [w[j]] := by rw [List.take_add_one, List.getElem?_eq_getElem hj]; rfl
      have tkl : j + 1 = w.length → w.take j ++ [w[j]] = w := fun e => by rw [← tk, e, List.take_length]
      generalize w[j] = s at hs tk tkl ⊢
      refine tw_tup (tws_cons (tw_name 5 (tws_cons (tw_name 6 (tws_nil ?_)))))
      refine sws_cons (sw_set 7 (EW.imp (Q := fun d => d = .int ((if j + 1 = w.length then 0 else m1 : Nat) : Nat)) (ew_if (bw_cmp rfl (ew_name 5 (ew_bin (ew_len (b_len T) (ew_name 3 (.inr ⟨w, rfl, by omega, ew_int (op_sub_i (op_eq_i ⟨_, rfl, fun z => ?_, fun z => ?_⟩))⟩))))))) fun r er => ?_))
      · have z := of_decide_eq_true z
        refine ew_int ?_
        rw [if_pos (by omega)]; rfl
      · have z := of_decide_eq_false z
        refine ew_name 2 ?_
        rw [if_neg (by omega)]
      subst er
      refine sws_cons (sw_aug 2 rfl (ew_int (iop_add_i ?_)))
      rw [show ((m1 : Nat) : Int) + 1 = ((m1 + 1 : Nat) : Int) by omega]
      generalize hth : (if j + 1 = w.length then 0 else m1 : Nat) = th
      refine sws_cons (sw_append 1 rfl (by rw [List.length_map]; omega) (EW.imp (Q := fun d => d = encE (edge here s th)) (ew_if (bw_cmp rfl (ew_name 6 (ew_lower (ew_name 6 ⟨tx [s], rfl, by rw [tx_len, List.length_singleton]; decide, ?_⟩))))) fun d ed => ?_))
      · rw [low_L4 hs]
        refine op_eq_s ⟨_, rfl, fun z => ?_, fun z => ?_⟩
        · rw [sing_inj] at z
          have z := of_decide_eq_true z
          have h91 : ¬ s < 91 := fun h => by
            rw [if_pos h] at z
            exact absurd z (tn_ne hs)
          refine ew_tup (aw_cons (ew_name 4 (aw_cons (ew_name 6 (aw_cons (ew_name 7 (aw_nil ?_)))))))
          unfold edge; rw [if_neg h91]; rfl
        · rw [sing_inj] at z
          have z := of_decide_eq_false z
          have h91 : s < 91 := by
            by_cases h : s < 91
            · exact h
            · rw [if_neg h] at z; exact absurd rfl z
          refine ew_tup (aw_cons (ew_name 7 (aw_cons (ew_lower (ew_name 6 ⟨tx [s], rfl, by rw [tx_len, List.length_singleton]; decide, aw_cons (ew_name 4 (aw_nil ?_))⟩)))))
          rw [low_L4 hs, if_pos h91]
          unfold edge; rw [if_pos h91]; rfl
      subst ed
      have em : E1.map encE ++ [encE (edge here s th)] = (E1 ++ [edge here s th]).map encE := by rw [List.map_append]; rfl
      rw [em]
      refine sws_one (sw_set 4 (ew_name 7 ?_))
      by_cases hlast : j + 1 = w.length
      · rw [if_pos hlast] at hth
        subst hth
        have tkw := tkl hlast
        obtain ⟨J0, JW⟩ := I1.close (many' := m1 + 1) hs (by rw [tkw]; exact hwK) (by omega)
        rw [tkw] at JW
        exact ⟨_, m1 + 1, 0, _, _, _, rfl, fun e h => List.mem_append_left _ (hE1 e h), by rw [List.length_append, List.length_singleton]; omega, by omega, .inr ⟨hlast, J0, JW⟩⟩
      · rw [if_neg hlast] at hth
        subst hth
        have J := I1.step hs
        rw [← tk] at J
        exact ⟨_, m1 + 1, m1, _, _, _, rfl, fun e h => List.mem_append_left _ (hE1 e h), by rw [List.length_append, List.length_singleton]; omega, by omega, .inl ⟨by omega, J⟩⟩
    · rintro ε' ⟨E1, m1, here, s5, s6, s7, rfl, hE1, lE1, lm1, hI⟩
      rw [List.length_zipIdx] at hI lE1 lm1
      obtain ⟨_, J0, JW⟩ := hI.resolve_left fun z => by omega
      refine ⟨E1, m1, _, _, s5, s6, s7, J0, by omega, by omega, fun k hk => ?_, rfl⟩
      rw [tkK] at hk
      rcases List.mem_append.mp hk with z | z
      · exact (hW k z).mono hE1
      · cases List.mem_singleton.mp z; exact JW
  rintro ε' ⟨E, N, s3, s4, s5, s6, s7, I, lE, lm, hW, rfl⟩
  rw [List.take_length] at hW
  have hN0 : ∀ x, x ∈ rms E → x < N := fun x hx => by
    obtain ⟨e, he, h⟩ := mem_rms.mp hx
    have := I.r e he
    rcases h with rfl | rfl
    · exact this.1
    · exact this.2
  refine sws_freeze 1 ?_
  refine sws_cons (sw_forM (List.range N) (fun i => .int (i : Nat)) (fun t ε => ∃ (E : Edges) (s8 s9 s10 s11 s12 s13 s14 s15 s16 : Sl), FInv K E ∧ (∀ x, x ∈ rms E → x < N) ∧ E.length ≤ 2000 ∧ (Det E ∨ cnt N E + t ≤ N) ∧ ε = [.dat (.list (K.map S)), .dat (.list (E.map encE)), .dat (.int (N : Nat)), s3, s4, s5, s6, s7, s8, s9, s10, s11, s12, s13, s14, s15, s16])
    (iw_range1 (b_range T) (ew_name 2 ⟨((N : Nat) : Int), rfl, by omega, by omega, by simp⟩)) ⟨E, .un, .un, .un, .un, .un, .un, .un, .un, .un, I.finv hW, hN0, by omega, .inr (cnt_le N E), rfl⟩ ?_ ?_)
  · rintro t x ε' hx ⟨E, s8, s9, s10, s11, s12, s13, s14, s15, s16, FI, hN, lE, hd, rfl⟩
    refine tw_name 8 (sws_cons (sw_set 9 (ew_callJ (k := 1) (hr := hr) (h_law_clash T) (g_law_clash T) (aw_cons (ew_name 1 (aw_nil ⟨_, ok_law_clash T E (by omega), fun r hr' => ?_⟩))))))
    rcases hr' with ⟨rfl, det⟩ | ⟨g, k, rfl, hgk, hc⟩
    · refine sws_one (sw_if (bw_cmp rfl (ew_name 9 (ew_non (op_nis_n (d1 := .none) (.inl rfl) ⟨_, rfl, fun z => (by cases z), fun _ => sws_nil ⟨E, _, _, s10, s11, s12, s13, s14, s15, s16, FI, hN, lE, .inl det, rfl⟩⟩)))))
    · refine sws_one (sw_if (bw_cmp rfl (ew_name 9 (ew_non (op_nis_n (.inr (.inr ⟨_, rfl⟩)) ⟨_, rfl, fun _ => ?_, fun z => (by cases z)⟩)))))
      have hd' : cnt N E + t ≤ N := hd.resolve_left fun d => hgk (det_clash d hc)
      have els : PyData.list [.int (g : Nat), .int (k : Nat)] = .list ([((g : Nat) : Int), ((k : Nat) : Int)].map .int) := rfl
      have key : ∃ lo hi : Nat, hi ≠ 0 ∧ lo ≠ hi ∧ Clash E hi lo ∧ (∀ m : Int, m ∈ [((g : Nat) : Int), ((k : Nat) : Int)] → (∀ y, y ∈ [((g : Nat) : Int), ((k : Nat) : Int)] → m ≤ y) → m = (lo : Nat)) ∧ (∀ m : Int, m ∈ [((g : Nat) : Int), ((k : Nat) : Int)] → (∀ y, y ∈ [((g : Nat) : Int), ((k : Nat) : Int)] → y ≤ m) → m = (hi : Nat)) := by
        have two : ∀ {m : Int}, m ∈ [((g : Nat) : Int), ((k : Nat) : Int)] → m = (g : Nat) ∨ m = (k : Nat) := fun h => by
          rcases List.mem_cons.mp h with h | h
          · exact .inl h
          · exact .inr (List.mem_singleton.mp h)
        rcases Nat.lt_or_gt_of_ne hgk with h | h
        · refine ⟨g, k, by omega, by omega, hc.symm, fun m h1 h2 => ?_, fun m h1 h2 => ?_⟩
          · have := h2 (g : Nat) (by simp); rcases two h1 with e | e <;> omega
          · have := h2 (k : Nat) (by simp); rcases two h1 with e | e <;> omega
        · refine ⟨k, g, by omega, by omega, hc, fun m h1 h2 => ?_, fun m h1 h2 => ?_⟩
          · have := h2 (k : Nat) (by simp); rcases two h1 with e | e <;> omega
          · have := h2 (g : Nat) (by simp); rcases two h1 with e | e <;> omega
      obtain ⟨lo, hi, hi0, lhi, hcl, kmin, kmax⟩ := key
      refine sws_cons (sw_par 10 11 (pw_dd (ew_callB (id := "min") (b_min T) ?_ (hv := by decide +kernel))))
      refine aw_cons (ew_callTy (T := "list") (b_list T) (aw_cons (ew_name 9 (aw_nil (c_list (.inr rfl) (aw_nil ?_))))))
      refine c_min (ns := [((g : Nat) : Int), ((k : Nat) : Int)]) (Nat.succ_pos _) fun m h1 h2 => ?_
      rw [kmin m h1 h2]
      refine ew_callB (id := "max") (b_max T) ?_ (hv := by decide +kernel)
      refine aw_cons (ew_callTy (T := "list") (b_list T) (aw_cons (ew_name 9 (aw_nil (c_list (.inr rfl) (aw_nil ?_))))))
      refine c_max (ns := [((g : Nat) : Int), ((k : Nat) : Int)]) (Nat.succ_pos _) fun m h1 h2 => ?_
      rw [kmax m h1 h2]
      refine sws_cons (sw_set 12 (ew_lst (aw_nil ?_)))
      have sm := FI.sm
      have s128 : ∀ e ∈ E, e.2.1 < 128 := fun e he => by rcases sm e he with h | h <;> omega
      refine sws_cons (sw_forM E encE (fun j ε => ∃ (E' : Edges) (s13 s14 s15 s16 : Sl), (∀ e, e ∈ E' ↔ ∃ f ∈ E.take j, e = mrgE hi lo f) ∧ E'.length ≤ j ∧ ε = [.dat (.list (K.map S)), .dat (.list (E.map encE)), .dat (.int (N : Nat)), s3, s4, s5, s6, s7, .dat (.int (x : Nat)), .dat (.tuple [.int (g : Nat), .int (k : Nat)]), .dat (.int (lo : Nat)), .dat (.int (hi : Nat)), .dat (.list (E'.map encE)), s13, s14, s15, s16])
        (iw_list (ew_name 1 ⟨_, rfl, rfl⟩)) ⟨[], s13, s14, s15, s16, fun e => (by simp), Nat.le_refl _, rfl⟩ ?_ ?_)
      · rintro j ⟨x1, a, y1⟩ ε' hj ⟨E', s13, s14, s15, s16, hE', lE', rfl⟩
        have hjl : j < E.length := (List.getElem?_eq_some_iff.mp hj).1
        have tk : E.take (j + 1) = E.take j ++ [(x1, a, y1)] := by rw [List.take_add_one, hj]; rfl
        have ma := s128 _ (List.mem_of_getElem? hj)
        refine tw_tup (tws_cons (tw_name 13 (tws_cons (tw_name 14 (tws_cons (tw_name 15 (tws_nil ?_)))))))
        refine sws_cons (sw_set 16 (ew_tup (aw_cons (EW.imp (Q := fun d => d = .int ((mrg hi lo x1 : Nat) : Nat)) (ew_if (bw_cmp rfl (ew_name 13 (ew_name 11 (op_eq_i ⟨_, rfl, fun z => ?_, fun z => ?_⟩))))) fun d ed => ?_))))
        · have z := of_decide_eq_true z
          refine ew_name 10 ?_
          rw [show mrg hi lo x1 = lo from if_pos (by omega)]
        · have z := of_decide_eq_false z
          refine ew_name 13 ?_
          rw [show mrg hi lo x1 = x1 from if_neg (by omega)]
        subst ed
        refine aw_cons (ew_name 14 (aw_cons (EW.imp (Q := fun d => d = .int ((mrg hi lo y1 : Nat) : Nat)) (ew_if (bw_cmp rfl (ew_name 15 (ew_name 11 (op_eq_i ⟨_, rfl, fun z => ?_, fun z => ?_⟩))))) fun d ed => aw_nil ?_)))
        · have z : ((y1 : Nat) : Int) = (hi : Nat) := of_decide_eq_true z
          refine ew_name 10 ?_
          rw [show mrg hi lo y1 = lo from if_pos (by omega)]
        · have z : ¬ ((y1 : Nat) : Int) = (hi : Nat) := of_decide_eq_false z
          refine ew_name 15 ?_
          rw [show mrg hi lo y1 = y1 from if_neg (by omega)]
        subst ed
        have ee : PyData.tuple [.int ((mrg hi lo x1 : Nat) : Nat), S [a], .int ((mrg hi lo y1 : Nat) : Nat)] = encE (mrgE hi lo (x1, a, y1)) := rfl
        rw [ee]
        have lay : ∀ e, e = mrgE hi lo (x1, a, y1) ∨ e ∈ E' → (encE e).canLay0 = true ∧ (encE e).depth ≤ 1 := by
          rintro e (rfl | he)
          · exact lay_encE ma
          · obtain ⟨f, hf, rfl⟩ := (hE' e).mp he
            exact lay_encE (s128 f (List.mem_of_mem_take hf))
        refine sws_one (sw_set 12 (ew_bin (ew_name 12 (ew_bin (ew_lst (aw_cons (ew_name 16 (aw_nil (ew_callTy (T := "int") (b_int T) (aw_cons (EW.imp (Q := fun d => ∃ bb : Bool, d = .bool bb ∧ (bb = true ↔ mrgE hi lo (x1, a, y1) ∉ E')) (ew_cmp rfl (ew_name 16 (ew_name 12 (op_nin_enc (by have := hr.un; omega) eqv_encE 1 (by decide) lay ⟨_, rfl, by simp⟩)))) fun d hd => aw_nil ?_)))))))))))
        obtain ⟨bb, rfl, hbb⟩ := hd
        refine c_int_b ?_
        have mem1 : ∀ e, (∃ f ∈ E.take (j + 1), e = mrgE hi lo f) ↔ (∃ f ∈ E.take j, e = mrgE hi lo f) ∨ e = mrgE hi lo (x1, a, y1) := fun e => by
          rw [tk]
          constructor
          · rintro ⟨f, hf, rfl⟩
            rcases List.mem_append.mp hf with q | q
            · exact .inl ⟨f, q, rfl⟩
            · cases List.mem_singleton.mp q; exact .inr rfl
          · rintro (⟨f, hf, rfl⟩ | rfl)
            · exact ⟨f, List.mem_append_left _ hf, rfl⟩
            · exact ⟨_, List.mem_append_right _ (List.mem_singleton.mpr rfl), rfl⟩
        cases bb
        · have hin : mrgE hi lo (x1, a, y1) ∈ E' := Classical.byContradiction fun h => by have := hbb.mpr h; cases this
          refine op_rep_d (n := 0) (by simp) (by decide) (op_cat_d (by rw [List.length_map]; simp; omega) ?_)
          refine ⟨E', .dat (.int (x1 : Nat)), .dat (S [a]), .dat (.int (y1 : Nat)), .dat (encE (mrgE hi lo (x1, a, y1))), fun e => ?_, by omega, ?_⟩
          rotate_left
          · rw [show (List.replicate 0 [encE (mrgE hi lo (x1, a, y1))]).flatten = [] from rfl, List.append_nil]; rfl
          rw [hE' e, mem1 e]
          exact ⟨.inl, fun h => h.elim id fun q => by rw [q]; exact (hE' _).mp hin⟩
        · have hin := hbb.mp rfl
          refine op_rep_d (n := 1) (by simp) (by decide) (op_cat_d (by rw [List.length_map]; simp; omega) ?_)
          refine ⟨E' ++ [mrgE hi lo (x1, a, y1)], .dat (.int (x1 : Nat)), .dat (S [a]), .dat (.int (y1 : Nat)), .dat (encE (mrgE hi lo (x1, a, y1))), fun e => ?_, by rw [List.length_append, List.length_singleton]; omega, ?_⟩
          rotate_left
          · rw [List.map_append]; rfl
          rw [mem1 e, List.mem_append, List.mem_singleton, hE' e]
      · rintro ε' ⟨E', s13, s14, s15, s16, hE', lE', rfl⟩
        rw [List.take_length] at hE'
        refine sws_one (sw_set 1 (ew_callTy (T := "list") (b_list T) (aw_cons (ew_name 12 (aw_nil (c_list (.inl rfl) ?_))))))
        have hE2 : ∀ e, e ∈ E' ↔ ∃ f ∈ E, e = (mrg hi lo f.1, f.2.1, mrg hi lo f.2.2) := hE'
        have hcn := cnt_lt hcl (fun z => lhi z.symm) hN hE2
        exact ⟨E', _, _, _, _, _, s13, s14, s15, s16, fold_inv FI hcl hi0 hE2, fun y hy => hN y (mrg_rms hcl (fun z => lhi z.symm) hE2 y hy).1, by omega, .inr (by omega), rfl⟩
  · rintro ε' ⟨E, s8, s9, s10, s11, s12, s13, s14, s15, s16, FI, hN, lE, hd, rfl⟩
    rw [List.length_range] at hd
    refine sws_one (sw_ret (ew_name 1 ⟨E, rfl, FI, hd.elim id fun h => cnt_zero hN (by omega)⟩))
end K78
/-! K78: walks: the law's word on what is told. -/
namespace K78
open PySem PySem.Spec L2
variable {B : Bs}
theorem ok_law_room (T : Told B) (E : Edges) (sm : Sm E) (x s : Nat) (hs : L4 s) : Ok B 1 d_law_room p_law_room (spV [.list (E.map encE), .int (x : Nat), S [s]] fun r => (r = .none ∧ ∀ y, ¬ St E x s y) ∨ ∃ y : Nat, r = .int (y : Nat) ∧ St E x s y) := by
  refine ok_v (h_law_room T) s_law_room rfl fun c hr F hro => ?_
  have nd := s_law_room.nd
  refine sws_cons (sw_forM E encE (fun i ε => (∃ s1 s2 s3 : Sl, ε = [.dat (.list (E.map encE)), .dat (.int (x : Nat)), .dat (S [s]), s1, s2, s3]) ∧ ∀ e ∈ E.take i, ¬ (e.2.1 = s ∧ e.1 = x) ∧ ¬ (e.2.1 = tn s ∧ e.2.2 = x)) (iw_list (ew_name 0 ⟨_, rfl, rfl⟩)) ⟨⟨_, _, _, rfl⟩, fun e he => by simp at he⟩ ?_ ?_)
  · rintro i ⟨x1, a, y1⟩ ε' hx ⟨⟨s1, s2, s3, rfl⟩, hI⟩
    have m1 := List.mem_of_getElem? hx
    have ha : a = 97 ∨ a = 98 := sm _ m1
    have a4 : L4 a := by unfold L4; omega
    have tk : E.take (i + 1) = E.take i ++ [(x1, a, y1)] := by rw [List.take_add_one, hx]; rfl
    refine tw_tup (tws_cons (tw_name 3 (tws_cons (tw_name 4 (tws_cons (tw_name 5 (tws_nil ?_)))))))
    have nxt : ¬ (a = s ∧ x1 = x) → ¬ (a = tn s ∧ y1 = x) → (∃ s1 s2 s3 : Sl, [Sl.dat (.list (E.map encE)), .dat (.int (x : Nat)), .dat (S [s]), .dat (.int (x1 : Nat)), .dat (S [a]), .dat (.int (y1 : Nat))] = [.dat (.list (E.map encE)), .dat (.int (x : Nat)), .dat (S [s]), s1, s2, s3]) ∧ ∀ e ∈ E.take (i + 1), ¬ (e.2.1 = s ∧ e.1 = x) ∧ ¬ (e.2.1 = tn s ∧ e.2.2 = x) := fun n1 n2 => by
      refine ⟨⟨_, _, _, rfl⟩, fun e he => ?_⟩
      rw [tk] at he
      rcases List.mem_append.mp he with q | q
      · exact hI e q
      · cases List.mem_singleton.mp q; exact ⟨n1, n2⟩
    have second : ¬ (a = s ∧ x1 = x) → SWs (cx B d_law_room n_law_room c) F ((match d_law_room.body with | .For _ _ b _ _ :: _ => b | _ => []).drop 1) [.dat (.list (E.map encE)), .dat (.int (x : Nat)), .dat (S [s]), .dat (.int (x1 : Nat)), .dat (S [a]), .dat (.int (y1 : Nat))]
        ⟨fun ε => (∃ s1 s2 s3 : Sl, ε = [.dat (.list (E.map encE)), .dat (.int (x : Nat)), .dat (S [s]), s1, s2, s3]) ∧ ∀ e ∈ E.take (i + 1), ¬ (e.2.1 = s ∧ e.1 = x) ∧ ¬ (e.2.1 = tn s ∧ e.2.2 = x), fun r _ => (r = .none ∧ ∀ y, ¬ St E x s y) ∨ ∃ y : Nat, r = .int (y : Nat) ∧ St E x s y, fun _ => False, fun _ => False⟩ := fun n1 => by
      refine sws_one (sw_if (bw_w (bww_and (bw_cmp rfl (ew_name 2 (ew_upper (ew_name 4 ⟨tx [a], rfl, by rw [tx_len, List.length_singleton]; decide, ?_⟩)))))))
      rw [up_sm ha]
      refine op_eq_s ⟨_, rfl, fun z => ?_, fun z => ⟨fun y => (by cases y), fun _ => sws_nil (nxt n1 fun h => ?_)⟩⟩
      · rw [sing_inj] at z
        have z : s = tn a := of_decide_eq_true z
        have z2 : tn s = a := by rw [z, tn_tn a4]
        refine bww_and1 (bw_cmp rfl (ew_name 5 (ew_name 1 (op_eq_i ⟨_, rfl, fun z3 => sws_one (sw_ret (ew_name 3 (.inr ⟨x1, rfl, .inr ?_⟩))), fun z3 => sws_nil (nxt n1 fun h => ?_)⟩))))
        · have z3 : ((y1 : Nat) : Int) = (x : Nat) := of_decide_eq_true z3
          have z3 : y1 = x := by omega
          rw [z2, ← z3]; exact m1
        · exact (of_decide_eq_false z3) (by rw [h.2])
      · rw [sing_inj] at z
        exact (of_decide_eq_false z) (by rw [h.1, tn_tn hs])
    refine sws_cons (sw_if (bw_w (bww_and (bw_cmp rfl (ew_name 2 (ew_name 4 (op_eq_s ⟨_, rfl, fun z => ?_, fun z => ?_⟩)))))))
    · rw [sing_inj] at z
      have z := of_decide_eq_true z
      refine bww_and1 (bw_cmp rfl (ew_name 3 (ew_name 1 (op_eq_i ⟨_, rfl, fun z1 => ?_, fun z1 => sws_nil ?_⟩))))
      · have z1 := of_decide_eq_true z1
        have z1 : x1 = x := by omega
        refine sws_one (sw_ret (ew_name 5 (.inr ⟨y1, rfl, .inl ?_⟩)))
        rw [z, ← z1]; exact m1
      · have z1 := of_decide_eq_false z1
        have := second fun h => z1 (by rw [h.2])
        intro hd Hb H σ S' D k
        exact this hd Hb H σ S' D ⟨k.nx, fun _ _ _ _ _ _ z => z.elim, fun _ _ _ _ _ _ z => z.elim, k.rt⟩
    · rw [sing_inj] at z
      have z := of_decide_eq_false z
      refine ⟨fun y => (by cases y), fun _ => sws_nil ?_⟩
      have := second fun h => z h.1.symm
      intro hd Hb H σ S' D k
      exact this hd Hb H σ S' D ⟨k.nx, fun _ _ _ _ _ _ z => z.elim, fun _ _ _ _ _ _ z => z.elim, k.rt⟩
  · rintro ε' ⟨⟨s1, s2, s3, rfl⟩, hI⟩
    rw [List.take_length] at hI
    refine sws_one (sw_ret (ew_non (.inl ⟨rfl, fun y h => ?_⟩)))
    rcases h with h | h
    · exact (hI _ h).1 ⟨rfl, rfl⟩
    · exact (hI _ h).2 ⟨rfl, rfl⟩
theorem ok_law_told_turned (T : Told B) (K : List Wd) (w : Wd) (hw : W4 w) (hz : w.length ≤ 100) (h4 : ∀ k ∈ K, W4 k ∧ k ≠ [] ∧ k.length ≤ 100) (hk : K.length ≤ 20) : Ok B 3 d_law_told_turned p_law_told_turned (spV [.list (K.map S), S w] (BoolI (Gen K w))) := by
  refine ok_v (h_law_told_turned T) s_law_told_turned rfl fun c hr F hro => ?_
  have nd := s_law_told_turned.nd
  refine sws_cons (sw_par 2 3 (pw_dd (ew_callJ (k := 2) (hr := hr) (h_law_folded T) (g_law_folded T) (aw_cons (ew_name 0 (aw_nil ⟨_, ok_law_folded T K h4 hk, fun r hr' => ?_⟩))))))
  obtain ⟨E, rfl, FI, det⟩ := hr'
  have sm := FI.sm
  have ti := told_iff FI det hw
  refine ew_int ?_
  have r4 := hw.red
  have rz := red_len w
  generalize hu : red w = u at r4 rz ti
  refine sws_cons (sw_forM u (fun c => S [c]) (fun i ε => ∃ (r : PyData) (s4 : Sl), ((r = .none ∧ ∀ y, ¬ Walks E 0 (u.take i) y) ∨ ∃ y : Nat, r = .int (y : Nat) ∧ Walks E 0 (u.take i) y) ∧ ε = [.dat (.list (K.map S)), .dat (S w), .dat (.list (E.map encE)), .dat r, s4])
    ?_ ⟨.int 0, .un, .inr ⟨0, rfl, .nil⟩, rfl⟩ ?_ ?_)
  · refine iw_str (ew_lshort T (ew_name 1 ⟨w, rfl, hw, by omega, tx u, by rw [hu], rfl⟩) (hr.mono (by decide)))
  · rintro i s ε' hs ⟨r, s4, hr', rfl⟩
    have hsl : L4 s := r4 s (List.mem_of_getElem? hs)
    have tk : u.take (i + 1) = u.take i ++ [s] := by rw [List.take_add_one, hs]; rfl
    refine tw_name 4 (sws_one (sw_set 3 (EW.imp (Q := fun r => (r = .none ∧ ∀ y, ¬ Walks E 0 (u.take (i + 1)) y) ∨ ∃ y : Nat, r = .int (y : Nat) ∧ Walks E 0 (u.take (i + 1)) y) ?_ fun d hd => ⟨d, _, hd, rfl⟩)))
    rcases hr' with ⟨rfl, no⟩ | ⟨y, rfl, hW⟩
    · refine ew_if (bw_cmp rfl (ew_name 3 (ew_non (op_is_n (d1 := .none) (.inl rfl) ⟨_, rfl, fun _ => ew_non (.inl ⟨rfl, fun y h => ?_⟩), fun z => (by cases z)⟩))))
      rw [tk] at h
      obtain ⟨m, hm, _⟩ := h.last
      exact no m hm
    · refine ew_if (bw_cmp rfl (ew_name 3 (ew_non (op_is_n (d1 := .int (y : Nat)) (.inl rfl) ⟨_, rfl, fun z => (by cases z), fun _ => ?_⟩))))
      refine ew_callJ (k := 1) (hr := hr.mono (by decide)) (h_law_room T) (g_law_room T) (aw_cons (ew_name 2 (aw_cons (ew_name 3 (aw_cons (ew_name 4 (aw_nil ⟨_, ok_law_room T E sm y s hsl, fun r hr2 => ?_⟩)))))))
      rcases hr2 with ⟨rfl, no⟩ | ⟨y2, rfl, hS⟩
      · refine .inl ⟨rfl, fun z h => ?_⟩
        rw [tk] at h
        obtain ⟨m, hm, _, hst⟩ := h.last
        rw [walks_det det sm hW hm] at no
        exact no z hst
      · refine .inr ⟨y2, rfl, ?_⟩
        rw [tk]; exact .snoc hW hsl hS
  · rintro ε' ⟨r, s4, hr', rfl⟩
    rw [List.take_length] at hr'
    rcases hr' with ⟨rfl, no⟩ | ⟨y, rfl, hW⟩
    · refine sws_one (sw_ret (ew_cmp rfl (ew_name 3 (ew_int (op_eq_f rfl rfl rfl ⟨false, ?_, fun z => (by cases z), fun h => absurd (ti.mpr h) (no 0)⟩)))))
      rfl
    · refine sws_one (sw_ret (ew_cmp rfl (ew_name 3 (ew_int (op_eq_i ⟨_, rfl, fun z => ?_, fun h => ?_⟩)))))
      · have z : ((y : Nat) : Int) = 0 := of_decide_eq_true z
        have z : y = 0 := by omega
        subst z
        exact ti.mp hW
      · rw [walks_det det sm hW (ti.mpr h)]; rfl
theorem ok_law_is_told (T : Told B) (m : Mn) (ks : List Tx) (t : Tx) (h : FitM m ks t) : Ok B 6 d_law_is_told p_law_is_told (spV [S m.w, .list ((ks.map Tx.un).map S), S t.un] (BoolI (TellsP m ks t))) := by
  refine ok_v (h_law_is_told T) s_law_is_told rfl fun c hr F hro => ?_
  have nd := s_law_is_told.nd
  obtain ⟨gt, st, zt, gk, z⟩ := h
  have hz : (ks.map Tx.un).length ≤ 20 := by rw [List.length_map]; exact z
  cases m with
  | any =>
    refine sws_cons (sw_if (bw_cmp rfl (ew_name 0 (ew_tx Mn.any.w (op_eq_s ⟨_, rfl, fun _ => ?_, fun y => ?_⟩)))))
    rotate_left
    · exact absurd y (by decide)
    refine sws_one (sw_ret (ew_inN (n := 3) (h_law_reached T) (g_law_reached T) (by have := hr.units; omega) (ew_len (b_len T) (ew_ix (ew_lread T (ew_name 2 ⟨t, rfl, gt, ew_int (ix_t (d := .list (sing t.ls)) rfl (.inl ⟨sing t.ls, .inl rfl, ?_⟩))⟩) (hr.mono (by decide))))) (hr.mono (by decide))))
    rw [List.length_map]
    refine aw_cons (ew_name 2 (aw_cons (ew_name 1 (aw_nil ⟨_, encK t.ls.length, rfl, ok_law_reached T t ks gt (fun k hk => (gk k hk).1) z, fun kvs hk => ⟨_, rfl, hk t.ls.length⟩⟩))))
  | matched =>
    refine sws_cons (sw_if (bw_cmp rfl (ew_name 0 (ew_tx Mn.any.w (op_eq_s ⟨_, rfl, fun y => ?_, fun _ => sws_nil ?_⟩)))))
    · exact absurd y (by decide)
    refine sws_one (sw_ret (ew_if (bw_cmp rfl (ew_name 0 (ew_tx Mn.matched.w (op_eq_s ⟨_, rfl, fun _ => ?_, fun y => ?_⟩))))))
    rotate_left
    · exact absurd y (by decide)
    refine ew_callJ (k := 4) (hr := hr.mono (by decide)) (h_law_told_tree T) (g_law_told_tree T) (aw_cons (ew_name 1 (aw_cons (ew_name 2 (aw_nil ⟨_, ok_law_told_tree T (ks.map Tx.un) t.un (un_W gt st) zt (fun k hk => ?_) hz, fun r hr' => hr'⟩)))))
    obtain ⟨k0, hk0, rfl⟩ := List.mem_map.mp hk
    obtain ⟨g, s, l⟩ := gk k0 hk0
    exact ⟨un_W g s, l⟩
  | turned =>
    refine sws_cons (sw_if (bw_cmp rfl (ew_name 0 (ew_tx Mn.any.w (op_eq_s ⟨_, rfl, fun y => ?_, fun _ => sws_nil ?_⟩)))))
    · exact absurd y (by decide)
    refine sws_one (sw_ret (ew_if (bw_cmp rfl (ew_name 0 (ew_tx Mn.matched.w (op_eq_s ⟨_, rfl, fun y => ?_, fun _ => ?_⟩))))))
    · exact absurd y (by decide)
    refine ew_callJ (k := 3) (hr := hr.mono (by decide)) (h_law_told_turned T) (g_law_told_turned T) (aw_cons (ew_name 1 (aw_cons (ew_name 2 (aw_nil ⟨_, ok_law_told_turned T (ks.map Tx.un) t.un (un_W gt st) (by omega) (fun k hk => ?_) hz, fun r hr' => hr'⟩)))))
    obtain ⟨k0, hk0, rfl⟩ := List.mem_map.mp hk
    obtain ⟨g, s, l⟩ := gk k0 hk0
    exact ⟨un_W g s, g.un_ne, by omega⟩
end K78
/-! K78: walks: same, the script's state; plain: lists with the same items, sorted. -/
namespace K78
open PySem PySem.Spec L2
variable {B : Bs}
theorem perm_nodup {α : Type} [DecidableEq α] {xs ys : List α} (hx : xs.Nodup) (hy : ys.Nodup) (h : ∀ a, a ∈ xs ↔ a ∈ ys) : xs.Perm ys := (List.perm_ext_iff_of_nodup hx hy).mpr fun a => h a
theorem sort_perm {xs ys : List (List Int)} (h : xs.Perm ys) : (xs.mergeSort fun p q => decide (p ≤ q)) = ys.mergeSort fun p q => decide (p ≤ q) := by
  have tr : ∀ a b c : List Int, decide (a ≤ b) = true → decide (b ≤ c) = true → decide (a ≤ c) = true := fun a b c h1 h2 => decide_eq_true (List.le_trans (of_decide_eq_true h1) (of_decide_eq_true h2))
  have tt : ∀ a b : List Int, (decide (a ≤ b) || decide (b ≤ a)) = true := fun a b => by
    rcases List.le_total a b with h | h
    · rw [decide_eq_true h]; rfl
    · rw [decide_eq_true h, Bool.or_true]
  refine List.Perm.eq_of_pairwise (le := fun p q => decide (p ≤ q) = true) (fun a b _ _ h1 h2 => List.le_antisymm (of_decide_eq_true h1) (of_decide_eq_true h2)) (List.pairwise_mergeSort tr tt xs) (List.pairwise_mergeSort tr tt ys) ?_
  exact ((List.mergeSort_perm xs _).trans h).trans (List.mergeSort_perm ys _).symm
theorem list_choose {α β : Type} {f : α → β} {P : α → Prop} : ∀ (l : List β), (∀ w ∈ l, ∃ k, P k ∧ f k = w) → ∃ ks : List α, ks.map f = l ∧ ∀ k ∈ ks, P k
  | [], _ => ⟨[], rfl, fun k hk => by cases hk⟩
  | w :: l, h => by
    obtain ⟨k, h1, h2⟩ := h w (List.mem_cons_self ..)
    obtain ⟨ks, e, hk⟩ := list_choose l fun x hx => h x (List.mem_cons_of_mem _ hx)
    refine ⟨k :: ks, by rw [List.map_cons, h2, e], fun x hx => ?_⟩
    rcases List.mem_cons.mp hx with rfl | q
    · exact h1
    · exact hk x q
def toI (g : List Nat) : List Int := g.map fun n => ((n : Nat) : Int)
theorem dI_toI (g : List Nat) : dI g = .list ((toI g).map .int) := by unfold dI toI; rw [List.map_map]; rfl
theorem rows_dI (gs : List (List Nat)) : gs.map dI = rows (gs.map toI) := by
  unfold rows
  rw [List.map_map]
  exact List.map_congr_left fun g _ => dI_toI g
/-! ### the same -/
theorem zip_self {α β : Type} (f : α → α → β) : ∀ xs : List α, List.zipWith f xs xs = xs.map fun x => f x x
  | [] => rfl
  | x :: xs => by rw [List.zipWith_cons_cons, zip_self f xs]; rfl
theorem ok_same_int (T : Told B) (i : Int) : Ok B 1 d_law_same p_law_same (spV [.int i, .int i] fun r => r = .bool true) := by
  refine ok_v (h_law_same T) s_law_same rfl fun c hr F hro => ?_
  have nd := s_law_same.nd
  refine sws_cons (sw_if (bw_val (ew_isi2 (T := "list") (U := "tuple") (b1 := fun _ => false) (b2 := fun _ => false) (b_isinstance T) (b_list T) (b_tuple T) (ew_name 1 ⟨rfl, rfl, false, rfl, fun z => (by cases z), fun _ => sws_nil ?_⟩))))
  refine sws_cons (sw_if (bw_val (ew_isi (T := "int") (b := fun _ => true) (b_isinstance T) (b_int T) (ew_name 1 ⟨rfl, true, rfl, fun _ => ?_, fun z => (by cases z)⟩))))
  refine sws_one (sw_ret (ew_and (ew_isi (T := "int") (b := fun _ => true) (b_isinstance T) (b_int T) (ew_name 0 ⟨rfl, true, rfl, fun _ => ?_, fun z => (by cases z)⟩))))
  refine ew_and (ew_cmp rfl (ew_isi (T := "bool") (b := fun _ => false) (b_isinstance T) (b_bool T) (ew_name 0 ⟨rfl, ew_isi (T := "bool") (b := fun _ => false) (b_isinstance T) (b_bool T) (ew_name 1 ⟨rfl, op_eq_b ⟨true, rfl, fun _ => ?_, fun z => (by cases z)⟩⟩)⟩)))
  refine ew_one (ew_cmp rfl (ew_name 0 (ew_name 1 (op_eq_i ?_))))
  rw [decide_eq_true rfl]
theorem ok_same_list (T : Told B) (k : Nat) (ds : List PyData) (hz : ds.length ≤ 1000000) (h : ∀ d ∈ ds, Ok B k d_law_same p_law_same (spV [d, d] fun r => r = .bool true)) : Ok B (k + 1) d_law_same p_law_same (spV [.list ds, .list ds] fun r => r = .bool true) := by
  refine ok_v (h_law_same T) s_law_same rfl fun c hr F hro => ?_
  have nd := s_law_same.nd
  refine sws_cons (sw_if (bw_val (ew_isi2 (T := "list") (U := "tuple") (b1 := fun _ => true) (b2 := fun _ => false) (b_isinstance T) (b_list T) (b_tuple T) (ew_name 1 ⟨rfl, rfl, true, rfl, fun _ => ?_, fun z => (by cases z)⟩))))
  refine sws_cons (sw_if (bw_w (bww_or (bw_cmp rfl (ew_isi (T := "list") (b := fun _ => true) (b_isinstance T) (b_list T) (ew_name 0 ⟨rfl, ew_isi (T := "list") (b := fun _ => true) (b_isinstance T) (b_list T) (ew_name 1 ⟨rfl, op_ne_b ⟨false, rfl, fun z => (by cases z), fun _ => ?_⟩⟩)⟩))))))
  refine bww_or1 (bw_cmp rfl (ew_isi (T := "tuple") (b := fun _ => false) (b_isinstance T) (b_tuple T) (ew_name 0 ⟨rfl, ew_isi (T := "tuple") (b := fun _ => false) (b_isinstance T) (b_tuple T) (ew_name 1 ⟨rfl, op_ne_b ⟨false, rfl, fun z => (by cases z), fun _ => sws_nil ?_⟩⟩)⟩)))
  refine sws_one (sw_ret (ew_and (ew_cmp rfl (ew_len (b_len T) (ew_name 0 (.inl ⟨ds, .inl rfl, ew_len (b_len T) (ew_name 1 (.inl ⟨ds, .inl rfl, op_eq_i ⟨_, rfl, fun _ => ?_, fun z => ?_⟩⟩))⟩))))))
  · refine ew_one (ew_allc ds (fun _ => true) (b_all T) (ew_lc [("_law_a", 2), ("_law_b", 3)] (lcw_of ds (fun d => .tuple [d, d]) (fun _ => .bool true) (fun _ => true) (iw_zip (b_zip T) (ew_name 0 (ew_name 1 ⟨ds, ds, rfl, rfl, zip_self _ ds, by omega, fun d hd s1 H1 C1 cl1 fp1 => ?_, ?_⟩))))))
    · refine two_tup (twos_cons (two_name 2 (twos_cons (two_name 3 (twos_nil ?_)))))
      intro s2 H2 C2 cl2 fp2
      exact bws_nil ⟨rfl, fun _ s3 H3 C3 cl3 fp3 => ew_callJ (k := k) (hr := hr) (h_law_same T) (g_law_same T) (aw_cons (ew_name 2 (aw_cons (ew_name 3 (aw_nil ⟨_, h d hd, fun r hr' => hr'⟩)))))⟩
    · rw [List.filter_eq_self.mpr fun _ _ => rfl]
      refine ⟨rfl, ?_⟩
      rw [List.all_eq_true.mpr fun _ _ => rfl]
  · exact absurd rfl (of_decide_eq_false z)
theorem ok_same_rows (T : Told B) (bs : List (List Int)) (hz : bs.length ≤ 1000000) (h : ∀ b ∈ bs, b.length ≤ 1000000) : Ok B 3 d_law_same p_law_same (spV [.list (rows bs), .list (rows bs)] fun r => r = .bool true) := by
  refine ok_same_list T 2 (rows bs) (by unfold rows; rw [List.length_map]; exact hz) fun d hd => ?_
  obtain ⟨b, hb, rfl⟩ := List.mem_map.mp hd
  refine ok_same_list T 1 (b.map .int) (by rw [List.length_map]; exact h b hb) fun d hd => ?_
  obtain ⟨i, _, rfl⟩ := List.mem_map.mp hd
  exact ok_same_int T i
end K78
/-! K78: the state made; a pair of names, the second a new list. -/
namespace K78
open PySem PySem.Spec L2
variable {B : Bs}
def spFr (K : Frag) : Sp := fun vs H Q _ => ∃ (a : Addr) (ns : List Int), vs = [.ref a] ∧ SqL K H a (ns.map V.int) ∧ ns.length ≤ 63 ∧ ∀ A cc H', Same H H' → H cc = none → H A = none → A ≠ cc → H' cc = some (.lst (ns.map .int)) → H' A = some (.lst [.ref cc, .int 0, .int 0, .bl false]) → Q (.ref A) H'
theorem cutV_all (xs : List V) (h : xs.length ≤ 63) : cutV xs none (some 63) = xs := by
  have e : cutV xs none (some 63) = cutD xs none (some 63) := rfl
  rw [e, show ((63 : Int)) = ((63 : Nat) : Int) from rfl, cut_to, List.take_of_length_le h]
theorem ok_fresh (T : Told B) : Ok B 1 d_law_fresh p_law_fresh (spFr B.K) := by
  refine ok_of (h_law_fresh T) s_law_fresh (fun vs H Q E ⟨a, ns, e, _⟩ => by rw [e]; rfl) fun c hr H vs Q ⟨a, ns, e, hS, hz, q⟩ => ?_
  subst e
  have nd := s_law_fresh.nd
  refine pss_run (pss_one (ps_ret (pe_lst (pa_cons (pe_slice sl_list (pe_var (i := 0) rfl (by first | exact Or.inl rfl | exact Or.inr (Or.inl rfl) | exact Or.inr (Or.inr rfl))) po_none (po_some pe_int)) (pa_cons pe_int (pa_cons pe_int (pa_cons pe_bl pa_nil rfl) rfl) rfl) rfl)))) ?_
  refine ⟨_, rfl, ?_⟩
  refine ⟨63, rfl, a, _, rfl, hS, fun p hp => ?_⟩
  rw [cutV_all _ (by rw [List.length_map]; exact hz)]
  refine ⟨by show 4 ≤ sizeLine; decide, fun A hA => ?_⟩
  have ne : A ≠ p := fun z => by subst z; rw [upd_same] at hA; cases hA
  have hA0 : H A = none := by rw [upd_ne ne] at hA; exact hA
  exact q A p _ ((same_new hp).trans (same_new hA)) hp hA0 ne (by rw [upd_ne fun z => ne z.symm, upd_same]) upd_same
section
variable {X : Cx} {F : Fm} {ε : Env} {R : ER} {a : Expr} {pos : Pos}
/-- x, y = e, []: by a tuple -/
theorem sw_asgDN (i j : Nat) {x y : Str} {px py pt pt2 pc : Pos} {kt k2 : Nat} (h : EW X F a ε fun d => R.nx ((ε.set i (.dat d)).set j (.lst []))) (hc : X.calm = true := by rfl) (hN : X.N.Nodup := by first | assumption | decide +kernel) (hi : X.N[i]? = some x := by rfl) (hj : X.N[j]? = some y := by rfl)
    (hx : L2.Loc X.env.scope x := by first | exact .inl rfl | exact .inr rfl) (hf : X.fn x = true ∨ X.env.scope.names.lookup x = some .local := by first | exact .inl rfl | exact .inr rfl) (hy : L2.Loc X.env.scope y := by first | exact .inl rfl | exact .inr rfl) (hf2 : X.fn y = true ∨ X.env.scope.names.lookup y = some .local := by first | exact .inl rfl | exact .inr rfl)
    (hw : swappedStores [.Tuple [.Name x px, .Name y py] kt pt] (.Tuple [a, .List [] pc] k2 pt2) X.env = pure none := by rfl) (hs : swapsWithSole [.Tuple [.Name x px, .Name y py] kt pt] (.Tuple [a, .List [] pc] k2 pt2) pos.line X.env = pure false := by rfl)
    (h1 : (assignEach [.Tuple [.Name x px, .Name y py] kt pt] X.env).map (·.2) = [assign (.Tuple [.Name x px, .Name y py] kt pt) X.env] := by rfl) (hn : (assignEach [.Name x px, .Name y py] X.env).length = 2 := by rfl) (hst : (assignEach [.Name x px, .Name y py] X.env).findIdx? (·.1) = none := by rfl)
    (s1 : starEach [a, .List [] pc] X.env = (false, eval a X.env) :: starEach [.List [] pc] X.env := by rfl) (s2 : starEach [.List [] pc] X.env = (false, eval (.List [] pc) X.env) :: starEach [] X.env := by rfl)
    (g1 : (assignEach [.Name x px, .Name y py] X.env).map (·.2) = assign (.Name x px) X.env :: (assignEach [.Name y py] X.env).map (·.2) := by rfl) (g2 : (assignEach [.Name y py] X.env).map (·.2) = assign (.Name y py) X.env :: (assignEach [] X.env).map (·.2) := by rfl) :
    SW X F (.Assign [.Tuple [.Name x px, .Name y py] kt pt] (.Tuple [a, .List [] pc] k2 pt2) pos) ε R := fun hd Hb H σ S D kk => by
  refine ps_run (ps_asg (pe_tup (pa_cons pe_sem (pa_cons (pe_lst pa_nil) pa_nil s2) s1)) (pg_tup hc (pgs_cons (pg_name hN hi hx hf) (pgs_cons (pg_name hN hj hy hf2) pgs_nil g2) g1) hn hst) hs hw h1) (h hd Hb H σ S _ fun v1 d1 Hb1 H1 S1 gg1 r1 q => ⟨Nat.zero_le _, fun p1 np1 => ⟨by show 2 ≤ sizeLine; decide, fun p2 np2 => ?_⟩⟩)
  refine ⟨p2, _, rfl, SqT.of upd_same, rfl, _, _, rfl, ?_⟩
  refine ⟨_, _, rfl, ?_⟩
  have S2 := ((S1.setDat (i := i) r1).setNew (i := j) (o := .lst []) (x := .lst []) np1 ⟨[], rfl, .nil⟩)
  exact ⟨rfl, kk.nx _ _ _ _ gg1.b (S2.grow (Gr.tmp S2.si np2)) q⟩
end
end K78
/-! K78: walks: the law. -/
namespace K78
open PySem PySem.Spec L2
variable {B : Bs}
/-- hands from texts -/
theorem hands_of {m : Mn} {ks : List Tx} {t : Tx} (hk : KeptOk m ks t) {ys : List (Bool × List Wd)} (hz : ys.length ≤ 5) (hs : ∀ y ∈ ys, y.2.Sublist (ks.map Tx.un)) : ∃ hs : List Hand, hs.map (fun h => (h.1, h.us)) = ys ∧ HandsOk m hs := by
  obtain ⟨hs, e, hp⟩ := list_choose (f := fun h : Hand => (h.1, h.us)) (P := fun h : Hand => HandOk m h ∧ ∀ t ∈ h.2, t.un.length ≤ 40) ys fun y hy => by
    have sub := hs y hy
    obtain ⟨ts, et, ht⟩ := uns_of (P := fun k => Good k ∧ Suit m k ∧ k.un.length ≤ 40) y.2 fun w hw => by
      obtain ⟨k, hk1, rfl⟩ := List.mem_map.mp (sub.subset hw)
      exact ⟨k, hk.gk k hk1, rfl⟩
    refine ⟨(y.1, ts), ⟨⟨?_, fun t ht' => ⟨(ht t ht').1, (ht t ht').2.1⟩, ?_⟩, fun t ht' => (ht t ht').2.2⟩, ?_⟩
    · have l1 := sub.length_le
      rw [List.length_map] at l1
      have l2 : ts.length = y.2.length := by rw [← et, List.length_map]
      have := hk.z
      show ts.length ≤ 4
      omega
    · show (ts.map Tx.un).Nodup
      rw [et]; exact sub.nodup hk.nd
    · show (y.1, ts.map Tx.un) = y
      rw [et]
  refine ⟨hs, e, ⟨?_, fun h hh => (hp h hh).1, fun h hh => (hp h hh).2⟩⟩
  have : hs.length = ys.length := by rw [← e, List.length_map]
  omega
theorem subs_len (n : Nat) : (subs n).length = 2 ^ n := by
  have e := (subs_fold (List.range n) [[]] 0 (by simp)).1
  rw [List.length_range, List.length_singleton, Nat.one_mul] at e
  exact e
/-- the law's filter gives the least ones -/
theorem due_least {n : Nat} {P : List Nat → Prop} {rs : List (List Nat)} (hr : ∀ g, g ∈ rs ↔ g ∈ subs n ∧ P g) (g : List Nat) : g ∈ rs.filter (fun x => !(rs.any fun y => !decide (y = x) && y.all fun k => decide (k ∈ x))) ↔ Least n P g := by
  rw [List.mem_filter]
  constructor
  · rintro ⟨h1, h2⟩
    obtain ⟨a, b⟩ := (hr g).mp h1
    refine ⟨a, b, fun h hh hP hs => ?_⟩
    by_cases e : h = g
    · exact e
    exfalso
    have : (rs.any fun y => !decide (y = g) && y.all fun k => decide (k ∈ g)) = true := List.any_eq_true.mpr ⟨h, (hr h).mpr ⟨hh, hP⟩, by rw [decide_eq_false e]; exact List.all_eq_true.mpr fun k hk => decide_eq_true (hs k hk)⟩
    rw [this] at h2; cases h2
  · intro L
    refine ⟨(hr g).mpr ⟨L.1, L.2.1⟩, ?_⟩
    have : (rs.any fun y => !decide (y = g) && y.all fun k => decide (k ∈ g)) = false := by
      rw [List.any_eq_false]
      intro y hy hc
      obtain ⟨a, b⟩ := (hr y).mp hy
      rw [Bool.and_eq_true] at hc
      have e := L.2.2 y a b fun x hx => of_decide_eq_true (List.all_eq_true.mp hc.2 x hx)
      rw [e] at hc
      simp at hc
    rw [this]; rfl
theorem eqv_nat (x y : Nat) : PyData.eqv (.int (x : Nat)) (.int (y : Nat)) = decide (x = y) := by
  rw [eqv_i]; exact decide_eq_decide.mpr (by omega)
theorem law_rest (T : Told B) (c : Fr) (hr : Room 131 (cx B d_law n_law c).A) (F : Fm) (A : Addr) (hro : ¬ F.ro) (hF : IsS A F) : SWs (cx B d_law n_law c) F (d_law.body.drop 1) [.un, .val (.ref A), .un, .un, .un, .un, .un, .un, .un, .un, .un, .un, .un, .un, .un, .un] ⟨fun _ => False, fun r _ => r = .bool true, fun _ => False, fun _ => False⟩ := by
  have nd := s_law.nd
  refine sws_cons (sw_forM (List.range 3) (fun i => .int (i : Nat)) (fun i ε => ∃ s2 s3 s4 s5 s6 s7 s8 s9 s10 s11 s12 : Sl, still s8 = true ∧ ε = [.un, .val (.ref A), s2, s3, s4, s5, s6, s7, s8, s9, s10, s11, s12, .un, .un, .un]) (iw_range1 (b_range T) (ew_int ⟨3, rfl, by decide, by decide, rfl⟩)) ⟨_, _, _, _, _, _, _, _, _, _, _, rfl, rfl⟩ ?_ ?_)
  · rintro i x ε' hx ⟨s2, s3, s4, s5, s6, s7, s8, s9, s10, s11, s12, hs8, rfl⟩
    -- the manner
    refine tw_name 2 (sws_cons (sw_set 3 (ew_callSJ 1 (k := 3) (hr := hr.mono (by decide)) (h_law_one T) (g_law_one T) hF (aw_cons (ew_lst (aw_cons (ew_tx Mn.any.w (aw_cons (ew_tx Mn.matched.w (aw_cons (ew_tx Mn.turned.w (aw_nil (aw_nil ⟨_, ok_law_one T [S Mn.any.w, S Mn.matched.w, S Mn.turned.w] (by simp) (by simp), fun r hr' => ?_⟩)))))))))))))
    have hm : ∃ m : Mn, r = S m.w := by
      rcases List.mem_cons.mp hr' with rfl | q
      · exact ⟨.any, rfl⟩
      · rcases List.mem_cons.mp q with rfl | q
        · exact ⟨.matched, rfl⟩
        · cases List.mem_singleton.mp q; exact ⟨.turned, rfl⟩
    obtain ⟨m, rfl⟩ := hm
    -- the hands
    refine sws_cons (sw_asg (ew_callSJ 1 (k := 7) (hr := hr.mono (by decide)) (h_law_hands T) (g_law_hands T) hF (aw_cons (ew_name 3 (aw_cons (ew_int (aw_nil ⟨_, ok_law_hands T m, fun r hr' => ?_⟩)))))))
    obtain ⟨ks, t, uss, rfl, hk, uz, hus⟩ := hr'
    refine tw_tup (tws_cons (tw_name 4 (tws_cons (tw_name 5 (tws_nil ?_)))))
    obtain ⟨hs0, e0, H0⟩ := hands_of hk (ys := uss.map fun us => (false, us)) (by rw [List.length_map]; exact uz) fun y hy => by
      obtain ⟨us, hu, rfl⟩ := List.mem_map.mp hy; exact hus us hu
    have eu0 : hs0.map Hand.us = uss := by
      have := congrArg (List.map Prod.snd) e0
      rw [List.map_map, List.map_map] at this
      have e1 : hs0.map (Prod.snd ∘ fun h : Hand => (h.1, h.us)) = hs0.map Hand.us := rfl
      have e2 : uss.map (Prod.snd ∘ fun us : List Wd => (false, us)) = uss := by
        conv => rhs; rw [← List.map_id uss]
        rfl
      rw [e1, e2] at this; exact this
    have hl0 : hs0.length = uss.length := by rw [← eu0, List.length_map]
    have suz : (subs uss.length).length ≤ 32 := by
      rw [subs_len]
      exact Nat.le_trans (Nat.pow_le_pow_right (by decide) uz) (by decide)
    have smem : ∀ g ∈ subs uss.length, g.length ≤ 5 ∧ ∀ n ∈ g, n < uss.length := fun g hg => by
      have sub := (subs_mem _ _).mp hg
      refine ⟨?_, fun n hn => List.mem_range.mp (sub.subset hn)⟩
      have := sub.length_le; rw [List.length_range] at this; omega
    obtain ⟨Tgr, hTgr⟩ : ∃ P : List Nat → Prop, P = fun g => Tw m (known uss g) t := ⟨_, rfl⟩
    -- the groups
    refine sws_cons (sw_asgDN 6 7 (ew_lst (aw_cons (ew_lst (aw_nil (aw_nil ?_))))))
    refine sws_cons (sw_forM (List.range uss.length) (fun i => .int (i : Nat)) (fun k ε => ∃ s8 : Sl, still s8 = true ∧ ε = [.un, .val (.ref A), .dat (.int (x : Nat)), .dat (S m.w), .dat (.list (uss.map fun us => .list (us.map S))), .dat (S t.un), .dat (.list ((((List.range uss.length).take k).foldl addP [[]]).map dI)), .lst [], s8, s9, s10, s11, s12, .un, .un, .un]) ?_ ⟨s8, hs8, rfl⟩ ?_ ?_)
    · refine iw_range1 (b_range T) (ew_len (b_len T) (ew_name 4 (.inl ⟨uss.map fun us => .list (us.map S), .inl rfl, ((uss.length : Nat) : Int), ?_, by omega, by omega, by simp⟩)))
      rw [List.length_map]
    · rintro k a ε' hka ⟨s8, hs8, rfl⟩
      have hkl : k < uss.length := by have := (List.getElem?_eq_some_iff.mp hka).1; rw [List.length_range] at this; exact this
      have nxt : ((List.range uss.length).take (k + 1)).foldl addP [[]] = addP (((List.range uss.length).take k).foldl addP [[]]) a := fold_take _ _ hka
      obtain ⟨f1, f2⟩ := subs_fold ((List.range uss.length).take k) [[]] 0 (by simp)
      have kl5 : ((List.range uss.length).take k).length ≤ 5 := by rw [List.length_take, List.length_range]; omega
      have f3 : (((List.range uss.length).take k).foldl addP [[]]).length ≤ 32 := by
        rw [f1, List.length_singleton, Nat.one_mul]
        exact Nat.le_trans (Nat.pow_le_pow_right (by decide) kl5) (by decide)
      revert nxt f2 f3
      generalize ((List.range uss.length).take k).foldl addP [[]] = acc
      intro nxt f2 f3
      refine tw_name 8 (sws_one (sw_set 6 (ew_bin (ew_name 6 (ew_lcn [("_law_x", 13)] 13 acc dI (fun p => dI (p ++ [a])) (iw_list (ew_name 6 ⟨_, rfl, rfl, by omega, fun p hp s1 H1 C1 cl1 fp1 => ?_, op_cat_d ?_ ?_⟩)))))))
      · refine ew_bin (ew_name 13 (ew_lst (aw_cons (ew_name 8 (aw_nil (op_cat_d ?_ ?_))))))
        · have := f2 p hp; rw [List.length_map]; simp; omega
        · exact (dI_app p a).symm
      · rw [List.length_map, List.length_map]; omega
      · refine ⟨.dat (.int (a : Nat)), rfl, ?_⟩
        have e : acc.map dI ++ acc.map (fun p => dI (p ++ [a])) = (addP acc a).map dI := by unfold addP; rw [List.map_append, List.map_map]; rfl
        rw [e, nxt]; rfl
    rintro ε' ⟨s8, hs8, rfl⟩
    rw [List.length_range, List.take_of_length_le (by rw [List.length_range]; exact Nat.le_refl _)]
    have esub : (List.range uss.length).foldl addP [[]] = subs uss.length := rfl
    rw [esub]
    generalize hgs : subs uss.length = gs at suz smem esub
    refine sws_cons (sw_forM gs dI (fun j ε => ∃ (rs : List (List Nat)) (s8 s9 s10 : Sl), still s8 = true ∧ rs.Sublist (gs.take j) ∧ (∀ g, g ∈ rs ↔ g ∈ gs.take j ∧ Tgr g) ∧ ε = [.un, .val (.ref A), .dat (.int (x : Nat)), .dat (S m.w), .dat (.list (uss.map fun us => .list (us.map S))), .dat (S t.un), .dat (.list (gs.map dI)), .lst (rs.map dI), s8, s9, s10, s11, s12, .un, .un, .un]) (iw_list (ew_name 6 ⟨_, rfl, rfl⟩)) ⟨[], s8, s9, s10, hs8, List.nil_sublist _, fun g => (by simp), rfl⟩ ?_ ?_)
    · rintro j g ε' hg ⟨rs, s8, s9, s10, hs8, hsub, hrs, rfl⟩
      have hjl : j < gs.length := (List.getElem?_eq_some_iff.mp hg).1
      have tk : gs.take (j + 1) = gs.take j ++ [g] := by rw [List.take_add_one, hg]; rfl
      obtain ⟨gl, glt⟩ := smem g (List.mem_of_getElem? hg)
      have rz : rs.length ≤ 32 := by have := hsub.length_le; rw [List.length_take] at this; omega
      refine tw_name 9 (sws_cons (sw_set 10 (ew_lst (aw_nil ?_))))
      refine sws_cons (sw_forM g (fun n => .int (n : Nat)) (fun q ε => ∃ s8 : Sl, still s8 = true ∧ ((g.take q).foldl (addK uss) []).length ≤ 4 * q ∧ ε = [.un, .val (.ref A), .dat (.int (x : Nat)), .dat (S m.w), .dat (.list (uss.map fun us => .list (us.map S))), .dat (S t.un), .dat (.list (gs.map dI)), .lst (rs.map dI), s8, .dat (dI g), .dat (.list (((g.take q).foldl (addK uss) []).map S)), s11, s12, .un, .un, .un]) (iw_list (ew_name 9 ⟨_, rfl, rfl⟩)) ⟨s8, hs8, Nat.le_refl _, rfl⟩ ?_ ?_)
      · rintro q n ε' hn ⟨s8, hs8, lq, rfl⟩
        have hq : q < g.length := (List.getElem?_eq_some_iff.mp hn).1
        have hn4 := glt n (List.mem_of_getElem? hn)
        have nxt : (g.take (q + 1)).foldl (addK uss) [] = addK uss ((g.take q).foldl (addK uss) []) n := fold_take _ _ hn
        revert nxt lq
        generalize (g.take q).foldl (addK uss) [] = acc
        intro lq nxt
        have eu : uss[n]? = some (uss.getD n []) := by rw [List.getD_eq_getElem?_getD, List.getElem?_eq_getElem hn4]; rfl
        have hu4 : (uss.getD n []).length ≤ 4 := by
          have := (hus _ (List.mem_of_getElem? eu)).length_le
          rw [List.length_map] at this
          have := hk.z; omega
        have lf := List.length_filter_le (fun w => !decide (w ∈ acc)) (uss.getD n [])
        refine tw_name 8 (sws_one (sw_set 10 (ew_bin (ew_name 10 (ew_lct [("_law_word_here", 14)] 14 (uss.getD n []) S S (fun w => !decide (w ∈ acc)) (iw_list (ew_ix (ew_name 4 (ew_name 8 (ix_l (d := .list ((uss.getD n []).map S)) ?_ ⟨_, rfl, rfl, by omega, fun w hw s1 H1 C1 cl1 fp1 => ?_, op_cat_d ?_ ?_⟩))))))))))
        · rw [atI_nat, List.getElem?_map, eu]; rfl
        · exact bw_cmp rfl (ew_name 14 (ew_name 10 (op_nin_ls (.inl rfl) ⟨_, rfl, rfl, fun _ s3 H3 C3 cl3 fp3 => ew_name 14 rfl⟩)))
        · rw [List.length_map, List.length_map]; omega
        · refine ⟨.dat (.int (n : Nat)), rfl, ?_, ?_⟩
          · rw [nxt]; unfold addK; rw [List.length_append]; omega
          · rw [nxt]; unfold addK; rw [List.map_append]; rfl
      rintro ε' ⟨s8, hs8, _, rfl⟩
      rw [List.take_length]
      have ekn : g.foldl (addK uss) [] = known uss g := rfl
      rw [ekn]
      obtain ⟨kt, ekt, hkt, ktz⟩ := known_tx H0 g gl
      rw [eu0] at ekt
      have hkt1 : ∀ k ∈ kt, Good k := fun k hk => (hkt k hk).1
      have hT := tw_iff (m := m) (t := t) hkt1
      rw [ekt] at hT
      have fit : FitM m kt t := ⟨hk.gt, hk.st, hk.zt, hkt, ktz⟩
      have okt := ok_law_is_told T m kt t fit
      rw [ekt] at okt
      refine sws_one (sw_if (bw_val (ew_callJ (k := 6) (hr := hr.mono (by decide)) (h_law_is_told T) (g_law_is_told T) (aw_cons (ew_name 3 (aw_cons (ew_name 10 (aw_cons (ew_name 5 (aw_nil ⟨_, okt, fun r hr' => ?_⟩))))))))))
      obtain ⟨bb, rfl, hb⟩ := hr'
      have hTg : Tgr g ↔ TellsP m kt t := by rw [hTgr]; exact hT
      refine ⟨bb, rfl, fun zt => ?_, fun zf => sws_nil ?_⟩
      · have yes : Tgr g := hTg.mpr (hb.mp zt)
        refine sws_one (sw_append 7 rfl (by rw [List.length_map]; omega) (ew_name 9 ⟨rs ++ [g], s8, .dat (dI g), .dat (.list ((known uss g).map S)), hs8, by rw [tk]; exact List.Sublist.append hsub (List.Sublist.refl _), fun h => ?_, by rw [List.map_append]; rfl⟩))
        rw [List.mem_append, List.mem_singleton, tk, List.mem_append, List.mem_singleton, hrs h]
        exact ⟨fun q => q.elim (fun ⟨a, b⟩ => ⟨.inl a, b⟩) fun e => ⟨.inr e, e ▸ yes⟩, fun ⟨a, b⟩ => a.elim (fun q => .inl ⟨q, b⟩) .inr⟩
      · have no : ¬ Tgr g := fun h => by have := hb.mpr (hTg.mp h); rw [zf] at this; cases this
        refine ⟨rs, s8, _, _, hs8, by rw [tk]; exact hsub.trans (List.sublist_append_left _ _), fun h => ?_, rfl⟩
        rw [tk, List.mem_append, List.mem_singleton, hrs h]
        exact ⟨fun ⟨a, b⟩ => ⟨.inl a, b⟩, fun ⟨a, b⟩ => a.elim (fun q => ⟨q, b⟩) fun e => absurd (e ▸ b) no⟩
    rintro ε' ⟨rs, s8, s9, s10, hs8, hsub, hrs, rfl⟩
    rw [List.take_length] at hsub hrs
    have rz : rs.length ≤ 32 := by have := hsub.length_le; omega
    have rmem : ∀ g ∈ rs, g.length ≤ 5 := fun g hg => (smem g (hsub.subset hg)).1
    have rnd : rs.Nodup := hsub.nodup (by rw [← hgs]; exact subs_nodup _)
    -- what is due
    refine sws_freeze 7 (sws_cons (sw_setLc 11 [("_law_x", 13)] (lcw_of rs dI dI (fun x => !(rs.any fun y => !decide (y = x) && y.all fun k => decide (k ∈ x))) (iw_list (ew_name 7 ⟨_, rfl, rfl, by omega, fun g hg s1 H1 C1 cl1 fp1 => ?_, ?_⟩)))))
    · have gz := rmem g hg
      refine two_name 13 fun s2 H2 C2 cl2 fp2 => bws_one (bw_not (bw_val (ew_anyc rs (fun y => !decide (y = g) && y.all fun k => decide (k ∈ g)) (b_any T) (ew_lcn [("_law_y", 15)] 15 rs dI (fun y => .bool (!decide (y = g) && y.all fun k => decide (k ∈ g))) (iw_list (ew_name 7 ⟨_, rfl, rfl, by omega, fun y hy s3 H3 C3 cl3 fp3 => ?_, rfl, _, rfl, rfl, fun _ s4 H4 C4 cl4 fp4 => ew_name 13 rfl⟩))))))
      have yz := rmem y hy
      refine ew_and (ew_cmp rfl (ew_name 15 (ew_name 13 (op_ne_enc (enc := fun n : Nat => .int (n : Nat)) hr.units eqv_nat 0 (by decide) (fun _ _ => ⟨rfl, Nat.le_refl _⟩) (fun _ _ => ⟨rfl, Nat.le_refl _⟩) ⟨_, rfl, fun z => ?_, fun z => ?_⟩))))
      · rw [z, Bool.true_and]
        refine ew_one (ew_allc y (fun k => decide (k ∈ g)) (b_all T) (ew_lcn [("_law_k", 8)] 8 y (fun n => .int (n : Nat)) (fun k => .bool (decide (k ∈ g))) (hst := by show (still s8 && true) = true; rw [hs8]; rfl) (iw_list (ew_name 15 ⟨_, rfl, rfl, by omega, fun k hk s5 H5 C5 cl5 fp5 => ?_, rfl, rfl⟩))))
        refine ew_cmp rfl (ew_name 8 (ew_name 13 (op_in_li (ws := g.map fun n => ((n : Nat) : Int)) (.inl ?_) ?_)))
        · unfold dI; rw [List.map_map]; rfl
        · refine congrArg PyData.bool (decide_eq_decide.mpr ⟨fun h => ?_, fun h => List.mem_map_of_mem h⟩)
          obtain ⟨y', hy', e⟩ := List.mem_map.mp h
          have : y' = k := by omega
          exact this ▸ hy'
      · rw [z]; rfl
    have hleast := due_least (n := uss.length) (P := Tgr) (rs := rs) fun g => by rw [hrs g, hgs]
    have dnd : (rs.filter fun x => !(rs.any fun y => !decide (y = x) && y.all fun k => decide (k ∈ x))).Nodup := List.filter_sublist.nodup rnd
    have dz : (rs.filter fun x => !(rs.any fun y => !decide (y = x) && y.all fun k => decide (k ∈ x))).length ≤ 32 := Nat.le_trans (List.length_filter_le _ _) rz
    have dmem : ∀ g ∈ (rs.filter fun x => !(rs.any fun y => !decide (y = x) && y.all fun k => decide (k ∈ x))), g.length ≤ 5 := fun g hg => rmem g (List.mem_filter.mp hg).1
    show SWs _ _ _ _ _
    generalize (rs.filter fun x => !(rs.any fun y => !decide (y = x) && y.all fun k => decide (k ∈ x))) = ds at hleast dnd dz dmem
    -- what is told
    refine sws_cons (sw_set 12 (ew_callJ (k := 131) (hr := hr) (h_telling T) (g_telling T) (aw_cons (ew_name 3 (aw_cons (ew_callSJ 1 (k := 3) (hr := hr.mono (by decide)) (h_law_handed T) (g_law_handed T) hF (aw_cons (ew_lc [("_law_x", 13)] (lcw_rel (α := List Wd) (β := Bool × List Wd) (iw_list (ew_name 4 ⟨_, rfl, uss, fun us => .list (us.map S), fun y => sqD y.1 (y.2.map S), fun us y => y.2 = us, rfl, by omega, fun us hu => ?_, fun ys yl yr => aw_nil ⟨_, ok_law_handed T _, fun r hr' => ?_⟩⟩)))))))))))
    · exact two_nm 13 (fun _ _ _ _ _ => fun s2 H2 C2 cl2 fp2 => bws_nil ⟨rfl, fun s3 H3 C3 cl3 fp3 => ew_callSJ 1 (k := 3) (hr := hr.mono (by decide)) (h_law_handed T) (g_law_handed T) hF (aw_cons (ew_callTy (T := "list") (b_list T) (aw_cons (ew_name 13 (aw_nil (c_list (.inl rfl) (aw_nil ⟨_, ok_law_handed T (us.map S), fun r hr'' => hr''.elim fun b er => ⟨(b, us), er, rfl⟩⟩)))))))⟩)
    obtain ⟨b, rfl⟩ := hr'
    have eys : ys.map (·.2) = uss := by
      refine List.ext_getElem? fun q => ?_
      rw [List.getElem?_map]
      by_cases c : q < uss.length
      · have c' : q < ys.length := by omega
        rw [List.getElem?_eq_getElem c', List.getElem?_eq_getElem c]
        exact congrArg some (yr q _ _ (List.getElem?_eq_getElem c) (List.getElem?_eq_getElem c'))
      · rw [List.getElem?_eq_none (by omega), List.getElem?_eq_none (by omega)]; rfl
    obtain ⟨hs, e1, H1⟩ := hands_of hk (ys := ys) (by omega) fun y hy => hus _ (by rw [← eys]; exact List.mem_map_of_mem hy)
    have eu1 : hs.map Hand.us = uss := by
      rw [← eys, ← e1, List.map_map]; rfl
    have ed : ys.map (fun y => sqD y.1 (y.2.map S)) = hs.map Hand.d := by
      rw [← e1, List.map_map]; rfl
    have hl1 : hs.length = uss.length := by rw [← eu1, List.length_map]
    rw [ed]
    refine aw_cons (ew_name 5 (aw_nil ⟨_, ok_telling T m b hs t H1 hk.gt hk.st hk.zt, fun r hr' => ?_⟩))
    obtain ⟨fs, rfl, fn, hfs⟩ := hr'
    have eT : Tg m hs t = Tgr := by
      rw [hTgr]; funext g; unfold Tg; rw [eu1]
    rw [hl1, eT] at hfs
    have pm : fs.Perm ds := perm_nodup fn dnd fun g => (hfs g).trans (hleast g).symm
    have esort := sort_perm (pm.map toI)
    have fz : fs.length ≤ 32 := by rw [pm.length_eq]; exact dz
    rw [rows_dI fs, rows_dI ds]
    have hu10 : (cx B d_law n_law c).A.units + 10 < cLine := by have := hr.un; omega
    refine sws_one (sw_if (bw_w (bww_or (bw_not (bw_val (ew_isi (T := "list") (b := fun _ => true) (b_isinstance T) (b_list T) (ew_name 12 ⟨rfl, true, rfl, fun z => (by cases z), fun _ => ?_⟩)))))))
    refine bww_or1 (bw_not (bw_val (ew_callJ (k := 3) (hr := hr.mono (by decide)) (h_law_same T) (g_law_same T) (aw_cons (ew_callB (id := "sorted") (b_sorted T) (aw_cons (ew_name 12 (aw_nil (c_sortRows (bs := fs.map toI) hu10 (by rw [List.length_map]; omega) ?_)))) (hv := by decide +kernel))))))
    refine aw_cons (ew_callB (id := "sorted") (b_sorted T) (aw_cons (ew_name 11 (aw_nil (c_sortRows (bs := ds.map toI) hu10 (by rw [List.length_map]; omega) ?_)))) (hv := by decide +kernel))
    rw [esort]
    refine aw_nil ⟨_, ok_same_rows T _ ?_ ?_, fun r er => ⟨true, er, fun z => (by cases z), fun _ => sws_nil ⟨_, _, _, _, _, _, _, _, _, _, _, hs8, rfl⟩⟩⟩
    · rw [List.length_mergeSort, List.length_map]; omega
    · intro bb hbb
      have hbb := (List.mergeSort_perm _ _).mem_iff.mp hbb
      obtain ⟨g, hg, rfl⟩ := List.mem_map.mp hbb
      unfold toI
      rw [List.length_map]
      have := dmem g hg; omega
  · rintro ε' ⟨s2, s3, s4, s5, s6, s7, s8, s9, s10, s11, s12, _, rfl⟩
    exact sws_one (sw_ret (ew_bl rfl))
end K78
/-! K78: the law, whole. -/
namespace K78
open PySem PySem.Spec L2
variable {B : Bs}
def spLaw (K : Frag) : Sp := fun vs H Q _ => ∃ (a : Addr) (ns : List Int), vs = [.ref a] ∧ SqL K H a (ns.map V.int) ∧ ns.length ≤ 63 ∧ ∀ H', Q (.bl true) H'
theorem ok_law (T : Told B) : Ok B 132 d_law p_law (spLaw B.K) := by
  refine ok_of (h_law T) s_law (fun vs H Q E ⟨a, ns, e, _⟩ => by rw [e]; rfl) fun c hr H vs Q ⟨a, ns, e, hS, hz, q⟩ => ?_
  subst e
  have nd := s_law.nd
  obtain ⟨⟨fd, hfb⟩, ok⟩ := ok_fresh T
  have ok := ok fd hfb
  obtain ⟨hf, hb⟩ := hfb
  refine pss_run (pss_cons (ps_set (i := 1) nd rfl (by first | exact .inl rfl | exact .inr rfl) (pe_call (X := cx B d_law n_law c) (E := fun _ _ _ => True) ok (hr.mono (by decide)) (by rfl) (g_law_fresh T) hf.kp hb .nil pass0 (pa_cons (pe_var (i := 0) rfl (by first | exact Or.inl rfl | exact Or.inr (Or.inl rfl) | exact Or.inr (Or.inr rfl))) pa_nil rfl) (by decide) rfl rfl) rfl (by first | exact .inl rfl | exact .inr rfl)) (pss_sem (st := d_law.body.drop 1))) ?_
  refine ⟨_, rfl, a, ns, rfl, hS, hz, fun A cc H' sm hcc hA ne ecc eA => ?_⟩
  -- the data: the cells alone
  have hA' : H' A ≠ none := by rw [eA]; intro z; cases z
  have hbc : (fun b => if b = cc then some (HO.lst (ns.map V.int)) else none : Hp) A = none := if_neg ne
  have st : StAt A cc ns (fun b => if b = cc then some (HO.lst (ns.map V.int)) else none) H' := ⟨hbc, if_pos rfl, 0, 0, false, eA, hz⟩
  have same : Same (fun b => if b = cc then some (HO.lst (ns.map V.int)) else none) H' := fun b o e => by
    by_cases c : b = cc
    · subst c
      have e : some (HO.lst (ns.map V.int)) = some o := (if_pos rfl).symm.trans e
      rw [← e]; exact ecc
    · have e : (none : Option HO) = some o := (if_neg c).symm.trans e
      cases e
  obtain ⟨Hb, st, same⟩ : ∃ Hb : Hp, StAt A cc ns Hb H' ∧ Same Hb H' := ⟨_, st, same⟩
  have W := law_rest T c hr (FS A cc ns Hb H' hA') A (fun z => z) FS_is
  refine W [] Hb H' _ ⟨Gr.refl same, st, rfl, fun _ => none, ⟨fun a pl e => (by cases e), fun k a ds e => (by cases e)⟩, fun i s hs => ?_⟩ _ ⟨fun _ _ _ _ _ _ z => z.elim, fun _ _ _ _ _ _ z => z.elim, fun _ _ _ _ _ _ z => z.elim, fun v d Hb' H2 σ' ε' b S' rd z => ?_⟩
  · rcases i with _ | _ | i
    · cases hs; trivial
    · cases hs; exact rfl
    · have : s = .un := by
        have hs : (List.replicate 14 Sl.un)[i]? = some s := hs
        exact List.eq_of_mem_replicate (List.mem_of_getElem? hs)
      subst this; trivial
  · subst z
    cases dt_bl rd
    exact q H2
/-- what the head's facts give -/
theorem law_facts {P : Program} {w : World} {K : Frag} {h : Heap} {mg : Str → Option Value} {f : Addr} (X : K.In h) (G : h.Ns mainGlobals mg) (hfa : mg ("law" : Str) = some (.ref f)) (c : He.SaysD fa fn K) (cx : exB K = true) :
    ∃ fd : FuncData, (∀ (s : Shared) (v : Value), BindsTo s fd ⟨[v], []⟩ [("_law_script", v)]) ∧ ∀ base : Heap, K.In base → base.Ns mainGlobals mg → FnOk P w K mg base CX0 132 f fd ["_law_script"] (spLaw K) := by
  have T : ∀ base, Told ⟨P, w, K, mg, base⟩ := fun base => ⟨h, X, G, c, cx⟩
  obtain ⟨fd, hf⟩ := h_law (T h)
  have e : f = He.fAd K d_law.at_ := by
    have e1 := hfa.symm.trans (g_law (T h))
    cases e1; rfl
  subst e
  refine ⟨fd, fun s v => ?_, fun base _ _ => (ok_law (T base)).2 fd hf⟩
  have b := FunD.bindsA (ps := p_law) hf.1 fun _ _ _ _ _ _ us hl => match us, hl with | [_], _ => rfl
  exact b s [v] rfl
end K78
open PySem PySem.W PySem.Calls PyProof.Rows
set_option maxRecDepth 100000 in
set_option maxHeartbeats 0 in
theorem PySem.Challenge.cw_toldpaths_k78_whole_telling_told_holds : PySem.Challenge.rw_toldpaths_k78_whole_telling_told.Holds := by
  w_on; o_law
  refine HandSHeadRun.head_any (r := OpenLaw.row PySem.Challenge.rw_toldpaths_k78_whole_telling_told) (q := view (OpenLaw.row PySem.Challenge.rw_toldpaths_k78_whole_telling_told).prog [76]) (H := K78.HD.hk) (ob := K78.HD.ob) (M := 4000) (loose := K78.HD.names) (d := HandSHeadRun.topDef (OpenLaw.row PySem.Challenge.rw_toldpaths_k78_whole_telling_told).prog 76) (kwd := []) K78.HD.ob_eq
    (by kernel_rfl) (fun s => by kernel_rfl) K78.HD.run (by kernel_rfl) (by kernel_rfl) (by kernel_rfl) (by rfl) (by first | assumption | decide +kernel) (by decide +kernel) ⟨rfl, rfl, rfl, rfl, rfl, by decide +kernel⟩ ?hw ?hc
  case hw => w_witness2
  case hc =>
    refine L2.walk_ofE (l := PySem.Challenge.rw_toldpaths_k78_whole_telling_told) (n := 63) (k := 132) (x := "_law_script") (CX := L2.CX0) rfl (by decide) (by kernel_rfl) ⟨rfl, by decide, by decide⟩ ?F (fun _ _ _ _ z => z)
    intro w mg fa h Y G hmg0
    obtain ⟨K, KX, c, cx⟩ := Y
    have hmg : mg ("law" : PySem.Str) = some (.ref fa) := by
      have e : (HandSHeadRun.topDef (OpenLaw.row PySem.Challenge.rw_toldpaths_k78_whole_telling_told).prog 76).name = ("law" : PySem.Str) := by kernel_rfl
      rw [← e]
      exact hmg0
    obtain ⟨fd, hb, hF⟩ := K78.law_facts (P := (PySem.Challenge.rw_toldpaths_k78_whole_telling_told).prog) (w := w) KX G hmg c cx
    exact ⟨K, fd, K78.spLaw K, KX, hb, fun H a ns hl _ hS => ⟨a, ns, rfl, hS, hl, fun _ => rfl⟩, hF⟩
#print axioms PySem.Challenge.cw_toldpaths_k78_whole_telling_told_holds
