import PyProof.Rows.All
import Wide.All
import OpenK.AllK
import Wide.FinOn
import HandS.ForMost
import HandS.ForExc
import HandS.Evl
import HandS.Walk
import HandS.Zip
import HandS.Deep
import HandS.DictComp
import HandS.Style
import HandS.IsInst
import KE.Datum
import KE.DatumOrd
import KE.SortData
import HandS.TupAny
import HandS.NoneIn
import HandS.Defaults
import HandS.Lambda
import KE.SortUse
import PyProof.Rows.CallKwBuiltin
import PyProof.Rows.CallKw2
import HandS.FltList
import HandS.SetFor
import HandS.SetTxt0
import HandS.Strs
import PyProof.AutoSeq1
import HandS.Steps
import HandS.Dict
import HandS.Small
import PyProof.Rows.TupDisplay
import HandS.HeadHook4
import HandS.HeadWalk
import HandS.More
import HandS.Ends
import HandS.Words
import HandS.WordsExc
import HandS.Head0
import HandS.Head1
import HandS.Head2
import HandS.HeadEnd
import HandS.HeadHook1
import HandS.HeadHook2
import KE.KStateDown
import PySem.Challenge.RW_offbyon_k76_whole_ways_round
set_option Elab.async false
set_option linter.all false
set_option maxRecDepth 100000
set_option maxHeartbeats 4000000
/-! Ob1: data with a Lean type over the layer: at_ K H v x: v holds x in the abstract heap H; Pe: a reading gives data by allocating only; walks over data; comprehensions. -/
namespace Ob
open PySem L2
open Evl (Ex)
open PySem.W (Datum Tup)

/-! ### heaps: B, what is frozen, within H, what stands -/
structure Up (B H B2 H2 : Hp) : Prop where
  bb : Ex B B2
  bh : Ex B2 H2
  hh : Ex H H2
  nw : ∀ a, B2 a ≠ none → B a ≠ none ∨ H a = none
theorem Up.refl {B H : Hp} (e : Ex B H) : Up B H B H := ⟨Ex.refl B, e, Ex.refl H, fun _ h => .inl h⟩
theorem Up.trans {B H B1 H1 B2 H2 : Hp} (a : Up B H B1 H1) (b : Up B1 H1 B2 H2) : Up B H B2 H2 :=
  ⟨a.bb.trans b.bb, b.bh, a.hh.trans b.hh, fun x h => by
    rcases b.nw x h with h | h
    · exact a.nw x h
    · refine .inr ?_
      cases q : H x with
      | none => rfl
      | some o =>
        rw [a.hh x o q] at h
        cases h⟩
/-- a new object, frozen -/
theorem Up.new {B H : Hp} {p : Addr} {o : HO} (e : Ex B H) (hp : H p = none) : Up B H (upd B p o) (upd H p o) := by
  have hb : B p = none := Evl.fresh_back e hp
  refine ⟨Ex.new hb, fun a u h => ?_, Ex.new hp, fun a h => ?_⟩
  · by_cases ha : a = p
    · subst ha
      rw [upd_same] at h ⊢
      exact h
    · rw [upd_ne ha] at h ⊢
      exact e a u h
  · by_cases ha : a = p
    · subst ha
      exact .inr hp
    · rw [upd_ne ha] at h
      exact .inl h
theorem Up.then {B H B1 H1 : Hp} {p : Addr} {o : HO} (a : Up B H B1 H1) (hp : H1 p = none) : Up B H (upd B1 p o) (upd H1 p o) := a.trans (Up.new a.bh hp)
/-- an object that is not frozen stays so, and as it was -/
theorem Up.out {B H B2 H2 : Hp} (u : Up B H B2 H2) {a : Addr} {o : HO} (hb : B a = none) (h : H a = some o) : B2 a = none ∧ H2 a = some o := by
  refine ⟨?_, u.hh a o h⟩
  cases q : B2 a with
  | none => rfl
  | some x =>
    rcases u.nw a (by rw [q]; exact fun z => nomatch z) with z | z
    · exact absurd hb z
    · rw [h] at z
      cases z
theorem ex_upd {B H : Hp} {p : Addr} {o : HO} (e : Ex B H) (hb : B p = none) : Ex B (upd H p o) := fun a u h => by
  rw [upd_ne (ne_of_none h hb)]
  exact e a u h
/-- a frozen part may take in an object that stands -/
theorem ex_in {B H : Hp} {p : Addr} {o : HO} (e : Ex B H) (h : H p = some o) : Ex (upd B p o) H := fun a u q => by
  by_cases ha : a = p
  · subst ha
    rw [upd_same] at q
    cases q
    exact h
  · rw [upd_ne ha] at q
    exact e a u q

/-! ### what reads as it did: also behind a lock or an unlock of a dict -/
def plainO : HO → Bool
  | .lst _ => true
  | .tup _ => true
  | .dK _ => true
  | .dT _ => true
  | _ => false
def ExR (H H' : Hp) : Prop := (∀ a u, plainO u = true → Rd H a u → Rd H' a u) ∧ ∀ a us, H a = some (.tup us) → H' a = some (.tup us)
theorem ExR.of {H H' : Hp} (e : Ex H H') : ExR H H' := ⟨fun _ _ _ h => Evl.ex_rd e h, fun _ _ h => e _ _ h⟩
/-- a tuple that stands there as it is reads as a tuple -/
theorem ex_tx {K : PySem.W.Frag} {H H' : Hp} {a : Addr} {xs : List V} (e : Ex H H') (h : H a = some (.tup xs)) : SqT K H' a xs := Evl.st_of (e _ _ h)
theorem exr_l {K : PySem.W.Frag} {H H' : Hp} {a : Addr} {xs : List V} (e : ExR H H') (h : SqL K H a xs) : SqL K H' a xs := h.imp (fun h => e.1 a _ rfl h) id
theorem exr_t {K : PySem.W.Frag} {H H' : Hp} {a : Addr} {xs : List V} (e : ExR H H') (h : SqT K H a xs) : SqT K H' a xs := h.imp (fun h => e.1 a _ rfl h) id
theorem exr_lock {H : Hp} {d : Addr} {o : Obj} {kvs : List (Key × V)} (h : H d = some (.dK kvs)) : ExR H (upd H d (.frz o (.dK kvs))) := ⟨fun a u hp hr => by
  by_cases ha : a = d
  · subst ha
    rcases hr with hr | ⟨o', hr⟩
    · rw [h] at hr
      cases hr
      exact .inr ⟨o, upd_same⟩
    · rw [h] at hr
      cases hr
  · rcases hr with hr | ⟨o', hr⟩
    · exact .inl (by rw [upd_ne ha]; exact hr)
    · exact .inr ⟨o', by rw [upd_ne ha]; exact hr⟩, fun a us ha => by
  have hne : a ≠ d := fun z => by rw [z, h] at ha; cases ha
  rw [upd_ne hne]
  exact ha⟩
theorem exr_unlock {H : Hp} {d : Addr} {o : Obj} {u0 : HO} (h : H d = some (.frz o u0)) : ExR H (upd H d u0) := ⟨fun a u hp hr => by
  by_cases ha : a = d
  · subst ha
    rcases hr with hr | ⟨o', hr⟩
    · rw [h] at hr
      cases hr
      cases hp
    · rw [h] at hr
      cases hr
      exact .inl upd_same
  · rcases hr with hr | ⟨o', hr⟩
    · exact .inl (by rw [upd_ne ha]; exact hr)
    · exact .inr ⟨o', by rw [upd_ne ha]; exact hr⟩, fun a us ha => by
  have hne : a ≠ d := fun z => by rw [z, h] at ha; cases ha
  rw [upd_ne hne]
  exact ha⟩

/-! ### data in the heap -/
section
variable {K : PySem.W.Frag} {H H' : Hp}
mutual
theorem dp_monoR (e : ExR H H') : ∀ (d : PyData) (v : V), Dp K H v d → Dp K H' v d
  | .none, _, h => by cases h; exact .non
  | .bool _, _, h => by cases h; exact .bl _
  | .int _, _, h => by cases h; exact .int _
  | .str _, _, h => by cases h; exact .str _
  | .list ds, _, h => by
    cases h with
    | lst a b => exact .lst (exr_l e a) (dpAll_monoR e ds _ b)
  | .tuple ds, _, h => by
    cases h with
    | tup a b => exact .tup (exr_t e a) (dpAll_monoR e ds _ b)
  | .dict _, _, h => by cases h
theorem dpAll_monoR (e : ExR H H') : ∀ (ds : List PyData) (vs : List V), DpAll K H vs ds → DpAll K H' vs ds
  | [], _, h => by cases h; exact .nil
  | d :: ds, _, h => by
    cases h with
    | cons a b => exact .cons (dp_monoR e d _ a) (dpAll_monoR e ds _ b)
end
end
/-! data, each tuple as it stands -/
mutual
inductive Dq (K : PySem.W.Frag) (H : Hp) : V → PyData → Prop
  | non : Dq K H .non .none
  | bl (b : Bool) : Dq K H (.bl b) (.bool b)
  | int (i : Int) : Dq K H (.int i) (.int i)
  | str (x : Str) : Dq K H (.str x) (.str x)
  | lst {a : Addr} {xs : List V} {ds : List PyData} : SqL K H a xs → DqAll K H xs ds → Dq K H (.ref a) (.list ds)
  | tup {a : Addr} {xs : List V} {ds : List PyData} : H a = some (.tup xs) → DqAll K H xs ds → Dq K H (.ref a) (.tuple ds)
inductive DqAll (K : PySem.W.Frag) (H : Hp) : List V → List PyData → Prop
  | nil : DqAll K H [] []
  | cons {v : V} {vs : List V} {d : PyData} {ds : List PyData} : Dq K H v d → DqAll K H vs ds → DqAll K H (v :: vs) (d :: ds)
end
section
variable {K : PySem.W.Frag} {H H' : Hp}
mutual
theorem Dq.dp : ∀ (d : PyData) (v : V), Dq K H v d → Dp K H v d
  | .none, _, h => by cases h; exact .non
  | .bool _, _, h => by cases h; exact .bl _
  | .int _, _, h => by cases h; exact .int _
  | .str _, _, h => by cases h; exact .str _
  | .list ds, _, h => by
    cases h with
    | lst a b => exact .lst a (DqAll.dp ds _ b)
  | .tuple ds, _, h => by
    cases h with
    | tup a b => exact .tup (Evl.st_of a) (DqAll.dp ds _ b)
  | .dict _, _, h => by cases h
theorem DqAll.dp : ∀ (ds : List PyData) (vs : List V), DqAll K H vs ds → DpAll K H vs ds
  | [], _, h => by cases h; exact .nil
  | d :: ds, _, h => by
    cases h with
    | cons a b => exact .cons (Dq.dp d _ a) (DqAll.dp ds _ b)
end
mutual
theorem dq_monoR (e : ExR H H') : ∀ (d : PyData) (v : V), Dq K H v d → Dq K H' v d
  | .none, _, h => by cases h; exact .non
  | .bool _, _, h => by cases h; exact .bl _
  | .int _, _, h => by cases h; exact .int _
  | .str _, _, h => by cases h; exact .str _
  | .list ds, _, h => by
    cases h with
    | lst a b => exact .lst (exr_l e a) (dqAll_monoR e ds _ b)
  | .tuple ds, _, h => by
    cases h with
    | tup a b => exact .tup (e.2 _ _ a) (dqAll_monoR e ds _ b)
  | .dict _, _, h => by cases h
theorem dqAll_monoR (e : ExR H H') : ∀ (ds : List PyData) (vs : List V), DqAll K H vs ds → DqAll K H' vs ds
  | [], _, h => by cases h; exact .nil
  | d :: ds, _, h => by
    cases h with
    | cons a b => exact .cons (dq_monoR e d _ a) (dqAll_monoR e ds _ b)
end
theorem dp_mono (e : Ex H H') (d : PyData) (v : V) (h : Dq K H v d) : Dp K H' v d := dp_monoR (ExR.of e) d v (Dq.dp d v h)
end

class Rep (α : Type) where
  at_ : PySem.W.Frag → Hp → V → α → Prop
  monoR : ∀ {K : PySem.W.Frag} {H H' : Hp} {v : V} {x : α}, ExR H H' → at_ K H v x → at_ K H' v x
theorem Rep.mono {α : Type} [Rep α] {K : PySem.W.Frag} {H H' : Hp} {v : V} {x : α} (e : Ex H H') (h : Rep.at_ K H v x) : Rep.at_ K H' v x := Rep.monoR (ExR.of e) h
instance (priority := low) repDatum {α : Type} [DecidableEq α] [Datum α] : Rep α := ⟨fun K H v x => Dq K H v (Datum.toD x), fun e h => dq_monoR e _ _ h⟩
/-- a dict with text keys -/
structure Dic (α : Type) where
  kvs : List (Str × α)
def DicAt {α : Type} [Rep α] (K : PySem.W.Frag) (H : Hp) (ks : List (Key × V)) (d : List (Str × α)) : Prop := Paired (fun (p : Key × V) (q : Str × α) => p.1 = .inr q.1 ∧ Rep.at_ K H p.2 q.2) ks d
instance {α : Type} [Rep α] : Rep (Dic α) := ⟨fun K H v d => ∃ a ks, v = .ref a ∧ Rd H a (.dK ks) ∧ ks.length ≤ 1000000 ∧ DicAt K H ks d.kvs,
  fun e ⟨a, ks, h1, h2, hz, h3⟩ => ⟨a, ks, h1, e.1 a _ rfl h2, hz, Paired.mapP h3 fun _ _ h => ⟨h.1, Rep.monoR e h.2⟩⟩⟩
/-- any value at all -/
structure Any where
  v : V
instance : Rep Any := ⟨fun _ _ v x => v = x.v, fun _ h => h⟩

section
variable {K : PySem.W.Frag} {H H' : Hp} {v : V}
abbrev AtAll {α : Type} [Rep α] (K : PySem.W.Frag) (H : Hp) (vs : List V) (xs : List α) : Prop := Paired (Rep.at_ K H) vs xs
theorem AtAll.monoR {α : Type} [Rep α] (e : ExR H H') {vs : List V} {xs : List α} (h : AtAll K H vs xs) : AtAll K H' vs xs := Paired.mapP h fun _ _ q => Rep.monoR e q
theorem AtAll.mono {α : Type} [Rep α] (e : Ex H H') {vs : List V} {xs : List α} (h : AtAll K H vs xs) : AtAll K H' vs xs := Paired.mapP h fun _ _ q => Rep.mono e q
section
variable {α β : Type} [DecidableEq α] [Datum α] [DecidableEq β] [Datum β]
theorem dqAll_at : ∀ {vs : List V} {xs : List α}, DqAll K H vs (xs.map Datum.toD) → AtAll K H vs xs
  | _, [], h => by
    have h' : DqAll K H _ [] := h
    cases h'
    exact .nil
  | _, x :: xs, h => by
    have h' : DqAll K H _ (Datum.toD x :: xs.map Datum.toD) := h
    cases h' with
    | cons a b => exact .cons a (dqAll_at b)
theorem at_dqAll : ∀ {vs : List V} {xs : List α}, AtAll K H vs xs → DqAll K H vs (xs.map Datum.toD)
  | _, _, .nil => .nil
  | _, _, .cons a b => .cons a (at_dqAll b)
theorem at_dpAll {vs : List V} {xs : List α} (h : AtAll K H vs xs) : DpAll K H vs (xs.map Datum.toD) := DqAll.dp _ _ (at_dqAll h)
theorem at_int {i : Int} : Rep.at_ K H v i ↔ v = .int i := ⟨fun h => by cases (show Dq K H v (.int i) from h); rfl, fun h => by rw [h]; exact Dq.int i⟩
theorem at_bl {i : Bool} : Rep.at_ K H v i ↔ v = .bl i := ⟨fun h => by cases (show Dq K H v (.bool i) from h); rfl, fun h => by rw [h]; exact Dq.bl i⟩
theorem at_str {i : Str} : Rep.at_ K H v i ↔ v = .str i := ⟨fun h => by cases (show Dq K H v (.str i) from h); rfl, fun h => by rw [h]; exact Dq.str i⟩
theorem at_non {i : Unit} : Rep.at_ K H v i ↔ v = .non := ⟨fun h => by cases (show Dq K H v .none from h); rfl, fun h => by rw [h]; exact Dq.non⟩
theorem at_list {xs : List α} : Rep.at_ K H v xs ↔ ∃ a vs, v = .ref a ∧ SqL K H a vs ∧ AtAll K H vs xs :=
  ⟨fun h => by cases (show Dq K H v (.list (xs.map Datum.toD)) from h) with
    | lst a b => exact ⟨_, _, rfl, a, dqAll_at b⟩, fun ⟨a, vs, e, h1, h2⟩ => by
    rw [e]
    exact Dq.lst h1 (at_dqAll h2)⟩
theorem at_tup {t : Tup α} : Rep.at_ K H v t ↔ ∃ a vs, v = .ref a ∧ H a = some (.tup vs) ∧ AtAll K H vs t.items :=
  ⟨fun h => by cases (show Dq K H v (.tuple (t.items.map Datum.toD)) from h) with
    | tup a b => exact ⟨_, _, rfl, a, dqAll_at b⟩, fun ⟨a, vs, e, h1, h2⟩ => by
    rw [e]
    exact Dq.tup h1 (at_dqAll h2)⟩
theorem at_pair {p : α × β} : Rep.at_ K H v p ↔ ∃ a v1 v2, v = .ref a ∧ H a = some (.tup [v1, v2]) ∧ Rep.at_ K H v1 p.1 ∧ Rep.at_ K H v2 p.2 :=
  ⟨fun h => by cases (show Dq K H v (.tuple [Datum.toD p.1, Datum.toD p.2]) from h) with
    | tup a b =>
      cases b with
      | cons b1 b2 =>
        cases b2 with
        | cons b2 b3 =>
          cases b3
          exact ⟨_, _, _, rfl, a, b1, b2⟩, fun ⟨a, v1, v2, e, h1, h2, h3⟩ => by
    rw [e]
    exact Dq.tup h1 (.cons h2 (.cons h3 .nil))⟩
end
theorem AtAll.length {α : Type} [Rep α] {vs : List V} {xs : List α} (h : AtAll K H vs xs) : vs.length = xs.length := Paired.length h
theorem AtAll.get {α : Type} [Rep α] : ∀ {vs : List V} {xs : List α} {i : Nat} {x : α}, AtAll K H vs xs → xs[i]? = some x → ∃ v, vs[i]? = some v ∧ Rep.at_ K H v x
  | _, _, _, _, .nil, h => by simp at h
  | _, _, 0, x, .cons (a := v) q _, h => by
    simp at h
    subst h
    exact ⟨v, rfl, q⟩
  | _, _, i + 1, x, .cons _ t, h => by
    obtain ⟨v, h1, h2⟩ := AtAll.get (i := i) t (by simpa using h)
    exact ⟨v, by simpa using h1, h2⟩
theorem AtAll.get' {α : Type} [Rep α] : ∀ {vs : List V} {xs : List α} {i : Nat} {v : V}, AtAll K H vs xs → vs[i]? = some v → ∃ x, xs[i]? = some x ∧ Rep.at_ K H v x
  | _, _, _, _, .nil, h => by simp at h
  | _, _, 0, x, .cons (b := y) q _, h => by
    simp at h
    subst h
    exact ⟨y, rfl, q⟩
  | _, _, i + 1, x, .cons _ t, h => by
    obtain ⟨v, h1, h2⟩ := AtAll.get' (i := i) t (by simpa using h)
    exact ⟨v, by simpa using h1, h2⟩
theorem AtAll.append {α : Type} [Rep α] : ∀ {vs ws : List V} {xs ys : List α}, AtAll K H vs xs → AtAll K H ws ys → AtAll K H (vs ++ ws) (xs ++ ys)
  | _, _, _, _, .nil, k => k
  | _, _, _, _, .cons q t, k => .cons q (AtAll.append t k)
theorem AtAll.snoc {α : Type} [Rep α] {vs : List V} {v : V} {xs : List α} {x : α} (h : AtAll K H vs xs) (k : Rep.at_ K H v x) : AtAll K H (vs ++ [v]) (xs ++ [x]) := h.append (.cons k .nil)
theorem AtAll.take {α : Type} [Rep α] : ∀ {vs : List V} {xs : List α} (n : Nat), AtAll K H vs xs → AtAll K H (vs.take n) (xs.take n)
  | _, _, 0, _ => .nil
  | _, _, _ + 1, .nil => .nil
  | _, _, n + 1, .cons q t => .cons q (AtAll.take n t)
theorem AtAll.drop {α : Type} [Rep α] : ∀ {vs : List V} {xs : List α} (n : Nat), AtAll K H vs xs → AtAll K H (vs.drop n) (xs.drop n)
  | _, _, 0, h => h
  | _, _, _ + 1, .nil => .nil
  | _, _, n + 1, .cons _ t => AtAll.drop n t
theorem AtAll.set {α : Type} [Rep α] {v : V} {x : α} (k : Rep.at_ K H v x) : ∀ {vs : List V} {xs : List α} (n : Nat), AtAll K H vs xs → AtAll K H (vs.set n v) (xs.set n x)
  | _, _, _, .nil => .nil
  | _, _, 0, .cons _ t => .cons k t
  | _, _, n + 1, .cons q t => .cons q (AtAll.set k n t)
theorem AtAll.eraseIdx {α : Type} [Rep α] : ∀ {vs : List V} {xs : List α} (n : Nat), AtAll K H vs xs → AtAll K H (vs.eraseIdx n) (xs.eraseIdx n)
  | _, _, _, .nil => .nil
  | _, _, 0, .cons _ t => t
  | _, _, n + 1, .cons q t => .cons q (AtAll.eraseIdx n t)
theorem atAll_strs : ∀ {vs : List V} {xs : List Str}, AtAll K H vs xs → vs = xs.map V.str
  | _, _, .nil => rfl
  | _, _, .cons q t => by
    rw [List.map_cons, ← atAll_strs t, at_str.mp q]
theorem strs_atAll : ∀ (xs : List Str), AtAll K H (xs.map V.str) xs
  | [] => .nil
  | x :: xs => .cons (at_str.mpr rfl) (strs_atAll xs)
theorem atAll_ints : ∀ {vs : List V} {xs : List Int}, AtAll K H vs xs → vs = xs.map V.int
  | _, _, .nil => rfl
  | _, _, .cons q t => by
    rw [List.map_cons, ← atAll_ints t, at_int.mp q]
theorem ints_atAll : ∀ (xs : List Int), AtAll K H (xs.map V.int) xs
  | [] => .nil
  | x :: xs => .cons (at_int.mpr rfl) (ints_atAll xs)
theorem atAll_bls : ∀ {vs : List V} {xs : List Bool}, AtAll K H vs xs → vs = xs.map V.bl
  | _, _, .nil => rfl
  | _, _, .cons q t => by
    rw [List.map_cons, ← atAll_bls t, at_bl.mp q]
end

/-! ### a reading gives data by allocating alone -/
section
variable (K : PySem.W.Frag)
def Pe {α : Type} [Rep α] (te : TE) (σ : L2.St) (B : Hp) (x : α) : Prop := ∀ H, Ex B H → ∀ Q : VK, (∀ v B2 H2, Up B H B2 H2 → Rep.at_ K B2 v x → Q v H2) → te σ H Q
def Pt (tt : TT) (σ : L2.St) (B : Hp) (b : Bool) : Prop := ∀ H, Ex B H → ∀ Q : Bool → Hp → Prop, (∀ B2 H2, Up B H B2 H2 → Q b H2) → tt σ H Q
def Pa (ta : TA) (σ : L2.St) (B : Hp) (R : List V → Hp → Prop) : Prop := ∀ H, Ex B H → ∀ Q : List V → Hp → Prop, (∀ vs B2 H2, Up B H B2 H2 → R vs B2 → Q vs H2) → ta σ H Q
def Po (to : TO) (σ : L2.St) (B : Hp) (o : Option Int) : Prop := ∀ H, Ex B H → ∀ Q : Option Int → Hp → Prop, (∀ B2 H2, Up B H B2 H2 → Q o H2) → to σ H Q
end
section
variable {K : PySem.W.Frag} {σ : L2.St} {B B' H : Hp} {te ta tb : TE} {tt tu : TT}
variable {α β γ : Type} [Rep α] [Rep β] [Rep γ]
theorem Pe.mono {x : α} (h : Pe K te σ B x) (e : Ex B B') : Pe K te σ B' x := fun H a Q q => h H (e.trans a) Q fun v B2 H2 u hv => by
  -- the new part: what the reading froze, joined with B'
  refine q v (fun a => match B2 a with | some o => some o | none => B' a) H2 ⟨fun c o hc => ?_, fun c o hc => ?_, u.hh, fun c hc => ?_⟩ (Rep.mono (fun c o hc => ?_) hv)
  · show (match B2 c with | some o => some o | none => B' c) = some o
    cases z : B2 c with
    | none => exact hc
    | some o' =>
      rcases u.nw c (by rw [z]; exact fun w => nomatch w) with n | n
      · cases zb : B c with
        | none => exact absurd zb n
        | some ob =>
          have h1 := u.bb c ob zb
          have h2 := e c ob zb
          rw [z] at h1
          rw [hc] at h2
          show some o' = some o
          rw [h1, h2]
      · have := a c o hc
        rw [n] at this
        cases this
  · have hc' : (match B2 c with | some o => some o | none => B' c) = some o := hc
    cases z : B2 c with
    | none =>
      rw [z] at hc'
      exact u.hh c o (a c o hc')
    | some o' =>
      rw [z] at hc'
      rw [← hc']
      exact u.bh c o' z
  · have hc' : (match B2 c with | some o => some o | none => B' c) ≠ none := hc
    cases z : B2 c with
    | none =>
      rw [z] at hc'
      exact .inl hc'
    | some o' =>
      rcases u.nw c (by rw [z]; exact fun w => nomatch w) with n | n
      · refine .inl ?_
        cases zb : B c with
        | none => exact absurd zb n
        | some ob =>
          rw [e c ob zb]
          exact fun w => nomatch w
      · exact .inr n
  · show (match B2 c with | some o => some o | none => B' c) = some o
    rw [hc]
theorem Pt.mono {b : Bool} (h : Pt tt σ B b) (e : Ex B B') : Pt tt σ B' b := fun H a Q q => h H (e.trans a) Q fun B2 H2 u =>
  q B' H2 ⟨Ex.refl _, a.trans u.hh, u.hh, fun _ h => .inl h⟩
theorem Pe.is {x y : α} (h : Pe K te σ B x) (e : x = y) : Pe K te σ B y := e ▸ h
theorem Pt.is {x y : Bool} (h : Pt tt σ B x) (e : x = y) : Pt tt σ B y := e ▸ h

/-! names, constants -/
theorem e_var {i : Nat} {v : V} {x : α} (h : σ[i]? = some (some v)) (hv : Rep.at_ K B v x) : Pe K (tVar i) σ B x := fun H e Q q => ⟨v, h, q v B H (Up.refl e) hv⟩
theorem e_int {i : Int} : Pe K (tC (.int i)) σ B i := fun H e Q q => q _ B H (Up.refl e) (at_int.mpr rfl)
theorem e_str {i : Str} : Pe K (tC (.str i)) σ B i := fun H e Q q => q _ B H (Up.refl e) (at_str.mpr rfl)
theorem e_bl {i : Bool} : Pe K (tC (.bl i)) σ B i := fun H e Q q => q _ B H (Up.refl e) (at_bl.mpr rfl)
theorem e_non : Pe K (tC .non) σ B () := fun H e Q q => q _ B H (Up.refl e) (at_non.mpr rfl)

/-! two readings, one behind the other -/
theorem Pe.both {x : α} {y : β} (ha : Pe K ta σ B x) (hb : Pe K tb σ B y) {H : Hp} (e : Ex B H) {Q : V → V → Hp → Prop} (q : ∀ v w B2 H2, Up B H B2 H2 → Rep.at_ K B2 v x → Rep.at_ K B2 w y → Q v w H2) :
    ta σ H fun v H1 => tb σ H1 fun w H2 => Q v w H2 := ha H e _ fun v B1 H1 u1 h1 => (hb.mono u1.bb) H1 u1.bh _ fun w B2 H2 u2 h2 => q v w B2 H2 (u1.trans u2) (Rep.mono u2.bb h1) h2
/-- an operation on data -/
def RD (K : PySem.W.Frag) (r : R2) (x : α) (y : β) (z : γ) : Prop := ∀ B H v w, Ex B H → Rep.at_ K B v x → Rep.at_ K B w y → ∀ Q : VK, (∀ u B2 H2, Up B H B2 H2 → Rep.at_ K B2 u z → Q u H2) → r v w H Q
theorem e_op {r : R2} {x : α} {y : β} {z : γ} (ha : Pe K ta σ B x) (hb : Pe K tb σ B y) (hr : RD K r x y z) : Pe K (tOp r ta tb) σ B z := fun H e Q q =>
  ha.both hb e fun v w B2 H2 u h1 h2 => hr B2 H2 v w u.bh h1 h2 Q fun z B3 H3 u3 h3 => q z B3 H3 (u.trans u3) h3
/-- an operation whose answer is no object -/
theorem rd_val {r : R2} {x : α} {y : β} {z : γ} (c : V) (hc : ∀ B, Rep.at_ K B c z) (h : ∀ B H v w, Ex B H → Rep.at_ K B v x → Rep.at_ K B w y → ∀ Q : VK, Q c H → r v w H Q) : RD K r x y z := fun B H v w e h1 h2 Q q =>
  h B H v w e h1 h2 Q (q c B H (Up.refl e) (hc B))
def RU (K : PySem.W.Frag) (r : V → Hp → VK → Prop) (x : α) (z : γ) : Prop := ∀ B H v, Ex B H → Rep.at_ K B v x → ∀ Q : VK, (∀ u B2 H2, Up B H B2 H2 → Rep.at_ K B2 u z → Q u H2) → r v H Q
theorem e_un {r : V → Hp → VK → Prop} {x : α} {z : γ} (ha : Pe K ta σ B x) (hr : RU K r x z) : Pe K (tUn r ta) σ B z := fun H e Q q =>
  ha H e _ fun v B2 H2 u h1 => hr B2 H2 v u.bh h1 Q fun z B3 H3 u3 h3 => q z B3 H3 (u.trans u3) h3

/-! tests -/
theorem t_test {b : Bool} (h : Pe K te σ B b) : Pt (tTest te) σ B b := fun H e Q q => h H e _ fun v B2 H2 u hv => ⟨b, at_bl.mp hv, q B2 H2 u⟩
theorem t_B {b : Bool} (h : Pe K te σ B b) : Pt (tB te) σ B b := fun H e Q q => h H e _ fun v B2 H2 u hv => ⟨b, at_bl.mp hv, q B2 H2 u⟩
theorem t_not {b : Bool} (h : Pt tt σ B b) : Pt (tNot tt) σ B (!b) := fun H e Q q => h H e _ fun B2 H2 u => q B2 H2 u
theorem t_yes : Pt tYes σ B true := fun H e Q q => q B H (Up.refl e)
theorem t_and {a b : Bool} (h1 : Pt tt σ B a) (h2 : a = true → Pt tu σ B b) : Pt (tAnd tt tu) σ B (a && b) := fun H e Q q => h1 H e _ fun B2 H2 u => by
  cases a with
  | true => exact (h2 rfl).mono u.bb H2 u.bh _ fun B3 H3 u3 => q B3 H3 (u.trans u3)
  | false => exact q B2 H2 u
theorem t_or {a b : Bool} (h1 : Pt tt σ B a) (h2 : a = false → Pt tu σ B b) : Pt (tOr tt tu) σ B (a || b) := fun H e Q q => h1 H e _ fun B2 H2 u => by
  cases a with
  | true => exact q B2 H2 u
  | false => exact (h2 rfl).mono u.bb H2 u.bh _ fun B3 H3 u3 => q B3 H3 (u.trans u3)
theorem e_andV {a b : Bool} (h1 : Pe K ta σ B a) (h2 : a = true → Pe K tb σ B b) : Pe K (tAndV ta tb) σ B (a && b) := fun H e Q q => h1 H e _ fun v B2 H2 u hv => ⟨a, at_bl.mp hv, by
  cases a with
  | true => exact (h2 rfl).mono u.bb H2 u.bh _ fun v B3 H3 u3 h3 => q v B3 H3 (u.trans u3) h3
  | false => exact q _ B2 H2 u (at_bl.mpr rfl)⟩
theorem e_orV {a b : Bool} (h1 : Pe K ta σ B a) (h2 : a = false → Pe K tb σ B b) : Pe K (tOrV ta tb) σ B (a || b) := fun H e Q q => h1 H e _ fun v B2 H2 u hv => ⟨a, at_bl.mp hv, by
  cases a with
  | true => exact q _ B2 H2 u (at_bl.mpr rfl)
  | false => exact (h2 rfl).mono u.bb H2 u.bh _ fun v B3 H3 u3 h3 => q v B3 H3 (u.trans u3) h3⟩
theorem e_notV {a : Bool} (h1 : Pe K ta σ B a) : Pe K (tNotV ta) σ B (!a) := fun H e Q q => h1 H e _ fun v B2 H2 u hv => ⟨a, at_bl.mp hv, q _ B2 H2 u (at_bl.mpr rfl)⟩
theorem e_if {b : Bool} {x : α} (h : Pt tt σ B b) (h1 : b = true → Pe K ta σ B x) (h2 : b = false → Pe K tb σ B x) : Pe K (tIf tt ta tb) σ B x := fun H e Q q => h H e _ fun B2 H2 u => by
  cases b with
  | true => exact (h1 rfl).mono u.bb H2 u.bh _ fun v B3 H3 u3 h3 => q v B3 H3 (u.trans u3) h3
  | false => exact (h2 rfl).mono u.bb H2 u.bh _ fun v B3 H3 u3 h3 => q v B3 H3 (u.trans u3) h3

/-! arguments -/
def RNil : List V → Hp → Prop := fun vs _ => vs = []
def RCons (K : PySem.W.Frag) (x : α) (R : List V → Hp → Prop) : List V → Hp → Prop := fun vs B => ∃ v r, vs = v :: r ∧ Rep.at_ K B v x ∧ R r B
theorem a_nil : Pa tNil σ B RNil := fun H e Q q => q [] B H (Up.refl e) rfl
theorem a_cons {x : α} {R : List V → Hp → Prop} {tr : TA} (h : Pe K te σ B x) (hr : ∀ B', Ex B B' → Pa tr σ B' R) : Pa (tCons te tr) σ B (RCons K x R) := fun H e Q q =>
  h H e _ fun v B1 H1 u1 h1 => hr B1 u1.bb H1 u1.bh _ fun vs B2 H2 u2 h2 => q _ B2 H2 (u1.trans u2) ⟨v, vs, rfl, Rep.mono u2.bb h1, h2⟩
theorem a_1 {x : α} (h : Pe K te σ B x) : Pa (tCons te tNil) σ B (RCons K x RNil) := a_cons h fun _ _ => a_nil
theorem a_2 {x : α} {y : β} (h : Pe K ta σ B x) (h2 : Pe K tb σ B y) : Pa (tCons ta (tCons tb tNil)) σ B (RCons K x (RCons K y RNil)) := a_cons h fun _ e => a_1 (h2.mono e)
theorem a_3 {tc : TE} {x : α} {y : β} {z : γ} (h : Pe K ta σ B x) (h2 : Pe K tb σ B y) (h3 : Pe K tc σ B z) : Pa (tCons ta (tCons tb (tCons tc tNil))) σ B (RCons K x (RCons K y (RCons K z RNil))) := a_cons h fun _ e => a_2 (h2.mono e) (h3.mono e)
theorem o_none : Po tNoPart σ B none := fun H e Q q => q B H (Up.refl e)
theorem o_some {i : Int} (h : Pe K te σ B i) : Po (tPart te) σ B (some i) := fun H e Q q => h H e _ fun v B2 H2 u hv => ⟨i, at_int.mp hv, q B2 H2 u⟩
end
end Ob

set_option Elab.async false
set_option linter.all false
set_option maxRecDepth 100000
set_option maxHeartbeats 4000000
/-! Ts: sorting tuples of which some may be empty. -/
namespace Ob
open PySem PySem.Calls PyProof.Rows PySem.W PySem.SeqAt
/-- all are tuples -/
def AllTup (ds : List PyData) : Prop := ∀ d, d ∈ ds → ∃ xs, d = .tuple xs
section
variable {prog : Program} {w : World} {A : Around} {E : Value → Shared → Prop} {s : Shared}
theorem call_tup_lt {Q : Value → Shared → Prop} {l b : Addr} {items items2 : Array Value} {e r : Nat → Bool} (hl : s.heap.IsTuple l items) (hb : s.heap.IsTuple b items2)
    (he : ∀ j (h1 : j < items.size) (h2 : j < items2.size), EqAt A.in1 s items[j] items2[j] (e j)) (hr : ∀ j (h1 : j < items.size) (h2 : j < items2.size), e j = false → RcLt A.in1 s items[j] items2[j] (r j))
    (h : Q (.bool (firstLt e r (decide (items.size < items2.size)) (List.range (min items.size items2.size)))) s) : wpAny (model prog w) A (call (.builtin "tuple.__lt__") [.ref l, .ref b]) Q E s := by
  obtain ⟨⟨cls, dd, data, sl⟩, ho, hc, n, hd⟩ := id hl
  obtain ⟨⟨cls2, dd2, data2, sl2⟩, ho2, hc2, n2, hd2⟩ := id hb
  simp only at hc hd hc2 hd2
  subst hc hd hc2 hd2
  exact call_meets F.slot_tuple_lt ⟨_, ho, rfl⟩ F.entry_tuple_lt (F.args_tuple_lt_2 _ _) (tuple_ltAt l b items items2 n n2 dd dd2 sl sl2 e r) ⟨ho, ho2, he, hr, h⟩
theorem oneLt_tup {xs ys : List PyData} {a b : Value} {as bs : List Addr} {Q : Bool → Shared → Prop} (ra : Reads s.heap a (.tuple xs) as) (rb : Reads s.heap b (.tuple ys) bs) (h : alike (.tuple xs) (.tuple ys) = true)
    (hu : A.units + min (PyData.tuple xs).depth (PyData.tuple ys).depth < cLine) (hq : Q (dataLt (.tuple xs) (.tuple ys)) s) : wpAny (model prog w) A (oneLt' true a b) Q E s := by
  have hal : alikeAll xs ys = true := by simpa [alike] using h
  cases ra with
  | @tuple l o vs n _ as₁ h1 h2 h3 h4 =>
    cases rb with
    | @tuple l' o' vs' n' _ bs₁ k1 k2 k3 k4 =>
      have n1 : vs.size = xs.length := by simpa using ReadsAll.length _ _ _ h4
      have n2 : vs'.size = ys.length := by simpa using ReadsAll.length _ _ _ k4
      rw [dataLt_tuple, ← firstLt_toks xs ys hal, ← n1, ← n2] at hq
      rw [oneLt'_eq]
      simp only [if_true]
      refine wpAny_bind (wpAny_cRoomFor (room_here hu) ?_)
      refine wpAny_bind (wpAny_callSpecialIfBound?_slot (T := "tuple") ⟨_, h1, h2⟩ F.slot_tuple_lt (call_tup_lt (e := pairEq xs ys) (r := fun j => dataLt (xs.getD j .none) (ys.getD j .none)) ⟨_, h1, h2, _, h3⟩ ⟨_, k1, k2, _, k3⟩ (fun j j1 j2 => ?_) (fun j j1 j2 hj => ?_) ?_))
      · have := eqAt_alikeAll xs ys A.in1 s vs.toList vs'.toList _ _ h4 k4 hal (room_in hu) j (by simpa using j1) (by simpa using j2)
        simpa using this
      · have := rcLt_alikeAll xs ys A.in1 s vs.toList vs'.toList _ _ h4 k4 hal (room_in hu) j (by simpa using j1) (by simpa using j2) hj
        simpa using this
      · exact wpAny_truthy_bool hq
/-- the firsts of tuples -/
def FirstIs (h : Heap) (v : Value) (f : Option Value) : Prop := ∃ a o xs n, v = .ref a ∧ h.get? a = some o ∧ o.cls = .type "tuple" ∧ o.data = .seq xs n ∧ xs[0]? = f
theorem firsts_run {M : Model} : ∀ (vs : List Value) (fs : List (Option Value)) {Q : List (Option Value) → Shared → Prop}, EachIs (FirstIs s.heap) vs fs → Q fs s → wpAny M A (vs.mapM firstOfTuple') Q E s
  | _, _, _, .nil, h => by rw [List.mapM_nil]; exact wpAny_pure h
  | v :: vs, f :: fs, Q, .cons ⟨a, o, xs, n, e, ho, hc, hd, hf⟩ t, h => by
    subst e
    rw [List.mapM_cons]
    refine wpAny_bind ?_
    rw [kas_first_eq]
    refine wpAny_bind (Looks.here (show Looks M s.heap (typeOf (.ref a)) o.cls from (Looks.ld ho).andThen .now) ?_)
    rw [hc, if_neg (by first | decide | simp)]
    refine wpAny_bind (listItems_at ho hd (wpAny_pure ?_))
    rw [hf]
    exact wpAny_bind (firsts_run vs fs (Q := fun bs s' => wpAny M A (pure (f :: bs)) Q E s') t (wpAny_pure h))
theorem kind_mixed {M : Model} {vs : List Value} {fs : List (Option Value)} {Q : SortKind → Shared → Prop} (t : EachIs (FirstIs s.heap) vs fs) (hno : ¬ ∀ f ∈ fs, f.isSome = true) (hT : ∀ v ∈ vs, Looks M s.heap (typeOf v) (.type "tuple"))
    (h : Q (if (fs[0]?.bind id).isSome then general' else oneType') s) : wpAny M A (keyKind' vs.toArray) Q E s := by
  rw [kat_kind_eq, List.mapM_toArray, map_eq_pure_bind]
  refine wpAny_bind (wpAny_bind (firsts_run vs fs t (wpAny_pure ?_)))
  have hall : ¬ (fs.toArray.all fun x => x.isSome) = true := by
    simp only [List.all_toArray, List.all_eq_true]
    exact hno
  rw [if_neg hall]
  have e0 : fs.toArray[0]? = fs[0]? := by simp
  rw [e0]
  by_cases hg : (fs[0]?.bind id).isSome = true
  · rw [if_pos hg] at h ⊢
    exact wpAny_pure h
  · rw [if_neg hg] at h ⊢
    rw [oneTypeOnly'_eq, List.mapM_toArray, map_eq_pure_bind]
    refine wpAny_bind (wpAny_bind (wpAny_bind (kas_mapM (r := Value.type "tuple") _ (fun v hv Q' hq => (hT v hv).here hq) (wpAny_pure ?_))))
    have hne : vs ≠ [] := fun e => by
      subst e
      cases t
      exact hno fun f hf => by cases hf
    obtain ⟨v0, vr, rfl⟩ := List.exists_cons_of_ne_nil hne
    have h0 : (List.map (fun _ => Value.type "tuple") (v0 :: vr)).toArray[0]? = some (.type "tuple") := by simp
    have hall2 : ((List.map (fun _ => Value.type "tuple") (v0 :: vr)).toArray.all fun x => x == Value.type "tuple") = true := by
      simp only [List.all_toArray, List.all_map, List.all_eq_true]
      intro _ _
      exact beq_self_eq_true _
    rw [h0]
    simp only [hall2, if_true]
    exact wpAny_pure (wpAny_pure h)
theorem firsts_of {h : Heap} : ∀ {vs : List Value} {ds : List PyData}, EachIs (fun v d => ∃ as, Reads h v d as) vs ds → AllTup ds → ∃ fs, EachIs (FirstIs h) vs fs
  | _, _, .nil, _ => ⟨[], .nil⟩
  | _, _, .cons (b := d) ⟨as, r⟩ t, ht => by
    obtain ⟨fs, h2⟩ := firsts_of t fun d hd => ht d (List.mem_cons_of_mem _ hd)
    obtain ⟨xs, rfl⟩ := ht d List.mem_cons_self
    cases r with
    | @tuple a o vs n _ _ ho hc hd hr => exact ⟨vs[0]? :: fs, .cons ⟨a, o, vs, n, rfl, ho, hc, hd, rfl⟩ h2⟩
theorem firsts_all {h : Heap} : ∀ {vs : List Value} {ds : List PyData} {fs : List (Option Value)}, EachIs (fun v d => ∃ as, Reads h v d as) vs ds → AllTup ds → EachIs (FirstIs h) vs fs → (∀ f ∈ fs, f.isSome = true) → ∀ d, d ∈ ds → ∃ x r, d = .tuple (x :: r)
  | _, _, _, .nil, _, _, _ => fun d hd => by cases hd
  | _, _, _, .cons (b := d) ⟨as, r⟩ t, ht, .cons ⟨a, o, xs, n, e, ho, hc, hd, hf⟩ t2, hall => fun d' hd' => by
    rcases List.mem_cons.mp hd' with rfl | hd'
    · obtain ⟨ys, rfl⟩ := ht _ List.mem_cons_self
      cases r with
      | @tuple a' o' vs n' _ _ ho' hc' hd' hr =>
        cases e
        rw [ho] at ho'
        cases ho'
        rw [hd] at hd'
        cases hd'
        cases ys with
        | cons y ys => exact ⟨y, ys, rfl⟩
        | nil =>
          have h0 : xs.toList.length = 0 := by
            have := ReadsAll.length _ _ _ hr
            simpa using this
          have := hall _ List.mem_cons_self
          rw [← hf, ← Array.getElem?_toList, List.eq_nil_of_length_eq_zero h0] at this
          cases this
    · exact firsts_all t (fun d hd => ht d (List.mem_cons_of_mem _ hd)) t2 (fun f hf => hall f (List.mem_cons_of_mem _ hf)) d' hd'
/-- tuples can be sorted, be some of them empty or not -/
theorem sortsAt_tup {vs : List Value} {ds : List PyData} (e : EachIs (fun v d => ∃ as, Reads s.heap v d as) vs ds) (hal : AllAlike ds) (hk : AllTup ds) (hu : ∀ d, d ∈ ds → A.units + d.depth < cLine) : SortsAt prog w A s (dataKind s.heap ds) vs := by
  obtain ⟨fs, hfs⟩ := firsts_of e hk
  by_cases hall : ∀ f ∈ fs, f.isSome = true
  · exact SortsAt.data e hal (.inl (firsts_all e hk hfs hall)) hu
  · have room : ∀ {d d' : PyData}, d ∈ ds → A.units + min d.depth d'.depth < cLine := fun {d d'} hd => Nat.lt_of_le_of_lt (Nat.add_le_add_left (Nat.min_le_left _ _) _) (hu d hd)
    refine ⟨fun v hv => ?_, if (fs[0]?.bind id).isSome then general' else oneType', ?_, fun h2 E Q hq => kind_mixed hfs hall (fun v hv => ?_) hq⟩
    · obtain ⟨d, hd, as, r⟩ := e.left v hv
      exact ⟨_, dataKind_some hal hd r⟩
    · intro E x y a b Q ha hb hq
      obtain ⟨d, as, hd, ra, rfl⟩ := dataKind_inv ha
      obtain ⟨d', as', hd', rb, rfl⟩ := dataKind_inv hb
      obtain ⟨xs, rfl⟩ := hk d hd
      obtain ⟨ys, rfl⟩ := hk d' hd'
      split
      · show wpAny _ _ (oneLt' false x y) _ _ _
        exact oneLt_alike (f := false) (fun z => by cases z) ra rb (hal _ hd _ hd') (by simp) (room hd) hq
      · show wpAny _ _ (oneLt' true x y) _ _ _
        exact oneLt_tup ra rb (hal _ hd _ hd') (room hd) hq
    · obtain ⟨d, hd, as, r⟩ := e.left v hv
      obtain ⟨xs, rfl⟩ := hk d hd
      exact looks_reads r
theorem sortsAt_any {vs : List Value} {ds : List PyData} (e : EachIs (fun v d => ∃ as, Reads s.heap v d as) vs ds) (hal : AllAlike ds) (hk : Sortable ds ∨ AllTup ds) (hu : ∀ d, d ∈ ds → A.units + d.depth < cLine) : SortsAt prog w A s (dataKind s.heap ds) vs :=
  hk.elim (fun hk => SortsAt.data e hal hk hu) (fun hk => sortsAt_tup e hal hk hu)
end
end Ob

set_option Elab.async false
set_option linter.all false
set_option maxRecDepth 100000
set_option maxHeartbeats 4000000
/-! Ob2: operators and built-ins by data. -/
namespace Ob
open PySem L2
open Evl (Ex)
open PySem.W (Datum Tup DatumOrd)

theorem hu_room {k : Nat} {A : Around} (hr : Room k A) : A.units + 150 < cLine := by have := hr.un; omega
section
variable {X : Cx}
/-! == and != -/
def rEqP (K : PySem.W.Frag) : R2 := fun x y H Q => ∃ d e, Dp K H x d ∧ Dp K H y e ∧ d.plain = true ∧ e.plain = true ∧ d.depth ≤ 64 ∧ Q (.bl (PyData.eqv d e)) H
def rNeP (K : PySem.W.Frag) : R2 := fun x y H Q => ∃ d e, Dp K H x d ∧ Dp K H y e ∧ d.plain = true ∧ e.plain = true ∧ d.depth ≤ 64 ∧ Q (.bl (!PyData.eqv d e)) H
theorem op_eqP (hu : X.A.units + 150 < cLine) : OpR X (compareOp .Eq) (rEqP X.K) := by
  intro pins s σ H x y v u Q I rx ry h
  obtain ⟨d, e, hd, he, pd, pe, hz, q⟩ := h
  obtain ⟨as, r1⟩ := Dp.reads I d x v hd rx
  obtain ⟨bs, r2⟩ := Dp.reads I e y u he ry
  exact PySem.SeqAt.eq_plain r1 r2 pd pe (by have := Nat.min_le_left d.depth e.depth; omega) ⟨.bl _, H, I, rfl, q⟩
theorem op_neP (hu : X.A.units + 150 < cLine) : OpR X (compareOp .NotEq) (rNeP X.K) := by
  intro pins s σ H x y v u Q I rx ry h
  obtain ⟨d, e, hd, he, pd, pe, hz, q⟩ := h
  obtain ⟨as, r1⟩ := Dp.reads I d x v hd rx
  obtain ⟨bs, r2⟩ := Dp.reads I e y u he ry
  exact PySem.SeqAt.ne_plain r1 r2 pd pe (by have := Nat.min_le_left d.depth e.depth; omega) ⟨.bl _, H, I, rfl, q⟩
/-! in, not in: a list or tuple of data; a dict's key; a text in a text -/
def ngb (neg b : Bool) : Bool := if neg then !b else b
def rInP (K : PySem.W.Frag) (neg : Bool) : R2 := fun x y H Q => ∃ d ds, Dp K H x d ∧ (Dp K H y (.list ds) ∨ Dp K H y (.tuple ds)) ∧ PyData.plainAll ds = true ∧ d.plain = true ∧ d.depth ≤ 64 ∧ Q (.bl (ngb neg (ds.any fun z => PyData.eqv z d))) H
def rInDc (neg : Bool) : R2 := fun x y H Q => ∃ a o, y = .ref a ∧ DGet H a x o ∧ Q (.bl (ngb neg o.isSome)) H
def rInSt (neg : Bool) : R2 := fun x y H Q => ∃ i j, x = .str i ∧ y = .str j ∧ Q (.bl (ngb neg (!(Builtin.Str.occurrences j i 0 j.length 1).isEmpty))) H
def rInU (K : PySem.W.Frag) (neg : Bool) : R2 := fun x y H Q => rInP K neg x y H Q ∨ (rInDc neg x y H Q ∨ rInSt neg x y H Q)
theorem op_inP (hu : X.A.units + 150 < cLine) : OpR X (compareOp .In) (rInP X.K false) := by
  intro pins s σ H x y v u Q I rx ry h
  obtain ⟨d, ds, hd, he, pa, pd, hz, q⟩ := h
  obtain ⟨as, r1⟩ := Dp.reads I d x v hd rx
  have hm := Nat.min_le_right (PyData.depthAll ds) d.depth
  rcases he with he | he
  · obtain ⟨bs, r2⟩ := Dp.reads I _ y u he ry
    exact PySem.SeqAt.in_list_data r2 r1 pa pd (by omega) ⟨.bl _, H, I, rfl, q⟩
  · obtain ⟨bs, r2⟩ := Dp.reads I _ y u he ry
    exact PySem.SeqAt.in_tuple_data r2 r1 pa pd (by omega) ⟨.bl _, H, I, rfl, q⟩
theorem op_notInP (hu : X.A.units + 150 < cLine) : OpR X (compareOp .NotIn) (rInP X.K true) := by
  intro pins s σ H x y v u Q I rx ry h
  obtain ⟨d, ds, hd, he, pa, pd, hz, q⟩ := h
  obtain ⟨as, r1⟩ := Dp.reads I d x v hd rx
  have hm := Nat.min_le_right (PyData.depthAll ds) d.depth
  rcases he with he | he
  · obtain ⟨bs, r2⟩ := Dp.reads I _ y u he ry
    exact PySem.SeqAt.notIn_list_data r2 r1 pa pd (by omega) ⟨.bl _, H, I, rfl, q⟩
  · obtain ⟨bs, r2⟩ := Dp.reads I _ y u he ry
    exact PySem.SeqAt.notIn_tuple_data r2 r1 pa pd (by omega) ⟨.bl _, H, I, rfl, q⟩
theorem op_inDc (hu : X.A.units + 150 < cLine) : OpR X (compareOp .In) (rInDc false) := by
  intro pins s σ H x y v u Q I rx ry h
  obtain ⟨a, o, rfl, g, q⟩ := h
  obtain rfl : u = Value.ref a := ry
  exact d_in (by omega) I g rx fun s' I' => ⟨.bl _, H, I', rfl, q⟩
theorem op_notInDc (hu : X.A.units + 150 < cLine) : OpR X (compareOp .NotIn) (rInDc true) := by
  intro pins s σ H x y v u Q I rx ry h
  obtain ⟨a, o, rfl, g, q⟩ := h
  obtain rfl : u = Value.ref a := ry
  exact d_notIn (by omega) I g rx fun s' I' => ⟨.bl _, H, I', rfl, q⟩
theorem op_inU (hu : X.A.units + 150 < cLine) : OpR X (compareOp .In) (rInU X.K false) := (op_inP hu).or ((op_inDc hu).or op_in_str)
theorem op_notInU (hu : X.A.units + 150 < cLine) : OpR X (compareOp .NotIn) (rInU X.K true) := (op_notInP hu).or ((op_notInDc hu).or op_notIn_str)
/-! the order -/
def rLtU (K : PySem.W.Frag) : R2 := fun x y H Q => ∃ (α : Type) (_ : DecidableEq α) (_ : DatumOrd α) (a b : α), Dp K H x (Datum.toD a) ∧ Dp K H y (Datum.toD b) ∧ Datum.depth α ≤ 64 ∧ Q (.bl (DatumOrd.lt a b)) H
def rGtU (K : PySem.W.Frag) : R2 := fun x y H Q => ∃ (α : Type) (_ : DecidableEq α) (_ : DatumOrd α) (a b : α), Dp K H x (Datum.toD a) ∧ Dp K H y (Datum.toD b) ∧ Datum.depth α ≤ 64 ∧ Q (.bl (DatumOrd.lt b a)) H
def rLeU (K : PySem.W.Frag) : R2 := fun x y H Q => ∃ (α : Type) (_ : DecidableEq α) (_ : DatumOrd α) (a b : α), Dp K H x (Datum.toD a) ∧ Dp K H y (Datum.toD b) ∧ Datum.depth α ≤ 64 ∧ Q (.bl (!DatumOrd.lt b a)) H
def rGeU (K : PySem.W.Frag) : R2 := fun x y H Q => ∃ (α : Type) (_ : DecidableEq α) (_ : DatumOrd α) (a b : α), Dp K H x (Datum.toD a) ∧ Dp K H y (Datum.toD b) ∧ Datum.depth α ≤ 64 ∧ Q (.bl (!DatumOrd.lt a b)) H
theorem op_ltU (hu : X.A.units + 150 < cLine) : OpR X (compareOp .Lt) (rLtU X.K) := by
  intro pins s σ H x y v u Q I rx ry h
  obtain ⟨α, i1, i2, a, b, ha, hb, hz, q⟩ := h
  exact PySem.W.lt_datum (Dp.reads I _ x v ha rx) (Dp.reads I _ y u hb ry) (by omega) ⟨.bl _, H, I, rfl, q⟩
theorem op_gtU (hu : X.A.units + 150 < cLine) : OpR X (compareOp .Gt) (rGtU X.K) := by
  intro pins s σ H x y v u Q I rx ry h
  obtain ⟨α, i1, i2, a, b, ha, hb, hz, q⟩ := h
  exact PySem.W.gt_datum (Dp.reads I _ x v ha rx) (Dp.reads I _ y u hb ry) (by omega) ⟨.bl _, H, I, rfl, q⟩
theorem op_leU (hu : X.A.units + 150 < cLine) : OpR X (compareOp .LtE) (rLeU X.K) := by
  intro pins s σ H x y v u Q I rx ry h
  obtain ⟨α, i1, i2, a, b, ha, hb, hz, q⟩ := h
  exact PySem.W.le_datum (Dp.reads I _ x v ha rx) (Dp.reads I _ y u hb ry) (by omega) ⟨.bl _, H, I, rfl, q⟩
theorem op_geU (hu : X.A.units + 150 < cLine) : OpR X (compareOp .GtE) (rGeU X.K) := by
  intro pins s σ H x y v u Q I rx ry h
  obtain ⟨α, i1, i2, a, b, ha, hb, hz, q⟩ := h
  exact PySem.W.ge_datum (Dp.reads I _ x v ha rx) (Dp.reads I _ y u hb ry) (by omega) ⟨.bl _, H, I, rfl, q⟩
/-! + -/
def rCatL (K : PySem.W.Frag) : R2 := fun x y H Q => ∃ l b xs zs, x = .ref l ∧ y = .ref b ∧ SqL K H l xs ∧ SqL K H b zs ∧ xs.length + zs.length ≤ sizeLine ∧ ∀ p, H p = none → Q (.ref p) (upd H p (.lst (xs ++ zs)))
theorem op_catL : OpR X (binaryOp .Add) (rCatL X.K) := by
  intro pins s σ H x y v u Q I rx ry h
  obtain ⟨l, b, xs, zs, rfl, rfl, hH, hB, hz, q⟩ := h
  cases rx
  cases ry
  obtain ⟨its, r, hl, _⟩ := I.list hH
  obtain ⟨its2, r2, hl2, _⟩ := I.list hB
  obtain ⟨⟨cls, dd, data, sl⟩, n, ho, hc, _, hd⟩ := hl
  obtain ⟨⟨cls2, dd2, data2, sl2⟩, n2, ho2, hc2, _, hd2⟩ := hl2
  simp only at hc hd hc2 hd2
  subst hc hd hc2 hd2
  have e : its.toArray ++ its2.toArray = (its ++ its2).toArray := by simp
  refine concat_meets ⟨_, ho, rfl⟩ ⟨_, ho2, rfl⟩ noFill_list_add seq_list_add PySem.F.slot_list_add PySem.F.entry_list_add (PySem.F.args_list_add_2 _ _) (PyProof.Rows.list_addW l b its.toArray its2.toArray n n2 dd dd2 sl sl2 (by rw [List.size_toArray, List.size_toArray, ← r.length, ← r2.length]; exact hz)) ⟨ho, ho2, ?_⟩
  rw [e]
  exact ⟨.ref _, _, I.lnew (t' := s.toks) (r.append r2) (by rw [List.length_append]; exact hz), rfl, q _ I.fresh⟩
def rStAdd : R2 := fun x y H Q => ∃ i j, x = .str i ∧ y = .str j ∧ i.length + j.length ≤ sizeLine ∧ Q (.str (i ++ j)) H
def rAddU (K : PySem.W.Frag) : R2 := fun x y H Q => (rI0 fun i j => .int (i + j)) x y H Q ∨ (rStAdd x y H Q ∨ (rCatL K x y H Q ∨ rCatA K x y H Q))
theorem op_addU : OpR X (binaryOp .Add) (rAddU X.K) := op_add.or (OpR.or (r := rStAdd) op_add_str (op_catL.or op_catA))
/-! * -/
def rMulU : R2 := fun x y H Q => (rI CMul fun i j => .int (i * j)) x y H Q ∨ rRep x y H Q
theorem op_mulU : OpR X (binaryOp .Mult) rMulU := op_mul.or op_rep
/-! len -/
def rLenU (K : PySem.W.Frag) : List V → Hp → VK → Prop := fun xs H Q => (∃ x n, xs = [x] ∧ LenV K x H n ∧ Q (.int n) H) ∨ ∃ a kvs, xs = [V.ref a] ∧ H a = some (.dK kvs) ∧ Q (.int kvs.length) H
theorem call_lenU : CallR X (.builtin "len") (rLenU X.K) := CallR.or call_len call_lenD
/-! sorted -/
theorem vals_each : ∀ {xs : List V} {us : List Value}, Vals xs us → ∀ {α : Type} [Rep α] {K : PySem.W.Frag} {H : Hp} {ys : List α}, AtAll K H xs ys → PySem.W.EachIs (fun u y => ∃ x, RelV x u ∧ Rep.at_ K H x y) us ys
  | _, _, .nil, _, _, _, _, _, h => by cases h; exact .nil
  | _, _, .cons r t, _, _, _, _, _, h => by
    cases h with
    | cons a b => exact .cons ⟨_, r, a⟩ (vals_each t b)
theorem each_vals : ∀ {α : Type} [Rep α] {K : PySem.W.Frag} {H : Hp} {us : List Value} {ys : List α}, PySem.W.EachIs (fun u y => ∃ x, RelV x u ∧ Rep.at_ K H x y) us ys → ∃ xs, Vals xs us ∧ AtAll K H xs ys
  | _, _, _, _, _, _, .nil => ⟨[], .nil, .nil⟩
  | _, _, _, _, _, _, .cons ⟨x, r, a⟩ t => by
    obtain ⟨xs, h1, h2⟩ := each_vals t
    exact ⟨x :: xs, .cons r h1, .cons a h2⟩
/-- the items of a list or a tuple -/
def SqU (K : PySem.W.Frag) (H : Hp) (a : Addr) (xs : List V) : Prop := SqL K H a xs ∨ SqT K H a xs
/-- in ascending order, equal ones as they stood -/
def sortD {α : Type} [DecidableEq α] [DatumOrd α] (xs : List α) : List α := xs.mergeSort fun a b => !DatumOrd.lt b a
theorem dataLe_lt {α : Type} [DecidableEq α] [DatumOrd α] : PySem.W.dataLe (β := α) false Datum.toD = fun a b => !DatumOrd.lt b a := by
  funext a b
  show _ = !DatumOrd.lt b a
  rw [← DatumOrd.lt_eq b a]
  rfl
/-- the collected items of a tuple -/
theorem collect_tup {prog : Program} {w : World} {A : Around} {E : Value → Shared → Prop} {s : Shared} {l : Addr} {vs : List Value} {Q : List Value → Shared → Prop} (hl : s.heap.IsTuple l vs.toArray)
    (h : Q vs { s with heap := (s.heap.push (PyProof.Rows.seqObj "list" #[] 0)).update s.heap.objs.size (Obj.mapSeq (· ++ vs.toArray)) }) (hsz : vs.length ≤ sizeLine) :
    wpAny (model prog w) A (collect (.ref l)) Q E s := by
  obtain ⟨o, ho, hc, n, hd⟩ := id hl
  unfold collect
  refine wpAny_bind (wpAny_runValue (codeAny_builtin PyProof.Rows.entry_proto_collect' ?_))
  show wpAny _ _ (do again (.builtin "list.__iadd__" ⟨[← newList [], .ref l], []⟩)) _ _ s
  refine wpAny_bind (wpAny_newList (wpAny_pure ⟨Code.quiet_builtin _ (by decide +kernel), codeAny_builtin PyProof.Rows.entry_list_iadd' ?_⟩))
  show wpAny _ _ (Builtin.List.listExtendWith (.ref s.heap.objs.size) (.ref l) (.ref s.heap.objs.size)) _ _ { s with heap := s.heap.push (PyProof.Rows.seqObj "list" #[] 0) }
  unfold Builtin.List.listExtendWith
  have ho' : (s.heap.push (PyProof.Rows.seqObj "list" #[] 0)).get? l = some o := Heap.get?_push_of_some _ ho
  refine wpAny_bind (wpAny_typeOf (T := "tuple") ⟨o, ho', hc⟩ ?_)
  have ht : (Value.type "tuple" == Value.type "tuple") = true := by rfl
  rw [if_pos (by rw [ht]; simp)]
  refine wpAny_bind (PyProof.Rows.listItems_at ho' hd ?_)
  refine wpAny_bind (PyProof.Rows.listItems_at (xs := #[]) (n := 0) (Heap.get?_push_size _ rfl) rfl ?_)
  rw [if_neg (by simp)]
  refine wpAny_bind (PyProof.Rows.listUpdate_at (xs := #[]) (n := 0) (Heap.get?_push_size _ rfl) rfl ?_ (Nat.zero_le _) (by show (#[] ++ vs.toArray).size ≤ sizeLine + 1; simp only [Array.size_append, List.size_toArray, List.length_nil]; omega))
  refine wpAny_pure ?_
  show wpAny (model prog w) A (do
      let o ← load s.heap.objs.size
      match o.data with
      | .seq xs _ => pure xs.toList
      | _ => unsupported "internal:collect") Q E { s with heap := (s.heap.push (PyProof.Rows.seqObj "list" #[] 0)).update s.heap.objs.size (Obj.mapSeq (· ++ vs.toArray)) }
  refine wpAny_bind (wpAny_load (PyProof.Rows.get?_update_seq (Heap.get?_push_size _ rfl) _) ?_)
  show wpAny _ _ (pure ((#[] : Array Value) ++ vs.toArray).toList) Q E _
  rw [show ((#[] : Array Value) ++ vs.toArray).toList = vs by simp]
  exact wpAny_pure h
section
open PySem.W PyProof.Rows
theorem sorted_of_sortT {prog : Program} {w : World} {A : Around} {E : Value → Shared → Prop} {s : Shared} {l : Addr} {vs : List Value} {Q : Value → Shared → Prop} (hl : s.heap.IsTuple l vs.toArray) (hL : vs.length ≤ sizeLine)
    (body : ∀ E' : Value → Shared → Prop, wpAny (model prog w) A.in1.in1 (Builtin.«list.sort» ⟨[.ref (s.heap.objs.size + 1)], []⟩) (fun f s' => f = .done (.ret .none) ∧ Q (.ref (s.heap.objs.size + 1)) s') E' { s with heap := copyHeap s.heap vs }) :
    wpAny (model prog w) A (call (.builtin "sorted") [.ref l]) Q E s := by
  refine Calls.call_function_entry kind_sorted plain_sorted entry_sorted (args_sorted1 _) ?_
  unfold Builtin.«sorted»
  refine wpAny_bind (m := checkCount "sorted" 1 1 _) (wpAny_pure ?_)
  refine wpAny_bind (collect_tup hl ?_ hL)
  refine wpAny_bind (wpAny_newList ?_ hL)
  have hsz : ((s.heap.push (seqObj "list" #[] 0)).update s.heap.objs.size (Obj.mapSeq (· ++ vs.toArray))).objs.size = s.heap.objs.size + 1 := by
    rw [Heap.size_update, size_push']
  show wpAny _ _ _ _ _ { s with heap := copyHeap s.heap vs }
  rw [hsz]
  refine wpAny_bind (wpAny_holding (wpAny_call_entry slot_list_sort ⟨_, copyHeap_at s.heap vs, rfl⟩ entry_list_sort ?body (args_list_sort _)))
  case body =>
    show wpAny (model prog w) A.in1.in1 (Builtin.«list.sort» ⟨[.ref (s.heap.objs.size + 1)], []⟩) _ _ _
    refine wpAny_mono (body _) (fun f s' hf => ?_) fun _ _ e => e
    obtain ⟨rfl, hq⟩ := hf
    exact ⟨_, rfl, wpAny_pure ⟨_, rfl, hq⟩⟩
theorem sorted_dataL {prog : Program} {w : World} {A : Around} {E : Value → Shared → Prop} {s : Shared} {β : Type} {vs : List Value} {bs : List β} {enc : β → PyData} {R : Value → β → Prop} {l : Addr} {Q : Value → Shared → Prop}
    (hl : s.heap.IsList l vs.toArray) (e : EachIs R vs bs) (er : EachIs (fun v b => ∃ as, Reads s.heap v (enc b) as) vs bs) (hal : AllAlike (bs.map enc)) (hk : Sortable (bs.map enc) ∨ AllTup (bs.map enc)) (hL : bs.length ≤ sizeLine)
    (hu : ∀ b, b ∈ bs → A.units + 2 + (enc b).depth < cLine) (h : ∀ out, out.length = bs.length → EachIs R out (bs.mergeSort (dataLe false enc)) → Q (.ref (s.heap.objs.size + 1)) { s with heap := sortedAll s.heap vs (List.toArray out) }) :
    wpAny (model prog w) A (call (.builtin "sorted") [.ref l]) Q E s := by
  have er' : EachIs (fun v b => ∃ as, Reads (sortingHeap (copyHeap s.heap vs) (s.heap.objs.size + 1) vs) v (enc b) as) vs bs := er.mono fun _ _ ⟨as, r⟩ => ⟨as, PyProof.Rows.Reads.keeps (fun _ _ => sorting_copy_old) r⟩
  exact sorted_vals hl (sortsAt_any (s := { s with heap := sortingHeap (copyHeap s.heap vs) (s.heap.objs.size + 1) vs }) (each_map (R := fun v d => ∃ as, Reads (sortingHeap (copyHeap s.heap vs) (s.heap.objs.size + 1) vs) v d as) enc er') hal hk (bound_map hu)) (by rw [e.length]; exact hL)
    (h _ (by rw [sortVals_length false rfl]; exact e.length) (sortVals_data false e er' hal))
theorem sorted_dataT {prog : Program} {w : World} {A : Around} {E : Value → Shared → Prop} {s : Shared} {β : Type} {vs : List Value} {bs : List β} {enc : β → PyData} {R : Value → β → Prop} {l : Addr} {Q : Value → Shared → Prop}
    (hl : s.heap.IsTuple l vs.toArray) (e : EachIs R vs bs) (er : EachIs (fun v b => ∃ as, Reads s.heap v (enc b) as) vs bs) (hal : AllAlike (bs.map enc)) (hk : Sortable (bs.map enc) ∨ AllTup (bs.map enc)) (hL : bs.length ≤ sizeLine)
    (hu : ∀ b, b ∈ bs → A.units + 2 + (enc b).depth < cLine) (h : ∀ out, out.length = bs.length → EachIs R out (bs.mergeSort (dataLe false enc)) → Q (.ref (s.heap.objs.size + 1)) { s with heap := sortedAll s.heap vs (List.toArray out) }) :
    wpAny (model prog w) A (call (.builtin "sorted") [.ref l]) Q E s := by
  have er' : EachIs (fun v b => ∃ as, Reads (sortingHeap (copyHeap s.heap vs) (s.heap.objs.size + 1) vs) v (enc b) as) vs bs := er.mono fun _ _ ⟨as, r⟩ => ⟨as, PyProof.Rows.Reads.keeps (fun _ _ => sorting_copy_old) r⟩
  have hL' : vs.length ≤ sizeLine := by rw [e.length]; exact hL
  exact sorted_of_sortT hl hL' fun _ => list_sort_vals (s := { s with heap := copyHeap s.heap vs }) (copyHeap_at s.heap vs) (sortsAt_any (s := { s with heap := sortingHeap (copyHeap s.heap vs) (s.heap.objs.size + 1) vs }) (each_map (R := fun v d => ∃ as, Reads (sortingHeap (copyHeap s.heap vs) (s.heap.objs.size + 1) vs) v d as) enc er') hal hk (bound_map hu)) hL'
    ⟨rfl, h _ (by rw [sortVals_length false rfl]; exact e.length) (sortVals_data false e er' hal)⟩
end
def rSortD (K : PySem.W.Frag) : List V → Hp → VK → Prop := fun vs H Q => ∃ (α : Type) (_ : DecidableEq α) (_ : DatumOrd α) (a : Addr) (xs : List V) (bs : List α) (B : Hp), vs = [V.ref a] ∧ (SqL K H a xs ∨ SqT K H a xs) ∧ Ex B H ∧ AtAll K B xs bs ∧ (PySem.W.Sortable (bs.map (Datum.toD (α := α))) ∨ AllTup (bs.map (Datum.toD (α := α)))) ∧ Datum.depth α ≤ 64 ∧
  ∀ ys p, AtAll K B ys (sortD bs) → H p = none → Q (.ref p) (upd H p (.lst ys))
theorem cr_sortD (hu : X.A.units + 150 < cLine) : CallR X (.builtin "sorted") (rSortD X.K) := by
  intro pins s σ H vs us Q I r h
  obtain ⟨α, i1, i2, a, xs, bs, B, rfl, hs, eB, hb, hk, hz, q⟩ := h
  have key : ∀ its : List Value, Vals xs its → xs.length ≤ sizeLine → (∀ Q', (∀ out : List Value, out.length = bs.length → PySem.W.EachIs (fun u y => ∃ x, RelV x u ∧ Rep.at_ X.K B x y) out (bs.mergeSort (PySem.W.dataLe false Datum.toD)) → Q' (.ref (s.heap.objs.size + 1)) { s with heap := PyProof.Rows.sortedAll s.heap its (List.toArray out) }) →
      wpAny (model X.prog X.w) X.A (call (.builtin "sorted") [.ref a]) Q' X.xe s) → wpAny (model X.prog X.w) X.A (call (.builtin "sorted") [.ref a]) (EP X pins σ Q) X.xe s := by
    intro its rv hsz k
    refine k _ fun out ho ho2 => ?_
    rw [dataLe_lt] at ho2
    obtain ⟨ys, h1, h2⟩ := each_vals ho2
    obtain ⟨ep, he'⟩ := PyProof.Rows.sortedAll_at s.heap its out.toArray
    have hlen : ys.length ≤ sizeLine := by rw [h1.length, ho, ← hb.length]; exact hsz
    exact ⟨.ref _, upd H (s.heap.objs.size + 1) (.lst ys), I.laid (t' := s.toks) (fun _ _ => PyProof.Rows.sortedAll_old) (Nat.le_succ _) ⟨hlen, out, ep, h1, he'⟩, rfl, q ys _ h2 (I.hok.fresh (Nat.le_succ _))⟩
  rw [Vals.ref1 r]
  rcases hs with hs | hs
  · obtain ⟨its, rv, hl, hsz⟩ := I.list hs
    have he := vals_each rv hb
    have hbl : bs.length ≤ sizeLine := by rw [← hb.length]; exact hsz
    exact key its rv hsz fun Q' k => sorted_dataL (enc := Datum.toD) hl.isList he (he.mono fun u y ⟨x, rx, hx⟩ => Dp.reads I _ x u (dp_mono eB _ _ hx) rx) (PySem.W.AllAlike.of fun b b' => DatumOrd.alike b b') hk hbl (fun b _ => by have := Datum.depth_le b; omega) k
  · obtain ⟨its, rv, hl, hsz⟩ := I.tuple hs
    have he := vals_each rv hb
    have hbl : bs.length ≤ sizeLine := by rw [← hb.length]; exact hsz
    exact key its rv hsz fun Q' k => sorted_dataT (enc := Datum.toD) hl he (he.mono fun u y ⟨x, rx, hx⟩ => Dp.reads I _ x u (dp_mono eB _ _ hx) rx) (PySem.W.AllAlike.of fun b b' => DatumOrd.alike b b') hk hbl (fun b _ => by have := Datum.depth_le b; omega) k
end
end Ob

set_option Elab.async false
set_option linter.all false
set_option maxRecDepth 100000
set_option maxHeartbeats 4000000
/-! Ob3: walks over data, comprehensions, loops, statements. -/
namespace Ob
open PySem L2
open Evl (Ex)
open PySem.W (Datum Tup DatumOrd)

/-! ### a list or a tuple walked -/
def iSeq (K : PySem.W.Frag) (tl : TE) : TI := fun σ H R => tl σ H fun x H1 => ∃ a, x = .ref a ∧ (((∃ xs, SqL K H1 a xs) ∧ R (Itl K a) H1) ∨ ((∃ xs, SqT K H1 a xs) ∧ R (Itt K a) H1))
section
variable {X : Cx} {tg : Expr}
theorem pi_seq {l : Expr} {tl : TE} (hl : PE X l tl) : PI X tg l (iSeq X.K tl) := by
  refine ⟨fun pins s σ H R I h => ?_⟩
  refine thn (hl.run pins s σ H _ I h) fun v s1 ⟨x, H1, I1, r1, q1⟩ => ?_
  obtain ⟨a, e, q⟩ := q1
  subst e
  cases r1
  rcases q with ⟨⟨xs, hq⟩, q⟩ | ⟨⟨xs, hq⟩, q⟩
  · obtain ⟨its, rv, p, hz⟩ := I1.list hq
    refine wpAny_pyIter_list p.isList ?_
    refine ⟨s1.heap.objs.size, [s1.heap.objs.size], _, _, H1, rfl, I1.kept (t' := s1.toks) fun b o e => Heap.get?_push_of_some _ e, turn_list a _, ⟨_, Heap.get?_push_size _ rfl, rfl, rfl⟩, fun b hb => ?_, q⟩
    have e : b = s1.heap.objs.size := by simpa using hb
    subst e
    exact I1.fpOk (Nat.le_refl _) (I1.hok.fresh (Nat.le_refl _))
  · obtain ⟨its, rv, p, hz⟩ := I1.tuple hq
    refine wpAny_pyIter_tuple (show s1.heap.IsTuple a its.toArray from p) ?_
    refine ⟨s1.heap.objs.size, [s1.heap.objs.size], _, _, H1, rfl, I1.kept (t' := s1.toks) fun b o e => Heap.get?_push_of_some _ e, turn_tuple a _, ⟨_, Heap.get?_push_size _ rfl, rfl, rfl⟩, fun b hb => ?_, q⟩
    have e : b = s1.heap.objs.size := by simpa using hb
    subst e
    exact I1.fpOk (Nat.le_refl _) (I1.hok.fresh (Nat.le_refl _))
end

/-! ### walks over data -/
section
variable (K : PySem.W.Frag) {α : Type} [Rep α]
/-- wi walks the data xs; what it gives may be a new object -/
def ItD (wi : TI) (σ : L2.St) (B : Hp) (xs : List α) : Prop := ∀ H, Ex B H → ∀ R : It → Hp → Prop,
  (∀ J B1 H1 G Y, Up B H B1 H1 → Walk J xs.length G Y → (∀ H', Ex B1 H' → G H') →
    (∀ i x Hx H', i < xs.length → Ex B1 Hx → Y i Hx x H' → ∃ d, xs[i]? = some d ∧ ∀ B', Ex B1 B' → Ex B' Hx → ∃ B2, Up B' Hx B2 H' ∧ Rep.at_ K B2 x d) → R J H1) → wi σ H R
end
section
variable {K : PySem.W.Frag} {σ : L2.St} {B B' H : Hp} {te ta tb : TE} {tt tu : TT}
variable {α β γ : Type} [DecidableEq α] [Datum α] [DecidableEq β] [Datum β]
theorem it_seqL {xs : List α} (h : Pe K te σ B xs) : ItD K (iSeq K te) σ B xs := fun H e R q => h H e _ fun v B1 H1 u hv => by
  obtain ⟨a, vs, rfl, hs, hx⟩ := at_list.mp hv
  refine ⟨a, rfl, .inl ⟨⟨vs, Evl.ex_l u.bh hs⟩, ?_⟩⟩
  refine q (Itl K a) B1 H1 (fun H => SqL K H a vs) (YAt vs) u ?_ (fun H' e' => Evl.ex_l e' hs) fun i x Hx H' hi ex y => ?_
  · rw [← hx.length]
    exact walk_list
  · obtain ⟨y1, y2⟩ := y
    obtain ⟨d, hd, hxd⟩ := AtAll.get' hx y2
    refine ⟨d, hd, fun B' b1 b2 => ⟨B', ?_, Rep.mono b1 hxd⟩⟩
    rw [y1]
    exact Up.refl b2
theorem it_seqT {xs : List α} (h : Pe K te σ B (Tup.mk xs)) : ItD K (iSeq K te) σ B xs := fun H e R q => h H e _ fun v B1 H1 u hv => by
  obtain ⟨a, vs, rfl, hs, hx⟩ := at_tup.mp hv
  refine ⟨a, rfl, .inr ⟨⟨vs, ex_tx u.bh hs⟩, ?_⟩⟩
  refine q (Itt K a) B1 H1 (fun H => SqT K H a vs) (YAt vs) u ?_ (fun H' e' => ex_tx e' hs) fun i x Hx H' hi ex y => ?_
  · have e : xs.length = vs.length := hx.length.symm
    rw [e]
    exact walk_tup
  · obtain ⟨y1, y2⟩ := y
    obtain ⟨d, hd, hxd⟩ := AtAll.get' hx y2
    refine ⟨d, hd, fun B' b1 b2 => ⟨B', ?_, Rep.mono b1 hxd⟩⟩
    rw [y1]
    exact Up.refl b2
/-- a new pair is given -/
theorem pair_new {Hx H' : Hp} {T : Addr} {x y : V} {a : α} {b : β} {B1 : Hp} (hT : Hx T = none) (eH : H' = upd Hx T (.tup [x, y])) (hx : Rep.at_ K B1 x a) (hy : Rep.at_ K B1 y b) :
    ∀ B', Ex B1 B' → Ex B' Hx → ∃ B2, Up B' Hx B2 H' ∧ Rep.at_ K B2 (.ref T) (a, b) := fun B' b1 b2 => by
  subst eH
  have u := Up.new (o := .tup [x, y]) b2 hT
  exact ⟨_, u, at_pair.mpr ⟨T, x, y, rfl, upd_same, Rep.mono (b1.trans u.bb) hx, Rep.mono (b1.trans u.bb) hy⟩⟩
/-- (0, x), (1, y), .. -/
def enumI (xs : List α) : List (Int × α) := xs.zipIdx.map fun p => ((p.2 : Int), p.1)
theorem enumI_len (xs : List α) : (enumI xs).length = xs.length := by simp [enumI]
theorem enumI_get {xs : List α} {i : Nat} {x : α} (h : xs[i]? = some x) : (enumI xs)[i]? = some ((i : Int), x) := by
  simp [enumI, List.getElem?_zipIdx, h]
theorem it_enumL {xs : List α} (h : Pe K te σ B xs) : ItD K (iEnum K (tCons te tNil)) σ B (enumI xs) := fun H e R q => h H e _ fun v B1 H1 u hv => by
  obtain ⟨a, vs, rfl, hs, hx⟩ := at_list.mp hv
  refine ⟨a, vs, rfl, Evl.ex_l u.bh hs, ?_⟩
  refine q (Ite K a) B1 H1 (fun H => SqL K H a vs) (YPair (fun i => some (.int (i : Nat))) (fun i => vs[i]?)) u ?_ (fun H' e' => Evl.ex_l e' hs) fun i x Hx H' hi ex y => ?_
  · rw [enumI_len, ← hx.length]
    exact walk_enum
  · obtain ⟨T, x1, y1, rfl, hT, eH, e1, e2⟩ := y
    obtain ⟨d, hd, hxd⟩ := AtAll.get' hx e2
    cases Option.some.inj e1
    exact ⟨_, enumI_get hd, pair_new hT eH (at_int.mpr rfl) hxd⟩
theorem it_zipL {xs : List α} {ys : List β} (h : Pe K ta σ B xs) (h2 : Pe K tb σ B ys) : ItD K (RZ.iZipA K (tCons ta (tCons tb tNil))) σ B (xs.zip ys) := fun H e R q => h.both h2 e fun v w B1 H1 u hv hw => by
  obtain ⟨a, vs, rfl, hs, hx⟩ := at_list.mp hv
  obtain ⟨b, ws, rfl, hs2, hy⟩ := at_list.mp hw
  refine ⟨a, b, vs, ws, rfl, .inl ⟨Evl.ex_l u.bh hs, Evl.ex_l u.bh hs2, ?_⟩⟩
  refine q (Itz K a b) B1 H1 (fun H => SqL K H a vs ∧ SqL K H b ws) (YPair (fun i => vs[i]?) (fun i => ws[i]?)) u (walk_zip ?_) (fun H' e' => ⟨Evl.ex_l e' hs, Evl.ex_l e' hs2⟩) fun i x Hx H' hi ex y => ?_
  · rw [List.length_zip, hx.length, hy.length]
  · obtain ⟨T, x1, y1, rfl, hT, eH, e1, e2⟩ := y
    obtain ⟨d, hd, hxd⟩ := AtAll.get' hx e1
    obtain ⟨d2, hd2, hyd⟩ := AtAll.get' hy e2
    exact ⟨(d, d2), by rw [List.getElem?_zip_eq_some]; exact ⟨hd, hd2⟩, pair_new hT eH hxd hyd⟩
theorem walk_zipT {K : PySem.W.Frag} {a b : Addr} {xs ys : List V} {n : Nat} (hn : n = min xs.length ys.length) : Walk (RZ.ItzT K a b) n (fun H => SqT K H a xs ∧ SqT K H b ys) (YPair (fun i => xs[i]?) (fun i => ys[i]?)) := by
  subst hn
  refine ⟨fun i _ hi q => ?_, fun _ q => ⟨xs, ys, q.1, q.2, by omega⟩, fun i H v H' _ q y => ?_⟩
  · have h1 : i < xs.length := by omega
    have h2 : i < ys.length := by omega
    exact ⟨xs, ys, xs[i], ys[i], q.1, q.2, by simp [h1], by simp [h2]⟩
  · obtain ⟨T, x, z, h1, h2, h3, h4, h5⟩ := y
    exact ⟨T, x, z, h1, h2, h3, h4 xs q.1, h5 ys q.2⟩
theorem it_zipT {xs : List α} {ys : List β} (h : Pe K ta σ B (Tup.mk xs)) (h2 : Pe K tb σ B (Tup.mk ys)) : ItD K (RZ.iZipA K (tCons ta (tCons tb tNil))) σ B (xs.zip ys) := fun H e R q => h.both h2 e fun v w B1 H1 u hv hw => by
  obtain ⟨a, vs, rfl, hs, hx⟩ := at_tup.mp hv
  obtain ⟨b, ws, rfl, hs2, hy⟩ := at_tup.mp hw
  refine ⟨a, b, vs, ws, rfl, .inr ⟨ex_tx u.bh hs, ex_tx u.bh hs2, ?_⟩⟩
  refine q (RZ.ItzT K a b) B1 H1 (fun H => SqT K H a vs ∧ SqT K H b ws) (YPair (fun i => vs[i]?) (fun i => ws[i]?)) u (walk_zipT ?_) (fun H' e' => ⟨ex_tx e' hs, ex_tx e' hs2⟩) fun i x Hx H' hi ex y => ?_
  · rw [List.length_zip, hx.length, hy.length]
  · obtain ⟨T, x1, y1, rfl, hT, eH, e1, e2⟩ := y
    obtain ⟨d, hd, hxd⟩ := AtAll.get' hx e1
    obtain ⟨d2, hd2, hyd⟩ := AtAll.get' hy e2
    exact ⟨(d, d2), by rw [List.getElem?_zip_eq_some]; exact ⟨hd, hd2⟩, pair_new hT eH hxd hyd⟩
def rangeI (lo : Int) (n : Nat) : List Int := (List.range n).map fun (i : Nat) => lo + (i : Int)
theorem it_rng1 {n : Int} (h : Pe K te σ B n) (hn : n < 2 ^ 62) (hn0 : -(2 ^ 62) ≤ n) : ItD K (iRng1 (tCons te tNil)) σ B (rangeI 0 n.toNat) := fun H e R q => h H e _ fun v B1 H1 u hv => by
  cases at_int.mp hv
  refine ⟨n, rfl, hn0, hn, ?_⟩
  refine q (Itr 0 n.toNat) B1 H1 (fun _ => True) (YFn fun i => .int (0 + i)) u ?_ (fun _ _ => trivial) fun i x Hx H' hi ex y => ?_
  · have e : (rangeI 0 n.toNat).length = n.toNat := by simp [rangeI]
    rw [e]
    exact walk_range
  · obtain ⟨y1, y2⟩ := y
    have hi' : i < n.toNat := by simpa [rangeI] using hi
    refine ⟨0 + (i : Int), by simp [rangeI, hi'], fun B' b1 b2 => ⟨B', ?_, by rw [y2]; exact at_int.mpr rfl⟩⟩
    rw [y1]
    exact Up.refl b2
theorem it_rng2 {lo n : Int} (h0 : Pe K ta σ B lo) (h : Pe K tb σ B n) (hn : -(2 ^ 62) ≤ lo ∧ lo < 2 ^ 62 ∧ -(2 ^ 62) ≤ n ∧ n < 2 ^ 62) : ItD K (iRng2 (tCons ta (tCons tb tNil))) σ B (rangeI lo (n - lo).toNat) := fun H e R q => h0.both h e fun v w B1 H1 u hv hw => by
  cases at_int.mp hv
  cases at_int.mp hw
  refine ⟨lo, n, rfl, hn, ?_⟩
  refine q (Itr lo (n - lo).toNat) B1 H1 (fun _ => True) (YFn fun i => .int (lo + i)) u ?_ (fun _ _ => trivial) fun i x Hx H' hi ex y => ?_
  · have e : (rangeI lo (n - lo).toNat).length = (n - lo).toNat := by simp [rangeI]
    rw [e]
    exact walk_range
  · obtain ⟨y1, y2⟩ := y
    have hi' : i < (n - lo).toNat := by simpa [rangeI] using hi
    refine ⟨lo + (i : Int), by simp [rangeI, hi'], fun B' b1 b2 => ⟨B', ?_, by rw [y2]; exact at_int.mpr rfl⟩⟩
    rw [y1]
    exact Up.refl b2

/-! ### one turn of a comprehension: the slots behind its target, its test, its item -/
def TurnD (K : PySem.W.Frag) {β : Type} [Rep β] (g : TG) (tt : TT) (te : TE) (vs : List Nat) (σ : L2.St) (B : Hp) (v : V) (b : Bool) (r : β) : Prop :=
  ∃ σ2, (∀ H (Q : L2.St → Hp → Prop), Ex B H → Q σ2 H → g v (wipe σ vs) H Q) ∧ wipe σ2 vs = wipe σ vs ∧ Pt tt σ2 B b ∧ (b = true → Pe K te σ2 B r)
theorem mem_of_get {xs : List γ} {i : Nat} {x : γ} (h : xs[i]? = some x) : x ∈ xs := List.mem_of_getElem? h
theorem take_snoc {xs : List γ} {i : Nat} {x : γ} (h : xs[i]? = some x) : xs.take (i + 1) = xs.take i ++ [x] := by
  rw [List.take_add_one, h]
  rfl
theorem e_lc [Rep γ] {wi : TI} {g : TG} {vs : List Nat} {xs : List γ} (f : γ → Bool) (y : γ → β) (h : ItD K wi σ B xs) (hz : xs.length ≤ 1000000)
    (ht : ∀ x ∈ xs, ∀ v B1, Ex B B1 → Rep.at_ K B1 v x → TurnD K g tt te vs σ B1 v (f x) (y x)) : Pe K (tLc wi g tt te vs) σ B ((xs.filter f).map y) := fun H e Q q =>
  h H e _ fun J B1 H1 G Y up W hG hY D hD => by
    have hDH : H D = none := Evl.fresh_back up.hh hD
    have hDB : B1 D = none := Evl.fresh_back up.bh hD
    refine lc_it W (fun i H' => ∃ Bi ws, Ex B1 Bi ∧ (∀ a, Bi a ≠ none → B1 a ≠ none ∨ H1 a = none) ∧ Bi D = none ∧ Ex Bi H' ∧ Ex H1 H' ∧ H' D = some (.lst ws) ∧ AtAll K Bi ws (((xs.take i).filter f).map y))
      ⟨B1, [], Ex.refl _, fun _ h => .inl h, hDB, ex_upd up.bh hDB, Ex.new hD, upd_same, .nil⟩ (fun i H' _ p => ?_) (fun i x Hx H' hi p hy => ?_) (fun H' p => ?_)
    · obtain ⟨Bi, ws, b1, _, _, b2, _⟩ := p
      exact hG H' (b1.trans b2)
    · obtain ⟨Bi, ws, b1, nw, bD, b2, hh, eD, hA⟩ := p
      obtain ⟨d, hd, hB⟩ := hY i x Hx H' hi (b1.trans b2) hy
      obtain ⟨B2, u2, hx⟩ := hB Bi b1 b2
      obtain ⟨o1, o2⟩ := u2.out bD eD
      obtain ⟨σ2, hg, hw, htt, hte⟩ := ht d (mem_of_get hd) x B2 ((up.bb.trans b1).trans u2.bb) hx
      refine hg H' _ u2.bh ⟨hw, htt H' u2.bh _ fun B3 H3 u3 => ?_⟩
      obtain ⟨o3, o4⟩ := u3.out o1 o2
      have nw3 : ∀ a, B3 a ≠ none → B1 a ≠ none ∨ H1 a = none := fun a ha => by
        rcases (u2.trans u3).nw a ha with z | z
        · exact nw a z
        · exact .inr (Evl.fresh_back hh z)
      cases hf : f d with
      | true =>
        rw [hf] at hte
        refine ((hte rfl).mono u3.bb) H3 u3.bh _ fun w B4 H4 u4 hw4 => ⟨ws, (u4.out o3 o4).2, ?_, B4, ws ++ [w], ?_, ?_, (u4.out o3 o4).1, ex_upd u4.bh (u4.out o3 o4).1, ?_, upd_same, ?_⟩
        · have := hA.length
          rw [List.length_map] at this
          have h2 := List.length_filter_le f (xs.take i)
          have h3 := List.length_take_le i xs
          have : (sizeLine : Nat) = 16777216 := sizeLine_eq
          omega
        · exact ((b1.trans u2.bb).trans u3.bb).trans u4.bb
        · intro a ha
          rcases ((u2.trans u3).trans u4).nw a ha with z | z
          · exact nw a z
          · exact .inr (Evl.fresh_back hh z)
        · exact Ex.mut (((hh.trans u2.hh).trans u3.hh).trans u4.hh) hD
        · rw [take_snoc hd, List.filter_append, List.map_append, List.filter_cons, if_pos hf]
          exact AtAll.snoc (hA.mono ((u2.bb.trans u3.bb).trans u4.bb)) hw4
      | false =>
        refine ⟨B3, ws, (b1.trans u2.bb).trans u3.bb, nw3, o3, u3.bh, (hh.trans u2.hh).trans u3.hh, o4, ?_⟩
        rw [take_snoc hd, List.filter_append, List.map_append, List.filter_cons, if_neg (by rw [hf]; decide)]
        show AtAll K B3 ws (_ ++ [])
        rw [List.append_nil]
        exact hA.mono (u2.bb.trans u3.bb)
    · obtain ⟨Bi, ws, b1, nw, bD, b2, hh, eD, hA⟩ := p
      rw [List.take_length] at hA
      refine q (.ref D) (upd Bi D (.lst ws)) H' ⟨(up.bb.trans b1).trans (Ex.new bD), ex_in b2 eD, up.hh.trans hh, fun a ha => ?_⟩ (at_list.mpr ⟨D, ws, rfl, Evl.sq_of upd_same, hA.mono (Ex.new bD)⟩)
      by_cases hDa : a = D
      · exact .inr (hDa ▸ hDH)
      · rw [upd_ne hDa] at ha
        rcases nw a ha with z | z
        · exact up.nw a z
        · exact .inr (Evl.fresh_back up.hh z)
/-- the target a name -/
theorem turn_name [Rep γ] {σ2 : L2.St} {vs : List Nat} {v : V} {b : Bool} {r : γ} {j : Nat} (e : (wipe σ vs).set j (some v) = σ2) (hw : wipe σ2 vs = wipe σ vs) (ht : Pt tt σ2 B b) (he : b = true → Pe K te σ2 B r) : TurnD K (gName j) tt te vs σ B v b r :=
  ⟨σ2, fun H Q _ q => by rw [← e] at q; exact q, hw, ht, he⟩
/-- the target two names -/
theorem turn_pair [Rep γ] {σ2 : L2.St} {vs : List Nat} {v : V} {b : Bool} {r : γ} {i j : Nat} {p : α × β} (hp : Rep.at_ K B v p)
    (h : ∀ v1 v2, Rep.at_ K B v1 p.1 → Rep.at_ K B v2 p.2 → wipe (((wipe σ vs).set i (some v1)).set j (some v2)) vs = wipe σ vs ∧ Pt tt (((wipe σ vs).set i (some v1)).set j (some v2)) B b ∧ (b = true → Pe K te (((wipe σ vs).set i (some v1)).set j (some v2)) B r)) :
    TurnD K (gTup K 2 (gCons (gName i) (gCons (gName j) gNil))) tt te vs σ B v b r := by
  obtain ⟨a, v1, v2, rfl, hs, h1, h2⟩ := at_pair.mp hp
  obtain ⟨hw, ht, he⟩ := h v1 v2 h1 h2
  exact ⟨_, fun H Q e q => ⟨a, [v1, v2], rfl, ex_tx e hs, rfl, v1, [v2], rfl, v2, [], rfl, rfl, q⟩, hw, ht, he⟩
end
end Ob

set_option Elab.async false
set_option linter.all false
set_option maxRecDepth 100000
set_option maxHeartbeats 4000000
/-! Ob4: expressions by type; statements; loops. -/
namespace Ob
open PySem L2
open Evl (Ex)
open PySem.W (Datum Tup DatumOrd)

section
variable {K : PySem.W.Frag} {σ : L2.St} {B B' H : Hp} {te ta tb : TE} {tt tu : TT}
variable {α β γ : Type} [DecidableEq α] [Datum α] [DecidableEq β] [Datum β]
/-! comparisons -/
theorem e_eq {x y : α} (ha : Pe K ta σ B x) (hb : Pe K tb σ B y) (hz : Datum.depth α ≤ 64 := by decide) : Pe K (tOp (rEqP K) ta tb) σ B (decide (x = y)) :=
  e_op ha hb (rd_val (.bl (decide (x = y))) (fun _ => at_bl.mpr rfl) fun B H v w e h1 h2 Q q => ⟨_, _, dp_mono e _ _ h1, dp_mono e _ _ h2, Datum.plain x, Datum.plain y, Nat.le_trans (Datum.depth_le x) hz, by rw [Datum.eqv]; exact q⟩)
theorem e_ne {x y : α} (ha : Pe K ta σ B x) (hb : Pe K tb σ B y) (hz : Datum.depth α ≤ 64 := by decide) : Pe K (tOp (rNeP K) ta tb) σ B (!decide (x = y)) :=
  e_op ha hb (rd_val (.bl (!decide (x = y))) (fun _ => at_bl.mpr rfl) fun B H v w e h1 h2 Q q => ⟨_, _, dp_mono e _ _ h1, dp_mono e _ _ h2, Datum.plain x, Datum.plain y, Nat.le_trans (Datum.depth_le x) hz, by rw [Datum.eqv]; exact q⟩)
theorem e_inL {x : α} {ys : List α} (ha : Pe K ta σ B x) (hb : Pe K tb σ B ys) (neg : Bool) (hz : Datum.depth α ≤ 64 := by decide) : Pe K (tOp (rInU K neg) ta tb) σ B (ngb neg (decide (x ∈ ys))) :=
  e_op ha hb (rd_val (.bl _) (fun _ => at_bl.mpr rfl) fun B H v w e h1 h2 Q q => .inl ⟨_, _, dp_mono e _ _ h1, .inl (dp_mono e _ _ h2), PySem.W.plainAll_map ys, Datum.plain x, Nat.le_trans (Datum.depth_le x) hz, by rw [PySem.W.any_datum]; exact q⟩)
theorem e_inT {x : α} {ys : List α} (ha : Pe K ta σ B x) (hb : Pe K tb σ B (Tup.mk ys)) (neg : Bool) (hz : Datum.depth α ≤ 64 := by decide) : Pe K (tOp (rInU K neg) ta tb) σ B (ngb neg (decide (x ∈ ys))) :=
  e_op ha hb (rd_val (.bl _) (fun _ => at_bl.mpr rfl) fun B H v w e h1 h2 Q q => .inl ⟨_, _, dp_mono e _ _ h1, .inr (dp_mono e _ _ h2), PySem.W.plainAll_map ys, Datum.plain x, Nat.le_trans (Datum.depth_le x) hz, by rw [PySem.W.any_datum]; exact q⟩)
theorem e_lt {α : Type} [DecidableEq α] [DatumOrd α] {x y : α} (ha : Pe K ta σ B x) (hb : Pe K tb σ B y) (hz : Datum.depth α ≤ 64 := by decide) : Pe K (tOp (rLtU K) ta tb) σ B (DatumOrd.lt x y) :=
  e_op ha hb (rd_val (.bl _) (fun _ => at_bl.mpr rfl) fun B H v w e h1 h2 Q q => ⟨α, inferInstance, inferInstance, x, y, dp_mono e _ _ h1, dp_mono e _ _ h2, hz, q⟩)
theorem e_gt {α : Type} [DecidableEq α] [DatumOrd α] {x y : α} (ha : Pe K ta σ B x) (hb : Pe K tb σ B y) (hz : Datum.depth α ≤ 64 := by decide) : Pe K (tOp (rGtU K) ta tb) σ B (DatumOrd.lt y x) :=
  e_op ha hb (rd_val (.bl _) (fun _ => at_bl.mpr rfl) fun B H v w e h1 h2 Q q => ⟨α, inferInstance, inferInstance, x, y, dp_mono e _ _ h1, dp_mono e _ _ h2, hz, q⟩)
theorem e_le {α : Type} [DecidableEq α] [DatumOrd α] {x y : α} (ha : Pe K ta σ B x) (hb : Pe K tb σ B y) (hz : Datum.depth α ≤ 64 := by decide) : Pe K (tOp (rLeU K) ta tb) σ B (!DatumOrd.lt y x) :=
  e_op ha hb (rd_val (.bl _) (fun _ => at_bl.mpr rfl) fun B H v w e h1 h2 Q q => ⟨α, inferInstance, inferInstance, x, y, dp_mono e _ _ h1, dp_mono e _ _ h2, hz, q⟩)
theorem e_ge {α : Type} [DecidableEq α] [DatumOrd α] {x y : α} (ha : Pe K ta σ B x) (hb : Pe K tb σ B y) (hz : Datum.depth α ≤ 64 := by decide) : Pe K (tOp (rGeU K) ta tb) σ B (!DatumOrd.lt x y) :=
  e_op ha hb (rd_val (.bl _) (fun _ => at_bl.mpr rfl) fun B H v w e h1 h2 Q q => ⟨α, inferInstance, inferInstance, x, y, dp_mono e _ _ h1, dp_mono e _ _ h2, hz, q⟩)
/-! numbers -/
theorem e_addI {i j : Int} (ha : Pe K ta σ B i) (hb : Pe K tb σ B j) : Pe K (tOp (rAddU K) ta tb) σ B (i + j) :=
  e_op ha hb (rd_val (.int (i + j)) (fun _ => at_int.mpr rfl) fun B H v w e h1 h2 Q q => .inl ⟨i, j, at_int.mp h1, at_int.mp h2, q⟩)
theorem e_subI {i j : Int} (ha : Pe K ta σ B i) (hb : Pe K tb σ B j) : Pe K (tOp (rI0 fun i j => .int (i - j)) ta tb) σ B (i - j) :=
  e_op ha hb (rd_val (.int (i - j)) (fun _ => at_int.mpr rfl) fun B H v w e h1 h2 Q q => ⟨i, j, at_int.mp h1, at_int.mp h2, q⟩)
theorem e_mulI {i j : Int} (ha : Pe K ta σ B i) (hb : Pe K tb σ B j) (hc : CMul i j) : Pe K (tOp (rMulU) ta tb) σ B (i * j) :=
  e_op ha hb (rd_val (.int (i * j)) (fun _ => at_int.mpr rfl) fun B H v w e h1 h2 Q q => .inl ⟨i, j, at_int.mp h1, at_int.mp h2, hc, q⟩)
theorem e_modI {i j : Int} (ha : Pe K ta σ B i) (hb : Pe K tb σ B j) (hc : 0 < j) : Pe K (tOp (rI (fun _ j => 0 < j) fun i j => .int (i % j)) ta tb) σ B (i % j) :=
  e_op ha hb (rd_val (.int (i % j)) (fun _ => at_int.mpr rfl) fun B H v w e h1 h2 Q q => ⟨i, j, at_int.mp h1, at_int.mp h2, hc, q⟩)
theorem e_divI {i j : Int} (ha : Pe K ta σ B i) (hb : Pe K tb σ B j) (hc : CDiv i j) : Pe K (tOp (rI CDiv fun i j => .int (i / j)) ta tb) σ B (i / j) :=
  e_op ha hb (rd_val (.int (i / j)) (fun _ => at_int.mpr rfl) fun B H v w e h1 h2 Q q => ⟨i, j, at_int.mp h1, at_int.mp h2, hc, q⟩)
theorem e_powI {i j : Int} (ha : Pe K ta σ B i) (hb : Pe K tb σ B j) (hc : CPow i j) : Pe K (tOp (rI CPow fun i j => .int (i ^ j.toNat)) ta tb) σ B (i ^ j.toNat) :=
  e_op ha hb (rd_val (.int (i ^ j.toNat)) (fun _ => at_int.mpr rfl) fun B H v w e h1 h2 Q q => ⟨i, j, at_int.mp h1, at_int.mp h2, hc, q⟩)
theorem e_negI {i : Int} (ha : Pe K ta σ B i) : Pe K (tUn (rU fun i => .int (-i)) ta) σ B (-i) :=
  e_un ha fun B H v e h Q q => ⟨i, at_int.mp h, q _ B H (Up.refl e) (at_int.mpr rfl)⟩
/-! lists and tuples made -/
theorem e_addL {xs ys : List α} (ha : Pe K ta σ B xs) (hb : Pe K tb σ B ys) (hz : xs.length + ys.length ≤ 1000000) : Pe K (tOp (rAddU K) ta tb) σ B (xs ++ ys) :=
  e_op ha hb fun B H v w e h1 h2 Q q => by
    obtain ⟨a, vs, rfl, hs, hx⟩ := at_list.mp h1
    obtain ⟨b, ws, rfl, hs2, hy⟩ := at_list.mp h2
    refine .inr (.inr (.inl ⟨a, b, vs, ws, rfl, rfl, Evl.ex_l e hs, Evl.ex_l e hs2, ?_, fun p hp => ?_⟩))
    · rw [hx.length, hy.length]
      exact Nat.le_trans hz (by rw [sizeLine_eq]; decide)
    · have u := Up.new (o := .lst (vs ++ ws)) e hp
      exact q _ _ _ u (at_list.mpr ⟨p, _, rfl, Evl.sq_of upd_same, (hx.append hy).mono u.bb⟩)
theorem e_addS {x y : Str} (ha : Pe K ta σ B x) (hb : Pe K tb σ B y) (hz : x.length + y.length ≤ 1000000) : Pe K (tOp (rAddU K) ta tb) σ B (x ++ y) :=
  e_op ha hb (rd_val (.str (x ++ y)) (fun _ => at_str.mpr rfl) fun B H v w e h1 h2 Q q => .inr (.inl ⟨x, y, at_str.mp h1, at_str.mp h2, Nat.le_trans hz (by rw [sizeLine_eq]; decide), q⟩))
theorem e_lst0 : Pe K (tLst tNil) σ B ([] : List α) := fun H e Q q => ⟨Nat.zero_le _, fun p hp => q _ _ _ (Up.new e hp) (at_list.mpr ⟨p, [], rfl, Evl.sq_of upd_same, .nil⟩)⟩
theorem e_lst1 {x : α} (h : Pe K te σ B x) : Pe K (tLst (tCons te tNil)) σ B [x] := fun H e Q q => h H e _ fun v B1 H1 u hv =>
  ⟨by show 1 ≤ sizeLine; rw [sizeLine_eq]; decide, fun p hp => q _ _ _ (u.then hp) (at_list.mpr ⟨p, [v], rfl, Evl.sq_of upd_same, .cons (Rep.mono (Up.new (o := .lst [v]) u.bh hp).bb hv) .nil⟩)⟩
theorem e_lst2 {x y : α} (h : Pe K ta σ B x) (h2 : Pe K tb σ B y) : Pe K (tLst (tCons ta (tCons tb tNil))) σ B [x, y] := fun H e Q q => h.both h2 e fun v w B1 H1 u hv hw =>
  ⟨by show 2 ≤ sizeLine; rw [sizeLine_eq]; decide, fun p hp => q _ _ _ (u.then hp) (at_list.mpr ⟨p, [v, w], rfl, Evl.sq_of upd_same, .cons (Rep.mono (Up.new (o := .lst [v, w]) u.bh hp).bb hv) (.cons (Rep.mono (Up.new (o := .lst [v, w]) u.bh hp).bb hw) .nil)⟩)⟩
theorem e_tup0 : Pe K (tTup tNil) σ B (Tup.mk ([] : List α)) := fun H e Q q => ⟨Nat.zero_le _, fun p hp => q _ _ _ (Up.new e hp) (at_tup.mpr ⟨p, [], rfl, upd_same, .nil⟩)⟩
theorem e_tup1 {x : α} (h : Pe K te σ B x) : Pe K (tTup (tCons te tNil)) σ B (Tup.mk [x]) := fun H e Q q => h H e _ fun v B1 H1 u hv =>
  ⟨by show 1 ≤ sizeLine; rw [sizeLine_eq]; decide, fun p hp => q _ _ _ (u.then hp) (at_tup.mpr ⟨p, [v], rfl, upd_same, .cons (Rep.mono (Up.new (o := .tup [v]) u.bh hp).bb hv) .nil⟩)⟩
theorem e_pair {x : α} {y : β} (h : Pe K ta σ B x) (h2 : Pe K tb σ B y) : Pe K (tTup (tCons ta (tCons tb tNil))) σ B (x, y) := fun H e Q q => h.both h2 e fun v w B1 H1 u hv hw =>
  ⟨by show 2 ≤ sizeLine; rw [sizeLine_eq]; decide, fun p hp => q _ _ _ (u.then hp) (at_pair.mpr ⟨p, v, w, rfl, upd_same, Rep.mono (Up.new (o := .tup [v, w]) u.bh hp).bb hv, Rep.mono (Up.new (o := .tup [v, w]) u.bh hp).bb hw⟩)⟩
/-! calls of built-ins -/
theorem e_lenL {xs : List α} (h : Pe K te σ B xs) : Pe K (tCB (rLenU K) (tCons te tNil)) σ B (xs.length : Int) := fun H e Q q => h H e _ fun v B1 H1 u hv => by
  obtain ⟨a, vs, rfl, hs, hx⟩ := at_list.mp hv
  exact .inl ⟨.ref a, xs.length, rfl, .inl ⟨vs, Evl.ex_l u.bh hs, hx.length.symm⟩, q _ B1 H1 u (at_int.mpr rfl)⟩
theorem e_lenT {t : Tup α} (h : Pe K te σ B t) : Pe K (tCB (rLenU K) (tCons te tNil)) σ B (t.items.length : Int) := fun H e Q q => h H e _ fun v B1 H1 u hv => by
  obtain ⟨a, vs, rfl, hs, hx⟩ := at_tup.mp hv
  exact .inl ⟨.ref a, t.items.length, rfl, .inr ⟨vs, ex_tx u.bh hs, hx.length.symm⟩, q _ B1 H1 u (at_int.mpr rfl)⟩
theorem e_all {bs : List Bool} (h : Pe K te σ B bs) : Pe K (tCB (rAll K) (tCons te tNil)) σ B (bs.all id) := fun H e Q q => h H e _ fun v B1 H1 u hv => by
  obtain ⟨a, vs, rfl, hs, hx⟩ := at_list.mp hv
  rw [atAll_bls hx] at hs
  exact ⟨a, bs, rfl, Evl.ex_l u.bh hs, q _ B1 H1 u (at_bl.mpr rfl)⟩
theorem e_any {bs : List Bool} (h : Pe K te σ B bs) : Pe K (tCB (rAny K) (tCons te tNil)) σ B (bs.any id) := fun H e Q q => h H e _ fun v B1 H1 u hv => by
  obtain ⟨a, vs, rfl, hs, hx⟩ := at_list.mp hv
  rw [atAll_bls hx] at hs
  exact ⟨a, bs, rfl, Evl.ex_l u.bh hs, q _ B1 H1 u (at_bl.mpr rfl)⟩
theorem e_sortL {α : Type} [DecidableEq α] [DatumOrd α] {xs : List α} (h : Pe K te σ B xs) (hk : PySem.W.Sortable (xs.map Datum.toD)) (hz : Datum.depth α ≤ 64 := by decide) : Pe K (tCB (rSortD K) (tCons te tNil)) σ B (sortD xs) := fun H e Q q => h H e _ fun v B1 H1 u hv => by
  obtain ⟨a, vs, rfl, hs, hx⟩ := at_list.mp hv
  refine ⟨α, inferInstance, inferInstance, a, vs, xs, B1, rfl, .inl (Evl.ex_l u.bh hs), u.bh, hx, .inl hk, hz, fun ys p hy hp => ?_⟩
  have u2 := Up.new (o := .lst ys) u.bh hp
  exact q _ _ _ (u.trans u2) (at_list.mpr ⟨p, ys, rfl, Evl.sq_of upd_same, hy.mono u2.bb⟩)
theorem e_sortT {α : Type} [DecidableEq α] [DatumOrd α] {xs : List α} (h : Pe K te σ B (Tup.mk xs)) (hk : PySem.W.Sortable (xs.map Datum.toD)) (hz : Datum.depth α ≤ 64 := by decide) : Pe K (tCB (rSortD K) (tCons te tNil)) σ B (sortD xs) := fun H e Q q => h H e _ fun v B1 H1 u hv => by
  obtain ⟨a, vs, rfl, hs, hx⟩ := at_tup.mp hv
  refine ⟨α, inferInstance, inferInstance, a, vs, xs, B1, rfl, .inr (ex_tx u.bh hs), u.bh, hx, .inl hk, hz, fun ys p hy hp => ?_⟩
  have u2 := Up.new (o := .lst ys) u.bh hp
  exact q _ _ _ (u.trans u2) (at_list.mpr ⟨p, ys, rfl, Evl.sq_of upd_same, hy.mono u2.bb⟩)
end

/-! ### statements -/
section
variable {K : PySem.W.Frag} {σ : L2.St} {B B' H : Hp} {te ta tb tl : TE} {tt : TT} {D : Ends} {tu tw tz : TS} {g : TG}
variable {α β γ : Type} [Rep α] [Rep β] [Rep γ]
theorem p_set {i : Nat} {x : α} (h : Pe K te σ B x) (e : Ex B H) (k : ∀ v B1 H1, Up B H B1 H1 → Rep.at_ K B1 v x → D.nx (σ.set i (some v)) H1) : tAsg te (gName i) D σ H := h H e _ fun v B1 H1 u hv => k v B1 H1 u hv
theorem q_set {i : Nat} {x : α} (h : Pe K te σ B x) (e : Ex B H) (k : ∀ v B1 H1, Up B H B1 H1 → Rep.at_ K B1 v x → tz D (σ.set i (some v)) H1) : tSeq (tAsg te (gName i)) tz D σ H := h H e _ fun v B1 H1 u hv => k v B1 H1 u hv
theorem p_ret {x : α} (h : Pe K te σ B x) (e : Ex B H) (k : ∀ v B1 H1, Up B H B1 H1 → Rep.at_ K B1 v x → D.rt v H1) : tRet te D σ H := h H e _ fun v B1 H1 u hv => k v B1 H1 u hv
theorem q_drop {x : α} (h : Pe K te σ B x) (e : Ex B H) (k : ∀ B1 H1, Up B H B1 H1 → tz D σ H1) : tSeq (tDrop te) tz D σ H := h H e _ fun v B1 H1 u hv => k B1 H1 u
theorem p_if {b : Bool} (h : Pt tt σ B b) (e : Ex B H) (h1 : b = true → ∀ B1 H1, Up B H B1 H1 → tu D σ H1) (h2 : b = false → ∀ B1 H1, Up B H B1 H1 → tw D σ H1) : tIfS tt tu tw D σ H := h H e _ fun B1 H1 u => by
  cases b with
  | true => exact h1 rfl B1 H1 u
  | false => exact h2 rfl B1 H1 u
theorem q_if {b : Bool} (h : Pt tt σ B b) (e : Ex B H) (h1 : b = true → ∀ B1 H1, Up B H B1 H1 → tu { D with nx := tz D } σ H1) (h2 : b = false → ∀ B1 H1, Up B H B1 H1 → tw { D with nx := tz D } σ H1) : tSeq (tIfS tt tu tw) tz D σ H := p_if (D := { D with nx := tz D }) h e h1 h2
/-- behind a turn -/
def LoopN (B1 : Hp) (P : L2.St → Hp → Hp → Prop) : L2.St → Hp → Prop := fun σ3 H3 => ∃ B3, Ex B1 B3 ∧ Ex B3 H3 ∧ P σ3 B3 H3
/-- a for over data: Pv: what is done, the slots, what is frozen, the heap -/
theorem p_for {wi : TI} {xs : List α} (h : ItD K wi σ B xs) (e : Ex B H)
    (k : ∀ B1 H1, Up B H B1 H1 → ∃ Pv : List α → L2.St → Hp → Hp → Prop, Pv [] σ B1 H1 ∧
      (∀ done x rest v σ' B' Hx B2 H', xs = done ++ x :: rest → Ex B1 B' → Ex B' Hx → Pv done σ' B' Hx → Up B' Hx B2 H' → Rep.at_ K B2 v x →
        g v σ' H' fun σ2 H2 => tu { D with nx := LoopN B1 (Pv (done ++ [x])), ct := LoopN B1 (Pv (done ++ [x])), bk := D.nx } σ2 H2) ∧
      ∀ σ' B' H', Ex B1 B' → Ex B' H' → Pv xs σ' B' H' → D.nx σ' H') : tFor wi g tu D σ H :=
  h H e _ fun J B1 H1 G Y up W hG hY => by
    obtain ⟨Pv, h0, hs, hd⟩ := k B1 H1 up
    refine for_it W (fun i => LoopN B1 (Pv (xs.take i))) ⟨B1, Ex.refl _, up.bh, h0⟩ (fun i σ' H' _ p => ?_) (fun i x σ' Hx H' hi p hy => ?_) (fun σ' H' p => ?_)
    · obtain ⟨B', b1, b2, _⟩ := p
      exact hG H' (b1.trans b2)
    · obtain ⟨B', b1, b2, hp⟩ := p
      obtain ⟨d, hd', hB⟩ := hY i x Hx H' hi (b1.trans b2) hy
      obtain ⟨B2, u2, hx⟩ := hB B' b1 b2
      have hlt := (List.getElem?_eq_some_iff.mp hd').1
      have exs : xs = xs.take i ++ d :: xs.drop (i + 1) := by
        have e1 : xs.drop i = d :: xs.drop (i + 1) := by
          rw [List.drop_eq_getElem_cons hlt]
          congr 1
          exact (List.getElem?_eq_some_iff.mp hd').2
        rw [← e1, List.take_append_drop]
      have z := hs (xs.take i) d (xs.drop (i + 1)) x σ' B' Hx B2 H' exs b1 b2 hp u2 hx
      have et : xs.take i ++ [d] = xs.take (i + 1) := by
        rw [List.take_add_one, hd']
        rfl
      rw [et] at z
      exact z
    · obtain ⟨B', b1, b2, hp⟩ := p
      rw [List.take_length] at hp
      exact hd σ' B' H' b1 b2 hp
theorem q_for {wi : TI} {xs : List α} (h : ItD K wi σ B xs) (e : Ex B H)
    (k : ∀ B1 H1, Up B H B1 H1 → ∃ Pv : List α → L2.St → Hp → Hp → Prop, Pv [] σ B1 H1 ∧
      (∀ done x rest v σ' B' Hx B2 H', xs = done ++ x :: rest → Ex B1 B' → Ex B' Hx → Pv done σ' B' Hx → Up B' Hx B2 H' → Rep.at_ K B2 v x →
        g v σ' H' fun σ2 H2 => tu { D with nx := LoopN B1 (Pv (done ++ [x])), ct := LoopN B1 (Pv (done ++ [x])), bk := tz D } σ2 H2) ∧
      ∀ σ' B' H', Ex B1 B' → Ex B' H' → Pv xs σ' B' H' → tz D σ' H') : tSeq (tFor wi g tu) tz D σ H := p_for (D := { D with nx := tz D }) h e k
end
end Ob

set_option Elab.async false
set_option linter.all false
set_option maxRecDepth 100000
set_option maxHeartbeats 4000000
/-! Ob5: subscripts, slices, conversions, min and max, dicts, what the readings of the generator name. -/
namespace Ob
open PySem L2
open Evl (Ex)
open PySem.W (Datum Tup DatumOrd)

section
variable {X : Cx}
/-! subscripts -/
def rIxD : R2 := fun x y H Q => ∃ a v, x = .ref a ∧ DGet H a y (some v) ∧ Q v H
def rIxU (K : PySem.W.Frag) : R2 := fun x y H Q => rIxL K x y H Q ∨ (rIxT K x y H Q ∨ (rIxS x y H Q ∨ rIxD x y H Q))
theorem ix_dict (hu : X.A.units + 150 < cLine) : IxR X rIxD := by
  intro value slice pins s σ H x y v u Q I rx ry h hs
  obtain ⟨a, z, rfl, g, q⟩ := h
  cases rx
  exact PyProof.Rows.tail_any (dict_typeIs I g) PySem.F.slot_dict_getitem.lookup (d_getItem (by omega) I g ry fun w' s3 I3 rw' => ⟨z, H, I3, rw', q⟩) hs
theorem ix_U (hu : X.A.units + 150 < cLine) : IxR X (rIxU X.K) := ix_list.or (ix_tup.or (ix_str.or (ix_dict hu)))
/-! slices -/
def rSlU (K : PySem.W.Frag) : V → Option Int → Option Int → Hp → VK → Prop := fun x lo hi H Q => rSlL K x lo hi H Q ∨ (rSlA K x lo hi H Q ∨ rSlS x lo hi H Q)
theorem sl_U : SlR X (rSlU X.K) := sl_list.or (sl_tupA.or sl_str)
/-! tuple(x), list(x) -/
def rTupleU (K : PySem.W.Frag) : List V → Hp → VK → Prop := fun xs H Q => ∃ p ys, xs = [.ref p] ∧ ((SqL K H p ys ∧ ∀ l, H l = none → Q (.ref l) (upd H l (.tup ys))) ∨ (SqT K H p ys ∧ Q (.ref p) H))
theorem call_tupleU : CallR X (.type "tuple") (rTupleU X.K) := call_tuple_of
def rListS (K : PySem.W.Frag) : List V → Hp → VK → Prop := fun xs H Q => ∃ p ys, xs = [.ref p] ∧ (SqL K H p ys ∨ SqT K H p ys) ∧ ∀ l, H l = none → Q (.ref l) (upd H l (.lst ys))
def rListD : List V → Hp → VK → Prop := fun xs H Q => ∃ (a : Addr) (kvs : List (Key × V)), xs = [.ref a] ∧ Rd H a (.dK kvs) ∧ ∀ p, H p = none → Q (.ref p) (upd H p (.lst (kvs.map fun kv => kV kv.1)))
def rListU (K : PySem.W.Frag) : List V → Hp → VK → Prop := fun xs H Q => rListS K xs H Q ∨ rListD xs H Q
theorem call_listU (hc : X.calm = true) : CallR X (.type "list") (rListU X.K) := CallR.or (r := rListS X.K) call_list_of (call_listD hc)
/-! sorted: a list or tuple of data; a dict with text keys -/
def rSortDc : List V → Hp → VK → Prop := fun xs H Q => ∃ (a : Addr) (kvs : List (Key × V)) (ks : List Str), xs = [.ref a] ∧ Rd H a (.dK kvs) ∧ kvs.map (·.1) = ks.map Sum.inr ∧ ks.length < 64 ∧
    ∀ ys p, ys.Perm ks → PyProof.Rows.sortedS ys = true → H p = none → Q (.ref p) (upd H p (.lst (ys.map V.str)))
def rSortU (K : PySem.W.Frag) : List V → Hp → VK → Prop := fun xs H Q => rSortD K xs H Q ∨ rSortDc xs H Q
theorem cr_sortU (hc : X.calm = true) (hu : X.A.units + 150 < cLine) : CallR X (.builtin "sorted") (rSortU X.K) := CallR.or (cr_sortD hu) (call_sortedD hc)
/-! abs, int -/
def rAbs : List V → Hp → VK → Prop := fun xs H Q => ∃ i, xs = [.int i] ∧ Q (.int (if i < 0 then -i else i)) H
theorem call_absr : CallR X (.builtin "abs") rAbs := call_abs
def rInt1 : List V → Hp → VK → Prop := fun xs H Q => (∃ i, xs = [.int i] ∧ Q (.int i) H) ∨ ∃ k, xs = [.bl k] ∧ Q (.int (if k then 1 else 0)) H
theorem call_int1r : CallR X (.type "int") rInt1 := call_int1
/-! min, max of two ints, of two texts -/
def ltS (x y : Str) : Bool := decide (x.cps.toList < y.cps.toList)
theorem cmpS_lt {prog : Program} {w : World} {A : Around} {P : Nat → Value → Prop} (val : Nat → Str) (hval : ∀ i v, P i v → ∃ t, v = .str (val i) t) : CmpOf prog w A .Lt P (fun i j => ltS (val i) (val j)) := by
  intro i j vi vj s Q E hi hj h
  obtain ⟨t, rfl⟩ := hval i vi hi
  obtain ⟨u, rfl⟩ := hval j vj hj
  have h2 : Q (.bool (decide ((val i).cps.toList < (val j).cps.toList))) s := h
  exact PyProof.Rows.lt_str h2
theorem cmpS_gt {prog : Program} {w : World} {A : Around} {P : Nat → Value → Prop} (val : Nat → Str) (hval : ∀ i v, P i v → ∃ t, v = .str (val i) t) : CmpOf prog w A .Gt P (fun i j => ltS (val j) (val i)) := by
  intro i j vi vj s Q E hi hj h
  obtain ⟨t, rfl⟩ := hval i vi hi
  obtain ⟨u, rfl⟩ := hval j vj hj
  have h2 : Q (.bool (decide ((val j).cps.toList < (val i).cps.toList))) s := h
  exact PySem.P.gt_str h2
def s2 (x y : Str) : Nat → Str := fun i => if i = 0 then x else y
theorem s2_at {x y : Str} {t u : Tok} (i : Nat) (v : Value) (h : (#[Value.str x t, Value.str y u] : Array Value)[i]? = some v) : ∃ t, v = .str (s2 x y i) t := by
  match i, h with
  | 0, h => simp at h; exact ⟨t, by rw [← h]; rfl⟩
  | 1, h => simp at h; exact ⟨u, by rw [← h]; rfl⟩
  | i + 2, h => simp at h
theorem min_two_strs {prog : Program} {w : World} {A : Around} {E : Value → Shared → Prop} {s : Shared} {a b : Str} {t u : Tok} {Q : Value → Shared → Prop} (hh : A.handled = none)
    (h : ∀ h' tk, (∀ c o, s.heap.get? c = some o → h'.get? c = some o) → Q (if ltS b a then .str b u else .str a t) { s with heap := h', toks := tk }) :
    wpAny (model prog w) A (call (.builtin "min") [.str a t, .str b u]) Q E s := by
  have hT : (s.heap.push { cls := .type "tuple", data := .seq #[.str a t, .str b u] }).IsTuple s.heap.objs.size #[.str a t, .str b u] := ⟨_, Heap.get?_push_size _ rfl, rfl, 0, rfl⟩
  refine call_min_two (wpAny_pyIter_tuple hT ?_)
  have hsz : (s.heap.push { cls := .type "tuple", data := .seq #[.str a t, .str b u] }).objs.size = s.heap.objs.size + 1 := Heap.size_push ..
  refine ⟨_, [_, s.heap.objs.size], [_], _, _, _, _, rfl, Walks.tuple (A := A.in1) hh _ s.heap.objs.size (by rw [hsz]; exact Nat.ne_of_lt (Nat.lt_succ_self _)) #[.str a t, .str b u],
    ⟨⟨_, Heap.get?_push_size _ rfl, rfl, rfl⟩, hT.push _⟩, fun c hc => ?_, by simp, cmpS_lt (s2 a b) s2_at, fun v h' tk hP hk => ?_⟩
  · show c < ((s.heap.push _).push _).objs.size
    rw [Heap.size_push, hsz]
    rcases List.mem_cons.mp hc with rfl | hc
    · rw [hsz]; exact Nat.lt_succ_self _
    · rcases List.mem_cons.mp hc with rfl | hc
      · exact Nat.lt_succ_of_lt (Nat.lt_succ_self _)
      · cases hc
  · have hold : ∀ c o, s.heap.get? c = some o → h'.get? c = some o := fun c o e => by
      refine hk c o (fun hm => ?_) (Heap.get?_push_of_some _ (Heap.get?_push_of_some _ e))
      rcases List.mem_cons.mp hm with e1 | hm
      · have := Heap.lt_size e; rw [e1, hsz] at this; exact Nat.lt_irrefl _ (Nat.lt_of_succ_lt this)
      · cases hm
    have := h h' tk hold
    have hv : v = if ltS b a then Value.str b u else Value.str a t := by
      cases hc : ltS b a <;> simp [argBest, s2, hc] at hP <;> simp [hP]
    rw [hv]; exact this
theorem max_two_strs {prog : Program} {w : World} {A : Around} {E : Value → Shared → Prop} {s : Shared} {a b : Str} {t u : Tok} {Q : Value → Shared → Prop} (hh : A.handled = none)
    (h : ∀ h' tk, (∀ c o, s.heap.get? c = some o → h'.get? c = some o) → Q (if ltS a b then .str b u else .str a t) { s with heap := h', toks := tk }) :
    wpAny (model prog w) A (call (.builtin "max") [.str a t, .str b u]) Q E s := by
  have hT : (s.heap.push { cls := .type "tuple", data := .seq #[.str a t, .str b u] }).IsTuple s.heap.objs.size #[.str a t, .str b u] := ⟨_, Heap.get?_push_size _ rfl, rfl, 0, rfl⟩
  refine call_max_two (wpAny_pyIter_tuple hT ?_)
  have hsz : (s.heap.push { cls := .type "tuple", data := .seq #[.str a t, .str b u] }).objs.size = s.heap.objs.size + 1 := Heap.size_push ..
  refine ⟨_, [_, s.heap.objs.size], [_], _, _, _, _, rfl, Walks.tuple (A := A.in1) hh _ s.heap.objs.size (by rw [hsz]; exact Nat.ne_of_lt (Nat.lt_succ_self _)) #[.str a t, .str b u],
    ⟨⟨_, Heap.get?_push_size _ rfl, rfl, rfl⟩, hT.push _⟩, fun c hc => ?_, by simp, cmpS_gt (s2 a b) s2_at, fun v h' tk hP hk => ?_⟩
  · show c < ((s.heap.push _).push _).objs.size
    rw [Heap.size_push, hsz]
    rcases List.mem_cons.mp hc with rfl | hc
    · rw [hsz]; exact Nat.lt_succ_self _
    · rcases List.mem_cons.mp hc with rfl | hc
      · exact Nat.lt_succ_of_lt (Nat.lt_succ_self _)
      · cases hc
  · have hold : ∀ c o, s.heap.get? c = some o → h'.get? c = some o := fun c o e => by
      refine hk c o (fun hm => ?_) (Heap.get?_push_of_some _ (Heap.get?_push_of_some _ e))
      rcases List.mem_cons.mp hm with e1 | hm
      · have := Heap.lt_size e; rw [e1, hsz] at this; exact Nat.lt_irrefl _ (Nat.lt_of_succ_lt this)
      · cases hm
    have := h h' tk hold
    have hv : v = if ltS a b then Value.str b u else Value.str a t := by
      cases hc : ltS a b <;> simp [argBest, s2, hc] at hP <;> simp [hP]
    rw [hv]; exact this
def rMinI : List V → Hp → VK → Prop := fun xs H Q => ∃ i j, xs = [.int i, .int j] ∧ Q (.int (if j < i then j else i)) H
def rMaxI : List V → Hp → VK → Prop := fun xs H Q => ∃ i j, xs = [.int i, .int j] ∧ Q (.int (if j > i then j else i)) H
def rMinS : List V → Hp → VK → Prop := fun xs H Q => ∃ i j, xs = [.str i, .str j] ∧ Q (.str (if ltS j i then j else i)) H
def rMaxS : List V → Hp → VK → Prop := fun xs H Q => ∃ i j, xs = [.str i, .str j] ∧ Q (.str (if ltS i j then j else i)) H
def rMinU : List V → Hp → VK → Prop := fun xs H Q => rMinI xs H Q ∨ rMinS xs H Q
def rMaxU : List V → Hp → VK → Prop := fun xs H Q => rMaxI xs H Q ∨ rMaxS xs H Q
theorem call_min2S (hc : X.calm = true) : CallR X (.builtin "min") rMinS := by
  intro pins s σ H xs us Q I r h
  obtain ⟨i, j, rfl, q⟩ := h
  obtain ⟨u, w', rfl, ⟨t, rfl⟩, ⟨t', rfl⟩⟩ := vals2 r
  refine min_two_strs (I.ok.hd hc) fun h' tk k => ⟨_, H, I.kept k, ?_, q⟩
  cases ltS j i <;> exact ⟨_, rfl⟩
theorem call_max2S (hc : X.calm = true) : CallR X (.builtin "max") rMaxS := by
  intro pins s σ H xs us Q I r h
  obtain ⟨i, j, rfl, q⟩ := h
  obtain ⟨u, w', rfl, ⟨t, rfl⟩, ⟨t', rfl⟩⟩ := vals2 r
  refine max_two_strs (I.ok.hd hc) fun h' tk k => ⟨_, H, I.kept k, ?_, q⟩
  cases ltS i j <;> exact ⟨_, rfl⟩
theorem cr_minU (hc : X.calm = true) : CallR X (.builtin "min") rMinU := CallR.or (call_min2 hc) (call_min2S hc)
theorem cr_maxU (hc : X.calm = true) : CallR X (.builtin "max") rMaxU := CallR.or (call_max2 hc) (call_max2S hc)
/-! dict(pairs), d.update(e), name = {..} -/
def rDictP (K : PySem.W.Frag) : List V → Hp → VK → Prop := fun xs H Q => ∃ (a : Addr) (ps : List Addr) (kvs : List (Key × V)), xs = [.ref a] ∧ SqL K H a (ps.map V.ref) ∧ Paired (fun p kv => SqT K H p [kV kv.1, kv.2]) ps kvs ∧
    ∀ p, H p = none → Q (.ref p) (upd H p (.dK (mergeK [] kvs)))
theorem call_dictPr (hc : X.calm = true) : CallR X (.type "dict") (rDictP X.K) := call_dictP hc
def rUpdU : V → List V → Hp → VK → Prop := fun x vs H Q => ∃ (d o : Addr) (kvs more : List (Key × V)), x = .ref d ∧ vs = [.ref o] ∧ H d = some (.dK kvs) ∧ H o = some (.dK more) ∧ d ≠ o ∧ kvs.length + more.length ≤ sizeLine ∧ Q .non (upd H d (.dK (mergeK kvs more)))
theorem mt_updU : MtR X "dict.update" rUpdU := by
  intro pins s σ H x xs v us Q I rx rxs h
  obtain ⟨d, o, kvs, more, rfl, rfl, hd, ho, hne, hz, q⟩ := h
  cases rx
  obtain ⟨u, rfl, ru⟩ := vals1 rxs
  cases ru
  obtain ⟨z, lo, vs, rel, dd⟩ := dk_of I.hok hd
  obtain ⟨z2, lo2, vs2, rel2, dd2⟩ := dk_of I.hok ho
  refine call_meetsIn PySem.F.slot_dict_update dd.typeIs PySem.F.entry_dict_update (PySem.F.args_dict_update_2 _ _) (meets_dict_update (mixKind X.prog X.w) d o hne lo2) ⟨vs, vs2, dd, dd2, by rw [← rel.length, ← rel2.length]; exact hz, fun h' dd' _ hs => ?_⟩
  have he : ∃ q, h'.get? d = some q := let ⟨q, _, _, hq, _⟩ := dd'; ⟨q, hq⟩
  have hl : (mergeK kvs more).length ≤ sizeLine := Nat.le_trans (length_mergeK more kvs) hz
  exact ⟨.non, _, d_write I (by rw [hd]; exact True.intro) hs he (dk_new hl lo (rel2.merge rel) dd'), rfl, q⟩
theorem ps_setDc {i : Nat} {y : Str} {py : Pos} {kx vx tg iter : Expr} {ifs : List Expr} {scope : Scope} {own : List (Str × Nat)} {pos spos : Pos} {wi : TI} {g : TG} {tt : TT} {tk tv : TE} (hc : X.calm = true) (hN : X.N.Nodup) (hy : X.N[i]? = some y) (hyl : X.env.scope.names.lookup y = some .local)
    (hsw : swapsWith (.DictComp kx vx [⟨tg, iter, ifs, 0⟩] scope pos) (some (.Name y py)) spos.line X.env = pure true) (hi : PI X tg iter wi) (ok : BlkOk X.N X.env.scope scope own)
    (hg : ∀ (s : Shared) (H : Hp) (C : Addr) (cl : List (Str × Addr)) (fp : List Addr), PG (X.blk s H scope (compEnvC scope cl C X.env) fp) tg g) (ht : ∀ (s : Shared) (H : Hp) (C : Addr) (cl : List (Str × Addr)) (fp : List Addr), PTs (X.blk s H scope (compEnvC scope cl C X.env) fp) ifs tt)
    (hk : ∀ (s : Shared) (H : Hp) (C : Addr) (cl : List (Str × Addr)) (fp : List Addr), PE (X.blk s H scope (compEnvC scope cl C X.env) fp) kx tk)
    (he : ∀ (s : Shared) (H : Hp) (C : Addr) (cl : List (Str × Addr)) (fp : List Addr), PE (X.blk s H scope (compEnvC scope cl C X.env) fp) vx tv) (hs : ∀ x, foldedSetIterable iter X.env x = pure x := by intro _; rfl) :
    PS X (.Assign [.Name y py] (.DictComp kx vx [⟨tg, iter, ifs, 0⟩] scope pos) spos) (tAsg (tDc wi g tt tk tv (own.map (·.2))) (gName i)) := by
  refine ⟨fun pins s σ H D I h => ?_⟩
  rw [exec_Assign_Name_used _ _ _ _ hsw]
  refine wpAny_bind (wpAny_standAt (wpAny_bind ?_))
  show wpAny _ X.A (do let _ ← comprehension (.DictComp kx vx [⟨tg, iter, ifs, 0⟩] scope pos) scope X.env (firstIterPos [⟨tg, iter, ifs, 0⟩] pos) newDict false (eval iter X.env) (some (assign (.Name y py) X.env))) _ _ s
  have h : tDc wi g tt tk tv (own.map (·.2)) σ H (fun x H1 => gName i x σ H1 D.nx) := h
  refine wpAny_bind (thn (dc_core (Qf := fun _ s' => SP X pins D .next s') hc hN I hi ok hg ht hk he hs h fun L C s' m H' I' q hn f => ?_) fun _ s' hq => wpAny_pure (wpAny_pure hq))
  show wpAny _ _ (assign (.Name y py) X.env (.ref L)) _ _ _
  refine wpAny_assign_Name (store_ok2 (v := V.ref L) I' hN hy (.inl hyl) rfl (fun s2 I2 ⟨a, sb, ha⟩ => ?_) (.inr hyl))
  obtain ⟨f0, f1, f2, f3, f4, f5⟩ := f
  have haC : C ≠ a := by
    rcases ha with z | z
    · rw [z]; exact f1
    · exact fun e => f4 y a z e.symm
  refine ⟨m, hn.sameBut sb haC, fun h3 sb3 => ?_⟩
  exact ⟨_, H', I2.turned (t' := s2.toks) (fun b o hb e => (sb3.2 b hb).trans e) f0 f1 f3 f4 f5, q⟩
theorem swD_true {kx vx : Expr} {gs : List Comprehension} {scope : Scope} {pos py : Pos} {y : Str} {l : Nat} {env : Env} (hk : env.scope.kind = .function) (hy : env.scope.names.lookup y = some .local) (hl : (py.line == pos.line) = true)
    (ha : (scope.names.any fun (n, k) => n == y && (k == .local || k == .cell)) = false) : swapsWith (.DictComp kx vx gs scope pos) (some (.Name y py)) l env = pure true := by
  have ky : env.kindOf y = some .local := hy
  have hb : env.blockKind = .function := by unfold Env.blockKind; rw [hk]; rfl
  unfold swapsWith
  simp only [hb, ky, ha, Expr.pos, hl]
  rfl
end
end Ob

set_option Elab.async false
set_option linter.all false
set_option maxRecDepth 100000
set_option maxHeartbeats 4000000
/-! Ob6: sequences (lists or tuples), panels; promises of pure defs; more expressions by type. -/
namespace Ob
open PySem L2
open Evl (Ex)
open PySem.W (Datum Tup DatumOrd)

/-! ### unpacking a tuple or a list -/
def gUnp (K : PySem.W.Frag) (n : Nat) (t : TGs) : TG := fun v σ H Q => gTup K n t v σ H Q ∨ gUnl K n t v σ H Q
theorem pg_unp {X : Cx} {pos : Pos} {es : List Expr} {k : Nat} {t : TGs} {n : Nat} (hc : X.calm = true) (h : PGs X es t)
    (hn : (assignEach es X.env).length = n := by rfl) (hst : (assignEach es X.env).findIdx? (·.1) = none := by rfl) : PG X (.Tuple es k pos) (gUnp X.K n t) :=
  ⟨fun pins s σ H v u Q I r hw => hw.elim (fun hw => (pg_tup hc h hn hst).run pins s σ H v u Q I r hw) (fun hw => (pg_unl hc h hn hst).run pins s σ H v u Q I r hw)⟩

/-! ### a list or a tuple of things -/
structure Sq (α : Type) where
  items : List α
instance {α : Type} [Rep α] : Rep (Sq α) := ⟨fun K H v s => ∃ a vs, v = .ref a ∧ (SqL K H a vs ∨ H a = some (.tup vs)) ∧ AtAll K H vs s.items,
  fun e ⟨a, vs, h1, h2, h3⟩ => ⟨a, vs, h1, h2.imp (exr_l e) (e.2 _ _), h3.monoR e⟩⟩
/-- a pair of names, as a tuple or a list -/
structure Pr where
  a : Str
  b : Str
  deriving DecidableEq
instance : Rep Pr := ⟨fun K H v p => ∃ a, v = .ref a ∧ (SqL K H a [.str p.a, .str p.b] ∨ H a = some (.tup [.str p.a, .str p.b])),
  fun e ⟨a, h1, h2⟩ => ⟨a, h1, h2.imp (exr_l e) (e.2 _ _)⟩⟩
/-- a panel, as tuples or lists at any depth -/
structure Pan where
  sw : List Str
  ex : List (Str × Str)
  deriving DecidableEq
def prs (xs : List (Str × Str)) : List Pr := xs.map fun p => ⟨p.1, p.2⟩
instance : Rep Pan := ⟨fun K H v p => ∃ a v1 v2, v = .ref a ∧ (SqL K H a [v1, v2] ∨ H a = some (.tup [v1, v2])) ∧ Rep.at_ K H v1 (Sq.mk p.sw) ∧ Rep.at_ K H v2 (Sq.mk (prs p.ex)),
  fun e ⟨a, v1, v2, h1, h2, h3, h4⟩ => ⟨a, v1, v2, h1, h2.imp (exr_l e) (e.2 _ _), Rep.monoR e h3, Rep.monoR e h4⟩⟩
/-- a panel as tuples -/
abbrev PanT : Type := Tup Str × Tup (Str × Str)
def Pan.t (p : Pan) : PanT := (⟨p.sw⟩, ⟨p.ex⟩)
section
variable {K : PySem.W.Frag} {H B B' : Hp} {v : V} {σ : L2.St} {te ta tb tc : TE} {tt tu : TT}
theorem sq_list {α : Type} [DecidableEq α] [Datum α] {xs : List α} (h : Rep.at_ K H v xs) : Rep.at_ K H v (Sq.mk xs) := by
  obtain ⟨a, vs, h1, h2, h3⟩ := at_list.mp h
  exact ⟨a, vs, h1, .inl h2, h3⟩
theorem sq_tup {α : Type} [DecidableEq α] [Datum α] {xs : Tup α} (h : Rep.at_ K H v xs) : Rep.at_ K H v (Sq.mk xs.items) := by
  obtain ⟨a, vs, h1, h2, h3⟩ := at_tup.mp h
  exact ⟨a, vs, h1, .inr h2, h3⟩
theorem pr_pair {p : Str × Str} (h : Rep.at_ K H v p) : Rep.at_ K H v (Pr.mk p.1 p.2) := by
  obtain ⟨a, v1, v2, h1, h2, h3, h4⟩ := at_pair.mp h
  rw [at_str.mp h3, at_str.mp h4] at h2
  exact ⟨a, h1, .inr h2⟩
theorem prs_all : ∀ {vs : List V} {xs : List (Str × Str)}, AtAll K H vs xs → AtAll K H vs (prs xs)
  | _, _, .nil => .nil
  | _, _, .cons a t => .cons (pr_pair a) (prs_all t)
theorem pan_t {p : Pan} (h : Rep.at_ K H v p.t) : Rep.at_ K H v p := by
  obtain ⟨a, v1, v2, h1, h2, h3, h4⟩ := at_pair.mp h
  refine ⟨a, v1, v2, h1, .inr h2, sq_tup h3, ?_⟩
  obtain ⟨b, vs, h5, h6, h7⟩ := at_tup.mp h4
  exact ⟨b, vs, h5, .inr h6, prs_all h7⟩
theorem Pe.imp {α β : Type} [Rep α] [Rep β] {x : α} {y : β} (h : Pe K te σ B x) (k : ∀ {H v}, Rep.at_ K H v x → Rep.at_ K H v y) : Pe K te σ B y := fun H e Q q => h H e Q fun v B2 H2 u hv => q v B2 H2 u (k hv)
theorem it_sq {α : Type} [Rep α] {xs : List α} (h : Pe K te σ B (Sq.mk xs)) : ItD K (iSeq K te) σ B xs := fun H e R q => h H e _ fun v B1 H1 u hv => by
  obtain ⟨a, vs, rfl, hs, hx⟩ := hv
  rcases hs with hs | hs
  · refine ⟨a, rfl, .inl ⟨⟨vs, Evl.ex_l u.bh hs⟩, ?_⟩⟩
    refine q (Itl K a) B1 H1 (fun H => SqL K H a vs) (YAt vs) u ?_ (fun H' e' => Evl.ex_l e' hs) fun i x Hx H' hi ex y => ?_
    · rw [← AtAll.length hx]
      exact walk_list
    · obtain ⟨y1, y2⟩ := y
      obtain ⟨d, hd, hxd⟩ := AtAll.get' hx y2
      refine ⟨d, hd, fun B' b1 b2 => ⟨B', ?_, Rep.mono b1 hxd⟩⟩
      rw [y1]
      exact Up.refl b2
  · refine ⟨a, rfl, .inr ⟨⟨vs, ex_tx u.bh hs⟩, ?_⟩⟩
    refine q (Itt K a) B1 H1 (fun H => SqT K H a vs) (YAt vs) u ?_ (fun H' e' => ex_tx e' hs) fun i x Hx H' hi ex y => ?_
    · rw [← AtAll.length hx]
      exact walk_tup
    · obtain ⟨y1, y2⟩ := y
      obtain ⟨d, hd, hxd⟩ := AtAll.get' hx y2
      refine ⟨d, hd, fun B' b1 b2 => ⟨B', ?_, Rep.mono b1 hxd⟩⟩
      rw [y1]
      exact Up.refl b2
/-! subscripts -/
theorem atI_of {α : Type} [Rep α] {vs : List V} {xs : List α} (h : AtAll K H vs xs) {i : Int} {x : α} (ha : atI xs i = some x) : ∃ v, atI vs i = some v ∧ Rep.at_ K H v x := by
  unfold atI at ha ⊢
  rw [h.length]
  cases e : ixN xs.length i with
  | none =>
    rw [e] at ha
    cases ha
  | some j =>
    rw [e] at ha
    exact h.get (i := j) ha
theorem e_ixSq {α : Type} [Rep α] {xs : List α} {i : Int} {x : α} (ha : Pe K ta σ B (Sq.mk xs)) (hb : Pe K tb σ B i) (hi : atI xs i = some x) : Pe K (tOp (rIxU K) ta tb) σ B x :=
  e_op ha hb fun B H v w e h1 h2 Q q => by
    obtain ⟨a, vs, rfl, hs, hx⟩ := h1
    obtain ⟨z, hz, hzx⟩ := atI_of hx hi
    cases at_int.mp h2
    rcases hs with hs | hs
    · exact .inl ⟨a, vs, i, z, rfl, rfl, Evl.ex_l e hs, hz, q z B H (Up.refl e) hzx⟩
    · exact .inr (.inl ⟨a, vs, i, z, rfl, rfl, ex_tx e hs, hz, q z B H (Up.refl e) hzx⟩)
theorem e_ixL {α : Type} [DecidableEq α] [Datum α] {xs : List α} {i : Int} {x : α} (ha : Pe K ta σ B xs) (hb : Pe K tb σ B i) (hi : atI xs i = some x) : Pe K (tOp (rIxU K) ta tb) σ B x := e_ixSq (ha.imp sq_list) hb hi
theorem e_ixT {α : Type} [DecidableEq α] [Datum α] {xs : List α} {i : Int} {x : α} (ha : Pe K ta σ B (Tup.mk xs)) (hb : Pe K tb σ B i) (hi : atI xs i = some x) : Pe K (tOp (rIxU K) ta tb) σ B x := e_ixSq (ha.imp sq_tup) hb hi
theorem e_sw {p : Pan} (ha : Pe K ta σ B p) : Pe K (tOp (rIxU K) ta (tC (.int 0))) σ B (Sq.mk p.sw) :=
  e_op ha e_int fun B H v w e h1 h2 Q q => by
    obtain ⟨a, v1, v2, rfl, hs, h3, h4⟩ := h1
    cases at_int.mp h2
    rcases hs with hs | hs
    · exact .inl ⟨a, _, 0, v1, rfl, rfl, Evl.ex_l e hs, rfl, q v1 B H (Up.refl e) h3⟩
    · exact .inr (.inl ⟨a, _, 0, v1, rfl, rfl, ex_tx e hs, rfl, q v1 B H (Up.refl e) h3⟩)
theorem e_ex {p : Pan} (ha : Pe K ta σ B p) : Pe K (tOp (rIxU K) ta (tC (.int 1))) σ B (Sq.mk (prs p.ex)) :=
  e_op ha e_int fun B H v w e h1 h2 Q q => by
    obtain ⟨a, v1, v2, rfl, hs, h3, h4⟩ := h1
    cases at_int.mp h2
    rcases hs with hs | hs
    · exact .inl ⟨a, _, 1, v2, rfl, rfl, Evl.ex_l e hs, rfl, q v2 B H (Up.refl e) h4⟩
    · exact .inr (.inl ⟨a, _, 1, v2, rfl, rfl, ex_tx e hs, rfl, q v2 B H (Up.refl e) h4⟩)
/-- the first and the second of a pair -/
theorem e_fst {α β : Type} [DecidableEq α] [Datum α] [DecidableEq β] [Datum β] {p : α × β} (ha : Pe K ta σ B p) : Pe K (tOp (rIxU K) ta (tC (.int 0))) σ B p.1 :=
  e_op ha e_int fun B H v w e h1 h2 Q q => by
    obtain ⟨a, v1, v2, rfl, hs, h3, h4⟩ := at_pair.mp h1
    cases at_int.mp h2
    exact .inr (.inl ⟨a, _, 0, v1, rfl, rfl, ex_tx e hs, rfl, q v1 B H (Up.refl e) h3⟩)
theorem e_snd {α β : Type} [DecidableEq α] [Datum α] [DecidableEq β] [Datum β] {p : α × β} (ha : Pe K ta σ B p) : Pe K (tOp (rIxU K) ta (tC (.int 1))) σ B p.2 :=
  e_op ha e_int fun B H v w e h1 h2 Q q => by
    obtain ⟨a, v1, v2, rfl, hs, h3, h4⟩ := at_pair.mp h1
    cases at_int.mp h2
    exact .inr (.inl ⟨a, _, 1, v2, rfl, rfl, ex_tx e hs, rfl, q v2 B H (Up.refl e) h4⟩)
/-! a dict with text keys -/
theorem DicAt.find {α : Type} [Rep α] : ∀ {ks : List (Key × V)} {d : List (Str × α)}, DicAt K H ks d → ∀ {k : Str} {x : α}, d.lookup k = some x → ∃ v, valV ks (.inr k) = some v ∧ Rep.at_ K H v x
  | _, _, .nil, k, x, h => by cases h
  | _, _, .cons (a := p) (b := q) ⟨h1, h2⟩ t, k, x, h => by
    obtain ⟨pk, pv⟩ := p
    obtain ⟨qk, qv⟩ := q
    simp only at h1 h2
    subst h1
    by_cases e : k = qk
    · subst e
      rw [List.lookup_cons_self] at h
      cases h
      exact ⟨pv, valV_pos rfl, h2⟩
    · have h' : List.lookup k ((qk, qv) :: _) = _ := h
      rw [List.lookup_cons, beq_eq_false_iff_ne.mpr e] at h'
      obtain ⟨v, e1, e2⟩ := DicAt.find t (show List.lookup k _ = some x from h')
      exact ⟨v, by rw [valV_neg (fun z => e (Sum.inr.inj z).symm)]; exact e1, e2⟩
theorem e_ixD {α : Type} [Rep α] {d : Dic α} {k : Str} {x : α} (ha : Pe K ta σ B d) (hb : Pe K tb σ B k) (hi : d.kvs.lookup k = some x) : Pe K (tOp (rIxU K) ta tb) σ B x :=
  e_op ha hb fun B H v w e h1 h2 Q q => by
    obtain ⟨a, ks, rfl, hr, hz, hd⟩ := h1
    obtain ⟨z, hz, hzx⟩ := hd.find hi
    cases at_str.mp h2
    exact .inr (.inr (.inr ⟨a, z, rfl, .inl ⟨ks, .inr k, Evl.ex_rd e hr, rfl, hz.symm⟩, q z B H (Up.refl e) hzx⟩))
/-! in, for sequences of either kind -/
theorem e_inSq {α : Type} [DecidableEq α] [Datum α] {x : α} {ys : List α} (ha : Pe K ta σ B x) (hb : Pe K tb σ B (Sq.mk ys)) (neg : Bool) (hz : Datum.depth α ≤ 64 := by decide) : Pe K (tOp (rInU K neg) ta tb) σ B (ngb neg (decide (x ∈ ys))) :=
  e_op ha hb (rd_val (.bl _) (fun _ => at_bl.mpr rfl) fun B H v w e h1 h2 Q q => by
    obtain ⟨a, vs, rfl, hs, hx⟩ := h2
    refine .inl ⟨_, _, dp_mono e _ _ h1, ?_, PySem.W.plainAll_map ys, Datum.plain x, Nat.le_trans (Datum.depth_le x) hz, by rw [PySem.W.any_datum]; exact q⟩
    exact hs.imp (fun hs => Dp.lst (Evl.ex_l e hs) (at_dpAll (hx.mono e))) (fun hs => Dp.tup (ex_tx e hs) (at_dpAll (hx.mono e))))
/-! conversions -/
theorem e_tupSq {α : Type} [DecidableEq α] [Datum α] {xs : List α} (h : Pe K te σ B (Sq.mk xs)) : Pe K (tCB (rTupleU K) (tCons te tNil)) σ B (Tup.mk xs) := fun H e Q q => h H e _ fun v B1 H1 u hv => by
  obtain ⟨a, vs, rfl, hs, hx⟩ := hv
  rcases hs with hs | hs
  · exact ⟨a, vs, rfl, .inl ⟨Evl.ex_l u.bh hs, fun l hl => q _ _ _ (u.then hl) (at_tup.mpr ⟨l, vs, rfl, upd_same, hx.mono (Up.new (o := .tup vs) u.bh hl).bb⟩)⟩⟩
  · exact ⟨a, vs, rfl, .inr ⟨ex_tx u.bh hs, q _ _ _ u (at_tup.mpr ⟨a, vs, rfl, hs, hx⟩)⟩⟩
theorem e_tupL {α : Type} [DecidableEq α] [Datum α] {xs : List α} (h : Pe K te σ B xs) : Pe K (tCB (rTupleU K) (tCons te tNil)) σ B (Tup.mk xs) := e_tupSq (h.imp sq_list)
theorem e_lstSq {α : Type} [DecidableEq α] [Datum α] {xs : List α} (h : Pe K te σ B (Sq.mk xs)) : Pe K (tCB (rListU K) (tCons te tNil)) σ B xs := fun H e Q q => h H e _ fun v B1 H1 u hv => by
  obtain ⟨a, vs, rfl, hs, hx⟩ := hv
  exact .inl ⟨a, vs, rfl, hs.imp (Evl.ex_l u.bh) (ex_tx u.bh), fun l hl => q _ _ _ (u.then hl) (at_list.mpr ⟨l, vs, rfl, Evl.sq_of upd_same, hx.mono (Up.new (o := .lst vs) u.bh hl).bb⟩)⟩
theorem e_lenSq {α : Type} [Rep α] {xs : List α} (h : Pe K te σ B (Sq.mk xs)) : Pe K (tCB (rLenU K) (tCons te tNil)) σ B (xs.length : Int) := fun H e Q q => h H e _ fun v B1 H1 u hv => by
  obtain ⟨a, vs, rfl, hs, hx⟩ := hv
  exact .inl ⟨.ref a, xs.length, rfl, hs.imp (fun hs => ⟨vs, Evl.ex_l u.bh hs, hx.length.symm⟩) (fun hs => ⟨vs, ex_tx u.bh hs, hx.length.symm⟩), q _ B1 H1 u (at_int.mpr rfl)⟩
theorem e_sortSq {α : Type} [DecidableEq α] [DatumOrd α] {xs : List α} (h : Pe K te σ B (Sq.mk xs)) (hk : PySem.W.Sortable (xs.map Datum.toD)) (hz : Datum.depth α ≤ 64 := by decide) : Pe K (tCB (rSortU K) (tCons te tNil)) σ B (sortD xs) := fun H e Q q => h H e _ fun v B1 H1 u hv => by
  obtain ⟨a, vs, rfl, hs, hx⟩ := hv
  refine .inl ⟨α, inferInstance, inferInstance, a, vs, xs, B1, rfl, hs.imp (Evl.ex_l u.bh) (ex_tx u.bh), u.bh, hx, .inl hk, hz, fun ys p hy hp => ?_⟩
  have u2 := Up.new (o := .lst ys) u.bh hp
  exact q _ _ _ (u.trans u2) (at_list.mpr ⟨p, ys, rfl, Evl.sq_of upd_same, hy.mono u2.bb⟩)
/-- of tuples, be some of them empty or not -/
theorem e_sortSqT {α : Type} [DecidableEq α] [DatumOrd α] {xs : List α} (h : Pe K te σ B (Sq.mk xs)) (hk : AllTup (xs.map Datum.toD)) (hz : Datum.depth α ≤ 64 := by decide) : Pe K (tCB (rSortU K) (tCons te tNil)) σ B (sortD xs) := fun H e Q q => h H e _ fun v B1 H1 u hv => by
  obtain ⟨a, vs, rfl, hs, hx⟩ := hv
  refine .inl ⟨α, inferInstance, inferInstance, a, vs, xs, B1, rfl, hs.imp (Evl.ex_l u.bh) (ex_tx u.bh), u.bh, hx, .inr hk, hz, fun ys p hy hp => ?_⟩
  have u2 := Up.new (o := .lst ys) u.bh hp
  exact q _ _ _ (u.trans u2) (at_list.mpr ⟨p, ys, rfl, Evl.sq_of upd_same, hy.mono u2.bb⟩)
theorem allTup_tup {α : Type} [DecidableEq α] [Datum α] (xs : List (Tup α)) : AllTup (xs.map Datum.toD) := fun d hd => by
  obtain ⟨x, _, rfl⟩ := List.mem_map.mp hd
  exact ⟨_, rfl⟩
theorem sortable_str (xs : List Str) : PySem.W.Sortable (xs.map Datum.toD) := PySem.W.Sortable.others fun b => ⟨fun z => (by cases z), fun _ z => (by cases z)⟩
theorem sortable_pair {α β : Type} [DecidableEq α] [Datum α] [DecidableEq β] [Datum β] (xs : List (α × β)) : PySem.W.Sortable (xs.map Datum.toD) := PySem.W.Sortable.tuples fun b => ⟨_, _, rfl⟩
theorem sortable_int (xs : List Int) : PySem.W.Sortable (xs.map Datum.toD) := PySem.W.Sortable.others fun b => ⟨fun z => (by cases z), fun _ z => (by cases z)⟩
/-! slices from a place on, to a place -/
theorem AtAll.cut {α : Type} [Rep α] {vs : List V} {xs : List α} (h : AtAll K H vs xs) (lo hi : Option Int) : AtAll K H (cutV vs lo hi) ((xs.drop (HT.sIx xs.length 0 lo)).take (HT.sIx xs.length xs.length hi - HT.sIx xs.length 0 lo)) := by
  unfold cutV
  rw [h.length]
  exact AtAll.take _ (AtAll.drop _ h)
def cutA {α : Type} (xs : List α) (lo hi : Option Int) : List α := (xs.drop (HT.sIx xs.length 0 lo)).take (HT.sIx xs.length xs.length hi - HT.sIx xs.length 0 lo)
theorem cutA_from {α : Type} (xs : List α) (k : Nat) : cutA xs (some (k : Int)) none = xs.drop k := by
  unfold cutA
  rw [HT.sIx_nat, HT.sIx_none]
  by_cases h : k ≤ xs.length
  · rw [Nat.min_eq_left h]
    exact List.take_of_length_le (by rw [List.length_drop]; exact Nat.le_refl _)
  · rw [Nat.min_eq_right (by omega), List.drop_of_length_le (by omega), List.drop_of_length_le (by omega), List.take_nil]
theorem cutA_to {α : Type} (xs : List α) (k : Nat) : cutA xs none (some (k : Int)) = xs.take k := by
  unfold cutA
  rw [HT.sIx_nat, HT.sIx_none]
  show List.take (min k xs.length - 0) (xs.drop 0) = _
  rw [Nat.sub_zero, List.drop_zero]
  exact (List.take_eq_take_min ..).symm
theorem e_slL {α : Type} [DecidableEq α] [Datum α] {xs : List α} {tl th : TO} {lo hi : Option Int} (h : Pe K te σ B xs) (h1 : Po tl σ B lo) (h2 : Po th σ B hi) : Pe K (tSl (rSlU K) te tl th) σ B (cutA xs lo hi) := fun H e Q q => h H e _ fun v B1 H1 u hv =>
  h1 H1 (u.bb.trans u.bh) _ fun B2 H2 u2 => h2 H2 (u2.bb.trans u2.bh) _ fun B3 H3 u3 => by
    obtain ⟨a, vs, rfl, hs, hx⟩ := at_list.mp hv
    have b3 : Ex B1 H3 := u.bh.trans (u2.hh.trans u3.hh)
    refine .inl ⟨a, vs, rfl, Evl.ex_l b3 hs, fun p hp => ?_⟩
    have w := Up.new (o := .lst (cutV vs lo hi)) b3 hp
    have v3 : Up B H B1 H3 := ⟨u.bb, b3, u.hh.trans (u2.hh.trans u3.hh), u.nw⟩
    exact q _ _ _ (v3.trans w) (at_list.mpr ⟨p, _, rfl, Evl.sq_of upd_same, (hx.cut lo hi).mono w.bb⟩)
theorem e_slT {α : Type} [DecidableEq α] [Datum α] {xs : List α} {tl th : TO} {lo hi : Option Int} (h : Pe K te σ B (Tup.mk xs)) (h1 : Po tl σ B lo) (h2 : Po th σ B hi) : Pe K (tSl (rSlU K) te tl th) σ B (Tup.mk (cutA xs lo hi)) := fun H e Q q => h H e _ fun v B1 H1 u hv =>
  h1 H1 (u.bb.trans u.bh) _ fun B2 H2 u2 => h2 H2 (u2.bb.trans u2.bh) _ fun B3 H3 u3 => by
    obtain ⟨a, vs, rfl, hs, hx⟩ := at_tup.mp hv
    have b3 : Ex B1 H3 := u.bh.trans (u2.hh.trans u3.hh)
    have v3 : Up B H B1 H3 := ⟨u.bb, b3, u.hh.trans (u2.hh.trans u3.hh), u.nw⟩
    refine .inr (.inl ⟨a, vs, rfl, ex_tx b3 hs, fun hw => ?_, fun _ p hp => ?_⟩)
    · have hA := hx.cut lo hi
      have ew : cutV vs lo hi = vs := by
        unfold cutV
        rw [hw.1, hw.2, List.drop_zero, Nat.sub_zero, List.take_length]
      rw [ew] at hA
      exact q _ _ _ v3 (at_tup.mpr ⟨a, vs, rfl, hs, hA⟩)
    · have w := Up.new (o := .tup (cutV vs lo hi)) b3 hp
      exact q _ _ _ (v3.trans w) (at_tup.mpr ⟨p, _, rfl, upd_same, (hx.cut lo hi).mono w.bb⟩)
/-! min, max of texts, of ints; abs, int of a bool -/
def minS (x y : Str) : Str := if ltS y x then y else x
def maxS (x y : Str) : Str := if ltS x y then y else x
theorem e_minS {x y : Str} (h : Pe K ta σ B x) (h2 : Pe K tb σ B y) : Pe K (tCB rMinU (tCons ta (tCons tb tNil))) σ B (minS x y) := fun H e Q q => h.both h2 e fun v w B1 H1 u hv hw => by
  cases at_str.mp hv
  cases at_str.mp hw
  exact .inr ⟨x, y, rfl, q _ B1 H1 u (at_str.mpr rfl)⟩
theorem e_maxS {x y : Str} (h : Pe K ta σ B x) (h2 : Pe K tb σ B y) : Pe K (tCB rMaxU (tCons ta (tCons tb tNil))) σ B (maxS x y) := fun H e Q q => h.both h2 e fun v w B1 H1 u hv hw => by
  cases at_str.mp hv
  cases at_str.mp hw
  exact .inr ⟨x, y, rfl, q _ B1 H1 u (at_str.mpr rfl)⟩
theorem e_minI {x y : Int} (h : Pe K ta σ B x) (h2 : Pe K tb σ B y) : Pe K (tCB rMinU (tCons ta (tCons tb tNil))) σ B (if y < x then y else x) := fun H e Q q => h.both h2 e fun v w B1 H1 u hv hw => by
  cases at_int.mp hv
  cases at_int.mp hw
  exact .inl ⟨x, y, rfl, q _ B1 H1 u (at_int.mpr rfl)⟩
theorem e_maxI {x y : Int} (h : Pe K ta σ B x) (h2 : Pe K tb σ B y) : Pe K (tCB rMaxU (tCons ta (tCons tb tNil))) σ B (if y > x then y else x) := fun H e Q q => h.both h2 e fun v w B1 H1 u hv hw => by
  cases at_int.mp hv
  cases at_int.mp hw
  exact .inl ⟨x, y, rfl, q _ B1 H1 u (at_int.mpr rfl)⟩
theorem e_abs {x : Int} (h : Pe K te σ B x) : Pe K (tCB rAbs (tCons te tNil)) σ B (if x < 0 then -x else x) := fun H e Q q => h H e _ fun v B1 H1 u hv => by
  cases at_int.mp hv
  exact ⟨x, rfl, q _ B1 H1 u (at_int.mpr rfl)⟩
theorem e_intB {x : Bool} (h : Pe K te σ B x) : Pe K (tCB rInt1 (tCons te tNil)) σ B (if x then 1 else 0 : Int) := fun H e Q q => h H e _ fun v B1 H1 u hv => by
  cases at_bl.mp hv
  exact .inr ⟨x, rfl, q _ B1 H1 u (at_int.mpr rfl)⟩
/-! ### promises of pure defs -/
section
variable {α β γ δ : Type} [Rep α] [Rep β] [Rep γ] [Rep δ]
def Fn1 (K : PySem.W.Frag) (pre : α → Prop) (f : α → β) : Sp := fun vs H Q _ => ∃ x B, Ex B H ∧ RCons K x RNil vs B ∧ pre x ∧ ∀ v B2 H2, Up B H B2 H2 → Rep.at_ K B2 v (f x) → Q v H2
def Fn2 (K : PySem.W.Frag) (pre : α → β → Prop) (f : α → β → γ) : Sp := fun vs H Q _ => ∃ x y B, Ex B H ∧ RCons K x (RCons K y RNil) vs B ∧ pre x y ∧ ∀ v B2 H2, Up B H B2 H2 → Rep.at_ K B2 v (f x y) → Q v H2
def Fn3 (K : PySem.W.Frag) (pre : α → β → γ → Prop) (f : α → β → γ → δ) : Sp := fun vs H Q _ => ∃ x y z B, Ex B H ∧ RCons K x (RCons K y (RCons K z RNil)) vs B ∧ pre x y z ∧ ∀ v B2 H2, Up B H B2 H2 → Rep.at_ K B2 v (f x y z) → Q v H2
theorem Fn1.len {pre : α → Prop} {f : α → β} (vs : List V) (H : Hp) (Q : VK) (E : XK) (h : Fn1 K pre f vs H Q E) : vs.length = 1 := by
  obtain ⟨x, B, e, ⟨v, r, rfl, h1, rfl⟩, _⟩ := h
  rfl
theorem Fn2.len {pre : α → β → Prop} {f : α → β → γ} (vs : List V) (H : Hp) (Q : VK) (E : XK) (h : Fn2 K pre f vs H Q E) : vs.length = 2 := by
  obtain ⟨x, y, B, e, ⟨v, r, rfl, h1, v2, r2, rfl, h2, rfl⟩, _⟩ := h
  rfl
theorem Fn3.len {pre : α → β → γ → Prop} {f : α → β → γ → δ} (vs : List V) (H : Hp) (Q : VK) (E : XK) (h : Fn3 K pre f vs H Q E) : vs.length = 3 := by
  obtain ⟨x, y, z, B, e, ⟨v, r, rfl, h1, v2, r2, rfl, h2, v3, r3, rfl, h3, rfl⟩, _⟩ := h
  rfl
theorem e_call1 {pre : α → Prop} {f : α → β} {E : XK} {x : α} (h : Pe K ta σ B x) (hp : pre x) : Pe K (tCall (Fn1 K pre f) [] E (tCons ta tNil)) σ B (f x) := fun H e Q q => a_1 h H e _ fun vs B1 H1 u hv => by
  rw [List.append_nil]
  exact ⟨x, B1, u.bh, hv, hp, fun v B2 H2 u2 h2 => q v B2 H2 (u.trans u2) h2⟩
theorem e_call2 {pre : α → β → Prop} {f : α → β → γ} {E : XK} {x : α} {y : β} (h : Pe K ta σ B x) (h2 : Pe K tb σ B y) (hp : pre x y) : Pe K (tCall (Fn2 K pre f) [] E (tCons ta (tCons tb tNil))) σ B (f x y) := fun H e Q q => a_2 h h2 H e _ fun vs B1 H1 u hv => by
  rw [List.append_nil]
  exact ⟨x, y, B1, u.bh, hv, hp, fun v B2 H2 u2 h2 => q v B2 H2 (u.trans u2) h2⟩
theorem e_call3 {pre : α → β → γ → Prop} {f : α → β → γ → δ} {E : XK} {x : α} {y : β} {z : γ} (h : Pe K ta σ B x) (h2 : Pe K tb σ B y) (h3 : Pe K tc σ B z) (hp : pre x y z) : Pe K (tCall (Fn3 K pre f) [] E (tCons ta (tCons tb (tCons tc tNil)))) σ B (f x y z) := fun H e Q q => a_3 h h2 h3 H e _ fun vs B1 H1 u hv => by
  rw [List.append_nil]
  exact ⟨x, y, z, B1, u.bh, hv, hp, fun v B2 H2 u2 h2 => q v B2 H2 (u.trans u2) h2⟩
end
end
end Ob

set_option Elab.async false
set_option linter.all false
set_option maxRecDepth 100000
set_option maxHeartbeats 4000000
/-! Ob7: dict comprehensions, locks, freezing, lists that a loop grows. -/
namespace Ob
open PySem L2
open Evl (Ex)
open PySem.W (Datum Tup DatumOrd)

section
variable {K : PySem.W.Frag} {H B B' : Hp} {v : V} {σ : L2.St} {te ta tb tc tk tv : TE} {tt tu : TT}
/-- the target two names, a pair of data -/
theorem turn_pairU {α β γ : Type} [DecidableEq α] [Datum α] [DecidableEq β] [Datum β] [Rep γ] {vs : List Nat} {b : Bool} {r : γ} {i j : Nat} {p : α × β} (hp : Rep.at_ K B v p)
    (h : ∀ v1 v2, Rep.at_ K B v1 p.1 → Rep.at_ K B v2 p.2 → wipe (((wipe σ vs).set i (some v1)).set j (some v2)) vs = wipe σ vs ∧ Pt tt (((wipe σ vs).set i (some v1)).set j (some v2)) B b ∧ (b = true → Pe K te (((wipe σ vs).set i (some v1)).set j (some v2)) B r)) :
    TurnD K (gUnp K 2 (gCons (gName i) (gCons (gName j) gNil))) tt te vs σ B v b r := by
  obtain ⟨a, v1, v2, rfl, hs, h1, h2⟩ := at_pair.mp hp
  obtain ⟨hw, ht, he⟩ := h v1 v2 h1 h2
  exact ⟨_, fun H Q e q => .inl ⟨a, [v1, v2], rfl, ex_tx e hs, rfl, v1, [v2], rfl, v2, [], rfl, rfl, q⟩, hw, ht, he⟩
/-- a pair of names unpacked -/
theorem unp_pr {p : Pr} {i j : Nat} {Q : L2.St → Hp → Prop} (hp : Rep.at_ K B v p) (e : Ex B H) (q : Q ((σ.set i (some (.str p.a))).set j (some (.str p.b))) H) : gUnp K 2 (gCons (gName i) (gCons (gName j) gNil)) v σ H Q := by
  obtain ⟨a, rfl, hs⟩ := hp
  rcases hs with hs | hs
  · exact .inr ⟨a, _, rfl, Evl.ex_l e hs, rfl, _, _, rfl, _, _, rfl, rfl, q⟩
  · exact .inl ⟨a, _, rfl, ex_tx e hs, rfl, _, _, rfl, _, _, rfl, rfl, q⟩
theorem unp_pair {α β : Type} [DecidableEq α] [Datum α] [DecidableEq β] [Datum β] {p : α × β} {i j : Nat} {Q : L2.St → Hp → Prop} (hp : Rep.at_ K B v p) (e : Ex B H)
    (q : ∀ v1 v2, Rep.at_ K B v1 p.1 → Rep.at_ K B v2 p.2 → Q ((σ.set i (some v1)).set j (some v2)) H) : gUnp K 2 (gCons (gName i) (gCons (gName j) gNil)) v σ H Q := by
  obtain ⟨a, v1, v2, rfl, hs, h1, h2⟩ := at_pair.mp hp
  exact .inl ⟨a, _, rfl, ex_tx e hs, rfl, _, _, rfl, _, _, rfl, rfl, q v1 v2 h1 h2⟩
/-! freezing, changing what is not frozen -/
theorem Up.freeze {B H B2 H2 : Hp} (u : Up B H B2 H2) {a : Addr} {o : HO} (h : H2 a = some o) (hf : H a = none) : Up B H (upd B2 a o) H2 ∧ Ex B2 (upd B2 a o) := by
  have e2 : Ex B2 (upd B2 a o) := fun c x hc => by
    by_cases hca : c = a
    · subst hca
      have := u.bh c x hc
      rw [h] at this
      rw [upd_same]
      exact this
    · rw [upd_ne hca]
      exact hc
  refine ⟨⟨u.bb.trans e2, ex_in u.bh h, u.hh, fun c hc => ?_⟩, e2⟩
  by_cases hca : c = a
  · exact .inr (hca ▸ hf)
  · rw [upd_ne hca] at hc
    exact u.nw c hc
theorem Up.freezes {B H B2 H2 : Hp} (u : Up B H B2 H2) : ∀ {es : List (Addr × HO)}, (∀ p ∈ es, H2 p.1 = some p.2 ∧ H p.1 = none) → ∃ B3, Up B H B3 H2 ∧ Ex B2 B3 ∧ ∀ p ∈ es, B3 p.1 = some p.2
  | [], _ => ⟨B2, u, Ex.refl _, fun _ h => by cases h⟩
  | p :: es, h => by
    obtain ⟨B3, u3, e3, k3⟩ := Up.freezes u (es := es) fun q hq => h q (List.mem_cons_of_mem _ hq)
    obtain ⟨h1, h2⟩ := h p List.mem_cons_self
    obtain ⟨u4, e4⟩ := u3.freeze h1 h2
    refine ⟨_, u4, e3.trans e4, fun q hq => ?_⟩
    rcases List.mem_cons.mp hq with rfl | hq
    · exact upd_same
    · exact e4 _ _ (k3 q hq)
theorem Up.mut {B H B2 H2 : Hp} (u : Up B H B2 H2) {a : Addr} {o : HO} (hf : H a = none) (hb : B2 a = none) : Up B H B2 (upd H2 a o) :=
  ⟨u.bb, ex_upd u.bh hb, Ex.mut u.hh hf, u.nw⟩
/-- a new object that is not frozen -/
theorem Up.hold {B H B2 H2 : Hp} (u : Up B H B2 H2) {a : Addr} {o : HO} (h : H2 a = none) : Up B H B2 (upd H2 a o) := u.mut (Evl.fresh_back u.hh h) (Evl.fresh_back u.bh h)
/-! dict comprehensions -/
theorem dc_it {J : It} {n : Nat} {G : Hp → Prop} {Y : Nat → Hp → V → Hp → Prop} (w : Walk J n G Y) {g : TG} {tt : TT} {tk tv : TE} {vs : List Nat} {σ : L2.St} {H1 : Hp} {D : Addr} {Qd : Hp → Prop} (Pv : Nat → Hp → Prop) (h0 : Pv 0 (upd H1 D (.dK []))) (hG : ∀ i H, i ≤ n → Pv i H → G H)
    (hs : ∀ i x H H', i < n → Pv i H → Y i H x H' → g x (wipe σ vs) H' fun σ2 H2 => wipe σ2 vs = wipe σ vs ∧ tt σ2 H2 fun b H3 =>
      if b = true then tk σ2 H3 fun y H4 => tv σ2 H4 fun z H5 => ∃ kvs k, y = kV k ∧ H5 D = some (.dK kvs) ∧ kvs.length < sizeLine ∧ Pv (i + 1) (upd H5 D (.dK (putK kvs k z))) else Pv (i + 1) H3) (hd : ∀ H, Pv n H → Qd H) :
    ∃ W : Nat → Nat → Hp → Prop, (∃ m, W 0 m (upd H1 D (.dK []))) ∧ ∀ i m H, W i m H →
      (J.stop i H ∧ Qd H) ∨ (J.go i H ∧ ∃ Nx : Hp → Prop, (∀ H', Nx H' → ∃ m', m' < m ∧ W (i + 1) m' H') ∧ ∀ x H', J.yld i H x H' → g x (wipe σ vs) H' fun σ2 H2 => wipe σ2 vs = wipe σ vs ∧ tt σ2 H2 fun b H3 =>
        if b = true then tk σ2 H3 fun y H4 => tv σ2 H4 fun z H5 => ∃ kvs k, y = kV k ∧ H5 D = some (.dK kvs) ∧ kvs.length < sizeLine ∧ Nx (upd H5 D (.dK (putK kvs k z))) else Nx H3) := by
  refine ⟨fun i m H => m = n - i ∧ i ≤ n ∧ Pv i H, ⟨n, by simp, Nat.zero_le _, h0⟩, ?_⟩
  rintro i m H ⟨rfl, hi, p⟩
  have q := hG i H hi p
  by_cases hlt : i < n
  · exact .inr ⟨w.goes i H hlt q, Pv (i + 1), fun H' p' => ⟨n - (i + 1), by omega, rfl, hlt, p'⟩, fun x H' y => hs i x H H' hlt p (w.yields i H x H' hlt q y)⟩
  · have e : i = n := by omega
    subst e
    exact .inl ⟨w.stops H q, hd H p⟩
theorem valV_out {α : Type} [Rep α] : ∀ {ks : List (Key × V)} {d : List (Str × α)} {k : Str}, DicAt K H ks d → k ∉ d.map (·.1) → valV ks (.inr k) = none
  | _, _, _, .nil, _ => rfl
  | _, _, k, .cons (a := p) (b := q) ⟨h1, h2⟩ t, hn => by
    rw [List.map_cons, List.mem_cons, not_or] at hn
    rw [valV_neg (fun z => hn.1 (by rw [h1] at z; exact (Sum.inr.inj z).symm))]
    exact valV_out t hn.2
theorem DicAt.mono {α : Type} [Rep α] (e : Ex H B) {ks : List (Key × V)} {d : List (Str × α)} (h : DicAt K H ks d) : DicAt K B ks d := Paired.mapP h fun _ _ q => ⟨q.1, Rep.mono e q.2⟩
theorem paired_snoc {α β : Type} {F : α → β → Prop} : ∀ {xs : List α} {ys : List β} {x : α} {y : β}, Paired F xs ys → F x y → Paired F (xs ++ [x]) (ys ++ [y])
  | _, _, _, _, .nil, h => .cons h .nil
  | _, _, _, _, .cons a t, h => .cons a (paired_snoc t h)
def TurnK (K : PySem.W.Frag) {β : Type} [Rep β] (g : TG) (tk tv : TE) (vs : List Nat) (σ : L2.St) (B : Hp) (v : V) (k : Str) (r : β) : Prop :=
  ∃ σ2, (∀ H (Q : L2.St → Hp → Prop), Ex B H → Q σ2 H → g v (wipe σ vs) H Q) ∧ wipe σ2 vs = wipe σ vs ∧ Pe K tk σ2 B k ∧ Pe K tv σ2 B r
theorem e_dc {β γ : Type} [Rep β] [Rep γ] {wi : TI} {g : TG} {vs : List Nat} {xs : List γ} (kf : γ → Str) (y : γ → β) (h : ItD K wi σ B xs) (nd : (xs.map kf).Nodup) (hz : xs.length ≤ 1000000)
    (ht : ∀ x ∈ xs, ∀ v B1, Ex B B1 → Rep.at_ K B1 v x → TurnK K g tk tv vs σ B1 v (kf x) (y x)) : Pe K (tDc wi g tYes tk tv vs) σ B (Dic.mk (xs.map fun x => (kf x, y x))) := fun H e Q q =>
  h H e _ fun J B1 H1 G Y up W hG hY D hD => by
    have hDH : H D = none := Evl.fresh_back up.hh hD
    have hDB : B1 D = none := Evl.fresh_back up.bh hD
    refine dc_it W (fun i H' => ∃ Bi ks, Ex B1 Bi ∧ (∀ a, Bi a ≠ none → B1 a ≠ none ∨ H1 a = none) ∧ Bi D = none ∧ Ex Bi H' ∧ Ex H1 H' ∧ H' D = some (.dK ks) ∧ DicAt K Bi ks ((xs.take i).map fun x => (kf x, y x)))
      ⟨B1, [], Ex.refl _, fun _ h => .inl h, hDB, ex_upd up.bh hDB, Ex.new hD, upd_same, .nil⟩ (fun i H' _ p => ?_) (fun i x Hx H' hi p hy => ?_) (fun H' p => ?_)
    · obtain ⟨Bi, ks, b1, _, _, b2, _⟩ := p
      exact hG H' (b1.trans b2)
    · obtain ⟨Bi, ks, b1, nw, bD, b2, hh, eD, hA⟩ := p
      obtain ⟨d, hd, hB⟩ := hY i x Hx H' hi (b1.trans b2) hy
      obtain ⟨B2, u2, hx⟩ := hB Bi b1 b2
      obtain ⟨o1, o2⟩ := u2.out bD eD
      obtain ⟨σ2, hg, hw, hk, hv⟩ := ht d (mem_of_get hd) x B2 ((up.bb.trans b1).trans u2.bb) hx
      refine hg H' _ u2.bh ⟨hw, ?_⟩
      show tk σ2 H' _
      refine hk H' u2.bh _ fun kv B3 H3 u3 hkv => ?_
      obtain ⟨o3, o4⟩ := u3.out o1 o2
      refine (hv.mono u3.bb) H3 u3.bh _ fun w B4 H4 u4 hw4 => ⟨ks, .inr (kf d), at_str.mp hkv, (u4.out o3 o4).2, ?_, B4, ks ++ [(.inr (kf d), w)], ?_, ?_, (u4.out o3 o4).1, ex_upd u4.bh (u4.out o3 o4).1, ?_, ?_, ?_⟩
      · have e1 := Paired.length hA
        rw [List.length_map] at e1
        have h3 := List.length_take_le i xs
        have : (sizeLine : Nat) = 16777216 := sizeLine_eq
        omega
      · exact ((b1.trans u2.bb).trans u3.bb).trans u4.bb
      · intro a ha
        rcases ((u2.trans u3).trans u4).nw a ha with z | z
        · exact nw a z
        · exact .inr (Evl.fresh_back hh z)
      · exact Ex.mut (((hh.trans u2.hh).trans u3.hh).trans u4.hh) hD
      · rw [upd_same, putK_new w (valV_out hA ?_)]
        rw [List.map_map]
        intro hm
        have nd2 : ((xs.take (i + 1)).map kf).Nodup := by
          rw [List.map_take]
          exact nd.sublist (List.take_sublist _ _)
        rw [take_snoc hd, List.map_append, List.nodup_append] at nd2
        exact nd2.2.2 _ hm _ (by simp) rfl
      · rw [take_snoc hd, List.map_append]
        exact paired_snoc (DicAt.mono ((u2.bb.trans u3.bb).trans u4.bb) hA) ⟨rfl, hw4⟩
    · obtain ⟨Bi, ks, b1, nw, bD, b2, hh, eD, hA⟩ := p
      rw [List.take_length] at hA
      refine q (.ref D) (upd Bi D (.dK ks)) H' ⟨(up.bb.trans b1).trans (Ex.new bD), ex_in b2 eD, up.hh.trans hh, fun a ha => ?_⟩ ⟨D, ks, rfl, .inl upd_same, ?_, hA.mono (Ex.new bD)⟩
      · by_cases hDa : a = D
        · exact .inr (hDa ▸ hDH)
        · rw [upd_ne hDa] at ha
          rcases nw a ha with z | z
          · exact up.nw a z
          · exact .inr (Evl.fresh_back up.hh z)
      · have e1 := Paired.length hA
        rw [List.length_map] at e1
        omega
theorem turnK_name {β : Type} [Rep β] {σ2 : L2.St} {vs : List Nat} {k : Str} {r : β} {j : Nat} (e : (wipe σ vs).set j (some v) = σ2) (hw : wipe σ2 vs = wipe σ vs) (hk : Pe K tk σ2 B k) (hv : Pe K tv σ2 B r) : TurnK K (gName j) tk tv vs σ B v k r :=
  ⟨σ2, fun H Q _ q => by rw [← e] at q; exact q, hw, hk, hv⟩
/-! the keys of a locked dict -/
theorem it_keys {i : Nat} {d : Addr} {o : Obj} {ks : List (Key × V)} {xs : List Str} (hi : σ[i]? = some (some (.ref d))) (hd : B d = some (.frz o (.dK ks))) (hk : ks.map (·.1) = xs.map Sum.inr) : ItD K (iKeys (tVar i)) σ B xs := fun H e R q => by
  refine ⟨.ref d, hi, d, o, rfl, .inl ⟨ks, e d _ hd, ?_⟩⟩
  have el : ks.length = xs.length := by
    have := congrArg List.length hk
    rw [List.length_map, List.length_map] at this
    exact this
  refine q (Itk d o ks) B H (fun H => H d = some (.frz o (.dK ks))) _ (Up.refl e) (by rw [← el]; exact walk_keys) (fun H' e' => e' d _ hd) fun j x Hx H' hj ex y => ?_
  obtain ⟨y1, k, v, y2, y3⟩ := y
  have h1 : (ks.map (·.1))[j]? = some k := by rw [List.getElem?_map, y2]; rfl
  rw [hk, List.getElem?_map] at h1
  obtain ⟨s, hs, e2⟩ := Option.map_eq_some_iff.mp h1
  refine ⟨s, hs, fun B' b1 b2 => ⟨B', by rw [y1]; exact Up.refl b2, ?_⟩⟩
  rw [y3, ← e2]
  exact at_str.mpr rfl
/-- an expression under a dict's lock, returned -/
theorem lock_do {α : Type} [Rep α] {d : Addr} {ks : List (Key × V)} {x : α} {Q : VK} (hB : B d = some (.dK ks)) (e : Ex B H) (h : ∀ od, Pe K te σ (upd B d (.frz od (.dK ks))) x) (k : ∀ v B1 H1, Up B H B1 H1 → Rep.at_ K B1 v x → Q v H1) : tLockE te σ H Q := by
  have hd : H d = some (.dK ks) := e d _ hB
  refine ⟨d, .dK ks, hd, trivial, fun od => h od (upd H d (.frz od (.dK ks))) (fun a o ha => ?_) _ fun v B2 H2 u hv => ⟨u.hh d _ upd_same, k v (upd B2 d (.dK ks)) (upd H2 d (.dK ks)) ⟨fun a o ha => ?_, fun a o ha => ?_, fun a o ha => ?_, fun a ha => ?_⟩ (Rep.monoR (exr_unlock (u.bb d _ upd_same)) hv)⟩⟩
  · by_cases hda : a = d
    · subst hda
      rw [upd_same] at ha ⊢
      exact ha
    · rw [upd_ne hda] at ha ⊢
      exact e a o ha
  · by_cases hda : a = d
    · subst hda
      rw [upd_same, ← hB]
      exact ha
    · rw [upd_ne hda]
      exact u.bb a o (by rw [upd_ne hda]; exact ha)
  · by_cases hda : a = d
    · subst hda
      rw [upd_same] at ha ⊢
      exact ha
    · rw [upd_ne hda] at ha ⊢
      exact u.bh a o ha
  · by_cases hda : a = d
    · subst hda
      rw [upd_same, ← hd]
      exact ha
    · rw [upd_ne hda]
      exact u.hh a o (by rw [upd_ne hda]; exact ha)
  · by_cases hda : a = d
    · subst hda
      exact .inl (by rw [hB]; exact fun z => nomatch z)
    · rw [upd_ne hda] at ha
      rcases u.nw a ha with z | z
      · exact .inl (by rw [upd_ne hda] at z; exact z)
      · exact .inr (by rw [upd_ne hda] at z; exact z)
/-! a list grown -/
theorem app_do {D : Ends} {l : Addr} {vs : List V} {α : Type} [Rep α] {x : α} {to : TE} (hl : H l = some (.lst vs)) (e : Ex B H) (ho : ∀ (H1 : Hp) (Q : VK), Ex H H1 → Q (.ref l) H1 → to σ H1 Q) (h : Pe K te σ B x) (hz : vs.length ≤ 1000000)
    (k : ∀ v B1 H1, Up B H B1 H1 → Rep.at_ K B1 v x → D.nx σ (upd H1 l (.lst (vs ++ [v])))) : tDrop (tBM K "list" rAppend to (tCons te tNil)) D σ H :=
  ho H _ (Ex.refl H) ⟨.inl ⟨rfl, vs, Evl.sq_of hl⟩, h H e _ fun v B1 H1 u hv => ⟨l, vs, v, rfl, rfl, u.hh l _ hl, Nat.lt_of_le_of_lt hz (by rw [sizeLine_eq]; decide), k v B1 H1 u hv⟩⟩
theorem qapp_do {D : Ends} {tz : TS} {l : Addr} {vs : List V} {α : Type} [Rep α] {x : α} {to : TE} (hl : H l = some (.lst vs)) (e : Ex B H) (ho : ∀ (H1 : Hp) (Q : VK), Ex H H1 → Q (.ref l) H1 → to σ H1 Q) (h : Pe K te σ B x) (hz : vs.length ≤ 1000000)
    (k : ∀ v B1 H1, Up B H B1 H1 → Rep.at_ K B1 v x → tz D σ (upd H1 l (.lst (vs ++ [v])))) : tSeq (tDrop (tBM K "list" rAppend to (tCons te tNil))) tz D σ H := app_do (D := { D with nx := tz D }) hl e ho h hz k
theorem app_var {D : Ends} {l : Addr} {vs : List V} {α : Type} [Rep α] {x : α} {i : Nat} (hi : σ[i]? = some (some (.ref l))) (hl : H l = some (.lst vs)) (e : Ex B H) (h : Pe K te σ B x) (hz : vs.length ≤ 1000000)
    (k : ∀ v B1 H1, Up B H B1 H1 → Rep.at_ K B1 v x → D.nx σ (upd H1 l (.lst (vs ++ [v])))) : tDrop (tBM K "list" rAppend (tVar i) (tCons te tNil)) D σ H :=
  app_do hl e (fun H1 Q _ q => ⟨_, hi, q⟩) h hz k
theorem qapp_var {D : Ends} {tz : TS} {l : Addr} {vs : List V} {α : Type} [Rep α] {x : α} {i : Nat} (hi : σ[i]? = some (some (.ref l))) (hl : H l = some (.lst vs)) (e : Ex B H) (h : Pe K te σ B x) (hz : vs.length ≤ 1000000)
    (k : ∀ v B1 H1, Up B H B1 H1 → Rep.at_ K B1 v x → tz D σ (upd H1 l (.lst (vs ++ [v])))) : tSeq (tDrop (tBM K "list" rAppend (tVar i) (tCons te tNil))) tz D σ H := app_var (D := { D with nx := tz D }) hi hl e h hz k
end
end Ob

set_option Elab.async false
set_option linter.all false
set_option maxRecDepth 100000
set_option maxHeartbeats 4000000
/-! P1: the defs of panels.py, effects.py, states.py: readings and promises. -/
namespace Ob
open PySem L2
open Evl (Ex)
open PySem.W (Datum Tup DatumOrd)

abbrev Ends.ret (Q : VK) : Ends := { nx := fun _ H' => Q .non H', rt := Q }
section
variable {K : PySem.W.Frag}
theorem o_int {σ : L2.St} {B : Hp} {i : Int} : Po (tPart (tC (.int i))) σ B (some i) := fun H e Q q => ⟨i, rfl, q B H (Up.refl e)⟩
/-! ### are_ascending -/
def ascB {α : Type} [DecidableEq α] [DatumOrd α] (xs : List α) : Bool := (xs.zip (xs.drop 1)).all fun p => DatumOrd.lt p.1 p.2
abbrev sp_are_ascending (K : PySem.W.Frag) : Sp := fun vs H Q E => ∃ (α : Type) (_ : DecidableEq α) (_ : DatumOrd α), Datum.depth α ≤ 60 ∧ Fn1 K (fun t : Tup α => t.items.length ≤ 1000000) (fun t => ascB t.items) vs H Q E
theorem l_are_ascending (vs : List V) (H : Hp) (Q : VK) (E : XK) (h : sp_are_ascending K vs H Q E) : vs.length = 1 := by
  obtain ⟨α, _, _, _, h⟩ := h
  exact Fn1.len vs H Q E h
theorem all_map_id {α : Type} (xs : List α) (f : α → Bool) : ((xs.filter fun _ => true).map f).all id = xs.all f := by
  rw [List.filter_eq_self.mpr fun _ _ => rfl, List.all_map]
  rfl
theorem any_map_id {α : Type} (xs : List α) (f : α → Bool) : ((xs.filter fun _ => true).map f).any id = xs.any f := by
  rw [List.filter_eq_self.mpr fun _ _ => rfl, List.any_map]
  rfl
def N_are_ascending : List Str := ["things", "one", "other"]
def t_are_ascending (K : PySem.W.Frag) : TS :=
  (tRet (tCB (rAll K) (tCons (tLc (RZ.iZipA K (tCons (tVar 0) (tCons (tSl (rSlU K) (tVar 0) (tPart (tC (.int 1))) tNoPart) tNil))) (gUnp K 2 (gCons (gName 1) (gCons (gName 2) gNil))) tYes (tOp (rLtU K) (tVar 1) (tVar 2)) [1, 2]) tNil)))
theorem r_are_ascending (vs : List V) (H : Hp) (Q : VK) (E : XK) (h : sp_are_ascending K vs H Q E) : t_are_ascending K (Ends.ret Q) (start N_are_ascending vs) H := by
  obtain ⟨α, _, _, hd, t, B, e, ⟨v, _, rfl, h1, rfl⟩, hp, q⟩ := h
  obtain ⟨xs⟩ := t
  refine p_ret ((e_all (e_lc (fun _ => true) (fun p : α × α => DatumOrd.lt p.1 p.2) (it_zipT (e_var rfl h1) (e_slT (e_var rfl h1) o_int o_none)) ?_ (fun p _ v B1 b1 hv => turn_pairU hv fun v1 v2 k1 k2 => ⟨rfl, t_yes, fun _ => e_lt (e_var rfl k1) (e_var rfl k2) (by omega)⟩))).is ?_) e q
  · rw [List.length_zip]
    exact Nat.le_trans (Nat.min_le_left _ _) hp
  · rw [all_map_id]
    show _ = (xs.zip (xs.drop 1)).all _
    rw [show (1 : Int) = ((1 : Nat) : Int) from rfl, cutA_from]
/-! ### look_switches (where the panel has them all) -/
abbrev sp_look_switches (K : PySem.W.Frag) : Sp := Fn2 K (fun (p : Pan) (s : Sq Str) => ∀ x ∈ s.items, x ∈ p.sw) (fun _ _ => ())
theorem l_look_switches (vs : List V) (H : Hp) (Q : VK) (E : XK) (h : sp_look_switches K vs H Q E) : vs.length = 2 := Fn2.len vs H Q E h
def N_look_switches : List Str := ["panel", "switches", "switch"]
def t_look_switches (K : PySem.W.Frag) : TS :=
  (tFor (iSeq K (tVar 1)) (gName 2) (tIfS (tTest (tOp (rInU K true) (tVar 2) (tOp (rIxU K) (tVar 0) (tC (.int 0))))) tNever tNext))
theorem r_look_switches (vs : List V) (H : Hp) (Q : VK) (E : XK) (h : sp_look_switches K vs H Q E) : t_look_switches K (Ends.ret Q) (start N_look_switches vs) H := by
  obtain ⟨p, s, B, e, ⟨v1, _, rfl, h1, v2, _, rfl, h2, rfl⟩, hp, q⟩ := h
  obtain ⟨xs⟩ := s
  refine p_for (it_sq (e_var rfl h2)) e fun B1 H1 u => ⟨fun done σ' B' H' => Up B H B' H' ∧ ∃ y, σ' = [some v1, some v2, y], ⟨u, none, rfl⟩, fun done x rest v σ' B' Hx B2 H' ex b1 bx hP u2 hv => ?_, fun σ' B' H' b1 bx hP => ?_⟩
  · obtain ⟨uB, y, rfl⟩ := hP
    have hx : x ∈ p.sw := hp x (by rw [ex]; simp)
    have w := uB.trans u2
    refine p_if (t_test (e_inSq (e_var rfl hv) (e_sw (e_var rfl (Rep.mono w.bb h1))) true)) w.bh (fun hb => ?_) (fun _ B3 H3 u3 => ⟨B3, (b1.trans u2.bb).trans u3.bb, u3.bh, w.trans u3, some v, rfl⟩)
    simp [ngb, hx] at hb
  · exact q _ B' H' hP.1 (at_non.mpr rfl)
/-! ### rival_table -/
/-- the rivals of s, exclusion by exclusion -/
def raw (ex : List (Str × Str)) (s : Str) : List Str := ex.flatMap fun e => (if e.1 = s then [e.2] else []) ++ (if e.2 = s then [e.1] else [])
def rvs (p : Pan) (s : Str) : List Str := sortD (raw p.ex s)
def tab (p : Pan) : Dic (List Str) := ⟨p.sw.map fun s => (s, rvs p s)⟩
/-- what the panel functions ask of a panel -/
structure PanOk (p : Pan) : Prop where
  nd : p.sw.Nodup
  ex : ∀ e ∈ p.ex, e.1 ∈ p.sw ∧ e.2 ∈ p.sw
  n1 : p.sw.length ≤ 100000
  n2 : p.ex.length ≤ 100000
abbrev sp_rival_table (K : PySem.W.Frag) : Sp := Fn1 K PanOk tab
theorem l_rival_table (vs : List V) (H : Hp) (Q : VK) (E : XK) (h : sp_rival_table K vs H Q E) : vs.length = 1 := Fn1.len vs H Q E h
/-- the dict's pairs -/
def kvOf (es : List (Str × Addr)) : List (Key × V) := es.map fun p => (.inr p.1, .ref p.2)
theorem valV_kvOf : ∀ {es : List (Str × Addr)} {s : Str} {a : Addr}, (es.map (·.1)).Nodup → (s, a) ∈ es → valV (kvOf es) (.inr s) = some (.ref a)
  | [], _, _, _, h => by cases h
  | (s', a') :: es, s, a, nd, h => by
    by_cases e : s' = s
    · subst e
      rcases List.mem_cons.mp h with z | z
      · cases z
        exact valV_pos rfl
      · rw [List.map_cons, List.nodup_cons] at nd
        exact absurd (List.mem_map.mpr ⟨_, z, rfl⟩) nd.1
    · rcases List.mem_cons.mp h with z | z
      · cases z
        exact absurd rfl e
      · rw [List.map_cons, List.nodup_cons] at nd
        show valV ((Sum.inr s', _) :: kvOf es) _ = _
        rw [valV_neg (fun w => e (Sum.inr.inj w))]
        exact valV_kvOf nd.2 z
structure TabAt (es : List (Str × Addr)) (c : Str → List Str) (D : Addr) (B H : Hp) : Prop where
  dD : H D = some (.dK (kvOf es))
  dl : ∀ p ∈ es, H p.2 = some (.lst ((c p.1).map V.str))
  bD : B D = none
  bl : ∀ p ∈ es, B p.2 = none
  nd : (es.map (·.2)).Nodup
  ne : ∀ p ∈ es, p.2 ≠ D
theorem TabAt.up {es : List (Str × Addr)} {c : Str → List Str} {D : Addr} {B H B2 H2 : Hp} (t : TabAt es c D B H) (u : Up B H B2 H2) : TabAt es c D B2 H2 :=
  ⟨(u.out t.bD t.dD).2, fun p hp => (u.out (t.bl p hp) (t.dl p hp)).2, (u.out t.bD t.dD).1, fun p hp => (u.out (t.bl p hp) (t.dl p hp)).1, t.nd, t.ne⟩
theorem TabAt.app {es : List (Str × Addr)} {c : Str → List Str} {D : Addr} {B H : Hp} (t : TabAt es c D B H) {s : Str} {a : Addr} (h : (s, a) ∈ es) (n1 : (es.map (·.1)).Nodup) (x : Str) :
    TabAt es (fun y => if y = s then c y ++ [x] else c y) D B (upd H a (.lst ((c s).map V.str ++ [.str x]))) := by
  refine ⟨?_, fun p hp => ?_, t.bD, t.bl, t.nd, t.ne⟩
  · rw [upd_ne (t.ne _ h).symm]
    exact t.dD
  · by_cases e : p.2 = a
    · have ep : p = (s, a) := by
        obtain ⟨i, hi, e1⟩ := List.getElem_of_mem hp
        obtain ⟨j, hj, e2⟩ := List.getElem_of_mem h
        have : i = j := by
          refine (List.getElem_inj (xs := es.map (·.2)) (h₀ := by simpa using hi) (h₁ := by simpa using hj) t.nd).mp ?_
          simp [e1, e2, e]
        subst this
        rw [← e1, ← e2]
      subst ep
      show upd H a _ a = _
      rw [upd_same]
      show _ = some (HO.lst ((if s = s then c s ++ [x] else c s).map V.str))
      rw [if_pos rfl, List.map_append]
      rfl
    · rw [upd_ne e]
      have ne : ¬ p.1 = s := fun z => by
        obtain ⟨i, hi, e1⟩ := List.getElem_of_mem hp
        obtain ⟨j, hj, e2⟩ := List.getElem_of_mem h
        have : i = j := by
          refine (List.getElem_inj (xs := es.map (·.1)) (h₀ := by simpa using hi) (h₁ := by simpa using hj) n1).mp ?_
          simp [e1, e2, z]
        subst this
        rw [e1] at e2
        rw [e2] at e
        exact e rfl
      show _ = some (HO.lst ((if p.1 = s then _ else c p.1).map V.str))
      rw [if_neg ne]
      exact t.dl p hp

end
end Ob

set_option Elab.async false
set_option linter.all false
set_option maxRecDepth 100000
set_option maxHeartbeats 4000000
/-! P2: rival_table. -/
namespace Ob
open PySem L2
open Evl (Ex)
open PySem.W (Datum Tup DatumOrd)
def N_rival_table : List Str := ["panel", "found", "one", "other", "switch"]
def t_rival_table (K : PySem.W.Frag) : TS :=
  (tSeq (tAsg (tDc (iSeq K (tOp (rIxU K) (tVar 0) (tC (.int 0)))) (gName 4) tYes (tVar 4) (tLst tNil) [4]) (gName 1))
    (tSeq (tFor (iSeq K (tOp (rIxU K) (tVar 0) (tC (.int 1)))) (gUnp K 2 (gCons (gName 2) (gCons (gName 3) gNil))) (tSeq (tDrop (tBM K "list" (rAppend) (tOp (rIxU K) (tVar 1) (tVar 2)) (tCons (tVar 3) tNil)))
    (tDrop (tBM K "list" (rAppend) (tOp (rIxU K) (tVar 1) (tVar 3)) (tCons (tVar 2) tNil)))))
    (tRet (tLockE (tDc (iKeys (tVar 1)) (gName 4) tYes (tVar 4) (tCB (rSortU K) (tCons (tOp (rIxU K) (tVar 1) (tVar 4)) tNil)) [4])))))
section
variable {K : PySem.W.Frag}
def rawP (ds : List Pr) (s : Str) : List Str := ds.flatMap fun e => (if e.a = s then [e.b] else []) ++ (if e.b = s then [e.a] else [])
theorem rawP_prs (ex : List (Str × Str)) (s : Str) : rawP (prs ex) s = raw ex s := by
  unfold rawP raw prs
  rw [List.flatMap_map]
theorem rawP_snoc (ds : List Pr) (x : Pr) (s : Str) : rawP (ds ++ [x]) s = rawP ds s ++ ((if x.a = s then [x.b] else []) ++ (if x.b = s then [x.a] else [])) := by
  unfold rawP
  rw [List.flatMap_append]
  simp
theorem rawP_len (ds : List Pr) (s : Str) : (rawP ds s).length ≤ 2 * ds.length := by
  induction ds with
  | nil => exact Nat.zero_le _
  | cons d ds ih =>
    have e : rawP (d :: ds) s = ((if d.a = s then [d.b] else []) ++ (if d.b = s then [d.a] else [])) ++ rawP ds s := rfl
    rw [e, List.length_append, List.length_append, List.length_cons]
    have h1 : (if d.a = s then [d.b] else []).length ≤ 1 := by split <;> simp
    have h2 : (if d.b = s then [d.a] else []).length ≤ 1 := by split <;> simp
    omega
theorem lookup_map {α : Type} (f : Str → α) : ∀ {xs : List Str} {s : Str}, s ∈ xs → (xs.map fun s => (s, f s)).lookup s = some (f s)
  | x :: xs, s, h => by
    rw [List.map_cons]
    by_cases e : s = x
    · subst e
      exact List.lookup_cons_self
    · rw [List.lookup_cons, beq_eq_false_iff_ne.mpr e]
      rcases List.mem_cons.mp h with z | z
      · exact absurd z e
      · exact lookup_map f z
theorem kvOf_len (es : List (Str × Addr)) : (kvOf es).length = es.length := by simp [kvOf]
theorem kvOf_dic {es : List (Str × Addr)} {f : Str → List Str} {B : Hp} (h : ∀ p ∈ es, B p.2 = some (.lst ((f p.1).map V.str))) : DicAt K B (kvOf es) (es.map fun p => (p.1, f p.1)) := by
  induction es with
  | nil => exact .nil
  | cons p es ih =>
    refine .cons ⟨rfl, ?_⟩ (ih fun q hq => h q (List.mem_cons_of_mem _ hq))
    exact at_list.mpr ⟨p.2, _, rfl, Evl.sq_of (h p List.mem_cons_self), strs_atAll _⟩
theorem q_dcRaw {D : Ends} {tz : TS} {σ : L2.St} {B H : Hp} {α : Type} [Rep α] {wi : TI} {g : TG} {tt : TT} {tk tv : TE} {vs : List Nat} {j : Nat} {xs : List α} (h : ItD K wi σ B xs) (e : Ex B H)
    (k : ∀ J B1 H1 G Y, Up B H B1 H1 → Walk J xs.length G Y → (∀ H', Ex B1 H' → G H') →
      (∀ i x Hx H', i < xs.length → Ex B1 Hx → Y i Hx x H' → ∃ d, xs[i]? = some d ∧ ∀ B', Ex B1 B' → Ex B' Hx → ∃ B2, Up B' Hx B2 H' ∧ Rep.at_ K B2 x d) → ∀ Dd, H1 Dd = none →
      ∃ W : Nat → Nat → Hp → Prop, (∃ m, W 0 m (upd H1 Dd (.dK []))) ∧ ∀ i m H, W i m H →
      (J.stop i H ∧ tz D (σ.set j (some (.ref Dd))) H) ∨ (J.go i H ∧ ∃ Nx : Hp → Prop, (∀ H', Nx H' → ∃ m', m' < m ∧ W (i + 1) m' H') ∧ ∀ x H', J.yld i H x H' → g x (wipe σ vs) H' fun σ2 H2 => wipe σ2 vs = wipe σ vs ∧ tt σ2 H2 fun b H3 =>
        if b = true then tk σ2 H3 fun y H4 => tv σ2 H4 fun z H5 => ∃ kvs k, y = kV k ∧ H5 Dd = some (.dK kvs) ∧ kvs.length < sizeLine ∧ Nx (upd H5 Dd (.dK (putK kvs k z))) else Nx H3)) :
    tSeq (tAsg (tDc wi g tt tk tv vs) (gName j)) tz D σ H := h H e _ k
theorem r_rival_table (vs : List V) (H : Hp) (Q : VK) (E : XK) (h : sp_rival_table K vs H Q E) : t_rival_table K (Ends.ret Q) (start N_rival_table vs) H := by
  obtain ⟨p, B, e, ⟨v, _, rfl, h1, rfl⟩, ok, q⟩ := h
  refine q_dcRaw (it_sq (e_sw (e_var rfl h1))) e fun J B1 H1 G Y up W hG hY D hD => ?_
  refine dc_it W (fun i H' => ∃ Bi es, Up B1 H1 Bi H' ∧ es.map (·.1) = p.sw.take i ∧ TabAt es (fun _ => []) D Bi H' ∧ ∀ q ∈ es, H1 q.2 = none)
    ⟨B1, [], (Up.refl up.bh).hold hD, rfl, ⟨upd_same, fun _ h => (by cases h), Evl.fresh_back up.bh hD, fun _ h => (by cases h), List.nodup_nil, fun _ h => (by cases h)⟩, fun _ h => (by cases h)⟩
    (fun i H' _ hp => ?_) (fun i x Hx H' hi hp hy => ?_) (fun H' hp => ?_)
  · obtain ⟨Bi, es, u, _⟩ := hp
    exact hG H' (u.bb.trans u.bh)
  · obtain ⟨Bi, es, u, en, t, hf⟩ := hp
    obtain ⟨d, hd, hB⟩ := hY i x Hx H' hi (u.bb.trans u.bh) hy
    obtain ⟨B2, u2, hx⟩ := hB Bi u.bb u.bh
    have t2 := t.up u2
    refine ⟨rfl, ?_⟩
    refine ⟨x, rfl, Nat.zero_le _, fun l hl => ?_⟩
    have lD : D ≠ l := ne_of_none t2.dD hl
    have hlB : B2 l = none := Evl.fresh_back u2.bh hl
    refine ⟨kvOf es, .inr d, at_str.mp hx, by rw [upd_ne lD]; exact t2.dD, ?_, B2, es ++ [(d, l)], ((u.trans u2).hold hl).mut hD t2.bD, ?_, ⟨?_, fun r hr => ?_, t2.bD, fun r hr => ?_, ?_, fun r hr => ?_⟩, fun r hr => ?_⟩
    · rw [kvOf_len]
      have e1 := congrArg List.length en
      rw [List.length_map] at e1
      have h3 := List.length_take_le i p.sw
      have h4 := ok.n1
      have : (sizeLine : Nat) = 16777216 := sizeLine_eq
      omega
    · rw [List.map_append, en, take_snoc hd]
      rfl
    · rw [upd_same, putK_new]
      · show _ = some (HO.dK (kvOf (es ++ [(d, l)])))
        unfold kvOf
        rw [List.map_append]
        rfl
      · have hn : d ∉ es.map (·.1) := by
          rw [en]
          intro hm
          have nd2 : (p.sw.take (i + 1)).Nodup := ok.nd.sublist (List.take_sublist _ _)
          rw [take_snoc hd, List.nodup_append] at nd2
          exact nd2.2.2 _ hm _ (by simp) rfl
        have : ∀ es : List (Str × Addr), d ∉ es.map (·.1) → valV (kvOf es) (.inr d) = none := by
          intro es
          induction es with
          | nil => intro _; rfl
          | cons r es ih =>
            intro hn
            rw [List.map_cons, List.mem_cons, not_or] at hn
            show valV ((Sum.inr r.1, V.ref r.2) :: kvOf es) _ = _
            rw [valV_neg (fun z => hn.1 (Sum.inr.inj z).symm)]
            exact ih hn.2
        exact this es hn
    · rcases List.mem_append.mp hr with hr | hr
      · rw [upd_ne (t2.ne r hr), upd_ne (ne_of_none (t2.dl r hr) hl)]
        exact t2.dl r hr
      · rw [List.mem_singleton] at hr
        subst hr
        show upd (upd H' l _) D _ l = _
        rw [upd_ne lD.symm, upd_same]
        rfl
    · rcases List.mem_append.mp hr with hr | hr
      · exact t2.bl r hr
      · rw [List.mem_singleton] at hr
        subst hr
        exact hlB
    · rw [List.map_append, List.nodup_append]
      refine ⟨t2.nd, by simp, fun a ha b hb => ?_⟩
      obtain ⟨r, hr, rfl⟩ := List.mem_map.mp ha
      have eb : b = l := by simpa using hb
      rw [eb]
      exact ne_of_none (t2.dl r hr) hl
    · rcases List.mem_append.mp hr with hr | hr
      · exact t2.ne r hr
      · rw [List.mem_singleton] at hr
        subst hr
        exact lD.symm
    · rcases List.mem_append.mp hr with hr | hr
      · exact hf r hr
      · rw [List.mem_singleton] at hr
        subst hr
        exact Evl.fresh_back (u.trans u2).hh hl
  · obtain ⟨Bi, es, u, en, t, hf⟩ := hp
    rw [List.take_length] at en
    have uH := up.trans u
    have n1 : (es.map (·.1)).Nodup := by rw [en]; exact ok.nd
    have hDH : H D = none := Evl.fresh_back up.hh hD
    have hfH : ∀ r ∈ es, H r.2 = none := fun r hr => Evl.fresh_back up.hh (hf r hr)
    refine q_for (it_sq (e_ex (e_var rfl (Rep.mono uH.bb h1)))) uH.bh fun B3 H3 u3 => ⟨fun done σ' B' H' => Up B H B' H' ∧ TabAt es (rawP done) D B' H' ∧ ∃ y2 y3, σ' = [some v, some (.ref D), y2, y3, none],
      ⟨uH.trans u3, t.up u3, none, none, rfl⟩, fun done x rest w σ' B' Hx B2 H' ex b1 bx hP u2 hv => ?_, fun σ' B' H' b1 bx hP => ?_⟩
    · obtain ⟨uB, tB, y2, y3, rfl⟩ := hP
      have t2 := tB.up u2
      have hx : x ∈ prs p.ex := by rw [ex]; simp
      have hxx : x.a ∈ p.sw ∧ x.b ∈ p.sw := by
        obtain ⟨z, hz, rfl⟩ := List.mem_map.mp hx
        exact ok.ex z hz
      have ha : ∃ a, (x.a, a) ∈ es := by
        rw [← en] at hxx
        obtain ⟨z, hz, e1⟩ := List.mem_map.mp hxx.1
        exact ⟨z.2, by rw [← e1]; exact hz⟩
      have hb : ∃ a, (x.b, a) ∈ es := by
        rw [← en] at hxx
        obtain ⟨z, hz, e1⟩ := List.mem_map.mp hxx.2
        exact ⟨z.2, by rw [← e1]; exact hz⟩
      obtain ⟨la, ha⟩ := ha
      obtain ⟨lb, hb⟩ := hb
      have hdl : done.length ≤ p.ex.length := by
        have e1 := congrArg List.length ex
        rw [List.length_append, List.length_cons] at e1
        have e2 : (prs p.ex).length = p.ex.length := by simp [prs]
        omega
      have hsz : ∀ s, (rawP done s).length ≤ 200000 := fun s => by
        have := rawP_len done s
        have := ok.n2
        omega
      refine unp_pr hv u2.bh ?_
      refine qapp_do (x := x.b) (t2.dl _ ha) u2.bh (fun H4 Q4 e4 q4 => ?_) (e_var rfl (at_str.mpr rfl)) (by rw [List.length_map]; exact Nat.le_trans (hsz x.a) (by decide)) fun v5 B5 H5 u5 hv5 => ?_
      · exact ⟨_, rfl, _, rfl, .inr (.inr (.inr ⟨D, .ref la, rfl, .inl ⟨kvOf es, .inr x.a, .inl (e4 _ _ t2.dD), rfl, (valV_kvOf n1 ha).symm⟩, q4⟩))⟩
      · cases at_str.mp hv5
        have t5 := t2.up u5
        have t6 := t5.app ha n1 x.b
        have w6 := ((uB.trans u2).trans u5).mut (o := .lst ((rawP done x.a).map V.str ++ [.str x.b])) (hfH _ ha) (t5.bl _ ha)
        refine app_do (x := x.a) (t6.dl _ hb) w6.bh (fun H4 Q4 e4 q4 => ?_) (e_var (i := 2) rfl (at_str.mpr rfl)) ?_ fun v7 B7 H7 u7 hv7 => ?_
        · exact ⟨_, rfl, _, rfl, .inr (.inr (.inr ⟨D, .ref lb, rfl, .inl ⟨kvOf es, .inr x.b, .inl (e4 _ _ t6.dD), rfl, (valV_kvOf n1 hb).symm⟩, q4⟩))⟩
        · rw [List.length_map]
          have h1 := hsz x.b
          show (if x.b = x.a then rawP done x.b ++ [x.b] else rawP done x.b).length ≤ _
          split
          · rw [List.length_append, List.length_singleton]
            omega
          · omega
        · cases at_str.mp hv7
          have t7 := (t6.up u7).app hb n1 x.a
          have w7 := (w6.trans u7).mut (o := .lst (((if x.b = x.a then rawP done x.b ++ [x.b] else rawP done x.b)).map V.str ++ [.str x.a])) (hfH _ hb) ((t6.up u7).bl _ hb)
          refine ⟨B7, ((b1.trans u2.bb).trans u5.bb).trans u7.bb, w7.bh, w7, ?_, _, _, rfl⟩
          have ec : (fun y => if y = x.b then (if y = x.a then rawP done y ++ [x.b] else rawP done y) ++ [x.a] else (if y = x.a then rawP done y ++ [x.b] else rawP done y)) = rawP (done ++ [x]) := by
            funext y
            rw [rawP_snoc]
            by_cases e1 : y = x.a
            · by_cases e2 : y = x.b
              · rw [if_pos e2, if_pos e1, if_pos e1.symm, if_pos e2.symm]
                simp
              · rw [if_neg e2, if_pos e1, if_pos e1.symm, if_neg (fun z => e2 z.symm)]
                simp
            · by_cases e2 : y = x.b
              · rw [if_pos e2, if_neg e1, if_neg (fun z => e1 z.symm), if_pos e2.symm]
                simp
              · rw [if_neg e2, if_neg e1, if_neg (fun z => e1 z.symm), if_neg (fun z => e2 z.symm)]
                simp
          rw [← ec]
          exact t7
    · obtain ⟨uB, tB, y2, y3, rfl⟩ := hP
      obtain ⟨B4, u4, e4, k4⟩ := uB.freezes (es := (D, HO.dK (kvOf es)) :: es.map fun r => (r.2, HO.lst ((rawP (prs p.ex) r.1).map V.str))) fun r hr => by
        rcases List.mem_cons.mp hr with rfl | hr
        · exact ⟨tB.dD, hDH⟩
        · obtain ⟨z, hz, rfl⟩ := List.mem_map.mp hr
          exact ⟨tB.dl z hz, hfH z hz⟩
      have hB4 : B4 D = some (.dK (kvOf es)) := k4 _ List.mem_cons_self
      have hl4 : ∀ r ∈ es, B4 r.2 = some (.lst ((rawP (prs p.ex) r.1).map V.str)) := fun r hr => k4 (r.2, _) (List.mem_cons_of_mem _ (List.mem_map.mpr ⟨r, hr, rfl⟩))
      have ek : (kvOf es).map (·.1) = p.sw.map Sum.inr := by
        rw [← en]
        unfold kvOf
        rw [List.map_map, List.map_map]
        rfl
      refine lock_do (x := tab p) hB4 u4.bh (fun od => ?_) fun v B5 H5 u5 hv => q v B5 H5 (u4.trans u5) hv
      have hdic : Rep.at_ K (upd B4 D (.frz od (.dK (kvOf es)))) (.ref D) (Dic.mk (es.map fun r => (r.1, rawP (prs p.ex) r.1))) := by
        refine ⟨D, kvOf es, rfl, .inr ⟨od, upd_same⟩, ?_, kvOf_dic fun r hr => ?_⟩
        · rw [kvOf_len]
          have e1 := congrArg List.length en
          rw [List.length_map] at e1
          have := ok.n1
          omega
        · rw [upd_ne (tB.ne r hr)]
          exact hl4 r hr
      have e6 : (Dic.mk (es.map fun r => (r.1, rawP (prs p.ex) r.1)) : Dic (List Str)) = Dic.mk (p.sw.map fun s => (s, raw p.ex s)) := by
        rw [← en, List.map_map]
        congr 1
        refine List.map_congr_left fun r _ => ?_
        show (r.1, rawP (prs p.ex) r.1) = (r.1, raw p.ex r.1)
        rw [rawP_prs]
      rw [e6] at hdic
      refine e_dc (fun s : Str => s) (fun s => rvs p s) (it_keys rfl upd_same ek) (by rw [List.map_id']; exact ok.nd) (by have := ok.n1; omega) fun s hs w B6 b6 hw => turnK_name rfl rfl (e_var rfl hw) ?_
      exact e_sortSq ((e_ixD (e_var rfl (Rep.mono b6 hdic)) (e_var rfl hw) (lookup_map (fun s => raw p.ex s) hs)).imp sq_list) (sortable_str _)
end
end Ob

set_option Elab.async false
set_option linter.all false
set_option maxRecDepth 100000
set_option maxHeartbeats 4000000
/-! M1: texts are ordered; sorted lists; filters by what follows. Plain Lean. -/
namespace Ob
open PySem L2
open PySem.W (Datum Tup DatumOrd)

/-! ### the order of texts -/
theorem str_ext {x y : Str} (h : x.cps.toList = y.cps.toList) : x = y := by
  cases x
  cases y
  simp at h
  rw [h]
theorem ltS_irr (x : Str) : ltS x x = false := decide_eq_false (List.lt_irrefl _)
theorem ltS_tr {x y z : Str} (h : ltS x y = true) (k : ltS y z = true) : ltS x z = true := decide_eq_true (List.lt_trans (of_decide_eq_true h) (of_decide_eq_true k))
theorem ltS_tri (x y : Str) : ltS x y = true ∨ x = y ∨ ltS y x = true := by
  by_cases h : x.cps.toList < y.cps.toList
  · exact .inl (decide_eq_true h)
  · by_cases k : y.cps.toList < x.cps.toList
    · exact .inr (.inr (decide_eq_true k))
    · exact .inr (.inl (str_ext (List.le_antisymm (List.not_lt.mp k) (List.not_lt.mp h))))
theorem ltS_asy {x y : Str} (h : ltS x y = true) : ltS y x = false := by
  cases k : ltS y x with
  | false => rfl
  | true =>
    have := ltS_tr h k
    rw [ltS_irr] at this
    cases this
theorem ord_ltS (x y : Str) : DatumOrd.lt x y = ltS x y := rfl
/-- x is not behind y -/
def leS (x y : Str) : Bool := !ltS y x
theorem leS_total (x y : Str) : (leS x y || leS y x) = true := by
  unfold leS
  rcases ltS_tri x y with h | h | h
  · rw [ltS_asy h]; rfl
  · rw [h, ltS_irr]; rfl
  · rw [ltS_asy h]; simp
theorem leS_trans (x y z : Str) (h : leS x y = true) (k : leS y z = true) : leS x z = true := by
  unfold leS at *
  simp only [Bool.not_eq_true'] at *
  rcases ltS_tri z x with a | a | a
  · rcases ltS_tri y z with b | b | b
    · rw [ltS_tr b a] at h; cases h
    · rw [b] at h; rw [h] at a; cases a
    · rw [b] at k; cases k
  · rw [a]; exact ltS_irr _
  · exact ltS_asy a
theorem leS_anti {x y : Str} (h : leS x y = true) (k : leS y x = true) : x = y := by
  unfold leS at *
  simp only [Bool.not_eq_true'] at *
  rcases ltS_tri x y with a | a | a
  · rw [a] at k; cases k
  · exact a
  · rw [a] at h; cases h
theorem sortD_eq (xs : List Str) : sortD xs = xs.mergeSort leS := rfl
theorem sortD_perm {α : Type} [DecidableEq α] [DatumOrd α] (xs : List α) : (sortD xs).Perm xs := List.mergeSort_perm xs _
theorem sortD_len {α : Type} [DecidableEq α] [DatumOrd α] (xs : List α) : (sortD xs).length = xs.length := (sortD_perm xs).length_eq
theorem mem_sortD {α : Type} [DecidableEq α] [DatumOrd α] {xs : List α} {x : α} : x ∈ sortD xs ↔ x ∈ xs := (sortD_perm xs).mem_iff
theorem sortD_sorted (xs : List Str) : (sortD xs).Pairwise fun x y => leS x y = true := List.pairwise_mergeSort leS_trans leS_total xs
theorem sorted_uniq : ∀ {xs ys : List Str}, xs.Perm ys → xs.Pairwise (fun x y => leS x y = true) → ys.Pairwise (fun x y => leS x y = true) → xs = ys := fun h a b =>
  h.eq_of_pairwise (fun x y _ _ h k => leS_anti h k) a b
/-- strictly ascending -/
def Asc (xs : List Str) : Prop := xs.Pairwise fun x y => ltS x y = true
theorem asc_nodup {xs : List Str} (h : Asc xs) : xs.Nodup := h.imp fun {a b} hab e => by
  rw [e, ltS_irr] at hab
  cases hab
theorem asc_le {xs : List Str} (h : Asc xs) : xs.Pairwise fun x y => leS x y = true := h.imp fun {a b} hab => by
  unfold leS
  rw [ltS_asy hab]
  rfl
theorem sortD_asc {xs : List Str} (h : xs.Nodup) : Asc (sortD xs) := by
  have h1 := sortD_sorted xs
  have h2 : (sortD xs).Nodup := (sortD_perm xs).nodup_iff.mpr h
  refine (h1.and h2).imp fun {a b} hab => ?_
  obtain ⟨hle, hne⟩ := hab
  rcases ltS_tri a b with z | z | z
  · exact z
  · exact absurd z hne
  · unfold leS at hle
    rw [z] at hle
    cases hle
theorem asc_sortD {xs : List Str} (h : Asc xs) : sortD xs = xs := sorted_uniq (sortD_perm xs) (sortD_sorted xs) (asc_le h)
theorem perm_sortD {xs ys : List Str} (h : xs.Perm ys) : sortD xs = sortD ys := sorted_uniq ((sortD_perm xs).trans (h.trans (sortD_perm ys).symm)) (sortD_sorted xs) (sortD_sorted ys)
/-- two ascending lists of the same members are one -/
theorem asc_ext {xs ys : List Str} (hx : Asc xs) (hy : Asc ys) (h : ∀ z, z ∈ xs ↔ z ∈ ys) : xs = ys :=
  sorted_uniq ((List.perm_ext_iff_of_nodup (asc_nodup hx) (asc_nodup hy)).mpr h) (asc_le hx) (asc_le hy)
end Ob

set_option Elab.async false
set_option linter.all false
set_option maxRecDepth 100000
set_option maxHeartbeats 4000000
/-! Ob8: sets as dicts, two fors in one comprehension, isinstance of data, two names set at once. -/
namespace Ob
open PySem L2
open Evl (Ex)
open PySem.W (Datum Tup DatumOrd)
/-! ### keys in the order in which they came -/
def kt (ks : List Str) : List (Key × V) := ks.map fun k => (.inr k, .bl true)
def insK (ks : List Str) (x : Str) : List Str := if x ∈ ks then ks else ks ++ [x]
def insAll (ks xs : List Str) : List Str := xs.foldl insK ks
theorem kt_len (ks : List Str) : (kt ks).length = ks.length := by simp [kt]
theorem kt_keys (ks : List Str) : (kt ks).map (·.1) = ks.map Sum.inr := by simp [kt]
theorem putK_kt (ks : List Str) (x : Str) : putK (kt ks) (.inr x) (.bl true) = kt (insK ks x) := by
  unfold putK insK
  have e : ((kt ks).any fun kv => decide (kv.1 = .inr x)) = decide (x ∈ ks) := by
    unfold kt
    rw [List.any_map]
    induction ks with
    | nil => rfl
    | cons k ks ih =>
      rw [List.any_cons, ih]
      by_cases h : k = x
      · simp [h]
      · have h' : ¬ x = k := fun z => h z.symm
        simp [h, h']
  rw [e]
  by_cases h : x ∈ ks
  · rw [if_pos (decide_eq_true h), if_pos h]
    unfold kt
    rw [List.map_map]
    refine List.map_congr_left fun k _ => ?_
    show (if _ then _ else _) = _
    split <;> rfl
  · rw [if_neg (by rw [decide_eq_false h]; decide), if_neg h]
    unfold kt
    rw [List.map_append]
    rfl
theorem mergeK_kt (ks xs : List Str) : mergeK (kt ks) (kt xs) = kt (insAll ks xs) := by
  unfold mergeK insAll
  induction xs generalizing ks with
  | nil => rfl
  | cons x xs ih =>
    show List.foldl _ (putK (kt ks) (.inr x) (.bl true)) (kt xs) = _
    rw [putK_kt]
    exact ih _
theorem mem_insK {ks : List Str} {x z : Str} : z ∈ insK ks x ↔ z ∈ ks ∨ z = x := by
  unfold insK
  by_cases h : x ∈ ks
  · rw [if_pos h]
    exact ⟨.inl, fun w => w.elim id fun e => e ▸ h⟩
  · rw [if_neg h]
    simp
theorem mem_insAll {xs ks : List Str} {z : Str} : z ∈ insAll ks xs ↔ z ∈ ks ∨ z ∈ xs := by
  unfold insAll
  induction xs generalizing ks with
  | nil => simp
  | cons x xs ih =>
    rw [List.foldl_cons, ih, mem_insK, List.mem_cons, or_assoc]
theorem insK_nd {ks : List Str} {x : Str} (h : ks.Nodup) : (insK ks x).Nodup := by
  unfold insK
  by_cases e : x ∈ ks
  · rw [if_pos e]; exact h
  · rw [if_neg e, List.nodup_append]
    refine ⟨h, by simp, fun a ha b hb => ?_⟩
    have : b = x := by simpa using hb
    rw [this]
    exact fun z => e (z ▸ ha)
theorem insAll_nd {xs ks : List Str} (h : ks.Nodup) : (insAll ks xs).Nodup := by
  unfold insAll
  induction xs generalizing ks with
  | nil => exact h
  | cons x xs ih => exact ih (insK_nd h)
theorem insAll_snoc (ks xs : List Str) (x : Str) : insAll ks (xs ++ [x]) = insK (insAll ks xs) x := by simp [insAll]
theorem insK_len (ks : List Str) (x : Str) : (insK ks x).length ≤ ks.length + 1 := by
  unfold insK
  split
  · omega
  · simp
theorem insAll_len (xs ks : List Str) : (insAll ks xs).length ≤ ks.length + xs.length := by
  unfold insAll
  induction xs generalizing ks with
  | nil => simp
  | cons x xs ih =>
    have h1 := ih (insK ks x)
    have h2 := insK_len ks x
    rw [List.foldl_cons, List.length_cons]
    omega

section
variable {K : PySem.W.Frag} {H B B' : Hp} {v : V} {σ : L2.St} {te ta tb tc tk tv : TE} {tt tt1 tu : TT}
/-! ### what grows at D -/
structure Gw {β : Type} [Rep β] (K : PySem.W.Frag) (B1 H1 : Hp) (D : Addr) (Bi H' : Hp) (ws : List V) (out : List β) : Prop where
  nw : ∀ a, Bi a ≠ none → B1 a ≠ none ∨ H1 a = none
  bD : Bi D = none
  bh : Ex Bi H'
  hh : Ex H1 H'
  eD : H' D = some (.lst ws)
  al : AtAll K Bi ws out
theorem Gw.up {β : Type} [Rep β] {B1 H1 : Hp} {D : Addr} {Bi H' B2 H2 : Hp} {ws : List V} {out : List β} (g : Gw K B1 H1 D Bi H' ws out) (u : Up Bi H' B2 H2) : Gw K B1 H1 D B2 H2 ws out :=
  ⟨fun a ha => (u.nw a ha).elim (g.nw a) fun z => .inr (Evl.fresh_back g.hh z), (u.out g.bD g.eD).1, u.bh, g.hh.trans u.hh, (u.out g.bD g.eD).2, g.al.mono u.bb⟩
theorem Gw.push {β : Type} [Rep β] {B1 H1 : Hp} {D : Addr} {Bi H' : Hp} {ws : List V} {out : List β} {w : V} {y : β} (g : Gw K B1 H1 D Bi H' ws out) (hD : H1 D = none) (h : Rep.at_ K Bi w y) : Gw K B1 H1 D Bi (upd H' D (.lst (ws ++ [w]))) (ws ++ [w]) (out ++ [y]) :=
  ⟨g.nw, g.bD, ex_upd g.bh g.bD, Ex.mut g.hh hD, upd_same, AtAll.snoc g.al h⟩
theorem Pt.stay {b : Bool} {Q : Bool → Hp → Prop} (h : Pt tt σ B b) (e : Ex B H) (q : ∀ H2, Up B H B H2 → Q b H2) : tt σ H Q := h H e Q fun B2 H2 u => q H2 ⟨Ex.refl _, u.bb.trans u.bh, u.hh, fun _ h => .inl h⟩
theorem walk_w {J : It} {n : Nat} {G : Hp → Prop} {Y : Nat → Hp → V → Hp → Prop} (w : Walk J n G Y) {F : (Hp → Prop) → V → Hp → Prop} {H0 : Hp} {Qd : Hp → Prop} (Pv : Nat → Hp → Prop) (h0 : Pv 0 H0) (hG : ∀ i H, i ≤ n → Pv i H → G H)
    (hs : ∀ i x H H', i < n → Pv i H → Y i H x H' → F (Pv (i + 1)) x H') (hd : ∀ H, Pv n H → Qd H) :
    ∃ W : Nat → Nat → Hp → Prop, (∃ m, W 0 m H0) ∧ ∀ i m H, W i m H →
      (J.stop i H ∧ Qd H) ∨ (J.go i H ∧ ∃ Nx : Hp → Prop, (∀ H', Nx H' → ∃ m', m' < m ∧ W (i + 1) m' H') ∧ ∀ x H', J.yld i H x H' → F Nx x H') := by
  refine ⟨fun i m H => m = n - i ∧ i ≤ n ∧ Pv i H, ⟨n, by simp, Nat.zero_le _, h0⟩, ?_⟩
  rintro i m H ⟨rfl, hi, p⟩
  have q := hG i H hi p
  by_cases hlt : i < n
  · exact .inr ⟨w.goes i H hlt q, Pv (i + 1), fun H' p' => ⟨n - (i + 1), by omega, rfl, hlt, p'⟩, fun x H' y => hs i x H H' hlt p (w.yields i H x H' hlt q y)⟩
  · have e : i = n := by omega
    subst e
    exact .inl ⟨w.stops H q, hd H p⟩
theorem flatMap_take_len {γ δ : Type} (ys : γ → List δ) : ∀ (xs : List γ) (i : Nat), ((xs.take i).flatMap ys).length ≤ (xs.flatMap ys).length
  | [], i => by rw [List.take_nil]; exact Nat.le_refl _
  | x :: xs, 0 => Nat.zero_le _
  | x :: xs, i + 1 => by
    rw [List.take_succ_cons, List.flatMap_cons, List.flatMap_cons, List.length_append, List.length_append]
    have := flatMap_take_len ys xs i
    omega
theorem flatMap_filt_len {γ δ β : Type} (f : γ → Bool) (ys : γ → List δ) (f1 : γ → δ → Bool) (z : γ → δ → β) : ∀ xs : List γ, ((xs.filter f).flatMap fun x => ((ys x).filter (f1 x)).map (z x)).length ≤ (xs.flatMap ys).length
  | [] => Nat.le_refl _
  | x :: xs => by
    have ih := flatMap_filt_len f ys f1 z xs
    have h2 := List.length_filter_le (f1 x) (ys x)
    rw [List.filter_cons]
    split
    · rw [List.flatMap_cons, List.flatMap_cons, List.length_append, List.length_append, List.length_map]
      omega
    · rw [List.flatMap_cons, List.length_append]
      omega
/-- [z x y for x in xs if f x for y in ys x if f1 x y] -/
theorem e_lc2 {γ δ β : Type} [Rep γ] [Rep δ] [DecidableEq β] [Datum β] {wi wi1 : TI} {g g1 : TG} {vs vs1 : List Nat} {xs : List γ} (f : γ → Bool) (ys : γ → List δ) (f1 : γ → δ → Bool) (z : γ → δ → β) (h : ItD K wi σ B xs) (hz : (xs.flatMap ys).length ≤ 1000000)
    (ht : ∀ x ∈ xs, ∀ v B1, Ex B B1 → Rep.at_ K B1 v x → ∃ σ2, (∀ H (Q : L2.St → Hp → Prop), Ex B1 H → Q σ2 H → g v (wipe σ vs) H Q) ∧ wipe σ2 vs = wipe σ vs ∧ Pt tt σ2 B1 (f x) ∧
      (f x = true → ItD K wi1 σ2 B1 (ys x) ∧ ∀ y ∈ ys x, ∀ w B2, Ex B1 B2 → Rep.at_ K B2 w y → TurnD K g1 tt1 te vs1 σ2 B2 w (f1 x y) (z x y))) :
    Pe K (tLc2 wi g tt wi1 g1 tt1 te vs vs1) σ B ((xs.filter f).flatMap fun x => ((ys x).filter (f1 x)).map (z x)) := fun H e Q q =>
  h H e _ fun J B1 H1 G Y up W hG hY D hD => by
    have hDH : H D = none := Evl.fresh_back up.hh hD
    have hDB : B1 D = none := Evl.fresh_back up.bh hD
    have hsz : (sizeLine : Nat) = 16777216 := sizeLine_eq
    refine walk_w W (fun i H' => ∃ Bi ws, Ex B1 Bi ∧ Gw K B1 H1 D Bi H' ws (((xs.take i).filter f).flatMap fun x => ((ys x).filter (f1 x)).map (z x)))
      ⟨B1, [], Ex.refl _, fun _ h => .inl h, hDB, ex_upd up.bh hDB, Ex.new hD, upd_same, .nil⟩ (fun i H' _ p => ?_) (fun i x Hx H' hi p hy => ?_) (fun H' p => ?_)
    · obtain ⟨Bi, ws, b1, gw⟩ := p
      exact hG H' (b1.trans gw.bh)
    · obtain ⟨Bi, ws, b1, gw⟩ := p
      obtain ⟨d, hd, hB⟩ := hY i x Hx H' hi (b1.trans gw.bh) hy
      obtain ⟨B2, u2, hx⟩ := hB Bi b1 gw.bh
      have gw2 := gw.up u2
      obtain ⟨σ2, hg, hw, htt, hin⟩ := ht d (mem_of_get hd) x B2 ((up.bb.trans b1).trans u2.bb) hx
      refine hg H' _ u2.bh ⟨hw, htt.stay u2.bh fun H3 u3 => ?_⟩
      have gw3 := gw2.up u3
      cases hf : f d with
      | false =>
        refine ⟨B2, ws, b1.trans u2.bb, ?_⟩
        rw [take_snoc hd, List.filter_append, List.flatMap_append, List.filter_cons, if_neg (by rw [hf]; decide)]
        show Gw K B1 H1 D B2 H3 ws (_ ++ [])
        rw [List.append_nil]
        exact gw3
      | true =>
        obtain ⟨hI, hT⟩ := hin hf
        show wi1 σ2 H3 _
        refine hI H3 gw3.bh _ fun J1 B4 H4 G1 Y1 up1 W1 hG1 hY1 => ?_
        have gw4 := gw3.up up1
        refine walk_w W1 (fun j H' => ∃ Bj wj, Ex B4 Bj ∧ Gw K B1 H1 D Bj H' wj ((((xs.take i).filter f).flatMap fun x => ((ys x).filter (f1 x)).map (z x)) ++ (((ys d).take j).filter (f1 d)).map (z d))) ⟨B4, ws, Ex.refl _, ?_⟩ (fun j H' _ p => ?_) (fun j y Hy Hy' hj p hyy => ?_) (fun H' p => ?_)
        · rw [List.take_zero]
          show Gw K B1 H1 D B4 H4 ws (_ ++ [])
          rw [List.append_nil]
          exact gw4
        · obtain ⟨Bj, wj, bj, gj⟩ := p
          exact hG1 H' (bj.trans gj.bh)
        · obtain ⟨Bj, wj, bj, gj⟩ := p
          obtain ⟨c, hc, hB5⟩ := hY1 j y Hy Hy' hj (bj.trans gj.bh) hyy
          obtain ⟨B5, u5, hc5⟩ := hB5 Bj bj gj.bh
          have gw5 := gj.up u5
          obtain ⟨σ3, hg3, hw3, htt3, hte3⟩ := hT c (mem_of_get hc) y B5 ((up1.bb.trans bj).trans u5.bb) hc5
          refine hg3 Hy' _ u5.bh ⟨hw3, htt3.stay u5.bh fun H6 u6 => ?_⟩
          have gw6 := gw5.up u6
          cases hf1 : f1 d c with
          | false =>
            refine ⟨B5, wj, bj.trans u5.bb, ?_⟩
            rw [take_snoc hc, List.filter_append, List.map_append, List.filter_cons, if_neg (by rw [hf1]; decide)]
            show Gw K B1 H1 D B5 H6 wj (_ ++ (_ ++ []))
            rw [List.append_nil]
            exact gw6
          | true =>
            rw [hf1] at hte3
            refine (hte3 rfl) H6 gw6.bh _ fun w B7 H7 u7 hw7 => ⟨wj, (gw6.up u7).eD, ?_, B7, wj ++ [w], (bj.trans u5.bb).trans u7.bb, ?_⟩
            · have h1 := gj.al.length
              rw [List.length_append] at h1
              have h2 := flatMap_filt_len f ys f1 z (xs.take i)
              have h3 := flatMap_take_len ys xs i
              have h4 := flatMap_take_len ys xs (i + 1)
              rw [take_snoc hd, List.flatMap_append, List.length_append] at h4
              have h5 : (([d] : List γ).flatMap ys).length = (ys d).length := by simp
              have h6 := List.length_filter_le (f1 d) ((ys d).take j)
              have h7 := List.length_take_le j (ys d)
              rw [List.length_map] at h1
              omega
            · rw [take_snoc hc, List.filter_append, List.map_append, List.filter_cons, if_pos hf1, ← List.append_assoc]
              exact (gw6.up u7).push hD hw7
        · obtain ⟨Bj, wj, bj, gj⟩ := p
          refine ⟨Bj, wj, ((b1.trans u2.bb).trans up1.bb).trans bj, ?_⟩
          rw [List.take_length] at gj
          rw [take_snoc hd, List.filter_append, List.flatMap_append, List.filter_cons, if_pos hf]
          show Gw K B1 H1 D Bj H' wj (_ ++ (_ ++ []))
          rw [List.append_nil]
          exact gj
    · obtain ⟨Bi, ws, b1, gw⟩ := p
      have hA := gw.al
      rw [List.take_length] at hA
      refine q (.ref D) (upd Bi D (.lst ws)) H' ⟨(up.bb.trans b1).trans (Ex.new gw.bD), ex_in gw.bh gw.eD, up.hh.trans gw.hh, fun a ha => ?_⟩ (at_list.mpr ⟨D, ws, rfl, Evl.sq_of upd_same, hA.mono (Ex.new gw.bD)⟩)
      by_cases hDa : a = D
      · exact .inr (hDa ▸ hDH)
      · rw [upd_ne hDa] at ha
        rcases gw.nw a ha with z | z
        · exact up.nw a z
        · exact .inr (Evl.fresh_back up.hh z)
end
end Ob

set_option Elab.async false
set_option linter.all false
set_option maxRecDepth 100000
set_option maxHeartbeats 4000000
/-! M2: more on sorted texts; filters by what follows; sorting a dict; names set in pairs. -/
namespace Ob
open PySem L2
open Evl (Ex)
open PySem.W (Datum Tup DatumOrd)
theorem ltCps_ltS (x y : Str) : PySem.Spec.ltCps x.cps.toList y.cps.toList = ltS x y := PyProof.Rows.ltCps_eq _ _
theorem risingS_chain : ∀ {p : Str} {l : List Str}, PyProof.Rows.risingS p l = true → (p :: l).Pairwise fun x y => leS x y = true
  | p, [], _ => by simp
  | p, x :: r, h => by
    have h' : (!PySem.Spec.ltCps x.cps.toList p.cps.toList && PyProof.Rows.risingS x r) = true := h
    rw [Bool.and_eq_true, ltCps_ltS] at h'
    have ih := risingS_chain h'.2
    have hpx : leS p x = true := h'.1
    refine List.pairwise_cons.mpr ⟨fun z hz => ?_, ih⟩
    rcases List.mem_cons.mp hz with rfl | hz
    · exact hpx
    · exact leS_trans _ _ _ hpx ((List.pairwise_cons.mp ih).1 z hz)
theorem sortedS_pw {l : List Str} (h : PyProof.Rows.sortedS l = true) : l.Pairwise fun x y => leS x y = true := by
  cases l with
  | nil => exact .nil
  | cons x r => exact risingS_chain h
theorem sortedS_is {ys ks : List Str} (p : ys.Perm ks) (h : PyProof.Rows.sortedS ys = true) : ys = sortD ks :=
  sorted_uniq (p.trans (sortD_perm ks).symm) (sortedS_pw h) (sortD_sorted ks)
/-- those that P keeps, by what follows them -/
def filtT {α : Type} (P : α → List α → Bool) : List α → List α
  | [] => []
  | x :: xs => if P x xs = true then x :: filtT P xs else filtT P xs
theorem filtT_sub {α : Type} (P : α → List α → Bool) : ∀ xs : List α, (filtT P xs).Sublist xs
  | [] => List.Sublist.slnil
  | x :: xs => by
    unfold filtT
    split
    · exact (filtT_sub P xs).cons_cons x
    · exact (filtT_sub P xs).cons x
theorem enum_filtT {α : Type} [DecidableEq α] [Datum α] (P : α → List α → Bool) (xs : List α) (f : Int × α → Bool) (hf : ∀ (i : Nat) x, xs[i]? = some x → f ((i : Int), x) = P x (xs.drop (i + 1))) :
    ((enumI xs).filter f).map (·.2) = filtT P xs := by
  unfold enumI
  have key : ∀ (ys : List α) (k : Nat), xs.drop k = ys → (((ys.zipIdx k).map fun p => ((p.2 : Int), p.1)).filter f).map (·.2) = filtT P ys := by
    intro ys
    induction ys with
    | nil => intro k _; rfl
    | cons y ys ih =>
      intro k hk
      have hy : xs[k]? = some y := by
        have : (xs.drop k)[0]? = some y := by rw [hk]; rfl
        simpa using this
      have hk1 : xs.drop (k + 1) = ys := by
        rw [← List.drop_drop, hk]
        rfl
      rw [List.zipIdx_cons, List.map_cons, List.filter_cons, hf k y hy, hk1]
      unfold filtT
      split
      · rw [List.map_cons, ih (k + 1) hk1]
      · exact ih (k + 1) hk1
  exact key xs 0 rfl
section
variable {K : PySem.W.Frag} {H B B' : Hp} {v : V} {σ : L2.St} {te ta tb tc tk tv : TE} {tt tt1 tu : TT}
/-! ### sorted(dict) -/
theorem sort_keys {i : Nat} {d : Addr} {ks : List Str} {Q : VK} (hi : σ[i]? = some (some (.ref d))) (hd : H d = some (.dK (kt ks))) (hz : ks.length < 64) (k : ∀ l, H l = none → Q (.ref l) (upd H l (.lst ((sortD ks).map V.str)))) : tCB (rSortU K) (tCons (tVar i) tNil) σ H Q :=
  ⟨_, hi, .inr ⟨d, kt ks, ks, rfl, .inl hd, kt_keys ks, hz, fun ys p hp hs hn => by
    rw [sortedS_is hp hs]
    exact k p hn⟩⟩
/-! ### {x: True for x in xs} -/
theorem dc_true {wi : TI} {vs : List Nat} {j : Nat} {xs : List Str} {Q : VK} (h : ItD K wi σ B xs) (e : Ex B H) (hz : xs.length ≤ 1000000) (hj : ∀ v, ((wipe σ vs).set j (some v))[j]? = some (some v) ∧ wipe ((wipe σ vs).set j (some v)) vs = wipe σ vs)
    (q : ∀ D B1 H1, Up B H B1 H1 → B1 D = none → H D = none → H1 D = some (.dK (kt (insAll [] xs))) → Q (.ref D) H1) : tDc wi (gName j) tYes (tVar j) (tC (.bl true)) vs σ H Q :=
  h H e _ fun J B1 H1 G Y up W hG hY D hD => by
    have hDH : H D = none := Evl.fresh_back up.hh hD
    have hDB : B1 D = none := Evl.fresh_back up.bh hD
    refine walk_w W (fun i H' => ∃ Bi, Up B1 H1 Bi H' ∧ Bi D = none ∧ H' D = some (.dK (kt (insAll [] (xs.take i))))) ⟨B1, (Up.refl up.bh).hold hD, hDB, upd_same⟩ (fun i H' _ p => ?_) (fun i x Hx H' hi p hy => ?_) (fun H' p => ?_)
    · obtain ⟨Bi, u, _⟩ := p
      exact hG H' (u.bb.trans u.bh)
    · obtain ⟨Bi, u, hb, hd⟩ := p
      obtain ⟨d, hd', hB⟩ := hY i x Hx H' hi (u.bb.trans u.bh) hy
      obtain ⟨B2, u2, hx⟩ := hB Bi u.bb u.bh
      cases at_str.mp hx
      obtain ⟨o1, o2⟩ := u2.out hb hd
      refine ⟨(hj _).2, ?_⟩
      refine ⟨.str d, (hj _).1, ⟨kt (insAll [] (xs.take i)), .inr d, rfl, o2, ?_, B2, (u.trans u2).mut hD o1, o1, ?_⟩⟩
      · rw [kt_len]
        have h1 := insAll_len (xs.take i) []
        have h2 := List.length_take_le i xs
        have : (sizeLine : Nat) = 16777216 := sizeLine_eq
        simp at h1
        omega
      · rw [upd_same, putK_kt, take_snoc hd', insAll_snoc]
    · obtain ⟨Bi, u, hb, hd⟩ := p
      rw [List.take_length] at hd
      exact q D Bi H' (up.trans u) hb hDH hd
theorem q_dcTrue {wi : TI} {vs : List Nat} {j i : Nat} {xs : List Str} {D : Ends} {tz : TS} (h : ItD K wi σ B xs) (e : Ex B H) (hz : xs.length ≤ 1000000) (hj : ∀ v, ((wipe σ vs).set j (some v))[j]? = some (some v) ∧ wipe ((wipe σ vs).set j (some v)) vs = wipe σ vs)
    (q : ∀ Dd B1 H1, Up B H B1 H1 → B1 Dd = none → H Dd = none → H1 Dd = some (.dK (kt (insAll [] xs))) → tz D (σ.set i (some (.ref Dd))) H1) : tSeq (tAsg (tDc wi (gName j) tYes (tVar j) (tC (.bl true)) vs) (gName i)) tz D σ H :=
  dc_true (Q := fun x H1 => tz D (σ.set i (some x)) H1) h e hz hj q
theorem p_updTrue {wi : TI} {vs : List Nat} {j i : Nat} {xs ks : List Str} {D : Ends} {d : Addr} (hi : σ[i]? = some (some (.ref d))) (hd : H d = some (.dK (kt ks))) (hb : B d = none) (h : ItD K wi σ B xs) (e : Ex B H) (hz : ks.length + xs.length ≤ 1000000) (hj : ∀ v, ((wipe σ vs).set j (some v))[j]? = some (some v) ∧ wipe ((wipe σ vs).set j (some v)) vs = wipe σ vs)
    (q : ∀ B1 H1, Up B H B1 H1 → B1 d = none → D.nx σ (upd H1 d (.dK (kt (insAll ks (insAll [] xs)))))) : tDrop (tBM K "dict" rUpdU (tVar i) (tCons (tDc wi (gName j) tYes (tVar j) (tC (.bl true)) vs) tNil)) D σ H := by
  refine ⟨_, hi, .inr (.inr (.inl ⟨rfl, .inl ⟨_, hd⟩⟩)), ?_⟩
  refine dc_true h e (by omega) hj fun D2 B1 H1 u hb2 hn h2 => ?_
  obtain ⟨o1, o2⟩ := u.out hb hd
  refine ⟨d, D2, kt ks, kt (insAll [] xs), rfl, rfl, o2, h2, fun z => ?_, ?_, ?_⟩
  · rw [z, hn] at hd
    cases hd
  · rw [kt_len, kt_len]
    have h1 := insAll_len xs []
    have : (sizeLine : Nat) = 16777216 := sizeLine_eq
    simp at h1
    omega
  · rw [mergeK_kt]
    exact q B1 H1 u o1
/-! ### two names at once -/
theorem q_par {α β : Type} [Rep α] [Rep β] {i j : Nat} {x : α} {y : β} {D : Ends} {tz : TS} (ha : Pe K ta σ B x) (hb : Pe K tb σ B y) (e : Ex B H) (k : ∀ v w B1 H1, Up B H B1 H1 → Rep.at_ K B1 v x → Rep.at_ K B1 w y → tz D ((σ.set i (some v)).set j (some w)) H1) :
    tSeq (tPar i j (tCons ta (tCons tb tNil))) tz D σ H := ha.both hb e fun v w B1 H1 u hv hw => ⟨v, w, rfl, k v w B1 H1 u hv hw⟩
/-- the second a new list of one thing, or none -/
theorem q_parL1 {α β : Type} [Rep α] [Rep β] {i j : Nat} {x : α} {y : β} {D : Ends} {tz : TS} (ha : Pe K ta σ B x) (hb : Pe K tb σ B y) (e : Ex B H) (k : ∀ v w l B1 H1, Up B H B1 H1 → Rep.at_ K B1 v x → Rep.at_ K B1 w y → B1 l = none → H l = none → H1 l = some (.lst [w]) → tz D ((σ.set i (some v)).set j (some (.ref l))) H1) :
    tSeq (tPar i j (tCons ta (tCons (tLst (tCons tb tNil)) tNil))) tz D σ H := ha.both hb e fun v w B1 H1 u hv hw => ⟨by show 1 ≤ sizeLine; rw [sizeLine_eq]; decide, fun p hp => ⟨v, .ref p, rfl, k v w p B1 _ (u.hold hp) hv hw (Evl.fresh_back u.bh hp) (Evl.fresh_back u.hh hp) upd_same⟩⟩
theorem q_parL0 {α : Type} [Rep α] {i j : Nat} {x : α} {D : Ends} {tz : TS} (ha : Pe K ta σ B x) (e : Ex B H) (k : ∀ v l B1 H1, Up B H B1 H1 → Rep.at_ K B1 v x → B1 l = none → H l = none → H1 l = some (.lst []) → tz D ((σ.set i (some v)).set j (some (.ref l))) H1) :
    tSeq (tPar i j (tCons ta (tCons (tLst tNil) tNil))) tz D σ H := ha H e _ fun v B1 H1 u hv => ⟨Nat.zero_le _, fun p hp => ⟨v, .ref p, rfl, k v p B1 _ (u.hold hp) hv (Evl.fresh_back u.bh hp) (Evl.fresh_back u.hh hp) upd_same⟩⟩
/-- a new list -/
theorem q_new {i : Nat} {D : Ends} {tz : TS} (e : Ex B H) (k : ∀ l H1, Up B H B H1 → B l = none → H l = none → H1 l = some (.lst []) → tz D (σ.set i (some (.ref l))) H1) : tSeq (tAsg (tLst tNil) (gName i)) tz D σ H :=
  ⟨Nat.zero_le _, fun p hp => k p _ ((Up.refl e).hold hp) (Evl.fresh_back e hp) hp upd_same⟩
/-! ### isinstance of data -/
def tyD : PyData → String
  | .none => "NoneType"
  | .bool _ => "bool"
  | .int _ => "int"
  | .str _ => "str"
  | .list _ => "list"
  | .tuple _ => "tuple"
  | .dict _ => "dict"
theorem dp_ty : ∀ {d : PyData} {v : V}, Dp K H v d → TyX K H v (.type (tyD d))
  | _, _, .non => .base .non
  | _, _, .bl _ => .base (.bl _)
  | _, _, .int _ => .base (.int _)
  | _, _, .str _ => .base (.str _)
  | _, _, .lst h _ => by
    rcases h with (h | ⟨o, h⟩) | ⟨o, its, n, h1, h2, _⟩
    · exact .base (.lst h)
    · exact .base (.frz h)
    · exact .kList h1 h2
  | _, _, .tup h _ => by
    rcases h with (h | ⟨o, h⟩) | ⟨o, its, n, h1, h2, _⟩
    · exact .base (.tup h)
    · exact .fTuple h
    · exact .kTuple h1 h2
theorem e_isi {α : Type} [DecidableEq α] [Datum α] {x : α} {c : String} {b : Bool} (h : Pe K te σ B x) (hk : kitB (tyD (Datum.toD x)) c = some b) : Pe K (tCB (rIsi K) (tCons te (tCons (tC (.ty c)) tNil))) σ B b := fun H e Q q =>
  h H e _ fun v B1 H1 u hv => ⟨v, .ty c, _, _, b, rfl, .ty c, dp_ty (dp_mono u.bh _ _ hv), kit_ty hk, q _ B1 H1 u (at_bl.mpr rfl)⟩
theorem kit_same (a : String) : kitB a a = some true := by
  unfold kitB
  rw [if_pos]
  show (Value.type a == Value.type a) = true
  simp
end
end Ob

set_option Elab.async false
set_option linter.all false
set_option maxRecDepth 100000
set_option maxHeartbeats 4000000
/-! M3: reading a list that still grows: frozen for the reading, thawed behind it. -/
namespace Ob
open PySem L2
open Evl (Ex)
open PySem.W (Datum Tup DatumOrd)
def cutH (B : Hp) (l : Addr) : Hp := fun a => if a = l then none else B a
theorem cutH_ne {B : Hp} {l a : Addr} (h : a ≠ l) : cutH B l a = B a := if_neg h
theorem cutH_same {B : Hp} {l : Addr} : cutH B l l = none := if_pos rfl
theorem up_cut {B H B2 H2 : Hp} {l : Addr} {o : HO} (hb : B l = none) (u : Up (upd B l o) H B2 H2) : Up B H (cutH B2 l) H2 := by
  refine ⟨fun a x h => ?_, fun a x h => ?_, u.hh, fun a h => ?_⟩
  · have ha : a ≠ l := fun z => by rw [z, hb] at h; cases h
    rw [cutH_ne ha]
    exact u.bb a x (by rw [upd_ne ha]; exact h)
  · by_cases ha : a = l
    · rw [ha, cutH_same] at h
      cases h
    · rw [cutH_ne ha] at h
      exact u.bh a x h
  · by_cases ha : a = l
    · rw [ha, cutH_same] at h
      exact absurd rfl h
    · rw [cutH_ne ha] at h
      have := u.nw a h
      rw [upd_ne ha] at this
      exact this
/-- data in which no list lies -/
class Thaw (α : Type) [Rep α] : Prop where
  thaw : ∀ {K : PySem.W.Frag} {B : Hp} {l : Addr} {ws : List V} {v : V} {x : α}, B l = some (.lst ws) → Rep.at_ K B v x → Rep.at_ K (cutH B l) v x
instance : Thaw Int := ⟨fun _ h => at_int.mpr (at_int.mp h)⟩
instance : Thaw Str := ⟨fun _ h => at_str.mpr (at_str.mp h)⟩
instance : Thaw Bool := ⟨fun _ h => at_bl.mpr (at_bl.mp h)⟩
theorem sqT_thaw {K : PySem.W.Frag} {B : Hp} {l : Addr} {ws : List V} {a : Addr} {vs : List V} (hl : B l = some (.lst ws)) (h : SqT K B a vs) : SqT K (cutH B l) a vs := by
  rcases h with (h | ⟨o, h⟩) | h
  · have ha : a ≠ l := fun z => by rw [z, hl] at h; cases h
    exact .inl (.inl (by rw [cutH_ne ha]; exact h))
  · have ha : a ≠ l := fun z => by rw [z, hl] at h; cases h
    exact .inl (.inr ⟨o, by rw [cutH_ne ha]; exact h⟩)
  · exact .inr h
theorem tup_thaw {B : Hp} {l : Addr} {ws : List V} {a : Addr} {vs : List V} (hl : B l = some (.lst ws)) (h : B a = some (.tup vs)) : cutH B l a = some (.tup vs) := by
  have ha : a ≠ l := fun z => by rw [z, hl] at h; cases h
  rw [cutH_ne ha]
  exact h
instance {α : Type} [DecidableEq α] [Datum α] [Thaw α] : Thaw (Tup α) := ⟨fun hl h => by
  obtain ⟨a, vs, e, h1, h2⟩ := at_tup.mp h
  exact at_tup.mpr ⟨a, vs, e, tup_thaw hl h1, Paired.mapP h2 fun _ _ q => Thaw.thaw hl q⟩⟩
instance {α β : Type} [DecidableEq α] [Datum α] [Thaw α] [DecidableEq β] [Datum β] [Thaw β] : Thaw (α × β) := ⟨fun hl h => by
  obtain ⟨a, v1, v2, e, h1, h2, h3⟩ := at_pair.mp h
  exact at_pair.mpr ⟨a, v1, v2, e, tup_thaw hl h1, Thaw.thaw hl h2, Thaw.thaw hl h3⟩⟩
section
variable {K : PySem.W.Frag} {H B B' : Hp} {v : V} {σ : L2.St} {te ta tb tc tk tv : TE} {tt tt1 tu : TT}
theorem Pe.thaw {α : Type} [Rep α] [Thaw α] {x : α} {l : Addr} {ws : List V} (h : Pe K te σ (upd B l (.lst ws)) x) (hb : B l = none) (e : Ex B H) (hl : H l = some (.lst ws)) {Q : VK}
    (q : ∀ v B2 H2, Up B H B2 H2 → B2 l = none → H2 l = some (.lst ws) → Rep.at_ K B2 v x → Q v H2) : te σ H Q :=
  h H (ex_in e hl) Q fun v B2 H2 u hv => q v (cutH B2 l) H2 (up_cut hb u) cutH_same (u.hh l _ hl) (Thaw.thaw (u.bb l _ upd_same) hv)
theorem Pt.thaw {b : Bool} {l : Addr} {o : HO} (h : Pt tt σ (upd B l o) b) (hb : B l = none) (e : Ex B H) (hl : H l = some o) {Q : Bool → Hp → Prop} (q : ∀ H2, Up B H B H2 → H2 l = some o → Q b H2) : tt σ H Q :=
  h H (ex_in e hl) Q fun B2 H2 u => q H2 ⟨Ex.refl _, e.trans u.hh, u.hh, fun _ h => .inl h⟩ (u.hh l _ hl)
theorem app_self {D : Ends} {l : Addr} {vs : List V} {α : Type} [Rep α] [Thaw α] {x : α} {i : Nat} (hi : σ[i]? = some (some (.ref l))) (hl : H l = some (.lst vs)) (hb : B l = none) (e : Ex B H) (h : Pe K te σ (upd B l (.lst vs)) x) (hz : vs.length ≤ 1000000)
    (k : ∀ v B1 H1, Up B H B1 H1 → B1 l = none → Rep.at_ K B1 v x → D.nx σ (upd H1 l (.lst (vs ++ [v])))) : tDrop (tBM K "list" rAppend (tVar i) (tCons te tNil)) D σ H :=
  ⟨_, hi, .inl ⟨rfl, vs, Evl.sq_of hl⟩, h.thaw hb e hl fun v B1 H1 u b1 h1 hv => ⟨l, vs, v, rfl, rfl, h1, Nat.lt_of_le_of_lt hz (by rw [sizeLine_eq]; decide), k v B1 H1 u b1 hv⟩⟩
theorem qapp_self {D : Ends} {tz : TS} {l : Addr} {vs : List V} {α : Type} [Rep α] [Thaw α] {x : α} {i : Nat} (hi : σ[i]? = some (some (.ref l))) (hl : H l = some (.lst vs)) (hb : B l = none) (e : Ex B H) (h : Pe K te σ (upd B l (.lst vs)) x) (hz : vs.length ≤ 1000000)
    (k : ∀ v B1 H1, Up B H B1 H1 → B1 l = none → Rep.at_ K B1 v x → tz D σ (upd H1 l (.lst (vs ++ [v])))) : tSeq (tDrop (tBM K "list" rAppend (tVar i) (tCons te tNil))) tz D σ H := app_self (D := { D with nx := tz D }) hi hl hb e h hz k
theorem p_ift {b : Bool} {D : Ends} {t1 t2 : TS} {l : Addr} {o : HO} (h : Pt tt σ (upd B l o) b) (hb : B l = none) (e : Ex B H) (hl : H l = some o) (h1 : b = true → ∀ H1, Up B H B H1 → H1 l = some o → t1 D σ H1) (h2 : b = false → ∀ H1, Up B H B H1 → H1 l = some o → t2 D σ H1) : tIfS tt t1 t2 D σ H := h.thaw hb e hl fun H1 u hl1 => by
  cases b with
  | true => exact h1 rfl H1 u hl1
  | false => exact h2 rfl H1 u hl1
end
end Ob

set_option Elab.async false
set_option linter.all false
set_option maxRecDepth 100000
set_option maxHeartbeats 4000000
/-! P3: with_press, states_after, run, last_presses, left_on, touched, effect_of, is_state. -/
namespace Ob
open PySem L2
open Evl (Ex)
open PySem.W (Datum Tup DatumOrd)
/-- a small panel -/
structure PanS (p : Pan) : Prop extends PanOk p where
  s1 : p.sw.length < 60
  s2 : p.ex.length ≤ 400
def look (d : Dic (List Str)) (x : Str) : List Str := (d.kvs.lookup x).getD []
theorem look_of {d : Dic (List Str)} {x : Str} (h : (d.kvs.lookup x).isSome = true) : d.kvs.lookup x = some (look d x) := by
  unfold look
  cases e : d.kvs.lookup x with
  | none => rw [e] at h; cases h
  | some y => rfl
theorem tab_some {p : Pan} {x : Str} (h : x ∈ p.sw) : ((tab p).kvs.lookup x).isSome = true := by
  have : (tab p).kvs.lookup x = some (rvs p x) := lookup_map (fun s => rvs p s) h
  rw [this]
  rfl
theorem look_tab {p : Pan} {x : Str} (h : x ∈ p.sw) : look (tab p) x = rvs p x := by
  have : (tab p).kvs.lookup x = some (rvs p x) := lookup_map (fun s => rvs p s) h
  unfold look
  rw [this]
  rfl
theorem mem_raw {ex : List (Str × Str)} {s x : Str} : x ∈ raw ex s ↔ (s, x) ∈ ex ∨ (x, s) ∈ ex := by
  unfold raw
  rw [List.mem_flatMap]
  constructor
  · rintro ⟨⟨a, b⟩, he, h⟩
    rcases List.mem_append.mp h with h | h
    · by_cases e : a = s
      · subst e
        have : x = b := by simpa using h
        exact .inl (this ▸ he)
      · rw [if_neg e] at h; cases h
    · by_cases e : b = s
      · subst e
        have : x = a := by simpa using h
        exact .inr (this ▸ he)
      · rw [if_neg e] at h; cases h
  · rintro (h | h)
    · exact ⟨_, h, by simp⟩
    · exact ⟨_, h, by simp⟩
theorem mem_rvs {p : Pan} {s x : Str} : x ∈ rvs p s ↔ (s, x) ∈ p.ex ∨ (x, s) ∈ p.ex := mem_sortD.trans mem_raw
theorem rvs_sw {p : Pan} (ok : PanOk p) {s x : Str} (h : x ∈ rvs p s) : x ∈ p.sw := by
  rcases mem_rvs.mp h with h | h
  · exact (ok.ex _ h).2
  · exact (ok.ex _ h).1
theorem rvs_len {p : Pan} (s : Str) : (rvs p s).length ≤ 2 * p.ex.length := by
  unfold rvs
  rw [sortD_len, ← rawP_prs]
  have := rawP_len (prs p.ex) s
  have e : (prs p.ex).length = p.ex.length := by simp [prs]
  omega
/-! ### what presses do -/
def wp (rv : Str → List Str) (st : List Str) (x : Str) : List Str := sortD (st.filter (fun o => !decide (o ∈ rv x) && !decide (o = x)) ++ [x])
def runS (rv : Str → List Str) (st hs : List Str) : List Str := hs.foldl (wp rv) st
def sts (rv : Str → List Str) : List Str → List Str → List (List Str)
  | st, [] => [st]
  | st, h :: hs => st :: sts rv (wp rv st h) hs
theorem runS_snoc (rv : Str → List Str) (st hs : List Str) (x : Str) : runS rv st (hs ++ [x]) = wp rv (runS rv st hs) x := by simp [runS]
theorem sts_snoc (rv : Str → List Str) (hs : List Str) (x : Str) : ∀ st, sts rv st (hs ++ [x]) = sts rv st hs ++ [wp rv (runS rv st hs) x] := by
  induction hs with
  | nil => intro st; rfl
  | cons h hs ih =>
    intro st
    show st :: sts rv (wp rv st h) (hs ++ [x]) = _
    rw [ih]
    rfl
theorem sts_len (rv : Str → List Str) (hs : List Str) : ∀ st, (sts rv st hs).length = hs.length + 1 := by
  induction hs with
  | nil => intro st; rfl
  | cons h hs ih =>
    intro st
    show (st :: sts rv (wp rv st h) hs).length = _
    rw [List.length_cons, ih, List.length_cons]
theorem sts_last (rv : Str → List Str) (hs : List Str) : ∀ st, (sts rv st hs)[hs.length]? = some (runS rv st hs) := by
  induction hs with
  | nil => intro st; rfl
  | cons h hs ih =>
    intro st
    show (st :: sts rv (wp rv st h) hs)[hs.length + 1]? = _
    rw [List.getElem?_cons_succ, ih]
    rfl
theorem atI_last {α : Type} {xs : List α} {n : Nat} {x : α} (hn : xs.length = n + 1) (h : xs[n]? = some x) : atI xs (-1) = some x := by
  unfold atI ixN
  rw [if_neg (by decide), hn, if_pos (by omega)]
  show xs[((-1 : Int) + ((n + 1 : Nat) : Int)).toNat]? = some x
  rw [show ((-1 : Int) + ((n + 1 : Nat) : Int)).toNat = n by omega]
  exact h
theorem wp_len (rv : Str → List Str) (st : List Str) (x : Str) : (wp rv st x).length ≤ st.length + 1 := by
  unfold wp
  rw [sortD_len, List.length_append]
  have := List.length_filter_le (fun o => !decide (o ∈ rv x) && !decide (o = x)) st
  simp only [List.length_singleton]
  omega
theorem runS_len (rv : Str → List Str) (hs : List Str) : ∀ st, (runS rv st hs).length ≤ st.length + hs.length := by
  induction hs with
  | nil => intro st; exact Nat.le_refl _
  | cons h hs ih =>
    intro st
    have h1 := ih (wp rv st h)
    have h2 := wp_len rv st h
    show (runS rv (wp rv st h) hs).length ≤ _
    rw [List.length_cons]
    omega
theorem wp_congr {rv rv' : Str → List Str} {st : List Str} {x : Str} (h : rv x = rv' x) : wp rv st x = wp rv' st x := by
  unfold wp
  rw [h]
/-! ### effects -/
def lastP (hs : List Str) : List Str := filtT (fun x r => !decide (x ∈ r)) hs
def leftO (rv : Str → List Str) (os : List Str) : List Str := sortD (filtT (fun x r => !(r.any fun o => decide (o ∈ rv x))) os)
def tchK (rv : Str → List Str) (ss : List Str) : List Str := ss.foldl (fun ks s => insAll ks (insAll [] (rv s))) (insAll [] ss)
def tch (rv : Str → List Str) (ss : List Str) : List Str := sortD (tchK rv ss)
abbrev Eff : Type := Tup Str × Tup Str
def effO (rv : Str → List Str) (hs : List Str) : Eff := (⟨leftO rv (lastP hs)⟩, ⟨(tch rv (lastP hs)).filter fun s => !decide (s ∈ leftO rv (lastP hs))⟩)
theorem lastP_len (hs : List Str) : (lastP hs).length ≤ hs.length := (filtT_sub _ hs).length_le
theorem lastP_mem {hs : List Str} {x : Str} (h : x ∈ lastP hs) : x ∈ hs := (filtT_sub _ hs).subset h
theorem leftO_congr {rv rv' : Str → List Str} {os : List Str} (h : ∀ x ∈ os, rv x = rv' x) : leftO rv os = leftO rv' os := by
  unfold leftO
  congr 1
  induction os with
  | nil => rfl
  | cons x xs ih =>
    show (if (!(xs.any fun o => decide (o ∈ rv x))) = true then x :: filtT (fun x r => !(r.any fun o => decide (o ∈ rv x))) xs else filtT (fun x r => !(r.any fun o => decide (o ∈ rv x))) xs) = (if (!(xs.any fun o => decide (o ∈ rv' x))) = true then x :: filtT (fun x r => !(r.any fun o => decide (o ∈ rv' x))) xs else filtT (fun x r => !(r.any fun o => decide (o ∈ rv' x))) xs)
    rw [h x List.mem_cons_self, ih fun y hy => h y (List.mem_cons_of_mem _ hy)]
theorem tch_congr {rv rv' : Str → List Str} {os : List Str} (h : ∀ x ∈ os, rv x = rv' x) : tchK rv os = tchK rv' os := by
  unfold tchK
  generalize insAll [] os = ks
  induction os generalizing ks with
  | nil => rfl
  | cons x xs ih =>
    rw [List.foldl_cons, List.foldl_cons, h x List.mem_cons_self]
    exact ih (fun y hy => h y (List.mem_cons_of_mem _ hy)) _
theorem mem_tchK {rv : Str → List Str} {ss : List Str} {z : Str} : z ∈ tchK rv ss ↔ z ∈ ss ∨ ∃ s ∈ ss, z ∈ rv s := by
  unfold tchK
  have key : ∀ (ss ks : List Str), z ∈ ss.foldl (fun ks s => insAll ks (insAll [] (rv s))) ks ↔ z ∈ ks ∨ ∃ s ∈ ss, z ∈ rv s := by
    intro ss
    induction ss with
    | nil => intro ks; simp
    | cons s ss ih =>
      intro ks
      rw [List.foldl_cons, ih, mem_insAll, mem_insAll]
      simp [or_assoc]
  rw [key, mem_insAll]
  simp
theorem tchK_nd {rv : Str → List Str} {ss : List Str} : (tchK rv ss).Nodup := by
  unfold tchK
  have key : ∀ (ss ks : List Str), ks.Nodup → (ss.foldl (fun ks s => insAll ks (insAll [] (rv s))) ks).Nodup := by
    intro ss
    induction ss with
    | nil => intro ks h; exact h
    | cons s ss ih => intro ks h; exact ih _ (insAll_nd h)
  exact key _ _ (insAll_nd .nil)
theorem tchK_small {p : Pan} (ok : PanS p) {ss : List Str} (h : ∀ x ∈ ss, x ∈ p.sw) : (tchK (rvs p) ss).length < 64 := by
  have : (tchK (rvs p) ss).length ≤ p.sw.length := tchK_nd.length_le_of_subset fun z hz => by
    rcases mem_tchK.mp hz with z1 | ⟨s, _, z1⟩
    · exact h z z1
    · exact rvs_sw ok.toPanOk z1
  have := ok.s1
  omega
def isStB (p : Pan) (xs : List Str) : Bool := ascB xs && xs.all (fun s => decide (s ∈ p.sw)) && !(xs.any fun s => (rvs p s).any fun o => decide (o ∈ xs))
end Ob

set_option Elab.async false
set_option linter.all false
set_option maxRecDepth 100000
set_option maxHeartbeats 4000000
namespace Ob
open PySem L2
open Evl (Ex)
open PySem.W (Datum Tup DatumOrd)
section
variable {K : PySem.W.Frag}
theorem e_neg1 {σ : L2.St} {B : Hp} : Pe K (tUn (rU fun i => .int (-i)) (tC (.int 1))) σ B (-1 : Int) := e_negI e_int
/-! ### with_press -/
abbrev sp_with_press (K : PySem.W.Frag) : Sp := Fn3 K (fun (d : Dic (List Str)) (s : Sq Str) (x : Str) => (d.kvs.lookup x).isSome = true ∧ s.items.length ≤ 100000) fun d s x => Tup.mk (wp (look d) s.items x)
def N_with_press : List Str := ["rivals", "state", "switch", "other"]
def t_with_press (K : PySem.W.Frag) : TS :=
  (tRet (tCB (rTupleU K) (tCons (tCB (rSortU K) (tCons (tOp (rAddU K) (tLc (iSeq K (tVar 1)) (gName 3) (tAnd (tTest (tOp (rInU K true) (tVar 3) (tOp (rIxU K) (tVar 0) (tVar 2)))) (tTest (tOp (rNeP K) (tVar 3) (tVar 2)))) (tVar 3) [3]) (tLst (tCons (tVar 2) tNil))) tNil)) tNil)))
theorem l_with_press (vs : List V) (H : Hp) (Q : VK) (E : XK) (h : sp_with_press K vs H Q E) : vs.length = 3 := Fn3.len vs H Q E h
theorem r_with_press (vs : List V) (H : Hp) (Q : VK) (E : XK) (h : sp_with_press K vs H Q E) : t_with_press K (Ends.ret Q) (start N_with_press vs) H := by
  obtain ⟨d, s, x, B, e, ⟨v1, _, rfl, h1, v2, _, rfl, h2, v3, _, rfl, h3, rfl⟩, ⟨hx, hs⟩, q⟩ := h
  obtain ⟨xs⟩ := s
  refine p_ret (e_tupL (α := Str) ((e_sortSq ((e_addL (e_lc (fun o => ngb true (decide (o ∈ look d x)) && !decide (o = x)) (fun o : Str => o) (it_sq (e_var rfl h2)) ?_ fun o _ v B1 b1 hv => ?_) (e_lst1 (e_var rfl h3)) ?_).imp sq_list) (sortable_str _)).is ?_)) e q
  · exact Nat.le_trans hs (by decide)
  · exact turn_name rfl rfl (t_and (t_test (e_inL (e_var rfl hv) (e_ixD (e_var rfl (Rep.mono b1 h1)) (e_var rfl (Rep.mono b1 h3)) (look_of hx)) true)) fun _ => t_test (e_ne (e_var rfl hv) (e_var rfl (Rep.mono b1 h3)))) fun _ => e_var rfl hv
  · rw [List.length_map]
    have := List.length_filter_le (fun o => ngb true (decide (o ∈ look d x)) && !decide (o = x)) xs
    simp only [List.length_singleton]
    have hs' : xs.length ≤ 100000 := hs
    omega
  · rw [List.map_id']
    rfl
/-! ### states_after, run -/
def HistOk (p : Pan) (s h : Sq Str) : Prop := PanOk p ∧ s.items.length ≤ 10000 ∧ h.items.length ≤ 10000 ∧ ∀ x ∈ h.items, x ∈ p.sw
abbrev sp_states_after (K : PySem.W.Frag) : Sp := Fn3 K HistOk fun p s h => (sts (rvs p) s.items h.items).map Tup.mk
def N_states_after : List Str := ["panel", "state", "history", "rivals", "found", "switch"]
def t_states_after (K : PySem.W.Frag) : TS :=
  (tSeq (tDrop (tCall (sp_look_switches K) [] E0 (tCons (tVar 0) (tCons (tVar 2) tNil))))
    (tSeq (tPar 3 4 (tCons (tCall (sp_rival_table K) [] E0 (tCons (tVar 0) tNil)) (tCons (tLst (tCons (tCB (rTupleU K) (tCons (tVar 1) tNil)) tNil)) tNil)))
    (tSeq (tFor (iSeq K (tVar 2)) (gName 5) (tDrop (tBM K "list" (rAppend) (tVar 4) (tCons (tCall (sp_with_press K) [] E0 (tCons (tVar 3) (tCons (tOp (rIxU K) (tVar 4) (tUn (rU fun i => .int (-i)) (tC (.int 1)))) (tCons (tVar 5) tNil)))) tNil))))
    (tRet (tVar 4)))))
theorem l_states_after (vs : List V) (H : Hp) (Q : VK) (E : XK) (h : sp_states_after K vs H Q E) : vs.length = 3 := Fn3.len vs H Q E h
theorem r_states_after (vs : List V) (H : Hp) (Q : VK) (E : XK) (h : sp_states_after K vs H Q E) : t_states_after K (Ends.ret Q) (start N_states_after vs) H := by
  obtain ⟨p, s, h, B, e, ⟨v1, _, rfl, h1, v2, _, rfl, h2, v3, _, rfl, h3, rfl⟩, ⟨ok, z1, z2, hsub⟩, q⟩ := h
  obtain ⟨st⟩ := s
  obtain ⟨hs⟩ := h
  refine q_drop (e_call2 (e_var rfl h1) (e_var rfl h3) hsub) e fun B1 H1 u1 => ?_
  refine q_parL1 (e_call1 (e_var rfl (Rep.mono u1.bb h1)) ok) (e_tupSq (e_var rfl (Rep.mono u1.bb h2))) u1.bh fun v w l B2 H2 u2 hv hw bl hl h2l => ?_
  refine q_for (it_sq (e_var rfl (Rep.mono (u1.trans u2).bb h3))) u2.bh fun B3 H3 u3 => ⟨fun done σ' B' H' => Up B H B' H' ∧ B' l = none ∧ (∃ ws, H' l = some (.lst ws) ∧ AtAll K B' ws ((sts (rvs p) st done).map Tup.mk)) ∧ ∃ y, σ' = [some v1, some v2, some v3, some v, some (.ref l), y],
    ⟨(u1.trans u2).trans u3, (u3.out bl h2l).1, ⟨_, (u3.out bl h2l).2, .cons (Rep.mono u3.bb hw) .nil⟩, none, rfl⟩, fun done x rest vx σ' B' Hx B4 H4 ex b1 bx hP u4 hvx => ?_, fun σ' B' H' b1 bx hP => ?_⟩
  · obtain ⟨uB, bl', ⟨ws, hlw, hws⟩, y, rfl⟩ := hP
    obtain ⟨bl4, hl4⟩ := u4.out bl' hlw
    have u34 := u3.bb.trans (b1.trans u4.bb)
    have hxs : x ∈ p.sw := hsub x (by show x ∈ hs; rw [show hs = done ++ x :: rest from ex]; simp)
    have hdone : done.length ≤ hs.length := by
      rw [show hs = done ++ x :: rest from ex, List.length_append]
      omega
    have hfr : H l = none := Evl.fresh_back u1.hh hl
    have uw := ((u1.trans u2).trans u3).bb.trans (b1.trans u4.bb)
    have uv := u3.bb.trans (b1.trans u4.bb)
    have el : Ex B4 (upd B4 l (.lst ws)) := Ex.new bl4
    have hlist : Rep.at_ K (upd B4 l (.lst ws)) (.ref l) ((sts (rvs p) st done).map Tup.mk) := at_list.mpr ⟨l, ws, rfl, Evl.sq_of upd_same, hws.mono (u4.bb.trans el)⟩
    refine app_self rfl hl4 bl4 u4.bh ((e_call3 (e_var rfl (Rep.mono (uv.trans el) hv)) ((e_ixL (x := Tup.mk (runS (rvs p) st done)) (e_var rfl hlist) e_neg1 (atI_last (n := done.length) (by rw [List.length_map, sts_len]) (by rw [List.getElem?_map, sts_last]; rfl))).imp sq_tup) (e_var rfl (Rep.mono el hvx)) ⟨tab_some hxs, ?_⟩).is (y := Tup.mk (wp (rvs p) (runS (rvs p) st done) x)) (congrArg Tup.mk (wp_congr (look_tab hxs)))) ?_ fun v5 B5 H5 u5 b5 hv5 => ?_
    · have := hws.length
      rw [List.length_map, sts_len] at this
      have z2' : hs.length ≤ 10000 := z2
      omega
    · refine ⟨B5, b1.trans (u4.bb.trans u5.bb), ex_upd u5.bh b5, ((uB.trans u4).trans u5).mut hfr b5, b5, ⟨_, upd_same, ?_⟩, _, rfl⟩
      rw [sts_snoc, List.map_append]
      exact (hws.mono (u4.bb.trans u5.bb)).snoc hv5
    · have := runS_len (rvs p) done st
      have z1' : st.length ≤ 10000 := z1
      have z2' : hs.length ≤ 10000 := z2
      show (runS (rvs p) st done).length ≤ _
      omega
  · obtain ⟨uB, bl', ⟨ws, hlw, hws⟩, y, rfl⟩ := hP
    have hfr : H l = none := Evl.fresh_back u1.hh hl
    obtain ⟨u6, e6⟩ := uB.freeze hlw hfr
    exact p_ret (e_var rfl (at_list.mpr ⟨l, ws, rfl, Evl.sq_of upd_same, hws.mono e6⟩)) u6.bh (fun v B1 H1 w hv => q v B1 H1 (u6.trans w) hv)
abbrev sp_run (K : PySem.W.Frag) : Sp := Fn3 K HistOk fun p s h => Tup.mk (runS (rvs p) s.items h.items)
def N_run : List Str := ["panel", "state", "history"]
def t_run (K : PySem.W.Frag) : TS :=
  (tRet (tOp (rIxU K) (tCall (sp_states_after K) [] E0 (tCons (tVar 0) (tCons (tVar 1) (tCons (tVar 2) tNil)))) (tUn (rU fun i => .int (-i)) (tC (.int 1)))))
theorem l_run (vs : List V) (H : Hp) (Q : VK) (E : XK) (h : sp_run K vs H Q E) : vs.length = 3 := Fn3.len vs H Q E h
theorem r_run (vs : List V) (H : Hp) (Q : VK) (E : XK) (h : sp_run K vs H Q E) : t_run K (Ends.ret Q) (start N_run vs) H := by
  obtain ⟨p, s, h, B, e, ⟨v1, _, rfl, h1, v2, _, rfl, h2, v3, _, rfl, h3, rfl⟩, hp, q⟩ := h
  exact p_ret (e_ixL (x := Tup.mk (runS (rvs p) s.items h.items)) (e_call3 (e_var rfl h1) (e_var rfl h2) (e_var rfl h3) hp) e_neg1 (atI_last (n := h.items.length) (by rw [List.length_map, sts_len]) (by rw [List.getElem?_map, sts_last]; rfl))) e q
/-! ### last_presses -/
abbrev sp_last_presses (K : PySem.W.Frag) : Sp := Fn1 K (fun h : Sq Str => h.items.length ≤ 100000) fun h => lastP h.items
def N_last_presses : List Str := ["history", "presses", "at", "switch"]
def t_last_presses (K : PySem.W.Frag) : TS :=
  (tSeq (tAsg (tCB (rListU K) (tCons (tVar 0) tNil)) (gName 1))
    (tRet (tLc (iEnum K (tCons (tVar 1) tNil)) (gUnp K 2 (gCons (gName 2) (gCons (gName 3) gNil))) (tTest (tOp (rInU K true) (tVar 3) (tSl (rSlU K) (tVar 1) (tPart (tOp (rAddU K) (tVar 2) (tC (.int 1)))) tNoPart))) (tVar 3) [2, 3])))
theorem l_last_presses (vs : List V) (H : Hp) (Q : VK) (E : XK) (h : sp_last_presses K vs H Q E) : vs.length = 1 := Fn1.len vs H Q E h
theorem r_last_presses (vs : List V) (H : Hp) (Q : VK) (E : XK) (h : sp_last_presses K vs H Q E) : t_last_presses K (Ends.ret Q) (start N_last_presses vs) H := by
  obtain ⟨s, B, e, ⟨v, _, rfl, h1, rfl⟩, hp, q⟩ := h
  obtain ⟨xs⟩ := s
  have hp' : xs.length ≤ 100000 := hp
  refine q_set (e_lstSq (e_var rfl h1)) e fun w B1 H1 u1 hw => ?_
  refine p_ret ((e_lc (fun c : Int × Str => ngb true (decide (c.2 ∈ xs.drop (c.1 + 1).toNat))) (fun c => c.2) (it_enumL (e_var rfl hw)) ?_ fun c hc v2 B2 b2 hv2 => turn_pairU hv2 fun a b ha hb => ⟨rfl, t_test ((e_inL (e_var rfl hb) ((e_slL (e_var rfl (Rep.mono b2 hw)) (o_some (e_addI (e_var rfl ha) e_int)) o_none)) true).is ?_), fun _ => e_var rfl hb⟩).is ?_) u1.bh (fun v B2 H2 u2 hv => q v B2 H2 (u1.trans u2) hv)
  · rw [enumI_len]
    omega
  · have h0 : 0 ≤ c.1 := by
      obtain ⟨z, _, rfl⟩ := List.mem_map.mp hc
      exact Int.natCast_nonneg _
    rw [show c.1 + 1 = (((c.1 + 1).toNat : Nat) : Int) by omega, cutA_from]
    rfl
  · exact enum_filtT _ xs _ fun i x _ => by
      show (!decide (x ∈ xs.drop ((i : Int) + 1).toNat)) = _
      rw [show ((i : Int) + 1).toNat = i + 1 by omega]
end
end Ob

set_option Elab.async false
set_option linter.all false
set_option maxRecDepth 100000
set_option maxHeartbeats 4000000
namespace Ob
open PySem L2
open Evl (Ex)
open PySem.W (Datum Tup DatumOrd)
section
variable {K : PySem.W.Frag}
/-! ### touched -/
def TchPre (d : Dic (List Str)) (s : Sq Str) : Prop := (∀ x ∈ s.items, (d.kvs.lookup x).isSome = true ∧ (look d x).length ≤ 1000) ∧ s.items.length ≤ 500 ∧ (tchK (look d) s.items).length < 64
abbrev sp_touched (K : PySem.W.Frag) : Sp := Fn2 K TchPre fun d s => tch (look d) s.items
def N_touched : List Str := ["rivals", "switches", "found", "switch", "other"]
def t_touched (K : PySem.W.Frag) : TS :=
  (tSeq (tAsg (tDc (iSeq K (tVar 1)) (gName 3) tYes (tVar 3) (tC (.bl true)) [3]) (gName 2))
    (tSeq (tFor (iSeq K (tVar 1)) (gName 3) (tDrop (tBM K "dict" (rUpdU) (tVar 2) (tCons (tDc (iSeq K (tOp (rIxU K) (tVar 0) (tVar 3))) (gName 4) tYes (tVar 4) (tC (.bl true)) [4]) tNil))))
    (tRet (tCB (rSortU K) (tCons (tVar 2) tNil)))))
theorem l_touched (vs : List V) (H : Hp) (Q : VK) (E : XK) (h : sp_touched K vs H Q E) : vs.length = 2 := Fn2.len vs H Q E h
def tchP (rv : Str → List Str) (ss done : List Str) : List Str := done.foldl (fun ks s => insAll ks (insAll [] (rv s))) (insAll [] ss)
theorem tchP_snoc (rv : Str → List Str) (ss done : List Str) (x : Str) : tchP rv ss (done ++ [x]) = insAll (tchP rv ss done) (insAll [] (rv x)) := by simp [tchP]
theorem tchP_len {rv : Str → List Str} {ss : List Str} : ∀ {done : List Str}, (∀ x ∈ done, (rv x).length ≤ 1000) → (tchP rv ss done).length ≤ ss.length + 1000 * done.length := by
  intro done
  have key : ∀ (done ks : List Str), (∀ x ∈ done, (rv x).length ≤ 1000) → (done.foldl (fun ks s => insAll ks (insAll [] (rv s))) ks).length ≤ ks.length + 1000 * done.length := by
    intro done
    induction done with
    | nil => intro ks _; simp
    | cons x xs ih =>
      intro ks h
      rw [List.foldl_cons, List.length_cons]
      have h1 := ih (insAll ks (insAll [] (rv x))) fun y hy => h y (List.mem_cons_of_mem _ hy)
      have h2 := insAll_len (insAll [] (rv x)) ks
      have h3 := insAll_len (rv x) []
      have h4 := h x List.mem_cons_self
      simp at h3
      omega
  intro h
  have h1 := key done (insAll [] ss) h
  have h2 := insAll_len ss []
  simp at h2
  unfold tchP
  omega
theorem r_touched (vs : List V) (H : Hp) (Q : VK) (E : XK) (h : sp_touched K vs H Q E) : t_touched K (Ends.ret Q) (start N_touched vs) H := by
  obtain ⟨d, s, B, e, ⟨v1, _, rfl, h1, v2, _, rfl, h2, rfl⟩, ⟨hx, z1, z2⟩, q⟩ := h
  obtain ⟨ss⟩ := s
  have z1' : ss.length ≤ 500 := z1
  refine q_dcTrue (it_sq (e_var rfl h2)) e (by omega) (fun v => ⟨rfl, rfl⟩) fun D B1 H1 u1 bD hD h1D => ?_
  refine q_for (it_sq (e_var rfl (Rep.mono u1.bb h2))) u1.bh fun B3 H3 u3 => ⟨fun done σ' B' H' => Up B H B' H' ∧ B' D = none ∧ H' D = some (.dK (kt (tchP (look d) ss done))) ∧ ∃ y z, σ' = [some v1, some v2, some (.ref D), y, z],
    ⟨u1.trans u3, (u3.out bD h1D).1, (u3.out bD h1D).2, none, none, rfl⟩, fun done x rest vx σ' B' Hx B4 H4 ex b1 bx hP u4 hvx => ?_, fun σ' B' H' b1 bx hP => ?_⟩
  · obtain ⟨uB, bl', hlD, y, z, rfl⟩ := hP
    obtain ⟨bl4, hl4⟩ := u4.out bl' hlD
    have hxs : x ∈ ss := by rw [show ss = done ++ x :: rest from ex]; simp
    have uw := u1.bb.trans (u3.bb.trans (b1.trans u4.bb))
    have hd2 : ∀ x ∈ done, (look d x).length ≤ 1000 := fun x hxd => (hx x (by show x ∈ ss; rw [show ss = done ++ _ :: rest from ex]; exact List.mem_append_left _ hxd)).2
    have hdone : done.length ≤ ss.length := by
      rw [show ss = done ++ x :: rest from ex, List.length_append]
      omega
    refine p_updTrue rfl hl4 bl4 (it_seqL (e_ixD (e_var rfl (Rep.mono uw h1)) (e_var rfl hvx) (look_of (hx x hxs).1))) u4.bh ?_ (fun v => ⟨rfl, rfl⟩) fun B5 H5 u5 b5 => ?_
    · have h3 := tchP_len (ss := ss) hd2
      have h4 := (hx x hxs).2
      omega
    · refine ⟨B5, b1.trans (u4.bb.trans u5.bb), ex_upd u5.bh b5, ((uB.trans u4).trans u5).mut hD b5, b5, ?_, some (.str x), z, by cases at_str.mp hvx; rfl⟩
      rw [upd_same, tchP_snoc]
  · obtain ⟨uB, bl', hlD, y, z, rfl⟩ := hP
    refine sort_keys (Q := Q) rfl hlD z2 fun l hl => ?_
    exact q _ _ _ (uB.then hl) (at_list.mpr ⟨l, _, rfl, Evl.sq_of upd_same, strs_atAll _⟩)
/-! ### left_on -/
abbrev sp_left_on (K : PySem.W.Frag) : Sp := Fn2 K (fun (d : Dic (List Str)) (os : List Str) => (∀ x ∈ os, (d.kvs.lookup x).isSome = true) ∧ os.length ≤ 100000) fun d os => leftO (look d) os
def N_left_on : List Str := ["rivals", "order", "found", "at", "switch", "other"]
def t_left_on (K : PySem.W.Frag) : TS :=
  (tSeq (tAsg (tLst tNil) (gName 2))
    (tSeq (tFor (iEnum K (tCons (tVar 1) tNil)) (gUnp K 2 (gCons (gName 3) (gCons (gName 4) gNil))) (tIfS (tNot (tB (tCB (rAny K) (tCons (tLc (iSeq K (tSl (rSlU K) (tVar 1) (tPart (tOp (rAddU K) (tVar 3) (tC (.int 1)))) tNoPart)) (gName 5) tYes (tOp (rInU K false) (tVar 5) (tOp (rIxU K) (tVar 0) (tVar 4))) [5]) tNil)))) (tDrop (tBM K "list" (rAppend) (tVar 2) (tCons (tVar 4) tNil))) tNext))
    (tRet (tCB (rSortU K) (tCons (tVar 2) tNil)))))
theorem l_left_on (vs : List V) (H : Hp) (Q : VK) (E : XK) (h : sp_left_on K vs H Q E) : vs.length = 2 := Fn2.len vs H Q E h
theorem enumI_mem {α : Type} {xs : List α} {c : Int × α} (h : c ∈ enumI xs) : ∃ i : Nat, c.1 = (i : Int) ∧ xs[i]? = some c.2 := by
  obtain ⟨z, hz, rfl⟩ := List.mem_map.mp h
  exact ⟨z.2, rfl, List.mem_zipIdx_iff_getElem?.mp hz⟩
theorem r_left_on (vs : List V) (H : Hp) (Q : VK) (E : XK) (h : sp_left_on K vs H Q E) : t_left_on K (Ends.ret Q) (start N_left_on vs) H := by
  obtain ⟨d, os, B, e, ⟨v1, _, rfl, h1, v2, _, rfl, h2, rfl⟩, ⟨hx, z1⟩, q⟩ := h
  refine q_new e fun l H1 u1 bl hl h1l => ?_
  let f : Int × Str → Bool := fun c => !((os.drop (c.1 + 1).toNat).any fun o => decide (o ∈ look d c.2))
  refine q_for (it_enumL (e_var rfl (Rep.mono u1.bb h2))) u1.bh fun B3 H3 u3 => ⟨fun done σ' B' H' => Up B H B' H' ∧ B' l = none ∧ H' l = some (.lst (((done.filter f).map (·.2)).map V.str)) ∧ done.length ≤ os.length ∧ ∃ y z x, σ' = [some v1, some v2, some (.ref l), y, z, x],
    ⟨u1.trans u3, (u3.out bl h1l).1, (u3.out bl h1l).2, Nat.zero_le _, none, none, none, rfl⟩, fun done x rest vx σ' B' Hx B4 H4 ex b1 bx hP u4 hvx => ?_, fun σ' B' H' b1 bx hP => ?_⟩
  · obtain ⟨uB, bl', hlD, hdn, y, z, xx, rfl⟩ := hP
    obtain ⟨bl4, hl4⟩ := u4.out bl' hlD
    have uw := u1.bb.trans (u3.bb.trans (b1.trans u4.bb))
    have hxm : x ∈ enumI os := by rw [ex]; simp
    have hl1 : (done ++ [x]).length ≤ os.length := by
      have e1 := congrArg List.length ex
      rw [enumI_len, List.length_append, List.length_cons] at e1
      rw [List.length_append, List.length_singleton]
      omega
    obtain ⟨i, hi, hxi⟩ := enumI_mem hxm
    have hxs : x.2 ∈ os := List.mem_of_getElem? hxi
    refine unp_pair hvx u4.bh fun w1 w2 k1 k2 => ?_
    refine p_if (t_not (t_B (e_any (e_lc (fun _ => true) (fun o => decide (o ∈ look d x.2)) (it_seqL (xs := os.drop (x.1 + 1).toNat) ((e_slL (e_var rfl (Rep.mono uw h2)) (o_some (e_addI (e_var rfl k1) e_int)) o_none).is ?_)) ?_ fun o _ v B5 b5 hv => turn_name rfl rfl t_yes fun _ => e_inL (e_var rfl hv) (e_ixD (e_var rfl (Rep.mono (uw.trans b5) h1)) (e_var rfl (Rep.mono b5 k2)) (look_of (hx _ hxs))) false)))) u4.bh (fun hb B5 H5 u5 => ?_) (fun hb B5 H5 u5 => ?_)
    · rw [hi, show (i : Int) + 1 = ((i + 1 : Nat) : Int) by omega, cutA_from]
      rfl
    · rw [List.length_drop]
      omega
    · refine app_var rfl (u5.out bl4 hl4).2 u5.bh (e_var rfl (Rep.mono u5.bb k2)) ?_ fun v6 B6 H6 u6 hv6 => ?_
      · rw [List.length_map, List.length_map]
        have := List.length_filter_le f done
        omega
      · cases at_str.mp hv6
        refine ⟨B6, ((b1.trans u4.bb).trans u5.bb).trans u6.bb, ex_upd u6.bh (u6.out (u5.out bl4 hl4).1 (u5.out bl4 hl4).2).1, (((uB.trans u4).trans u5).trans u6).mut hl (u6.out (u5.out bl4 hl4).1 (u5.out bl4 hl4).2).1, (u6.out (u5.out bl4 hl4).1 (u5.out bl4 hl4).2).1, ?_, hl1, _, _, _, rfl⟩
        have hf : f x = true := by
          rw [any_map_id] at hb
          exact hb
        rw [upd_same, List.filter_append, List.filter_cons, if_pos hf, List.map_append, List.map_append]
        rfl
    · refine ⟨B5, (b1.trans u4.bb).trans u5.bb, u5.bh, (uB.trans u4).trans u5, (u5.out bl4 hl4).1, ?_, hl1, _, _, _, rfl⟩
      have hf : f x = false := by
        rw [any_map_id] at hb
        exact hb
      rw [List.filter_append, List.filter_cons, if_neg (by rw [hf]; decide)]
      show _ = some (HO.lst (((_ ++ []).map _).map _))
      rw [List.append_nil]
      exact (u5.out bl4 hl4).2
  · obtain ⟨uB, bl', hlD, hdn, y, z, xx, rfl⟩ := hP
    obtain ⟨u6, e6⟩ := uB.freeze hlD hl
    refine p_ret ((e_sortSq ((e_var rfl (at_list.mpr ⟨l, _, rfl, Evl.sq_of upd_same, strs_atAll _⟩)).imp sq_list) (sortable_str _)).is ?_) u6.bh (fun v B1 H1 w hv => q v B1 H1 (u6.trans w) hv)
    show _ = sortD _
    refine congrArg sortD (enum_filtT _ os f fun i x _ => ?_)
    show (!((os.drop ((i : Int) + 1).toNat).any fun o => decide (o ∈ look d x))) = _
    rw [show ((i : Int) + 1).toNat = i + 1 by omega]
/-! ### effect_of -/
abbrev sp_effect_of (K : PySem.W.Frag) : Sp := Fn2 K (fun (p : Pan) (h : Sq Str) => PanS p ∧ h.items.length ≤ 500 ∧ ∀ x ∈ h.items, x ∈ p.sw) fun p h => effO (rvs p) h.items
def N_effect_of : List Str := ["panel", "history", "rivals", "order", "lit", "switch"]
def t_effect_of (K : PySem.W.Frag) : TS :=
  (tSeq (tDrop (tCall (sp_look_switches K) [] E0 (tCons (tVar 0) (tCons (tVar 1) tNil))))
    (tSeq (tPar 2 3 (tCons (tCall (sp_rival_table K) [] E0 (tCons (tVar 0) tNil)) (tCons (tCall (sp_last_presses K) [] E0 (tCons (tVar 1) tNil)) tNil)))
    (tSeq (tAsg (tCall (sp_left_on K) [] E0 (tCons (tVar 2) (tCons (tVar 3) tNil))) (gName 4))
    (tRet (tTup (tCons (tCB (rTupleU K) (tCons (tVar 4) tNil)) (tCons (tCB (rTupleU K) (tCons (tLc (iSeq K (tCall (sp_touched K) [] E0 (tCons (tVar 2) (tCons (tVar 3) tNil)))) (gName 5) (tTest (tOp (rInU K true) (tVar 5) (tVar 4))) (tVar 5) [5]) tNil)) tNil)))))))
theorem l_effect_of (vs : List V) (H : Hp) (Q : VK) (E : XK) (h : sp_effect_of K vs H Q E) : vs.length = 2 := Fn2.len vs H Q E h
theorem look_rvs {p : Pan} {os : List Str} (h : ∀ x ∈ os, x ∈ p.sw) : ∀ x ∈ os, look (tab p) x = rvs p x := fun x hx => look_tab (h x hx)
theorem tchPre_of {p : Pan} (ok : PanS p) {os : List Str} (h : ∀ x ∈ os, x ∈ p.sw) (hz : os.length ≤ 500) : TchPre (tab p) ⟨os⟩ :=
  ⟨fun x hx => ⟨tab_some (h x hx), by rw [look_rvs h x hx]; have := rvs_len (p := p) x; have := ok.s2; omega⟩, hz, by
    rw [tch_congr (look_rvs h)]
    exact tchK_small ok h⟩
theorem r_effect_of (vs : List V) (H : Hp) (Q : VK) (E : XK) (h : sp_effect_of K vs H Q E) : t_effect_of K (Ends.ret Q) (start N_effect_of vs) H := by
  obtain ⟨p, h, B, e, ⟨v1, _, rfl, h1, v2, _, rfl, h2, rfl⟩, ⟨ok, z1, hsub⟩, q⟩ := h
  obtain ⟨hs⟩ := h
  have z1' : hs.length ≤ 500 := z1
  have hl := lastP_len hs
  have hls : ∀ x ∈ lastP hs, x ∈ p.sw := fun x hx => hsub x (lastP_mem hx)
  refine q_drop (e_call2 (e_var rfl h1) (e_var rfl h2) hsub) e fun B1 H1 u1 => ?_
  refine q_par (e_call1 (e_var rfl (Rep.mono u1.bb h1)) ok.toPanOk) (e_call1 (x := Sq.mk hs) (e_var rfl (Rep.mono u1.bb h2)) (by show hs.length ≤ _; omega)) u1.bh fun v w B2 H2 u2 hv hw => ?_
  refine q_set ((e_call2 (e_var rfl hv) (e_var rfl hw) ⟨fun x hx => tab_some (hls x hx), by show (lastP hs).length ≤ _; omega⟩).is (leftO_congr (look_rvs hls))) u2.bh fun y B3 H3 u3 hy => ?_
  refine p_ret (e_pair (e_tupL (e_var rfl hy)) (e_tupL (α := Str) ((e_lc (fun o => ngb true (decide (o ∈ leftO (rvs p) (lastP hs)))) (fun o : Str => o) (it_seqL (e_call2 (E := E0) (y := Sq.mk (lastP hs)) (e_var rfl (Rep.mono u3.bb hv)) ((e_var rfl (Rep.mono u3.bb hw)).imp sq_list) (tchPre_of ok hls (by omega)))) ?_ fun o _ v B4 b4 hv4 => turn_name rfl rfl (t_test (e_inL (e_var rfl hv4) (e_var rfl (Rep.mono b4 hy)) true)) fun _ => e_var rfl hv4).is (y := (tch (rvs p) (lastP hs)).filter fun s => !decide (s ∈ leftO (rvs p) (lastP hs))) ?_))) u3.bh (fun v B4 H4 u4 hv4 => q v B4 H4 (((u1.trans u2).trans u3).trans u4) hv4)
  · have := (tchPre_of ok hls (by omega)).2.2
    unfold tch
    rw [sortD_len]
    exact Nat.le_trans (Nat.le_of_lt this) (by decide)
  · rw [List.map_id']
    unfold tch
    rw [show tchK (look (tab p)) (Sq.mk (lastP hs)).items = tchK (rvs p) (lastP hs) from tch_congr (look_rvs hls)]
    rfl
/-! ### is_state, of a tuple of texts -/
abbrev sp_is_state (K : PySem.W.Frag) : Sp := Fn2 K (fun (p : Pan) (t : Tup Str) => PanS p ∧ t.items.length ≤ 1000) fun p t => isStB p t.items
def N_is_state : List Str := ["panel", "thing", "rivals", "switch", "other"]
def t_is_state (K : PySem.W.Frag) : TS :=
  (tSeq (tIfS (tOr (tNot (tB (tCB (rIsi K) (tCons (tVar 1) (tCons (tC (.ty "tuple")) tNil))))) (tNot (tB (tCB (rAll K) (tCons (tLc (iSeq K (tVar 1)) (gName 3) tYes (tCB (rIsi K) (tCons (tVar 3) (tCons (tC (.ty "str")) tNil))) [3]) tNil))))) (tRet (tC (.bl false))) tNext)
    (tSeq (tIfS (tOr (tNot (tB (tCall (sp_are_ascending K) [] E0 (tCons (tVar 1) tNil)))) (tNot (tB (tCB (rAll K) (tCons (tLc (iSeq K (tVar 1)) (gName 3) tYes (tOp (rInU K false) (tVar 3) (tOp (rIxU K) (tVar 0) (tC (.int 0)))) [3]) tNil))))) (tRet (tC (.bl false))) tNext)
    (tSeq (tAsg (tCall (sp_rival_table K) [] E0 (tCons (tVar 0) tNil)) (gName 2))
    (tRet (tNotV (tCB (rAny K) (tCons (tLc2 (iSeq K (tVar 1)) (gName 3) tYes (iSeq K (tOp (rIxU K) (tVar 2) (tVar 3))) (gName 4) tYes (tOp (rInU K false) (tVar 4) (tVar 1)) [3, 4] [4]) tNil)))))))
theorem l_is_state (vs : List V) (H : Hp) (Q : VK) (E : XK) (h : sp_is_state K vs H Q E) : vs.length = 2 := Fn2.len vs H Q E h
theorem any_lc2 {α β : Type} (xs : List α) (ys : α → List β) (f : α → β → Bool) : ((xs.filter fun _ => true).flatMap fun x => ((ys x).filter fun _ => true).map (f x)).any id = xs.any fun x => (ys x).any (f x) := by
  rw [List.filter_eq_self.mpr fun _ _ => rfl, List.any_flatMap]
  refine congrArg _ (funext fun x => ?_)
  exact any_map_id (ys x) (f x)
theorem e_asc {σ : L2.St} {B : Hp} {te : TE} {E : XK} {α : Type} [DecidableEq α] [DatumOrd α] {xs : List α} (h : Pe K te σ B (Tup.mk xs)) (hl : xs.length ≤ 1000000) (hz : Datum.depth α ≤ 60 := by decide) : Pe K (tCall (sp_are_ascending K) [] E (tCons te tNil)) σ B (ascB xs) := fun H e Q q => a_1 h H e _ fun vs B1 H1 u hv => by
  rw [List.append_nil]
  exact ⟨α, inferInstance, inferInstance, hz, Tup.mk xs, B1, u.bh, hv, hl, fun v B2 H2 u2 h2 => q v B2 H2 (u.trans u2) h2⟩
theorem r_is_state (vs : List V) (H : Hp) (Q : VK) (E : XK) (h : sp_is_state K vs H Q E) : t_is_state K (Ends.ret Q) (start N_is_state vs) H := by
  obtain ⟨p, t, B, e, ⟨v1, _, rfl, h1, v2, _, rfl, h2, rfl⟩, ⟨ok, z1⟩, q⟩ := h
  obtain ⟨xs⟩ := t
  have z1' : xs.length ≤ 1000 := z1
  refine q_if (t_or (t_not (t_B (e_isi (b := true) (e_var rfl h2) (kit_same "tuple")))) fun _ => t_not (t_B (e_all (e_lc (fun _ => true) (fun _ : Str => true) (it_seqT (e_var rfl h2)) (by omega) fun o _ v B4 b4 hv4 => turn_name rfl rfl t_yes fun _ => e_isi (e_var rfl hv4) (kit_same "str"))))) e (fun hb => ?_) fun _ B1 H1 u1 => ?_
  · rw [all_map_id] at hb
    simp at hb
  · have h1' := Rep.mono u1.bb h1
    have h2' := Rep.mono u1.bb h2
    show tSeq _ _ _ _ _
    refine q_if (t_or (t_not (t_B (e_asc (e_var rfl h2') (by omega)))) fun _ => t_not (t_B (e_all (e_lc (fun _ => true) (fun s : Str => decide (s ∈ p.sw)) (it_seqT (e_var rfl h2')) (by omega) fun o _ v B4 b4 hv4 => turn_name rfl rfl t_yes fun _ => e_inSq (e_var rfl hv4) (e_sw (e_var rfl (Rep.mono b4 h1'))) false)))) u1.bh (fun hb B2 H2 u2 => ?_) fun hb B2 H2 u2 => ?_
    · have hf : isStB p xs = false := by
        rw [all_map_id] at hb
        unfold isStB
        cases h3 : ascB xs with
        | false => rfl
        | true =>
          rw [h3] at hb
          cases h4 : (xs.all fun s => decide (s ∈ p.sw)) with
          | false => rfl
          | true =>
            rw [h4] at hb
            cases hb
      have q' : ∀ v B2 H2, Up B H B2 H2 → Rep.at_ K B2 v (isStB p xs) → Q v H2 := q
      rw [hf] at q'
      exact p_ret e_bl u2.bh (fun v B3 H3 u3 hv => q' v B3 H3 ((u1.trans u2).trans u3) hv)
    · show tSeq _ _ _ _ _
      rw [all_map_id, Bool.or_eq_false_iff, Bool.not_eq_false', Bool.not_eq_false'] at hb
      have hsub : ∀ x ∈ xs, x ∈ p.sw := fun x hx => of_decide_eq_true (List.all_eq_true.mp hb.2 x hx)
      refine q_set (e_call1 (e_var rfl (Rep.mono u2.bb h1')) ok.toPanOk) u2.bh fun w B3 H3 u3 hw => ?_
      have h2'' := Rep.mono (u2.bb.trans u3.bb) h2'
      refine p_ret ((e_notV (e_any (e_lc2 (fun _ => true) (fun s => rvs p s) (fun _ _ => true) (fun _ o => decide (o ∈ xs)) (it_seqT (e_var rfl h2'')) ?_ fun s hs v B4 b4 hv4 => ⟨[some v1, some v2, some w, some v, none], fun H Q _ q => q, rfl, t_yes, fun _ => ⟨it_seqL (e_ixD (e_var rfl (Rep.mono b4 hw)) (e_var rfl hv4) (lookup_map (fun s => rvs p s) (hsub s hs))), fun o _ v5 B5 b5 hv5 => turn_name rfl rfl t_yes fun _ => e_inT (e_var rfl hv5) (e_var rfl (Rep.mono (b4.trans b5) h2'')) false⟩⟩))).is ?_) u3.bh (fun v B4 H4 u4 hv4 => q v B4 H4 (((u1.trans u2).trans u3).trans u4) hv4)
      · have key : ∀ ys : List Str, (ys.flatMap fun s => rvs p s).length ≤ ys.length * 800 := by
          intro ys
          induction ys with
          | nil => exact Nat.zero_le _
          | cons y ys ih =>
            rw [List.flatMap_cons, List.length_append, List.length_cons]
            have h5 := rvs_len (p := p) y
            have h6 := ok.s2
            omega
        have := key xs
        omega
      · rw [any_lc2]
        show _ = (ascB xs && (xs.all fun s => decide (s ∈ p.sw)) && _)
        rw [hb.1, hb.2]
        rfl
end
end Ob

set_option Elab.async false
set_option linter.all false
set_option maxRecDepth 100000
set_option maxHeartbeats 4000000
/-! D1: the law's box of drawn numbers: what may change it; take, of. -/
namespace Ob
open PySem L2
open Evl (Ex)
open PySem.W (Datum Tup DatumOrd)
/-- as Up, but the object at b may change -/
structure Ub (b : Addr) (B H B2 H2 : Hp) : Prop where
  bb : Ex B B2
  bh : Ex B2 H2
  hh : ∀ a u, a ≠ b → H a = some u → H2 a = some u
  nw : ∀ a, B2 a ≠ none → B a ≠ none ∨ H a = none
structure BoxAt (c : Int) (B H : Hp) (b : Addr) : Prop where
  fb : B b = none
  bx : ∃ g m k : Int, H b = some (.lst [.int g, .int m, .int k]) ∧ 0 ≤ g ∧ 0 ≤ m ∧ m < 2 ^ 62 ∧ 0 ≤ k ∧ k ≤ c
theorem BoxAt.le {c d : Int} {B H : Hp} {b : Addr} (h : BoxAt c B H b) (hd : c ≤ d) : BoxAt d B H b := by
  obtain ⟨f, g, m, k, h1, h2, h3, h4, h5, h6⟩ := h
  exact ⟨f, g, m, k, h1, h2, h3, h4, h5, Int.le_trans h6 hd⟩
theorem BoxAt.ne {c : Int} {B H : Hp} {b : Addr} (h : BoxAt c B H b) : H b ≠ none := by
  obtain ⟨f, g, m, k, h1, _⟩ := h
  rw [h1]
  exact fun z => nomatch z
theorem Up.ub {b : Addr} {B H B2 H2 : Hp} (u : Up B H B2 H2) : Ub b B H B2 H2 := ⟨u.bb, u.bh, fun a o _ h => u.hh a o h, u.nw⟩
theorem Ub.refl {b : Addr} {B H : Hp} (e : Ex B H) : Ub b B H B H := (Up.refl e).ub
theorem Up.box {c : Int} {b : Addr} {B H B2 H2 : Hp} (u : Up B H B2 H2) (x : BoxAt c B H b) : BoxAt c B2 H2 b := by
  obtain ⟨f, g, m, k, h1, h2⟩ := x
  exact ⟨(u.out f h1).1, g, m, k, (u.out f h1).2, h2⟩
theorem Ub.trans {b : Addr} {B H B1 H1 B2 H2 : Hp} (u : Ub b B H B1 H1) (hb : H1 b ≠ none) (w : Ub b B1 H1 B2 H2) : Ub b B H B2 H2 :=
  ⟨u.bb.trans w.bb, w.bh, fun a o ne h => w.hh a o ne (u.hh a o ne h), fun x h => by
    rcases w.nw x h with z | z
    · exact u.nw x z
    · cases q : H x with
      | none => exact .inr rfl
      | some o =>
        by_cases e : x = b
        · subst e
          exact absurd z hb
        · rw [u.hh x o e q] at z
          cases z⟩
theorem Ub.up {b : Addr} {B H B1 H1 B2 H2 : Hp} (u : Ub b B H B1 H1) (hb : H1 b ≠ none) (w : Up B1 H1 B2 H2) : Ub b B H B2 H2 := u.trans hb w.ub
theorem Ub.mut {b : Addr} {B H B2 H2 : Hp} (u : Ub b B H B2 H2) {o : HO} (hb : B2 b = none) : Ub b B H B2 (upd H2 b o) :=
  ⟨u.bb, ex_upd u.bh hb, fun a x ne h => by rw [upd_ne ne]; exact u.hh a x ne h, u.nw⟩
theorem Ub.fb {b : Addr} {B H B2 H2 : Hp} (u : Ub b B H B2 H2) {a : Addr} {o : HO} (hb : B a = none) (h : H a = some o) : B2 a = none := by
  cases q : B2 a with
  | none => rfl
  | some x =>
    rcases u.nw a (by rw [q]; exact fun z => nomatch z) with z | z
    · exact absurd hb z
    · rw [h] at z
      cases z
theorem Ub.out {b : Addr} {B H B2 H2 : Hp} (u : Ub b B H B2 H2) {a : Addr} {o : HO} (hb : B a = none) (h : H a = some o) (ne : a ≠ b) : B2 a = none ∧ H2 a = some o := ⟨u.fb hb h, u.hh a o ne h⟩
/-- a mutation elsewhere of what is new -/
theorem Ub.put {b : Addr} {B H B2 H2 : Hp} (u : Ub b B H B2 H2) {a : Addr} {o : HO} (hf : H a = none) (hb : B2 a = none) : Ub b B H B2 (upd H2 a o) :=
  ⟨u.bb, ex_upd u.bh hb, fun c x ne h => by
    have : c ≠ a := fun z => by rw [z, hf] at h; cases h
    rw [upd_ne this]
    exact u.hh c x ne h, u.nw⟩
/-- back to a heap in which b is new -/
theorem Ub.new {b : Addr} {B H B1 H1 B2 H2 : Hp} (u : Up B H B1 H1) (hn : H b = none) (hb : H1 b ≠ none) (w : Ub b B1 H1 B2 H2) : Up B H B2 H2 :=
  ⟨u.bb.trans w.bb, w.bh, fun a o h => by
    have ne : a ≠ b := fun z => by rw [z, hn] at h; cases h
    exact w.hh a o ne (u.hh a o h), ((Up.ub u).trans hb w).nw⟩

section
variable (K : PySem.W.Frag)
/-- a reading that draws at most n numbers from the box at b: what it gives is R -/
def Pb {α : Type} [Rep α] (b : Addr) (n : Int) (te : TE) (σ : L2.St) (B : Hp) (R : α → Prop) : Prop := ∀ H c, Ex B H → BoxAt c B H b → c + n ≤ 2 ^ 40 → ∀ Q : VK, (∀ v x B2 H2, Ub b B H B2 H2 → BoxAt (c + n) B2 H2 b → R x → Rep.at_ K B2 v x → Q v H2) → te σ H Q
def FnB1 {α β : Type} [Rep α] [Rep β] (n : Int) (pre : α → Prop) (R : α → β → Prop) : Sp := fun vs H Q _ => ∃ b B c x, Ex B H ∧ BoxAt c B H b ∧ c + n ≤ 2 ^ 40 ∧ (∃ v, vs = [.ref b, v] ∧ Rep.at_ K B v x) ∧ pre x ∧ ∀ v y B2 H2, Ub b B H B2 H2 → BoxAt (c + n) B2 H2 b → R x y → Rep.at_ K B2 v y → Q v H2
def FnB2 {α β γ : Type} [Rep α] [Rep β] [Rep γ] (n : Int) (pre : α → β → Prop) (R : α → β → γ → Prop) : Sp := fun vs H Q _ => ∃ b B c x y, Ex B H ∧ BoxAt c B H b ∧ c + n ≤ 2 ^ 40 ∧ (∃ v w, vs = [.ref b, v, w] ∧ Rep.at_ K B v x ∧ Rep.at_ K B w y) ∧ pre x y ∧ ∀ v z B2 H2, Ub b B H B2 H2 → BoxAt (c + n) B2 H2 b → R x y z → Rep.at_ K B2 v z → Q v H2
end
section
variable {K : PySem.W.Frag} {H B B' : Hp} {v : V} {σ : L2.St} {te ta tb tc tk tv : TE} {tt tt1 tu : TT} {b : Addr} {n m : Int}
section
variable {α β γ : Type} [Rep α] [Rep β] [Rep γ]
theorem FnB1.len {pre : α → Prop} {R : α → β → Prop} (vs : List V) (H : Hp) (Q : VK) (E : XK) (h : FnB1 K n pre R vs H Q E) : vs.length = 2 := by
  obtain ⟨b, B, c, x, _, _, _, ⟨v, rfl, _⟩, _⟩ := h
  rfl
theorem FnB2.len {pre : α → β → Prop} {R : α → β → γ → Prop} (vs : List V) (H : Hp) (Q : VK) (E : XK) (h : FnB2 K n pre R vs H Q E) : vs.length = 3 := by
  obtain ⟨b, B, c, x, y, _, _, _, ⟨v, w, rfl, _⟩, _⟩ := h
  rfl
theorem Pe.pb {x : α} (h : Pe K te σ B x) : Pb K b 0 te σ B (fun y => y = x) := fun H c e bx hc Q q => h H e Q fun v B2 H2 u hv => q v x B2 H2 u.ub ((u.box bx).le (by omega)) rfl hv
theorem Pb.imp {R R' : α → Prop} (h : Pb K b n te σ B R) (k : ∀ x, R x → R' x) : Pb K b n te σ B R' := fun H c e bx hc Q q => h H c e bx hc Q fun v x B2 H2 u ub r hv => q v x B2 H2 u ub (k x r) hv
theorem Pb.mono {R : α → Prop} (h : Pb K b n te σ B R) (e : Ex B B') : Pb K b n te σ B' R := fun H c a bx hc Q q => by
  have fb0 : B b = none := by
    cases z : B b with
    | none => rfl
    | some o =>
      have := e b o z
      rw [bx.fb] at this
      cases this
  have bx0 : BoxAt c B H b := ⟨fb0, bx.bx⟩
  refine h H c (e.trans a) bx0 hc Q fun v x B2 H2 u ub r hv => ?_
  have hB' : ∀ z o, B' z = some o → z ≠ b := fun z o hz w => by rw [w, bx.fb] at hz; cases hz
  refine q v x (fun a => match B2 a with | some o => some o | none => B' a) H2 ⟨fun z o hz => ?_, fun z o hz => ?_, u.hh, fun z hz => ?_⟩ ⟨?_, ub.bx⟩ r (Rep.mono (fun z o hz => ?_) hv)
  · show (match B2 z with | some o => some o | none => B' z) = some o
    cases y : B2 z with
    | none => exact hz
    | some o' =>
      have h1 := u.bh z o' y
      rw [u.hh z o (hB' z o hz) (a z o hz)] at h1
      show some o' = some o
      rw [h1]
  · have hz' : (match B2 z with | some o => some o | none => B' z) = some o := hz
    cases y : B2 z with
    | none =>
      rw [y] at hz'
      exact u.hh z o (hB' z o hz') (a z o hz')
    | some o' =>
      rw [y] at hz'
      rw [← hz']
      exact u.bh z o' y
  · have hz' : (match B2 z with | some o => some o | none => B' z) ≠ none := hz
    cases y : B2 z with
    | none =>
      rw [y] at hz'
      exact .inl hz'
    | some o' =>
      rcases u.nw z (by rw [y]; exact fun w => nomatch w) with w | w
      · refine .inl ?_
        cases zb : B z with
        | none => exact absurd zb w
        | some ob =>
          rw [e z ob zb]
          exact fun w => nomatch w
      · exact .inr w
  · show (match B2 b with | some o => some o | none => B' b) = none
    rw [ub.fb]
    exact bx.fb
  · show (match B2 z with | some o => some o | none => B' z) = some o
    rw [hz]
theorem Pb.le {R : α → Prop} (h : Pb K b n te σ B R) (hn : n ≤ m) : Pb K b m te σ B R := fun H c e bx hc Q q => h H c e bx (by omega) Q fun v x B2 H2 u ub r hv => q v x B2 H2 u (ub.le (by omega)) r hv
/-- the call of a def with the box and one argument -/
theorem b_call1 {pre : α → Prop} {R0 : α → Prop} {R : α → β → Prop} {E : XK} {i : Nat} (hi : σ[i]? = some (some (.ref b))) (h : Pb K b m te σ B R0) (hp : ∀ x, R0 x → pre x) (hn : 0 ≤ n := by decide) : Pb K b (m + n) (tCall (FnB1 K n pre R) [] E (tCons (tVar i) (tCons te tNil))) σ B (fun z => ∃ x, R0 x ∧ R x z) := fun H c e bx hc Q q =>
  ⟨_, hi, h H c e bx (by omega) _ fun v x B2 H2 u ub r hv => ⟨b, B2, c + m, x, u.bh, ub, by omega, ⟨v, rfl, hv⟩, hp x r, fun w y B3 H3 u3 ub3 r3 hw => q w y B3 H3 (u.trans ub.ne u3) (ub3.le (by omega)) ⟨x, r, r3⟩ hw⟩⟩
theorem e_callB1 {pre : α → Prop} {R : α → β → Prop} {E : XK} {i : Nat} {x : α} (hi : σ[i]? = some (some (.ref b))) (h : Pe K te σ B x) (hp : pre x) (hn : 0 ≤ n := by decide) : Pb K b n (tCall (FnB1 K n pre R) [] E (tCons (tVar i) (tCons te tNil))) σ B (R x) :=
  ((b_call1 hi h.pb (fun y hy => by rw [hy]; exact hp) hn).imp (R' := R x) fun z ⟨y, hy, r⟩ => by rw [hy] at r; exact r).le (by omega)
theorem b_call2 {pre : α → β → Prop} {R0 : α → Prop} {R : α → β → γ → Prop} {E : XK} {i : Nat} {y : β} (hi : σ[i]? = some (some (.ref b))) (h : Pb K b m te σ B R0) (h2 : Pe K tb σ B y) (hp : ∀ x, R0 x → pre x y) (hn : 0 ≤ n := by decide) : Pb K b (m + n) (tCall (FnB2 K n pre R) [] E (tCons (tVar i) (tCons te (tCons tb tNil)))) σ B (fun z => ∃ x, R0 x ∧ R x y z) := fun H c e bx hc Q q =>
  ⟨_, hi, h H c e bx (by omega) _ fun v x B2 H2 u ub r hv => (h2.mono u.bb) H2 u.bh _ fun w B3 H3 u3 hw => ⟨b, B3, c + m, x, y, u3.bh, u3.box ub, by omega, ⟨v, w, rfl, Rep.mono u3.bb hv, hw⟩, hp x r, fun w y B4 H4 u4 ub4 r4 hw4 => q w y B4 H4 ((u.up ub.ne u3).trans (u3.box ub).ne u4) (ub4.le (by omega)) ⟨x, r, r4⟩ hw4⟩⟩
theorem e_callB2 {pre : α → β → Prop} {R : α → β → γ → Prop} {E : XK} {i : Nat} {x : α} {y : β} (hi : σ[i]? = some (some (.ref b))) (h : Pe K te σ B x) (h2 : Pe K tb σ B y) (hp : pre x y) (hn : 0 ≤ n := by decide) : Pb K b n (tCall (FnB2 K n pre R) [] E (tCons (tVar i) (tCons te (tCons tb tNil)))) σ B (R x y) :=
  ((b_call2 hi h.pb h2 (fun z hz => by rw [hz]; exact hp) hn).imp (R' := R x y) fun z ⟨x', hx, r⟩ => by rw [hx] at r; exact r).le (by omega)
/-- an operation, the second reading draws -/
theorem b_op {r : R2} {x : α} {R : β → Prop} {f : β → γ} (ha : Pe K ta σ B x) (hb : Pb K b n tb σ B R) (hr : ∀ y, R y → RD K r x y (f y)) : Pb K b n (tOp r ta tb) σ B (fun z => ∃ y, R y ∧ z = f y) := fun H c e bx hc Q q =>
  ha H e _ fun v B1 H1 u1 hv => by
    -- the frozen part that the first reading made is handed on
    refine (fun (hb' : Pb K b n tb σ B1 R) => hb' H1 c u1.bh (u1.box bx) hc _ fun w y B2 H2 u2 ub r2 hw => hr y r2 B2 H2 v w u2.bh (Rep.mono u2.bb hv) hw Q fun z B3 H3 u3 hz => q z (f y) B3 H3 ((u1.ub.trans (u1.box bx).ne u2).up ub.ne u3) (u3.box ub) ⟨y, r2, rfl⟩ hz) ?_
    exact hb.mono u1.bb
/-- an operation, the first reading draws -/
theorem b_opL {r : R2} {y : β} {R : α → Prop} {f : α → γ} (ha : Pb K b n ta σ B R) (hb : Pe K tb σ B y) (hr : ∀ x, R x → RD K r x y (f x)) : Pb K b n (tOp r ta tb) σ B (fun z => ∃ x, R x ∧ z = f x) := fun H c e bx hc Q q =>
  ha H c e bx hc _ fun v x B1 H1 u1 ub r1 hv => (hb.mono u1.bb) H1 u1.bh _ fun w B2 H2 u2 hw => hr x r1 B2 H2 v w u2.bh (Rep.mono u2.bb hv) hw Q fun z B3 H3 u3 hz => q z (f x) B3 H3 (u1.up ub.ne (u2.trans u3)) ((u2.trans u3).box ub) ⟨x, r1, rfl⟩ hz
theorem q_setB {i : Nat} {D : Ends} {tz : TS} {c : Int} {R : α → Prop} (h : Pb K b n te σ B R) (e : Ex B H) (bx : BoxAt c B H b) (hc : c + n ≤ 2 ^ 40) (k : ∀ v x B1 H1, Ub b B H B1 H1 → BoxAt (c + n) B1 H1 b → R x → Rep.at_ K B1 v x → tz D (σ.set i (some v)) H1) : tSeq (tAsg te (gName i)) tz D σ H := h H c e bx hc _ fun v x B1 H1 u ub r hv => k v x B1 H1 u ub r hv
theorem p_retB {D : Ends} {c : Int} {R : α → Prop} (h : Pb K b n te σ B R) (e : Ex B H) (bx : BoxAt c B H b) (hc : c + n ≤ 2 ^ 40) (k : ∀ v x B1 H1, Ub b B H B1 H1 → BoxAt (c + n) B1 H1 b → R x → Rep.at_ K B1 v x → D.rt v H1) : tRet te D σ H := h H c e bx hc _ fun v x B1 H1 u ub r hv => k v x B1 H1 u ub r hv
end
/-! ### the box's own numbers, read and set -/
section
variable {g mm k : Int}
theorem box_ix {i : Nat} {j x : Int} (hi : σ[i]? = some (some (.ref b))) (hx : atI [g, mm, k] j = some x) : Pe K (tOp (rIxU K) (tVar i) (tC (.int j))) σ (upd B b (.lst [.int g, .int mm, .int k])) x :=
  e_ixL (α := Int) (e_var hi (at_list.mpr ⟨b, _, rfl, Evl.sq_of upd_same, ints_atAll [g, mm, k]⟩)) e_int hx
theorem q_setBox {D : Ends} {tz : TS} {xs : List V} {i : Nat} {j : Int} {jj : Nat} {α : Type} [Rep α] [Thaw α] {x : α} (hi : σ[i]? = some (some (.ref b))) (h : Pe K te σ (upd B b (.lst xs)) x) (hb : B b = none) (e : Ex B H) (hl : H b = some (.lst xs)) (hj : ixN xs.length j = some jj)
    (q : ∀ v B1 H1, Up B H B1 H1 → B1 b = none → H1 b = some (.lst xs) → Rep.at_ K B1 v x → tz D σ (upd H1 b (.lst (xs.set jj v)))) : tSeq (tAsg te (gSub (tVar i) (tC (.int j)) rSetL)) tz D σ H :=
  h.thaw hb e hl fun v B1 H1 u b1 h1 hv => ⟨_, hi, ⟨b, xs, j, jj, rfl, rfl, h1, hj, q v B1 H1 u b1 h1 hv⟩⟩
theorem q_setT {D : Ends} {tz : TS} {o : List V} {i : Nat} {α : Type} [Rep α] [Thaw α] {x : α} (h : Pe K te σ (upd B b (.lst o)) x) (hb : B b = none) (e : Ex B H) (hl : H b = some (.lst o))
    (q : ∀ v B1 H1, Up B H B1 H1 → B1 b = none → H1 b = some (.lst o) → Rep.at_ K B1 v x → tz D (σ.set i (some v)) H1) : tSeq (tAsg te (gName i)) tz D σ H :=
  h.thaw hb e hl fun v B1 H1 u b1 h1 hv => q v B1 H1 u b1 h1 hv
theorem p_retT {D : Ends} {o : List V} {α : Type} [Rep α] [Thaw α] {x : α} (h : Pe K te σ (upd B b (.lst o)) x) (hb : B b = none) (e : Ex B H) (hl : H b = some (.lst o))
    (q : ∀ v B1 H1, Up B H B1 H1 → B1 b = none → H1 b = some (.lst o) → Rep.at_ K B1 v x → D.rt v H1) : tRet te D σ H :=
  h.thaw hb e hl fun v B1 H1 u b1 h1 hv => q v B1 H1 u b1 h1 hv
end
/-! ### take -/
abbrev sp_Ltake (K : PySem.W.Frag) : Sp := FnB1 K 1 (fun n : Int => 0 < n ∧ n < 1073741824) (fun n (k : Int) => 0 ≤ k ∧ k < n)
def N_Ltake : List Str := ["_law_box_here", "_law_size", "_law_value", "_law_once", "_law_twice"]
def t_Ltake (K : PySem.W.Frag) : TS :=
  (tSeq (tIfS (tTest (tOp (rGtU K) (tOp (rIxU K) (tVar 0) (tC (.int 0))) (tC (.int 0)))) (tSeq (tAsg (tOp (rI (fun _ j => 0 < j) fun i j => .int (i % j)) (tOp (rIxU K) (tVar 0) (tC (.int 0))) (tVar 1)) (gName 2))
    (tSeq (tAsg (tOp (rI CDiv fun i j => .int (i / j)) (tOp (rIxU K) (tVar 0) (tC (.int 0))) (tVar 1)) (gSub (tVar 0) (tC (.int 0)) rSetL))
    (tRet (tVar 2)))) tNext)
    (tSeq (tAsg (tOp (rAddU K) (tOp (rIxU K) (tVar 0) (tC (.int 2))) (tC (.int 1))) (gSub (tVar 0) (tC (.int 2)) rSetL))
    (tSeq (tAsg (tOp (rI (fun _ j => 0 < j) fun i j => .int (i % j)) (tOp (rMulU) (tOp (rAddU K) (tOp (rIxU K) (tVar 0) (tC (.int 1))) (tOp (rMulU) (tC (.int 39373)) (tOp (rIxU K) (tVar 0) (tC (.int 2))))) (tOp (rAddU K) (tC (.int 48271)) (tOp (rIxU K) (tVar 0) (tC (.int 2))))) (tC (.int 2147483629))) (gName 3))
    (tSeq (tAsg (tOp (rI (fun _ j => 0 < j) fun i j => .int (i % j)) (tOp (rMulU) (tOp (rAddU K) (tOp (rAddU K) (tVar 3) (tOp (rIxU K) (tVar 0) (tC (.int 2)))) (tOp (rI CDiv fun i j => .int (i / j)) (tOp (rIxU K) (tVar 0) (tC (.int 1))) (tC (.int 1000003)))) (tOp (rAddU K) (tOp (rI (fun _ j => 0 < j) fun i j => .int (i % j)) (tVar 3) (tC (.int 30011))) (tC (.int 5)))) (tC (.int 2147483587))) (gName 4))
    (tRet (tOp (rI (fun _ j => 0 < j) fun i j => .int (i % j)) (tOp (rI CDiv fun i j => .int (i / j)) (tOp (rI (fun _ j => 0 < j) fun i j => .int (i % j)) (tOp (rAddU K) (tOp (rMulU) (tVar 4) (tC (.int 39373))) (tVar 3)) (tC (.int 2147483563))) (tC (.int 32))) (tVar 1)))))))
theorem l_Ltake (vs : List V) (H : Hp) (Q : VK) (E : XK) (h : sp_Ltake K vs H Q E) : vs.length = 2 := FnB1.len vs H Q E h
theorem cmul_small {i j : Int} (h1 : 0 ≤ j) (h2 : j < 2 ^ 62) : CMul i j := .inr ⟨by omega, by omega⟩
theorem r_Ltake (vs : List V) (H : Hp) (Q : VK) (E : XK) (h : sp_Ltake K vs H Q E) : t_Ltake K (Ends.ret Q) (start N_Ltake vs) H := by
  obtain ⟨b, B, c, n, e, bx, hc, ⟨v, rfl, hv⟩, ⟨hn, hn2⟩, q⟩ := h
  cases at_int.mp hv
  obtain ⟨fb, g, mm, k, hb, g0, m0, m1, k0, k1⟩ := bx
  have hv' : ∀ B : Hp, Rep.at_ K B (.int n) n := fun B => at_int.mpr rfl
  refine p_ift (b := decide ((0 : Int) < g)) (t_test (e_gt (box_ix rfl rfl) e_int)) fb e hb (fun hg H1 u1 hb1 => ?_) (fun hg H1 u1 hb1 => ?_)
  · have g1 : 0 < g := of_decide_eq_true hg
    refine q_setT (e_modI (box_ix rfl rfl) (e_var rfl (hv' _)) hn) fb u1.bh hb1 fun w B2 H2 u2 fb2 hb2 hw => ?_
    cases at_int.mp hw
    refine q_setBox (i := 0) (jj := 0) rfl (e_divI (i := g) (j := n) (box_ix rfl rfl) (e_var rfl (hv' _)) ⟨hn, hn2⟩) fb2 u2.bh hb2 rfl fun w3 B3 H3 u3 fb3 hb3 hw3 => ?_
    cases at_int.mp hw3
    refine p_ret (K := K) (x := g % n) (e_var rfl (at_int.mpr rfl)) (ex_upd u3.bh fb3) fun w4 B4 H4 u4 hw4 => ?_
    have u : Ub b B H B3 H3 := ((u1.trans u2).trans u3).ub
    refine q w4 (g % n) B4 H4 ((u.mut fb3).up (by rw [upd_same]; exact fun z => nomatch z) u4) (u4.box ⟨fb3, g / n, mm, k, upd_same, Int.ediv_nonneg g0 (by omega), m0, m1, k0, by omega⟩) ⟨Int.emod_nonneg _ (by omega), Int.emod_lt_of_pos _ hn⟩ hw4
  · refine q_setBox (i := 0) (jj := 2) rfl (e_addI (i := k) (j := 1) (box_ix rfl rfl) e_int) fb u1.bh hb1 rfl fun w3 B3 H3 u3 fb3 hb3 hw3 => ?_
    cases at_int.mp hw3
    have u : Ub b B H B3 (upd H3 b (.lst [.int g, .int mm, .int (k + 1)])) := ((u1.trans u3).ub).mut fb3
    have e3 : Ex B3 (upd H3 b (.lst [.int g, .int mm, .int (k + 1)])) := ex_upd u3.bh fb3
    have hb3' : upd H3 b (.lst [.int g, .int mm, .int (k + 1)]) b = some (.lst [.int g, .int mm, .int (k + 1)]) := upd_same
    have bx3 : BoxAt (c + 1) B3 (upd H3 b (.lst [.int g, .int mm, .int (k + 1)])) b := ⟨fb3, g, mm, k + 1, upd_same, g0, m0, m1, by omega, by omega⟩
    generalize hH : upd H3 b (.lst [.int g, .int mm, .int (k + 1)]) = H3' at u e3 hb3' bx3
    show tSeq _ _ _ _ (upd H3 b (.lst [.int g, .int mm, .int (k + 1)]))
    rw [hH]
    refine q_setT (e_modI (e_mulI (e_addI (box_ix rfl rfl) (e_mulI e_int (box_ix rfl rfl) (cmul_small (by omega) (by omega)))) (e_addI e_int (box_ix rfl rfl)) (cmul_small (by omega) (by omega))) e_int (by decide)) fb3 e3 hb3' fun w4 B4 H4 u4 fb4 hb4 hw4 => ?_
    generalize ho : (mm + 39373 * (k + 1)) * (48271 + (k + 1)) % 2147483629 = once at hw4
    have o0 : 0 ≤ once := by rw [← ho]; exact Int.emod_nonneg _ (by decide)
    have o1 : once < 2147483629 := by rw [← ho]; exact Int.emod_lt_of_pos _ (by decide)
    cases at_int.mp hw4
    have ov : ∀ B : Hp, Rep.at_ K B (V.int once) once := fun B => at_int.mpr rfl
    refine q_setT (e_modI (e_mulI (e_addI (e_addI (e_var rfl (ov _)) (box_ix rfl rfl)) (e_divI (box_ix rfl rfl) e_int ⟨by decide, by decide⟩)) (e_addI (e_modI (e_var rfl (ov _)) e_int (by decide)) e_int) (cmul_small ?_ ?_)) e_int (by decide)) fb4 u4.bh hb4 fun w5 B5 H5 u5 fb5 hb5 hw5 => ?_
    · have := Int.emod_nonneg once (b := 30011) (by decide)
      omega
    · have := Int.emod_lt_of_pos once (b := 30011) (by decide)
      omega
    · generalize (once + (k + 1) + mm / 1000003) * (once % 30011 + 5) % 2147483587 = twice at hw5
      cases at_int.mp hw5
      refine p_ret (e_modI (e_divI (e_modI (e_addI (e_mulI (e_var rfl (at_int.mpr rfl)) e_int (cmul_small (by decide) (by decide))) (e_var rfl (ov _))) e_int (by decide)) e_int ⟨by decide, by decide⟩) (e_var rfl (hv' _)) hn) u5.bh fun w6 B6 H6 u6 hw6 => ?_
      exact q w6 _ B6 H6 (u.up bx3.ne ((u4.trans u5).trans u6)) (((u4.trans u5).trans u6).box bx3) ⟨Int.emod_nonneg _ (by omega), Int.emod_lt_of_pos _ hn⟩ hw6
end
end Ob

set_option Elab.async false
set_option linter.all false
set_option maxRecDepth 100000
set_option maxHeartbeats 4000000
/-! D2: cell_at, box, of, strewn, names. -/
namespace Ob
open PySem L2
open Evl (Ex)
open PySem.W (Datum Tup DatumOrd)
section
variable {K : PySem.W.Frag} {H B B' : Hp} {v : V} {σ : L2.St} {te ta tb tc tk tv : TE} {tt tt1 tu : TT} {b : Addr} {n m : Int}
theorem e_const {α : Type} [Rep α] {x : α} (h : Rep.at_ K B v x) : Pe K (tC v) σ B x := fun H e Q q => q v B H (Up.refl e) h
/-- an expression around a reading that draws first -/
theorem b_lift {α β : Type} [Rep α] [Rep β] {R : α → Prop} {S : β → Prop} (ctx : TE → TE) (h : Pb K b n te σ B R) (k : ∀ x, R x → ∀ v B', Ex B B' → Rep.at_ K B' v x → ∃ z, S z ∧ Pe K (ctx (tC v)) σ B' z)
    (hctx : ∀ H Q, (te σ H fun v H1 => ctx (tC v) σ H1 Q) → ctx te σ H Q := by exact fun _ _ h => h) : Pb K b n (ctx te) σ B S := fun H c e bx hc Q q => hctx H Q (h H c e bx hc _ fun v x B1 H1 u ub r hv => by
  obtain ⟨z, hz, hp⟩ := k x r v B1 u.bb hv
  exact hp H1 u.bh Q fun w B2 H2 u2 hw => q w z B2 H2 (u.up ub.ne u2) (u2.box ub) hz hw)
theorem Ub.freeze {B H B2 H2 : Hp} (u : Ub b B H B2 H2) {a : Addr} {o : HO} (h : H2 a = some o) (hf : H a = none) : Ub b B H (upd B2 a o) H2 ∧ Ex B2 (upd B2 a o) := by
  have e2 : Ex B2 (upd B2 a o) := fun c x hc => by
    by_cases hca : c = a
    · subst hca
      have := u.bh c x hc
      rw [h] at this
      rw [upd_same]
      exact this
    · rw [upd_ne hca]
      exact hc
  refine ⟨⟨u.bb.trans e2, ex_in u.bh h, u.hh, fun c hc => ?_⟩, e2⟩
  by_cases hca : c = a
  · exact .inr (hca ▸ hf)
  · rw [upd_ne hca] at hc
    exact u.nw c hc
theorem BoxAt.frz {c : Int} {a : Addr} {o : HO} (x : BoxAt c B H b) (ne : b ≠ a) : BoxAt c (upd B a o) H b := ⟨by rw [upd_ne ne]; exact x.fb, x.bx⟩
theorem BoxAt.put {c : Int} {a : Addr} {o : HO} (x : BoxAt c B H b) (ne : b ≠ a) : BoxAt c B (upd H a o) b := ⟨x.fb, by rw [upd_ne ne]; exact x.bx⟩
/-! texts, laid as a list -/
def tStrs : List Str → TA
  | [] => tNil
  | x :: xs => tCons (tC (.str x)) (tStrs xs)
theorem tStrs_at : ∀ (xs : List Str) {H : Hp} {Q : List V → Hp → Prop}, Q (xs.map V.str) H → tStrs xs σ H Q
  | [], _, _, h => h
  | x :: xs, H, Q, h => tStrs_at xs (Q := fun vs H2 => Q (V.str x :: vs) H2) h
theorem e_strs (xs : List Str) (hz : xs.length ≤ 1000) : Pe K (tLst (tStrs xs)) σ B xs := fun H e Q q => tStrs_at xs ⟨by rw [List.length_map, sizeLine_eq]; exact Nat.le_trans hz (by decide), fun p hp => q _ _ _ (Up.new e hp) (at_list.mpr ⟨p, _, rfl, Evl.sq_of upd_same, strs_atAll _⟩)⟩
theorem e_strsT (xs : List Str) (hz : xs.length ≤ 1000) : Pe K (tTup (tStrs xs)) σ B (Tup.mk xs) := fun H e Q q => tStrs_at xs ⟨by rw [List.length_map, sizeLine_eq]; exact Nat.le_trans hz (by decide), fun p hp => q _ _ _ (Up.new e hp) (at_tup.mpr ⟨p, _, rfl, upd_same, strs_atAll _⟩)⟩
def tInts : List Int → TA
  | [] => tNil
  | x :: xs => tCons (tC (.int x)) (tInts xs)
theorem tInts_at : ∀ (xs : List Int) {H : Hp} {Q : List V → Hp → Prop}, Q (xs.map V.int) H → tInts xs σ H Q
  | [], _, _, h => h
  | x :: xs, H, Q, h => tInts_at xs (Q := fun vs H2 => Q (V.int x :: vs) H2) h
theorem e_ints (xs : List Int) (hz : xs.length ≤ 1000) : Pe K (tLst (tInts xs)) σ B xs := fun H e Q q => tInts_at xs ⟨by rw [List.length_map, sizeLine_eq]; exact Nat.le_trans hz (by decide), fun p hp => q _ _ _ (Up.new e hp) (at_list.mpr ⟨p, _, rfl, Evl.sq_of upd_same, ints_atAll _⟩)⟩
theorem e_intsT (xs : List Int) (hz : xs.length ≤ 1000) : Pe K (tTup (tInts xs)) σ B (Tup.mk xs) := fun H e Q q => tInts_at xs ⟨by rw [List.length_map, sizeLine_eq]; exact Nat.le_trans hz (by decide), fun p hp => q _ _ _ (Up.new e hp) (at_tup.mpr ⟨p, _, rfl, upd_same, ints_atAll _⟩)⟩
end
section
variable {K : PySem.W.Frag}
theorem p_retI3 {ta tb tc : TE} {σ : L2.St} {B H : Hp} {D : Ends} {i j k : Int} (h1 : Pe K ta σ B i) (h2 : Pe K tb σ B j) (h3 : Pe K tc σ B k) (e : Ex B H) (q : ∀ l B1 H1, Up B H B1 H1 → H1 l = none → D.rt (.ref l) (upd H1 l (.lst [.int i, .int j, .int k]))) : tRet (tLst (tCons ta (tCons tb (tCons tc tNil)))) D σ H :=
  a_3 h1 h2 h3 H e (fun vs H1 => vs.length ≤ sizeLine ∧ ∀ p, H1 p = none → D.rt (.ref p) (upd H1 p (.lst vs))) fun vs B2 H2 u2 hvs => by
    obtain ⟨w1, _, rfl, hw1, w2, _, rfl, hw2, w3, _, rfl, hw3, rfl⟩ := hvs
    cases at_int.mp hw1
    cases at_int.mp hw2
    cases at_int.mp hw3
    exact ⟨by show 3 ≤ sizeLine; rw [sizeLine_eq]; decide, fun p hp => q p B2 H2 u2 hp⟩
/-! ### cell_at, box -/
theorem int01 (b : Bool) : 0 ≤ (if b = true then 1 else 0 : Int) ∧ (if b = true then 1 else 0 : Int) < 2 ^ 62 := by cases b <;> exact ⟨by decide, by decide⟩
theorem abs0 (x : Int) : 0 ≤ (if x < 0 then -x else x) := by split <;> omega
def cellAt (xs : List Int) (k : Int) : Int := xs[k.toNat]?.getD 0
abbrev sp_Lcell_at (K : PySem.W.Frag) : Sp := Fn2 K (fun (_ : Sq Int) (k : Int) => 0 ≤ k) fun s k => cellAt s.items k
def N_Lcell_at : List Str := ["_law_script", "_law_k"]
def t_Lcell_at (K : PySem.W.Frag) : TS :=
  (tSeq (tIfS (tTest (tOp (rLtU K) (tVar 1) (tCB (rLenU K) (tCons (tVar 0) tNil)))) (tRet (tOp (rIxU K) (tVar 0) (tVar 1))) tNext)
    (tRet (tC (.int 0))))
theorem l_Lcell_at (vs : List V) (H : Hp) (Q : VK) (E : XK) (h : sp_Lcell_at K vs H Q E) : vs.length = 2 := Fn2.len vs H Q E h
theorem r_Lcell_at (vs : List V) (H : Hp) (Q : VK) (E : XK) (h : sp_Lcell_at K vs H Q E) : t_Lcell_at K (Ends.ret Q) (start N_Lcell_at vs) H := by
  obtain ⟨s, k, B, e, ⟨v1, _, rfl, h1, v2, _, rfl, h2, rfl⟩, hk, q⟩ := h
  obtain ⟨xs⟩ := s
  refine q_if (t_test (e_lt (e_var rfl h2) (e_lenSq (e_var rfl h1)))) e (fun hb B1 H1 u1 => ?_) fun hb B1 H1 u1 => ?_
  · have hlt : k < (xs.length : Int) := of_decide_eq_true hb
    have hi : atI xs k = some (cellAt xs k) := by
      unfold atI ixN cellAt
      rw [if_pos hk, if_pos hlt]
      show xs[k.toNat]? = _
      rw [List.getElem?_eq_getElem (by omega)]
      rfl
    exact p_ret (e_ixSq (x := cellAt xs k) (e_var rfl (Rep.mono u1.bb h1)) (e_var rfl (Rep.mono u1.bb h2)) hi) u1.bh fun v B2 H2 u2 hv => q v B2 H2 (u1.trans u2) hv
  · have hlt : ¬ k < (xs.length : Int) := of_decide_eq_false hb
    have hi : (0 : Int) = cellAt xs k := by
      unfold cellAt
      rw [List.getElem?_eq_none (by omega)]
      rfl
    show tRet (tC (.int 0)) (Ends.ret Q) (start N_Lcell_at [v1, v2]) H1
    exact p_ret (x := cellAt xs k) ((e_int (i := 0)).is hi) u1.bh fun v B2 H2 u2 hv => q v B2 H2 (u1.trans u2) hv
abbrev sp_Lbox (K : PySem.W.Frag) : Sp := fun vs H Q _ => ∃ (s : Sq Int) (k : Int) (B : Hp), Ex B H ∧ RCons K s (RCons K k RNil) vs B ∧ (0 ≤ k ∧ k ≤ 1000) ∧ ∀ b B2 H2, Up B H B2 H2 → H b = none → BoxAt 0 B2 H2 b → Q (.ref b) H2
def N_Lbox : List Str := ["_law_script", "_law_k", "_law_cell"]
def t_Lbox (K : PySem.W.Frag) : TS :=
  (tSeq (tAsg (tCall (sp_Lcell_at K) [] E0 (tCons (tVar 0) (tCons (tVar 1) tNil))) (gName 2))
    (tRet (tLst (tCons (tOp (rMulU) (tCB (rAbs) (tCons (tVar 2) tNil)) (tCB (rInt1) (tCons (tOp (rGeU K) (tCB (rAbs) (tCons (tVar 2) tNil)) (tOp (rI CPow fun i j => .int (i ^ j.toNat)) (tC (.int 10)) (tC (.int 18)))) tNil))) (tCons (tOp (rAddU K) (tOp (rAddU K) (tOp (rI (fun _ j => 0 < j) fun i j => .int (i % j)) (tVar 2) (tC (.int 2305843009213693951))) (tOp (rMulU) (tC (.int 15485863)) (tVar 1))) (tC (.int 29))) (tCons (tC (.int 0)) tNil))))))
theorem l_Lbox (vs : List V) (H : Hp) (Q : VK) (E : XK) (h : sp_Lbox K vs H Q E) : vs.length = 2 := by
  obtain ⟨x, y, B, e, ⟨v, r, rfl, h1, v2, r2, rfl, h2, rfl⟩, _⟩ := h
  rfl
theorem r_Lbox (vs : List V) (H : Hp) (Q : VK) (E : XK) (h : sp_Lbox K vs H Q E) : t_Lbox K (Ends.ret Q) (start N_Lbox vs) H := by
  obtain ⟨s, k, B, e, ⟨v1, _, rfl, h1, v2, _, rfl, h2, rfl⟩, ⟨k0, k1⟩, q⟩ := h
  refine q_set (e_call2 (e_var rfl h1) (e_var rfl h2) k0) e fun v B1 H1 u1 hv => ?_
  generalize cellAt s.items k = x at hv
  have h2' := Rep.mono u1.bb h2
  have p1 : ∃ g : Int, 0 ≤ g ∧ Pe K (tOp (rMulU) (tCB (rAbs) (tCons (tVar 2) tNil)) (tCB (rInt1) (tCons (tOp (rGeU K) (tCB (rAbs) (tCons (tVar 2) tNil)) (tOp (rI CPow fun i j => .int (i ^ j.toNat)) (tC (.int 10)) (tC (.int 18)))) tNil))) [some v1, some v2, some v] B1 g := by
    have hp : Pe K (tOp (rI CPow fun i j => .int (i ^ j.toNat)) (tC (.int 10)) (tC (.int 18))) [some v1, some v2, some v] B1 ((10 : Int) ^ (18 : Int).toNat) := e_powI e_int e_int ⟨by decide, by decide, by decide⟩
    generalize (10 : Int) ^ (18 : Int).toNat = z at hp
    have hg := e_intB (e_ge (e_abs (e_var (σ := [some v1, some v2, some v]) (i := 2) rfl hv)) hp)
    exact ⟨_, Int.mul_nonneg (abs0 x) (int01 _).1, e_mulI (e_abs (e_var rfl hv)) hg (cmul_small (int01 _).1 (int01 _).2)⟩
  have p2 : ∃ m : Int, 0 ≤ m ∧ m < 2 ^ 62 ∧ Pe K (tOp (rAddU K) (tOp (rAddU K) (tOp (rI (fun _ j => 0 < j) fun i j => .int (i % j)) (tVar 2) (tC (.int 2305843009213693951))) (tOp (rMulU) (tC (.int 15485863)) (tVar 1))) (tC (.int 29))) [some v1, some v2, some v] B1 m := by
    have e1 := Int.emod_nonneg x (b := 2305843009213693951) (by decide)
    have e2 := Int.emod_lt_of_pos x (b := 2305843009213693951) (by decide)
    exact ⟨_, by omega, by omega, e_addI (e_addI (e_modI (e_var rfl hv) e_int (by decide)) (e_mulI e_int (e_var rfl h2') (cmul_small k0 (by omega)))) e_int⟩
  obtain ⟨g, g0, p1⟩ := p1
  obtain ⟨m, m0, m1, p2⟩ := p2
  refine p_retI3 p1 p2 e_int u1.bh fun l B2 H2 u2 hl => ?_
  have u := u1.trans u2
  exact q l B2 _ (u.hold hl) (Evl.fresh_back u.hh hl) ⟨Evl.fresh_back u.bh hl, g, m, 0, upd_same, g0, m0, m1, by decide, by decide⟩
/-! ### of -/
abbrev sp_Lof (K : PySem.W.Frag) : Sp := fun vs H Q E => ∃ (α : Type) (_ : Rep α), FnB1 K 1 (fun s : Sq α => s.items ≠ [] ∧ s.items.length ≤ 1000000) (fun s (y : α) => y ∈ s.items) vs H Q E
def N_Lof : List Str := ["_law_box_here", "_law_some"]
def t_Lof (K : PySem.W.Frag) : TS :=
  (tRet (tOp (rIxU K) (tVar 1) (tCall (sp_Ltake K) [] E0 (tCons (tVar 0) (tCons (tCB (rLenU K) (tCons (tVar 1) tNil)) tNil)))))
theorem l_Lof (vs : List V) (H : Hp) (Q : VK) (E : XK) (h : sp_Lof K vs H Q E) : vs.length = 2 := by
  obtain ⟨α, _, h⟩ := h
  exact FnB1.len vs H Q E h
theorem r_Lof (vs : List V) (H : Hp) (Q : VK) (E : XK) (h : sp_Lof K vs H Q E) : t_Lof K (Ends.ret Q) (start N_Lof vs) H := by
  obtain ⟨α, _, b, B, c, s, e, bx, hc, ⟨v, rfl, hv⟩, ⟨hn, hn2⟩, q⟩ := h
  obtain ⟨xs⟩ := s
  have hpos : 0 < xs.length := List.length_pos_iff.mpr hn
  have hn2' : xs.length ≤ 1000000 := hn2
  refine ⟨_, rfl, ?_⟩
  refine e_callB1 (b := b) rfl (e_lenSq (e_var rfl hv)) ⟨by omega, by omega⟩ (by decide) H c e bx hc _ fun w y B1 H1 u1 ub1 ⟨y0, y1⟩ hw => ?_
  have hy : xs[y.toNat]? = some (xs[y.toNat]'(by omega)) := List.getElem?_eq_getElem (by omega)
  refine e_ixSq (σ := start N_Lof [.ref b, v]) (x := xs[y.toNat]'(by omega)) (e_const (Rep.mono u1.bb hv)) (e_const hw) ?_ H1 u1.bh _ fun z B2 H2 u2 hz => ?_
  · unfold atI ixN
    rw [if_pos y0, if_pos y1]
    exact hy
  · exact q z _ B2 H2 (u1.up ub1.ne u2) (u2.box ub1) (List.getElem_mem _) hz
theorem e_of {σ : L2.St} {B : Hp} {te : TE} {b : Addr} {i : Nat} {E : XK} {α : Type} [Rep α] {xs : List α} (hi : σ[i]? = some (some (.ref b))) (h : Pe K te σ B (Sq.mk xs)) (hn : xs ≠ []) (hz : xs.length ≤ 1000000) : Pb K b 1 (tCall (sp_Lof K) [] E (tCons (tVar i) (tCons te tNil))) σ B (fun y => y ∈ xs) := fun H c e bx hc Q q =>
  ⟨_, hi, h H e _ fun v B2 H2 u hv => ⟨α, inferInstance, b, B2, c, Sq.mk xs, u.bh, u.box bx, hc, ⟨v, rfl, hv⟩, ⟨hn, hz⟩, fun w y B3 H3 u3 ub3 r3 hw => q w y B3 H3 (u.ub.trans (u.box bx).ne u3) ub3 r3 hw⟩⟩
end
end Ob

set_option Elab.async false
set_option linter.all false
set_option maxRecDepth 100000
set_option maxHeartbeats 4000000
/-! D3: strewn, names, presses. -/
namespace Ob
open PySem L2
open Evl (Ex)
open PySem.W (Datum Tup DatumOrd)
theorem erase_perm {α : Type} : ∀ {xs : List α} {k : Nat} {x : α}, xs[k]? = some x → (x :: xs.eraseIdx k).Perm xs
  | [], _, _, h => by simp at h
  | y :: ys, 0, x, h => by
    simp at h
    subst h
    exact List.Perm.refl _
  | y :: ys, k + 1, x, h => by
    have h' : ys[k]? = some x := by simpa using h
    show (x :: y :: ys.eraseIdx k).Perm (y :: ys)
    exact (List.Perm.swap y x _).trans ((erase_perm h').cons y)
section
variable {K : PySem.W.Frag}
/-! ### strewn -/
abbrev sp_Lstrewn (K : PySem.W.Frag) : Sp := fun vs H Q E => ∃ (α : Type) (_ : DecidableEq α) (_ : Datum α), Datum.depth (List α) ≤ 64 ∧ FnB1 K 10000 (fun s : Sq α => s.items.length ≤ 10000) (fun s (ys : List α) => ys.Perm s.items) vs H Q E
def N_Lstrewn : List Str := ["_law_box_here", "_law_some", "_law_left_here", "_law_drawn"]
def t_Lstrewn (K : PySem.W.Frag) : TS :=
  (tSeq (tPar 2 3 (tCons (tCB (rListU K) (tCons (tVar 1) tNil)) (tCons (tLst tNil) tNil)))
    (tSeq (tWhile (tTest (tOp (rNeP K) (tVar 2) (tLst tNil))) (tDrop (tBM K "list" (rAppend) (tVar 3) (tCons (tBM K "list" (rPopAt) (tVar 2) (tCons (tCall (sp_Ltake K) [] E0 (tCons (tVar 0) (tCons (tCB (rLenU K) (tCons (tVar 2) tNil)) tNil))) tNil)) tNil))))
    (tRet (tVar 3))))
theorem l_Lstrewn (vs : List V) (H : Hp) (Q : VK) (E : XK) (h : sp_Lstrewn K vs H Q E) : vs.length = 2 := by
  obtain ⟨α, _, _, _, h⟩ := h
  exact FnB1.len vs H Q E h
structure StrI {α : Type} [DecidableEq α] [Datum α] (K : PySem.W.Frag) (b : Addr) (c : Int) (B H : Hp) (r f : Addr) (xs rest found : List α) (B' H' : Hp) : Prop where
  u : Ub b B H B' H'
  bx : BoxAt (c + found.length) B' H' b
  br : B' r = none
  bf : B' f = none
  hr : ∃ vr, H' r = some (.lst vr) ∧ AtAll K B' vr rest
  hf : ∃ vf, H' f = some (.lst vf) ∧ AtAll K B' vf found
  pm : (found ++ rest).Perm xs
theorem r_Lstrewn (vs : List V) (H : Hp) (Q : VK) (E : XK) (h : sp_Lstrewn K vs H Q E) : t_Lstrewn K (Ends.ret Q) (start N_Lstrewn vs) H := by
  obtain ⟨α, _, _, hd, b, B, c, s, e, bx, hc, ⟨v, rfl, hv⟩, hn, q⟩ := h
  obtain ⟨xs⟩ := s
  have hn' : xs.length ≤ 10000 := hn
  -- the two lists
  obtain ⟨a, vr, rfl, hs, hx⟩ := hv
  refine ⟨_, rfl, .inl ⟨a, vr, rfl, hs.imp (Evl.ex_l e) (ex_tx e), fun r hr => ?_⟩⟩
  have u1 : Up B H B (upd H r (.lst vr)) := (Up.refl e).hold hr
  have br : B r = none := Evl.fresh_back e hr
  refine ⟨Nat.zero_le _, fun f hf => ⟨.ref r, .ref f, rfl, ?_⟩⟩
  have hfH : H f = none := Evl.fresh_back u1.hh hf
  have bf : B f = none := Evl.fresh_back e hfH
  have hrf : r ≠ f := fun z => by rw [← z, upd_same] at hf; cases hf
  have hbne := bx.ne
  have rb : r ≠ b := fun z => hbne (z ▸ hr)
  have fb : f ≠ b := fun z => hbne (z ▸ hfH)
  have u2 : Up B H B (upd (upd H r (.lst vr)) f (.lst [])) := u1.hold hf
  refine ⟨fun m σ' H' => ∃ rest found B', σ' = [some (.ref b), some (.ref a), some (.ref r), some (.ref f)] ∧ m = rest.length ∧ StrI K b c B H r f xs rest found B' H',
    ⟨xs.length, xs, [], B, rfl, rfl, u2.ub, (u2.box bx).le (by simp), br, bf, ⟨vr, by rw [upd_ne hrf, upd_same], hx⟩, ⟨[], upd_same, .nil⟩, List.Perm.refl _⟩, ?_⟩
  rintro m σ' H' ⟨rest, found, B', rfl, rfl, I⟩
  obtain ⟨wr, h1r, h2r⟩ := I.hr
  obtain ⟨wf, h1f, h2f⟩ := I.hf
  have hlen : found.length + rest.length = xs.length := by
    have := I.pm.length_eq
    rw [List.length_append] at this
    exact this
  have hlist : Rep.at_ K (upd B' r (.lst wr)) (.ref r) rest := at_list.mpr ⟨r, wr, rfl, Evl.sq_of upd_same, h2r.mono (Ex.new I.br)⟩
  refine (t_test (e_ne (e_var rfl hlist) (e_lst0 (α := α)) hd)).thaw I.br I.u.bh h1r fun H2 u3 h2 => ?_
  have I2f := (u3.out I.bf h1f).2
  cases hb : (!decide (rest = [])) with
  | true =>
    rw [if_pos rfl]
    have hpos : 0 < rest.length := by
      cases rest with
      | nil => simp at hb
      | cons _ _ => exact Nat.zero_lt_succ _
    refine ⟨_, fun _ _ h => h, ?_⟩
    refine ⟨_, rfl, .inl ⟨rfl, wf, Evl.sq_of I2f⟩, ?_⟩
    refine ⟨_, rfl, .inl ⟨rfl, wr, Evl.sq_of h2⟩, ?_⟩
    refine ⟨_, rfl, _, rfl, .inl ⟨.ref r, rest.length, rfl, .inl ⟨wr, Evl.sq_of h2, h2r.length.symm⟩, ?_⟩⟩
    have bx2 : BoxAt (c + found.length) B' H2 b := u3.box I.bx
    refine ⟨b, B', c + found.length, (rest.length : Int), u3.bh, bx2, by omega, ⟨_, rfl, at_int.mpr rfl⟩, ⟨by omega, by omega⟩, fun w y B3 H3 u4 bx4 ⟨y0, y1⟩ hw => ?_⟩
    cases at_int.mp hw
    obtain ⟨b3r, h3r⟩ := u4.out I.br h2 rb
    obtain ⟨b3f, h3f⟩ := u4.out I.bf I2f fb
    have hk : rest[y.toNat]? = some (rest[y.toNat]'(by omega)) := List.getElem?_eq_getElem (by omega)
    obtain ⟨z, hz, hzx⟩ := h2r.get hk
    have hix : ixN wr.length y = some y.toNat := by
      unfold ixN
      rw [if_pos y0, if_pos (by rw [h2r.length]; exact y1)]
    refine ⟨r, wr, y, y.toNat, z, rfl, rfl, h3r, by omega, by omega, (ixN_seq hix).1, hz, ?_⟩
    refine ⟨f, wf, z, rfl, rfl, by rw [upd_ne hrf.symm]; exact h3f, ?_, ?_⟩
    · rw [h2f.length, sizeLine_eq]
      omega
    · have w1 : Ub b B H B3 H3 := (I.u.up I.bx.ne u3).trans bx2.ne u4
      refine ⟨rest.length - 1, by omega, rest.eraseIdx y.toNat, found ++ [rest[y.toNat]'(by omega)], B3, rfl, ?_, (w1.put hr b3r).put hfH b3f, ?_, b3r, b3f, ⟨_, by rw [upd_ne hrf, upd_same], (h2r.mono u4.bb).eraseIdx _⟩, ⟨_, upd_same, (h2f.mono u4.bb).snoc (Rep.mono u4.bb hzx)⟩, ?_⟩
      · rw [List.length_eraseIdx, if_pos (by omega)]
      · refine BoxAt.put (BoxAt.put (bx4.le ?_) rb.symm) fb.symm
        rw [List.length_append, List.length_singleton]
        omega
      · refine List.Perm.trans ?_ I.pm
        rw [List.append_assoc]
        exact List.Perm.append_left found (erase_perm hk)
  | false =>
    rw [if_neg (by decide)]
    have he : rest = [] := by simpa using hb
    subst he
    have w1 := I.u.up I.bx.ne u3
    have bx2 : BoxAt (c + found.length) B' H2 b := u3.box I.bx
    obtain ⟨w2, e2⟩ := w1.freeze I2f hfH
    refine ⟨_, rfl, ?_⟩
    refine q (.ref f) found _ _ w2 ((bx2.frz fb.symm).le ?_) ?_ (at_list.mpr ⟨f, wf, rfl, Evl.sq_of upd_same, h2f.mono e2⟩)
    · have : found.length + 0 = xs.length := hlen
      omega
    · have := I.pm
      rw [List.append_nil] at this
      exact this
theorem e_strewn {σ : L2.St} {B : Hp} {te : TE} {b : Addr} {i : Nat} {E : XK} {α : Type} [DecidableEq α] [Datum α] {xs : List α} (hi : σ[i]? = some (some (.ref b))) (h : Pe K te σ B (Sq.mk xs)) (hn : xs.length ≤ 10000) (hz : Datum.depth (List α) ≤ 64 := by decide) : Pb K b 10000 (tCall (sp_Lstrewn K) [] E (tCons (tVar i) (tCons te tNil))) σ B (fun ys : List α => ys.Perm xs) := fun H c e bx hc Q q =>
  ⟨_, hi, h H e _ fun v B2 H2 u hv => ⟨α, inferInstance, inferInstance, hz, b, B2, c, Sq.mk xs, u.bh, u.box bx, hc, ⟨v, rfl, hv⟩, hn, fun w y B3 H3 u3 ub3 r3 hw => q w y B3 H3 (u.ub.trans (u.box bx).ne u3) ub3 r3 hw⟩⟩
/-! ### names -/
def poolN : List Str := ["a", "b", "c", "d", "e", "ab", "ba", "abc", "fan", "fans", "lamp", "x", "zz", "zzzzzz"]
abbrev sp_Lnames (K : PySem.W.Frag) : Sp := FnB1 K 10000 (fun n : Int => 1 ≤ n ∧ n ≤ 14) (fun n (ys : List Str) => Asc ys ∧ (ys.length : Int) = n)
def N_Lnames : List Str := ["_law_box_here", "_law_size", "_law_pool"]
def t_Lnames (K : PySem.W.Frag) : TS :=
  (tSeq (tAsg (tLst (tCons (tC (.str "a")) (tCons (tC (.str "b")) (tCons (tC (.str "c")) (tCons (tC (.str "d")) (tCons (tC (.str "e")) (tCons (tC (.str "ab")) (tCons (tC (.str "ba")) (tCons (tC (.str "abc")) (tCons (tC (.str "fan")) (tCons (tC (.str "fans")) (tCons (tC (.str "lamp")) (tCons (tC (.str "x")) (tCons (tC (.str "zz")) (tCons (tC (.str "zzzzzz")) tNil))))))))))))))) (gName 2))
    (tRet (tCB (rSortU K) (tCons (tSl (rSlU K) (tCall (sp_Lstrewn K) [] E0 (tCons (tVar 0) (tCons (tVar 2) tNil))) tNoPart (tPart (tVar 1))) tNil))))
theorem l_Lnames (vs : List V) (H : Hp) (Q : VK) (E : XK) (h : sp_Lnames K vs H Q E) : vs.length = 2 := FnB1.len vs H Q E h
theorem r_Lnames (vs : List V) (H : Hp) (Q : VK) (E : XK) (h : sp_Lnames K vs H Q E) : t_Lnames K (Ends.ret Q) (start N_Lnames vs) H := by
  obtain ⟨b, B, c, n, e, bx, hc, ⟨v, rfl, hv⟩, ⟨n1, n2⟩, q⟩ := h
  refine q_set (K := K) (e_strs poolN (by decide)) e fun w B1 H1 u1 hw => ?_
  refine p_retB (b := b) (n := 10000) (c := c) (R := fun ys : List Str => Asc ys ∧ (ys.length : Int) = n) (b_lift (fun te => tCB (rSortU K) (tCons (tSl (rSlU K) te tNoPart (tPart (tVar 1))) tNil)) (e_strewn (b := b) (i := 0) (xs := poolN) rfl ((e_var rfl hw).imp sq_list) (by decide)) fun ys hp v2 B2 b2 hv2 => ?_) u1.bh (u1.box bx) hc fun v3 x B3 H3 u3 ub r3 hv3 => q v3 x B3 H3 (u1.ub.trans (u1.box bx).ne u3) ub r3 hv3
  have hlen : ys.length = 14 := hp.length_eq
  have hnd : ys.Nodup := hp.nodup_iff.mpr (by decide)
  refine ⟨sortD (ys.take n.toNat), ⟨sortD_asc (hnd.sublist (List.take_sublist _ _)), ?_⟩, e_sortSq ((((e_slL (e_const hv2) o_none (o_some (e_var rfl (Rep.mono (u1.bb.trans b2) hv))))).is ?_).imp sq_list) (sortable_str _)⟩
  · rw [sortD_len, List.length_take]
    omega
  · rw [show n = ((n.toNat : Nat) : Int) by omega, cutA_to]
    rfl
end
end Ob

set_option Elab.async false
set_option linter.all false
set_option maxRecDepth 100000
set_option maxHeartbeats 4000000
/-! Rr: a list that is read (frozen or not) times 0 or 1. -/
namespace L2
open PySem PySem.Spec PyProof.Rows
section
variable {X : Cx}
def rRepR : R2 := fun x y H Q => ∃ l k xs, x = .ref l ∧ y = .int k ∧ Rd H l (.lst xs) ∧ -(2 ^ 63) ≤ k ∧ k < 2 ^ 63 ∧ xs.length * k.toNat ≤ sizeLine ∧
  ∀ p, H p = none → Q (.ref p) (upd H p (.lst (List.replicate k.toNat xs).flatten))
theorem op_repR : OpR X (binaryOp .Mult) rRepR := by
  intro pins s σ H x y v u Q I rx ry h
  obtain ⟨l, k, xs, rfl, rfl, hR, h1, h2, hz, q⟩ := h
  cases rx
  obtain ⟨t, rfl⟩ := ry
  obtain ⟨z, its, n, r, e⟩ := hR.ok I.hok
  have hl := r.length
  have hlen : its.toArray.size * k.toNat ≤ sizeLine := by rw [List.size_toArray, ← hl]; exact hz
  have hcap : ¬ its.toArray.size * k.toNat > (2 ^ 63 - 1) / 8 := by
    have : (sizeLine : Nat) ≤ (2 ^ 63 - 1) / 8 := by decide
    omega
  have hfit : ¬ (!Builtin.List.listFitsIndex k) = true := by
    rw [fitsIndex_both h1 h2]
    exact Bool.false_ne_true
  have hlong : ¬ Builtin.List.listTooLong (its.toArray.size * k.toNat) = true := by
    rw [notLongL hlen]
    exact Bool.false_ne_true
  have hnew : List.foldl (fun x1 x2 => x1 ++ x2) #[] (List.replicate (if its.toArray.isEmpty = true then 0 else k.toNat) its.toArray) = (List.replicate k.toNat its).flatten.toArray := by
    have f0 : ∀ m : Nat, List.foldl (fun x1 x2 => x1 ++ x2) #[] (List.replicate m its.toArray) = (List.replicate m its).flatten.toArray := fun m => by
      have := foldl_rep its m []
      rw [List.nil_append] at this
      exact this
    rw [f0]
    cases its with
    | nil => simp
    | cons a r' => rw [if_neg (by simp)]
  refine wpAny_binaryOp_repeat_ref (T := "list") (U := "int") (by decide) ⟨_, e, rfl⟩ (fun s' => typeIs_int s' k t) noFill_list_mul F.fills_int_mul F.slot_int_rmul repeat_list F.slot_int_index.lookup
    (call_meets F.slot_int_rmul (typeIs_int s k t) F.entry_int_rmul (F.args_int_rmul_2 _ _) (int___rmul___int_list k t l its.toArray n)
      ⟨e, rfl, ⟨_, e, rfl⟩, call_meets F.slot_list_mul ⟨_, e, rfl⟩ F.entry_list_mul (F.args_list_mul_2 _ _) (AutoListH.list___mul___list_int_3 l its.toArray n k t hfit hcap hlong) ⟨e, ?_⟩⟩)
  rw [hnew]
  exact ⟨.ref _, _, I.lnew (t' := s.toks) (r.rep k.toNat) (by rw [PyProof.Rows.lm_len_rep_flat, Nat.mul_comm]; exact hz), rfl, q _ I.fresh⟩
end
end L2
namespace Ob
open PySem L2
open Evl (Ex)
open PySem.W (Datum Tup DatumOrd)
/-- a dict from texts to lists of texts, each list tracked -/
structure TabR where
  kvs : List (Str × List Str)
def TabRAt (H : Hp) (ks : List (Key × V)) (d : List (Str × List Str)) : Prop := Paired (fun (p : Key × V) (q : Str × List Str) => p.1 = .inr q.1 ∧ ∃ l, p.2 = .ref l ∧ Rd H l (.lst (q.2.map V.str))) ks d
instance : Rep TabR := ⟨fun K H v d => ∃ a ks, v = .ref a ∧ Rd H a (.dK ks) ∧ ks.length ≤ 1000000 ∧ TabRAt H ks d.kvs,
  fun e ⟨a, ks, h1, h2, hz, h3⟩ => ⟨a, ks, h1, e.1 a _ rfl h2, hz, Paired.mapP h3 fun _ _ ⟨h, l, h4, h5⟩ => ⟨h, l, h4, e.1 l _ rfl h5⟩⟩⟩
theorem tabR_dic {K : PySem.W.Frag} {H : Hp} {v : V} {d : List (Str × List Str)} (h : Rep.at_ K H v (TabR.mk d)) : Rep.at_ K H v (Dic.mk d) := by
  obtain ⟨a, ks, h1, h2, hz, h3⟩ := h
  exact ⟨a, ks, h1, h2, hz, Paired.mapP h3 fun _ _ ⟨h, l, h4, h5⟩ => ⟨h, by rw [h4]; exact at_list.mpr ⟨l, _, rfl, .inl h5, strs_atAll _⟩⟩⟩
theorem TabRAt.find {H : Hp} : ∀ {ks : List (Key × V)} {d : List (Str × List Str)}, TabRAt H ks d → ∀ {k : Str} {x : List Str}, d.lookup k = some x → ∃ l, valV ks (.inr k) = some (.ref l) ∧ Rd H l (.lst (x.map V.str))
  | _, _, .nil, k, x, h => by cases h
  | _, _, .cons (a := p) (b := q) ⟨h1, l, h2, h3⟩ t, k, x, h => by
    obtain ⟨pk, pv⟩ := p
    obtain ⟨qk, qv⟩ := q
    simp only at h1 h2 h3
    subst h1 h2
    by_cases e : k = qk
    · subst e
      rw [List.lookup_cons_self] at h
      cases h
      exact ⟨l, valV_pos rfl, h3⟩
    · have h' : List.lookup k ((qk, qv) :: _) = _ := h
      rw [List.lookup_cons, beq_eq_false_iff_ne.mpr e] at h'
      obtain ⟨v, e1, e2⟩ := TabRAt.find t (show List.lookup k _ = some x from h')
      exact ⟨v, by rw [valV_neg (fun z => e (Sum.inr.inj z).symm)]; exact e1, e2⟩
section
variable {K : PySem.W.Frag} {σ : L2.St} {B : Hp} {ta tb tc : TE}
/-- d[k] * int(c) -/
theorem e_tabRep {d : TabR} {k : Str} {x : List Str} {c : Bool} (ha : Pe K ta σ B d) (hb : Pe K tb σ B k) (hi : d.kvs.lookup k = some x) (hz : x.length ≤ 1000000) (hc : Pe K tc σ B (if c then 1 else 0 : Int)) : Pe K (tOp rRepR (tOp (rIxU K) ta tb) tc) σ B (if c then x else []) := fun H e Q q =>
  ha H e _ fun v B1 H1 u1 hv => (hb.mono u1.bb) H1 u1.bh _ fun w B2 H2 u2 hw => by
    obtain ⟨a, ks, rfl, hr, _, hd⟩ := Rep.mono u2.bb hv
    obtain ⟨l, hl1, hl2⟩ := hd.find hi
    cases at_str.mp hw
    refine .inr (.inr (.inr ⟨a, .ref l, rfl, .inl ⟨ks, .inr k, Evl.ex_rd u2.bh hr, rfl, hl1.symm⟩, (hc.mono (u1.bb.trans u2.bb)) H2 u2.bh _ fun z B3 H3 u3 hz3 => ?_⟩))
    cases at_int.mp hz3
    have hl3 := Evl.ex_rd u3.bh (Evl.ex_rd u3.bb hl2)
    have u := (u1.trans u2).trans u3
    cases c with
    | false =>
      refine ⟨l, 0, x.map V.str, rfl, rfl, hl3, by decide, by decide, by simp, fun p hp => ?_⟩
      exact q _ _ _ (u.then hp) (at_list.mpr ⟨p, [], rfl, Evl.sq_of upd_same, .nil⟩)
    | true =>
      refine ⟨l, 1, x.map V.str, rfl, rfl, hl3, by decide, by decide, ?_, fun p hp => ?_⟩
      · rw [List.length_map]
        exact Nat.le_trans (by show x.length * 1 ≤ 1000000; omega) (by rw [sizeLine_eq]; decide)
      · have e1 : (List.replicate (1 : Int).toNat (x.map V.str)).flatten = x.map V.str := by
          show (List.replicate 1 (x.map V.str)).flatten = _
          simp
        rw [e1]
        exact q _ _ _ (u.then hp) (at_list.mpr ⟨p, _, rfl, Evl.sq_of upd_same, strs_atAll _⟩)
end
end Ob

set_option Elab.async false
set_option linter.all false
set_option maxRecDepth 100000
set_option maxHeartbeats 4000000
/-! D4w: the wired family's table of rivals. -/
namespace Ob
open PySem L2
open Evl (Ex)
open PySem.W (Datum Tup DatumOrd)
section
variable {K : PySem.W.Frag} {H B B' : Hp} {v : V} {σ : L2.St} {te ta tb tc tk tv : TE} {tt tt1 tu : TT} {b : Addr} {n m : Int}
/-- an expression around a reading that draws first, and draws again -/
theorem b_liftB {α β : Type} [Rep α] [Rep β] {R : α → Prop} {S : β → Prop} (ctx : TE → TE) (h : Pb K b n te σ B R) (k : ∀ x, R x → ∀ v B', Ex B B' → Rep.at_ K B' v x → Pb K b m (ctx (tC v)) σ B' S) (hm : 0 ≤ m := by decide)
    (hctx : ∀ H Q, (te σ H fun v H1 => ctx (tC v) σ H1 Q) → ctx te σ H Q := by exact fun _ _ h => h) : Pb K b (n + m) (ctx te) σ B S := fun H c e bx hc Q q => hctx H Q (h H c e bx (by omega) _ fun v x B1 H1 u ub r hv =>
  k x r v B1 u.bb hv H1 (c + n) u.bh ub (by omega) Q fun w z B2 H2 u2 ub2 hz hw => q w z B2 H2 (u.trans ub.ne u2) (ub2.le (by omega)) hz hw)
theorem q_forB {α : Type} [Rep α] {R : α → Prop} {g : TG} {tu tz : TS} {D : Ends} {c : Int} (h : Pb K b n te σ B R) (e : Ex B H) (bx : BoxAt c B H b) (hc : c + n ≤ 2 ^ 40) (k : ∀ v ys B0 H0, R ys → Ub b B H B0 H0 → BoxAt (c + n) B0 H0 b → Rep.at_ K B0 v ys → tSeq (tFor (iSeq K (tC v)) g tu) tz D σ H0) : tSeq (tFor (iSeq K te) g tu) tz D σ H :=
  h H c e bx hc (fun x H1 => ∃ a, x = .ref a ∧ (((∃ xs, SqL K H1 a xs) ∧ _) ∨ ((∃ xs, SqT K H1 a xs) ∧ _))) fun v ys B0 H0 u ub r hv => k v ys B0 H0 r u ub hv
theorem rd_eq {α : Type} [DecidableEq α] [Datum α] {x y : α} (hz : Datum.depth α ≤ 64 := by decide) : RD K (rEqP K) x y (decide (x = y)) :=
  rd_val (.bl (decide (x = y))) (fun _ => at_bl.mpr rfl) fun B H v w e h1 h2 Q q => ⟨_, _, dp_mono e _ _ h1, dp_mono e _ _ h2, Datum.plain x, Datum.plain y, Nat.le_trans (Datum.depth_le x) hz, by rw [Datum.eqv]; exact q⟩
theorem rd_addI {i j : Int} : RD K (rAddU K) i j (i + j) := rd_val (.int (i + j)) (fun _ => at_int.mpr rfl) fun B H v w e h1 h2 Q q => .inl ⟨i, j, at_int.mp h1, at_int.mp h2, q⟩
/-- a comprehension whose item draws -/
theorem b_lcR {γ β : Type} [Rep γ] [DecidableEq β] [Datum β] {wi : TI} {g : TG} {vs : List Nat} {xs : List γ} {S : β → Prop} (h : ItD K wi σ B xs) (hz : xs.length ≤ 1000000) (hn : 0 ≤ n)
    (ht : ∀ x ∈ xs, ∀ v B1, Ex B B1 → Rep.at_ K B1 v x → ∃ σ2, (∀ H (Q : L2.St → Hp → Prop), Ex B1 H → Q σ2 H → g v (wipe σ vs) H Q) ∧ wipe σ2 vs = wipe σ vs ∧ Pb K b n te σ2 B1 S) :
    Pb K b (n * xs.length) (tLc wi g tYes te vs) σ B (fun ys : List β => ys.length = xs.length ∧ ∀ y ∈ ys, S y) := fun H c e bx hc Q q =>
  h H e _ fun J B1 H1 G Y up W hG hY D hD => by
    have hDH : H D = none := Evl.fresh_back up.hh hD
    have hDB : B1 D = none := Evl.fresh_back up.bh hD
    have bx1 := up.box bx
    have hne : b ≠ D := fun z => bx1.ne (z ▸ hD)
    have hmul : ∀ i : Nat, i ≤ xs.length → n * (i : Int) ≤ n * (xs.length : Int) := fun i hi => Int.mul_le_mul_of_nonneg_left (by omega) hn
    refine walk_w W (fun i H' => ∃ Bi ws out, Ex B1 Bi ∧ Ub b B1 H1 Bi H' ∧ BoxAt (c + n * (i : Int)) Bi H' b ∧ Bi D = none ∧ H' D = some (.lst ws) ∧ AtAll K Bi ws out ∧ out.length = i ∧ ∀ y ∈ out, S y)
      ⟨B1, [], [], Ex.refl _, (Ub.refl up.bh).put hD hDB, (bx1.put hne).le (by simp), hDB, upd_same, .nil, rfl, fun _ h => (by cases h)⟩ (fun i H' _ p => ?_) (fun i x Hx H' hi p hy => ?_) (fun H' p => ?_)
    · obtain ⟨Bi, ws, out, b1, u, _⟩ := p
      exact hG H' (b1.trans u.bh)
    · obtain ⟨Bi, ws, out, b1, u, ubi, bD, eD, hA, ho, hS⟩ := p
      obtain ⟨d, hd, hB⟩ := hY i x Hx H' hi (b1.trans u.bh) hy
      obtain ⟨B2, u2, hx⟩ := hB Bi b1 u.bh
      obtain ⟨o1, o2⟩ := u2.out bD eD
      obtain ⟨σ2, hg, hw, hte⟩ := ht d (mem_of_get hd) x B2 ((up.bb.trans b1).trans u2.bb) hx
      refine hg H' _ u2.bh ⟨hw, ?_⟩
      have hi1 := hmul (i + 1) hi
      have e1 : n * ((i + 1 : Nat) : Int) = n * (i : Int) + n := by
        rw [show ((i + 1 : Nat) : Int) = (i : Int) + 1 by omega, Int.mul_add, Int.mul_one]
      refine hte H' (c + n * (i : Int)) u2.bh (u2.box ubi) (by omega) _ fun w y B3 H3 u3 ub3 r3 hw3 => ⟨ws, (u3.out o1 o2 hne.symm).2, ?_, B3, ws ++ [w], out ++ [y], (b1.trans u2.bb).trans u3.bb, ?_, ?_, (u3.out o1 o2 hne.symm).1, upd_same, ?_, ?_, ?_⟩
      · rw [hA.length, ho, sizeLine_eq]
        omega
      · exact ((u.up ubi.ne u2).trans (u2.box ubi).ne u3).put hD (u3.out o1 o2 hne.symm).1
      · exact (ub3.le (by omega)).put hne
      · exact (hA.mono (u2.bb.trans u3.bb)).snoc hw3
      · rw [List.length_append, List.length_singleton, ho]
      · intro z hz
        rcases List.mem_append.mp hz with hz | hz
        · exact hS z hz
        · rw [List.mem_singleton] at hz
          rw [hz]
          exact r3
    · obtain ⟨Bi, ws, out, b1, u, ubi, bD, eD, hA, ho, hS⟩ := p
      obtain ⟨u4, e4⟩ := (up.ub.trans bx1.ne u).freeze eD hDH
      exact q (.ref D) out _ H' u4 (ubi.frz hne) ⟨ho, hS⟩ (at_list.mpr ⟨D, ws, rfl, Evl.sq_of upd_same, hA.mono e4⟩)
end
section
variable {K : PySem.W.Frag}
theorem rangeI_len (lo : Int) (n : Nat) : (rangeI lo n).length = n := by simp [rangeI]
/-! ### the law's table of rivals -/
def lawTab (p : Pan) : Dic (List Str) := ⟨p.sw.map fun s => (s, raw p.ex s)⟩
abbrev sp_Ltable (K : PySem.W.Frag) : Sp := Fn1 K PanOk fun p => TabR.mk (lawTab p).kvs
def N_Ltable : List Str := ["_law_wired_here", "_law_table_here", "_law_name", "_law_mate"]
def t_Ltable (K : PySem.W.Frag) : TS :=
  (tSeq (tAsg (tCB (rDictP K) (tCons (tLc (iSeq K (tOp (rIxU K) (tVar 0) (tC (.int 0)))) (gName 2) tYes (tTup (tCons (tVar 2) (tCons (tLst tNil) tNil))) [2]) tNil)) (gName 1))
    (tSeq (tFor (iSeq K (tOp (rIxU K) (tVar 0) (tC (.int 1)))) (gUnp K 2 (gCons (gName 2) (gCons (gName 3) gNil))) (tSeq (tDrop (tBM K "list" (rAppend) (tOp (rIxU K) (tVar 1) (tVar 2)) (tCons (tVar 3) tNil)))
    (tDrop (tBM K "list" (rAppend) (tOp (rIxU K) (tVar 1) (tVar 3)) (tCons (tVar 2) tNil)))))
    (tRet (tVar 1))))
theorem l_Ltable (vs : List V) (H : Hp) (Q : VK) (E : XK) (h : sp_Ltable K vs H Q E) : vs.length = 1 := Fn1.len vs H Q E h
theorem valV_kvOf_none {es : List (Str × Addr)} {d : Str} (h : d ∉ es.map (·.1)) : valV (kvOf es) (.inr d) = none := by
  induction es with
  | nil => rfl
  | cons r es ih =>
    rw [List.map_cons, List.mem_cons, not_or] at h
    show valV ((Sum.inr r.1, V.ref r.2) :: kvOf es) _ = _
    rw [valV_neg (fun z => h.1 (Sum.inr.inj z).symm)]
    exact ih h.2
theorem mergeK_kvOf {es : List (Str × Addr)} (nd : (es.map (·.1)).Nodup) : mergeK [] (kvOf es) = kvOf es := by
  have key : ∀ (es ds : List (Str × Addr)), ((ds ++ es).map (·.1)).Nodup → mergeK (kvOf ds) (kvOf es) = kvOf (ds ++ es) := by
    intro es
    induction es with
    | nil => intro ds _; rw [List.append_nil]; rfl
    | cons r es ih =>
      intro ds nd
      show mergeK (putK (kvOf ds) (.inr r.1) (.ref r.2)) (kvOf es) = _
      have hn : r.1 ∉ ds.map (·.1) := fun z => by
        rw [List.map_append, List.nodup_append] at nd
        exact nd.2.2 _ z _ (by simp) rfl
      rw [putK_new _ (valV_kvOf_none hn)]
      have e1 : kvOf ds ++ [(Sum.inr r.1, V.ref r.2)] = kvOf (ds ++ [r]) := by
        unfold kvOf
        rw [List.map_append]
        rfl
      rw [e1, ih (ds ++ [r]) (by rw [List.append_assoc]; exact nd), List.append_assoc]
      rfl
  exact key es [] nd
theorem q_dictP {D : Ends} {tz : TS} {σ : L2.St} {B H : Hp} {α : Type} [Rep α] {wi : TI} {g : TG} {tt : TT} {te : TE} {vs : List Nat} {j : Nat} {xs : List α} (h : ItD K wi σ B xs) (e : Ex B H)
    (k : ∀ J B1 H1 G Y, Up B H B1 H1 → Walk J xs.length G Y → (∀ H', Ex B1 H' → G H') →
      (∀ i x Hx H', i < xs.length → Ex B1 Hx → Y i Hx x H' → ∃ d, xs[i]? = some d ∧ ∀ B', Ex B1 B' → Ex B' Hx → ∃ B2, Up B' Hx B2 H' ∧ Rep.at_ K B2 x d) → ∀ Dd, H1 Dd = none →
      ∃ W : Nat → Nat → Hp → Prop, (∃ m, W 0 m (upd H1 Dd (.lst []))) ∧ ∀ i m H, W i m H →
      (J.stop i H ∧ rDictP K [.ref Dd] H fun x H1 => tz D (σ.set j (some x)) H1) ∨ (J.go i H ∧ ∃ Nx : Hp → Prop, (∀ H', Nx H' → ∃ m', m' < m ∧ W (i + 1) m' H') ∧ ∀ x H', J.yld i H x H' → g x (wipe σ vs) H' fun σ2 H2 => wipe σ2 vs = wipe σ vs ∧ tt σ2 H2 fun b H3 =>
        if b = true then te σ2 H3 fun y H4 => ∃ acc, H4 Dd = some (.lst acc) ∧ acc.length < sizeLine ∧ Nx (upd H4 Dd (.lst (acc ++ [y]))) else Nx H3)) :
    tSeq (tAsg (tCB (rDictP K) (tCons (tLc wi g tt te vs) tNil)) (gName j)) tz D σ H := h H e _ k
theorem r_Ltable (vs : List V) (H : Hp) (Q : VK) (E : XK) (h : sp_Ltable K vs H Q E) : t_Ltable K (Ends.ret Q) (start N_Ltable vs) H := by
  obtain ⟨p, B, e, ⟨v, _, rfl, h1, rfl⟩, ok, q⟩ := h
  refine q_dictP (it_sq (e_sw (e_var rfl h1))) e fun J B1 H1 G Y up W hG hY L hL => ?_
  have hLB : B1 L = none := Evl.fresh_back up.bh hL
  refine walk_w W (fun i H' => ∃ Bi es ts, Up B1 H1 Bi H' ∧ Bi L = none ∧ H' L = some (.lst (ts.map V.ref)) ∧ es.map (·.1) = p.sw.take i ∧ Paired (fun (t : Addr) (r : Str × Addr) => Bi t = some (.tup [.str r.1, .ref r.2])) ts es ∧ (es.map (·.2)).Nodup ∧ ∀ r ∈ es, H' r.2 = some (.lst []) ∧ Bi r.2 = none ∧ H1 r.2 = none)
    ⟨B1, [], [], (Up.refl up.bh).hold hL, hLB, upd_same, rfl, .nil, .nil, fun _ h => (by cases h)⟩ (fun i H' _ hp => ?_) (fun i x Hx H' hi hp hy => ?_) (fun H' hp => ?_)
  · obtain ⟨Bi, es, ts, u, _⟩ := hp
    exact hG H' (u.bb.trans u.bh)
  · obtain ⟨Bi, es, ts, u, bL, eL, en, hts, nd, hes⟩ := hp
    obtain ⟨d, hd, hB⟩ := hY i x Hx H' hi (u.bb.trans u.bh) hy
    obtain ⟨B2, u2, hx⟩ := hB Bi u.bb u.bh
    cases at_str.mp hx
    obtain ⟨bL2, eL2⟩ := u2.out bL eL
    refine ⟨rfl, ?_⟩
    refine ⟨_, rfl, Nat.zero_le _, fun l hl => ?_⟩
    have hLl : L ≠ l := ne_of_none eL2 hl
    have u3 : Up B1 H1 B2 (upd H' l (.lst [])) := (u.trans u2).hold hl
    refine ⟨by show 2 ≤ sizeLine; rw [sizeLine_eq]; decide, fun t ht => ?_⟩
    have hlt : t ≠ l := fun z => by rw [z, upd_same] at ht; cases ht
    have htL : t ≠ L := fun z => by rw [z, upd_ne hLl, eL2] at ht; cases ht
    have htH : H' t = none := by rw [upd_ne hlt] at ht; exact ht
    have u4 := u3.trans (Up.new (o := .tup [.str d, .ref l]) u3.bh ht)
    have lenes : es.length = (p.sw.take i).length := by rw [← en, List.length_map]
    refine ⟨ts.map V.ref, by rw [upd_ne htL.symm, upd_ne hLl]; exact eL2, ?_, upd B2 t (.tup [.str d, .ref l]), es ++ [(d, l)], ts ++ [t], u4.mut hL (by rw [upd_ne htL.symm]; exact bL2), by rw [upd_ne htL.symm]; exact bL2, ?_, ?_, ?_, ?_, fun r hr => ?_⟩
    · rw [List.length_map, Paired.length hts, lenes, sizeLine_eq]
      have h3 := List.length_take_le i p.sw
      have := ok.n1
      omega
    · rw [upd_same, List.map_append]
      rfl
    · rw [List.map_append, en, take_snoc hd]
      rfl
    · refine paired_snoc (Paired.mapP hts fun a r hr => ?_) upd_same
      have hat : a ≠ t := fun z => by
        have := u2.bh a _ (u2.bb a _ hr)
        rw [z, htH] at this
        cases this
      rw [upd_ne hat]
      exact u2.bb a _ hr
    · rw [List.map_append, List.nodup_append]
      refine ⟨nd, by simp, fun a ha b hb => ?_⟩
      obtain ⟨r, hr, rfl⟩ := List.mem_map.mp ha
      have eb : b = l := by simpa using hb
      rw [eb]
      exact ne_of_none (u2.hh _ _ (hes r hr).1) hl
    · rcases List.mem_append.mp hr with hr | hr
      · obtain ⟨g1, g2, g3⟩ := hes r hr
        obtain ⟨g4, g5⟩ := u2.out g2 g1
        have n1 : r.2 ≠ l := ne_of_none g5 hl
        have n2 : r.2 ≠ t := ne_of_none g5 htH
        have n3 : r.2 ≠ L := fun z => by
          rw [z, eL] at g1
          cases hE : ts with
          | nil =>
            rw [hE] at hts
            cases hts
            cases hr
          | cons y ys =>
            rw [hE] at g1
            cases g1
        exact ⟨by rw [upd_ne n3, upd_ne n2, upd_ne n1]; exact g5, by rw [upd_ne n2]; exact g4, g3⟩
      · rw [List.mem_singleton] at hr
        subst hr
        exact ⟨by show upd (upd (upd H' l _) t _) L _ l = _; rw [upd_ne hLl.symm, upd_ne hlt.symm, upd_same], by show upd B2 t _ l = none; rw [upd_ne hlt.symm]; exact Evl.fresh_back u2.bh hl, Evl.fresh_back (u.trans u2).hh hl⟩
  · obtain ⟨Bi, es, ts, u, bL, eL, en, hts, nd, hes⟩ := hp
    rw [List.take_length] at en
    have uH0 := up.trans u
    have n1 : (es.map (·.1)).Nodup := by rw [en]; exact ok.nd
    refine ⟨L, ts, kvOf es, rfl, Evl.sq_of eL, ?_, fun D hD => ?_⟩
    · have key : ∀ {ts : List Addr} {es : List (Str × Addr)}, Paired (fun (t : Addr) (r : Str × Addr) => Bi t = some (.tup [.str r.1, .ref r.2])) ts es → Paired (fun p kv => SqT K H' p [kV kv.1, kv.2]) ts (kvOf es) := by
        intro ts es hp
        induction hp with
        | nil => exact .nil
        | cons h _ ih => exact .cons (Evl.st_of (u.bh _ _ h)) ih
      exact key hts
    · rw [mergeK_kvOf n1]
      have hDH : H D = none := Evl.fresh_back uH0.hh hD
      have hfH : ∀ r ∈ es, H r.2 = none := fun r hr => Evl.fresh_back up.hh (hes r hr).2.2
      have uH : Up B H Bi (upd H' D (.dK (kvOf es))) := uH0.hold hD
      have t : TabAt es (fun _ => []) D Bi (upd H' D (.dK (kvOf es))) := ⟨upd_same, fun r hr => by rw [upd_ne (ne_of_none (hes r hr).1 hD)]; exact (hes r hr).1, Evl.fresh_back uH0.bh hD, fun r hr => (hes r hr).2.1, nd, fun r hr => ne_of_none (hes r hr).1 hD⟩
      clear u hts eL
      generalize upd H' D (.dK (kvOf es)) = H2 at uH t ⊢
      refine q_for (it_sq (e_ex (e_var rfl (Rep.mono uH.bb h1)))) uH.bh fun B3 H3 u3 => ⟨fun done σ' B' H' => Up B H B' H' ∧ TabAt es (rawP done) D B' H' ∧ ∃ y2 y3, σ' = [some v, some (.ref D), y2, y3],
        ⟨uH.trans u3, t.up u3, none, none, rfl⟩, fun done x rest w σ' B' Hx B2 H' ex b1 bx hP u2 hv => ?_, fun σ' B' H' b1 bx hP => ?_⟩
      · obtain ⟨uB, tB, y2, y3, rfl⟩ := hP
        have t2 := tB.up u2
        have hx : x ∈ prs p.ex := by rw [ex]; simp
        have hxx : x.a ∈ p.sw ∧ x.b ∈ p.sw := by
          obtain ⟨z, hz, rfl⟩ := List.mem_map.mp hx
          exact ok.ex z hz
        have ha : ∃ a, (x.a, a) ∈ es := by
          rw [← en] at hxx
          obtain ⟨z, hz, e1⟩ := List.mem_map.mp hxx.1
          exact ⟨z.2, by rw [← e1]; exact hz⟩
        have hb : ∃ a, (x.b, a) ∈ es := by
          rw [← en] at hxx
          obtain ⟨z, hz, e1⟩ := List.mem_map.mp hxx.2
          exact ⟨z.2, by rw [← e1]; exact hz⟩
        obtain ⟨la, ha⟩ := ha
        obtain ⟨lb, hb⟩ := hb
        have hdl : done.length ≤ p.ex.length := by
          have e1 := congrArg List.length ex
          rw [List.length_append, List.length_cons] at e1
          have e2 : (prs p.ex).length = p.ex.length := by simp [prs]
          omega
        have hsz : ∀ s, (rawP done s).length ≤ 200000 := fun s => by
          have := rawP_len done s
          have := ok.n2
          omega
        refine unp_pr hv u2.bh ?_
        refine qapp_do (x := x.b) (t2.dl _ ha) u2.bh (fun H4 Q4 e4 q4 => ?_) (e_var rfl (at_str.mpr rfl)) (by rw [List.length_map]; exact Nat.le_trans (hsz x.a) (by decide)) fun v5 B5 H5 u5 hv5 => ?_
        · exact ⟨_, rfl, _, rfl, .inr (.inr (.inr ⟨D, .ref la, rfl, .inl ⟨kvOf es, .inr x.a, .inl (e4 _ _ t2.dD), rfl, (valV_kvOf n1 ha).symm⟩, q4⟩))⟩
        · cases at_str.mp hv5
          have t5 := t2.up u5
          have t6 := t5.app ha n1 x.b
          have w6 := ((uB.trans u2).trans u5).mut (o := .lst ((rawP done x.a).map V.str ++ [.str x.b])) (hfH _ ha) (t5.bl _ ha)
          refine app_do (x := x.a) (t6.dl _ hb) w6.bh (fun H4 Q4 e4 q4 => ?_) (e_var (i := 2) rfl (at_str.mpr rfl)) ?_ fun v7 B7 H7 u7 hv7 => ?_
          · exact ⟨_, rfl, _, rfl, .inr (.inr (.inr ⟨D, .ref lb, rfl, .inl ⟨kvOf es, .inr x.b, .inl (e4 _ _ t6.dD), rfl, (valV_kvOf n1 hb).symm⟩, q4⟩))⟩
          · rw [List.length_map]
            have h1 := hsz x.b
            show (if x.b = x.a then rawP done x.b ++ [x.b] else rawP done x.b).length ≤ _
            split
            · rw [List.length_append, List.length_singleton]
              omega
            · omega
          · cases at_str.mp hv7
            have t7 := (t6.up u7).app hb n1 x.a
            have w7 := (w6.trans u7).mut (o := .lst (((if x.b = x.a then rawP done x.b ++ [x.b] else rawP done x.b)).map V.str ++ [.str x.a])) (hfH _ hb) ((t6.up u7).bl _ hb)
            refine ⟨B7, ((b1.trans u2.bb).trans u5.bb).trans u7.bb, w7.bh, w7, ?_, _, _, rfl⟩
            have ec : (fun y => if y = x.b then (if y = x.a then rawP done y ++ [x.b] else rawP done y) ++ [x.a] else (if y = x.a then rawP done y ++ [x.b] else rawP done y)) = rawP (done ++ [x]) := by
              funext y
              rw [rawP_snoc]
              by_cases e1 : y = x.a
              · by_cases e2 : y = x.b
                · rw [if_pos e2, if_pos e1, if_pos e1.symm, if_pos e2.symm]
                  simp
                · rw [if_neg e2, if_pos e1, if_pos e1.symm, if_neg (fun z => e2 z.symm)]
                  simp
              · by_cases e2 : y = x.b
                · rw [if_pos e2, if_neg e1, if_neg (fun z => e1 z.symm), if_pos e2.symm]
                  simp
                · rw [if_neg e2, if_neg e1, if_neg (fun z => e1 z.symm), if_neg (fun z => e2 z.symm)]
                  simp
            rw [← ec]
            exact t7
      · obtain ⟨uB, tB, y2, y3, rfl⟩ := hP
        obtain ⟨B4, u4, e4, k4⟩ := uB.freezes (es := (D, HO.dK (kvOf es)) :: es.map fun r => (r.2, HO.lst ((rawP (prs p.ex) r.1).map V.str))) fun r hr => by
          rcases List.mem_cons.mp hr with rfl | hr
          · exact ⟨tB.dD, hDH⟩
          · obtain ⟨z, hz, rfl⟩ := List.mem_map.mp hr
            exact ⟨tB.dl z hz, hfH z hz⟩
        have hB4 : B4 D = some (.dK (kvOf es)) := k4 _ List.mem_cons_self
        have hl4 : ∀ r ∈ es, B4 r.2 = some (.lst ((rawP (prs p.ex) r.1).map V.str)) := fun r hr => k4 (r.2, _) (List.mem_cons_of_mem _ (List.mem_map.mpr ⟨r, hr, rfl⟩))
        have ek : (kvOf es).map (·.1) = p.sw.map Sum.inr := by
          rw [← en]
          unfold kvOf
          rw [List.map_map, List.map_map]
          rfl
        have hdic : Rep.at_ K B4 (.ref D) (TabR.mk (es.map fun r => (r.1, rawP (prs p.ex) r.1))) := by
          refine ⟨D, kvOf es, rfl, .inl hB4, ?_, ?_⟩
          · rw [kvOf_len]
            have e1 := congrArg List.length en
            rw [List.length_map] at e1
            have := ok.n1
            omega
          · have key : ∀ rs : List (Str × Addr), (∀ r ∈ rs, B4 r.2 = some (.lst ((rawP (prs p.ex) r.1).map V.str))) → TabRAt B4 (kvOf rs) (rs.map fun r => (r.1, rawP (prs p.ex) r.1)) := by
              intro rs
              induction rs with
              | nil => intro _; exact .nil
              | cons r rs ih => intro h; exact .cons ⟨rfl, r.2, rfl, .inl (h r List.mem_cons_self)⟩ (ih fun r' h' => h r' (List.mem_cons_of_mem _ h'))
            exact key es hl4
        have e6 : (TabR.mk (es.map fun r => (r.1, rawP (prs p.ex) r.1)) : TabR) = TabR.mk (lawTab p).kvs := by
          unfold lawTab
          rw [← en, List.map_map]
          congr 1
          refine List.map_congr_left fun r _ => ?_
          show (r.1, rawP (prs p.ex) r.1) = (r.1, raw p.ex r.1)
          rw [rawP_prs]
        rw [e6] at hdic
        exact p_ret (e_var rfl hdic) u4.bh fun v B5 H5 u5 hv => q v B5 H5 (u4.trans u5) hv
end
end Ob

set_option Elab.async false
set_option linter.all false
set_option maxRecDepth 100000
set_option maxHeartbeats 4000000
/-! M5: states stay states; more exclusions, fewer on. Plain Lean. -/
namespace Ob
open PySem L2
open PySem.W (Datum Tup DatumOrd)
def StOk (p : Pan) (st : List Str) : Prop := Asc st ∧ (∀ x ∈ st, x ∈ p.sw) ∧ ∀ x ∈ st, ∀ y ∈ st, (x, y) ∉ p.ex
theorem ascB_of {xs : List Str} (h : Asc xs) : ascB xs = true := by
  unfold ascB
  rw [List.all_eq_true]
  intro q hq
  obtain ⟨i, hi⟩ := List.getElem?_of_mem hq
  rw [List.getElem?_zip_eq_some] at hi
  obtain ⟨h1, h2⟩ := hi
  rw [List.getElem?_drop] at h2
  obtain ⟨l1, e1⟩ := List.getElem?_eq_some_iff.mp h1
  obtain ⟨l2, e2⟩ := List.getElem?_eq_some_iff.mp h2
  have := List.pairwise_iff_getElem.mp h i (1 + i) l1 l2 (by omega)
  rw [e1, e2] at this
  exact this
theorem isStB_of {p : Pan} {xs : List Str} (h : StOk p xs) : isStB p xs = true := by
  obtain ⟨h1, h2, h3⟩ := h
  unfold isStB
  rw [ascB_of h1, List.all_eq_true.mpr fun x hx => decide_eq_true (h2 x hx)]
  have : (xs.any fun s => (rvs p s).any fun o => decide (o ∈ xs)) = false := by
    rw [List.any_eq_false]
    intro s hs hb
    obtain ⟨o, ho, hox⟩ := List.any_eq_true.mp hb
    have hox' := of_decide_eq_true hox
    rcases mem_rvs.mp ho with z | z
    · exact h3 s hs o hox' z
    · exact h3 o hox' s hs z
  rw [this]
  rfl
theorem mem_wp {rv : Str → List Str} {st : List Str} {x z : Str} : z ∈ wp rv st x ↔ (z ∈ st ∧ z ∉ rv x ∧ z ≠ x) ∨ z = x := by
  unfold wp
  rw [mem_sortD, List.mem_append, List.mem_filter, List.mem_singleton]
  simp
theorem wp_asc {rv : Str → List Str} {st : List Str} {x : Str} (h : st.Nodup) : Asc (wp rv st x) := by
  refine sortD_asc (List.nodup_append.mpr ⟨h.filter _, by simp, fun a ha b hb => ?_⟩)
  rw [List.mem_singleton] at hb
  rw [hb]
  rintro rfl
  simp at ha
theorem wp_st {p : Pan} (irr : ∀ e ∈ p.ex, e.1 ≠ e.2) {st : List Str} {x : Str} (h : StOk p st) (hx : x ∈ p.sw) : StOk p (wp (rvs p) st x) := by
  obtain ⟨h1, h2, h3⟩ := h
  refine ⟨wp_asc (asc_nodup h1), fun z hz => ?_, fun a ha b hb => ?_⟩
  · rcases mem_wp.mp hz with ⟨z1, _⟩ | z1
    · exact h2 z z1
    · rw [z1]; exact hx
  · rcases mem_wp.mp ha with ⟨a1, a2, a3⟩ | a1
    · rcases mem_wp.mp hb with ⟨b1, b2, b3⟩ | b1
      · exact h3 a a1 b b1
      · rw [b1]
        exact fun z => a2 (mem_rvs.mpr (.inr z))
    · rw [a1]
      rcases mem_wp.mp hb with ⟨b1, b2, b3⟩ | b1
      · exact fun z => b2 (mem_rvs.mpr (.inl z))
      · rw [b1]
        exact fun z => irr _ z rfl
theorem runS_st {p : Pan} (irr : ∀ e ∈ p.ex, e.1 ≠ e.2) : ∀ {hs st : List Str}, StOk p st → (∀ x ∈ hs, x ∈ p.sw) → StOk p (runS (rvs p) st hs)
  | [], st, h, _ => h
  | x :: hs, st, h, hx => runS_st irr (hs := hs) (wp_st irr h (hx x List.mem_cons_self)) fun y hy => hx y (List.mem_cons_of_mem _ hy)
theorem runS_mono {rv rv' : Str → List Str} (h : ∀ x z, z ∈ rv x → z ∈ rv' x) : ∀ {hs a b : List Str}, (∀ z ∈ a, z ∈ b) → ∀ z ∈ runS rv' a hs, z ∈ runS rv b hs
  | [], _, _, hab => hab
  | x :: hs, a, b, hab => runS_mono h (hs := hs) fun z hz => by
    rcases mem_wp.mp hz with ⟨z1, z2, z3⟩ | z1
    · exact mem_wp.mpr (.inl ⟨hab z z1, fun y => z2 (h x z y), z3⟩)
    · exact mem_wp.mpr (.inr z1)
theorem filtT_mono {α : Type} {P P' : α → List α → Bool} (h : ∀ x r, P' x r = true → P x r = true) : ∀ {xs : List α} {z : α}, z ∈ filtT P' xs → z ∈ filtT P xs
  | [], _, hz => hz
  | x :: xs, z, hz => by
    unfold filtT at hz ⊢
    by_cases h1 : P' x xs = true
    · rw [if_pos h1] at hz
      rw [if_pos (h x xs h1)]
      rcases List.mem_cons.mp hz with e | e
      · exact e ▸ List.mem_cons_self
      · exact List.mem_cons_of_mem _ (filtT_mono h e)
    · rw [if_neg h1] at hz
      have := filtT_mono h (xs := xs) hz
      split
      · exact List.mem_cons_of_mem _ this
      · exact this
theorem leftO_mono {rv rv' : Str → List Str} (h : ∀ x z, z ∈ rv x → z ∈ rv' x) {os : List Str} {z : Str} (hz : z ∈ leftO rv' os) : z ∈ leftO rv os := by
  unfold leftO at *
  rw [mem_sortD] at *
  refine filtT_mono (fun x r hx => ?_) hz
  simp only [Bool.not_eq_true', List.any_eq_false, decide_eq_true_eq] at *
  exact fun o ho hr => hx o ho (h x o hr)
theorem leftO_sub {rv : Str → List Str} {os : List Str} {z : Str} (hz : z ∈ leftO rv os) : z ∈ os := by
  unfold leftO at hz
  rw [mem_sortD] at hz
  exact (filtT_sub _ os).subset hz
/-- what an effect touches -/
theorem eff_mem {rv : Str → List Str} {hs : List Str} {z : Str} : z ∈ (effO rv hs).1.items ++ (effO rv hs).2.items ↔ z ∈ tch rv (lastP hs) := by
  show z ∈ leftO rv (lastP hs) ++ (tch rv (lastP hs)).filter _ ↔ _
  rw [List.mem_append, List.mem_filter]
  have h : z ∈ leftO rv (lastP hs) → z ∈ tch rv (lastP hs) := fun h => mem_sortD.mpr (mem_tchK.mpr (.inl (leftO_sub h)))
  constructor
  · rintro (h1 | h1)
    · exact h h1
    · exact h1.1
  · intro h1
    by_cases h2 : z ∈ leftO rv (lastP hs)
    · exact .inl h2
    · exact .inr ⟨h1, by simp [h2]⟩
theorem tch_mono {rv rv' : Str → List Str} (h : ∀ x z, z ∈ rv x → z ∈ rv' x) {ss : List Str} {z : Str} (hz : z ∈ tch rv ss) : z ∈ tch rv' ss := by
  rcases mem_tchK.mp (mem_sortD.mp hz) with h1 | ⟨s, h1, h2⟩
  · exact mem_sortD.mpr (mem_tchK.mpr (.inl h1))
  · exact mem_sortD.mpr (mem_tchK.mpr (.inr ⟨s, h1, h s z h2⟩))
end Ob

set_option Elab.async false
set_option linter.all false
set_option maxRecDepth 100000
set_option maxHeartbeats 4000000
/-! D5w: the wired family: what D5 holds without the law's state. -/
namespace Ob
open PySem L2
open Evl (Ex)
open PySem.W (Datum Tup DatumOrd)
section
variable {K : PySem.W.Frag} {H B B' : Hp} {v : V} {σ : L2.St} {te ta tb tc tk tv : TE} {tt tt1 tu : TT} {b : Addr} {n m : Int}
/-- a thing and a new list, unpacked -/
theorem q_unpL0 {α : Type} [Rep α] {i j : Nat} {x : α} {D : Ends} {tz : TS} (ha : Pe K ta σ B x) (e : Ex B H) (k : ∀ v l B1 H1, Up B H B1 H1 → Rep.at_ K B1 v x → B1 l = none → H l = none → H1 l = some (.lst []) → tz D ((σ.set i (some v)).set j (some (.ref l))) H1) :
    tSeq (tAsg (tTup (tCons ta (tCons (tLst tNil) tNil))) (gUnp K 2 (gCons (gName i) (gCons (gName j) gNil)))) tz D σ H := ha H e _ fun v B1 H1 u hv => ⟨Nat.zero_le _, fun p hp =>
      ⟨by show 2 ≤ sizeLine; rw [sizeLine_eq]; decide, fun t ht => .inl ⟨t, [v, .ref p], rfl, Evl.st_of upd_same, rfl, _, _, rfl, _, _, rfl, rfl, by
        have hpt : p ≠ t := fun z => by rw [← z, upd_same] at ht; cases ht
        exact k v p B1 _ ((u.hold hp).hold ht) hv (Evl.fresh_back u.bh hp) (Evl.fresh_back u.hh hp) (by rw [upd_ne hpt, upd_same])⟩⟩⟩
theorem p_ifB {R : Bool → Prop} {t1 t2 : TS} {D : Ends} {c : Int} (h : Pb K b n te σ B R) (e : Ex B H) (bx : BoxAt c B H b) (hc : c + n ≤ 2 ^ 40) (k1 : ∀ B1 H1, R true → Ub b B H B1 H1 → BoxAt (c + n) B1 H1 b → t1 D σ H1) (k2 : ∀ B1 H1, R false → Ub b B H B1 H1 → BoxAt (c + n) B1 H1 b → t2 D σ H1) : tIfS (tTest te) t1 t2 D σ H :=
  h H c e bx hc (fun v H1 => ∃ k, v = .bl k ∧ (if k = true then t1 D σ H1 else t2 D σ H1)) fun v x B1 H1 u ub r hv => ⟨x, at_bl.mp hv, by
    cases x with
    | true => exact k1 B1 H1 r u ub
    | false => exact k2 B1 H1 r u ub⟩
theorem p_ifAndB {R : Bool → Prop} {t1 t2 : TS} {D : Ends} {c : Int} (h : Pb K b n te σ B R) (e : Ex B H) (bx : BoxAt c B H b) (hc : c + n ≤ 2 ^ 40) (k1 : ∀ B1 H1, R true → Ub b B H B1 H1 → BoxAt (c + n) B1 H1 b → tIfS tt t1 t2 D σ H1) (k2 : ∀ B1 H1, R false → Ub b B H B1 H1 → BoxAt (c + n) B1 H1 b → t2 D σ H1) : tIfS (tAnd (tTest te) tt) t1 t2 D σ H :=
  h H c e bx hc (fun v H1 => ∃ k, v = .bl k ∧ (if k = true then tt σ H1 (fun b H1 => if b = true then t1 D σ H1 else t2 D σ H1) else (if false = true then t1 D σ H1 else t2 D σ H1))) (fun v x B1 H1 u ub r hv => ⟨x, at_bl.mp hv, by
    cases x with
    | true => exact k1 B1 H1 r u ub
    | false => exact k2 B1 H1 r u ub⟩)
end
section
variable {K : PySem.W.Frag}
structure PanG (m : Int) (p : Pan) : Prop where
  asc : Asc p.sw
  ne : p.sw ≠ []
  len : (p.sw.length : Int) ≤ m
  ex : ∀ e ∈ p.ex, (e.1 ∈ p.sw ∧ e.2 ∈ p.sw) ∧ ltS e.1 e.2 = true
  so : sortD p.ex = p.ex
  el : p.ex.length ≤ 300
  xn : p.ex.Nodup
theorem filter_nil {α : Type} {xs : List α} {f : α → Bool} (h : (xs.filter f).map (fun x : α => x) = []) : ∀ x ∈ xs, f x = false := by
  rw [List.map_id', List.filter_eq_nil_iff] at h
  intro x hx
  have := h x hx
  cases hf : f x with
  | true => exact absurd hf this
  | false => rfl
theorem rawP_len2 (ex : List (Str × Str)) (s : Str) : (raw ex s).length ≤ 2 * ex.length := by
  rw [← rawP_prs]
  have h1 := rawP_len (prs ex) s
  have h2 : (prs ex).length = ex.length := by simp [prs]
  omega
end
end Ob

set_option Elab.async false
set_option linter.all false
set_option maxRecDepth 100000
set_option maxHeartbeats 4000000
/-! M4: the order of pairs of texts; least and greatest of two; neighbours in a list. -/
namespace Ob
open PySem L2
open PySem.W (Datum Tup DatumOrd)
abbrev SS : Type := Str × Str
def ltP (p q : SS) : Bool := if p.1 = q.1 then ltS p.2 q.2 else ltS p.1 q.1
theorem ltP_irr (p : SS) : ltP p p = false := by
  unfold ltP
  rw [if_pos rfl, ltS_irr]
theorem ltP_tr {p q r : SS} (h : ltP p q = true) (k : ltP q r = true) : ltP p r = true := by
  unfold ltP at *
  by_cases e1 : p.1 = q.1
  · rw [if_pos e1] at h
    by_cases e2 : q.1 = r.1
    · rw [if_pos e2] at k
      rw [if_pos (e1.trans e2)]
      exact ltS_tr h k
    · rw [if_neg e2] at k
      rw [if_neg (fun z => e2 (e1.symm.trans z)), e1]
      exact k
  · rw [if_neg e1] at h
    by_cases e2 : q.1 = r.1
    · rw [if_pos e2] at k
      rw [← e2, if_neg e1]
      exact h
    · rw [if_neg e2] at k
      have h3 := ltS_tr h k
      by_cases e3 : p.1 = r.1
      · rw [e3, ltS_irr] at h3
        cases h3
      · rw [if_neg e3]
        exact h3
theorem ltP_tri (p q : SS) : ltP p q = true ∨ p = q ∨ ltP q p = true := by
  unfold ltP
  by_cases e : p.1 = q.1
  · rw [if_pos e, if_pos e.symm]
    rcases ltS_tri p.2 q.2 with h | h | h
    · exact .inl h
    · exact .inr (.inl (Prod.ext e h))
    · exact .inr (.inr h)
  · rw [if_neg e, if_neg (fun z => e z.symm)]
    rcases ltS_tri p.1 q.1 with h | h | h
    · exact .inl h
    · exact absurd h e
    · exact .inr (.inr h)
theorem ltP_asy {x y : SS} (h : ltP x y = true) : ltP y x = false := by
  cases k : ltP y x with
  | false => rfl
  | true =>
    have := ltP_tr h k
    rw [ltP_irr] at this
    cases this
def leP (x y : SS) : Bool := !ltP y x
theorem leP_total (x y : SS) : (leP x y || leP y x) = true := by
  unfold leP
  rcases ltP_tri x y with h | h | h
  · rw [ltP_asy h]; rfl
  · rw [h, ltP_irr]; rfl
  · rw [ltP_asy h]; simp
theorem leP_trans (x y z : SS) (h : leP x y = true) (k : leP y z = true) : leP x z = true := by
  unfold leP at *
  simp only [Bool.not_eq_true'] at *
  rcases ltP_tri z x with a | a | a
  · rcases ltP_tri y z with b | b | b
    · rw [ltP_tr b a] at h; cases h
    · rw [b] at h; rw [h] at a; cases a
    · rw [b] at k; cases k
  · rw [a]; exact ltP_irr _
  · exact ltP_asy a
theorem leP_anti {x y : SS} (h : leP x y = true) (k : leP y x = true) : x = y := by
  unfold leP at *
  simp only [Bool.not_eq_true'] at *
  rcases ltP_tri x y with a | a | a
  · rw [a] at k; cases k
  · exact a
  · rw [a] at h; cases h
theorem sortP_eq (xs : List SS) : sortD xs = xs.mergeSort leP := rfl
theorem sortP_sorted (xs : List SS) : (sortD xs).Pairwise fun x y => leP x y = true := List.pairwise_mergeSort leP_trans leP_total xs
theorem perm_sortP {xs ys : List SS} (h : xs.Perm ys) : sortD xs = sortD ys :=
  ((sortD_perm xs).trans (h.trans (sortD_perm ys).symm)).eq_of_pairwise (fun x y _ _ h k => leP_anti h k) (sortP_sorted xs) (sortP_sorted ys)
theorem sortP_idem (xs : List SS) : sortD (sortD xs) = sortD xs := perm_sortP (sortD_perm xs)
theorem min_max {x y : Str} (h : x ≠ y) : ltS (minS x y) (maxS x y) = true ∧ (minS x y = x ∧ maxS x y = y ∨ minS x y = y ∧ maxS x y = x) := by
  unfold minS maxS
  rcases ltS_tri x y with a | a | a
  · rw [ltS_asy a, a]
    exact ⟨a, .inl ⟨rfl, rfl⟩⟩
  · exact absurd a h
  · rw [ltS_asy a, a]
    exact ⟨a, .inr ⟨rfl, rfl⟩⟩
theorem zip_next {α : Type} {xs : List α} (nd : xs.Nodup) {p : α × α} (h : p ∈ xs.zip (xs.drop 1)) : p.1 ≠ p.2 ∧ p.1 ∈ xs ∧ p.2 ∈ xs := by
  obtain ⟨i, hi⟩ := List.getElem?_of_mem h
  rw [List.getElem?_zip_eq_some] at hi
  obtain ⟨h1, h2⟩ := hi
  rw [List.getElem?_drop] at h2
  refine ⟨fun z => ?_, List.mem_of_getElem? h1, List.mem_of_getElem? h2⟩
  obtain ⟨l1, e1⟩ := List.getElem?_eq_some_iff.mp h1
  obtain ⟨l2, e2⟩ := List.getElem?_eq_some_iff.mp h2
  have := (List.getElem_inj (h₀ := l1) (h₁ := l2) nd).mp (by rw [e1, e2, z])
  omega
end Ob

set_option Elab.async false
set_option linter.all false
set_option maxRecDepth 100000
set_option maxHeartbeats 4000000
/-! M6: the pairs of a path, a ring, a star: no pair twice. Plain Lean. -/
namespace Ob
open PySem L2
open PySem.W (Datum Tup DatumOrd)
def mm (x y : Str) : SS := (minS x y, maxS x y)
theorem mm_inj {x y a b : Str} (h1 : x ≠ y) (h2 : a ≠ b) (h : mm x y = mm a b) : (x = a ∧ y = b) ∨ (x = b ∧ y = a) := by
  have e1 : minS x y = minS a b := congrArg Prod.fst h
  have e2 : maxS x y = maxS a b := congrArg Prod.snd h
  obtain ⟨_, k1⟩ := min_max h1
  obtain ⟨_, k2⟩ := min_max h2
  rcases k1 with ⟨p1, p2⟩ | ⟨p1, p2⟩
  · rcases k2 with ⟨q1, q2⟩ | ⟨q1, q2⟩
    · exact .inl ⟨by rw [← p1, e1, q1], by rw [← p2, e2, q2]⟩
    · exact .inr ⟨by rw [← p1, e1, q1], by rw [← p2, e2, q2]⟩
  · rcases k2 with ⟨q1, q2⟩ | ⟨q1, q2⟩
    · exact .inr ⟨by rw [← p2, e2, q2], by rw [← p1, e1, q1]⟩
    · exact .inl ⟨by rw [← p2, e2, q2], by rw [← p1, e1, q1]⟩
theorem map_nd {α β : Type} {f : α → β} {xs : List α} (nd : xs.Nodup) (hi : ∀ x ∈ xs, ∀ y ∈ xs, f x = f y → x = y) : (xs.map f).Nodup := by
  induction xs with
  | nil => exact .nil
  | cons x xs ih =>
    rw [List.nodup_cons] at nd
    rw [List.map_cons, List.nodup_cons]
    refine ⟨fun h => ?_, ih nd.2 fun a ha b hb => hi a (List.mem_cons_of_mem _ ha) b (List.mem_cons_of_mem _ hb)⟩
    obtain ⟨y, hy, e⟩ := List.mem_map.mp h
    have := hi y (List.mem_cons_of_mem _ hy) x List.mem_cons_self e
    exact nd.1 (this ▸ hy)
/-- neighbours of a list: index of the first -/
theorem zip_idx {α : Type} {xs : List α} {p : α × α} (h : p ∈ xs.zip (xs.drop 1)) : ∃ i, xs[i]? = some p.1 ∧ xs[i + 1]? = some p.2 := by
  obtain ⟨i, hi⟩ := List.getElem?_of_mem h
  rw [List.getElem?_zip_eq_some, List.getElem?_drop] at hi
  exact ⟨i, hi.1, by rw [show i + 1 = 1 + i by omega]; exact hi.2⟩
theorem nd_idx {α : Type} {xs : List α} (nd : xs.Nodup) {i j : Nat} {x : α} (h1 : xs[i]? = some x) (h2 : xs[j]? = some x) : i = j := by
  obtain ⟨l1, e1⟩ := List.getElem?_eq_some_iff.mp h1
  obtain ⟨l2, e2⟩ := List.getElem?_eq_some_iff.mp h2
  exact (List.getElem_inj (h₀ := l1) (h₁ := l2) nd).mp (by rw [e1, e2])
theorem zip_nd {α : Type} {xs ys : List α} (nd : xs.Nodup) : (xs.zip ys).Nodup := by
  induction xs generalizing ys with
  | nil => exact .nil
  | cons x xs ih =>
    cases ys with
    | nil => exact .nil
    | cons y ys =>
      rw [List.nodup_cons] at nd
      rw [List.zip_cons_cons, List.nodup_cons]
      exact ⟨fun h => nd.1 (List.of_mem_zip h).1, ih nd.2⟩
theorem path_nd {os : List Str} (nd : os.Nodup) : ((os.zip (os.drop 1)).map fun e => mm e.1 e.2).Nodup := by
  refine map_nd (zip_nd nd) fun e he f hf h => ?_
  obtain ⟨n1, _, _⟩ := zip_next nd he
  obtain ⟨n2, _, _⟩ := zip_next nd hf
  obtain ⟨i, i1, i2⟩ := zip_idx he
  obtain ⟨j, j1, j2⟩ := zip_idx hf
  rcases mm_inj n1 n2 h with ⟨a, b⟩ | ⟨a, b⟩
  · exact Prod.ext a b
  · rw [a] at i1
    rw [b] at i2
    have h1 := nd_idx nd i1 j2
    have h2 := nd_idx nd i2 j1
    omega
theorem ring_new {os : List Str} (nd : os.Nodup) {o l : Str} (ho : os[0]? = some o) (hl : os[os.length - 1]? = some l) (hn : 2 < os.length) : mm o l ∉ (os.zip (os.drop 1)).map fun e => mm e.1 e.2 := by
  intro h
  obtain ⟨e, he, h⟩ := List.mem_map.mp h
  obtain ⟨n1, _, _⟩ := zip_next nd he
  obtain ⟨i, i1, i2⟩ := zip_idx he
  have n2 : o ≠ l := fun z => by
    rw [z] at ho
    have := nd_idx nd ho hl
    omega
  rcases mm_inj n1 n2 h with ⟨a, b⟩ | ⟨a, b⟩
  · rw [a] at i1
    rw [b] at i2
    have h1 := nd_idx nd i1 ho
    have h2 := nd_idx nd i2 hl
    omega
  · rw [a] at i1
    rw [b] at i2
    have h1 := nd_idx nd i1 hl
    have h2 := nd_idx nd i2 ho
    omega
theorem star_nd {os : List Str} (nd : os.Nodup) {o : Str} (h : ∀ z ∈ os, o ≠ z) : (os.map fun z => mm o z).Nodup := by
  refine map_nd nd fun x hx y hy e => ?_
  rcases mm_inj (h x hx) (h y hy) e with ⟨_, b⟩ | ⟨a, b⟩
  · exact b
  · exact absurd a (h y hy)
end Ob

set_option Elab.async false
set_option linter.all false
set_option maxRecDepth 100000
set_option maxHeartbeats 4000000
/-! D6w: the wired family: what D6 holds without the law's panel. -/
namespace Ob
open PySem L2
open Evl (Ex)
open PySem.W (Datum Tup DatumOrd)
section
variable {K : PySem.W.Frag} {H B B' : Hp} {v : V} {σ : L2.St} {te ta tb tc tk tv : TE} {tt tt1 tu : TT} {b : Addr} {n m : Int}
/-- a comprehension whose list stays open -/
theorem lcU {γ β : Type} [Rep γ] [DecidableEq β] [Datum β] {wi : TI} {g : TG} {vs : List Nat} {xs : List γ} {Q : VK} (f : γ → Bool) (y : γ → β) (h : ItD K wi σ B xs) (e : Ex B H) (hz : xs.length ≤ 1000000)
    (ht : ∀ x ∈ xs, ∀ v B1, Ex B B1 → Rep.at_ K B1 v x → TurnD K g tt te vs σ B1 v (f x) (y x))
    (q : ∀ D ws B1 H1, Up B H B1 H1 → B1 D = none → H D = none → H1 D = some (.lst ws) → AtAll K B1 ws ((xs.filter f).map y) → Q (.ref D) H1) : tLc wi g tt te vs σ H Q :=
  h H e _ fun J B1 H1 G Y up W hG hY D hD => by
    have hDH : H D = none := Evl.fresh_back up.hh hD
    have hDB : B1 D = none := Evl.fresh_back up.bh hD
    refine walk_w W (fun i H' => ∃ Bi ws, Ex B1 Bi ∧ Gw K B1 H1 D Bi H' ws (((xs.take i).filter f).map y))
      ⟨B1, [], Ex.refl _, fun _ h => .inl h, hDB, ex_upd up.bh hDB, Ex.new hD, upd_same, .nil⟩ (fun i H' _ p => ?_) (fun i x Hx H' hi p hy => ?_) (fun H' p => ?_)
    · obtain ⟨Bi, ws, b1, gw⟩ := p
      exact hG H' (b1.trans gw.bh)
    · obtain ⟨Bi, ws, b1, gw⟩ := p
      obtain ⟨d, hd, hB⟩ := hY i x Hx H' hi (b1.trans gw.bh) hy
      obtain ⟨B2, u2, hx⟩ := hB Bi b1 gw.bh
      have gw2 := gw.up u2
      obtain ⟨σ2, hg, hw, htt, hte⟩ := ht d (mem_of_get hd) x B2 ((up.bb.trans b1).trans u2.bb) hx
      refine hg H' _ u2.bh ⟨hw, htt.stay u2.bh fun H3 u3 => ?_⟩
      have gw3 := gw2.up u3
      cases hf : f d with
      | false =>
        refine ⟨B2, ws, b1.trans u2.bb, ?_⟩
        rw [take_snoc hd, List.filter_append, List.map_append, List.filter_cons, if_neg (by rw [hf]; decide)]
        show Gw K B1 H1 D B2 H3 ws (_ ++ [])
        rw [List.append_nil]
        exact gw3
      | true =>
        rw [hf] at hte
        refine (hte rfl) H3 gw3.bh _ fun w B4 H4 u4 hw4 => ⟨ws, (gw3.up u4).eD, ?_, B4, ws ++ [w], (b1.trans u2.bb).trans u4.bb, ?_⟩
        · have h1 := gw.al.length
          rw [List.length_map] at h1
          have h2 := List.length_filter_le f (xs.take i)
          have h3 := List.length_take_le i xs
          have : (sizeLine : Nat) = 16777216 := sizeLine_eq
          omega
        · rw [take_snoc hd, List.filter_append, List.map_append, List.filter_cons, if_pos hf]
          exact (gw3.up u4).push hD hw4
    · obtain ⟨Bi, ws, b1, gw⟩ := p
      have hA := gw.al
      rw [List.take_length] at hA
      refine q D ws Bi H' ⟨up.bb.trans b1, gw.bh, up.hh.trans gw.hh, fun a ha => ?_⟩ gw.bD hDH gw.eD hA
      rcases gw.nw a ha with z | z
      · exact up.nw a z
      · exact .inr (Evl.fresh_back up.hh z)
theorem p_lcU {γ β : Type} [Rep γ] [DecidableEq β] [Datum β] {wi : TI} {g : TG} {vs : List Nat} {xs : List γ} {D : Ends} {i : Nat} (f : γ → Bool) (y : γ → β) (h : ItD K wi σ B xs) (e : Ex B H) (hz : xs.length ≤ 1000000)
    (ht : ∀ x ∈ xs, ∀ v B1, Ex B B1 → Rep.at_ K B1 v x → TurnD K g tt te vs σ B1 v (f x) (y x))
    (q : ∀ L ws B1 H1, Up B H B1 H1 → B1 L = none → H L = none → H1 L = some (.lst ws) → AtAll K B1 ws ((xs.filter f).map y) → D.nx (σ.set i (some (.ref L))) H1) : tAsg (tLc wi g tt te vs) (gName i) D σ H :=
  lcU (Q := fun x H1 => D.nx (σ.set i (some x)) H1) f y h e hz ht q
theorem q_par3B {α β γ : Type} [Rep α] [Rep β] [Rep γ] {R1 : α → Prop} {R2 : β → Prop} {i j l : Nat} {z : γ} {D : Ends} {tz : TS} {c : Int} (h1 : Pb K b n ta σ B R1) (h2 : Pb K b m tb σ B R2) (h3 : Pe K tc σ B z) (e : Ex B H) (bx : BoxAt c B H b) (hn : 0 ≤ m) (hc : c + n + m ≤ 2 ^ 40)
    (k : ∀ v w u x y B1 H1, R1 x → R2 y → Ub b B H B1 H1 → BoxAt (c + n + m) B1 H1 b → Rep.at_ K B1 v x → Rep.at_ K B1 w y → Rep.at_ K B1 u z → tz D (((σ.set i (some v)).set j (some w)).set l (some u)) H1) :
    tSeq (tPar3 i j l (tCons ta (tCons tb (tCons tc tNil)))) tz D σ H :=
  h1 H c e bx (by omega) _ fun v x B1 H1 u1 ub1 r1 hv => (h2.mono u1.bb) H1 (c + n) u1.bh ub1 hc _ fun w y B2 H2 u2 ub2 r2 hw => (h3.mono (u1.bb.trans u2.bb)) H2 u2.bh _ fun t B3 H3 u3 ht =>
    ⟨v, w, t, rfl, k v w t x y B3 H3 r1 r2 ((u1.trans ub1.ne u2).up ub2.ne u3) (u3.box ub2) (Rep.mono (u2.bb.trans u3.bb) hv) (Rep.mono u3.bb hw) ht⟩
theorem p_setB {α : Type} [Rep α] {i : Nat} {D : Ends} {c : Int} {R : α → Prop} (h : Pb K b n te σ B R) (e : Ex B H) (bx : BoxAt c B H b) (hc : c + n ≤ 2 ^ 40) (k : ∀ v x B1 H1, Ub b B H B1 H1 → BoxAt (c + n) B1 H1 b → R x → Rep.at_ K B1 v x → D.nx (σ.set i (some v)) H1) : tAsg te (gName i) D σ H := h H c e bx hc _ fun v x B1 H1 u ub r hv => k v x B1 H1 u ub r hv
theorem rd_addL {α : Type} [DecidableEq α] [Datum α] {xs ys : List α} (hz : xs.length + ys.length ≤ 1000000) : RD K (rAddU K) xs ys (xs ++ ys) := fun B H v w e h1 h2 Q q => by
  obtain ⟨a, vs, rfl, hs, hx⟩ := at_list.mp h1
  obtain ⟨b, ws, rfl, hs2, hy⟩ := at_list.mp h2
  refine .inr (.inr (.inl ⟨a, b, vs, ws, rfl, rfl, Evl.ex_l e hs, Evl.ex_l e hs2, ?_, fun p hp => ?_⟩))
  · rw [hx.length, hy.length]
    exact Nat.le_trans hz (by rw [sizeLine_eq]; decide)
  · have u := Up.new (o := .lst (vs ++ ws)) e hp
    exact q _ _ _ u (at_list.mpr ⟨p, _, rfl, Evl.sq_of upd_same, (hx.append hy).mono u.bb⟩)
theorem e_andVB {a : Bool} {R : Bool → Prop} (h1 : Pe K ta σ B a) (h2 : a = true → Pb K b n tb σ B R) (hn : 0 ≤ n := by decide) : Pb K b n (tAndV ta tb) σ B (fun _ : Bool => True) := fun H c e bx hc Q q =>
  h1 H e _ fun v B1 H1 u hv => ⟨a, at_bl.mp hv, by
    cases a with
    | true => exact ((h2 rfl).mono u.bb) H1 c u.bh (u.box bx) hc _ fun w x B2 H2 u2 ub2 r2 hw => q w x B2 H2 (u.ub.trans (u.box bx).ne u2) ub2 trivial hw
    | false => exact q _ false B1 H1 u.ub ((u.box bx).le (by omega)) trivial (at_bl.mpr rfl)⟩
/-- [x] * k, k 0 or 1 -/
theorem b_rep1 {α : Type} [DecidableEq α] [Datum α] {x : α} {R : Int → Prop} (h : Pe K te σ B x) (hb : Pb K b n tb σ B R) (hR : ∀ k, R k → k = 0 ∨ k = 1) : Pb K b n (tOp (rMulU) (tLst (tCons te tNil)) tb) σ B (fun ys => ys = [] ∨ ys = [x]) := fun H c e bx hc Q q =>
  h H e _ fun v B1 H1 u1 hv => ⟨by show 1 ≤ sizeLine; rw [sizeLine_eq]; decide, fun p hp => by
    have u := u1.then (o := .lst [v]) hp
    have bx1 := u.box bx
    refine (hb.mono u.bb) _ c u.bh bx1 hc (fun w H2 => rMulU (.ref p) w H2 Q) fun w k B2 H2 u2 ub2 r2 hw => ?_
    cases at_int.mp hw
    have hp2 : H2 p = some (.lst [v]) := u2.bh _ _ (u2.bb _ _ upd_same)
    have hvx : Rep.at_ K B2 v x := Rep.mono ((Up.new (o := .lst [v]) u1.bh hp).bb.trans u2.bb) hv
    have w12 := u.ub.trans bx1.ne u2
    rcases hR k r2 with rfl | rfl
    · refine .inr ⟨p, 0, [v], rfl, rfl, hp2, by decide, by decide, by simp, fun p2 hn2 => ?_⟩
      have u3 := Up.new (o := .lst []) u2.bh hn2
      exact q _ [] _ _ (w12.up ub2.ne u3) (u3.box ub2) (.inl rfl) (at_list.mpr ⟨p2, [], rfl, Evl.sq_of upd_same, .nil⟩)
    · refine .inr ⟨p, 1, [v], rfl, rfl, hp2, by decide, by decide, by show 1 * 1 ≤ sizeLine; rw [sizeLine_eq]; decide, fun p2 hn2 => ?_⟩
      have u3 := Up.new (o := .lst [v]) u2.bh hn2
      exact q _ [x] _ _ (w12.up ub2.ne u3) (u3.box ub2) (.inr rfl) (at_list.mpr ⟨p2, [v], rfl, Evl.sq_of upd_same, .cons (Rep.mono u3.bb hvx) .nil⟩)⟩
end
/-- good pairs over the names -/
def GoodP (ns : List Str) (ps : List SS) : Prop := (∀ e ∈ ps, (e.1 ∈ ns ∧ e.2 ∈ ns) ∧ ltS e.1 e.2 = true) ∧ ps.length ≤ 300 ∧ ps.Nodup
theorem enumI_snd (xs : List Str) : (enumI xs).map (·.2) = xs := by
  unfold enumI
  rw [List.map_map]
  exact List.zipIdx_map_fst 0 xs
theorem good_mm {ns : List Str} {x y : Str} (hx : x ∈ ns) (hy : y ∈ ns) (h : x ≠ y) : (minS x y ∈ ns ∧ maxS x y ∈ ns) ∧ ltS (minS x y) (maxS x y) = true := by
  obtain ⟨h1, h2⟩ := min_max h
  refine ⟨?_, h1⟩
  rcases h2 with ⟨e1, e2⟩ | ⟨e1, e2⟩
  · rw [e1, e2]; exact ⟨hx, hy⟩
  · rw [e1, e2]; exact ⟨hy, hx⟩
section
variable {K : PySem.W.Frag}
def oddsL : List Int := [0, 2, 3, 5, 1, 0, 0, 0]
theorem atI_nat {α : Type} {xs : List α} {k : Int} {x : α} (k0 : 0 ≤ k) (h : xs[k.toNat]? = some x) : atI xs k = some x := by
  obtain ⟨l, _⟩ := List.getElem?_eq_some_iff.mp h
  unfold atI ixN
  rw [if_pos k0, if_pos (by omega)]
  exact h
theorem odds_at {k : Int} (k0 : 0 ≤ k) (k1 : k < 8) : ∃ o, atI oddsL k = some o ∧ 0 ≤ o ∧ o ≤ 5 := by
  have hl : k.toNat < oddsL.length := by show k.toNat < 8; omega
  refine ⟨oddsL[k.toNat], atI_nat k0 (List.getElem?_eq_getElem hl), ?_⟩
  have : ∀ x ∈ oddsL, (0 : Int) ≤ x ∧ x ≤ 5 := by decide
  exact this _ (List.getElem_mem hl)
theorem atI_neg1 {α : Type} {xs : List α} (h : xs ≠ []) : ∃ x, atI xs (-1) = some x ∧ xs[xs.length - 1]? = some x := by
  have hp := List.length_pos_iff.mpr h
  refine ⟨xs[xs.length - 1]'(by omega), ?_, List.getElem?_eq_getElem (by omega)⟩
  exact atI_last (n := xs.length - 1) (by omega) (List.getElem?_eq_getElem (by omega))
end
end Ob

set_option Elab.async false
set_option linter.all false
set_option maxRecDepth 100000
set_option maxHeartbeats 4000000
/-! D7: what the laws' last defs need: pairs unpacked, two draws at once, tuples joined, all() over the boxes. -/
namespace Ob
open PySem L2
open Evl (Ex)
open PySem.W (Datum Tup DatumOrd)
section
variable {K : PySem.W.Frag} {H B B' : Hp} {v : V} {σ : L2.St} {te ta tb tc tk tv : TE} {tt tt1 tu : TT} {b : Addr} {n m : Int}
theorem e_addT {α : Type} [DecidableEq α] [Datum α] {xs ys : List α} (ha : Pe K ta σ B (Tup.mk xs)) (hb : Pe K tb σ B (Tup.mk ys)) (hz : xs.length + ys.length ≤ 1000000) : Pe K (tOp (rAddU K) ta tb) σ B (Tup.mk (xs ++ ys)) :=
  e_op ha hb fun B H v w e h1 h2 Q q => by
    obtain ⟨a, vs, rfl, hs, hx⟩ := at_tup.mp h1
    obtain ⟨b, ws, rfl, hs2, hy⟩ := at_tup.mp h2
    refine .inr (.inr (.inr ⟨a, b, vs, ws, rfl, rfl, ex_tx e hs, ex_tx e hs2, ?_, fun hn => ?_, fun _ hn => ?_, fun _ _ p hp => ?_⟩))
    · rw [hx.length, hy.length]
      exact Nat.le_trans hz (by rw [sizeLine_eq]; decide)
    · subst hn
      have e1 : xs = [] := List.eq_nil_of_length_eq_zero hx.length.symm
      subst e1
      exact q _ B H (Up.refl e) (at_tup.mpr ⟨b, ws, rfl, hs2, hy⟩)
    · subst hn
      have e1 : ys = [] := List.eq_nil_of_length_eq_zero hy.length.symm
      subst e1
      rw [List.append_nil] at q
      exact q _ B H (Up.refl e) (at_tup.mpr ⟨a, vs, rfl, hs, hx⟩)
    · have u := Up.new (o := .tup (vs ++ ws)) e hp
      exact q _ _ _ u (at_tup.mpr ⟨p, _, rfl, upd_same, (hx.append hy).mono u.bb⟩)
theorem q_unpP {α β : Type} [DecidableEq α] [Datum α] [DecidableEq β] [Datum β] {p : α × β} {i j : Nat} {D : Ends} {tz : TS} (h : Pe K te σ B p) (e : Ex B H) (k : ∀ v w B1 H1, Up B H B1 H1 → Rep.at_ K B1 v p.1 → Rep.at_ K B1 w p.2 → tz D ((σ.set i (some v)).set j (some w)) H1) :
    tSeq (tAsg te (gUnp K 2 (gCons (gName i) (gCons (gName j) gNil)))) tz D σ H := h H e (fun v H1 => gUnp K 2 (gCons (gName i) (gCons (gName j) gNil)) v σ H1 (tz D)) fun v B1 H1 u hv => unp_pair hv u.bh fun v1 v2 k1 k2 => k v1 v2 B1 H1 u k1 k2
theorem p_unp3 {α β γ : Type} [Rep α] [Rep β] [Rep γ] {x : α} {y : β} {z : γ} {i j l : Nat} {D : Ends} (ha : Pe K ta σ B x) (hb : Pe K tb σ B y) (hc : Pe K tc σ B z) (e : Ex B H) (k : ∀ v w u B1 H1, Up B H B1 H1 → Rep.at_ K B1 v x → Rep.at_ K B1 w y → Rep.at_ K B1 u z → D.nx (((σ.set i (some v)).set j (some w)).set l (some u)) H1) :
    tAsg (tTup (tCons ta (tCons tb (tCons tc tNil)))) (gUnp K 3 (gCons (gName i) (gCons (gName j) (gCons (gName l) gNil)))) D σ H :=
  a_3 ha hb hc H e (fun vs H1 => vs.length ≤ sizeLine ∧ ∀ p, H1 p = none → gUnp K 3 (gCons (gName i) (gCons (gName j) (gCons (gName l) gNil))) (.ref p) σ (upd H1 p (.tup vs)) D.nx) fun vs B2 H2 u2 hvs => by
    obtain ⟨w1, _, rfl, hw1, w2, _, rfl, hw2, w3, _, rfl, hw3, rfl⟩ := hvs
    refine ⟨by show 3 ≤ sizeLine; rw [sizeLine_eq]; decide, fun p hp => .inl ⟨p, _, rfl, Evl.st_of upd_same, rfl, _, _, rfl, _, _, rfl, _, _, rfl, rfl, ?_⟩⟩
    have u3 := u2.then (o := .tup [w1, w2, w3]) hp
    have b3 := (Up.new (o := .tup [w1, w2, w3]) u2.bh hp).bb
    exact k w1 w2 w3 _ _ u3 (Rep.mono b3 hw1) (Rep.mono b3 hw2) (Rep.mono b3 hw3)
theorem q_parB {α β : Type} [Rep α] [Rep β] {R1 : α → Prop} {R2 : β → Prop} {i j : Nat} {D : Ends} {tz : TS} {c : Int} (h1 : Pb K b n ta σ B R1) (h2 : Pb K b m tb σ B R2) (e : Ex B H) (bx : BoxAt c B H b) (hm : 0 ≤ m) (hc : c + n + m ≤ 2 ^ 40)
    (k : ∀ v w x y B1 H1, R1 x → R2 y → Ub b B H B1 H1 → BoxAt (c + n + m) B1 H1 b → Rep.at_ K B1 v x → Rep.at_ K B1 w y → tz D ((σ.set i (some v)).set j (some w)) H1) :
    tSeq (tPar i j (tCons ta (tCons tb tNil))) tz D σ H :=
  h1 H c e bx (by omega) _ fun v x B1 H1 u1 ub1 r1 hv => (h2.mono u1.bb) H1 (c + n) u1.bh ub1 hc _ fun w y B2 H2 u2 ub2 r2 hw =>
    ⟨v, w, rfl, k v w x y B2 H2 r1 r2 (u1.trans ub1.ne u2) ub2 (Rep.mono u2.bb hv) hw⟩
/-- _law_right: it holds -/
def RightP (K : PySem.W.Frag) : Sp := fun vs H Q _ => ∃ b B, vs = [.ref b] ∧ Ex B H ∧ BoxAt 0 B H b ∧ ∀ B2 H2, Ub b B H B2 H2 → Q (.bl true) H2
theorem RightP.len (vs : List V) (H : Hp) (Q : VK) (E : XK) (h : RightP K vs H Q E) : vs.length = 1 := by
  obtain ⟨b, B, rfl, _⟩ := h
  rfl
theorem e_right {s : Sq Int} {k : Int} {E E' : XK} (h1 : Pe K ta σ B s) (h2 : Pe K tb σ B k) (k0 : 0 ≤ k) (k1 : k ≤ 1000) : Pe K (tCall (RightP K) [] E (tCons (tCall (sp_Lbox K) [] E' (tCons ta (tCons tb tNil))) tNil)) σ B true := fun H e Q q =>
  a_2 h1 h2 H e (fun vs H1 => sp_Lbox K (vs ++ []) H1 (fun v H2 => RightP K ([v] ++ []) H2 Q E) E') fun vs B1 H1 u hv => by
    rw [List.append_nil]
    exact ⟨s, k, B1, u.bh, hv, ⟨k0, k1⟩, fun b B2 H2 u2 hn bx => ⟨b, B2, rfl, u2.bh, bx, fun B3 H3 u3 => q _ B3 H3 (u.trans (Ub.new u2 hn bx.ne u3)) (at_bl.mpr rfl)⟩⟩
/-- all([_law_right(_law_box(script, k)) for k in range(1 + min(j, len(script)))]) -/
theorem e_law {s : Sq Int} {j : Int} {i0 i1 : Nat} {vs : List Nat} {E E' : XK} {vsc : V} (hi : σ[i0]? = some (some vsc)) (hs : Rep.at_ K B vsc s) (j0 : 0 ≤ j) (j1 : j ≤ 100)
    (hset : ∀ w, ((wipe σ vs).set i1 (some w))[i0]? = some (some vsc) ∧ ((wipe σ vs).set i1 (some w))[i1]? = some (some w) ∧ wipe ((wipe σ vs).set i1 (some w)) vs = wipe σ vs) :
    Pe K (tCB (rAll K) (tCons (tLc (iRng1 (tCons (tOp (rAddU K) (tC (.int 1)) (tCB (rMinU) (tCons (tC (.int j)) (tCons (tCB (rLenU K) (tCons (tVar i0) tNil)) tNil)))) tNil)) (gName i1) tYes (tCall (RightP K) [] E (tCons (tCall (sp_Lbox K) [] E' (tCons (tVar i0) (tCons (tVar i1) tNil))) tNil)) vs) tNil)) σ B true := by
  have hm : 0 ≤ (if (s.items.length : Int) < j then (s.items.length : Int) else j) ∧ (if (s.items.length : Int) < j then (s.items.length : Int) else j) ≤ j := by split <;> omega
  refine (e_all (e_lc (fun _ => true) (fun _ : Int => true) (it_rng1 (e_addI e_int (e_minI e_int (e_lenSq (e_var hi hs)))) (by omega) (by omega)) (by rw [rangeI_len]; omega) fun k hk w B1 b1 hw => turn_name rfl (hset w).2.2 t_yes fun _ => ?_)).is ?_
  · obtain ⟨z, hz, rfl⟩ := List.mem_map.mp hk
    rw [List.mem_range] at hz
    exact e_right (e_var (hset w).1 (Rep.mono b1 hs)) (e_var (hset w).2.1 hw) (by omega) (by omega)
  · rw [all_map_id]
    simp
end
section
variable {K : PySem.W.Frag}
/-- the law, of its script -/
abbrev sp_law (K : PySem.W.Frag) : Sp := Fn1 K (fun _ : Sq Int => True) fun _ => true
theorem l_law (vs : List V) (H : Hp) (Q : VK) (E : XK) (h : sp_law K vs H Q E) : vs.length = 1 := Fn1.len vs H Q E h
abbrev sp_Lright (K : PySem.W.Frag) : Sp := RightP K
theorem l_Lright (vs : List V) (H : Hp) (Q : VK) (E : XK) (h : sp_Lright K vs H Q E) : vs.length = 1 := RightP.len vs H Q E h
def N_law : List Str := ["_law_script", "_law_k"]
def t_law (K : PySem.W.Frag) : TS :=
  (tRet (tCB (rAll K) (tCons (tLc (iRng1 (tCons (tOp (rAddU K) (tC (.int 1)) (tCB (rMinU) (tCons (tC (.int 2)) (tCons (tCB (rLenU K) (tCons (tVar 0) tNil)) tNil)))) tNil)) (gName 1) tYes (tCall (sp_Lright K) [] E0 (tCons (tCall (sp_Lbox K) [] E0 (tCons (tVar 0) (tCons (tVar 1) tNil))) tNil)) [1]) tNil)))
theorem r_law (vs : List V) (H : Hp) (Q : VK) (E : XK) (h : sp_law K vs H Q E) : t_law K (Ends.ret Q) (start N_law vs) H := by
  obtain ⟨s, B, e, ⟨v, _, rfl, h1, rfl⟩, _, q⟩ := h
  exact p_ret (e_law (s := s) rfl h1 (by decide) (by decide) (fun w => ⟨rfl, rfl, rfl⟩)) e q
end
end Ob

set_option Elab.async false
set_option linter.all false
set_option maxRecDepth 100000
set_option maxHeartbeats 4000000
/-! S1: the state as one record: slots by what they hold, objects that may change, what stood at the start. -/
namespace Ob
open PySem L2
open Evl (Ex)
open PySem.W (Datum Tup DatumOrd)
/-! ### slots -/
structure Cell where
  α : Type
  inst : Rep α
  x : α
abbrev ce {α : Type} [r : Rep α] (x : α) : Option Cell := some ⟨α, r, x⟩
abbrev ca (l : Addr) : Option Cell := ce (Any.mk (.ref l))
def At1 (K : PySem.W.Frag) (B : Hp) (o : Option V) (c : Option Cell) : Prop := ∀ d, c = some d → ∃ v, o = some v ∧ @Rep.at_ d.α d.inst K B v d.x
inductive Slots (K : PySem.W.Frag) (B : Hp) : L2.St → List (Option Cell) → Prop where
  | nil : Slots K B [] []
  | cons {o : Option V} {c : Option Cell} {σ : L2.St} {Γ : List (Option Cell)} (a : At1 K B o c) (t : Slots K B σ Γ) : Slots K B (o :: σ) (c :: Γ)
def cg : List (Option Cell) → Nat → Option Cell
  | [], _ => none
  | c :: _, 0 => c
  | _ :: Γ, n + 1 => cg Γ n
def cs : List (Option Cell) → Nat → Option Cell → List (Option Cell)
  | [], _, _ => []
  | _ :: Γ, 0, c => c :: Γ
  | d :: Γ, n + 1, c => d :: cs Γ n c
def cw (Γ : List (Option Cell)) : List Nat → List (Option Cell)
  | [] => Γ
  | v :: vs => cs (cw Γ vs) v none
section
variable {K : PySem.W.Frag} {B B' H : Hp} {σ : L2.St} {Γ : List (Option Cell)} {te ta tb tc tk tv : TE} {tt tu : TT}
theorem At1.none {o : Option V} : At1 K B o none := fun _ h => by cases h
theorem At1.some {α : Type} [r : Rep α] {v : V} {x : α} (h : Rep.at_ K B v x) : At1 K B (some v) (ce x) := fun d e => by
  cases e
  exact ⟨v, rfl, h⟩
theorem Slots.mono (s : Slots K B σ Γ) (e : Ex B B') : Slots K B' σ Γ := by
  induction s with
  | nil => exact .nil
  | cons h t ih => exact .cons (fun d hd => by
      obtain ⟨v, h1, h2⟩ := h d hd
      exact ⟨v, h1, @Rep.mono d.α d.inst _ _ _ _ _ e h2⟩) ih
theorem Slots.get : ∀ {σ : L2.St} {Γ : List (Option Cell)}, Slots K B σ Γ → ∀ {i : Nat} {d : Cell}, cg Γ i = some d → ∃ v, σ[i]? = some (some v) ∧ @Rep.at_ d.α d.inst K B v d.x
  | _, _, .nil, _, _, h => by cases h
  | _, _, .cons a t, 0, d, h => by
    obtain ⟨v, h1, h2⟩ := a d h
    exact ⟨v, by rw [h1]; rfl, h2⟩
  | _, _, .cons a t, n + 1, d, h => by
    obtain ⟨v, h1, h2⟩ := Slots.get t (i := n) h
    exact ⟨v, by simpa using h1, h2⟩
theorem Slots.put : ∀ {σ : L2.St} {Γ : List (Option Cell)}, Slots K B σ Γ → ∀ (i : Nat) {o : Option V} {c : Option Cell}, At1 K B o c → Slots K B (σ.set i o) (cs Γ i c)
  | _, _, .nil, _, _, _, _ => .nil
  | _, _, .cons a t, 0, _, _, h => .cons h t
  | _, _, .cons a t, n + 1, _, _, h => .cons a (Slots.put t n h)
theorem Slots.set {α : Type} [r : Rep α] (s : Slots K B σ Γ) (i : Nat) {v : V} {x : α} (h : Rep.at_ K B v x) : Slots K B (σ.set i (some v)) (cs Γ i (ce x)) := s.put i (At1.some h)
theorem Slots.wipe (s : Slots K B σ Γ) : ∀ vs : List Nat, Slots K B (wipe σ vs) (cw Γ vs)
  | [] => s
  | v :: vs => (Slots.wipe s vs).put v At1.none
theorem Slots.wiped : ∀ (vs : List Nat) {σ : L2.St} {Γ : List (Option Cell)}, Slots K B σ Γ → Slots K B σ (cw Γ vs)
  | [], _, _, s => s
  | v :: vs, σ, Γ, s => by
    have h := Slots.wiped vs s
    have key : ∀ {σ : L2.St} {Γ : List (Option Cell)}, Slots K B σ Γ → ∀ i, Slots K B σ (cs Γ i none) := by
      intro σ Γ s
      induction s with
      | nil => intro i; exact .nil
      | cons a t ih =>
        intro i
        cases i with
        | zero => exact .cons At1.none t
        | succ n => exact .cons a (ih n)
    exact key h v
/-- the slot i, read -/
theorem Slots.v {α : Type} [r : Rep α] {x : α} (s : Slots K B σ Γ) (i : Nat) (h : cg Γ i = ce x) : Pe K (tVar i) σ B x := by
  obtain ⟨v, h1, h2⟩ := s.get h
  exact e_var h1 h2
theorem Slots.rf {l : Addr} (s : Slots K B σ Γ) (i : Nat) (h : cg Γ i = ca l) : σ[i]? = some (some (.ref l)) := by
  obtain ⟨v, h1, h2⟩ := s.get h
  have : v = .ref l := h2
  rw [h1, this]
theorem set_none_comm {σ : L2.St} {i : Nat} : ∀ {vs : List Nat}, i ∈ vs → ∀ o, L2.wipe (σ.set i o) vs = L2.wipe σ vs
  | v :: vs, h, o => by
    unfold L2.wipe
    by_cases hi : i ∈ vs
    · rw [set_none_comm hi o]
    · have hv : i = v := (List.mem_cons.mp h).resolve_right hi
      subst hv
      have key : ∀ {vs : List Nat}, i ∉ vs → L2.wipe (σ.set i o) vs = (L2.wipe σ vs).set i o := by
        intro vs
        induction vs with
        | nil => intro _; rfl
        | cons w ws ih =>
          intro hn
          rw [List.mem_cons, not_or] at hn
          unfold L2.wipe
          rw [ih hn.2, List.set_comm _ _ (fun z => hn.1 z)]
      rw [key hi, List.set_set]
theorem wipe_wipe {σ : L2.St} {vs : List Nat} : L2.wipe (L2.wipe σ vs) vs = L2.wipe σ vs := by
  have key : ∀ ws : List Nat, (∀ w ∈ ws, w ∈ vs) → L2.wipe (L2.wipe σ ws) vs = L2.wipe σ vs := by
    intro ws
    induction ws with
    | nil => intro _; rfl
    | cons w ws ih =>
      intro h
      show L2.wipe ((L2.wipe σ ws).set w none) vs = _
      rw [set_none_comm (h w List.mem_cons_self)]
      exact ih fun z hz => h z (List.mem_cons_of_mem _ hz)
  exact key vs fun _ h => h
/-! ### comprehensions by slots -/
section
variable {β γ : Type} [DecidableEq β] [Datum β] [Rep γ] {wi : TI} {xs : List γ} {j : Nat}
theorem Slots.turn (s : Slots K B σ Γ) {v : V} {x : γ} (h : Rep.at_ K B v x) : Slots K B ((L2.wipe σ [j]).set j (some v)) (cs (cw Γ [j]) j (ce x)) := (s.wipe [j]).set j h
theorem Slots.lc (s : Slots K B σ Γ) (f : γ → Bool) (y : γ → β) (h : ItD K wi σ B xs) (hz : xs.length ≤ 1000000)
    (ht : ∀ x ∈ xs, ∀ σ2 B1, Ex B B1 → Slots K B1 σ2 (cs (cw Γ [j]) j (ce x)) → Pt tt σ2 B1 (f x) ∧ (f x = true → Pe K te σ2 B1 (y x))) : Pe K (tLc wi (gName j) tt te [j]) σ B ((xs.filter f).map y) :=
  e_lc f y h hz fun x hx v B1 b1 hv => by
    obtain ⟨h1, h2⟩ := ht x hx _ B1 b1 ((s.mono b1).turn hv)
    exact turn_name rfl (by rw [set_none_comm (List.mem_singleton.mpr rfl), wipe_wipe]) h1 h2
/-- without a test -/
theorem Slots.lcA (s : Slots K B σ Γ) (y : γ → β) (h : ItD K wi σ B xs) (hz : xs.length ≤ 1000000)
    (ht : ∀ x ∈ xs, ∀ σ2 B1, Ex B B1 → Slots K B1 σ2 (cs (cw Γ [j]) j (ce x)) → Pe K te σ2 B1 (y x)) : Pe K (tLc wi (gName j) tYes te [j]) σ B (xs.map y) :=
  (s.lc (fun _ => true) y h hz fun x hx σ2 B1 b1 s2 => ⟨t_yes, fun _ => ht x hx σ2 B1 b1 s2⟩).is (by rw [List.filter_eq_self.mpr fun _ _ => rfl])
end
section
variable {β : Type} [DecidableEq β] [Datum β] {wi : TI} {xs : List β} {j : Nat}
/-- the items themselves, by a test -/
theorem Slots.lcF (s : Slots K B σ Γ) (f : β → Bool) (h : ItD K wi σ B xs) (hz : xs.length ≤ 1000000)
    (ht : ∀ x ∈ xs, ∀ σ2 B1, Ex B B1 → Slots K B1 σ2 (cs (cw Γ [j]) j (ce x)) → Pt tt σ2 B1 (f x) ∧ cg (cs (cw Γ [j]) j (ce x)) j = ce x) : Pe K (tLc wi (gName j) tt (tVar j) [j]) σ B (xs.filter f) :=
  (s.lc f (fun x => x) h hz fun x hx σ2 B1 b1 s2 => ⟨(ht x hx σ2 B1 b1 s2).1, fun _ => s2.v j (ht x hx σ2 B1 b1 s2).2⟩).is (List.map_id' _)
end
section
variable {α β γ : Type} [DecidableEq α] [Datum α] [DecidableEq β] [Datum β] [DecidableEq γ] [Datum γ] {wi : TI} {xs : List (α × γ)} {i j : Nat}
/-- the target two names, the items pairs -/
theorem Slots.lc2 (s : Slots K B σ Γ) (f : α × γ → Bool) (y : α × γ → β) (h : ItD K wi σ B xs) (hz : xs.length ≤ 1000000)
    (ht : ∀ x ∈ xs, ∀ σ2 B1, Ex B B1 → Slots K B1 σ2 (cs (cs (cw Γ [i, j]) i (ce x.1)) j (ce x.2)) → Pt tt σ2 B1 (f x) ∧ (f x = true → Pe K te σ2 B1 (y x))) : Pe K (tLc wi (gUnp K 2 (gCons (gName i) (gCons (gName j) gNil))) tt te [i, j]) σ B ((xs.filter f).map y) :=
  e_lc f y h hz fun x hx v B1 b1 hv => turn_pairU hv fun v1 v2 k1 k2 => by
    obtain ⟨h1, h2⟩ := ht x hx _ B1 b1 ((((s.mono b1).wipe [i, j]).set i k1).set j k2)
    exact ⟨by rw [set_none_comm (by simp), set_none_comm (by simp), wipe_wipe], h1, h2⟩
end
end
/-! ### objects that may change -/
structure OC where
  l : Addr
  P : Hp → HO → Prop
  mono : ∀ {B B' : Hp} {o : HO}, Ex B B' → P B o → P B' o
def lstC (K : PySem.W.Frag) (l : Addr) {α : Type} [Rep α] (xs : List α) : OC := ⟨l, fun B o => ∃ vs, o = .lst vs ∧ AtAll K B vs xs, fun e ⟨vs, h1, h2⟩ => ⟨vs, h1, h2.mono e⟩⟩
def boxC (b : Addr) (c : Int) : OC := ⟨b, fun _ o => ∃ g m k : Int, o = .lst [.int g, .int m, .int k] ∧ 0 ≤ g ∧ 0 ≤ m ∧ m < 2 ^ 62 ∧ 0 ≤ k ∧ k ≤ c, fun _ h => h⟩
def dktC (l : Addr) (ks : List Str) : OC := ⟨l, fun _ o => o = .dK (kt ks), fun _ h => h⟩
structure St (K : PySem.W.Frag) (W0 : List Addr) (B0 H0 : Hp) (os : List OC) (Γ : List (Option Cell)) (σ : L2.St) (B H : Hp) : Prop where
  bb : Ex B0 B
  bh : Ex B H
  hh : ∀ a u, a ∉ W0 → H0 a = some u → H a = some u
  dm : ∀ a, H0 a ≠ none → H a ≠ none
  nw : ∀ a, B a ≠ none → B0 a ≠ none ∨ H0 a = none
  own : ∀ o ∈ os, B o.l = none ∧ (o.l ∈ W0 ∨ H0 o.l = none) ∧ ∃ ob, H o.l = some ob ∧ o.P B ob
  nd : (os.map (·.l)).Nodup
  sl : Slots K B σ Γ
section
variable {K : PySem.W.Frag} {W0 : List Addr} {B0 H0 : Hp} {os : List OC} {Γ : List (Option Cell)} {σ : L2.St} {B H B1 H1 : Hp} {te ta tb tc tk tv : TE} {tt : TT} {D : Ends} {tu tw tz : TS}
theorem St.up (s : St K W0 B0 H0 os Γ σ B H) (u : Up B H B1 H1) : St K W0 B0 H0 os Γ σ B1 H1 where
  bb := s.bb.trans u.bb
  bh := u.bh
  hh a x h h0 := u.hh a x (s.hh a x h h0)
  dm a h := by
    cases q : H a with
    | none => exact absurd q (s.dm a h)
    | some o =>
      rw [u.hh a o q]
      exact fun z => nomatch z
  nw a h := by
    rcases u.nw a h with z | z
    · exact s.nw a z
    · cases q : H0 a with
      | none => exact .inr rfl
      | some o => exact absurd z (s.dm a (by rw [q]; exact fun z => nomatch z))
  own o ho := by
    obtain ⟨h1, h2, ob, h3, h4⟩ := s.own o ho
    exact ⟨(u.out h1 h3).1, h2, ob, (u.out h1 h3).2, o.mono u.bb h4⟩
  nd := s.nd
  sl := s.sl.mono u.bb
theorem St.slot (s : St K W0 B0 H0 os Γ σ B H) {σ' : L2.St} {Γ' : List (Option Cell)} (h : Slots K B σ' Γ') : St K W0 B0 H0 os Γ' σ' B H := ⟨s.bb, s.bh, s.hh, s.dm, s.nw, s.own, s.nd, h⟩
theorem St.fg (s : St K W0 B0 H0 os Γ σ B H) (vs : List Nat) : St K W0 B0 H0 os (cw Γ vs) σ B H := s.slot (s.sl.wiped vs)
theorem St.put (s : St K W0 B0 H0 os Γ σ B H) {α : Type} [Rep α] (i : Nat) {v : V} {x : α} (h : Rep.at_ K B v x) : St K W0 B0 H0 os (cs Γ i (ce x)) (σ.set i (some v)) B H := s.slot (s.sl.set i h)
/-- the slot i, read -/
theorem St.v (s : St K W0 B0 H0 os Γ σ B H) {α : Type} [r : Rep α] {x : α} (i : Nat) (h : cg Γ i = ce x) : Pe K (tVar i) σ B x := s.sl.v i h
/-- a turn's own record, joined with that from the start -/
theorem St.comp (s : St K W0 B0 H0 os Γ σ B H) {os' : List OC} {Γ' : List (Option Cell)} {σ' : L2.St} (w : St K (os.map (·.l)) B H os' Γ' σ' B1 H1) : St K W0 B0 H0 os' Γ' σ' B1 H1 where
  bb := s.bb.trans w.bb
  bh := w.bh
  hh a x h h0 := by
    refine w.hh a x (fun hm => ?_) (s.hh a x h h0)
    obtain ⟨o, ho, rfl⟩ := List.mem_map.mp hm
    rcases (s.own o ho).2.1 with z | z
    · exact h z
    · rw [z] at h0
      cases h0
  dm a h := w.dm a (s.dm a h)
  nw a h := by
    rcases w.nw a h with z | z
    · exact s.nw a z
    · cases q : H0 a with
      | none => exact .inr rfl
      | some o => exact absurd z (s.dm a (by rw [q]; exact fun z => nomatch z))
  own o ho := by
    obtain ⟨h1, h2, h3⟩ := w.own o ho
    refine ⟨h1, ?_, h3⟩
    rcases h2 with z | z
    · obtain ⟨o', ho', e⟩ := List.mem_map.mp z
      have := (s.own o' ho').2.1
      rw [e] at this
      exact this
    · cases q : H0 o.l with
      | none => exact .inr rfl
      | some x => exact absurd z (s.dm _ (by rw [q]; exact fun z => nomatch z))
  nd := w.nd
  sl := w.sl
/-- a turn's own record, at its start -/
theorem St.here (s : St K W0 B0 H0 os Γ σ B H) : St K (os.map (·.l)) B H os Γ σ B H where
  bb := Ex.refl B
  bh := s.bh
  hh _ _ _ h := h
  dm _ h := h
  nw _ h := .inl h
  own o ho := ⟨(s.own o ho).1, .inl (List.mem_map.mpr ⟨o, ho, rfl⟩), (s.own o ho).2.2⟩
  nd := s.nd
  sl := s.sl
theorem St.toUp (s : St K [] B0 H0 os Γ σ B H) : Up B0 H0 B H := ⟨s.bb, s.bh, fun a u h => s.hh a u (by simp) h, s.nw⟩
theorem St.toUb {b : Addr} (s : St K [b] B0 H0 os Γ σ B H) : Ub b B0 H0 B H := ⟨s.bb, s.bh, fun a u ne h => s.hh a u (by simpa using ne) h, s.nw⟩
theorem St.box {b : Addr} {c : Int} (s : St K W0 B0 H0 (boxC b c :: os) Γ σ B H) : BoxAt c B H b := by
  obtain ⟨h1, _, ob, h3, g, m, k, rfl, h4⟩ := s.own _ List.mem_cons_self
  exact ⟨h1, g, m, k, h3, h4⟩
theorem boxC_of {b : Addr} {c : Int} (x : BoxAt c B H b) : B b = none ∧ ∃ ob, H b = some ob ∧ (boxC b c).P B ob := by
  obtain ⟨f, g, m, k, h1, h2⟩ := x
  exact ⟨f, _, h1, g, m, k, rfl, h2⟩
/-- behind a draw -/
theorem St.ub {b : Addr} {c d : Int} (s : St K W0 B0 H0 (boxC b c :: os) Γ σ B H) (u : Ub b B H B1 H1) (x : BoxAt d B1 H1 b) : St K W0 B0 H0 (boxC b d :: os) Γ σ B1 H1 := by
  have hb := s.own _ List.mem_cons_self
  have hH : H b ≠ none := s.box.ne
  refine ⟨s.bb.trans u.bb, u.bh, fun a w h h0 => ?_, fun a h => ?_, fun a h => ?_, fun o ho => ?_, s.nd, s.sl.mono u.bb⟩
  · refine u.hh a w (fun z => ?_) (s.hh a w h h0)
    subst z
    rcases hb.2.1 with z | z
    · exact h z
    · have z' : H0 a = none := z
      rw [z'] at h0
      cases h0
  · by_cases e : a = b
    · rw [e]
      exact x.ne
    · cases q : H a with
      | none => exact absurd q (s.dm a h)
      | some o =>
        rw [u.hh a o e q]
        exact fun z => nomatch z
  · rcases u.nw a h with z | z
    · exact s.nw a z
    · cases q : H0 a with
      | none => exact .inr rfl
      | some o => exact absurd z (s.dm a (by rw [q]; exact fun z => nomatch z))
  · rcases List.mem_cons.mp ho with rfl | ho
    · obtain ⟨h1, h2⟩ := boxC_of x
      exact ⟨h1, hb.2.1, h2⟩
    · obtain ⟨h1, h2, ob, h3, h4⟩ := s.own o (List.mem_cons_of_mem _ ho)
      have ne : o.l ≠ b := fun z => by
        have := s.nd
        rw [List.map_cons, List.nodup_cons] at this
        exact this.1 (List.mem_map.mpr ⟨o, ho, z⟩)
      exact ⟨(u.out h1 h3 ne).1, h2, ob, (u.out h1 h3 ne).2, o.mono u.bb h4⟩
theorem St.le {b : Addr} {c d : Int} (s : St K W0 B0 H0 (boxC b c :: os) Γ σ B H) (h : c ≤ d) : St K W0 B0 H0 (boxC b d :: os) Γ σ B H := s.ub (Ub.refl s.bh) (s.box.le h)
/-- a new object that may change -/
theorem St.add (s : St K W0 B0 H0 os Γ σ B H) {p : Addr} {ob : HO} (hp : H p = none) (o : OC) (ho : o.l = p) (hP : o.P B ob) : St K W0 B0 H0 (os ++ [o]) Γ σ B (upd H p ob) := by
  have hB : B p = none := Evl.fresh_back s.bh hp
  have h0 : H0 p = none := by
    cases q : H0 p with
    | none => rfl
    | some x => exact absurd hp (s.dm p (by rw [q]; exact fun z => nomatch z))
  refine ⟨s.bb, ex_upd s.bh hB, fun a u h hu => ?_, fun a h => ?_, s.nw, fun o' ho' => ?_, ?_, s.sl⟩
  · have ne : a ≠ p := fun z => by rw [z, h0] at hu; cases hu
    rw [upd_ne ne]
    exact s.hh a u h hu
  · by_cases e : a = p
    · rw [e, upd_same]
      exact fun z => nomatch z
    · rw [upd_ne e]
      exact s.dm a h
  · rcases List.mem_append.mp ho' with h | h
    · obtain ⟨h1, h2, x, h3, h4⟩ := s.own o' h
      have ne : o'.l ≠ p := fun z => by rw [z, hp] at h3; cases h3
      exact ⟨h1, h2, x, by rw [upd_ne ne]; exact h3, h4⟩
    · rw [List.mem_singleton.mp h, ho]
      exact ⟨hB, .inr h0, ob, upd_same, hP⟩
  · rw [List.map_append, List.nodup_append]
    refine ⟨s.nd, by simp, fun a ha c hc e => ?_⟩
    obtain ⟨o', h, rfl⟩ := List.mem_map.mp ha
    have : c = p := by
      have : c = o.l := List.mem_singleton.mp hc
      rw [this, ho]
    obtain ⟨_, _, x, h3, _⟩ := s.own o' h
    rw [e, this, hp] at h3
    cases h3
theorem set_mem {os : List OC} : ∀ {k : Nat} {o x : OC}, os[k]? = some o → ∀ y, y ∈ os.set k x → y = x ∨ (y ∈ os ∧ ((os.map (·.l)).Nodup → y.l ≠ o.l)) := by
  induction os with
  | nil => intro k o x h; simp at h
  | cons w os ih =>
    intro k o x h y hy
    cases k with
    | zero =>
      simp at h
      subst h
      rcases List.mem_cons.mp hy with e | e
      · exact .inl e
      · refine .inr ⟨List.mem_cons_of_mem _ e, fun nd z => ?_⟩
        rw [List.map_cons, List.nodup_cons] at nd
        exact nd.1 (List.mem_map.mpr ⟨y, e, z⟩)
    | succ k =>
      have h' : os[k]? = some o := by simpa using h
      rcases List.mem_cons.mp hy with e | e
      · refine .inr ⟨by rw [e]; exact List.mem_cons_self, fun nd z => ?_⟩
        rw [List.map_cons, List.nodup_cons] at nd
        rw [e] at z
        exact nd.1 (List.mem_map.mpr ⟨o, List.mem_of_getElem? h', z.symm⟩)
      · rcases ih (x := x) h' y e with r | ⟨r1, r2⟩
        · exact .inl r
        · refine .inr ⟨List.mem_cons_of_mem _ r1, fun nd => ?_⟩
          rw [List.map_cons, List.nodup_cons] at nd
          exact r2 nd.2
/-- the object k is changed -/
theorem St.chg (s : St K W0 B0 H0 os Γ σ B H) {k : Nat} {o o' : OC} {ob : HO} (h : os[k]? = some o) (hl : o'.l = o.l) (hP : o'.P B ob) : St K W0 B0 H0 (os.set k o') Γ σ B (upd H o.l ob) := by
  obtain ⟨h1, h2, x, h3, h4⟩ := s.own o (List.mem_of_getElem? h)
  refine ⟨s.bb, ex_upd s.bh h1, fun a u ha hu => ?_, fun a ha => ?_, s.nw, fun y hy => ?_, ?_, s.sl⟩
  · have ne : a ≠ o.l := fun z => by
      rcases h2 with w | w
      · exact ha (z ▸ w)
      · rw [z, w] at hu; cases hu
    rw [upd_ne ne]
    exact s.hh a u ha hu
  · by_cases e : a = o.l
    · rw [e, upd_same]
      exact fun z => nomatch z
    · rw [upd_ne e]
      exact s.dm a ha
  · rcases set_mem h y hy with e | ⟨e, ne⟩
    · rw [e, hl]
      exact ⟨h1, h2, ob, upd_same, hP⟩
    · obtain ⟨g1, g2, w, g3, g4⟩ := s.own y e
      exact ⟨g1, g2, w, by rw [upd_ne (ne s.nd)]; exact g3, g4⟩
  · have e : (os.set k o').map (·.l) = os.map (·.l) := by
      rw [List.map_set, hl]
      refine List.ext_getElem? fun i => ?_
      rw [List.getElem?_set]
      split
      · next e =>
        subst e
        rw [List.getElem?_map, h]
        split
        · rfl
        · next z => exact absurd (by rw [List.length_map]; exact (List.getElem?_eq_some_iff.mp h).1) z
      · rfl
    rw [e]
    exact s.nd
/-! ### the start of a def -/
theorem start_slots : ∀ (vs : List V) (cs : List (Option Cell)) (n : Nat), Slots K B (vs.map some) cs → Slots K B (vs.map some ++ List.replicate n none) (cs ++ List.replicate n none)
  | [], [], n, .nil => by
    show Slots K B (List.replicate n none) (List.replicate n none)
    induction n with
    | zero => exact .nil
    | succ n ih => exact .cons At1.none ih
  | _ :: vs, _ :: cs, n, .cons a t => .cons a (start_slots vs cs n t)
theorem St.pure (e : Ex B H) (s : Slots K B σ Γ) : St K [] B H [] Γ σ B H := ⟨Ex.refl B, e, fun _ _ _ h => h, fun _ h => h, fun _ h => .inl h, fun _ h => (by cases h), List.nodup_nil, s⟩
theorem St.draw {b : Addr} {c : Int} (e : Ex B H) (x : BoxAt c B H b) (s : Slots K B σ Γ) : St K [b] B H [boxC b c] Γ σ B H :=
  ⟨Ex.refl B, e, fun _ _ _ h => h, fun _ h => h, fun _ h => .inl h, fun o ho => by
    rw [List.mem_singleton.mp ho]
    obtain ⟨h1, h2⟩ := boxC_of x
    exact ⟨h1, .inl (by simp [boxC]), h2⟩, by simp, s⟩
section
variable {α β γ δ : Type} [Rep α] [Rep β] [Rep γ] [Rep δ]
/-! ### statements -/
theorem St.set {i : Nat} {x : α} (s : St K W0 B0 H0 os Γ σ B H) (h : Pe K te σ B x) (k : ∀ σ1 B1 H1, St K W0 B0 H0 os (cs Γ i (ce x)) σ1 B1 H1 → tz D σ1 H1) : tSeq (tAsg te (gName i)) tz D σ H :=
  h H s.bh _ fun v B1 H1 u hv => k _ B1 H1 ((s.up u).put i hv)
theorem St.setL {i : Nat} {x : α} (s : St K W0 B0 H0 os Γ σ B H) (h : Pe K te σ B x) (k : ∀ σ1 B1 H1, St K W0 B0 H0 os (cs Γ i (ce x)) σ1 B1 H1 → D.nx σ1 H1) : tAsg te (gName i) D σ H :=
  h H s.bh _ fun v B1 H1 u hv => k _ B1 H1 ((s.up u).put i hv)
theorem St.setB {b : Addr} {c n : Int} {R : α → Prop} {i : Nat} (s : St K W0 B0 H0 (boxC b c :: os) Γ σ B H) (h : Pb K b n te σ B R) (hc : c + n ≤ 2 ^ 40) (k : ∀ x, R x → ∀ σ1 B1 H1, St K W0 B0 H0 (boxC b (c + n) :: os) (cs Γ i (ce x)) σ1 B1 H1 → tz D σ1 H1) : tSeq (tAsg te (gName i)) tz D σ H :=
  h H c s.bh s.box hc _ fun v x B1 H1 u ub r hv => k x r _ B1 H1 ((s.ub u ub).put i hv)
theorem St.setBL {b : Addr} {c n : Int} {R : α → Prop} {i : Nat} (s : St K W0 B0 H0 (boxC b c :: os) Γ σ B H) (h : Pb K b n te σ B R) (hc : c + n ≤ 2 ^ 40) (k : ∀ x, R x → ∀ σ1 B1 H1, St K W0 B0 H0 (boxC b (c + n) :: os) (cs Γ i (ce x)) σ1 B1 H1 → D.nx σ1 H1) : tAsg te (gName i) D σ H :=
  h H c s.bh s.box hc _ fun v x B1 H1 u ub r hv => k x r _ B1 H1 ((s.ub u ub).put i hv)
theorem St.par {i j : Nat} {x : α} {y : β} (s : St K W0 B0 H0 os Γ σ B H) (h1 : Pe K ta σ B x) (h2 : Pe K tb σ B y) (k : ∀ σ1 B1 H1, St K W0 B0 H0 os (cs (cs Γ i (ce x)) j (ce y)) σ1 B1 H1 → tz D σ1 H1) : tSeq (tPar i j (tCons ta (tCons tb tNil))) tz D σ H :=
  h1.both h2 s.bh fun v w B1 H1 u hv hw => ⟨v, w, rfl, k _ B1 H1 (((s.up u).put i hv).put j hw)⟩
theorem St.par3 {i j l : Nat} {x : α} {y : β} {z : γ} (s : St K W0 B0 H0 os Γ σ B H) (h1 : Pe K ta σ B x) (h2 : Pe K tb σ B y) (h3 : Pe K tc σ B z) (k : ∀ σ1 B1 H1, St K W0 B0 H0 os (cs (cs (cs Γ i (ce x)) j (ce y)) l (ce z)) σ1 B1 H1 → tz D σ1 H1) : tSeq (tPar3 i j l (tCons ta (tCons tb (tCons tc tNil)))) tz D σ H :=
  a_3 h1 h2 h3 H s.bh (fun vs H1 => ∃ v w u, vs = [v, w, u] ∧ tz D (((σ.set i (some v)).set j (some w)).set l (some u)) H1) fun vs B2 H2 u2 hvs => by
    obtain ⟨w1, _, rfl, hw1, w2, _, rfl, hw2, w3, _, rfl, hw3, rfl⟩ := hvs
    exact ⟨w1, w2, w3, rfl, k _ B2 H2 ((((s.up u2).put i hw1).put j hw2).put l hw3)⟩
theorem St.parB {b : Addr} {c n m : Int} {R1 : α → Prop} {R2 : β → Prop} {i j : Nat} (s : St K W0 B0 H0 (boxC b c :: os) Γ σ B H) (h1 : Pb K b n ta σ B R1) (h2 : Pb K b m tb σ B R2) (hm : 0 ≤ m) (hc : c + n + m ≤ 2 ^ 40)
    (k : ∀ x y, R1 x → R2 y → ∀ σ1 B1 H1, St K W0 B0 H0 (boxC b (c + n + m) :: os) (cs (cs Γ i (ce x)) j (ce y)) σ1 B1 H1 → tz D σ1 H1) : tSeq (tPar i j (tCons ta (tCons tb tNil))) tz D σ H :=
  h1 H c s.bh s.box (by omega) _ fun v x B1 H1 u1 ub1 r1 hv => (h2.mono u1.bb) H1 (c + n) u1.bh ub1 hc _ fun w y B2 H2 u2 ub2 r2 hw =>
    ⟨v, w, rfl, k x y r1 r2 _ B2 H2 ((((s.ub u1 ub1).ub u2 ub2).put i (Rep.mono u2.bb hv)).put j hw)⟩
/-- (a, b) unpacked, each of the two may draw -/
theorem St.unpB {b : Addr} {c n m : Int} {R1 : α → Prop} {R2 : β → Prop} {i j : Nat} (s : St K W0 B0 H0 (boxC b c :: os) Γ σ B H) (h1 : Pb K b n ta σ B R1) (h2 : Pb K b m tb σ B R2) (hm : 0 ≤ m) (hc : c + n + m ≤ 2 ^ 40)
    (k : ∀ x y, R1 x → R2 y → ∀ σ1 B1 H1, St K W0 B0 H0 (boxC b (c + n + m) :: os) (cs (cs Γ i (ce x)) j (ce y)) σ1 B1 H1 → tz D σ1 H1) : tSeq (tAsg (tTup (tCons ta (tCons tb tNil))) (gUnp K 2 (gCons (gName i) (gCons (gName j) gNil)))) tz D σ H :=
  h1 H c s.bh s.box (by omega) _ fun v x B1 H1 u1 ub1 r1 hv => (h2.mono u1.bb) H1 (c + n) u1.bh ub1 hc _ fun w y B2 H2 u2 ub2 r2 hw =>
    ⟨by show 2 ≤ sizeLine; rw [sizeLine_eq]; decide, fun t ht => .inl ⟨t, [v, w], rfl, Evl.st_of upd_same, rfl, _, _, rfl, _, _, rfl, rfl, by
      have w3 := Up.new (o := .tup [v, w]) u2.bh ht
      exact k x y r1 r2 _ _ _ (((((s.ub u1 ub1).ub u2 ub2).up w3).put i (Rep.mono (u2.bb.trans w3.bb) hv)).put j (Rep.mono w3.bb hw))⟩⟩
theorem St.unp {i j : Nat} {x : α} {y : β} (s : St K W0 B0 H0 os Γ σ B H) (h1 : Pe K ta σ B x) (h2 : Pe K tb σ B y) (k : ∀ σ1 B1 H1, St K W0 B0 H0 os (cs (cs Γ i (ce x)) j (ce y)) σ1 B1 H1 → tz D σ1 H1) : tSeq (tAsg (tTup (tCons ta (tCons tb tNil))) (gUnp K 2 (gCons (gName i) (gCons (gName j) gNil)))) tz D σ H :=
  h1.both h2 s.bh fun v w B2 H2 u2 hv hw =>
    ⟨by show 2 ≤ sizeLine; rw [sizeLine_eq]; decide, fun t ht => .inl ⟨t, [v, w], rfl, Evl.st_of upd_same, rfl, _, _, rfl, _, _, rfl, rfl, by
      have w3 := Up.new (o := .tup [v, w]) u2.bh ht
      exact k _ _ _ ((((s.up u2).up w3).put i (Rep.mono w3.bb hv)).put j (Rep.mono w3.bb hw))⟩⟩
theorem St.drop {x : α} (s : St K W0 B0 H0 os Γ σ B H) (h : Pe K te σ B x) (k : ∀ B1 H1, St K W0 B0 H0 os Γ σ B1 H1 → tz D σ H1) : tSeq (tDrop te) tz D σ H := h H s.bh _ fun v B1 H1 u hv => k B1 H1 (s.up u)
theorem St.ret {x : α} (s : St K W0 B0 H0 os Γ σ B H) (h : Pe K te σ B x) (k : ∀ v B1 H1, St K W0 B0 H0 os Γ σ B1 H1 → Rep.at_ K B1 v x → D.rt v H1) : tRet te D σ H := h H s.bh _ fun v B1 H1 u hv => k v B1 H1 (s.up u) hv
theorem St.retB {b : Addr} {c n : Int} {R : α → Prop} (s : St K W0 B0 H0 (boxC b c :: os) Γ σ B H) (h : Pb K b n te σ B R) (hc : c + n ≤ 2 ^ 40) (k : ∀ v x, R x → ∀ B1 H1, St K W0 B0 H0 (boxC b (c + n) :: os) Γ σ B1 H1 → Rep.at_ K B1 v x → D.rt v H1) : tRet te D σ H :=
  h H c s.bh s.box hc _ fun v x B1 H1 u ub r hv => k v x r B1 H1 (s.ub u ub) hv
/-- if ..: return: the test is false -/
theorem St.no (s : St K W0 B0 H0 os Γ σ B H) (h : Pt tt σ B false) (k : ∀ B1 H1, St K W0 B0 H0 os Γ σ B1 H1 → tz D σ H1) : tSeq (tIfS tt tu tNext) tz D σ H := h H s.bh (fun b H1 => if b = true then tu { D with nx := tz D } σ H1 else tNext { D with nx := tz D } σ H1) fun B1 H1 u => k B1 H1 (s.up u)
theorem St.noL (s : St K W0 B0 H0 os Γ σ B H) (h : Pt tt σ B false) (k : ∀ B1 H1, St K W0 B0 H0 os Γ σ B1 H1 → tw D σ H1) : tIfS tt tu tw D σ H := h H s.bh (fun b H1 => if b = true then tu D σ H1 else tw D σ H1) fun B1 H1 u => k B1 H1 (s.up u)
theorem St.ite {b : Bool} (s : St K W0 B0 H0 os Γ σ B H) (h : Pt tt σ B b) (k1 : b = true → ∀ B1 H1, St K W0 B0 H0 os Γ σ B1 H1 → tu { D with nx := tz D } σ H1) (k2 : b = false → ∀ B1 H1, St K W0 B0 H0 os Γ σ B1 H1 → tw { D with nx := tz D } σ H1) : tSeq (tIfS tt tu tw) tz D σ H :=
  q_if h s.bh (fun hb B1 H1 u => k1 hb B1 H1 (s.up u)) fun hb B1 H1 u => k2 hb B1 H1 (s.up u)
theorem St.iteL {b : Bool} (s : St K W0 B0 H0 os Γ σ B H) (h : Pt tt σ B b) (k1 : b = true → ∀ B1 H1, St K W0 B0 H0 os Γ σ B1 H1 → tu D σ H1) (k2 : b = false → ∀ B1 H1, St K W0 B0 H0 os Γ σ B1 H1 → tw D σ H1) : tIfS tt tu tw D σ H :=
  p_if h s.bh (fun hb B1 H1 u => k1 hb B1 H1 (s.up u)) fun hb B1 H1 u => k2 hb B1 H1 (s.up u)
/-! ### loops -/
theorem St.forG {δ : Type} {wi : TI} {g : TG} {xs : List α} (s : St K W0 B0 H0 os Γ σ B H) (h : ItD K wi σ B xs) (oz : List α → δ → List OC) (Γz : List α → δ → List (Option Cell)) (P : List α → δ → Prop)
    (h0 : ∃ d, P [] d ∧ ∀ B1 H1, St K W0 B0 H0 os Γ σ B1 H1 → St K W0 B0 H0 (oz [] d) (Γz [] d) σ B1 H1)
    (hs : ∀ done x rest d, xs = done ++ x :: rest → P done d → ∀ (v : V) (σ' : L2.St) (B' H' : Hp) (N : L2.St → Hp → Prop), (∀ (d' : δ) {σ3 : L2.St} {B3 H3 : Hp}, P (done ++ [x]) d' → St K ((oz done d).map (·.l)) B' H' (oz (done ++ [x]) d') (Γz (done ++ [x]) d') σ3 B3 H3 → N σ3 H3) →
      St K W0 B0 H0 (oz done d) (Γz done d) σ' B' H' → Rep.at_ K B' v x → g v σ' H' fun σ2 H2 => tu { D with nx := N, ct := N, bk := D.nx } σ2 H2)
    (k : ∀ d, P xs d → ∀ σ' B' H', St K W0 B0 H0 (oz xs d) (Γz xs d) σ' B' H' → D.nx σ' H') : tFor wi g tu D σ H := by
  refine p_for h s.bh fun B1 H1 u => ⟨fun done σ' B' H' => ∃ d, P done d ∧ St K W0 B0 H0 (oz done d) (Γz done d) σ' B' H', ?_, fun done x rest v σ' B' Hx B2 H2 ex b1 bx hP u2 hv => ?_, fun σ' B' H' b1 bx hP => ?_⟩
  · obtain ⟨d, hd, hk⟩ := h0
    exact ⟨d, hd, hk B1 H1 (s.up u)⟩
  · obtain ⟨d, hd, s'⟩ := hP
    have s2 := s'.up u2
    exact hs done x rest d ex hd v σ' B2 H2 _ (fun d' {σ3 B3 H3} hd' s3 => ⟨B3, b1.trans (u2.bb.trans s3.bb), s3.bh, d', hd', s2.comp s3⟩) s2 hv
  · obtain ⟨d, hd, s'⟩ := hP
    exact k d hd σ' B' H' s'
/-- a for over a name; what it needs stays as it was, but for the slots vs and the box -/
theorem St.forB {wi : TI} {j : Nat} {xs : List α} {b : Addr} {c : Int} (n : Nat) (vs : List Nat) (s : St K W0 B0 H0 (boxC b c :: os) Γ σ B H) (h : ItD K wi σ B xs) (hc : c + n * xs.length ≤ 2 ^ 40)
    (hs : ∀ done x rest, xs = done ++ x :: rest → ∀ (c' : Int) (σ' : L2.St) (B' H' : Hp) (N : L2.St → Hp → Prop), c' + n ≤ 2 ^ 40 → (∀ {c3 : Int} {Γ3 : List (Option Cell)} {σ3 : L2.St} {B3 H3 : Hp}, St K ((boxC b c' :: os).map (·.l)) B' H' (boxC b c3 :: os) Γ3 σ3 B3 H3 → c3 ≤ c' + n → cw Γ3 vs = cw Γ vs → N σ3 H3) →
      St K W0 B0 H0 (boxC b c' :: os) (cs (cw Γ vs) j (ce x)) σ' B' H' → tu { D with nx := N, ct := N, bk := D.nx } σ' H')
    (k : ∀ σ' B' H', St K W0 B0 H0 (boxC b (c + n * xs.length) :: os) (cw Γ vs) σ' B' H' → D.nx σ' H') : tFor wi (gName j) tu D σ H := by
  refine s.forG (δ := Unit) h (fun done _ => boxC b (c + n * done.length) :: os) (fun _ _ => cw Γ vs) (fun _ _ => True) ⟨(), trivial, fun B1 H1 s1 => (s1.fg vs).le (by simp)⟩ (fun done x rest _ ex _ v σ' B' H' N hN s1 hv => ?_) fun _ _ σ' B' H' s1 => k σ' B' H' s1
  have hl : done.length + 1 ≤ xs.length := by
    rw [ex, List.length_append, List.length_cons]
    omega
  have hm : (n : Int) * (done.length : Int) + n ≤ n * (xs.length : Int) := by
    rw [show (n : Int) * (done.length : Int) + n = n * ((done.length + 1 : Nat) : Int) by rw [Int.natCast_succ, Int.mul_add, Int.mul_one]]
    exact Int.mul_le_mul_of_nonneg_left (by omega) (by omega)
  refine hs done x rest ex _ _ B' H' N (by omega) (fun {c3 Γ3 σ3 B3 H3} s3 hc3 hΓ => hN () (B3 := B3) trivial ?_) (s1.put j hv)
  rw [← hΓ]
  refine (s3.fg vs).le ?_
  rw [List.length_append, List.length_singleton]
  rw [show (n : Int) * ((done.length + 1 : Nat) : Int) = n * (done.length : Int) + n by rw [Int.natCast_succ, Int.mul_add, Int.mul_one]]
  omega
/-- the same without a box -/
theorem St.forC {wi : TI} {j : Nat} {xs : List α} (vs : List Nat) (s : St K W0 B0 H0 os Γ σ B H) (h : ItD K wi σ B xs)
    (hs : ∀ done x rest, xs = done ++ x :: rest → ∀ (σ' : L2.St) (B' H' : Hp) (N : L2.St → Hp → Prop), (∀ {Γ3 : List (Option Cell)} {σ3 : L2.St} {B3 H3 : Hp}, St K (os.map (·.l)) B' H' os Γ3 σ3 B3 H3 → cw Γ3 vs = cw Γ vs → N σ3 H3) →
      St K W0 B0 H0 os (cs (cw Γ vs) j (ce x)) σ' B' H' → tu { D with nx := N, ct := N, bk := D.nx } σ' H')
    (k : ∀ σ' B' H', St K W0 B0 H0 os (cw Γ vs) σ' B' H' → D.nx σ' H') : tFor wi (gName j) tu D σ H := by
  refine s.forG (δ := Unit) h (fun done _ => os) (fun _ _ => cw Γ vs) (fun _ _ => True) ⟨(), trivial, fun B1 H1 s1 => s1.fg vs⟩ (fun done x rest _ ex _ v σ' B' H' N hN s1 hv => ?_) fun _ _ σ' B' H' s1 => k σ' B' H' s1
  exact hs done x rest ex _ B' H' N (fun {Γ3 σ3 B3 H3} s3 hΓ => hN () trivial (hΓ ▸ s3.fg vs)) (s1.put j hv)
end
/-! ### lists that grow -/
theorem Slots.re {α : Type} [r : Rep α] {x : α} {v : V} : ∀ {σ : L2.St} {Γ : List (Option Cell)} {i : Nat}, Slots K B σ Γ → σ[i]? = some (some v) → Rep.at_ K B v x → Slots K B σ (cs Γ i (ce x))
  | _, _, _, .nil, _, _ => .nil
  | o :: _, _, 0, .cons a t, h, hx => .cons (by
      have h' : o = some v := by simpa using h
      rw [h']
      exact At1.some hx) t
  | _, _, n + 1, .cons a t, h, hx => .cons a (Slots.re (i := n) t (by simpa using h) hx)
section
variable {α : Type} [Rep α]
theorem St.new {i : Nat} (s : St K W0 B0 H0 os Γ σ B H) (α : Type) [Rep α] (k : ∀ l σ1 H1, St K W0 B0 H0 (os ++ [lstC K l ([] : List α)]) (cs Γ i (ca l)) σ1 B H1 → tz D σ1 H1) : tSeq (tAsg (tLst tNil) (gName i)) tz D σ H :=
  ⟨Nat.zero_le _, fun p hp => k p _ _ (St.put (s.add (ob := .lst []) hp (lstC K p ([] : List α)) rfl ⟨[], rfl, .nil⟩) i rfl)⟩
theorem St.lst (s : St K W0 B0 H0 os Γ σ B H) {k : Nat} {l : Addr} {xs : List α} (h : os[k]? = some (lstC K l xs)) : B l = none ∧ ∃ vs, H l = some (.lst vs) ∧ AtAll K B vs xs := by
  obtain ⟨h1, _, x, h3, vs, rfl, h4⟩ := s.own _ (List.mem_of_getElem? h)
  exact ⟨h1, vs, h3, h4⟩
theorem St.app {i k : Nat} {l : Addr} {xs : List α} {x : α} (s : St K W0 B0 H0 os Γ σ B H) (h : os[k]? = some (lstC K l xs)) (hi : cg Γ i = ca l) (he : Pe K te σ B x) (hz : xs.length ≤ 1000000)
    (q : ∀ B1 H1, St K W0 B0 H0 (os.set k (lstC K l (xs ++ [x]))) Γ σ B1 H1 → D.nx σ H1) : tDrop (tBM K "list" rAppend (tVar i) (tCons te tNil)) D σ H := by
  obtain ⟨_, vs, hl, hA⟩ := s.lst h
  exact app_var (s.sl.rf i hi) hl s.bh he (by rw [hA.length]; exact hz) fun v B1 H1 u hv => q B1 _ ((s.up u).chg (ob := .lst (vs ++ [v])) h rfl ⟨vs ++ [v], rfl, (hA.mono u.bb).snoc hv⟩)
theorem St.qapp {i k : Nat} {l : Addr} {xs : List α} {x : α} (s : St K W0 B0 H0 os Γ σ B H) (h : os[k]? = some (lstC K l xs)) (hi : cg Γ i = ca l) (he : Pe K te σ B x) (hz : xs.length ≤ 1000000)
    (q : ∀ B1 H1, St K W0 B0 H0 (os.set k (lstC K l (xs ++ [x]))) Γ σ B1 H1 → tz D σ H1) : tSeq (tDrop (tBM K "list" rAppend (tVar i) (tCons te tNil))) tz D σ H := s.app (D := { D with nx := tz D }) h hi he hz q
end
section
variable {α β : Type} [DecidableEq α] [Datum α] [Rep β] [Thaw β]
theorem St.fz {i k : Nat} {l : Addr} {xs : List α} (s : St K W0 B0 H0 os Γ σ B H) (h : os[k]? = some (lstC K l xs)) (hi : cg Γ i = ca l) : ∃ vs, B l = none ∧ H l = some (.lst vs) ∧ AtAll K B vs xs ∧ Ex B (upd B l (.lst vs)) ∧ Slots K (upd B l (.lst vs)) σ (cs Γ i (ce xs)) := by
  obtain ⟨hb, vs, hl, hA⟩ := s.lst h
  have e : Ex B (upd B l (.lst vs)) := Ex.new hb
  exact ⟨vs, hb, hl, hA, e, (s.sl.mono e).re (s.sl.rf i hi) (at_list.mpr ⟨l, vs, rfl, Evl.sq_of upd_same, hA.mono e⟩)⟩
/-- a test that reads the list which grows -/
theorem St.iteT {i k : Nat} {l : Addr} {xs : List α} {b : Bool} (s : St K W0 B0 H0 os Γ σ B H) (h : os[k]? = some (lstC K l xs)) (hi : cg Γ i = ca l) (ht : ∀ B', Ex B B' → Slots K B' σ (cs Γ i (ce xs)) → Pt tt σ B' b)
    (k1 : b = true → ∀ B1 H1, St K W0 B0 H0 os Γ σ B1 H1 → tu D σ H1) (k2 : b = false → ∀ B1 H1, St K W0 B0 H0 os Γ σ B1 H1 → tw D σ H1) : tIfS tt tu tw D σ H := by
  obtain ⟨vs, hb, hl, hA, e, s2⟩ := s.fz h hi
  exact p_ift (ht _ e s2) hb s.bh hl (fun hb H1 u _ => k1 hb B H1 (s.up u)) fun hb H1 u _ => k2 hb B H1 (s.up u)
theorem St.setT {i j k : Nat} {l : Addr} {xs : List α} {x : β} (s : St K W0 B0 H0 os Γ σ B H) (h : os[k]? = some (lstC K l xs)) (hi : cg Γ i = ca l) (ht : ∀ B', Ex B B' → Slots K B' σ (cs Γ i (ce xs)) → Pe K te σ B' x)
    (q : ∀ σ1 B1 H1, St K W0 B0 H0 os (cs Γ j (ce x)) σ1 B1 H1 → tz D σ1 H1) : tSeq (tAsg te (gName j)) tz D σ H := by
  obtain ⟨vs, hb, hl, hA, e, s2⟩ := s.fz h hi
  exact (ht _ e s2).thaw hb s.bh hl fun v B1 H1 u _ _ hv => q _ B1 H1 ((s.up u).put j hv)
theorem St.appT {i k : Nat} {l : Addr} {xs : List α} {x : α} [Thaw α] (s : St K W0 B0 H0 os Γ σ B H) (h : os[k]? = some (lstC K l xs)) (hi : cg Γ i = ca l) (ht : ∀ B', Ex B B' → Slots K B' σ (cs Γ i (ce xs)) → Pe K te σ B' x) (hz : xs.length ≤ 1000000)
    (q : ∀ B1 H1, St K W0 B0 H0 (os.set k (lstC K l (xs ++ [x]))) Γ σ B1 H1 → D.nx σ H1) : tDrop (tBM K "list" rAppend (tVar i) (tCons te tNil)) D σ H := by
  obtain ⟨vs, hb, hl, hA, e, s2⟩ := s.fz h hi
  exact app_self (s.sl.rf i hi) hl hb s.bh (ht _ e s2) (by rw [hA.length]; exact hz) fun v B1 H1 u _ hv => q B1 _ ((s.up u).chg (ob := .lst (vs ++ [v])) h rfl ⟨vs ++ [v], rfl, (hA.mono u.bb).snoc hv⟩)
theorem St.frz {i k : Nat} {l : Addr} {xs : List α} (s : St K W0 B0 H0 os Γ σ B H) (h : os[k]? = some (lstC K l xs)) (hi : cg Γ i = ca l) (hw : l ∉ W0) : ∃ B1, Ex B B1 ∧ St K W0 B0 H0 (os.eraseIdx k) (cs Γ i (ce xs)) σ B1 H := by
  obtain ⟨vs, hb, hl, hA, e, s2⟩ := s.fz h hi
  have h0 : H0 l = none := by
    rcases (s.own _ (List.mem_of_getElem? h)).2.1 with z | z
    · exact absurd z hw
    · exact z
  refine ⟨_, e, s.bb.trans e, ex_in s.bh hl, s.hh, s.dm, fun a ha => ?_, fun o ho => ?_, s.nd.sublist ((List.eraseIdx_sublist os k).map _), s2⟩
  · by_cases z : a = l
    · exact .inr (z ▸ h0)
    · rw [upd_ne z] at ha
      exact s.nw a ha
  · have hm := (List.eraseIdx_sublist os k).subset ho
    obtain ⟨g1, g2, w, g3, g4⟩ := s.own o hm
    have ne : o.l ≠ l := by
      intro z
      have nd := s.nd
      have hlt := (List.getElem?_eq_some_iff.mp h).1
      have e1 : os = os.take k ++ lstC K l xs :: os.drop (k + 1) := by
        have e2 : os.drop k = lstC K l xs :: os.drop (k + 1) := by
          rw [List.drop_eq_getElem_cons hlt]
          congr 1
          exact (List.getElem?_eq_some_iff.mp h).2
        rw [← e2, List.take_append_drop]
      rw [List.eraseIdx_eq_take_drop_succ] at ho
      rw [e1, List.map_append, List.map_cons, List.nodup_append, List.nodup_cons] at nd
      rcases List.mem_append.mp ho with w | w
      · exact nd.2.2 _ (List.mem_map.mpr ⟨o, w, z⟩) _ List.mem_cons_self rfl
      · exact nd.2.1.1 (List.mem_map.mpr ⟨o, w, z⟩)
    exact ⟨by rw [upd_ne ne]; exact g1, g2, w, g3, o.mono e g4⟩
theorem St.ne {k : Nat} {l b : Addr} {c : Int} {xs : List α} (s : St K W0 B0 H0 (boxC b c :: os) Γ σ B H) (h : os[k]? = some (lstC K l xs)) : l ≠ b := fun z => by
  have nd := s.nd
  rw [List.map_cons, List.nodup_cons] at nd
  exact nd.1 (List.mem_map.mpr ⟨_, List.mem_of_getElem? h, z⟩)
end
end
/-! ### the start of a def, by its promise -/
section
variable {K : PySem.W.Frag} {α β γ δ : Type} [Rep α] [Rep β] [Rep γ] [Rep δ] {vs : List V} {H : Hp} {Q : VK} {E : XK}
theorem Fn1.st {pre : α → Prop} {f : α → β} (h : Fn1 K pre f vs H Q E) (N : List Str) : ∃ x B, pre x ∧ St K [] B H [] ([ce x] ++ List.replicate (N.length - 1) none) (start N vs) B H ∧ ∀ v B2 H2, Up B H B2 H2 → Rep.at_ K B2 v (f x) → Q v H2 := by
  obtain ⟨x, B, e, ⟨v, _, rfl, h1, rfl⟩, hp, q⟩ := h
  exact ⟨x, B, hp, St.pure e (start_slots [v] [ce x] _ (.cons (At1.some h1) .nil)), q⟩
theorem Fn2.st {pre : α → β → Prop} {f : α → β → γ} (h : Fn2 K pre f vs H Q E) (N : List Str) : ∃ x y B, pre x y ∧ St K [] B H [] ([ce x, ce y] ++ List.replicate (N.length - 2) none) (start N vs) B H ∧ ∀ v B2 H2, Up B H B2 H2 → Rep.at_ K B2 v (f x y) → Q v H2 := by
  obtain ⟨x, y, B, e, ⟨v, _, rfl, h1, v2, _, rfl, h2, rfl⟩, hp, q⟩ := h
  exact ⟨x, y, B, hp, St.pure e (start_slots [v, v2] [ce x, ce y] _ (.cons (At1.some h1) (.cons (At1.some h2) .nil))), q⟩
theorem Fn3.st {pre : α → β → γ → Prop} {f : α → β → γ → δ} (h : Fn3 K pre f vs H Q E) (N : List Str) : ∃ x y z B, pre x y z ∧ St K [] B H [] ([ce x, ce y, ce z] ++ List.replicate (N.length - 3) none) (start N vs) B H ∧ ∀ v B2 H2, Up B H B2 H2 → Rep.at_ K B2 v (f x y z) → Q v H2 := by
  obtain ⟨x, y, z, B, e, ⟨v, _, rfl, h1, v2, _, rfl, h2, v3, _, rfl, h3, rfl⟩, hp, q⟩ := h
  exact ⟨x, y, z, B, hp, St.pure e (start_slots [v, v2, v3] [ce x, ce y, ce z] _ (.cons (At1.some h1) (.cons (At1.some h2) (.cons (At1.some h3) .nil)))), q⟩
theorem FnB1.st {n : Int} {pre : α → Prop} {R : α → β → Prop} (h : FnB1 K n pre R vs H Q E) (N : List Str) : ∃ b c x B, pre x ∧ c + n ≤ 2 ^ 40 ∧ St K [b] B H [boxC b c] ([ca b, ce x] ++ List.replicate (N.length - 2) none) (start N vs) B H ∧
    ∀ v y os Γ σ B2 H2, St K [b] B H (boxC b (c + n) :: os) Γ σ B2 H2 → R x y → Rep.at_ K B2 v y → Q v H2 := by
  obtain ⟨b, B, c, x, e, bx, hc, ⟨v, rfl, hv⟩, hp, q⟩ := h
  exact ⟨b, c, x, B, hp, hc, St.draw e bx (start_slots [.ref b, v] [ca b, ce x] _ (.cons (At1.some rfl) (.cons (At1.some hv) .nil))), fun v y os Γ σ B2 H2 s r hv => q v y B2 H2 s.toUb s.box r hv⟩
theorem FnB2.st {n : Int} {pre : α → β → Prop} {R : α → β → γ → Prop} (h : FnB2 K n pre R vs H Q E) (N : List Str) : ∃ b c x y B, pre x y ∧ c + n ≤ 2 ^ 40 ∧ St K [b] B H [boxC b c] ([ca b, ce x, ce y] ++ List.replicate (N.length - 3) none) (start N vs) B H ∧
    ∀ v z os Γ σ B2 H2, St K [b] B H (boxC b (c + n) :: os) Γ σ B2 H2 → R x y z → Rep.at_ K B2 v z → Q v H2 := by
  obtain ⟨b, B, c, x, y, e, bx, hc, ⟨v, w, rfl, hv, hw⟩, hp, q⟩ := h
  exact ⟨b, c, x, y, B, hp, hc, St.draw e bx (start_slots [.ref b, v, w] [ca b, ce x, ce y] _ (.cons (At1.some rfl) (.cons (At1.some hv) (.cons (At1.some hw) .nil)))), fun v y os Γ σ B2 H2 s r hv => q v y B2 H2 s.toUb s.box r hv⟩
theorem RightP.st (h : RightP K vs H Q E) (N : List Str) : ∃ b B, St K [b] B H [boxC b 0] ([ca b] ++ List.replicate (N.length - 1) none) (start N vs) B H ∧ ∀ os Γ σ B2 H2, St K [b] B H os Γ σ B2 H2 → Q (.bl true) H2 := by
  obtain ⟨b, B, rfl, e, bx, q⟩ := h
  exact ⟨b, B, St.draw e bx (start_slots [.ref b] [ca b] _ (.cons (At1.some rfl) .nil)), fun os Γ σ B2 H2 s => q B2 H2 s.toUb⟩
end
end Ob

set_option Elab.async false
set_option linter.all false
set_option maxRecDepth 100000
set_option maxHeartbeats 4000000
/-! P4: are_rivals, rivals_of, press. -/
namespace Ob
open PySem L2
open Evl (Ex)
open PySem.W (Datum Tup DatumOrd)
section
variable {K : PySem.W.Frag}
theorem e_tup2 {σ : L2.St} {B : Hp} {ta tb : TE} {α : Type} [DecidableEq α] [Datum α] {x y : α} (h : Pe K ta σ B x) (h2 : Pe K tb σ B y) : Pe K (tTup (tCons ta (tCons tb tNil))) σ B (Tup.mk [x, y]) := fun H e Q q => h.both h2 e fun v w B1 H1 u hv hw =>
  ⟨by show 2 ≤ sizeLine; rw [sizeLine_eq]; decide, fun p hp => q _ _ _ (u.then hp) (at_tup.mpr ⟨p, [v, w], rfl, upd_same, .cons (Rep.mono (Up.new (o := .tup [v, w]) u.bh hp).bb hv) (.cons (Rep.mono (Up.new (o := .tup [v, w]) u.bh hp).bb hw) .nil)⟩)⟩
/-- tuple(pair), a pair of names as a tuple or a list -/
theorem e_tupPr {σ : L2.St} {B : Hp} {te : TE} {p : Pr} (h : Pe K te σ B p) : Pe K (tCB (rTupleU K) (tCons te tNil)) σ B ((p.a, p.b) : Str × Str) := fun H e Q q => h H e _ fun v B1 H1 u hv => by
  obtain ⟨a, rfl, hs⟩ := hv
  rcases hs with hs | hs
  · exact ⟨a, _, rfl, .inl ⟨Evl.ex_l u.bh hs, fun l hl => q _ _ _ (u.then hl) (at_pair.mpr ⟨l, _, _, rfl, upd_same, at_str.mpr rfl, at_str.mpr rfl⟩)⟩⟩
  · exact ⟨a, _, rfl, .inr ⟨ex_tx u.bh hs, q _ _ _ u (at_pair.mpr ⟨a, _, _, rfl, hs, at_str.mpr rfl, at_str.mpr rfl⟩)⟩⟩
/-! ### are_rivals, rivals_of -/
def areQ (x y : Str) (a b : Str) : Bool := (decide (a = x) && decide (b = y)) || (decide (a = y) && decide (b = x))
theorem areQ_iff {x y a b : Str} : areQ x y a b = true ↔ (a = x ∧ b = y) ∨ (a = y ∧ b = x) := by
  unfold areQ
  simp
def areR (p : Pan) (x y : Str) : Bool := p.ex.any fun e => areQ x y e.1 e.2
theorem areR_iff {p : Pan} {x y : Str} : areR p x y = true ↔ (x, y) ∈ p.ex ∨ (y, x) ∈ p.ex := by
  unfold areR
  rw [List.any_eq_true]
  constructor
  · rintro ⟨⟨a, b⟩, he, h⟩
    rcases areQ_iff.mp h with ⟨h1, h2⟩ | ⟨h1, h2⟩
    · exact .inl (by rw [← show a = x from h1, ← show b = y from h2]; exact he)
    · exact .inr (by rw [← show a = y from h1, ← show b = x from h2]; exact he)
  · rintro (h | h)
    · exact ⟨_, h, areQ_iff.mpr (.inl ⟨rfl, rfl⟩)⟩
    · exact ⟨_, h, areQ_iff.mpr (.inr ⟨rfl, rfl⟩)⟩
abbrev sp_are_rivals (K : PySem.W.Frag) : Sp := Fn3 K (fun (p : Pan) (_ _ : Str) => p.ex.length ≤ 100000) fun p x y => areR p x y
def N_are_rivals : List Str := ["panel", "one", "other", "pair"]
def t_are_rivals (K : PySem.W.Frag) : TS :=
  (tRet (tCB (rAny K) (tCons (tLc (iSeq K (tOp (rIxU K) (tVar 0) (tC (.int 1)))) (gName 3) tYes (tOp (rInU K false) (tCB (rTupleU K) (tCons (tVar 3) tNil)) (tTup (tCons (tTup (tCons (tVar 1) (tCons (tVar 2) tNil))) (tCons (tTup (tCons (tVar 2) (tCons (tVar 1) tNil))) tNil)))) [3]) tNil)))
theorem l_are_rivals (vs : List V) (H : Hp) (Q : VK) (E : XK) (h : sp_are_rivals K vs H Q E) : vs.length = 3 := Fn3.len vs H Q E h
theorem r_are_rivals (vs : List V) (H : Hp) (Q : VK) (E : XK) (h : sp_are_rivals K vs H Q E) : t_are_rivals K (Ends.ret Q) (start N_are_rivals vs) H := by
  obtain ⟨p, x, y, B, e, ⟨v1, _, rfl, h1, v2, _, rfl, h2, v3, _, rfl, h3, rfl⟩, hn, q⟩ := h
  refine p_ret ((e_any (e_lc (fun _ => true) (fun c : Pr => areQ x y c.a c.b) (it_sq (e_ex (e_var rfl h1))) (by show (prs p.ex).length ≤ _; unfold prs; rw [List.length_map]; omega) fun c _ v B1 b1 hv => turn_name rfl rfl t_yes fun _ => (e_inT (e_tupPr (e_var rfl hv)) (e_tup2 (e_pair (e_var rfl (Rep.mono b1 h2)) (e_var rfl (Rep.mono b1 h3))) (e_pair (e_var rfl (Rep.mono b1 h3)) (e_var rfl (Rep.mono b1 h2)))) false).is (y := areQ x y c.a c.b) (by rw [Bool.eq_iff_iff, areQ_iff]; simp [ngb]))).is (y := areR p x y) ?_) e q
  rw [any_map_id]
  unfold prs areR
  rw [List.any_map]
  rfl
def rivO (p : Pan) (x : Str) : List Str := p.sw.filter fun y => areR p x y
theorem mem_rivO {p : Pan} (ok : PanOk p) {x y : Str} : y ∈ rivO p x ↔ y ∈ rvs p x := by
  unfold rivO
  rw [List.mem_filter, areR_iff, mem_rvs]
  constructor
  · exact fun h => h.2
  · intro h
    exact ⟨rvs_sw ok (s := x) (mem_rvs.mpr h), h⟩
abbrev sp_rivals_of (K : PySem.W.Frag) : Sp := Fn2 K (fun (p : Pan) (x : Str) => PanOk p ∧ x ∈ p.sw) fun p x => rivO p x
def N_rivals_of : List Str := ["panel", "switch", "other"]
def t_rivals_of (K : PySem.W.Frag) : TS :=
  (tSeq (tDrop (tCall (sp_look_switches K) [] E0 (tCons (tVar 0) (tCons (tLst (tCons (tVar 1) tNil)) tNil))))
    (tRet (tLc (iSeq K (tOp (rIxU K) (tVar 0) (tC (.int 0)))) (gName 2) (tB (tCall (sp_are_rivals K) [] E0 (tCons (tVar 0) (tCons (tVar 1) (tCons (tVar 2) tNil))))) (tVar 2) [2])))
theorem l_rivals_of (vs : List V) (H : Hp) (Q : VK) (E : XK) (h : sp_rivals_of K vs H Q E) : vs.length = 2 := Fn2.len vs H Q E h
theorem r_rivals_of (vs : List V) (H : Hp) (Q : VK) (E : XK) (h : sp_rivals_of K vs H Q E) : t_rivals_of K (Ends.ret Q) (start N_rivals_of vs) H := by
  obtain ⟨p, x, B, e, ⟨v1, _, rfl, h1, v2, _, rfl, h2, rfl⟩, ⟨ok, hx⟩, q⟩ := h
  refine q_drop (e_call2 (y := Sq.mk [x]) (e_var rfl h1) ((e_lst1 (e_var rfl h2)).imp sq_list) (fun z hz => by rw [List.mem_singleton.mp hz]; exact hx)) e fun B1 H1 u1 => ?_
  refine p_ret ((e_lc (fun y : Str => areR p x y) (fun y => y) (it_sq (e_sw (e_var rfl (Rep.mono u1.bb h1)))) (by have := ok.n1; omega) fun y _ v B2 b2 hv => turn_name rfl rfl (t_B (e_call3 (e_var rfl (Rep.mono (u1.bb.trans b2) h1)) (e_var rfl (Rep.mono (u1.bb.trans b2) h2)) (e_var rfl hv) ok.n2)) fun _ => e_var rfl hv).is (y := rivO p x) ?_) u1.bh fun v B2 H2 u2 hv => q v B2 H2 (u1.trans u2) hv
  rw [List.map_id']
  rfl
/-! ### press -/
abbrev sp_press (K : PySem.W.Frag) : Sp := Fn3 K (fun (p : Pan) (s : Sq Str) (x : Str) => PanOk p ∧ s.items.length ≤ 100000 ∧ x ∈ p.sw) fun p s x => Tup.mk (wp (rvs p) s.items x)
def N_press : List Str := ["panel", "state", "switch"]
def t_press (K : PySem.W.Frag) : TS :=
  (tSeq (tDrop (tCall (sp_look_switches K) [] E0 (tCons (tVar 0) (tCons (tLst (tCons (tVar 2) tNil)) tNil))))
    (tRet (tCall (sp_with_press K) [] E0 (tCons (tCall (sp_rival_table K) [] E0 (tCons (tVar 0) tNil)) (tCons (tVar 1) (tCons (tVar 2) tNil))))))
theorem l_press (vs : List V) (H : Hp) (Q : VK) (E : XK) (h : sp_press K vs H Q E) : vs.length = 3 := Fn3.len vs H Q E h
theorem r_press (vs : List V) (H : Hp) (Q : VK) (E : XK) (h : sp_press K vs H Q E) : t_press K (Ends.ret Q) (start N_press vs) H := by
  obtain ⟨p, s, x, B, e, ⟨v1, _, rfl, h1, v2, _, rfl, h2, v3, _, rfl, h3, rfl⟩, ⟨ok, hs, hx⟩, q⟩ := h
  refine q_drop (e_call2 (y := Sq.mk [x]) (e_var rfl h1) ((e_lst1 (e_var rfl h3)).imp sq_list) (fun z hz => by rw [List.mem_singleton.mp hz]; exact hx)) e fun B1 H1 u1 => ?_
  exact p_ret ((e_call3 (e_call1 (e_var rfl (Rep.mono u1.bb h1)) ok) (e_var rfl (Rep.mono u1.bb h2)) (e_var rfl (Rep.mono u1.bb h3)) ⟨tab_some hx, hs⟩).is (y := Tup.mk (wp (rvs p) s.items x)) (congrArg Tup.mk (wp_congr (look_tab hx)))) u1.bh fun v B2 H2 u2 hv => q v B2 H2 (u1.trans u2) hv
end
end Ob

set_option Elab.async false
set_option linter.all false
set_option maxRecDepth 100000
set_option maxHeartbeats 4000000
/-! P5: component_of, components, groups. -/
namespace Ob
open PySem L2
open Evl (Ex)
open PySem.W (Datum Tup DatumOrd)
/-- x leads to y over rivals among some switches -/
inductive Reach (rv : Str → List Str) (sw : List Str) (x : Str) : Str → Prop where
  | refl : Reach rv sw x x
  | step {y z : Str} (h : Reach rv sw x y) (hz : z ∈ rv y) (hs : z ∈ sw) : Reach rv sw x z
theorem Reach.sw {rv : Str → List Str} {sw : List Str} {x y : Str} (h : Reach rv sw x y) (hx : x ∈ sw) : y ∈ sw := by
  cases h with
  | refl => exact hx
  | step _ _ hs => exact hs
theorem Reach.trans {rv : Str → List Str} {sw : List Str} {x y z : Str} (h : Reach rv sw x y) (k : Reach rv sw y z) : Reach rv sw x z := by
  induction k with
  | refl => exact h
  | step _ hz hs ih => exact .step ih hz hs
open Classical in
noncomputable def compO (rv : Str → List Str) (sw : List Str) (x : Str) : List Str := sortD (sw.filter fun y => decide (Reach rv sw x y))
theorem mem_compO {rv : Str → List Str} {sw : List Str} {x y : Str} : y ∈ compO rv sw x ↔ y ∈ sw ∧ Reach rv sw x y := by
  unfold compO
  rw [mem_sortD, List.mem_filter]
  simp
theorem compO_asc {rv : Str → List Str} {sw : List Str} {x : Str} (nd : sw.Nodup) : Asc (compO rv sw x) := sortD_asc (nd.filter _)
/-- what the search has found up to now -/
structure CompI (rv : Str → List Str) (sw : List Str) (x : Str) (found : List Str) (k : Nat) : Prop where
  nd : found.Nodup
  rc : ∀ y ∈ found, Reach rv sw x y
  x0 : x ∈ found
  sub : ∀ y ∈ found, y ∈ sw
  kl : k ≤ found.length
  cl : ∀ j y, j < k → found[j]? = some y → ∀ z ∈ rv y, z ∈ sw → z ∈ found
theorem CompI.step {rv : Str → List Str} {sw : List Str} {x : Str} {found : List Str} {k : Nat} {y : Str} (I : CompI rv sw x found k) (hy : found[k]? = some y) (hnd : (rv y).Nodup) :
    CompI rv sw x (found ++ (rv y).filter (fun z => decide (z ∈ sw) && !decide (z ∈ found))) (k + 1) := by
  have hm : ∀ z, z ∈ (rv y).filter (fun z => decide (z ∈ sw) && !decide (z ∈ found)) ↔ z ∈ rv y ∧ z ∈ sw ∧ z ∉ found := fun z => by
    rw [List.mem_filter]
    simp
  have hlt : k < found.length := (List.getElem?_eq_some_iff.mp hy).1
  refine ⟨List.nodup_append.mpr ⟨I.nd, hnd.filter _, fun a ha b hb e => ((hm b).mp hb).2.2 (e ▸ ha)⟩, fun z hz => ?_, List.mem_append_left _ I.x0, fun z hz => ?_, ?_, fun j w hj hw z hz hs => ?_⟩
  · rcases List.mem_append.mp hz with h | h
    · exact I.rc z h
    · obtain ⟨h1, h2, _⟩ := (hm z).mp h
      exact .step (I.rc y (List.mem_of_getElem? hy)) h1 h2
  · rcases List.mem_append.mp hz with h | h
    · exact I.sub z h
    · exact ((hm z).mp h).2.1
  · rw [List.length_append]
    omega
  · have hw' : found[j]? = some w := by
      rw [List.getElem?_append_left (by omega)] at hw
      exact hw
    by_cases hzf : z ∈ found
    · exact List.mem_append_left _ hzf
    · by_cases hjk : j = k
      · subst hjk
        rw [hy] at hw'
        cases hw'
        exact List.mem_append_right _ ((hm z).mpr ⟨hz, hs, hzf⟩)
      · exact List.mem_append_left _ (I.cl j w (by omega) hw' z hz hs)
theorem CompI.done {rv : Str → List Str} {sw : List Str} {x : Str} {found : List Str} (I : CompI rv sw x found found.length) (nd : sw.Nodup) : sortD found = compO rv sw x := by
  refine asc_ext (sortD_asc I.nd) (compO_asc nd) fun z => ?_
  rw [mem_sortD, mem_compO]
  have key : ∀ z, Reach rv sw x z → z ∈ found := fun z h => by
    induction h with
    | refl => exact I.x0
    | step h1 hz hs ih =>
      obtain ⟨j, hj⟩ := List.getElem?_of_mem ih
      exact I.cl j _ (List.getElem?_eq_some_iff.mp hj).1 hj _ hz hs
  exact ⟨fun h => ⟨I.sub z h, I.rc z h⟩, fun h => key z h.2⟩
section
variable {K : PySem.W.Frag}
theorem q_unpL1I {σ : L2.St} {B H : Hp} {ta : TE} {α : Type} [Rep α] {x : α} {i j : Nat} {n : Int} {D : Ends} {tz : TS} (ha : Pe K ta σ B x) (e : Ex B H) (k : ∀ v l B1 H1, Up B H B1 H1 → Rep.at_ K B1 v x → B1 l = none → H l = none → H1 l = some (.lst [v]) → tz D ((σ.set i (some (.ref l))).set j (some (.int n))) H1) :
    tSeq (tAsg (tTup (tCons (tLst (tCons ta tNil)) (tCons (tC (.int n)) tNil))) (gUnp K 2 (gCons (gName i) (gCons (gName j) gNil)))) tz D σ H := ha H e _ fun v B1 H1 u hv => ⟨by show 1 ≤ sizeLine; rw [sizeLine_eq]; decide, fun p hp =>
      ⟨by show 2 ≤ sizeLine; rw [sizeLine_eq]; decide, fun t ht => .inl ⟨t, [.ref p, .int n], rfl, Evl.st_of upd_same, rfl, _, _, rfl, _, _, rfl, rfl, by
        have hpt : p ≠ t := fun z => by rw [← z, upd_same] at ht; cases ht
        exact k v p B1 _ ((u.hold hp).hold ht) hv (Evl.fresh_back u.bh hp) (Evl.fresh_back u.hh hp) (by rw [upd_ne hpt, upd_same])⟩⟩⟩
def TabGood (d : Dic (List Str)) (sw : List Str) : Prop := sw.Nodup ∧ sw.length ≤ 1000 ∧ ∀ y ∈ sw, (d.kvs.lookup y).isSome = true ∧ (look d y).Nodup ∧ (look d y).length ≤ 1000
abbrev sp_component_of (K : PySem.W.Frag) : Sp := Fn3 K (fun (d : Dic (List Str)) (s : Sq Str) (x : Str) => TabGood d s.items ∧ x ∈ s.items) fun d s x => compO (look d) s.items x
def N_component_of : List Str := ["rivals", "switches", "switch", "found", "at", "other"]
def t_component_of (K : PySem.W.Frag) : TS :=
  (tSeq (tAsg (tTup (tCons (tLst (tCons (tVar 2) tNil)) (tCons (tC (.int 0)) tNil))) (gUnp K 2 (gCons (gName 3) (gCons (gName 4) gNil))))
    (tSeq (tWhile (tTest (tOp (rLtU K) (tVar 4) (tCB (rLenU K) (tCons (tVar 3) tNil)))) (tSeq (tDrop (tBM K "list" (rExtend) (tVar 3) (tCons (tLc (iSeq K (tOp (rIxU K) (tVar 0) (tOp (rIxU K) (tVar 3) (tVar 4)))) (gName 5) (tAnd (tTest (tOp (rInU K false) (tVar 5) (tVar 1))) (tTest (tOp (rInU K true) (tVar 5) (tVar 3)))) (tVar 5) [5]) tNil)))
    (tAug 4 (tC (.int 1)) (ipI fun i j => i + j))))
    (tRet (tCB (rSortU K) (tCons (tVar 3) tNil)))))
theorem l_component_of (vs : List V) (H : Hp) (Q : VK) (E : XK) (h : sp_component_of K vs H Q E) : vs.length = 3 := Fn3.len vs H Q E h
theorem r_component_of (vs : List V) (H : Hp) (Q : VK) (E : XK) (h : sp_component_of K vs H Q E) : t_component_of K (Ends.ret Q) (start N_component_of vs) H := by
  obtain ⟨d, s, x, B, e, ⟨v1, _, rfl, h1, v2, _, rfl, h2s, v3, _, rfl, h3, rfl⟩, ⟨⟨nd, sl, hd⟩, hx⟩, q⟩ := h
  obtain ⟨sw⟩ := s
  have nd' : sw.Nodup := nd
  have sl' : sw.length ≤ 1000 := sl
  have hx' : x ∈ sw := hx
  have hd' : ∀ y ∈ sw, (d.kvs.lookup y).isSome = true ∧ (look d y).Nodup ∧ (look d y).length ≤ 1000 := hd
  refine q_unpL1I (e_var rfl h3) e fun v l B1 H1 u1 hv bl hl h1l => ?_
  cases at_str.mp hv
  refine ⟨fun m σ' H' => ∃ (found : List Str) (k : Nat) (B' : Hp) (a5 : Option V), σ' = [some v1, some v2, some v3, some (.ref l), some (.int k), a5] ∧ m = sw.length - k ∧ Up B H B' H' ∧ B' l = none ∧ H' l = some (.lst (found.map V.str)) ∧ CompI (look d) sw x found k,
    ⟨_, [x], 0, B1, none, rfl, rfl, u1, bl, h1l, ⟨by simp, fun y hy => by rw [List.mem_singleton.mp hy]; exact .refl, by simp, fun y hy => by rw [List.mem_singleton.mp hy]; exact hx', Nat.zero_le _, fun j y hj => absurd hj (Nat.not_lt_zero _)⟩⟩, ?_⟩
  rintro m σ' H' ⟨found, k, B', a5, rfl, rfl, u, bl', hl', I⟩
  have el : Ex B' (upd B' l (.lst (found.map V.str))) := Ex.new bl'
  have hlist : Rep.at_ K (upd B' l (.lst (found.map V.str))) (.ref l) found := at_list.mpr ⟨l, _, rfl, Evl.sq_of upd_same, strs_atAll _⟩
  refine (t_test (e_lt (x := (k : Int)) (e_var rfl (at_int.mpr rfl)) (e_lenL (e_var rfl hlist)))).thaw bl' u.bh hl' fun H2 u2 h2 => ?_
  have hfl : found.length ≤ sw.length := I.nd.length_le_of_subset I.sub
  cases hb : DatumOrd.lt (k : Int) (found.length : Int) with
  | true =>
    rw [if_pos rfl]
    have hlt : k < found.length := by
      have := of_decide_eq_true (show decide ((k : Int) < (found.length : Int)) = true from hb)
      omega
    have hy : found[k]? = some found[k] := List.getElem?_eq_getElem hlt
    generalize found[k] = y at hy
    have hys : y ∈ sw := I.sub y (List.mem_of_getElem? hy)
    obtain ⟨g1, g2, g3⟩ := hd' y hys
    refine ⟨_, fun _ _ h => h, ?_⟩
    refine ⟨_, rfl, .inl ⟨rfl, _, Evl.sq_of h2⟩, ?_⟩
    have eb := u.bb.trans el
    have hsw : Rep.at_ K B v2 (Sq.mk sw) := h2s
    refine lcU (fun z : Str => decide (z ∈ sw) && !decide (z ∈ found)) (fun z => z) (it_seqL (e_ixD (x := look d y) (e_var rfl (Rep.mono eb h1)) (e_ixL (x := y) (i := (k : Int)) (e_var rfl hlist) (e_var rfl (at_int.mpr rfl)) (atI_nat (by omega) (by rw [Int.toNat_natCast]; exact hy))) (look_of g1))) (ex_in u2.bh h2) (by omega) (fun z _ w B3 b3 hw => turn_name rfl rfl (t_and (t_test (e_inSq (e_var rfl hw) (e_var rfl (Rep.mono (eb.trans b3) hsw)) false)) fun _ => t_test (e_inL (e_var rfl hw) (e_var rfl (Rep.mono b3 hlist)) true)) fun _ => e_var rfl hw) fun D ws B3 H3 u3 bD hD h3D hA => ?_
    have u3' := up_cut bl' u3
    have h3l := u3.hh l _ h2
    have ews := atAll_strs hA
    refine ⟨l, D, found.map V.str, ws, rfl, rfl, h3l, h3D, ?_, ?_⟩
    · rw [ews, List.length_map, List.length_map, List.length_map, sizeLine_eq]
      have := List.length_filter_le (fun z : Str => decide (z ∈ sw) && !decide (z ∈ found)) (look d y)
      omega
    · have I2 := I.step hy g2
      have hlD : H l = none := hl
      refine ⟨.int k, rfl, (k : Int), 1, rfl, rfl, sw.length - (k + 1), ?_, found ++ (look d y).filter (fun z => decide (z ∈ sw) && !decide (z ∈ found)), k + 1, cutH B3 l, a5, ?_, rfl, ((u.trans u2).trans u3').mut hl cutH_same, cutH_same, ?_, I2⟩
      · omega
      · rfl
      · rw [upd_same, ews, List.map_id', ← List.map_append]
  | false =>
    rw [if_neg (by decide)]
    have hge : ¬ k < found.length := by
      have := of_decide_eq_false (show decide ((k : Int) < (found.length : Int)) = false from hb)
      omega
    have hk : k = found.length := by
      have := I.kl
      omega
    subst hk
    obtain ⟨u6, e6⟩ := (u.trans u2).freeze h2 hl
    have := I.done nd'
    exact p_ret ((e_sortSq ((e_var rfl (at_list.mpr ⟨l, _, rfl, Evl.sq_of upd_same, strs_atAll found⟩)).imp sq_list) (sortable_str _)).is this) u6.bh fun v B3 H3 w hv => q v B3 H3 (u6.trans w) hv
end
end Ob

set_option Elab.async false
set_option linter.all false
set_option maxRecDepth 100000
set_option maxHeartbeats 4000000
/-! P6: components, groups. -/
namespace Ob
open PySem L2
open Evl (Ex)
open PySem.W (Datum Tup DatumOrd)
theorem Reach.congr {rv rv' : Str → List Str} {sw : List Str} (h : ∀ y ∈ sw, rv y = rv' y) {x y : Str} (hx : x ∈ sw) (k : Reach rv sw x y) : Reach rv' sw x y := by
  induction k with
  | refl => exact .refl
  | step h1 hz hs ih => exact .step ih (by rw [← h _ (h1.sw hx)]; exact hz) hs
theorem compO_congr {rv rv' : Str → List Str} {sw : List Str} (nd : sw.Nodup) (h : ∀ y ∈ sw, rv y = rv' y) {x : Str} (hx : x ∈ sw) : compO rv sw x = compO rv' sw x :=
  asc_ext (compO_asc nd) (compO_asc nd) fun z => by
    rw [mem_compO, mem_compO]
    exact ⟨fun k => ⟨k.1, k.2.congr h hx⟩, fun k => ⟨k.1, k.2.congr (fun y hy => (h y hy).symm) hx⟩⟩
noncomputable def compsF (rv : Str → List Str) (sw : List Str) : Nat → List Str → List (List Str)
  | 0, _ => []
  | _ + 1, [] => []
  | n + 1, x :: xs => compO rv sw x :: compsF rv sw n ((x :: xs).filter fun z => !decide (z ∈ compO rv sw x))
theorem compsF_congr {rv rv' : Str → List Str} {sw : List Str} (nd : sw.Nodup) (h : ∀ y ∈ sw, rv y = rv' y) : ∀ (n : Nat) (xs : List Str), (∀ y ∈ xs, y ∈ sw) → compsF rv sw n xs = compsF rv' sw n xs
  | 0, _, _ => rfl
  | _ + 1, [], _ => rfl
  | n + 1, x :: xs, hs => by
    unfold compsF
    rw [compO_congr nd h (hs x List.mem_cons_self), compsF_congr nd h n _ fun y hy => hs y (List.mem_filter.mp hy).1]
noncomputable def compsO (rv : Str → List Str) (sw : List Str) : List (List Str) := compsF rv sw sw.length (sortD sw)
/-- each member of the list of components is a component; each switch is in one -/
theorem compsF_mem {rv : Str → List Str} {sw : List Str} : ∀ {n : Nat} {xs C : List Str}, C ∈ compsF rv sw n xs → ∃ x ∈ xs, C = compO rv sw x
  | 0, _, _, h => by cases h
  | _ + 1, [], _, h => by cases h
  | n + 1, x :: xs, C, h => by
    unfold compsF at h
    rcases List.mem_cons.mp h with h | h
    · exact ⟨x, List.mem_cons_self, h⟩
    · obtain ⟨y, hy, e⟩ := compsF_mem h
      exact ⟨y, (List.mem_filter.mp hy).1, e⟩
theorem compsO_mem {rv : Str → List Str} {sw C : List Str} (h : C ∈ compsO rv sw) : ∃ x ∈ sw, C = compO rv sw x := by
  obtain ⟨x, hx, e⟩ := compsF_mem h
  exact ⟨x, mem_sortD.mp hx, e⟩
theorem raw_nd {ex : List SS} (nd : ex.Nodup) (h : ∀ e ∈ ex, ltS e.1 e.2 = true) (s : Str) : (raw ex s).Nodup := by
  induction ex with
  | nil => exact .nil
  | cons e ex ih =>
    rw [List.nodup_cons] at nd
    have ih' := ih nd.2 fun f hf => h f (List.mem_cons_of_mem _ hf)
    have he := h e List.mem_cons_self
    have ex1 : raw (e :: ex) s = ((if e.1 = s then [e.2] else []) ++ (if e.2 = s then [e.1] else [])) ++ raw ex s := rfl
    have hne : e.1 ≠ e.2 := fun z => by rw [z, ltS_irr] at he; cases he
    rw [ex1]
    by_cases h1 : e.1 = s
    · have h2 : ¬ e.2 = s := fun z => hne (h1.trans z.symm)
      rw [if_pos h1, if_neg h2]
      show (e.2 :: raw ex s).Nodup
      refine List.nodup_cons.mpr ⟨fun hm => ?_, ih'⟩
      rcases mem_raw.mp hm with z | z
      · exact nd.1 (by rw [← h1] at z; exact z)
      · have := h _ (List.mem_cons_of_mem _ z)
        rw [← h1] at this
        rw [ltS_asy he] at this
        cases this
    · rw [if_neg h1]
      by_cases h2 : e.2 = s
      · rw [if_pos h2]
        show (e.1 :: raw ex s).Nodup
        refine List.nodup_cons.mpr ⟨fun hm => ?_, ih'⟩
        rcases mem_raw.mp hm with z | z
        · have := h _ (List.mem_cons_of_mem _ z)
          rw [← h2] at this
          rw [ltS_asy he] at this
          cases this
        · exact nd.1 (by rw [← h2] at z; exact z)
      · rw [if_neg h2]
        exact ih'
section
variable {K : PySem.W.Frag}
abbrev sp_components (K : PySem.W.Frag) : Sp := Fn2 K (fun (d : Dic (List Str)) (s : Sq Str) => TabGood d s.items) fun d s => compsO (look d) s.items
def N_components : List Str := ["rivals", "switches", "left", "found", "switch"]
def t_components (K : PySem.W.Frag) : TS :=
  (tSeq (tAsg (tTup (tCons (tCB (rSortU K) (tCons (tVar 1) tNil)) (tCons (tLst tNil) tNil))) (gUnp K 2 (gCons (gName 2) (gCons (gName 3) gNil))))
    (tSeq (tWhile (tTest (tOp (rGtU K) (tCB (rLenU K) (tCons (tVar 2) tNil)) (tC (.int 0)))) (tSeq (tDrop (tBM K "list" (rAppend) (tVar 3) (tCons (tCall (sp_component_of K) [] E0 (tCons (tVar 0) (tCons (tVar 1) (tCons (tOp (rIxU K) (tVar 2) (tC (.int 0))) tNil)))) tNil)))
    (tAsg (tLc (iSeq K (tVar 2)) (gName 4) (tTest (tOp (rInU K true) (tVar 4) (tOp (rIxU K) (tVar 3) (tUn (rU fun i => .int (-i)) (tC (.int 1)))))) (tVar 4) [4]) (gName 2))))
    (tRet (tVar 3))))
theorem l_components (vs : List V) (H : Hp) (Q : VK) (E : XK) (h : sp_components K vs H Q E) : vs.length = 2 := Fn2.len vs H Q E h
theorem r_components (vs : List V) (H : Hp) (Q : VK) (E : XK) (h : sp_components K vs H Q E) : t_components K (Ends.ret Q) (start N_components vs) H := by
  obtain ⟨d, s, B, e, ⟨v1, _, rfl, h1, v2, _, rfl, h2s, rfl⟩, hd, q⟩ := h
  obtain ⟨sw⟩ := s
  have nd' : sw.Nodup := hd.1
  have sl' : sw.length ≤ 1000 := hd.2.1
  refine q_unpL0 (e_sortSq (e_var rfl h2s) (sortable_str _)) e fun vl l B1 H1 u1 hvl bl hl h1l => ?_
  refine ⟨fun m σ' H' => ∃ (left : List Str) (cs : List (List Str)) (n : Nat) (wl : V) (ws : List V) (B' : Hp) (a4 : Option V), σ' = [some v1, some v2, some wl, some (.ref l), a4] ∧ m = left.length ∧ Up B H B' H' ∧ B' l = none ∧ H' l = some (.lst ws) ∧ AtAll K B' ws cs ∧ Rep.at_ K B' wl left ∧ left.length ≤ n ∧ (∀ y ∈ left, y ∈ sw) ∧ cs ++ compsF (look d) sw n left = compsO (look d) sw ∧ cs.length + left.length ≤ 1000,
    ⟨_, sortD sw, [], sw.length, vl, [], B1, none, rfl, rfl, u1, bl, h1l, .nil, hvl, by rw [sortD_len]; exact Nat.le_refl _, fun y hy => mem_sortD.mp hy, rfl, by rw [sortD_len]; simpa using sl'⟩, ?_⟩
  rintro m σ' H' ⟨left, cs, n, wl, ws, B', a4, rfl, rfl, u, bl', hl', hA, hwl, hn, hsub, heq, hlen⟩
  refine (t_test (e_gt (e_lenL (e_var rfl hwl)) (e_int (i := 0)))).stay u.bh fun H2 u2 => ?_
  have hl2 := u2.hh l _ hl'
  cases left with
  | cons x xs =>
    have hb : DatumOrd.lt (0 : Int) ((x :: xs).length : Int) = true := decide_eq_true (by rw [List.length_cons]; omega)
    rw [hb, if_pos rfl]
    have hx : x ∈ sw := hsub x List.mem_cons_self
    cases n with
    | zero => simp at hn
    | succ n =>
      have hxc : x ∈ compO (look d) sw x := mem_compO.mpr ⟨hx, .refl⟩
      have hlt : ((x :: xs).filter fun z => !decide (z ∈ compO (look d) sw x)).length < (x :: xs).length := by
        rw [List.filter_cons, if_neg (by simp [hxc]), List.length_cons]
        have := List.length_filter_le (fun z => !decide (z ∈ compO (look d) sw x)) xs
        omega
      refine ⟨_, fun _ _ h => h, ?_⟩
      refine qapp_var (x := compO (look d) sw x) rfl hl2 u2.bh (e_call3 (E := E0) (y := Sq.mk sw) (e_var rfl (Rep.mono u.bb h1)) (e_var rfl (Rep.mono u.bb h2s)) (e_ixL (x := x) (e_var rfl hwl) (e_int (i := 0)) (atI_nat (by decide) rfl)) ⟨hd, hx⟩) (by rw [hA.length]; omega) fun vC B3 H3 u3 hvC => ?_
      obtain ⟨bl3, hl3⟩ := u3.out bl' hl2
      have hl4 : upd H3 l (.lst (ws ++ [vC])) l = some (.lst (ws ++ [vC])) := upd_same
      have e4 : Ex B3 (upd H3 l (.lst (ws ++ [vC]))) := ex_upd u3.bh bl3
      have u4 := ((u.trans u2).trans u3).mut (o := .lst (ws ++ [vC])) hl bl3
      generalize upd H3 l (.lst (ws ++ [vC])) = H4 at hl4 e4 u4
      have hA3 : AtAll K B3 (ws ++ [vC]) (cs ++ [compO (look d) sw x]) := (hA.mono u3.bb).snoc hvC
      have el : Ex B3 (upd B3 l (.lst (ws ++ [vC]))) := Ex.new bl3
      have hlist : Rep.at_ K (upd B3 l (.lst (ws ++ [vC]))) (.ref l) (cs ++ [compO (look d) sw x]) := at_list.mpr ⟨l, _, rfl, Evl.sq_of upd_same, hA3.mono el⟩
      have hlast : atI (cs ++ [compO (look d) sw x]) (-1) = some (compO (look d) sw x) := atI_last (n := cs.length) (by simp) (by simp)
      refine lcU (Q := fun w H5 => _) (fun z : Str => ngb true (decide (z ∈ compO (look d) sw x))) (fun z => z) (it_seqL (xs := x :: xs) (e_var rfl (Rep.mono (u3.bb.trans el) hwl))) (ex_in e4 hl4) (by omega) (fun z _ w B5 b5 hw => turn_name rfl rfl (t_test (e_inL (e_var rfl hw) (e_ixL (e_var rfl (Rep.mono b5 hlist)) e_neg1 hlast) true)) fun _ => e_var rfl hw) fun D wd B5 H5 u5 bD hD h5D hAD => ?_
      have hDl : D ≠ l := fun z => by rw [z, hl4] at hD; cases hD
      have u5' := u4.trans (up_cut bl3 u5)
      have ews := atAll_strs hAD
      have hDH : H D = none := Evl.fresh_back u4.hh hD
      obtain ⟨u6, e6⟩ := u5'.freeze h5D hDH
      have b36 : Ex B3 (upd (cutH B5 l) D (.lst wd)) := (up_cut bl3 u5).bb.trans e6
      refine ⟨_, ?_, (x :: xs).filter (fun z => !decide (z ∈ compO (look d) sw x)), cs ++ [compO (look d) sw x], n, .ref D, ws ++ [vC], upd (cutH B5 l) D (.lst wd), a4, rfl, rfl, u6, by rw [upd_ne hDl.symm]; exact cutH_same, u5.hh l _ hl4, hA3.mono b36, ?_, ?_, ?_, ?_, ?_⟩
      · exact hlt
      · rw [ews, List.map_id']
        exact at_list.mpr ⟨D, _, rfl, Evl.sq_of upd_same, strs_atAll _⟩
      · omega
      · exact fun y hy => hsub y (List.mem_filter.mp hy).1
      · rw [← heq, List.append_assoc]
        rfl
      · rw [List.length_append, List.length_singleton]
        omega
  | nil =>
    have hb : DatumOrd.lt (0 : Int) (([] : List Str).length : Int) = false := rfl
    rw [hb, if_neg (by decide)]
    obtain ⟨u6, e6⟩ := (u.trans u2).freeze hl2 hl
    have hcs : cs = compsO (look d) sw := by
      rw [← heq]
      cases n <;> simp [compsF]
    exact p_ret ((e_var rfl (at_list.mpr ⟨l, _, rfl, Evl.sq_of upd_same, hA.mono e6⟩)).is hcs) u6.bh fun v B3 H3 w hv => q v B3 H3 (u6.trans w) hv
/-! ### groups -/
/-- a panel without an exclusion twice -/
def PanN (p : Pan) : Prop := PanS p ∧ p.ex.Nodup ∧ ∀ e ∈ p.ex, ltS e.1 e.2 = true
theorem tabGood_of {p : Pan} (h : PanN p) : TabGood (tab p) p.sw :=
  ⟨h.1.nd, by have := h.1.s1; omega, fun y hy => ⟨tab_some hy, by rw [look_tab hy]; exact (sortD_perm _).nodup_iff.mpr (raw_nd h.2.1 h.2.2 y), by rw [look_tab hy]; have := rvs_len (p := p) y; have := h.1.s2; omega⟩⟩
abbrev sp_groups (K : PySem.W.Frag) : Sp := Fn1 K PanN fun p => compsO (rvs p) p.sw
def N_groups : List Str := ["panel"]
def t_groups (K : PySem.W.Frag) : TS :=
  (tRet (tCall (sp_components K) [] E0 (tCons (tCall (sp_rival_table K) [] E0 (tCons (tVar 0) tNil)) (tCons (tOp (rIxU K) (tVar 0) (tC (.int 0))) tNil))))
theorem l_groups (vs : List V) (H : Hp) (Q : VK) (E : XK) (h : sp_groups K vs H Q E) : vs.length = 1 := Fn1.len vs H Q E h
theorem r_groups (vs : List V) (H : Hp) (Q : VK) (E : XK) (h : sp_groups K vs H Q E) : t_groups K (Ends.ret Q) (start N_groups vs) H := by
  obtain ⟨p, B, e, ⟨v1, _, rfl, h1, rfl⟩, hp, q⟩ := h
  exact p_ret ((e_call2 (e_call1 (e_var rfl h1) hp.1.toPanOk) (e_sw (e_var rfl h1)) (tabGood_of hp)).is (y := compsO (rvs p) p.sw) (compsF_congr hp.1.nd (fun y hy => look_tab hy) _ _ fun y hy => mem_sortD.mp hy)) e q
end
end Ob

set_option Elab.async false
set_option linter.all false
set_option maxRecDepth 100000
set_option maxHeartbeats 4000000
/-! M7: section 1 of the law k04, in plain Lean: presses one by one, two presses exchanged, groups. -/
namespace Ob
open PySem L2
open PySem.W (Datum Tup DatumOrd)
theorem sts_get (rv : Str → List Str) : ∀ (hs st : List Str) (i : Nat), i ≤ hs.length → (sts rv st hs)[i]? = some (runS rv st (hs.take i))
  | [], st, i, h => by
    have : i = 0 := by simpa using h
    subst this
    rfl
  | h :: hs, st, 0, _ => rfl
  | h :: hs, st, i + 1, hi => by
    show (st :: sts rv (wp rv st h) hs)[i + 1]? = _
    rw [List.getElem?_cons_succ, sts_get rv hs _ i (by simpa using hi)]
    rfl
/-- each press seen -/
theorem seen_step {rv : Str → List Str} {st hs : List Str} {n : Str} {b a : List Str} {i : Nat} (h1 : hs[i]? = some n) (h2 : (sts rv st hs)[i]? = some b) (h3 : (sts rv st hs)[i + 1]? = some a) : b = runS rv st (hs.take i) ∧ a = wp rv b n := by
  obtain ⟨l, e⟩ := List.getElem?_eq_some_iff.mp h1
  rw [sts_get rv hs st i (by omega)] at h2
  rw [sts_get rv hs st (i + 1) (by omega), List.take_add_one, h1] at h3
  have e2 := Option.some.inj h2
  have e3 := Option.some.inj h3
  refine ⟨e2.symm, ?_⟩
  rw [← e3, ← e2]
  exact runS_snoc rv st _ n
theorem wp_again {p : Pan} {st : List Str} {x : Str} (h : StOk p st) (hx : x ∈ st) : wp (rvs p) st x = st := by
  refine asc_ext (wp_asc (asc_nodup h.1)) h.1 fun z => ?_
  rw [mem_wp]
  constructor
  · rintro (⟨h1, _⟩ | h1)
    · exact h1
    · rw [h1]; exact hx
  · intro hz
    by_cases e : z = x
    · exact .inr e
    · refine .inl ⟨hz, fun hr => ?_, e⟩
      rcases mem_rvs.mp hr with k | k
      · exact h.2.2 x hx z hz k
      · exact h.2.2 z hz x hx k
theorem wp_dark {p : Pan} (irr : ∀ e ∈ p.ex, e.1 ≠ e.2) {st : List Str} {x z : Str} (h : z ∈ rvs p x) : z ∉ wp (rvs p) st x := by
  intro hz
  rcases mem_wp.mp hz with ⟨_, h1, _⟩ | h1
  · exact h1 h
  · rw [h1] at h
    rcases mem_rvs.mp h with k | k
    · exact irr _ k rfl
    · exact irr _ k rfl
theorem rvs_sym {p : Pan} {x y : Str} : x ∈ rvs p y ↔ y ∈ rvs p x := by
  rw [mem_rvs, mem_rvs]
  exact Or.comm
theorem wp_swap {p : Pan} {st : List Str} {x y : Str} (h : st.Nodup) (hn : y ∉ rvs p x) : wp (rvs p) (wp (rvs p) st x) y = wp (rvs p) (wp (rvs p) st y) x := by
  have hn' : x ∉ rvs p y := fun z => hn (rvs_sym.mp z)
  refine asc_ext (wp_asc (asc_nodup (wp_asc h))) (wp_asc (asc_nodup (wp_asc h))) fun z => ?_
  rw [mem_wp, mem_wp, mem_wp, mem_wp]
  constructor
  · rintro (⟨⟨h1, h2, h3⟩ | h1, h4, h5⟩ | h1)
    · exact .inl ⟨.inl ⟨h1, h4, h5⟩, h2, h3⟩
    · exact .inr h1
    · by_cases e : z = x
      · exact .inr e
      · exact .inl ⟨.inr h1, by rw [h1]; exact hn, e⟩
  · rintro (⟨⟨h1, h2, h3⟩ | h1, h4, h5⟩ | h1)
    · exact .inl ⟨.inl ⟨h1, h4, h5⟩, h2, h3⟩
    · exact .inr h1
    · by_cases e : z = y
      · exact .inr e
      · exact .inl ⟨.inr h1, by rw [h1]; exact hn', e⟩
theorem wp_on {rv : Str → List Str} {st : List Str} {x : Str} : x ∈ wp rv st x := mem_wp.mpr (.inr rfl)
/-- a press of another group leaves on what is on -/
theorem stays_on {p : Pan} {x : Str} : ∀ {hs st : List Str}, x ∈ st → (∀ y ∈ hs, y ≠ x ∧ x ∉ rvs p y) → x ∈ runS (rvs p) st hs
  | [], _, h, _ => h
  | y :: hs, st, h, hy => stays_on (hs := hs) (mem_wp.mpr (.inl ⟨h, (hy y List.mem_cons_self).2, fun e => (hy y List.mem_cons_self).1 e.symm⟩)) fun z hz => hy z (List.mem_cons_of_mem _ hz)
/-- each group with a press has a switch on -/
theorem group_on {p : Pan} {C : List Str} {hs st : List Str} (hC : C ∈ compsO (rvs p) p.sw) (hs1 : ∀ y ∈ hs, y ∈ p.sw) {x : Str} (hx : x ∈ C) (hm : x ∈ hs) : ∃ z ∈ C, z ∈ runS (rvs p) st hs := by
  obtain ⟨c, hc, rfl⟩ := compsO_mem hC
  have key : ∀ (hs st : List Str), (∀ y ∈ hs, y ∈ p.sw) → (∃ x ∈ hs, x ∈ compO (rvs p) p.sw c) → ∃ z ∈ compO (rvs p) p.sw c, z ∈ runS (rvs p) st hs := by
    intro hs
    induction hs with
    | nil => intro st _ ⟨x, hx, _⟩; cases hx
    | cons y hs ih =>
      intro st hsw ⟨x, hx, hxc⟩
      by_cases hl : ∃ x ∈ hs, x ∈ compO (rvs p) p.sw c
      · exact ih (wp (rvs p) st y) (fun z hz => hsw z (List.mem_cons_of_mem _ hz)) hl
      · have hxy : x = y := by
          rcases List.mem_cons.mp hx with e | e
          · exact e
          · exact absurd ⟨x, e, hxc⟩ hl
        subst hxy
        refine ⟨x, hxc, stays_on (hs := hs) wp_on fun z hz => ?_⟩
        refine ⟨fun e => hl ⟨z, hz, e ▸ hxc⟩, fun hr => hl ⟨z, hz, ?_⟩⟩
        have hzs := hsw z (List.mem_cons_of_mem _ hz)
        exact mem_compO.mpr ⟨hzs, .step (mem_compO.mp hxc).2 (rvs_sym.mp hr) hzs⟩
  exact key hs st hs1 ⟨x, hm, hx⟩
end Ob

set_option Elab.async false
set_option linter.all false
set_option maxRecDepth 100000
set_option maxHeartbeats 4000000
/-! M8: what a history does to each switch (section 1 of the proof): sem. Plain Lean. -/
namespace Ob
open PySem L2
open PySem.W (Datum Tup DatumOrd)
/-- one press, of one switch: on, off, or nothing -/
def sb (rv : Str → List Str) (x z : Str) : Option Bool := if z = x then some true else if z ∈ rv x then some false else none
/-- presses, the earliest first: the last one that says something decides -/
def sem (rv : Str → List Str) : List Str → Str → Option Bool
  | [], _ => none
  | x :: hs, z => (sem rv hs z).or (sb rv x z)
theorem sem_append (rv : Str → List Str) (z : Str) : ∀ (a b : List Str), sem rv (a ++ b) z = (sem rv b z).or (sem rv a z)
  | [], b => by simp [sem]
  | x :: a, b => by
    show (sem rv (a ++ b) z).or (sb rv x z) = (sem rv b z).or ((sem rv a z).or (sb rv x z))
    rw [sem_append rv z a b, Option.or_assoc]
theorem sb_none {rv : Str → List Str} {x z : Str} : sb rv x z = none ↔ z ≠ x ∧ z ∉ rv x := by
  unfold sb
  by_cases h : z = x
  · rw [if_pos h]; simp [h]
  · rw [if_neg h]
    by_cases k : z ∈ rv x
    · rw [if_pos k]; simp [k]
    · rw [if_neg k]; simp [h, k]
theorem sem_none {rv : Str → List Str} {z : Str} : ∀ {hs : List Str}, sem rv hs z = none ↔ z ∉ hs ∧ ∀ s ∈ hs, z ∉ rv s
  | [] => by simp [sem]
  | x :: hs => by
    show (sem rv hs z).or (sb rv x z) = none ↔ _
    rw [Option.or_eq_none_iff, sem_none, sb_none]
    simp only [List.mem_cons, not_or, forall_eq_or_imp]
    constructor
    · rintro ⟨⟨a, b⟩, c, d⟩; exact ⟨⟨c, a⟩, d, b⟩
    · rintro ⟨⟨c, a⟩, d, b⟩; exact ⟨⟨a, b⟩, c, d⟩
/-- a press that is made again later says nothing -/
theorem sem_again {rv : Str → List Str} {x : Str} {hs : List Str} (h : x ∈ hs) (z : Str) : sem rv (x :: hs) z = sem rv hs z := by
  show (sem rv hs z).or (sb rv x z) = _
  cases e : sem rv hs z with
  | some b => rfl
  | none =>
    obtain ⟨h1, h2⟩ := sem_none.mp e
    show sb rv x z = none
    exact sb_none.mpr ⟨fun k => h1 (k ▸ h), h2 x h⟩
theorem lastP_cons (x : Str) (xs : List Str) : lastP (x :: xs) = if x ∈ xs then lastP xs else x :: lastP xs := by
  show (if (!decide (x ∈ xs)) = true then x :: lastP xs else lastP xs) = _
  by_cases h : x ∈ xs
  · rw [if_pos h, if_neg (by simp [h])]
  · rw [if_neg h, if_pos (by simp [h])]
theorem sem_lastP {rv : Str → List Str} : ∀ (hs : List Str) (z : Str), sem rv (lastP hs) z = sem rv hs z
  | [], _ => rfl
  | x :: xs, z => by
    rw [lastP_cons]
    by_cases h : x ∈ xs
    · rw [if_pos h, sem_lastP xs z, sem_again h]
    · rw [if_neg h]
      show (sem rv (lastP xs) z).or _ = (sem rv xs z).or _
      rw [sem_lastP xs z]
theorem mem_lastP {hs : List Str} {z : Str} : z ∈ lastP hs ↔ z ∈ hs := by
  induction hs with
  | nil => exact Iff.rfl
  | cons x xs ih =>
    rw [lastP_cons]
    by_cases h : x ∈ xs
    · rw [if_pos h, ih, List.mem_cons]
      exact ⟨.inr, fun k => k.elim (fun e => e ▸ h) id⟩
    · rw [if_neg h, List.mem_cons, List.mem_cons, ih]
theorem lastP_nd : ∀ (hs : List Str), (lastP hs).Nodup
  | [] => .nil
  | x :: xs => by
    rw [lastP_cons]
    by_cases h : x ∈ xs
    · rw [if_pos h]; exact lastP_nd xs
    · rw [if_neg h]; exact List.nodup_cons.mpr ⟨fun k => h (mem_lastP.mp k), lastP_nd xs⟩
/-- which switches the order leaves on -/
theorem left_sem {rv : Str → List Str} (sym : ∀ x y, y ∈ rv x ↔ x ∈ rv y) : ∀ {os : List Str}, os.Nodup → ∀ z, z ∈ leftO rv os ↔ sem rv os z = some true
  | [], _, z => by simp [leftO, filtT, sem, mem_sortD]
  | x :: xs, nd, z => by
    rw [List.nodup_cons] at nd
    have ih := left_sem sym nd.2 z
    unfold leftO at ih ⊢
    rw [mem_sortD] at ih ⊢
    show z ∈ (if (!(xs.any fun o => decide (o ∈ rv x))) = true then x :: filtT (fun x r => !(r.any fun o => decide (o ∈ rv x))) xs else filtT (fun x r => !(r.any fun o => decide (o ∈ rv x))) xs) ↔ (sem rv xs z).or (sb rv x z) = some true
    have hx : (!(xs.any fun o => decide (o ∈ rv x))) = true ↔ ∀ o ∈ xs, o ∉ rv x := by simp
    have hsn : sem rv xs x = none ↔ ∀ o ∈ xs, o ∉ rv x := by
      rw [sem_none]
      exact ⟨fun h o ho k => h.2 o ho ((sym _ _).mp k), fun h => ⟨nd.1, fun s hs k => h s hs ((sym _ _).mp k)⟩⟩
    by_cases hc : ∀ o ∈ xs, o ∉ rv x
    · rw [if_pos (hx.mpr hc), List.mem_cons, ih]
      by_cases hz : z = x
      · subst hz
        rw [hsn.mpr hc]
        simp [sb]
      · cases e : sem rv xs z with
        | some b => simp [hz]
        | none =>
          simp only [Option.none_or]
          unfold sb
          rw [if_neg hz]
          simp [hz]
    · rw [if_neg (fun k => hc (hx.mp k)), ih]
      cases e : sem rv xs z with
      | some b => rfl
      | none =>
        simp only [Option.none_or]
        have hz : z ≠ x := fun k => hc (hsn.mp (k ▸ e))
        unfold sb
        rw [if_neg hz]
        split <;> simp
theorem tch_sem {rv : Str → List Str} {os : List Str} {z : Str} : z ∈ tch rv os ↔ sem rv os z ≠ none := by
  unfold tch
  rw [mem_sortD, mem_tchK, ne_eq, sem_none]
  constructor
  · rintro (h | ⟨s, hs, h⟩) ⟨k1, k2⟩
    · exact k1 h
    · exact k2 s hs h
  · intro h
    by_cases hz : z ∈ os
    · exact .inl hz
    · refine .inr ?_
      refine Classical.byContradiction fun k => h ⟨hz, fun s hs hm => k ⟨s, hs, hm⟩⟩
/-- what a run leaves on -/
theorem mem_runS {rv : Str → List Str} {z : Str} : ∀ {hs st : List Str}, z ∈ runS rv st hs ↔ sem rv hs z = some true ∨ (sem rv hs z = none ∧ z ∈ st)
  | [], st => by simp [runS, sem]
  | x :: hs, st => by
    show z ∈ runS rv (wp rv st x) hs ↔ (sem rv hs z).or (sb rv x z) = some true ∨ ((sem rv hs z).or (sb rv x z) = none ∧ z ∈ st)
    rw [mem_runS]
    cases e : sem rv hs z with
    | some b => simp
    | none =>
      simp only [Option.none_or, true_and, reduceCtorEq, false_or]
      rw [mem_wp]
      unfold sb
      by_cases h1 : z = x
      · simp [h1]
      · by_cases h2 : z ∈ rv x
        · simp [h1, h2]
        · simp [h1, h2]
theorem runS_asc {rv : Str → List Str} : ∀ {hs st : List Str}, Asc st → Asc (runS rv st hs)
  | [], _, h => h
  | x :: hs, _, h => runS_asc (hs := hs) (wp_asc (asc_nodup h))
/-! ### effects -/
structure EffIs (e : Eff) (f : Str → Option Bool) : Prop where
  a1 : Asc e.1.items
  a2 : Asc e.2.items
  m1 : ∀ z, z ∈ e.1.items ↔ f z = some true
  m2 : ∀ z, z ∈ e.2.items ↔ f z = some false
theorem EffIs.ext {e e' : Eff} {f f' : Str → Option Bool} (h : EffIs e f) (k : EffIs e' f') (hf : ∀ z, f z = f' z) : e = e' := by
  obtain ⟨⟨a⟩, ⟨b⟩⟩ := e
  obtain ⟨⟨c⟩, ⟨d⟩⟩ := e'
  have e1 : a = c := asc_ext h.a1 k.a1 fun z => (h.m1 z).trans (by rw [hf]; exact (k.m1 z).symm)
  have e2 : b = d := asc_ext h.a2 k.a2 fun z => (h.m2 z).trans (by rw [hf]; exact (k.m2 z).symm)
  rw [e1, e2]
/-- equal effects do the same -/
theorem EffIs.inj {e : Eff} {f f' : Str → Option Bool} (h : EffIs e f) (k : EffIs e f') (z : Str) : f z = f' z := by
  have h1 := (h.m1 z).symm.trans (k.m1 z)
  have h2 := (h.m2 z).symm.trans (k.m2 z)
  cases hf : f z with
  | none =>
    cases hg : f' z with
    | none => rfl
    | some b => rw [hf, hg] at h1 h2; cases b <;> simp at h1 h2
  | some c =>
    cases hg : f' z with
    | none => rw [hf, hg] at h1 h2; cases c <;> simp at h1 h2
    | some b => rw [hf, hg] at h1 h2; cases b <;> cases c <;> simp at h1 h2 <;> rfl
theorem eff_is {rv : Str → List Str} (sym : ∀ x y, y ∈ rv x ↔ x ∈ rv y) (hs : List Str) : EffIs (effO rv hs) (sem rv hs) := by
  have hl := left_sem sym (lastP_nd hs)
  have ht : Asc (tch rv (lastP hs)) := sortD_asc tchK_nd
  refine ⟨sortD_asc ((lastP_nd hs).sublist (filtT_sub _ _)), ht.sublist List.filter_sublist, fun z => ?_, fun z => ?_⟩
  · show z ∈ leftO rv (lastP hs) ↔ _
    rw [hl, sem_lastP]
  · show z ∈ (tch rv (lastP hs)).filter (fun s => !decide (s ∈ leftO rv (lastP hs))) ↔ _
    rw [List.mem_filter, tch_sem, sem_lastP]
    have : (!decide (z ∈ leftO rv (lastP hs))) = true ↔ ¬ sem rv hs z = some true := by
      rw [← sem_lastP hs z, ← hl z]
      simp
    rw [this]
    cases sem rv hs z with
    | none => simp
    | some b => cases b <;> simp
theorem rvs_sym' (p : Pan) : ∀ x y, y ∈ rvs p x ↔ x ∈ rvs p y := fun x y => rvs_sym
def aplE (st : List Str) (e : Eff) : List Str := sortD (st.filter (fun s => !decide (s ∈ e.1.items) && !decide (s ∈ e.2.items)) ++ e.1.items)
theorem mem_aplE {st : List Str} {e : Eff} {f : Str → Option Bool} (h : EffIs e f) {z : Str} : z ∈ aplE st e ↔ f z = some true ∨ (f z = none ∧ z ∈ st) := by
  unfold aplE
  rw [mem_sortD, List.mem_append, List.mem_filter]
  have h1 := h.m1 z
  have h2 := h.m2 z
  cases hf : f z with
  | none => rw [hf] at h1 h2; simp [h1, h2]
  | some b => rw [hf] at h1 h2; cases b <;> simp [h1, h2]
theorem aplE_asc {st : List Str} {e : Eff} (h1 : Asc st) (h2 : Asc e.1.items) : Asc (aplE st e) := by
  refine sortD_asc (List.nodup_append.mpr ⟨(asc_nodup h1).filter _, asc_nodup h2, fun a ha b hb e' => ?_⟩)
  rw [List.mem_filter] at ha
  have := ha.2
  rw [e'] at this
  simp [hb] at this
theorem apl_run {p : Pan} {st hs : List Str} (h : Asc st) {e : Eff} (he : EffIs e (sem (rvs p) hs)) : runS (rvs p) st hs = aplE st e :=
  asc_ext (runS_asc h) (aplE_asc h he.a1) fun z => mem_runS.trans (mem_aplE he).symm
def ovr (xs : List Str) (e : Eff) : List Str := xs.filter fun s => !decide (s ∈ e.1.items) && !decide (s ∈ e.2.items)
def cmpE (a b : Eff) : Eff := (⟨sortD (ovr a.1.items b ++ b.1.items)⟩, ⟨sortD (ovr a.2.items b ++ b.2.items)⟩)
theorem mem_ovr {xs : List Str} {e : Eff} {f : Str → Option Bool} (h : EffIs e f) {z : Str} : z ∈ ovr xs e ↔ z ∈ xs ∧ f z = none := by
  unfold ovr
  rw [List.mem_filter]
  have h1 := h.m1 z
  have h2 := h.m2 z
  cases hf : f z with
  | none => rw [hf] at h1 h2; simp [h1, h2]
  | some b => rw [hf] at h1 h2; cases b <;> simp [h1, h2]
theorem cmp_is {a b : Eff} {f g : Str → Option Bool} (h : EffIs a f) (k : EffIs b g) : EffIs (cmpE a b) fun z => (g z).or (f z) := by
  have nd : ∀ {xs ys : List Str} {t : Bool}, Asc xs → Asc ys → (∀ z, z ∈ ys ↔ g z = some t) → (ovr xs b ++ ys).Nodup := fun {xs ys t} h1 h2 h3 => by
    refine List.nodup_append.mpr ⟨(asc_nodup h1).filter _, asc_nodup h2, fun x hx y hy e => ?_⟩
    have h4 := ((mem_ovr k).mp hx).2
    rw [e, (h3 y).mp hy] at h4
    cases h4
  refine ⟨sortD_asc (nd h.a1 k.a1 k.m1), sortD_asc (nd h.a2 k.a2 k.m2), fun z => ?_, fun z => ?_⟩
  · show z ∈ sortD (ovr a.1.items b ++ b.1.items) ↔ _
    rw [mem_sortD, List.mem_append, mem_ovr k, h.m1 z, k.m1 z]
    cases g z with
    | none => simp
    | some t => simp
  · show z ∈ sortD (ovr a.2.items b ++ b.2.items) ↔ _
    rw [mem_sortD, List.mem_append, mem_ovr k, h.m2 z, k.m2 z]
    cases g z with
    | none => simp
    | some t => simp
def nilE : Eff := (⟨[]⟩, ⟨[]⟩)
theorem nil_is : EffIs nilE fun _ => none := ⟨.nil, .nil, fun z => by simp [nilE], fun z => by simp [nilE]⟩
end Ob

set_option Elab.async false
set_option linter.all false
set_option maxRecDepth 100000
set_option maxHeartbeats 4000000
/-! S2: more rules over the record; calls by their meaning. -/
namespace Ob
open PySem L2
open Evl (Ex)
open PySem.W (Datum Tup DatumOrd)
theorem ne_false {α : Type} [DecidableEq α] {x y : α} (h : x = y) : (!decide (x = y)) = false := by rw [decide_eq_true h]; rfl
section
variable {K : PySem.W.Frag} {W0 : List Addr} {B0 H0 : Hp} {os : List OC} {Γ : List (Option Cell)} {σ : L2.St} {B H B1 H1 : Hp} {te ta tb tc tk tv : TE} {tt : TT} {D : Ends} {tu tw tz : TS} {b : Addr} {c n : Int}
/-- a slot read as something that it also is -/
theorem St.cast {α β : Type} [Rep α] [Rep β] {x : α} {y : β} (s : St K W0 B0 H0 os Γ σ B H) (i : Nat) (h : cg Γ i = ce x) (k : ∀ {H : Hp} {v : V}, Rep.at_ K H v x → Rep.at_ K H v y) : St K W0 B0 H0 os (cs Γ i (ce y)) σ B H := by
  obtain ⟨v, h1, h2⟩ := s.sl.get h
  exact s.slot (s.sl.re h1 (k h2))
theorem St.unpP {α β : Type} [DecidableEq α] [Datum α] [DecidableEq β] [Datum β] {p : α × β} {i j : Nat} (s : St K W0 B0 H0 os Γ σ B H) (h : Pe K te σ B p) (k : ∀ σ1 B1 H1, St K W0 B0 H0 os (cs (cs Γ i (ce p.1)) j (ce p.2)) σ1 B1 H1 → tz D σ1 H1) :
    tSeq (tAsg te (gUnp K 2 (gCons (gName i) (gCons (gName j) gNil)))) tz D σ H := q_unpP h s.bh fun v w B1 H1 u hv hw => k _ B1 H1 (((s.up u).put i hv).put j hw)
theorem Slots.lcB {γ β : Type} [Rep γ] [DecidableEq β] [Datum β] {wi : TI} {j : Nat} {xs : List γ} {S : β → Prop} (s : Slots K B σ Γ) (h : ItD K wi σ B xs) (hz : xs.length ≤ 1000000) (hn : 0 ≤ n)
    (ht : ∀ x ∈ xs, ∀ σ2 B1, Ex B B1 → Slots K B1 σ2 (cs (cw Γ [j]) j (ce x)) → Pb K b n te σ2 B1 S) : Pb K b (n * xs.length) (tLc wi (gName j) tYes te [j]) σ B (fun ys : List β => ys.length = xs.length ∧ ∀ y ∈ ys, S y) :=
  b_lcR h hz hn fun x hx v B1 b1 hv => ⟨_, fun H Q _ q => q, by rw [set_none_comm (List.mem_singleton.mpr rfl), wipe_wipe], ht x hx _ B1 b1 ((s.mono b1).turn hv)⟩
/-- a drawn list of three, unpacked -/
theorem St.unp3L {α : Type} [DecidableEq α] [Datum α] {S : α → Prop} {i j l : Nat} (s : St K W0 B0 H0 (boxC b c :: os) Γ σ B H) (h : Pb K b n te σ B (fun ys : List α => ys.length = 3 ∧ ∀ y ∈ ys, S y)) (hc : c + n ≤ 2 ^ 40)
    (k : ∀ x y z, S x → S y → S z → ∀ σ1 B1 H1, St K W0 B0 H0 (boxC b (c + n) :: os) (cs (cs (cs Γ i (ce x)) j (ce y)) l (ce z)) σ1 B1 H1 → tz D σ1 H1) :
    tSeq (tAsg te (gUnp K 3 (gCons (gName i) (gCons (gName j) (gCons (gName l) gNil))))) tz D σ H :=
  h H c s.bh s.box hc (fun v H1 => gUnp K 3 (gCons (gName i) (gCons (gName j) (gCons (gName l) gNil))) v σ H1 (tz D)) fun v x B1 H1 u ub r hv => by
    obtain ⟨hl, hS⟩ := r
    match x, hl, hS, hv with
    | [x, y, z], _, hS, hv =>
      obtain ⟨a, vs, rfl, hs, hx⟩ := at_list.mp hv
      cases hx with
      | cons h1 t =>
        cases t with
        | cons h2 t =>
          cases t with
          | cons h3 t =>
            cases t
            exact .inr ⟨a, _, rfl, Evl.ex_l u.bh hs, rfl, _, _, rfl, _, _, rfl, _, _, rfl, rfl, k x y z (hS x (by simp)) (hS y (by simp)) (hS z (by simp)) _ B1 H1 ((((s.ub u ub).put i h1).put j h2).put l h3)⟩
/-! calls -/
theorem x_run {E : XK} {p : Pan} {st hs : List Str} (h1 : Pe K ta σ B p) (h2 : Pe K tb σ B (Sq.mk st)) (h3 : Pe K tc σ B (Sq.mk hs)) (hp : PanOk p) (l1 : st.length ≤ 10000) (l2 : hs.length ≤ 10000) (hh : ∀ x ∈ hs, x ∈ p.sw) :
    Pe K (tCall (sp_run K) [] E (tCons ta (tCons tb (tCons tc tNil)))) σ B (Tup.mk (runS (rvs p) st hs)) := e_call3 h1 h2 h3 ⟨hp, l1, l2, hh⟩
theorem x_eff {E : XK} {p : Pan} {hs : List Str} (h1 : Pe K ta σ B p) (h2 : Pe K tb σ B (Sq.mk hs)) (hp : PanS p) (l : hs.length ≤ 500) (hh : ∀ x ∈ hs, x ∈ p.sw) :
    Pe K (tCall (sp_effect_of K) [] E (tCons ta (tCons tb tNil))) σ B (effO (rvs p) hs) := e_call2 h1 h2 ⟨hp, l, hh⟩
theorem x_last {E : XK} {hs : List Str} (h1 : Pe K ta σ B (Sq.mk hs)) (l : hs.length ≤ 100000) : Pe K (tCall (sp_last_presses K) [] E (tCons ta tNil)) σ B (lastP hs) := e_call1 h1 l
end
/-! ### a drawn panel -/
theorem PanG.ok {m : Int} {p : Pan} (g : PanG m p) (hm : m ≤ 50) : PanS p := by
  have := g.len
  exact ⟨⟨asc_nodup g.asc, fun e he => (g.ex e he).1, by omega, by have := g.el; omega⟩, by omega, by have := g.el; omega⟩
theorem PanG.nn {m : Int} {p : Pan} (g : PanG m p) (hm : m ≤ 50) : PanN p := ⟨g.ok hm, g.xn, fun e he => (g.ex e he).2⟩
theorem PanG.irr {m : Int} {p : Pan} (g : PanG m p) : ∀ e ∈ p.ex, e.1 ≠ e.2 := fun e he z => by
  have := (g.ex e he).2
  rw [z, ltS_irr] at this
  cases this
/-! ### effects of a panel -/
structure EffS (p : Pan) (e : Eff) (f : Str → Option Bool) : Prop extends EffIs e f where
  sw : ∀ z, f z ≠ none → z ∈ p.sw
theorem EffS.l1 {p : Pan} {e : Eff} {f : Str → Option Bool} (h : EffS p e f) : e.1.items.length ≤ p.sw.length := (asc_nodup h.a1).length_le_of_subset fun z hz => h.sw z (by rw [(h.m1 z).mp hz]; exact fun w => nomatch w)
theorem EffS.l2 {p : Pan} {e : Eff} {f : Str → Option Bool} (h : EffS p e f) : e.2.items.length ≤ p.sw.length := (asc_nodup h.a2).length_le_of_subset fun z hz => h.sw z (by rw [(h.m2 z).mp hz]; exact fun w => nomatch w)
theorem effS_of {p : Pan} (ok : PanOk p) {hs : List Str} (hh : ∀ x ∈ hs, x ∈ p.sw) : EffS p (effO (rvs p) hs) (sem (rvs p) hs) where
  toEffIs := eff_is (rvs_sym' p) hs
  sw z hz := by
    rw [← sem_lastP hs z] at hz
    rcases mem_tchK.mp (mem_sortD.mp (tch_sem.mpr hz)) with h | ⟨s, _, h⟩
    · exact hh z (mem_lastP.mp h)
    · exact rvs_sw ok h
theorem effS_cmp {p : Pan} {a b : Eff} {f g : Str → Option Bool} (h : EffS p a f) (k : EffS p b g) : EffS p (cmpE a b) fun z => (g z).or (f z) where
  toEffIs := cmp_is h.toEffIs k.toEffIs
  sw z hz := by
    cases e : g z with
    | some t => exact k.sw z (by rw [e]; exact fun w => nomatch w)
    | none =>
      rw [e] at hz
      exact h.sw z (by simpa using hz)
theorem effS_nil (p : Pan) : EffS p nilE fun _ => none := ⟨nil_is, fun z h => absurd rfl h⟩
end Ob

set_option Elab.async false
set_option linter.all false
set_option maxRecDepth 100000
set_option maxHeartbeats 4000000
/-! Lam: sorted(xs, key=lambda x: (-far[x], x)): the lambda's code object, kept in the maker's table; the order. -/
namespace Ob
open PySem PySem.Spec PyProof.Rows L2
open Evl (Ex)
open LamX (CodeO TabB)
open PySem.W (Datum Tup DatumOrd)
/-- the table at P: the code objects that it tells are frozen -/
structure LtAt (q : Str) (B H : Hp) (P : Addr) : Prop where
  fb : B P = none
  tb : ∃ ps : Array Value, H P = some (.tbl ps) ∧ TriplesOk ps.toList ∧ ∀ (pos : Pos) (cv : Value), codeAmong pos ps.toList = some cv → ∃ c, cv = .ref c ∧ B c = some (CodeO c q)
theorem LtAt.ne {q : Str} {B H : Hp} {P : Addr} (t : LtAt q B H P) : H P ≠ none := by
  obtain ⟨ps, h, _⟩ := t.tb
  rw [h]
  exact fun z => nomatch z
theorem LtAt.up {q : Str} {B H B1 H1 : Hp} {P : Addr} (t : LtAt q B H P) (u : Up B H B1 H1) : LtAt q B1 H1 P := by
  obtain ⟨ps, h, h2, h3⟩ := t.tb
  refine ⟨(u.out t.fb h).1, ps, (u.out t.fb h).2, h2, fun pos cv e => ?_⟩
  obtain ⟨c, e1, e2⟩ := h3 pos cv e
  exact ⟨c, e1, u.bb _ _ e2⟩
section
variable {X : Cx} {pins : List (Addr × Obj)} {σ : L2.St} {B H : Hp} {s : Shared}
theorem lam_make3 {c P : Addr} {params : Arguments} {body : Expr} {scope : Scope} {pos : Pos} {E : Value → Shared → Prop} {Q : Value → Shared → Prop} (I : Inv X pins σ H s) (TB : TabB X.base X.mg c P) (hcode : X.env.code = .ref c)
    (eB : Ex B H) (hT : LtAt (X.env.qual ++ "<lambda>") B H P) (hdef : defaultsOf params X.env = ([], [])) (hfree : ∀ y ∈ scope.names, y.2 = .free → ∃ c, X.env.cells.lookup y.1 = some c)
    (h : ∀ (f c' : Addr) (pm ctv : Value) (B1 H1 : Hp) (s' : Shared), Inv X pins σ H1 s' → Ub P B H B1 H1 → LtAt (X.env.qual ++ "<lambda>") B1 H1 P →
      s'.heap.get? f = some (PySem.W.kla_obj "<lambda>" (X.env.qual ++ "<lambda>") params body scope (cloFrom X.env.cells scope.names []) pm c' ctv) → B1 c' = some (CodeO c' (X.env.qual ++ "<lambda>")) → Q (.ref f) s') :
    wpAny (model X.prog X.w) X.A (eval (.Lambda params body scope pos) X.env) Q E s := by
  obtain ⟨fb, ps, hP, ht, ha⟩ := hT
  refine PySem.W.kla_eval hdef ?_
  have bP : s.heap.BuiltinsAt X.mg P := TB.bm.keeps I.bk
  have hP' : s.heap.get? P = some { cls := .none, data := .fields ps } := I.hok P _ hP
  cases hc : codeAmong pos ps.toList with
  | none =>
    refine PySem.W.kla_makeFunction (mg := X.mg) (c := c) (P := P) (ps := ps) (closure_ok hfree) I.ok.glob (I.mod.glob.keeps I.bk) hcode (TB.code.keeps I.bk) hP' ht hc TB.gP bP fun c' ctv h' tk hx hge hlt hrec htb => ?_
    obtain ⟨c2, oc, vs, t, e2, hoc, hd, hv⟩ := hrec
    cases e2
    have hsz : s.heap.objs.size ≤ h'.objs.size := Nat.le_trans hge (Nat.le_of_lt hlt)
    have nC : H c' = none := I.hok.fresh hge
    have bC : B c' = none := Evl.fresh_back eB nC
    have nPc : P ≠ c' := ne_of_none hP nC
    have I1 := LamX.inv_table (t' := tk) (more := #[rawInt pos.line, rawInt pos.col, .ref c']) (h' := h'.push (PySem.W.kla_obj "<lambda>" (X.env.qual ++ "<lambda>") params body scope (cloFrom X.env.cells scope.names []) ((X.mg "__name__").getD .none) c' ctv)) I hP
      (fun b o hb e => Heap.get?_push_of_some _ (hx b o hb e)) (Heap.get?_push_of_some _ htb) hge ⟨oc, vs, t, Heap.get?_push_of_some _ hoc, hd, hv⟩
    have eL : (ps ++ #[rawInt pos.line, rawInt pos.col, .ref c']).toList = ps.toList ++ [rawInt pos.line, rawInt pos.col, .ref c'] := by simp
    refine h h'.objs.size c' ((X.mg "__name__").getD .none) ctv (upd B c' (CodeO c' (X.env.qual ++ "<lambda>"))) _ _ I1 ⟨Ex.new bC, fun a u e => ?_, fun a u ne e => ?_, fun a e => ?_⟩ ⟨by rw [upd_ne nPc]; exact fb, _, by rw [upd_ne nPc, upd_same], by rw [eL]; exact PySem.TriplesOk_snoc _ _ _ _ ht, fun p' cv hcv => ?_⟩ (Heap.get?_push_size _ rfl) upd_same
    · by_cases hb : a = c'
      · rw [hb, upd_same] at e ⊢
        exact e
      · rw [upd_ne hb] at e ⊢
        have : a ≠ P := fun z => by rw [z, fb] at e; cases e
        rw [upd_ne this]
        exact eB a u e
    · rw [upd_ne (ne_of_none e nC), upd_ne ne]
      exact e
    · by_cases hb : a = c'
      · exact .inr (hb ▸ nC)
      · rw [upd_ne hb] at e
        exact .inl e
    · rw [eL] at hcv
      rcases LamX.among_app _ ht hcv with z | z
      · obtain ⟨c0, e1, e2⟩ := ha p' cv z
        exact ⟨c0, e1, Ex.new bC _ _ e2⟩
      · exact ⟨c', z, upd_same⟩
  | some cv =>
    obtain ⟨c', e, hco⟩ := ha pos cv hc
    subst e
    refine PySem.W.kla_makeFunctionHit (mg := X.mg) (c := c) (P := P) (ps := ps) (closure_ok hfree) I.ok.glob (I.mod.glob.keeps I.bk) hcode (TB.code.keeps I.bk) hP' ht hc bP fun ctv h' tk hx hsz => ?_
    have I1 : Inv X pins σ H { s with heap := h'.push (PySem.W.kla_obj "<lambda>" (X.env.qual ++ "<lambda>") params body scope (cloFrom X.env.cells scope.names []) ((X.mg "__name__").getD .none) c' ctv), toks := tk } := I.kept fun b o e => Heap.get?_push_of_some _ (hx b o e)
    exact h h'.objs.size c' ((X.mg "__name__").getD .none) ctv B H _ I1 (Ub.refl eB) ⟨fb, ps, hP, ht, ha⟩ (Heap.get?_push_size _ rfl) hco
end
/-! ### one call of the key -/
/-- x: (-far[x], x) -/
def keyBody (far x : Str) (p1 p2 p3 p4 p5 p6 : Pos) : Expr := .Tuple [.UnaryOp .USub (.Subscript (.Name far p1) (.Name x p2) p3) p4, .Name x p5] 0 p6
section
variable {prog : Program} {w : World} {A : Around} {s : Shared}
theorem key_call {f d cc c' : Addr} {far x q : Str} {p1 p2 p3 p4 p5 p6 : Pos} {params : Arguments} {scope : Scope} {clos : List (Str × Addr)} {pm ctv : Value} {kvs : List (Key × Value)} {z : Str} {t : Tok} {n : Int} {m : Tok}
    (hroom : A.depth < recursionLimit) (ho : s.heap.get? f = some (PySem.W.kla_obj "<lambda>" q params (keyBody far x p1 p2 p3 p4 p5 p6) scope clos pm c' ctv)) (hcd : s.heap.CodeRec (.ref c') q) (lim : s.heap.NoLimit)
    (hk : scope.kind = .function) (hco : scope.isCoroutine = false) (hgen : scope.isGenerator = false) (hcell : ∀ y ∈ scope.names, y.2 ≠ .cell) (hx : scope.names.lookup x = some .local) (hf : scope.names.lookup far = some .free)
    (hbind : ∀ v, bindArgs (PySem.W.kla_fn "<lambda>" q params (keyBody far x p1 p2 p3 p4 p5 p6) scope clos pm (.ref c') ctv) ⟨[v], []⟩ = pure [(x, v)])
    (hcl : clos.lookup far = some cc) (hcc : s.heap.IsCell cc (some (.ref d))) (hd : s.heap.DictOf (mixKind prog w) d kvs) (hv : valueAt kvs (.inr z) = some (.int n m))
    (n1 : (x == ("__debug__" : Str)) = false := by decide) (n2 : (far == ("__debug__" : Str)) = false := by decide) (n3 : (far == ("__classdict__" : Str)) = false := by decide) :
    wpAny (model prog w) A (call (.ref f) [.str z t]) (PySem.W.KeyPure (.tuple [.int (-n), .str z]) s) (fun _ _ => False) s := by
  refine wpAny_call ?_
  refine PySem.W.kla_callFunE hroom ho rfl hco hgen rfl hcd ?_
  rw [hbind]
  refine wpAny_pure (wpAny_newFunctionEnv hcell (fun y hy => by rw [List.mem_singleton.mp hy]; exact hx) (fun h₁ hns hsb => ⟨lim.fresh _ hsb, ?_⟩) hk)
  have kp : ∀ b o, s.heap.get? b = some o → h₁.get? b = some o := fun b o e => hsb.extBut b o (Nat.ne_of_lt (Heap.lt_size e)) (Heap.get?_push_of_some _ e)
  show codeAny _ _ (.expr (keyBody far x p1 p2 p3 p4 p5 p6) (PySem.W.envX q scope s.heap.objs.size f (.ref c') clos)) _ _
  refine PySem.W.kla_codeExpr (wpAny_mono (?_ : wpAny _ _ _ (fun v s' => PySem.W.KeyPure (.tuple [.int (-n), .str z]) s v s') (fun _ _ => False) _) (fun v s' h => h) fun _ _ h => h.elim)
  have hm : (fun y => ([(x, Value.str z t)] : List (Str × Value)).reverse.lookup y) x = some (.str z t) := by simp
  obtain ⟨oc, hoc, hdc⟩ := hcc
  obtain ⟨od, es, ep, hod, hr⟩ := hd
  unfold keyBody
  refine wpAny_Tuple_spliced ?_
  show wpAny _ _ (spliced ((false, eval (.UnaryOp .USub (.Subscript (.Name far p1) (.Name x p2) p3) p4) _) :: [(false, _)])) _ _ _
  refine Calls.spliced_cons (UnaryOp_ (Subscript_ (wpAny_Name (wpAny_loadName_free hk hf hcl ⟨oc, kp _ _ hoc, hdc⟩ ?_ n3) n2)))
  have hx' : (PySem.W.envX q scope s.heap.objs.size f (.ref c') clos).kindOf x = some .local := hx
  refine wpAny_Name (wpAny_loadName_local hk hx' hns hm ?_) n1
  have dd : h₁.DictOf (mixKind prog w) d kvs := ⟨od, es, ep, kp _ _ hod, hr⟩
  refine PyProof.Rows.tail_any (s := { s with heap := h₁, toks := _ }) dd.typeIs PySem.F.slot_dict_getitem.lookup (wpAny_getItem_of (kV_is (k := (.inr z)) ⟨t, rfl⟩) dd.mapOf hv ?_) rfl
  refine neg_int ?_
  refine Calls.spliced_cons ?_
  show wpAny _ _ (eval (.Name x p5) _) _ _ _
  refine wpAny_Name (wpAny_loadName_local hk hx' hns hm ?_) n1
  refine Calls.spliced_nil ⟨by rw [sizeLine_eq]; simp, ?_⟩
  refine ⟨_, _, rfl, fun b o e => Heap.get?_push_of_some _ (kp b o e), ?_⟩
  refine Reads.tuple (as := []) (Heap.get?_push_size _ rfl) rfl rfl ?_
  exact ReadsAll.cons (as := []) (.int _ _) (ReadsAll.cons (as := []) (.str _ _) .nil)
end
/-- by falling g, equal ones ascending -/
def sortKey (g : Str → Int) (xs : List Str) : List Str := xs.mergeSort fun a b => !DatumOrd.lt ((-(g b), b) : Int × Str) (-(g a), a)
theorem dataLe_key (g : Str → Int) : PySem.W.dataLe (β := Str) false (fun x => PyData.tuple [.int (-(g x)), .str x]) = fun a b => !DatumOrd.lt ((-(g b), b) : Int × Str) (-(g a), a) := by
  funext a b
  have := congrFun (congrFun (dataLe_lt (α := Int × Str)) (-(g a), a)) (-(g b), b)
  exact this
theorem each_strs : ∀ {us : List Value} {xs : List Str}, Vals (xs.map V.str) us → PySem.W.EachIs (fun u x => ∃ t, u = Value.str x t) us xs
  | _, [], .nil => .nil
  | _, x :: xs, .cons r t => .cons r (each_strs t)
theorem strs_each : ∀ {us : List Value} {xs : List Str}, PySem.W.EachIs (fun u x => ∃ t, u = Value.str x t) us xs → Vals (xs.map V.str) us
  | _, _, .nil => .nil
  | _, _, .cons r t => .cons r (strs_each t)
def tSortLam (K : PySem.W.Frag) (q : Str) (P : Addr) (ti : TE) (i : Nat) : TE := fun σ H Q => ti σ H fun v H1 => ∃ (B : Hp) (l d : Addr) (xs : List Str) (g : Str → Int) (kvs : List (Key × V)), v = .ref l ∧ SqL K H1 l (xs.map V.str) ∧ xs.length ≤ 1000000 ∧ σ[i]? = some (some (.ref d)) ∧
  Rd H1 d (.dK kvs) ∧ (∀ x ∈ xs, valV kvs (.inr x) = some (.int (g x))) ∧ Ex B H1 ∧ LtAt q B H1 P ∧ ∀ B2 H2 p, Ub P B H1 B2 H2 → LtAt q B2 H2 P → H2 p = none → Q (.ref p) (upd H2 p (.lst ((sortKey g xs).map V.str)))
section
variable {X : Cx}
theorem pe_sortLam {j : Nat} {e : Expr} {ti : TE} {i : Nat} {c P : Addr} {far x : Str} {p1 p2 p3 p4 p5 p6 p lpos kpos pos : Pos} {params : Arguments} {scope : Scope} (hr : Room j X.A) (hi : PE X e ti) (hg : Gl X "sorted") (hm : X.mg "sorted" = none) (TB : TabB X.base X.mg c P) (hcode : X.env.code = .ref c)
    (hN : X.N[i]? = some far) (hcell : X.env.scope.names.lookup far = some .cell) (hdef : defaultsOf params X.env = ([], []))
    (hk : scope.kind = .function) (hco : scope.isCoroutine = false) (hgen : scope.isGenerator = false) (hnc : ∀ y ∈ scope.names, y.2 ≠ .cell) (hx : scope.names.lookup x = some .local) (hf : scope.names.lookup far = some .free) (hfr : ∀ y ∈ scope.names, y.2 = .free → y.1 = far)
    (hbind : ∀ (q : Str) (cl : List (Str × Addr)) (pm cv ctv v : Value), bindArgs (PySem.W.kla_fn "<lambda>" q params (keyBody far x p1 p2 p3 p4 p5 p6) scope cl pm cv ctv) ⟨[v], []⟩ = pure [(x, v)])
    (n1 : (x == ("__debug__" : Str)) = false := by decide) (n2 : (far == ("__debug__" : Str)) = false := by decide) (n3 : (far == ("__classdict__" : Str)) = false := by decide) (n4 : (("sorted" : Str) == ("__debug__" : Str)) = false := by decide) (n5 : ("sorted" : Str) ≠ "__name__" := by decide) 
    (he : backTo pos (starEach [e] X.env) = (false, eval e X.env) :: backTo pos (starEach [] X.env) := by rfl) (hpl : (backTo pos (starEach [e] X.env)).any (·.1) = false := by rfl) :
    PE X (.Call (.Name "sorted" p) [e] [⟨some "key", .Lambda params (keyBody far x p1 p2 p3 p4 p5 p6) scope lpos, kpos⟩] pos) (tSortLam X.K (X.env.qual ++ "<lambda>") P ti i) := by
  refine ⟨fun pins s σ H Q I h => ?_⟩
  refine wpAny_Call_Name_kw (ld_blt I hg hm (u := .builtin "sorted") (by decide +kernel) ?_ n5 n4)
  refine PyProof.Rows.callWith_kw ?_ he hpl
  rw [he]
  refine Calls.spliced_cons (thn (hi.run pins s σ H _ I h) fun v s1 ⟨y, H1, I1, r1, B, l, d, xs, g, kvs, ey, hl, hz, hd, hrd, hval, eB, hT, q⟩ => ?_)
  refine Calls.spliced_nil ?_
  subst ey
  obtain rfl : v = Value.ref l := r1
  show wpAny _ _ (evalAll [do let v ← eval (.Lambda params (keyBody far x p1 p2 p3 p4 p5 p6) scope lpos) X.env; standAt pos; pure v]) _ _ s1
  have hfc : ∀ y ∈ scope.names, y.2 = .free → ∃ c, X.env.cells.lookup y.1 = some c := fun y hy e => by
    rw [hfr y hy e]
    exact I1.ok.has far (.inl hcell)
  refine wpAny_evalAll_cons (wpAny_bind (lam_make3 I1 TB hcode eB hT hdef hfc fun f c' pm ctv B2 H2 s2 I2 ub T2 ho hc' => wpAny_bind (wpAny_standAt (wpAny_pure (wpAny_evalAll_nil ?_)))))
  show wpAny _ _ (call (.builtin "sorted") [.ref l] [(Str.ofString "key", .ref f)]) _ _ s2
  have hPl : P ≠ l ∨ True := .inr trivial
  -- what was read before stands as it was
  have neP : ∀ {a : Addr} {u : HO}, plainO u = true → Rd H1 a u → a ≠ P := fun {a u} hp h z => by
    obtain ⟨ps, hP, _⟩ := hT.tb
    rw [z] at h
    rcases h with h | ⟨o, h⟩
    · rw [hP] at h; cases h; cases hp
    · rw [hP] at h; cases h
  have rd2 : ∀ {a : Addr} {u : HO}, plainO u = true → Rd H1 a u → Rd H2 a u := fun {a u} hp h => by
    have ne := neP hp h
    rcases h with h | ⟨o, h⟩
    · exact .inl (ub.hh _ _ ne h)
    · exact .inr ⟨o, ub.hh _ _ ne h⟩
  have hl2 : SqL X.K H2 l (xs.map V.str) := hl.imp (rd2 rfl) id
  have hrd2 : Rd H2 d (.dK kvs) := rd2 rfl hrd
  obtain ⟨its, rv, pl, _⟩ := I2.list hl2
  obtain ⟨_, hsy, kvv, rel, dd⟩ := dk_rd I2.hok hrd2
  have hun : ∀ b ∈ xs, X.A.units + 2 + (PyData.tuple [.int (-(g b)), .str b]).depth < cLine := fun b _ => by
    have hd : (PyData.tuple [.int (-(g b)), .str b]).depth = 1 := by simp [PyData.depth, PyData.depthAll]
    have := hr.un
    omega
  -- the cell of far
  obtain ⟨cc, hcc⟩ := I2.ok.has far (.inl hcell)
  have hcl : (cloFrom X.env.cells scope.names []).lookup far = some cc := by
    obtain ⟨c3, h3⟩ := mem_lookup (cloFrom_has (cells := X.env.cells) (acc := []) (PySem.mem_of_lookup hf))
    rcases cloFrom_mem (PySem.mem_of_lookup h3) with hm | ⟨_, h2⟩
    · cases hm
    · have e2 : c3 = cc := by
        rw [h2, hcc] <;> rfl
      rw [h3, e2]
  obtain ⟨m, hn, hloc⟩ := I2.loc
  obtain ⟨w', rw', lk⟩ := hloc i far _ hN hd (.inr (.inl hcell))
  obtain rfl : w' = Value.ref d := rw'
  have hcellv : s2.heap.IsCell cc (some (.ref d)) := by
    rcases lk with ⟨hk', _⟩ | ⟨_, c4, e4, hv4⟩
    · have hk' : X.env.scope.names.lookup far = some .local := hk'
      rw [hcell] at hk'
      cases hk'
    · rw [hcc] at e4
      cases e4
      exact hv4
  obtain ⟨⟨oc, vs, tq, hoc, hdc, hvc⟩, _, _⟩ := I2.hok c' _ (ub.bh _ _ hc' : H2 c' = _)
  have lim : s2.heap.NoLimit := I2.nolimit
  refine PySem.W.sorted_key_data (b := false) (bs := xs) (fun b : Str => .tuple [.int (-(g b)), .str b]) pl.isList (each_strs rv) (PySem.W.AllAlike.of fun _ _ => by simp [PySem.W.alike, PySem.W.alikeAll]) (PySem.W.Sortable.tuples fun _ => ⟨_, _, rfl⟩) (Nat.le_trans hz (by rw [sizeLine_eq]; decide)) hun (PyProof.Rows.ksk_s1 _ _) (fun _ => PyProof.Rows.ksk_l1 _ _) (fun _ => PyProof.Rows.ksk_t1 _ _)
    (fun v b ⟨t, ev⟩ hb h' tk kp => ?_) fun out cn h' tk kp hfresh hnew hlen eo => ?_
  · subst ev
    obtain ⟨nv, hnv, rn⟩ := RelO.some_of (v := .int (g b)) (o := valueAt kvv (.inr b)) (by rw [← hval b hb]; exact rel.val (.inr b))
    obtain ⟨mt, rfl⟩ := rn
    obtain ⟨oce, hoce, hdce⟩ := hcellv
    obtain ⟨od, es, ep, hod, hrr⟩ := dd
    refine key_call (s := { s2 with heap := h', toks := tk }) (c' := c') (cc := cc) (d := d) ?_ (kp _ _ ho) ⟨c', oc, vs, tq, rfl, kp _ _ hoc, hdc, hvc⟩ (lim.keeps kp) hk hco hgen hnc hx hf (fun v => hbind _ _ _ _ _ v) hcl ⟨oce, kp _ _ hoce, hdce⟩ ⟨od, es, ep, kp _ _ hod, hrr⟩ hnv n1 n2 n3
    have := hr.dp
    show X.A.depth < recursionLimit
    omega
  · rw [dataLe_key] at eo
    have hf2 : H2 (s2.heap.objs.size + 1) = none := I2.hok.fresh (Nat.le_succ _)
    refine ⟨.ref (s2.heap.objs.size + 1), _, I2.laid (t' := tk) (h' := h') kp (Nat.le_succ _) ?_, rfl, q B2 H2 _ ub T2 hf2⟩
    have hv := strs_each eo
    refine ⟨?_, out, cn, hv, hnew⟩
    rw [List.length_map]
    unfold sortKey
    rw [List.length_mergeSort]
    exact Nat.le_trans hz (by rw [sizeLine_eq]; decide)
end
end Ob

set_option Elab.async false
set_option linter.all false
set_option maxRecDepth 100000
set_option maxHeartbeats 8000000
/-! Dc2: {k: v for .. in .. if .. for .. in .. if ..}: a dict comprehension with two fors. Modelled on the layer's rules for one for, and for lists. -/
namespace Ob
open PySem PySem.Spec PyProof.Rows L2
open Evl (Ex)
open PySem.W (Datum Tup DatumOrd)
theorem dturn_out (kx vx ta ia tb ib : Expr) (fa fb : List Expr) (scope : Scope) (pos : Pos) (it acc : Value) (env : Env) :
    compTurn (.DictComp kx vx [⟨ta, ia, fa, 0⟩, ⟨tb, ib, fb, 0⟩] scope pos) 0 it acc env = (do
      standAt ia.pos
      match (← pyNext it) with
      | none => pure (.done .next)
      | some u =>
        letOwnedTupleGo ta it u
        assign ta env u
        let mut go := true
        for c in fa do
          if go then go ← isTrue c env (eval c env)
        if go then
          let y ← eval ib env
          standAt ib.pos
          let y ← foldedSetIterable ib env y
          let _ ← runOwn (.compStart (.DictComp kx vx [⟨ta, ia, fa, 0⟩, ⟨tb, ib, fb, 0⟩] scope pos) 1 (← holding [y] (pyIter y)) acc env) env
        again (.compLoop (.DictComp kx vx [⟨ta, ia, fa, 0⟩, ⟨tb, ib, fb, 0⟩] scope pos) 0 it acc env)) := by rfl
theorem dturn_in (kx vx ta ia tb ib : Expr) (fa fb : List Expr) (scope : Scope) (pos : Pos) (it : Value) (D : Addr) (env : Env) :
    compTurn (.DictComp kx vx [⟨ta, ia, fa, 0⟩, ⟨tb, ib, fb, 0⟩] scope pos) 1 it (.ref D) env = (do
      standAt ib.pos
      match (← pyNext it) with
      | none => pure (.done .next)
      | some u =>
        letOwnedTupleGo tb it u
        assign tb env u
        let mut go := true
        for c in fb do
          if go then go ← isTrue c env (eval c env)
        if go then
          (do
            let a ← eval kx env
            let b ← holding [a] (eval vx env)
            standAt { kx.pos with endLine := vx.pos.endLine, endCol := vx.pos.endCol }
            holding [a, b] (dictSet D a b))
        again (.compLoop (.DictComp kx vx [⟨ta, ia, fa, 0⟩, ⟨tb, ib, fb, 0⟩] scope pos) 1 it (.ref D) env)) := by rfl
section
variable {prog : Program} {w : World} {A : Around} {R : Result → Shared → Prop} {s : Shared} {kx vx ta ia tb ib : Expr} {fa fb : List Expr} {scope : Scope} {pos : Pos} {it acc : Value} {D : Addr} {env : Env}
theorem dloop_out (hs : ∀ x, foldedSetIterable ib env x = pure x) (J : Nat → Shared → Prop)
    (turn : ∀ n s, J n s → wpAny (model prog w) A (pyNext it) (fun r s1 => match r with
      | none => R (.ok .next) s1
      | some u => wpAny (model prog w) A (letOwnedTupleGo ta it u) (fun _ s2 => wpAny (model prog w) A (assign ta env u) (fun _ s3 =>
          wpAny (model prog w) A (forIn fa true fun c r => if r = true then do let ok ← isTrue c env (eval c env); pure (ForInStep.yield ok) else pure (ForInStep.yield r)) (fun ok s4 =>
            if ok = true then wpAny (model prog w) A (eval ib env) (fun x s5 => wpAny (model prog w) A (pyIter x) (fun jt s6 =>
              codeAny (model prog w) A (.compStart (.DictComp kx vx [⟨ta, ia, fa, 0⟩, ⟨tb, ib, fb, 0⟩] scope pos) 1 jt acc env) (fun r t => match r with
                | .ok _ => ∃ m, m < n ∧ J m t
                | .error _ => False) s6) (notedBy (model prog w) A env fun e t => R (.error e) t) s5) (notedBy (model prog w) A env fun e t => R (.error e) t) s4
            else ∃ m, m < n ∧ J m s4) (notedBy (model prog w) A env fun e t => R (.error e) t) s3) (notedBy (model prog w) A env fun e t => R (.error e) t) s2) (notedBy (model prog w) A env fun e t => R (.error e) t) s1) (notedBy (model prog w) A env fun e t => R (.error e) t) s)
    (n : Nat) (h : J n s) : codeAny (model prog w) A (.compLoop (.DictComp kx vx [⟨ta, ia, fa, 0⟩, ⟨tb, ib, fb, 0⟩] scope pos) 0 it acc env) R s := by
  refine codeAny_loop rfl J (fun n s hJ => ?_) n h
  show wpAny _ A ((compTurn (.DictComp kx vx [⟨ta, ia, fa, 0⟩, ⟨tb, ib, fb, 0⟩] scope pos) 0 it acc env).onRaise (fun x => do noteFrame x env; theTreesLotGoes x)) _ _ s
  refine wpAny_noted ?_
  rw [dturn_out]
  refine wpAny_bind (wpAny_standAt (wpAny_bind (wpAny_mono (turn n s hJ) (fun r s1 h1 => ?_) fun _ _ z => z)))
  cases r with
  | none => exact wpAny_pure h1
  | some u =>
    refine wpAny_bind (wpAny_mono h1 (fun _ s2 h2 => ?_) fun _ _ z => z)
    refine wpAny_bind (wpAny_mono h2 (fun _ s3 h3 => wpAny_bind (wpAny_mono h3 (fun ok s4 h4 => ?_) fun _ _ z => z)) fun _ _ z => z)
    cases ok with
    | false => exact wpAny_pure ⟨rfl, h4⟩
    | true =>
      refine wpAny_bind (wpAny_mono h4 (fun x s5 h5 => ?_) fun _ _ z => z)
      refine wpAny_bind (wpAny_standAt (wpAny_bind (wpAny_of_eq (hs x) (wpAny_bind (wpAny_holding (wpAny_mono h5 (fun jt s6 h6 => ?_) fun _ _ z => z))))))
      refine wpAny_bind (wpAny_runOwn ?_)
      rw [Around.mark_none]
      refine codeAny_mono h6 fun r t hr => ?_
      cases r with
      | error e => exact hr.elim
      | ok f =>
        first
          | exact wpAny_pure ⟨rfl, hr⟩
          | exact wpAny_bind (wpAny_pure (wpAny_pure ⟨rfl, hr⟩))
theorem dloop_in (J : Nat → Shared → Prop)
    (turn : ∀ n s, J n s → wpAny (model prog w) A (pyNext it) (fun r s1 => match r with
      | none => R (.ok .next) s1
      | some u => wpAny (model prog w) A (letOwnedTupleGo tb it u) (fun _ s2 => wpAny (model prog w) A (assign tb env u) (fun _ s3 =>
          wpAny (model prog w) A (forIn fb true fun c r => if r = true then do let ok ← isTrue c env (eval c env); pure (ForInStep.yield ok) else pure (ForInStep.yield r)) (fun ok s4 =>
            if ok = true then wpAny (model prog w) A (eval kx env) (fun a s5 => wpAny (model prog w) A (eval vx env) (fun b s6 =>
              wpAny (model prog w) A (dictSet D a b) (fun _ s7 => ∃ m, m < n ∧ J m s7) (notedBy (model prog w) A env fun e t => R (.error e) t) s6) (notedBy (model prog w) A env fun e t => R (.error e) t) s5) (notedBy (model prog w) A env fun e t => R (.error e) t) s4
            else ∃ m, m < n ∧ J m s4) (notedBy (model prog w) A env fun e t => R (.error e) t) s3) (notedBy (model prog w) A env fun e t => R (.error e) t) s2) (notedBy (model prog w) A env fun e t => R (.error e) t) s1) (notedBy (model prog w) A env fun e t => R (.error e) t) s)
    (n : Nat) (h : J n s) : codeAny (model prog w) A (.compLoop (.DictComp kx vx [⟨ta, ia, fa, 0⟩, ⟨tb, ib, fb, 0⟩] scope pos) 1 it (.ref D) env) R s := by
  refine codeAny_loop rfl J (fun n s hJ => ?_) n h
  show wpAny _ A ((compTurn (.DictComp kx vx [⟨ta, ia, fa, 0⟩, ⟨tb, ib, fb, 0⟩] scope pos) 1 it (.ref D) env).onRaise (fun x => do noteFrame x env; theTreesLotGoes x)) _ _ s
  refine wpAny_noted ?_
  rw [dturn_in]
  refine wpAny_bind (wpAny_standAt (wpAny_bind (wpAny_mono (turn n s hJ) (fun r s1 h1 => ?_) fun _ _ z => z)))
  cases r with
  | none => exact wpAny_pure h1
  | some u =>
    refine wpAny_bind (wpAny_mono h1 (fun _ s2 h2 => ?_) fun _ _ z => z)
    refine wpAny_bind (wpAny_mono h2 (fun _ s3 h3 => wpAny_bind (wpAny_mono h3 (fun ok s4 h4 => ?_) fun _ _ z => z)) fun _ _ z => z)
    cases ok with
    | false => exact wpAny_pure ⟨rfl, h4⟩
    | true =>
      exact wpAny_bind (wpAny_bind (wpAny_mono h4 (fun a s5 h5 => wpAny_bind (wpAny_holding (wpAny_mono h5 (fun b s6 h6 => wpAny_bind (wpAny_standAt (wpAny_holding (wpAny_mono h6 (fun _ s7 h7 => wpAny_pure ⟨rfl, h7⟩) fun _ _ z => z)))) fun _ _ z => z))) fun _ _ z => z))
theorem dstart1 (h0 : codeAny (model prog w) A (.compLoop (.DictComp kx vx [⟨ta, ia, fa, 0⟩, ⟨tb, ib, fb, 0⟩] scope pos) 1 it acc env) R s)
    (h : wpAny (model prog w) A (pyIter it) (fun jt t => codeAny (model prog w) A (.compLoop (.DictComp kx vx [⟨ta, ia, fa, 0⟩, ⟨tb, ib, fb, 0⟩] scope pos) 1 jt acc env) R t) (notedBy (model prog w) A env fun x t => R (.error x) t) s) :
    codeAny (model prog w) A (.compStart (.DictComp kx vx [⟨ta, ia, fa, 0⟩, ⟨tb, ib, fb, 0⟩] scope pos) 1 it acc env) R s := by
  refine codeAny_of_tree ?_
  show wpAny _ _ ((compStart (.DictComp kx vx [⟨ta, ia, fa, 0⟩, ⟨tb, ib, fb, 0⟩] scope pos) 1 it acc env).onRaise (fun x => do noteFrame x env; standAt theWindowsPlace)) _ _ s
  refine wpAny_notedAt ?_
  unfold compStart
  show wpAny _ _ (ask >>= _) _ _ s
  refine wpAny_bind (wpAny_askSetting (wpAny_ite ?_))
  split
  · first
      | exact wpAny_pure (And.intro rfl h0)
      | exact wpAny_bind (wpAny_pure (wpAny_pure (And.intro rfl h0)))
  · first
      | exact wpAny_bind (wpAny_rule (wpAny_bind (wpAny_standAt (wpAny_bind (wpAny_mono h (fun jt t q => wpAny_pure (And.intro rfl q)) fun _ _ z => z)))))
      | (refine wpAny_bind (wpAny_rule ?_); show wpAny _ _ (standAt ib.pos >>= _) _ _ s; exact wpAny_bind (wpAny_standAt (wpAny_bind (wpAny_mono h (fun jt t q => wpAny_pure (And.intro rfl q)) fun _ _ z => z))))
end
section
variable {X : Cx}
/-- the reading: behind the first target's store and tests the second source's own loop, from which Nx is reached; D the new dict -/
def tDc2 (wi : TI) (g : TG) (tt : TT) (wi1 : TI) (g1 : TG) (tt1 : TT) (tk tv : TE) (vs vs1 : List Nat) : TE := fun σ H Q => wi σ H fun J H1 => ∀ D, H1 D = none → ∃ W : Nat → Nat → Hp → Prop, (∃ m, W 0 m (upd H1 D (.dK []))) ∧ ∀ i m H, W i m H →
  (J.stop i H ∧ Q (.ref D) H) ∨ (J.go i H ∧ ∃ Nx : Hp → Prop, (∀ H', Nx H' → ∃ m', m' < m ∧ W (i + 1) m' H') ∧ ∀ x H', J.yld i H x H' → g x (wipe σ vs) H' fun σ2 H2 => wipe σ2 vs = wipe σ vs ∧ tt σ2 H2 fun b H3 =>
    if b = true then wi1 σ2 H3 fun J1 H4 => ∃ W1 : Nat → Nat → Hp → Prop, (∃ m, W1 0 m H4) ∧ ∀ j k H, W1 j k H →
      (J1.stop j H ∧ Nx H) ∨ (J1.go j H ∧ ∃ Nx1 : Hp → Prop, (∀ H', Nx1 H' → ∃ k', k' < k ∧ W1 (j + 1) k' H') ∧ ∀ x H', J1.yld j H x H' → g1 x (wipe σ2 vs1) H' fun σ3 H5 => wipe σ3 vs1 = wipe σ2 vs1 ∧ tt1 σ3 H5 fun b H6 =>
        if b = true then tk σ3 H6 fun y H7 => tv σ3 H7 fun z H8 => ∃ kvs k, y = kV k ∧ H8 D = some (.dK kvs) ∧ kvs.length < sizeLine ∧ Nx1 (upd H8 D (.dK (putK kvs k z))) else Nx1 H6)
    else Nx H3)
theorem dc2_core {pins : List (Addr × Obj)} {s : Shared} {σ : L2.St} {H : Hp} {Q : VK} {kx vx ta ia tb ib : Expr} {fa fb : List Expr} {scope : Scope} {own : List (Str × Nat)} {vs1 : List Nat} {pos pos' : Pos} {wi wi1 : TI} {g g1 : TG} {tt tt1 : TT} {tk tv : TE} {use : Option (Value → Sem Unit)} {Qf : Value → Shared → Prop}
    (hc : X.calm = true) (hN : X.N.Nodup) (I : Inv X pins σ H s) (hi : PI X ta ia wi) (ok : BlkOk X.N X.env.scope scope own) (hv : ∀ i ∈ vs1, i ∈ own.map (·.2))
    (hg : ∀ (s : Shared) (H : Hp) (C : Addr) (cl : List (Str × Addr)) (fp : List Addr), PG (X.blk s H scope (compEnvC scope cl C X.env) fp) ta g) (ht : ∀ (s : Shared) (H : Hp) (C : Addr) (cl : List (Str × Addr)) (fp : List Addr), PTs (X.blk s H scope (compEnvC scope cl C X.env) fp) fa tt)
    (hk : ∀ (s : Shared) (H : Hp) (C : Addr) (cl : List (Str × Addr)) (fp : List Addr), PE (X.blk s H scope (compEnvC scope cl C X.env) fp) kx tk) (he : ∀ (s : Shared) (H : Hp) (C : Addr) (cl : List (Str × Addr)) (fp : List Addr), PE (X.blk s H scope (compEnvC scope cl C X.env) fp) vx tv) (hs : ∀ x, foldedSetIterable ia X.env x = pure x)
    (hi1 : ∀ (s : Shared) (H : Hp) (C : Addr) (cl : List (Str × Addr)) (fp : List Addr), PI (X.blk s H scope (compEnvC scope cl C X.env) fp) tb ib wi1)
    (hg1 : ∀ (s : Shared) (H : Hp) (C : Addr) (cl : List (Str × Addr)) (fp : List Addr), PG (X.blk s H scope (compEnvC scope cl C X.env) fp) tb g1)
    (ht1 : ∀ (s : Shared) (H : Hp) (C : Addr) (cl : List (Str × Addr)) (fp : List Addr), PTs (X.blk s H scope (compEnvC scope cl C X.env) fp) fb tt1)
    (hs1 : ∀ env x, foldedSetIterable ib env x = pure x)
    (h : tDc2 wi g tt wi1 g1 tt1 tk tv (own.map (·.2)) vs1 σ H Q)
    (hRR : ∀ D C s' m H', Inv X pins σ H' s' → Q (.ref D) H' → s'.heap.Ns C m → FpOk X pins H' C → compPost (model X.prog X.w) X.A X.xe use Qf (.ref D) C (.ok .next) s') :
    wpAny (model X.prog X.w) X.A (comprehension (.DictComp kx vx [⟨ta, ia, fa, 0⟩, ⟨tb, ib, fb, 0⟩] scope pos) scope X.env pos' newDict false (eval ia X.env) use) Qf X.xe s := by
  have hfree : ∀ y ∈ scope.names, y.2 = .free → ∃ c, X.env.cells.lookup y.1 = some c := fun y hy e => by
    rcases ok.free y hy e with k | k
    · exact I.ok.has _ (.inl k)
    · exact I.ok.has _ (.inr k)
  refine wpAny_comprehension_free (use := use) rfl hs (closure_ok hfree) ok.kind (fun y hy e => by rw [ok.uniq y hy, e])
    (thn (hi.run pins s σ H _ I h) fun xv s1 hx => thn hx fun itv s2 h2 => ?_)
  obtain ⟨it, fp, tn, J, H2, e, I2, T, st2, f2, q⟩ := h2
  subst e
  refine wpAny_newObj_type (newEnv_comp ?_)
  generalize hD : s2.heap.objs.size = D
  have hDn : H2 D = none := I2.hok.fresh (Nat.le_of_eq hD)
  obtain ⟨W, ⟨m0, w0⟩, turn⟩ := q D hDn
  -- the new list
  generalize hs3 : ({ s2 with heap := s2.heap.push { cls := .type "dict", data := .dict #[] } } : Shared) = s3
  have I3 : Inv X pins σ (upd H2 D (.dK [])) s3 := by
    rw [← hs3]
    refine I2.laid (t' := s2.toks) (fun b o e => Heap.get?_push_of_some _ e) (Nat.le_of_eq hD) ?_
    rw [← hD]
    exact dk_empty s2.heap I2.big
  have h3 : s3.heap = s2.heap.push { cls := .type "dict", data := .dict #[] } := by rw [← hs3]
  have sz : ∀ b ∈ fp, b < s2.heap.objs.size := fun b hb => by
    obtain ⟨o, e, _⟩ := T.obj _ _ st2 b hb
    exact Heap.lt_size e
  have f3 : ∀ b ∈ fp, FpOk X pins (upd H2 D (.dK [])) b ∧ b < s3.heap.objs.size := fun b hb => by
    have hlt := sz b hb
    refine ⟨⟨?_, (f2 b hb).2⟩, by rw [h3, Heap.size_push]; exact Nat.lt_succ_of_lt hlt⟩
    rw [upd_ne (by rw [← hD]; exact Nat.ne_of_lt hlt)]
    exact (f2 b hb).1
  have st3 : tn 0 s3.heap := T.keep _ _ _ st2 fun b _ o e => by rw [h3]; exact Heap.get?_push_of_some _ e
  have I4 := block_start I3 ok hN f3
  have pg := hg s3 (upd H2 D (.dK [])) s3.heap.objs.size (cellsFrom (s3.heap.objs.size + 1) scope.names (cloFrom X.env.cells scope.names [])) fp
  have pt := ht s3 (upd H2 D (.dK [])) s3.heap.objs.size (cellsFrom (s3.heap.objs.size + 1) scope.names (cloFrom X.env.cells scope.names [])) fp
  have pk := hk s3 (upd H2 D (.dK [])) s3.heap.objs.size (cellsFrom (s3.heap.objs.size + 1) scope.names (cloFrom X.env.cells scope.names [])) fp
  have pe := he s3 (upd H2 D (.dK [])) s3.heap.objs.size (cellsFrom (s3.heap.objs.size + 1) scope.names (cloFrom X.env.cells scope.names [])) fp
  have pi1 := hi1 s3 (upd H2 D (.dK [])) s3.heap.objs.size (cellsFrom (s3.heap.objs.size + 1) scope.names (cloFrom X.env.cells scope.names [])) fp
  have pg1 := hg1 s3 (upd H2 D (.dK [])) s3.heap.objs.size (cellsFrom (s3.heap.objs.size + 1) scope.names (cloFrom X.env.cells scope.names [])) fp
  have pt1 := ht1 s3 (upd H2 D (.dK [])) s3.heap.objs.size (cellsFrom (s3.heap.objs.size + 1) scope.names (cloFrom X.env.cells scope.names [])) fp
  show codeAny _ _ (.compStart (.DictComp kx vx [⟨ta, ia, fa, 0⟩, ⟨tb, ib, fb, 0⟩] scope pos) 0 (.ref it) (.ref D) (compEnvC scope (cellsFrom (s3.heap.objs.size + 1) scope.names (cloFrom X.env.cells scope.names [])) s3.heap.objs.size X.env)) (compPost (model X.prog X.w) X.A X.xe use Qf (.ref D) s3.heap.objs.size) { s3 with heap := pushCells (s3.heap.push { cls := .type "dict", data := .dict #[] }) scope.names }
  have nfp : ∀ b ∈ fp, (upd H2 D (.dK [])) b = none := fun b hb => (f3 b hb).1.1
  generalize hce : compEnvC scope (cellsFrom (s3.heap.objs.size + 1) scope.names (cloFrom X.env.cells scope.names [])) s3.heap.objs.size X.env = ce at I4 pg pt pk pe pi1 pg1 pt1 ⊢
  have cL : ce.locals = s3.heap.objs.size := by subst hce; rfl
  generalize hH3 : upd H2 D (.dK []) = H3 at I3 I4 pg pt pk pe pi1 pg1 pt1 w0 nfp f3
  generalize hs4 : ({ s3 with heap := pushCells (s3.heap.push { cls := .type "dict", data := .dict #[] }) scope.names } : Shared) = s4 at I4 ⊢
  have st4 : tn 0 s4.heap := T.keep _ _ _ st3 fun b _ o e => by rw [← hs4]; exact pushCells_keeps _ _ _ _ (Heap.get?_push_of_some _ e)
  have stand : ∀ {σ' : L2.St} {H' : Hp} {s' : Shared}, Inv (X.blk s3 H3 scope ce fp) [] σ' H' s' → (∀ b ∈ fp, H' b = none) → ∀ b ∈ fp, FpOk (X.blk s3 H3 scope ce fp) [] H' b := fun {σ' H' s'} I' hn b hb =>
    ⟨hn b hb, (I'.ok.exf b hb).1, I'.ok.exfs b hb, .inl hb, fun x c e => (I'.ok.exf b hb).2 x c e, fun p hp => absurd (show p ∈ ([] : List (Addr × Obj)) ++ [] from hp) (by simp)⟩
  have loop : codeAny (model X.prog X.w) X.A (.compLoop (.DictComp kx vx [⟨ta, ia, fa, 0⟩, ⟨tb, ib, fb, 0⟩] scope pos) 0 (.ref it) (.ref D) ce) (compPost (model X.prog X.w) X.A X.xe use Qf (.ref D) s3.heap.objs.size) s4 := by
    refine dloop_out (hs1 ce) (fun n s' => ∃ i H', Inv (X.blk s3 H3 scope ce fp) [] (wipe σ (own.map (·.2))) H' s' ∧ tn i s'.heap ∧ (∀ b ∈ fp, H' b = none) ∧ W i n H') ?_ m0 ⟨0, H3, I4, st4, nfp, w0⟩
    rintro n s5 ⟨i, H5, I5, st5, n5, w5⟩
    rcases turn i n H5 w5 with ⟨stop, qq⟩ | ⟨go, Nx, hNx, step⟩
    · have td := T.done (X.blk s3 H3 scope ce fp) rfl rfl rfl hc i [] s5 _ H5 (fun _ _ => False) I5 (stand I5 n5) st5 stop
      refine thnF td fun r s6 ⟨hr, I6⟩ => ?_
      subst hr
      -- back in the def's context
      have I7 : Inv X pins σ H5 s6 := I3.call' (ch := fp) I6.os I6.base I6.hok I6.bare fun b hb => ⟨(f3 b hb).1.2.2.2.1, (f3 b hb).1.2.1, (f3 b hb).1.2.2.2.2.1, (f3 b hb).1.2.2.2.2.2⟩
      have nC : H5 s3.heap.objs.size = none := by
        have z : H5 ce.locals = none := I6.free
        rw [cL] at z
        exact z
      obtain ⟨m, hn, _⟩ := I6.loc
      have hn : s6.heap.Ns ce.locals m := hn
      rw [cL] at hn
      exact hRR D s3.heap.objs.size s6 m H5 I7 qq hn (I3.fpOk (Nat.le_refl _) nC)
    · have ti := T.item (X.blk s3 H3 scope ce fp) rfl rfl rfl hc i [] s5 _ H5 (fun _ _ => False) I5 (stand I5 n5) st5 go
      refine thnF ti fun r s6 ⟨u, hr, h6⟩ => ?_
      subst hr
      refine thnF h6 fun _ s7 ⟨x, H7, I7, r7, y7, st7, n7⟩ => ?_
      have I7' := I7.pinned (stand I7 n7) (T.obj _ _ st7)
      refine thnF (pg.run _ s7 _ H7 x u _ I7' r7 (step x H7 y7)) fun _ s8 ⟨σ8, H8, I8, hw8, q8⟩ => ?_
      refine thnF (pt.run _ s8 σ8 H8 _ I8 q8) fun b s9 ⟨H9, I9, q9⟩ => ?_
      -- the turn's end, from any slots that know what the block knew at its start
      have endA : ∀ {σ9 : L2.St} {s' : Shared} {H' : Hp}, Inv (X.blk s3 H3 scope ce fp) ([] ++ pinsAt fp s7.heap) σ9 H' s' → (wipe σ (own.map (·.2))).length = σ9.length → (∀ (j : Nat) v, (wipe σ (own.map (·.2)))[j]? = some (some v) → σ9[j]? = some (some v)) → Nx H' →
          ∃ m, m < n ∧ ∃ i H', Inv (X.blk s3 H3 scope ce fp) [] (wipe σ (own.map (·.2))) H' s' ∧ tn i s'.heap ∧ (∀ b ∈ fp, H' b = none) ∧ W i m H' := fun {σ9 s' H'} I' hl hk nx => by
        obtain ⟨m', hm, w'⟩ := hNx H' nx
        have pins9 : ∀ b ∈ fp, ∀ o, s7.heap.get? b = some o → s'.heap.get? b = some o ∧ H' b = none := fun b hb o e =>
          let z := I'.pin (b, o) (List.mem_append_right _ (List.mem_append_right _ (mem_pinsAt hb e)))
          ⟨z.1, z.2.1⟩
        refine ⟨m', hm, i + 1, H', (I'.unpinned (pins := [])).weak hl hk, T.keep _ _ _ st7 fun b hb o e => (pins9 b hb o e).1, fun b hb => ?_, w'⟩
        obtain ⟨o, e, _⟩ := T.obj _ _ st7 b hb
        exact (pins9 b hb o e).2
      have len8 : (wipe σ (own.map (·.2))).length = σ8.length := by rw [← hw8, wipe_length]
      have keep8 : ∀ (j : Nat) v, (wipe σ (own.map (·.2)))[j]? = some (some v) → σ8[j]? = some (some v) := fun j v e => by
        rw [← hw8] at e
        exact (wipe_some e).1
      have keep9 : ∀ (j : Nat) v, (wipe σ (own.map (·.2)))[j]? = some (some v) → (wipe σ8 vs1)[j]? = some (some v) := fun j v e => by
        rw [← hw8] at e
        obtain ⟨e1, e2⟩ := wipe_some e
        rw [wipe_out fun z => e2 (hv j z)]
        exact e1
      cases b with
      | false =>
        simp only [Bool.false_eq_true, if_false] at q9 ⊢
        exact endA I9 len8 keep8 q9
      | true =>
        simp only [if_true] at q9 ⊢
        refine thnF (pi1.run _ s9 σ8 H9 _ I9 q9) fun xv s10 hx => thnF hx fun itv s11 h11 => ?_
        obtain ⟨it1, fp1, tn1, J1, Ha, e1, Ia, T1, st11, f11, W1, ⟨m1, w1⟩, turn1⟩ := h11
        subst e1
        -- the inner loop
        have standB : ∀ {H' : Hp}, (∀ b ∈ fp1, H' b = none) → ∀ b ∈ fp1, FpOk (X.blk s3 H3 scope ce fp) ([] ++ pinsAt fp s7.heap) H' b := fun hn b hb => ⟨hn b hb, (f11 b hb).2⟩
        have loopB : codeAny (model X.prog X.w) X.A (.compLoop (.DictComp kx vx [⟨ta, ia, fa, 0⟩, ⟨tb, ib, fb, 0⟩] scope pos) 1 (.ref it1) (.ref D) ce)
            (fun r s' => match r with
              | .ok _ => ∃ m, m < n ∧ ∃ i H', Inv (X.blk s3 H3 scope ce fp) [] (wipe σ (own.map (·.2))) H' s' ∧ tn i s'.heap ∧ (∀ b ∈ fp, H' b = none) ∧ W i m H'
              | .error _ => False) s11 := by
          refine dloop_in (fun k s' => ∃ j H', Inv (X.blk s3 H3 scope ce fp) ([] ++ pinsAt fp s7.heap) (wipe σ8 vs1) H' s' ∧ tn1 j s'.heap ∧ (∀ b ∈ fp1, H' b = none) ∧ W1 j k H') ?_ m1 ⟨0, Ha, Ia.weak (wipe_length _ _) (fun j v e => (wipe_some e).1), st11, fun b hb => (f11 b hb).1, w1⟩
          rintro k s12 ⟨j, Hb, Ib, st12, n12, w12⟩
          rcases turn1 j k Hb w12 with ⟨stop1, nx1⟩ | ⟨go1, Nx1, hNx1, step1⟩
          · refine thnF (T1.done (X.blk s3 H3 scope ce fp) rfl rfl rfl hc j _ s12 (wipe σ8 vs1) Hb (fun _ _ => False) Ib (standB n12) st12 stop1) fun r s13 ⟨hr, I13⟩ => ?_
            subst hr
            exact endA I13 (len8.trans (wipe_length σ8 vs1).symm) keep9 nx1
          · refine thnF (T1.item (X.blk s3 H3 scope ce fp) rfl rfl rfl hc j _ s12 (wipe σ8 vs1) Hb (fun _ _ => False) Ib (standB n12) st12 go1) fun r s13 ⟨u1, hr, h13⟩ => ?_
            subst hr
            refine thnF h13 fun _ s14 ⟨x1, Hc, Ic, r14, y14, st14, n14⟩ => ?_
            have I14' := Ic.pinned (standB n14) (T1.obj _ _ st14)
            refine thnF (pg1.run _ s14 (wipe σ8 vs1) Hc x1 u1 _ I14' r14 (step1 x1 Hc y14)) fun _ s15 ⟨σ15, Hd, Id, hw15, q15⟩ => ?_
            refine thnF (pt1.run _ s15 σ15 Hd _ Id q15) fun b1 s16 ⟨He, Ie, q16⟩ => ?_
            have endB : ∀ {s' : Shared} {H' : Hp}, Inv (X.blk s3 H3 scope ce fp) (([] ++ pinsAt fp s7.heap) ++ pinsAt fp1 s14.heap) σ15 H' s' → Nx1 H' → ∃ m, m < k ∧ ∃ j H', Inv (X.blk s3 H3 scope ce fp) ([] ++ pinsAt fp s7.heap) (wipe σ8 vs1) H' s' ∧ tn1 j s'.heap ∧ (∀ b ∈ fp1, H' b = none) ∧ W1 j m H' := fun {s' H'} I' nx => by
              obtain ⟨m', hm, w'⟩ := hNx1 H' nx
              have pins9 : ∀ b ∈ fp1, ∀ o, s14.heap.get? b = some o → s'.heap.get? b = some o ∧ H' b = none := fun b hb o e =>
                let z := I'.pin (b, o) (List.mem_append_right _ (List.mem_append_right _ (mem_pinsAt hb e)))
                ⟨z.1, z.2.1⟩
              refine ⟨m', hm, j + 1, H', I'.unpinned.weak (by rw [← hw15, wipe_length]) (fun j v e => by rw [← hw15] at e; exact (wipe_some e).1), T1.keep _ _ _ st14 fun b hb o e => (pins9 b hb o e).1, fun b hb => ?_, w'⟩
              obtain ⟨o, e, _⟩ := T1.obj _ _ st14 b hb
              exact (pins9 b hb o e).2
            cases b1 with
            | false =>
              simp only [Bool.false_eq_true, if_false] at q16 ⊢
              exact endB Ie q16
            | true =>
              simp only [if_true] at q16 ⊢
              refine thnF (pk.run _ s16 σ15 He _ Ie q16) fun _ s17 ⟨_, H17, I17, r17, q17⟩ => ?_
              refine thnF (pe.run _ s17 σ15 H17 _ I17 q17) fun _ s18 ⟨_, H18, I18, r18, kvs, k, ek, hD18, hz18, nx⟩ => ?_
              subst ek
              exact d_dictSet (X := X.blk s3 H3 scope ce fp) I18 hD18 hz18 r17 r18 fun _ I19 => endB I19 nx
        exact dstart1 loopB (T1.self X.A 0 _ _ _ st11 loopB)
  exact codeAny_compStart_dict loop (T.self X.A 0 _ _ _ st4 loop)
/-- y = {..} -/
theorem ps_setDc2 {i : Nat} {y : Str} {py : Pos} {kx vx ta ia tb ib : Expr} {fa fb : List Expr} {scope : Scope} {own : List (Str × Nat)} {vs1 : List Nat} {pos spos : Pos} {wi wi1 : TI} {g g1 : TG} {tt tt1 : TT} {tk tv : TE} (hc : X.calm = true) (hN : X.N.Nodup) (hy : X.N[i]? = some y) (hyl : X.env.scope.names.lookup y = some .local)
    (hsw : swapsWith (.DictComp kx vx [⟨ta, ia, fa, 0⟩, ⟨tb, ib, fb, 0⟩] scope pos) (some (.Name y py)) spos.line X.env = pure true) (hi : PI X ta ia wi) (ok : BlkOk X.N X.env.scope scope own) (hv : ∀ i ∈ vs1, i ∈ own.map (·.2))
    (hg : ∀ (s : Shared) (H : Hp) (C : Addr) (cl : List (Str × Addr)) (fp : List Addr), PG (X.blk s H scope (compEnvC scope cl C X.env) fp) ta g) (ht : ∀ (s : Shared) (H : Hp) (C : Addr) (cl : List (Str × Addr)) (fp : List Addr), PTs (X.blk s H scope (compEnvC scope cl C X.env) fp) fa tt) (hi1 : ∀ (s : Shared) (H : Hp) (C : Addr) (cl : List (Str × Addr)) (fp : List Addr), PI (X.blk s H scope (compEnvC scope cl C X.env) fp) tb ib wi1) (hg1 : ∀ (s : Shared) (H : Hp) (C : Addr) (cl : List (Str × Addr)) (fp : List Addr), PG (X.blk s H scope (compEnvC scope cl C X.env) fp) tb g1) (ht1 : ∀ (s : Shared) (H : Hp) (C : Addr) (cl : List (Str × Addr)) (fp : List Addr), PTs (X.blk s H scope (compEnvC scope cl C X.env) fp) fb tt1)
    (hk : ∀ (s : Shared) (H : Hp) (C : Addr) (cl : List (Str × Addr)) (fp : List Addr), PE (X.blk s H scope (compEnvC scope cl C X.env) fp) kx tk) (he : ∀ (s : Shared) (H : Hp) (C : Addr) (cl : List (Str × Addr)) (fp : List Addr), PE (X.blk s H scope (compEnvC scope cl C X.env) fp) vx tv) (hs : ∀ x, foldedSetIterable ia X.env x = pure x := by intro _; rfl) (hs1 : ∀ env x, foldedSetIterable ib env x = pure x := by intro _ _; rfl) :
    PS X (.Assign [.Name y py] (.DictComp kx vx [⟨ta, ia, fa, 0⟩, ⟨tb, ib, fb, 0⟩] scope pos) spos) (tAsg (tDc2 wi g tt wi1 g1 tt1 tk tv (own.map (·.2)) vs1) (gName i)) := by
  refine ⟨fun pins s σ H D I h => ?_⟩
  rw [exec_Assign_Name_used _ _ _ _ hsw]
  refine wpAny_bind (wpAny_standAt (wpAny_bind ?_))
  show wpAny _ X.A (do let _ ← comprehension (.DictComp kx vx [⟨ta, ia, fa, 0⟩, ⟨tb, ib, fb, 0⟩] scope pos) scope X.env (firstIterPos [⟨ta, ia, fa, 0⟩, ⟨tb, ib, fb, 0⟩] pos) newDict false (eval ia X.env) (some (assign (.Name y py) X.env))) _ _ s
  have h : tDc2 wi g tt wi1 g1 tt1 tk tv (own.map (·.2)) vs1 σ H (fun x H1 => gName i x σ H1 D.nx) := h
  refine wpAny_bind (thn (dc2_core (Qf := fun _ s' => SP X pins D .next s') hc hN I hi ok hv hg ht hk he hs hi1 hg1 ht1 hs1 h fun L C s9 m9 H9 I9 q hn f => ?_) fun _ s' hq => wpAny_pure (wpAny_pure hq))
  show wpAny _ _ (assign (.Name y py) X.env (.ref L)) _ _ _
  refine wpAny_assign_Name (store_ok2 (v := V.ref L) I9 hN hy (.inl hyl) rfl (fun s2 I2 ⟨a, sb, ha⟩ => ?_) (.inr hyl))
  obtain ⟨f0, f1, f2, f3, f4, f5⟩ := f
  have haC : C ≠ a := by
    rcases ha with z | z
    · rw [z]; exact f1
    · exact fun e => f4 y a z e.symm
  exact ⟨m9, hn.sameBut sb haC, fun h3 sb3 => ⟨_, H9, I2.turned (t' := s2.toks) (fun b o hb e => (sb3.2 b hb).trans e) f0 f1 f3 f4 f5, q⟩⟩
end
end Ob

set_option Elab.async false
set_option linter.all false
set_option maxRecDepth 100000
set_option maxHeartbeats 4000000
/-! Ws: xs[a:c] = ys with c beyond the end; xs.insert; min of a list of texts. -/
namespace Ob
open PySem PySem.Spec PyProof.Rows L2
open Evl (Ex)
section
variable {prog : Program} {w : World} {A : Around} {E : Value → Shared → Prop} {s : Shared}
theorem bounds_cut {a c n : Nat} (h : a ≤ n) : sliceBounds (some (a : Int)) (some (c : Int)) none n = ((a : Int), ((min c n : Nat) : Int), 1) := by
  simp only [sliceBounds, Option.getD_none]
  have h1 : ¬ ((a : Int) < 0) := by omega
  have h2 : ¬ ((c : Int) < 0) := by omega
  simp only [h1, h2, if_false, show (1 : Int) > 0 by decide, if_true]
  congr 1
  · omega
  · congr 1; omega
/-- the store of a slice of step one, its end anywhere -/
theorem setItem_cut {l b sl : Addr} {xs ys : Array Value} {n m : Nat} {vl vu : Value} {a c : Nat} {Q : Unit → Shared → Prop}
    (el : s.heap.get? l = some { cls := .type "list", data := .seq xs n }) (eb : s.heap.get? b = some { cls := .type "list", data := .seq ys m }) (ne : l ≠ b) (hs : s.heap.IsSliceOf sl vl vu .none)
    (pl : IsPart vl (some (a : Int))) (pu : IsPart vu (some (c : Int))) (hac : a ≤ c) (ha : a ≤ xs.size) (hz : xs.size + ys.size ≤ sizeLine)
    (h : Q () { s with heap := s.heap.update l (Obj.mapSeq fun us => us.extract 0 a ++ ys ++ us.extract (min c xs.size) us.size) }) : wpAny (model prog w) A (setItem (.ref l) (.ref sl) (.ref b)) Q E s := by
  have iL : s.heap.IsList l xs := PySem.IsL.isList el
  have iB : s.heap.IsList b ys := PySem.IsL.isList eb
  obtain ⟨ob, ho, hc, hd⟩ := id hs
  have iS : s.TypeIs (.ref sl) "slice" := ⟨ob, ho, hc⟩
  have other : Builtin.List.listSameRef (.ref l) (.ref b) = false := by
    unfold Builtin.List.listSameRef
    exact beq_eq_false_iff_ne.mpr ne
  have cut : (max (a : Int) ((min c xs.size : Nat) : Int)).toNat = min c xs.size := by omega
  have room : ((fun us : Array Value => us.extract 0 a ++ ys ++ us.extract (min c xs.size) us.size) xs).size ≤ sizeLine + 1 := by
    simp only [Array.size_append, Array.size_extract]
    omega
  unfold setItem
  try with_reducible refine wpAny_holding ?_
  refine wpAny_bind (wpAny_sequenceKey iL.typeIs (by decide) ?_)
  refine wpAny_bind (wpAny_callSpecial?_slot (name := Str.ofString "__setitem__") iL.typeIs slot_list_setitem (wpAny_call_entry slot_list_setitem iL.typeIs entry_list_setitem ?_ (args_list_setitem _ _ _)))
  show wpAny _ _ (Builtin.List.listSubscript? (.ref sl) >>= _) _ _ s
  refine wpAny_bind ?_
  unfold Builtin.List.listSubscript?
  refine wpAny_bind (wpAny_specialOf iS slice_no_index ?_)
  simp only [Option.isNone_none, if_true]
  refine wpAny_pure ?_
  show wpAny _ _ (typeOf (.ref sl) >>= _) _ _ s
  refine wpAny_bind (wpAny_typeOf iS ?_)
  first
    | rw [if_neg (by decide)]
    | refine PySem.W.KFB.if_not (by decide) ?_
  rw [listSliceParts_eq]
  refine wpAny_bind (wpAny_bind (wpAny_field ho hd (x := .none) rfl (wpAny_bind (wpAny_listPart .none ?_))))
  rw [if_neg (show ¬ ((rawPart none == rawInt 0) = true) from Bool.false_ne_true)]
  refine wpAny_bind (wpAny_field ho hd (x := vl) rfl (wpAny_bind (wpAny_listPart pl ?_)))
  refine wpAny_bind (wpAny_field ho hd (x := vu) rfl (wpAny_bind (wpAny_listPart pu (wpAny_pure ?_))))
  first
    | simp only [other, Bool.false_eq_true, if_false]
    | refine PySem.W.KFB.if_not other ?_
    | (dsimp only
       rw [if_neg (by rw [other]; exact Bool.false_ne_true)])
  refine wpAny_bind (m := Builtin.List.listAllItems (.ref b) "must assign iterable to extended slice") ?_
  unfold Builtin.List.listAllItems
  refine wpAny_bind (wpAny_typeOf iB.typeIs ?_)
  first
    | refine PySem.W.KFB.if_so (by decide) ?_
    | rw [if_pos (by decide)]
    | simp only [beq_self_eq_true, Bool.true_or, if_true]
  unfold Builtin.List.listItems
  refine wpAny_bind (wpAny_seqItems eb rfl (wpAny_pure ?_))
  refine wpAny_bind (wpAny_bind (wpAny_seqItems el rfl (wpAny_pure ?_)))
  refine wpAny_bind (wpAny_of_eq ((sliceIndices_raw (some (a : Int)) (some (c : Int)) none xs.size (by simp)).trans (congrArg (pure : Int × Int × Int → Sem (Int × Int × Int)) (bounds_cut ha))) ?_)
  show wpAny _ _ (if ((1 : Int) == 1) = true then _ else _) _ _ s
  rw [if_pos (by decide)]
  refine wpAny_bind (wpAny_rule ?_)
  first
    | simp only [notLongL hz, Bool.false_eq_true, if_false]
    | refine PySem.W.KFB.if_not (notLongL hz) ?_
  first | refine wpAny_bind (wpAny_pure ?_) | skip
  show wpAny _ _ (updateSeq l (fun us => us.extract 0 ((a : Int)).toNat ++ ys ++ us.extract (max (a : Int) ((min c xs.size : Nat) : Int)).toNat us.size) >>= _) _ _ s
  rw [cut, Int.toNat_natCast]
  refine wpAny_bind (wpAny_updateSeq (hz := Nat.le_trans (Nat.le_add_right _ _) hz) (_hz' := room) el rfl ?_)
  refine wpAny_bind (wpAny_letGo ?_)
  first
    | exact wpAny_bind (wpAny_pure (wpAny_pure ⟨.none, rfl, wpAny_pure h⟩))
    | exact wpAny_pure ⟨.none, rfl, wpAny_pure h⟩
end
section
variable {X : Cx}
theorem set_cut {pins : List (Addr × Obj)} {s : Shared} {σ : L2.St} {H : Hp} {l b sl : Addr} {xs ys : List V} {a c : Nat} {vl vu : Value} {Q : Unit → Shared → Prop} (I : Inv X pins σ H s)
    (hH : H l = some (.lst xs)) (hB : H b = some (.lst ys)) (hne : l ≠ b) (hs : s.heap.IsSliceOf sl vl vu .none) (pl : IsPart vl (some (a : Int))) (pu : IsPart vu (some (c : Int))) (hac : a ≤ c) (ha : a ≤ xs.length)
    (hz : xs.length + ys.length ≤ sizeLine) (h : ∀ s', Inv X pins σ (upd H l (.lst (xs.take a ++ ys ++ xs.drop c))) s' → Q () s') :
    wpAny (model X.prog X.w) X.A (setItem (.ref l) (.ref sl) (.ref b)) Q X.xe s := by
  obtain ⟨z, its, n, r, hl, e⟩ := I.lstM hH
  obtain ⟨z2, its2, n2, r2, hl2, e2⟩ := I.lstM hB
  refine setItem_cut (a := a) (c := c) e e2 hne hs pl pu hac (by rw [List.size_toArray]; omega) (by rw [List.size_toArray, List.size_toArray]; omega) (h _ ?_)
  refine I.lset (its' := its.take a ++ its2 ++ its.drop c) (t' := s.toks) hH e ?_ (Vals.append (Vals.append (r.take _) r2) (r.drop _)) ?_
  · refine (splice_eq its its2 a _).trans ?_
    rw [List.size_toArray]
    by_cases hc : c ≤ its.length
    · rw [Nat.min_eq_left hc]
    · rw [Nat.min_eq_right (by omega), List.drop_length, List.drop_of_length_le (by omega)]
  · rw [List.length_append, List.length_append, List.length_take, List.length_drop]
    omega
def rInsU : V → List V → Hp → VK → Prop := fun x vs H Q => ∃ (l : Addr) (xs : List V) (i : Int) (y : V), x = .ref l ∧ vs = [.int i, y] ∧ H l = some (.lst xs) ∧ xs.length < sizeLine ∧ 0 ≤ i ∧ i < 2 ^ 63 ∧ Q .non (upd H l (.lst (xs.take i.toNat ++ [y] ++ xs.drop i.toNat)))
theorem mt_insU : MtR X "list.insert" rInsU := mt_insert
/-- min(xs) of a list of texts: one of them -/
def rMinLS (K : PySem.W.Frag) : List V → Hp → VK → Prop := fun vs H Q => ∃ (a : Addr) (xs : List Str), vs = [V.ref a] ∧ SqL K H a (xs.map V.str) ∧ xs ≠ [] ∧ ∀ m ∈ xs, Q (.str m) H
theorem argBest_le' (bt : Nat → Nat → Bool) : ∀ k, argBest bt k ≤ k
  | 0 => Nat.le_refl _
  | k + 1 => by
    unfold argBest
    by_cases h : bt (k + 1) (argBest bt k) = true
    · rw [if_pos h]; exact Nat.le_refl _
    · rw [if_neg h]; exact Nat.le_succ_of_le (argBest_le' bt k)
theorem strs_get : ∀ {us : List Value} {xs : List Str}, StrsAre us xs → ∀ i v, us[i]? = some v → ∃ t, v = .str (xs.getD i default) t ∧ i < xs.length
  | _, _, .nil, i, v, h => by simp at h
  | _, _, .cons x t r, 0, v, h => ⟨t, by simpa using h.symm, Nat.zero_lt_succ _⟩
  | _, _, .cons x t r, i + 1, v, h => by
    obtain ⟨t', e, hl⟩ := strs_get r i v (by simpa using h)
    exact ⟨t', by simpa using e, Nat.succ_lt_succ hl⟩
theorem call_minLS (hc : X.calm = true) : CallR X (.builtin "min") (rMinLS X.K) := by
  intro pins s σ H vs us Q I r h
  obtain ⟨a, xs, rfl, hs, hne, q⟩ := h
  obtain ⟨its, rv, hl, _⟩ := I.list hs
  rw [Vals.ref1 r]
  have hv := rv.strs
  have hpos : 0 < its.length := by
    rw [← rv.length, List.length_map]
    exact List.length_pos_iff.mpr hne
  refine call_min_walk (iter_anyList hl.isList fun s₂ e st hfp hlI => ?_)
  subst e
  refine ⟨_, _, _, _, _, _, _, rfl, Walks.list (A := X.A.in1) (I.ok.hd hc) _ a hlI its.toArray, st, hfp, by simpa using hpos, cmpS_lt (fun i => xs.getD i default) (fun i v h => ?_), fun v h' tk hP hk => ?_⟩
  · obtain ⟨t, e, _⟩ := strs_get hv i v (by simpa using h)
    exact ⟨t, e⟩
  · obtain ⟨t, e, hlt⟩ := strs_get hv _ v (by simpa using hP)
    refine ⟨.str _, H, I.kept (PySem.old_kept hk), ⟨t, e⟩, q _ ?_⟩
    rw [List.getD_eq_getElem?_getD, List.getElem?_eq_getElem hlt]
    exact List.getElem_mem _
end
end Ob

set_option Elab.async false
set_option linter.all false
set_option maxRecDepth 100000
set_option maxHeartbeats 4000000
/-! Ls: xs[a:c] = ys; a slice turned round in its place; new lists that change. -/
namespace Ob
open PySem L2
open Evl (Ex)
open PySem.W (Datum Tup DatumOrd)
def gSl (to : TE) (tl th : TO) : TG := fun v σ H Q => to σ H fun o H1 => tl σ H1 fun a H2 => th σ H2 fun c H3 => ∃ (l b : Addr) (xs ys : List V) (i k : Nat), o = .ref l ∧ v = .ref b ∧ l ≠ b ∧ H3 l = some (.lst xs) ∧ H3 b = some (.lst ys) ∧ a = some (i : Int) ∧ c = some (k : Int) ∧ i ≤ k ∧ i ≤ xs.length ∧ xs.length + ys.length ≤ sizeLine ∧
  Q σ (upd H3 l (.lst (xs.take i ++ ys ++ xs.drop k)))
theorem part_int {v : Value} {i : Int} (h : IsPart v (some i)) : RelV (.int i) v := by
  cases h with
  | int => exact ⟨_, rfl⟩
theorem pg_sl {X : Cx} {o lo hi : Expr} {to : TE} {tl th : TO} {pos p2 : Pos} (ho : PE X o to) (hl : PO X (some lo) tl) (hu : PO X (some hi) th)
    (ha : ∀ v, assign (.Subscript o (.Slice (some lo) (some hi) none p2) pos) X.env v = (do
      let ov ← holding [v] (eval o X.env)
      let iv ← holding [v, ov] (eval (.Slice (some lo) (some hi) none p2) X.env)
      standAt pos
      holding [v, ov, iv] (setItem ov iv v)
      release [iv, v, ov] []) := by intro _; rfl) : PG X (.Subscript o (.Slice (some lo) (some hi) none p2) pos) (gSl to tl th) := by
  refine ⟨fun pins s σ H v u Q I r h => ?_⟩
  rw [ha]
  refine wpAny_bind (wpAny_holding (thn (ho.run pins s σ H _ I h) fun ov s1 ⟨x, H1, I1, r1, q1⟩ => ?_))
  refine wpAny_bind (wpAny_holding (wpAny_Slice (thn (hl.run pins s1 σ H1 _ I1 q1) fun vl s2 ⟨l, H2, I2, pl, q2⟩ => thn (hu.run pins s2 σ H2 _ I2 q2) fun vu s3 ⟨w, H3, I3, pu, q3⟩ => ?_)))
  obtain ⟨a, b, xs, ys, i, k, rfl, rfl, hne, hx, hy, rfl, rfl, hik, hk, hz, q⟩ := q3
  cases r1
  cases r
  rw [evalPart_none]
  refine wpAny_pure ?_
  have I4 : Inv X pins σ H3 { s3 with heap := s3.heap.push { cls := .type "slice", data := .fields #[vl, vu, .none] } } := I3.kept (t' := s3.toks) fun b ob q => Heap.get?_push_of_some _ q
  refine wpAny_bind (wpAny_standAt (wpAny_bind (wpAny_holding (set_cut I4 hx hy hne (Heap.IsSliceOf.new ..) pl pu hik hk hz fun s5 I5 => ?_))))
  exact wpAny_release ⟨σ, _, I5, q⟩
section
variable {K : PySem.W.Frag} {W0 : List Addr} {B0 H0 : Hp} {os : List OC} {Γ : List (Option Cell)} {σ : L2.St} {B H B1 H1 : Hp} {te ta tb tc tk tv : TE} {tt : TT} {D : Ends} {tu tw tz : TS} {b : Addr} {c n : Int}
/-- name = list(xs), a list that will change -/
theorem St.newL {α : Type} [DecidableEq α] [Datum α] {i : Nat} {xs : List α} (s : St K W0 B0 H0 os Γ σ B H) (h : Pe K te σ B (Sq.mk xs)) (k : ∀ l σ1 B1 H1, St K W0 B0 H0 (os ++ [lstC K l xs]) (cs Γ i (ca l)) σ1 B1 H1 → tz D σ1 H1) : tSeq (tAsg (tCB (rListU K) (tCons te tNil)) (gName i)) tz D σ H :=
  h H s.bh _ fun v B1 H1 u hv => by
    obtain ⟨a, vs, rfl, hs, hx⟩ := hv
    exact .inl ⟨a, vs, rfl, hs.imp (Evl.ex_l u.bh) (ex_tx u.bh), fun p hp => k p _ _ _ (St.put ((s.up u).add (ob := .lst vs) hp (lstC K p xs) rfl ⟨vs, rfl, hx⟩) i rfl)⟩
theorem cutV_str (xs : List Str) (a c : Nat) (h1 : a ≤ c) (h2 : a ≤ xs.length) : cutV (xs.map V.str) (some (a : Int)) (some (c : Int)) = ((xs.drop a).take (c - a)).map V.str := by
  unfold cutV
  rw [List.length_map, HT.sIx_nat, HT.sIx_nat, Nat.min_eq_left h2, List.map_take, List.map_drop]
  by_cases hc : c ≤ xs.length
  · rw [Nat.min_eq_left hc]
  · rw [Nat.min_eq_right (by omega), List.take_of_length_le (by rw [List.length_drop, List.length_map]; exact Nat.le_refl _), List.take_of_length_le (by rw [List.length_drop, List.length_map]; omega)]
/-- xs[a:c] = xs[a:c][::-1] -/
theorem St.turn {i k : Nat} {l : Addr} {xs : List Str} {a c : Nat} (s : St K W0 B0 H0 os Γ σ B H) (h : os[k]? = some (lstC K l xs)) (hi : cg Γ i = ca l) (ha : Pe K ta σ B (a : Int)) (hc : Pe K tb σ B (c : Int)) (h1 : a ≤ c) (h2 : a ≤ xs.length) (hz : xs.length ≤ 100000)
    (q : ∀ B1 H1, St K W0 B0 H0 (os.set k (lstC K l (xs.take a ++ ((xs.drop a).take (c - a)).reverse ++ xs.drop c))) Γ σ B1 H1 → D.nx σ H1) :
    tAsg (tRevL K (tSl (rSlU K) (tVar i) (tPart ta) (tPart tb))) (gSl (tVar i) (tPart ta) (tPart tb)) D σ H := by
  obtain ⟨hb, vs, hl, hA⟩ := s.lst h
  have ev := atAll_strs hA
  subst ev
  have hσ := s.sl.rf i hi
  refine ⟨_, hσ, ha H s.bh _ fun v1 B1 H1 u1 e1 => ⟨_, at_int.mp e1, hc H1 (u1.bb.trans u1.bh) _ fun v2 B2 H2 u2 e2 => ⟨_, at_int.mp e2, .inl ⟨l, _, rfl, Evl.sq_of (u2.hh _ _ (u1.hh _ _ hl)), fun p hp => ?_⟩⟩⟩⟩
  have u12 : Up B H B H2 := ⟨Ex.refl B, s.bh.trans (u1.hh.trans u2.hh), u1.hh.trans u2.hh, fun _ h => .inl h⟩
  have up := u12.hold (o := .lst (cutV (xs.map V.str) (some (a : Int)) (some (c : Int)))) hp
  refine ⟨p, _, rfl, Evl.sq_of upd_same, fun p2 hp2 => ?_⟩
  rw [cutV_str xs a c h1 h2] at up hp2 ⊢
  have up2 := up.hold (o := .lst (((xs.drop a).take (c - a)).map V.str).reverse) hp2
  have hl2 := up2.hh _ _ hl
  have hne : l ≠ p2 := fun z => by rw [z] at hl; have := up.hh _ _ hl; rw [hp2] at this; cases this
  refine ⟨_, hσ, ha _ up2.bh _ fun v3 B3 H3 u3 e3 => ⟨_, at_int.mp e3, hc H3 (u3.bb.trans u3.bh) _ fun v4 B4 H4 u4 e4 => ⟨_, at_int.mp e4, ?_⟩⟩⟩
  have u34 : Up B H B H4 := ⟨Ex.refl B, up2.bh.trans (u3.hh.trans u4.hh), up2.hh.trans (u3.hh.trans u4.hh), fun _ h => .inl h⟩
  refine ⟨l, p2, xs.map V.str, (((xs.drop a).take (c - a)).map V.str).reverse, a, c, rfl, rfl, hne, u4.hh _ _ (u3.hh _ _ hl2), u4.hh _ _ (u3.hh _ _ upd_same), rfl, rfl, h1, by rw [List.length_map]; exact h2, ?_, ?_⟩
  · rw [List.length_reverse, List.length_map, List.length_map, List.length_take, List.length_drop, sizeLine_eq]
    omega
  · have e : (xs.map V.str).take a ++ (((xs.drop a).take (c - a)).map V.str).reverse ++ (xs.map V.str).drop c = (xs.take a ++ ((xs.drop a).take (c - a)).reverse ++ xs.drop c).map V.str := by
      simp only [List.map_append, List.map_take, List.map_reverse, List.map_drop]
    rw [e]
    exact q B _ ((s.up u34).chg (ob := .lst _) h rfl ⟨_, rfl, strs_atAll _⟩)
end
end Ob

set_option Elab.async false
set_option linter.all false
set_option maxRecDepth 100000
set_option maxHeartbeats 4000000
/-! Ss: len(set(xs)), sorted(set(xs)) of a list of texts. -/
namespace Ob
open PySem PySem.Spec PyProof.Rows L2 PySem.Froz
open Evl (Ex)
theorem tail_perm (ep : Nat) (es1 : Array (Int × Value)) (t2 : SetTable) (d : Bool) : (tailTx ep es1 t2 d).1.toList.Perm es1.toList := by
  unfold tailTx
  by_cases c : (!d && t2.tooFull) = true
  · rw [if_pos c]; exact relayAll_perm _ _ _
  · rw [if_neg c]
theorem tail_ris (ep : Nat) (es1 : Array (Int × Value)) (t2 : SetTable) (d : Bool) (r : Ris t2.place.toList) : Ris (tailTx ep es1 t2 d).2.2.place.toList := by
  unfold tailTx
  by_cases c : (!d && t2.tooFull) = true
  · rw [if_pos c]; exact relayAll_ris _ _ _
  · rw [if_neg c]; exact r
theorem tail_led (ep : Nat) (es1 : Array (Int × Value)) (t2 : SetTable) (d : Bool) : (tailTx ep es1 t2 d).2.2.led = t2.led := by
  unfold tailTx
  by_cases c : (!d && t2.tooFull) = true
  · rw [if_pos c]; exact relayAll_led _ _ _
  · rw [if_neg c]
theorem addTx_perm (h : Int) (v : Value) (D : SD) : (addTx h v D).1.toList.Perm ((h, v) :: D.1.toList) := by
  have hp := layNew_perm D.2.2 D.1 h v
  rw [Array.toList_push] at hp
  exact (tail_perm _ _ _ _).trans (hp.trans (List.perm_append_singleton _ _))
theorem addTx_ris (h : Int) (v : Value) (D : SD) (r : Ris D.2.2.place.toList) : Ris (addTx h v D).2.2.place.toList := by
  have h1 := layNew_ris D.2.2 D.1 h v r
  refine tail_ris _ _ _ _ ?_
  by_cases c : (layNew D.2.2 D.1 h v).2.1.plain = true
  · rw [if_pos c]; exact h1
  · rw [if_neg c]; exact h1
theorem addTx_led (h : Int) (v : Value) (D : SD) : (addTx h v D).2.2.led = D.2.2.led := by
  have h1 := layNew_led D.2.2 D.1 h v
  refine (tail_led _ _ _ _).trans ?_
  by_cases c : (layNew D.2.2 D.1 h v).2.1.plain = true
  · rw [if_pos c]; exact h1
  · rw [if_neg c]; exact h1
/-- values that are the texts, one by one -/
def TxtIs (v : Value) (k : Str) : Prop := ∃ t, v = .str k t
/-- a set of the texts l -/
structure SetS (P : Program) (w : World) (h : Heap) (a : Addr) (l : List Str) : Prop where
  ex : ∃ D : SD, h.get? a = some (sObj "set" D) ∧ TxOk P w D l ∧ Ris D.2.2.place.toList ∧ (w.params.followText "set-order" = true ∨ D.2.2.led = true) ∧ ∃ us, (D.1.toList.map (·.2)).Perm us ∧ PySem.W.EachIs TxtIs us l
theorem SetS.at {P : Program} {w : World} {h h' : Heap} {a : Addr} {l : List Str} (R : SetS P w h a l) (k : ∀ o, h.get? a = some o → h'.get? a = some o) : SetS P w h' a l := by
  obtain ⟨D, h1, h2⟩ := R.ex
  exact ⟨D, k _ h1, h2⟩
theorem setS_new {P : Program} {w : World} {h : Heap} {a : Addr} (ho : h.get? a = some { cls := .type "set", dict := none, data := .set #[] 0 (.fresh 0 0 (!w.params.followText "set-order")) }) : SetS P w h a [] :=
  ⟨(#[], 0, .fresh 0 0 (!w.params.followText "set-order")), ho, TxOk.nil (by rfl), List.Pairwise.nil, by
    show _ ∨ (!w.params.followText "set-order") = true
    cases w.params.followText "set-order"
    · exact .inr rfl
    · exact .inl rfl, [], List.Perm.nil, .nil⟩
section
variable {P : Program} {w : World} {A : Around} {E : Value → Shared → Prop} {s : Shared}
/-- a text put in, new or not -/
theorem setS_put {a : Addr} {l : List Str} {k : Str} {u : Tok} {Q : Bool → Shared → Prop} (R : SetS P w s.heap a l) (hb : l.length + 1 < scanBound)
    (h : ∀ h' b, Heap.SameBut a s.heap h' → SetS P w h' a (if k ∈ l then l else k :: l) → Q b { s with heap := h' }) : wpAny (model P w) A (setAddHashed a (.str k u) (hashStr w k)) Q E s := by
  obtain ⟨D, ho, F, r, hl, us, hp, hu⟩ := R.ex
  by_cases hk : k ∈ l
  · rw [if_pos hk] at h
    obtain ⟨es, ep, t⟩ := D
    have hd : (sObj "set" (es, ep, t)).data = .set es ep t := rfl
    have hf : t.fits es.size = true := F.fit
    have hel : ElemsOf (PySem.strKind P w) es.toList := F.el
    have hsz : es.size = l.length := F.sz
    have hb0 : es.size < scanBound := by omega
    have hkey : (PySem.strKind P w).is k (.str k u) = true := is_str k u
    obtain ⟨e0, he0, hq0⟩ := (F.mem k).mp hk
    unfold setAddHashed setAddHashedIn
    refine wpAny_holding (wpAny_bind (wpAny_setState_of ho hd hf ?_))
    dsimp only
    rw [byScan_of rfl hb0 hel]
    simp only [↓reduceIte]
    unfold setAddByScan
    refine wpAny_bind ?_
    refine wpAny_bind (wpAny_rule ?_)
    refine wpAny_bind (wpAny_setScan_of (knd := PySem.strKind P w) (k := k) hkey ho hd hf hel ?_)
    cases hfi : List.findIdx? (fun e => (PySem.strKind P w).is k e.2) es.toList with
    | none =>
      have c := List.findIdx?_eq_none_iff.mp hfi e0 he0
      rw [hq0] at c
      cases c
    | some j =>
      dsimp only
      exact wpAny_pure (wpAny_pure (h s.heap _ (Heap.SameBut.refl a s.heap) R))
  · rw [if_neg hk] at h
    refine add_x ho F hk hb (h _ true (Heap.SameBut.update ..) ⟨_, get_upd _ ho rfl, add_ok u F, addTx_ris _ _ _ r, by rw [addTx_led]; exact hl, .str k u :: us, ?_, .cons ⟨u, rfl⟩ hu⟩)
    have := (addTx_perm (hashStr w k) (.str k u) D).map (·.2)
    exact this.trans (hp.cons _)
/-- the texts that came, each once -/
def outK : List Str → List Str → List Str
  | l, [] => l
  | l, k :: ks => outK (if k ∈ l then l else k :: l) ks
theorem setS_update {I : Addr} {fp wr : List Addr} {G : Array GenState → Array GenState → Prop} {n : Nat} {Pv : Nat → Value → Prop} {St : Nat → Shared → Prop} {R : Result → Shared → Prop}
    (W : WalksS P w A.in1 I fp wr G n Pv St) (S : Addr) (hSf : S ∉ fp) (ns : List Str) (hn : n = ns.length) (hb : ns.length + 1 < scanBound) (hval : ∀ i v, Pv i v → ∃ k t, ns[i]? = some k ∧ v = .str k t) :
    ∀ (m i : Nat) (s : Shared) (l : List Str), n - i = m → i ≤ n → St i s → l.length ≤ i → SetS P w s.heap S l →
      (∀ s', Moved (S :: wr) G s s' → SetS P w s'.heap S (outK l (ns.drop i)) → R (.ok (.ret .none)) s') → codeAny (model P w) A (.builtin "set.update.loop" ⟨[.ref S, .ref I], []⟩) R s := by
  have hSw : S ∉ wr := fun h => hSf (W.sub _ h)
  have hsub : ∀ b ∈ wr, b ∈ S :: wr := fun b hb => List.mem_cons_of_mem _ hb
  intro m
  induction m with
  | zero =>
    intro i s l hm hi hst hl hS hR
    have hin : i = n := by omega
    subst hin
    refine codeAny_builtin F.entry_set_update_loop ?_
    rw [Around.under_plainId F.plain_set_update_loop _]
    show wpAny _ A.in1 (pyNext (.ref I) >>= _) _ _ s
    refine wpAny_bind (W.done s _ _ hst fun s' hmv => ?_)
    show wpAny _ A.in1 (ret Value.none) _ _ s'
    have e : ns.drop i = [] := List.drop_eq_nil_of_le (by omega)
    rw [e] at hR
    exact wpAny_pure (hR s' (hmv.mono hsub) (hS.at fun o e => hmv.heap S o hSw e))
  | succ m ih =>
    intro i s l hm hi hst hl hS hR
    have hlt : i < n := by omega
    refine codeAny_builtin F.entry_set_update_loop ?_
    rw [Around.under_plainId F.plain_set_update_loop _]
    show wpAny _ A.in1 (pyNext (.ref I) >>= _) _ _ s
    refine wpAny_bind (W.item i s _ _ hlt hst fun v s' hP hst' hmv => ?_)
    obtain ⟨z, t, hz, rfl⟩ := hval i v hP
    have hS' : SetS P w s'.heap S l := hS.at fun o e => hmv.heap S o hSw e
    show wpAny _ A.in1 (holding [Value.str z t] (setAdd S (.str z t)) >>= _) _ _ s'
    refine wpAny_bind (wpAny_holding ?_)
    unfold setAdd
    refine wpAny_holding ?_
    refine wpAny_bind ((PySem.strKind P w).pyHash (k := z) (is_str _ _) ?_)
    refine setS_put (s := { s' with toks := s'.toks + 1 }) hS' (by omega) fun h' bb hsb hS2 => ?_
    have hl2 : (if z ∈ l then l else z :: l).length ≤ i + 1 := by
      by_cases c : z ∈ l
      · rw [if_pos c]; omega
      · rw [if_neg c, List.length_cons]; omega
    have hdr : ns.drop i = z :: ns.drop (i + 1) := by
      rw [List.drop_eq_getElem_cons (by omega)]
      congr 1
      have := hz
      rw [List.getElem?_eq_getElem (by omega)] at this
      exact Option.some.inj this
    rw [hdr] at hR
    refine wpAny_pure ⟨plainId_quiet F.plain_set_update_loop _, ih (i + 1) _ _ (by omega) hlt (W.frame _ s' _ _ hst' (Nat.le_succ _) fun b hb o e => ?_) hl2 hS2 fun s'' hm'' hS'' => ?_⟩
    · rw [hsb.2 b (fun h : b = S => hSf (by rw [← h]; exact hb))]; exact e
    · refine hR s'' (Moved.trans W.gtrans ((hmv.mono hsub).then_heap (Nat.le_succ _) fun b o hb e => ?_) hm'') hS''
      rw [hsb.2 b (fun h : b = S => hb (by rw [h]; exact List.mem_cons_self))]; exact e
set_option maxHeartbeats 8000000 in
theorem setS_call {l : Addr} {items : Array Value} (ns : List Str) {Q : Value → Shared → Prop} (hh : A.handled = none) (hl : s.heap.IsList l items) (hit : PySem.W.EachIs TxtIs items.toList ns) (hb : ns.length + 1 < scanBound)
    (h : ∀ (h' : Heap) (tk : Nat), SetS P w h' s.heap.objs.size (outK [] ns) → (∀ b o, s.heap.get? b = some o → h'.get? b = some o) → Q (.ref s.heap.objs.size) { s with heap := h', toks := tk }) :
    wpAny (model P w) A (call (.type "set") [.ref l]) Q E s := by
  have hisz : items.size = ns.length := by
    have q := hit.length
    rw [Array.length_toList] at q
    exact q
  obtain ⟨c, tl, hmro⟩ := F.called_set.mro
  have hmade := F.called_set.made
  have hsub := F.called_set.sub
  refine wpAny_call (codeAny_of_tree ?_)
  show wpAny _ _ (callAny (.type "set") _) _ _ _
  refine wpAny_pure ⟨Code.quiet_builtin _ (by decide +kernel), codeAny_builtin F.entry_type_call ?_⟩
  rw [Around.under_plain (weight_type_call_type "set" [.ref l] []) rfl]
  have h1 := F.called_set.notType
  have h2 := F.called_set.canCreate
  have hct := F.typeCall_set_1 (.ref l)
  repeat (any_goals (first | assumption | wp_step))
  refine codeAny_mono (code_set_led1 (.ref l) (E := E) (Q₁ := fun obj s₁ => obj = .ref s.heap.objs.size ∧ s₁ = { s with heap := s.heap.push { cls := .type "set", dict := none, data := .set #[] 0 (.fresh 0 0 (!w.params.followText "set-order")) } }) ⟨rfl, rfl⟩) fun r s₁ hr => ?_
  cases r with
  | error e => exact hr
  | ok fl =>
    cases fl with
    | ret obj =>
      obtain ⟨rfl, rfl⟩ := hr
      have hS : (s.heap.push { cls := .type "set", dict := none, data := .set #[] 0 (.fresh 0 0 (!w.params.followText "set-order")) }).get? s.heap.objs.size = some { cls := .type "set", dict := none, data := .set #[] 0 (.fresh 0 0 (!w.params.followText "set-order")) } := Heap.get?_push_size _ rfl
      have hT : Shared.TypeIs { s with heap := s.heap.push { cls := .type "set", dict := none, data := .set #[] 0 (.fresh 0 0 (!w.params.followText "set-order")) } } (.ref s.heap.objs.size) "set" := ⟨_, hS, rfl⟩
      have hli := F.called_set.init.lookup
      have hbi := F.called_set.init.bind (.ref s.heap.objs.size)
      repeat (any_goals (first | assumption | wp_step))
      refine codeAny_mono (codeAny_call_builtin (R := wants (fun r s₂ => r = .none ∧ ∃ h' tk, s₂ = { s with heap := h', toks := tk } ∧ SetS P w h' s.heap.objs.size (outK [] ns) ∧
          (∀ b o, s.heap.get? b = some o → h'.get? b = some o)) E) F.called_set.init.plain F.entry_set_init (check_set_init_1 hT ?_)) fun r₂ s₂ hr₂ => ?_
      · obtain ⟨ol, hol, hcl, nl, hdl⟩ := hl
        obtain ⟨ocls, odict, odata, oslots⟩ := ol
        simp only at hcl hdl
        subst hcl; subst hdl
        have hol' : (s.heap.push { cls := .type "set", dict := none, data := .set #[] 0 (.fresh 0 0 (!w.params.followText "set-order")) }).get? l = some { cls := .type "list", dict := odict, data := .seq items nl, slots := oslots } := Heap.get?_push_of_some _ hol
        have hsls := F.sub_list_set
        have hslf := F.sub_list_frozenset
        have hne : (Value.type "list" == Value.type "dict") = false := by decide
        have hl1 : (s.heap.push { cls := .type "set", dict := none, data := .set #[] 0 (.fresh 0 0 (!w.params.followText "set-order")) }).IsList l items := ⟨_, hol', rfl, nl, rfl⟩
        unfold Builtin.«set.__init__» noKeywords Builtin.Frozenset.updateFrom
        generalize hPI : pyIter = PI
        wp_walk
        subst hPI
        refine wpAny_pyIter_list hl1 ?_
        refine wpAny_bind (wpAny_runValue ?_)
        have hlS : l < s.heap.objs.size := Heap.lt_size hol
        have hh3 : A.in1.in1.in1.handled = none := by simp [hh]
        have hneI : l ≠ (s.heap.push { cls := .type "set", dict := none, data := .set #[] 0 (.fresh 0 0 (!w.params.followText "set-order")) }).objs.size := by
          rw [Heap.size_push]; exact Nat.ne_of_lt (Nat.lt_succ_of_lt hlS)
        have hSf : s.heap.objs.size ∉ [(s.heap.push { cls := .type "set", dict := none, data := .set #[] 0 (.fresh 0 0 (!w.params.followText "set-order")) }).objs.size, l] := by
          rw [Heap.size_push]; simp only [List.mem_cons, List.mem_singleton, List.not_mem_nil, or_false, not_or]
          exact ⟨Nat.ne_of_lt (Nat.lt_succ_self _), Nat.ne_of_gt hlS⟩
        have hval : ∀ (i : Nat) (v : Value), items[i]? = some v → ∃ k t, ns[i]? = some k ∧ v = .str k t := fun i v hv => by
          have key : ∀ {us : List Value} {ks : List Str}, PySem.W.EachIs TxtIs us ks → ∀ (i : Nat) (v : Value), us[i]? = some v → ∃ k t, ks[i]? = some k ∧ v = Value.str k t := by
            intro us ks e
            induction e with
            | nil => intro i v h; simp at h
            | cons h0 t0 ih0 =>
              intro i v h
              cases i with
              | zero =>
                simp at h
                obtain ⟨t, ht⟩ := h0
                exact ⟨_, t, rfl, by rw [← h, ht]⟩
              | succ i =>
                obtain ⟨k, t, h1, h2⟩ := ih0 i v (by simpa using h)
                exact ⟨k, t, by simpa using h1, h2⟩
          exact key hit i v (by rw [Array.getElem?_toList]; exact hv)
        refine setS_update ((Walks.list hh3 _ l hneI items).toS) s.heap.objs.size hSf ns hisz hb hval (items.size - 0) 0 _ [] (by omega) (Nat.zero_le _) ⟨⟨_, Heap.get?_push_size _ rfl, rfl, rfl⟩, (hl1.push _)⟩ (Nat.le_refl 0) ?hS0 ?hR
        case hS0 => exact setS_new (Heap.get?_push_of_some _ hS)
        case hR =>
          intro s' hm hS'
          obtain ⟨h', g2, d', tk', os'⟩ := s'
          have eg : g2 = s.gens := hm.gens
          have ed : d' = s.drawn := hm.drawn
          have eo : os' = s.os := hm.os
          subst eg; subst ed; subst eo
          show wpAny _ _ _ _ _ _
          refine wpAny_pure ?_
          show wpAny _ _ (ret Value.none) _ _ _
          refine wpAny_pure ⟨rfl, h', tk', rfl, hS', fun b o e => ?_⟩
          have hb0 : b < s.heap.objs.size := Heap.lt_size e
          have hb1 : b ≠ s.heap.objs.size := Nat.ne_of_lt hb0
          have hb2 : b ≠ (s.heap.push { cls := .type "set", dict := none, data := .set #[] 0 (.fresh 0 0 (!w.params.followText "set-order")) }).objs.size := by
            rw [Heap.size_push]; exact Nat.ne_of_lt (Nat.lt_succ_of_lt hb0)
          exact hm.heap b o (by simp only [List.mem_cons, List.mem_singleton, List.not_mem_nil, or_false, not_or]; exact ⟨hb1, hb2⟩) (Heap.get?_push_of_some _ (Heap.get?_push_of_some _ e))
      · cases r₂ with
        | error e => exact hr₂
        | ok fl₂ =>
          cases fl₂ with
          | ret r =>
            obtain ⟨rfl, h', tk, rfl, hS', hk'⟩ := hr₂
            repeat (any_goals (first | assumption | wp_step))
            exact h _ _ hS' hk'
          | _ => exact hr₂.elim
    | _ => exact hr.elim
theorem each_perm {us vs : List Value} (p : vs.Perm us) : ∀ {ks : List Str}, PySem.W.EachIs TxtIs us ks → ∃ ks', ks'.Perm ks ∧ PySem.W.EachIs TxtIs vs ks' := by
  have q := p.symm
  clear p
  induction q with
  | nil => intro ks h; exact ⟨ks, List.Perm.refl _, h⟩
  | cons x p ih =>
    intro ks h
    cases h with
    | cons a t =>
      obtain ⟨ks', h1, h2⟩ := ih t
      exact ⟨_, h1.cons _, .cons a h2⟩
  | swap x y l =>
    intro ks h
    cases h with
    | cons a t =>
      cases t with
      | cons b t => exact ⟨_, List.Perm.swap _ _ _, .cons b (.cons a t)⟩
  | trans p1 p2 ih1 ih2 =>
    intro ks h
    obtain ⟨k1, h1, h2⟩ := ih1 h
    obtain ⟨k2, h3, h4⟩ := ih2 h2
    exact ⟨k2, h3.trans h1, h4⟩
theorem sortable_strs (xs : List Str) : PySem.W.Sortable (xs.map PyData.str) := .inr fun d hd => by
  obtain ⟨x, _, rfl⟩ := List.mem_map.mp hd
  exact ⟨fun z => (by cases z), fun _ z => (by cases z)⟩
open PySem.W in
theorem setS_sorted {a : Addr} {ks : List Str} {Q : Value → Shared → Prop} (R : SetS P w s.heap a ks) (hh : A.handled = none) (hb : ks.length < 4000) (hu : A.units + 100 < cLine)
    (hQ : ∀ (s' : Shared) (p : Addr) (out : List Value) (c : Nat), (∀ b o, s.heap.get? b = some o → s'.heap.get? b = some o) → s'.gens = s.gens → s'.os = s.os → s.heap.objs.size ≤ p →
      s'.heap.get? p = some (seqObj "list" out.toArray c) → PySem.W.EachIs TxtIs out (sortD ks) → Q (.ref p) s') : wpAny (model P w) A (call (.builtin "sorted") [.ref a]) Q E s := by
  obtain ⟨D, ho, F, r, hl, us, hp, hus⟩ := R.ex
  have hsz : D.1.size = ks.length := F.sz
  refine Calls.call_function_entry kind_sorted plain_sorted entry_sorted (args_sorted1 _) ?_
  unfold Builtin.«sorted»
  refine wpAny_bind (m := checkCount "sorted" 1 1 _) (wpAny_pure ?_)
  refine wpAny_bind (collect_set (A := A.in1) hh ⟨_, ho, rfl, rfl⟩ F.fit (by rw [hsz]; unfold scanBound; omega) r hl fun s1 vs k1 hz g1 o1 pm => ?_)
  obtain ⟨ks', hk', he⟩ := each_perm (pm.trans hp) hus
  have hvl : vs.length = ks.length := by rw [he.length, hk'.length_eq]
  have hL : vs.length ≤ sizeLine := by rw [hvl, sizeLine_eq]; omega
  refine wpAny_bind (wpAny_newList ?_ hL)
  have hoL : (s1.heap.push (seqObj "list" vs.toArray 0)).get? s1.heap.objs.size = some (seqObj "list" vs.toArray 0) := Heap.get?_push_size _ rfl
  have her : ∀ h : Heap, EachIs (fun v d => ∃ as, Reads h v d as) vs (ks'.map PyData.str) := fun h => by
    have : ∀ {vs : List Value} {ks : List Str}, EachIs TxtIs vs ks → EachIs (fun v d => ∃ as, Reads h v d as) vs (ks.map PyData.str) := by
      intro vs ks e
      induction e with
      | nil => exact .nil
      | cons a t ih =>
        obtain ⟨tk, rfl⟩ := a
        exact .cons ⟨_, Reads.str _ tk⟩ ih
    exact this he
  have hal : AllAlike (ks'.map PyData.str) := AllAlike.of fun b b' => DatumOrd.alike b b'
  have body : ∀ E' : Value → Shared → Prop, wpAny (model P w) A.in1.in1 (Builtin.«list.sort» ⟨[.ref s1.heap.objs.size], []⟩) (fun f s' => f = .done (.ret .none) ∧ Q (.ref s1.heap.objs.size) s') E' { s1 with heap := s1.heap.push (seqObj "list" vs.toArray 0) } := fun E' => by
    have S : SortsAt P w A.in1.in1 { s1 with heap := sortingHeap (s1.heap.push (seqObj "list" vs.toArray 0)) s1.heap.objs.size vs } (dataKind (sortingHeap (s1.heap.push (seqObj "list" vs.toArray 0)) s1.heap.objs.size vs) (ks'.map PyData.str)) vs :=
      SortsAt.data (her _) hal (sortable_strs ks') fun d hd => by
        obtain ⟨x, _, rfl⟩ := List.mem_map.mp hd
        show A.units + 2 + 0 < _
        omega
    refine list_sort_vals (s := { s1 with heap := s1.heap.push (seqObj "list" vs.toArray 0) }) hoL S hL ⟨rfl, ?_⟩
    have er : ∀ h : Heap, EachIs (fun v b => ∃ as, Reads h v (PyData.str b) as) vs ks' := fun h => he.mono fun v k ⟨t, e⟩ => by rw [e]; exact ⟨_, Reads.str _ t⟩
    have eo := sortVals_data (h' := sortingHeap (s1.heap.push (seqObj "list" vs.toArray 0)) s1.heap.objs.size vs) (R := TxtIs) (enc := PyData.str) false he (er _) hal
    generalize sortVals (dataKind (sortingHeap (s1.heap.push (seqObj "list" vs.toArray 0)) s1.heap.objs.size vs) (ks'.map PyData.str)) false vs vs = out at eo ⊢
    have e2 : ks'.mergeSort (dataLe false PyData.str) = sortD ks := by
      have e3 : dataLe (β := Str) false PyData.str = fun a b => !DatumOrd.lt b a := dataLe_lt
      rw [e3]
      exact sorted_uniq ((List.mergeSort_perm ks' _).trans (hk'.trans (sortD_perm ks).symm)) (sortD_sorted ks') (sortD_sorted ks)
    rw [e2] at eo
    obtain ⟨c, hc⟩ := sortedHeap_at (vs := vs) (out := out.toArray) hoL
    refine hQ _ _ out c (fun b u e => ?_) g1 o1 hz hc eo
    have q := k1 b u e
    have hlt := Heap.lt_size q
    show (sortedHeap (s1.heap.push (seqObj "list" vs.toArray 0)) s1.heap.objs.size vs out.toArray).get? b = some u
    rw [sortedHeap_old (Nat.ne_of_lt hlt) (by rw [size_push']; exact Nat.lt_succ_of_lt hlt)]
    exact Heap.get?_push_of_some _ q
  refine wpAny_bind (wpAny_holding (wpAny_call_entry slot_list_sort ⟨_, hoL, rfl⟩ entry_list_sort ?bd (args_list_sort _)))
  case bd =>
    show wpAny (model P w) A.in1.in1 (Builtin.«list.sort» ⟨[.ref s1.heap.objs.size], []⟩) _ _ _
    refine wpAny_mono (body _) (fun f s' hf => ?_) fun _ _ e => e
    obtain ⟨rfl, hq⟩ := hf
    exact ⟨_, rfl, wpAny_pure ⟨_, rfl, hq⟩⟩
end
theorem outK_nd : ∀ (ks l : List Str), l.Nodup → (outK l ks).Nodup
  | [], _, h => h
  | k :: ks, l, h => by
    unfold outK
    refine outK_nd ks _ ?_
    by_cases c : k ∈ l
    · rw [if_pos c]; exact h
    · rw [if_neg c]; exact List.nodup_cons.mpr ⟨c, h⟩
theorem mem_outK {z : Str} : ∀ {ks l : List Str}, z ∈ outK l ks ↔ z ∈ l ∨ z ∈ ks
  | [], l => by simp [outK]
  | k :: ks, l => by
    unfold outK
    rw [mem_outK, List.mem_cons]
    by_cases c : k ∈ l
    · rw [if_pos c]
      exact ⟨fun h => h.elim .inl (fun h => .inr (.inr h)), fun h => h.elim .inl (fun h => h.elim (fun e => .inl (e ▸ c)) .inr)⟩
    · rw [if_neg c, List.mem_cons]
      exact ⟨fun h => h.elim (fun h => h.elim (fun e => .inr (.inl e)) .inl) (fun h => .inr (.inr h)), fun h => h.elim (fun h => .inl (.inr h)) (fun h => h.elim (fun e => .inl (.inl e)) .inr)⟩
theorem outK_len : ∀ (ks l : List Str), (outK l ks).length ≤ l.length + ks.length
  | [], l => Nat.le_refl _
  | k :: ks, l => by
    unfold outK
    have h := outK_len ks (if k ∈ l then l else k :: l)
    have h2 : (if k ∈ l then l else k :: l).length ≤ l.length + 1 := by
      by_cases c : k ∈ l
      · rw [if_pos c]; omega
      · rw [if_neg c, List.length_cons]; omega
    rw [List.length_cons]
    omega
theorem txt_of : ∀ {ys : List Str} {us : List Value}, Vals (ys.map V.str) us → PySem.W.EachIs TxtIs us ys
  | [], _, .nil => .nil
  | y :: ys, _, .cons r t => by
    obtain ⟨k, rfl⟩ := r
    exact .cons ⟨k, rfl⟩ (txt_of t)
theorem of_txt : ∀ {ys : List Str} {us : List Value}, PySem.W.EachIs TxtIs us ys → Vals (ys.map V.str) us
  | _, _, .nil => .nil
  | _, _, .cons ⟨t, e⟩ r => .cons (by rw [e]; exact ⟨t, rfl⟩) (of_txt r)
/-! ### over the layer -/
section
variable {X : Cx}
def tLenSt (K : PySem.W.Frag) (ta : TE) : TE := fun σ H Q => ta σ H fun x H1 => ∃ (l : Addr) (xs : List Str), x = .ref l ∧ SqL K H1 l (xs.map V.str) ∧ xs.length ≤ 1000 ∧ Q (.int (outK [] xs).length) H1
theorem pe_lenSt {a : Expr} {ta : TE} {p p2 q pos : Pos} (hc : X.calm = true) (hg : Gl X "len") (hm : X.mg "len" = none) (hg2 : Gl X "set") (hm2 : X.mg "set" = none) (ha : PE X a ta)
    (na : starEach [a] X.env = (false, eval a X.env) :: starEach [] X.env := by rfl) : PE X (.Call (.Name "len" p) [.Call (.Name "set" p2) [a] [] q] [] pos) (tLenSt X.K ta) := by
  refine ⟨fun pins s σ H Q I h => ?_⟩
  refine Call_ (ld_blt I hg hm boot_len ?_)
  refine PyProof.Rows.callWith_builtin1 (PyProof.Rows.args_cons ?_ rfl) rfl rfl
  refine Call_ (ld_blt I hg2 hm2 boot_set ?_)
  refine PyProof.Rows.callWith_type1 (PyProof.Rows.args_cons (thn (ha.run pins s σ H _ I h) fun v s1 ⟨x, H1, I1, r1, q1⟩ => PyProof.Rows.args_nil ?_) na) na rfl
  obtain ⟨l, xs, rfl, hq, h1, q1⟩ := q1
  cases r1
  obtain ⟨its, r, pl, hz⟩ := I1.list hq
  refine setS_call xs (I1.ok.hd hc) pl.isList (by simpa using txt_of r) (by unfold scanBound; omega) fun h' tk R hk => ?_
  refine PyProof.Rows.args_nil ?_
  have I2 : Inv X pins σ H1 { s1 with heap := h', toks := tk } := I1.kept hk
  obtain ⟨D, ho, F, _⟩ := R.ex
  have hn : D.1.size = (outK [] xs).length := F.sz
  have hl := outK_len xs []
  exact call_len_set (o := sObj "set" D) ho ⟨rfl, rfl, rfl⟩ rfl F.fit (by rw [hn]; simp at hl; omega) ⟨.int _, H1, I2.tok _, ⟨_, by rw [hn]⟩, q1⟩
def tSortSt (K : PySem.W.Frag) (ta : TE) : TE := fun σ H Q => ta σ H fun x H1 => ∃ (l : Addr) (xs : List Str), x = .ref l ∧ SqL K H1 l (xs.map V.str) ∧ xs.length ≤ 1000 ∧ ∀ p, H1 p = none → Q (.ref p) (upd H1 p (.lst ((sortD (outK [] xs)).map V.str)))
theorem pe_sortSt {a : Expr} {ta : TE} {p p2 q pos : Pos} (hc : X.calm = true) (hu : X.A.units + 150 < cLine) (hg : Gl X "sorted") (hm : X.mg "sorted" = none) (hg2 : Gl X "set") (hm2 : X.mg "set" = none) (ha : PE X a ta)
    (na : starEach [a] X.env = (false, eval a X.env) :: starEach [] X.env := by rfl) : PE X (.Call (.Name "sorted" p) [.Call (.Name "set" p2) [a] [] q] [] pos) (tSortSt X.K ta) := by
  refine ⟨fun pins s σ H Q I h => ?_⟩
  refine Call_ (ld_blt I hg hm (show bootBuiltins "sorted" = some (.builtin "sorted") by decide +kernel) ?_)
  refine PyProof.Rows.callWith_builtin1 (PyProof.Rows.args_cons ?_ rfl) rfl rfl
  refine Call_ (ld_blt I hg2 hm2 boot_set ?_)
  refine PyProof.Rows.callWith_type1 (PyProof.Rows.args_cons (thn (ha.run pins s σ H _ I h) fun v s1 ⟨x, H1, I1, r1, q1⟩ => PyProof.Rows.args_nil ?_) na) na rfl
  obtain ⟨l, xs, rfl, hq, h1, q1⟩ := q1
  cases r1
  obtain ⟨its, r, pl, hz⟩ := I1.list hq
  refine setS_call xs (I1.ok.hd hc) pl.isList (by simpa using txt_of r) (by unfold scanBound; omega) fun h' tk R hk => ?_
  refine PyProof.Rows.args_nil ?_
  have hl := outK_len xs []
  simp at hl
  have I2 : Inv X pins σ H1 { s1 with heap := h', toks := tk } := I1.kept hk
  refine setS_sorted (s := { s1 with heap := h', toks := tk }) R (I1.ok.hd hc) (by omega) (by omega) fun s' pp out c k g o hp hgt he => ?_
  have hlen : ((sortD (outK [] xs)).map V.str).length ≤ sizeLine := by
    rw [List.length_map, (sortD_perm _).length_eq, sizeLine_eq]
    omega
  have hn : H1 pp = none := I2.hok.fresh hp
  have J : Inv X pins σ (upd H1 pp (.lst ((sortD (outK [] xs)).map V.str))) { ({ s1 with heap := h', toks := tk } : Shared) with heap := s'.heap, gens := s'.gens, drawn := s'.drawn, toks := s'.toks } :=
    Inv.call (s := { s1 with heap := h', toks := tk }) I2 (ch := []) (Un.laid k hp hn) (I2.hok.laid k hp ⟨hlen, out, c, of_txt he, hgt⟩) (by rw [g]; exact I2.bare) (fun _ z => nomatch z)
  have e : s' = { s1 with heap := s'.heap, gens := s'.gens, drawn := s'.drawn, toks := s'.toks } := by
    cases s'
    cases s1
    cases o
    rfl
  rw [e]
  exact ⟨.ref pp, _, J, rfl, q1 pp hn⟩
end
section
variable {K : PySem.W.Frag} {σ : L2.St} {B : Hp} {te : TE}
theorem e_lenSt {xs : List Str} (h : Pe K te σ B xs) (hz : xs.length ≤ 1000) : Pe K (tLenSt K te) σ B ((outK [] xs).length : Int) := fun H e Q q => h H e _ fun v B1 H1 u hv => by
  obtain ⟨a, vs, rfl, hs, hx⟩ := at_list.mp hv
  rw [atAll_strs hx] at hs
  exact ⟨a, xs, rfl, Evl.ex_l u.bh hs, hz, q _ B1 H1 u (at_int.mpr rfl)⟩
theorem e_sortSt {xs : List Str} (h : Pe K te σ B xs) (hz : xs.length ≤ 1000) : Pe K (tSortSt K te) σ B (sortD (outK [] xs)) := fun H e Q q => h H e _ fun v B1 H1 u hv => by
  obtain ⟨a, vs, rfl, hs, hx⟩ := at_list.mp hv
  rw [atAll_strs hx] at hs
  exact ⟨a, xs, rfl, Evl.ex_l u.bh hs, hz, fun p hp => q _ _ _ (u.then hp) (at_list.mpr ⟨p, _, rfl, Evl.sq_of upd_same, strs_atAll _⟩)⟩
end
end Ob

set_option Elab.async false
set_option linter.all false
set_option maxRecDepth 100000
set_option maxHeartbeats 4000000
/-! M9: presses exchanged, put in; which switches an order leaves on, place by place. Plain Lean. -/
namespace Ob
open PySem L2
open PySem.W (Datum Tup DatumOrd)
theorem sem_swap {rv : Str → List Str} (sym : ∀ x y, y ∈ rv x ↔ x ∈ rv y) {x y : Str} (h : y ∉ rv x) (a b : List Str) (z : Str) : sem rv (a ++ x :: y :: b) z = sem rv (a ++ y :: x :: b) z := by
  rw [sem_append, sem_append]
  show ((((sem rv b z).or (sb rv y z)).or (sb rv x z))).or _ = ((((sem rv b z).or (sb rv x z)).or (sb rv y z))).or _
  congr 1
  rw [Option.or_assoc, Option.or_assoc]
  congr 1
  have h' : x ∉ rv y := fun k => h ((sym x y).mpr k)
  unfold sb
  by_cases h1 : z = x
  · by_cases h2 : z = y
    · rw [if_pos h1, if_pos h2]
    · rw [if_pos h1, if_neg h2, if_neg (h1 ▸ h')]
      rfl
  · by_cases h2 : z = y
    · rw [if_neg h1, if_pos h2, if_neg (h2 ▸ h)]
      rfl
    · rw [if_neg h1, if_neg h2]
      by_cases h3 : z ∈ rv x
      · by_cases h4 : z ∈ rv y
        · rw [if_pos h3, if_pos h4]
        · rw [if_pos h3, if_neg h4]; rfl
      · rw [if_neg h3]
        split <;> rfl
theorem sem_insert {rv : Str → List Str} {x : Str} {b : List Str} (h : x ∈ b) (a : List Str) (z : Str) : sem rv (a ++ x :: b) z = sem rv (a ++ b) z := by
  rw [sem_append, sem_append, sem_again h]
theorem filtT_at {α : Type} (P : α → List α → Bool) : ∀ {xs : List α} {i : Nat} {x : α}, xs.Nodup → xs[i]? = some x → (x ∈ filtT P xs ↔ P x (xs.drop (i + 1)) = true)
  | [], i, x, _, h => by simp at h
  | y :: ys, 0, x, nd, h => by
    rw [List.nodup_cons] at nd
    simp at h
    subst h
    show y ∈ (if P y ys = true then y :: filtT P ys else filtT P ys) ↔ P y ys = true
    by_cases c : P y ys = true
    · rw [if_pos c]; simp [c]
    · rw [if_neg c]
      exact ⟨fun k => absurd ((filtT_sub P ys).subset k) nd.1, fun k => absurd k c⟩
  | y :: ys, i + 1, x, nd, h => by
    rw [List.nodup_cons] at nd
    have h' : ys[i]? = some x := by simpa using h
    have ih := filtT_at P nd.2 h'
    have hne : x ≠ y := fun e => nd.1 (e ▸ List.mem_of_getElem? h')
    show x ∈ (if P y ys = true then y :: filtT P ys else filtT P ys) ↔ P x (ys.drop (i + 1)) = true
    by_cases c : P y ys = true
    · rw [if_pos c, List.mem_cons, ← ih]; simp [hne]
    · rw [if_neg c, ih]
theorem left_at {rv : Str → List Str} {os : List Str} {i : Nat} {x : Str} (nd : os.Nodup) (h : os[i]? = some x) : x ∈ leftO rv os ↔ ∀ o ∈ os.drop (i + 1), o ∉ rv x := by
  unfold leftO
  rw [mem_sortD, filtT_at _ nd h]
  simp
theorem split2 {α : Type} {xs : List α} {a : Nat} {x y : α} (h1 : xs[a]? = some x) (h2 : xs[a + 1]? = some y) : xs.drop a = x :: y :: xs.drop (a + 2) ∧ xs = xs.take a ++ x :: y :: xs.drop (a + 2) := by
  have l1 := (List.getElem?_eq_some_iff.mp h1).1
  have l2 := (List.getElem?_eq_some_iff.mp h2).1
  have e : xs.drop a = x :: y :: xs.drop (a + 2) := by
    rw [List.drop_eq_getElem_cons l1, List.drop_eq_getElem_cons l2, (List.getElem?_eq_some_iff.mp h1).2, (List.getElem?_eq_some_iff.mp h2).2]
  exact ⟨e, by rw [← e, List.take_append_drop]⟩
theorem outK_len_nd : ∀ {ks l : List Str}, ks.Nodup → (∀ k ∈ ks, k ∉ l) → (outK l ks).length = l.length + ks.length
  | [], l, _, _ => rfl
  | k :: ks, l, nd, h => by
    rw [List.nodup_cons] at nd
    unfold outK
    rw [if_neg (h k List.mem_cons_self), outK_len_nd nd.2 fun z hz hm => ?_, List.length_cons, List.length_cons]
    · omega
    · rcases List.mem_cons.mp hm with e | e
      · exact nd.1 (e ▸ hz)
      · exact h z (List.mem_cons_of_mem _ hz) e
theorem sort_last (hs : List Str) : sortD (lastP hs) = sortD (outK [] hs) :=
  asc_ext (sortD_asc (lastP_nd hs)) (sortD_asc (outK_nd hs [] .nil)) fun z => by
    rw [mem_sortD, mem_sortD, mem_lastP, mem_outK]
    simp
end Ob

set_option Elab.async false
set_option linter.all false
set_option maxRecDepth 100000
set_option maxHeartbeats 4000000
/-! S3: more rules over the record. -/
namespace Ob
open PySem L2
open Evl (Ex)
open PySem.W (Datum Tup DatumOrd)
section
variable {K : PySem.W.Frag} {W0 : List Addr} {B0 H0 : Hp} {os : List OC} {Γ : List (Option Cell)} {σ : L2.St} {B H B1 H1 : Hp} {te ta tb tc tk tv : TE} {tt : TT} {D : Ends} {tu tw tz : TS} {b : Addr} {c n : Int}
/-- a for over pairs; what it needs stays as it was, but for the slots vs -/
theorem St.forCP {α β : Type} [DecidableEq α] [Datum α] [DecidableEq β] [Datum β] {wi : TI} {i j : Nat} {xs : List (α × β)} (vs : List Nat) (s : St K W0 B0 H0 os Γ σ B H) (h : ItD K wi σ B xs)
    (hs : ∀ done x rest, xs = done ++ x :: rest → ∀ (σ' : L2.St) (B' H' : Hp) (N : L2.St → Hp → Prop), (∀ {Γ3 : List (Option Cell)} {σ3 : L2.St} {B3 H3 : Hp}, St K (os.map (·.l)) B' H' os Γ3 σ3 B3 H3 → cw Γ3 vs = cw Γ vs → N σ3 H3) →
      St K W0 B0 H0 os (cs (cs (cw Γ vs) i (ce x.1)) j (ce x.2)) σ' B' H' → tu { D with nx := N, ct := N, bk := D.nx } σ' H')
    (k : ∀ σ' B' H', St K W0 B0 H0 os (cw Γ vs) σ' B' H' → D.nx σ' H') : tFor wi (gUnp K 2 (gCons (gName i) (gCons (gName j) gNil))) tu D σ H := by
  refine s.forG (δ := Unit) h (fun done _ => os) (fun _ _ => cw Γ vs) (fun _ _ => True) ⟨(), trivial, fun B1 H1 s1 => s1.fg vs⟩ (fun done x rest _ ex _ v σ' B' H' N hN s1 hv => ?_) fun _ _ σ' B' H' s1 => k σ' B' H' s1
  refine unp_pair hv s1.bh fun v1 v2 k1 k2 => ?_
  exact hs done x rest ex _ B' H' N (fun {Γ3 σ3 B3 H3} s3 hΓ => hN () trivial (hΓ ▸ s3.fg vs)) ((s1.put i k1).put j k2)
theorem x_riv {E : XK} {p : Pan} {x : Str} (h1 : Pe K ta σ B p) (h2 : Pe K tb σ B x) (hp : PanOk p) (hx : x ∈ p.sw) : Pe K (tCall (sp_rivals_of K) [] E (tCons ta (tCons tb tNil))) σ B (rivO p x) := e_call2 h1 h2 ⟨hp, hx⟩
theorem x_take {E : XK} {i : Nat} {n : Int} (hi : cg Γ i = ca b) (s : Slots K B σ Γ) (h : Pe K te σ B n) (h0 : 0 < n) (h1 : n < 1073741824) : Pb K b 1 (tCall (sp_Ltake K) [] E (tCons (tVar i) (tCons te tNil))) σ B (fun k : Int => 0 ≤ k ∧ k < n) := e_callB1 (s.rf i hi) h ⟨h0, h1⟩
/-- j times a test -/
theorem e_times {j : Int} {k : Bool} (h : Pe K te σ B k) (j0 : 0 ≤ j) (j1 : j ≤ 1000) : ∃ m : Int, 0 ≤ m ∧ m ≤ j ∧ (0 < m → k = true) ∧ Pe K (tOp (rMulU) (tC (.int j)) (tCB (rInt1) (tCons te tNil))) σ B m := by
  refine ⟨_, ?_, ?_, ?_, e_mulI e_int (e_intB h) (cmul_small (int01 k).1 (int01 k).2)⟩
  · cases k <;> simp <;> omega
  · cases k <;> simp <;> omega
  · cases k <;> simp
end
end Ob

set_option Elab.async false
set_option linter.all false
set_option maxRecDepth 100000
set_option maxHeartbeats 4000000
/-! Xs: xs.extend(ys), ys any list. -/
namespace PySem.AutoSeq1
theorem ext_any (l : Addr) (items : Array Value) (n : Nat) (b : Addr) (o : Obj) (items2 : Array Value) (n2 : Nat) (hc : o.cls = .type "list") (hd : o.dict = none) (hx : o.data = .seq items2 n2) (hc0 : ¬(!items.isEmpty && Builtin.List.listTooLong (items.size + items2.size)) = true) (hc1 : items.size ≤ sizeLine) (hs2 : items.size + items2.size ≤ sizeLine + 1) :
    Meets (Builtin.«list.extend» ⟨[.ref l, .ref b], []⟩) (fun _ R s => s.heap.get? l = some { cls := .type "list", dict := none, data := .seq items n, slots := #[] } ∧ s.heap.get? b = some o ∧ R (.ok (.ret Value.none)) { s with heap := s.heap.update l (Obj.mapSeq fun x => x ++ items2), toks := s.toks }) :=
  .of_wp fun prog w A R s h => by
    obtain ⟨cls, dict, data, slots⟩ := o
    cases hc
    cases hd
    cases hx
    obtain ⟨hp, g, d, tk, os⟩ := s; obtain ⟨hl, hb, h⟩ := h; have f1 := idx_int; have f2 := sub_tuple_tuple; have f3 := sub_list_list; have f4 := sub_tuple_list; have f5 := sub_list_tuple;
    have hz' : (items ++ items2).size ≤ sizeLine + 1 := by rw [Array.size_append]; exact hs2
    wp_walk using (wpAny_updateSeq hl rfl (hz := hc1) (_hz' := hz')), wpAny_loadPart' hl, wpAny_loadPart' hb; exact ⟨_, rfl, h⟩
end PySem.AutoSeq1
namespace Ob
open PySem PySem.Spec PyProof.Rows L2
open Evl (Ex)
section
variable {X : Cx}
def rExtU (K : PySem.W.Frag) : V → List V → Hp → VK → Prop := fun x vs H Q => ∃ l b xs zs, x = .ref l ∧ vs = [.ref b] ∧ H l = some (.lst xs) ∧ SqL K H b zs ∧ xs.length + zs.length ≤ sizeLine ∧ Q .non (upd H l (.lst (xs ++ zs)))
theorem mt_extU : MtR X "list.extend" (rExtU X.K) := by
  intro pins s σ H x vs v us Q I rx rv h
  obtain ⟨l, b, xs, zs, rfl, rfl, hH, hB, hz, q⟩ := h
  cases rx
  obtain ⟨u, rfl, ru⟩ := vals1 rv
  cases ru
  obtain ⟨z, its, n, r, hl, e⟩ := I.lstM hH
  obtain ⟨its2, r2, ⟨o, n2, e2, hc, hd, hx⟩, z2⟩ := I.list hB
  have l1 := r.length
  have l2 := r2.length
  have hsz : its.toArray.size + its2.toArray.size ≤ sizeLine := by rw [List.size_toArray, List.size_toArray]; omega
  have hlong : ¬ (!its.toArray.isEmpty && Builtin.List.listTooLong (its.toArray.size + its2.toArray.size)) = true := by
    rw [notLongL hsz, Bool.and_false]
    exact Bool.false_ne_true
  refine call_meets F.slot_list_extend ⟨_, e, rfl⟩ F.entry_list_extend (F.args_list_extend_2 _ _)
    (AutoSeq1.ext_any l its.toArray n b o its2.toArray n2 hc hd hx hlong (by rw [List.size_toArray]; omega) (by omega)) ⟨e, e2, ?_⟩
  refine ⟨.non, _, I.lset (its' := its ++ its2) hH e (by simp) (r.append r2) ?_, rfl, q⟩
  rw [List.length_append]
  omega
end
end Ob

set_option Elab.async false
set_option linter.all false
set_option maxRecDepth 100000
set_option maxHeartbeats 4000000
/-! S4: range of a drawn number, extend, insert, a new list beside a drawn thing; promises by a relation; a thing or None. -/
namespace Ob
open PySem L2
open Evl (Ex)
open PySem.W (Datum Tup DatumOrd)
theorem op_isNr {X : Cx} : OpR X (compareOp .Is) rIsN := op_isN
theorem op_notNr {X : Cx} : OpR X (compareOp .IsNot) rNotN := op_notN
/-- None or a thing -/
structure Mb (α : Type) where
  o : Option α
def mbAt (K : PySem.W.Frag) {α : Type} [Rep α] (B : Hp) (v : V) : Option α → Prop
  | none => v = .non
  | some x => Rep.at_ K B v x
instance {α : Type} [Rep α] : Rep (Mb α) := ⟨fun K B v m => mbAt K B v m.o, fun {K B B' v m} e h => by
  obtain ⟨o⟩ := m
  cases o with
  | none => exact h
  | some x => exact Rep.monoR (α := α) e h⟩
section
variable {K : PySem.W.Frag} {W0 : List Addr} {B0 H0 : Hp} {os : List OC} {Γ : List (Option Cell)} {σ : L2.St} {B H B1 H1 : Hp} {te ta tb tc tk tv : TE} {tt : TT} {D : Ends} {tu tw tz : TS} {b : Addr} {c n m : Int}
/-- a reading that gives something of which R holds -/
def Pq {α : Type} [Rep α] (K : PySem.W.Frag) (te : TE) (σ : L2.St) (B : Hp) (R : α → Prop) : Prop := ∀ H, Ex B H → ∀ Q : VK, (∀ v x B2 H2, Up B H B2 H2 → R x → Rep.at_ K B2 v x → Q v H2) → te σ H Q
theorem Pq.is {α : Type} [Rep α] {R : α → Prop} {x : α} (h : Pq K te σ B R) (k : ∀ y, R y → y = x) : Pe K te σ B x := fun H e Q q => h H e Q fun v y B2 H2 u r hv => q v B2 H2 u (k y r ▸ hv)
def Fn3R {α β γ δ : Type} [Rep α] [Rep β] [Rep γ] [Rep δ] (K : PySem.W.Frag) (pre : α → β → γ → Prop) (R : α → β → γ → δ → Prop) : Sp := fun vs H Q _ => ∃ x y z B, Ex B H ∧ RCons K x (RCons K y (RCons K z RNil)) vs B ∧ pre x y z ∧ ∀ v r B2 H2, Up B H B2 H2 → R x y z r → Rep.at_ K B2 v r → Q v H2
section
variable {α β γ δ : Type} [Rep α] [Rep β] [Rep γ] [Rep δ] {vs : List V} {Q : VK} {E : XK}
theorem Fn3R.len {pre : α → β → γ → Prop} {R : α → β → γ → δ → Prop} (vs : List V) (H : Hp) (Q : VK) (E : XK) (h : Fn3R K pre R vs H Q E) : vs.length = 3 := by
  obtain ⟨x, y, z, B, e, ⟨v, r, rfl, h1, v2, r2, rfl, h2, v3, r3, rfl, h3, rfl⟩, _⟩ := h
  rfl
theorem e_call3R {pre : α → β → γ → Prop} {R : α → β → γ → δ → Prop} {x : α} {y : β} {z : γ} (h : Pe K ta σ B x) (h2 : Pe K tb σ B y) (h3 : Pe K tc σ B z) (hp : pre x y z) : Pq K (tCall (Fn3R K pre R) [] E (tCons ta (tCons tb (tCons tc tNil)))) σ B (R x y z) := fun H e Q q => a_3 h h2 h3 H e _ fun vs B1 H1 u hv => by
  rw [List.append_nil]
  exact ⟨x, y, z, B1, u.bh, hv, hp, fun v r B2 H2 u2 r2 h2 => q v r B2 H2 (u.trans u2) r2 h2⟩
theorem Fn3R.st {pre : α → β → γ → Prop} {R : α → β → γ → δ → Prop} (h : Fn3R K pre R vs H Q E) (N : List Str) : ∃ x y z B, pre x y z ∧ St K [] B H [] ([ce x, ce y, ce z] ++ List.replicate (N.length - 3) none) (start N vs) B H ∧ ∀ v r B2 H2, Up B H B2 H2 → R x y z r → Rep.at_ K B2 v r → Q v H2 := by
  obtain ⟨x, y, z, B, e, ⟨v, _, rfl, h1, v2, _, rfl, h2, v3, _, rfl, h3, rfl⟩, hp, q⟩ := h
  exact ⟨x, y, z, B, hp, St.pure e (start_slots [v, v2, v3] [ce x, ce y, ce z] _ (.cons (At1.some h1) (.cons (At1.some h2) (.cons (At1.some h3) .nil)))), q⟩
theorem St.setR {i : Nat} {R : α → Prop} (s : St K W0 B0 H0 os Γ σ B H) (h : Pq K te σ B R) (k : ∀ x, R x → ∀ σ1 B1 H1, St K W0 B0 H0 os (cs Γ i (ce x)) σ1 B1 H1 → tz D σ1 H1) : tSeq (tAsg te (gName i)) tz D σ H :=
  h H s.bh _ fun v x B1 H1 u r hv => k x r _ B1 H1 ((s.up u).put i hv)
/-- a name set to None -/
theorem St.setN {i : Nat} (s : St K W0 B0 H0 os Γ σ B H) (k : ∀ σ1 B1 H1, St K W0 B0 H0 os (cs Γ i (ce (Mb.mk (none : Option (Tup Str))))) σ1 B1 H1 → tz D σ1 H1) : tSeq (tAsg (tC .non) (gName i)) tz D σ H := k _ B H (s.put (x := Mb.mk (none : Option (Tup Str))) i rfl)
end
theorem e_isN {x : Mb (Tup Str)} (h : Pe K te σ B x) : Pe K (tOp rIsN te (tC .non)) σ B (x.o.isNone) := fun H e Q q => h H e _ fun v B1 H1 u hv => by
  obtain ⟨o⟩ := x
  cases o with
  | none =>
    cases (show v = .non from hv)
    unfold rIsN
    exact ⟨rfl, q _ B1 H1 u (at_bl.mpr rfl)⟩
  | some t =>
    obtain ⟨a, vs, rfl, _⟩ := at_tup.mp (show Rep.at_ K B1 v t from hv)
    unfold rIsN
    exact ⟨rfl, q _ B1 H1 u (at_bl.mpr rfl)⟩
theorem e_notN {x : Mb (Tup Str)} (h : Pe K te σ B x) : Pe K (tOp rNotN te (tC .non)) σ B (!x.o.isNone) := fun H e Q q => h H e _ fun v B1 H1 u hv => by
  obtain ⟨o⟩ := x
  cases o with
  | none =>
    cases (show v = .non from hv)
    unfold rNotN
    exact ⟨rfl, q _ B1 H1 u (at_bl.mpr rfl)⟩
  | some t =>
    obtain ⟨a, vs, rfl, _⟩ := at_tup.mp (show Rep.at_ K B1 v t from hv)
    unfold rNotN
    exact ⟨rfl, q _ B1 H1 u (at_bl.mpr rfl)⟩
/-- for .. in range(a drawn number) -/
theorem St.rngB {R : Int → Prop} {g : TG} (s : St K W0 B0 H0 (boxC b c :: os) Γ σ B H) (h : Pb K b n te σ B R) (hc : c + n ≤ 2 ^ 40) (k : ∀ i : Int, R i → ∀ B1 H1, St K W0 B0 H0 (boxC b (c + n) :: os) Γ σ B1 H1 → tFor (iRng1 (tCons (tC (.int i)) tNil)) g tu D σ H1) : tFor (iRng1 (tCons te tNil)) g tu D σ H :=
  h H c s.bh s.box hc _ fun v x B2 H2 u bx r hv => by
    cases at_int.mp hv
    exact k x r B2 H2 (s.ub u bx)
theorem St.qrngB {R : Int → Prop} {g : TG} (s : St K W0 B0 H0 (boxC b c :: os) Γ σ B H) (h : Pb K b n te σ B R) (hc : c + n ≤ 2 ^ 40) (k : ∀ i : Int, R i → ∀ B1 H1, St K W0 B0 H0 (boxC b (c + n) :: os) Γ σ B1 H1 → tSeq (tFor (iRng1 (tCons (tC (.int i)) tNil)) g tu) tz D σ H1) : tSeq (tFor (iRng1 (tCons te tNil)) g tu) tz D σ H := s.rngB (D := { D with nx := tz D }) h hc k
section
variable {α : Type} [DecidableEq α] [Datum α]
/-- name, other = list(xs), a drawn thing -/
theorem St.newParB {β : Type} [Rep β] {R : β → Prop} {i j : Nat} {xs : List α} (s : St K W0 B0 H0 (boxC b c :: os) Γ σ B H) (h1 : Pe K ta σ B (Sq.mk xs)) (h2 : Pb K b m tb σ B R) (hc : c + m ≤ 2 ^ 40)
    (k : ∀ l y, R y → ∀ σ1 B1 H1, St K W0 B0 H0 (boxC b (c + m) :: (os ++ [lstC K l xs])) (cs (cs Γ i (ca l)) j (ce y)) σ1 B1 H1 → tz D σ1 H1) : tSeq (tPar i j (tCons (tCB (rListU K) (tCons ta tNil)) (tCons tb tNil))) tz D σ H :=
  h1 H s.bh _ fun v B1 H1 u hv => by
    obtain ⟨a, vs, rfl, hs, hx⟩ := hv
    refine .inl ⟨a, vs, rfl, hs.imp (Evl.ex_l u.bh) (ex_tx u.bh), fun p hp => ?_⟩
    have s1 : St K W0 B0 H0 (boxC b c :: (os ++ [lstC K p xs])) Γ σ B1 (upd H1 p (.lst vs)) := (s.up u).add (ob := .lst vs) hp (lstC K p xs) rfl ⟨vs, rfl, hx⟩
    exact (h2.mono u.bb) _ c s1.bh s1.box hc _ fun w y B2 H2 u2 bx2 r2 hw => ⟨.ref p, w, rfl, k p y r2 _ B2 H2 (((s1.ub u2 bx2).put (x := Any.mk (.ref p)) i rfl).put j hw)⟩
theorem St.extL {i k : Nat} {l : Addr} {xs ys : List α} (s : St K W0 B0 H0 os Γ σ B H) (h : os[k]? = some (lstC K l xs)) (hi : cg Γ i = ca l) (he : Pe K te σ B ys) (hz : xs.length + ys.length ≤ 1000000)
    (q : ∀ B1 H1, St K W0 B0 H0 (os.set k (lstC K l (xs ++ ys))) Γ σ B1 H1 → D.nx σ H1) : tDrop (tBM K "list" (rExtU K) (tVar i) (tCons te tNil)) D σ H := by
  obtain ⟨hb, vs, hl, hA⟩ := s.lst h
  refine ⟨_, s.sl.rf i hi, .inl ⟨rfl, vs, Evl.sq_of hl⟩, he H s.bh _ fun v B1 H1 u hv => ?_⟩
  obtain ⟨a, ws, rfl, hs, hx⟩ := at_list.mp hv
  refine ⟨l, a, vs, ws, rfl, rfl, u.hh l _ hl, Evl.ex_l u.bh hs, ?_, q B1 _ ((s.up u).chg (ob := .lst (vs ++ ws)) h rfl ⟨vs ++ ws, rfl, ?_⟩)⟩
  · rw [hA.length, hx.length, sizeLine_eq]
    omega
  · exact (hA.mono u.bb).append hx
end
end
end Ob

set_option Elab.async false
set_option linter.all false
set_option maxRecDepth 100000
set_option maxHeartbeats 4000000
/-! S5: loops with what follows; an if whose two ways meet. -/
namespace Ob
open PySem L2
open Evl (Ex)
open PySem.W (Datum Tup DatumOrd)
section
variable {K : PySem.W.Frag} {W0 : List Addr} {B0 H0 : Hp} {os : List OC} {Γ : List (Option Cell)} {σ : L2.St} {B H B1 H1 : Hp} {te ta tb tc tk tv : TE} {tt : TT} {D : Ends} {tu tw tz : TS}
theorem St.qforB {α : Type} [Rep α] {wi : TI} {j : Nat} {xs : List α} {b : Addr} {c : Int} (n : Nat) (vs : List Nat) (s : St K W0 B0 H0 (boxC b c :: os) Γ σ B H) (h : ItD K wi σ B xs) (hc : c + n * xs.length ≤ 2 ^ 40)
    (hs : ∀ done x rest, xs = done ++ x :: rest → ∀ (c' : Int) (σ' : L2.St) (B' H' : Hp) (N : L2.St → Hp → Prop), c' + n ≤ 2 ^ 40 → (∀ {c3 : Int} {Γ3 : List (Option Cell)} {σ3 : L2.St} {B3 H3 : Hp}, St K ((boxC b c' :: os).map (·.l)) B' H' (boxC b c3 :: os) Γ3 σ3 B3 H3 → c3 ≤ c' + n → cw Γ3 vs = cw Γ vs → N σ3 H3) →
      St K W0 B0 H0 (boxC b c' :: os) (cs (cw Γ vs) j (ce x)) σ' B' H' → tu { D with nx := N, ct := N, bk := tz D } σ' H')
    (k : ∀ σ' B' H', St K W0 B0 H0 (boxC b (c + n * xs.length) :: os) (cw Γ vs) σ' B' H' → tz D σ' H') : tSeq (tFor wi (gName j) tu) tz D σ H :=
  s.forB (D := { D with nx := tz D }) n vs h hc hs k
theorem St.qforC {α : Type} [Rep α] {wi : TI} {j : Nat} {xs : List α} (vs : List Nat) (s : St K W0 B0 H0 os Γ σ B H) (h : ItD K wi σ B xs)
    (hs : ∀ done x rest, xs = done ++ x :: rest → ∀ (σ' : L2.St) (B' H' : Hp) (N : L2.St → Hp → Prop), (∀ {Γ3 : List (Option Cell)} {σ3 : L2.St} {B3 H3 : Hp}, St K (os.map (·.l)) B' H' os Γ3 σ3 B3 H3 → cw Γ3 vs = cw Γ vs → N σ3 H3) →
      St K W0 B0 H0 os (cs (cw Γ vs) j (ce x)) σ' B' H' → tu { D with nx := N, ct := N, bk := tz D } σ' H')
    (k : ∀ σ' B' H', St K W0 B0 H0 os (cw Γ vs) σ' B' H' → tz D σ' H') : tSeq (tFor wi (gName j) tu) tz D σ H :=
  s.forC (D := { D with nx := tz D }) vs h hs k
/-- the two ways of an if meet again -/
theorem St.iteJ {b : Bool} (os' : List OC) (Γ' : List (Option Cell)) (s : St K W0 B0 H0 os Γ σ B H) (h : Pt tt σ B b) (J : ∀ σ1 B1 H1, St K W0 B0 H0 os' Γ' σ1 B1 H1 → tz D σ1 H1)
    (k1 : b = true → ∀ (N : L2.St → Hp → Prop), (∀ {σ1 B1 H1}, St K W0 B0 H0 os' Γ' σ1 B1 H1 → N σ1 H1) → ∀ B1 H1, St K W0 B0 H0 os Γ σ B1 H1 → tu { D with nx := N } σ H1)
    (k2 : b = false → ∀ (N : L2.St → Hp → Prop), (∀ {σ1 B1 H1}, St K W0 B0 H0 os' Γ' σ1 B1 H1 → N σ1 H1) → ∀ B1 H1, St K W0 B0 H0 os Γ σ B1 H1 → tw { D with nx := N } σ H1) : tSeq (tIfS tt tu tw) tz D σ H :=
  s.ite h (fun hb B1 H1 s1 => k1 hb (tz D) (fun {σ1 B1 H1} s2 => J σ1 B1 H1 s2) B1 H1 s1) fun hb B1 H1 s1 => k2 hb (tz D) (fun {σ1 B1 H1} s2 => J σ1 B1 H1 s2) B1 H1 s1
end
end Ob

set_option Elab.async false
set_option linter.all false
set_option maxRecDepth 100000
set_option maxHeartbeats 4000000
/-! Xd: dicts with tuples of texts as keys: {k: v}, k in d, d[k] = v. -/
namespace Ob
open PySem PySem.Spec PyProof.Rows L2
open Evl (Ex)
open PySem.W (Datum Tup DatumOrd)
section
variable {X : Cx}
/-- {k: v}, k a tuple -/
def tDisp1T (tk tv : TE) : TE := fun σ H Q => ∀ p, H p = none → tk σ (upd H p (.dT [])) fun x H1 => tv σ H1 fun y H2 => ∃ (b : Addr) (k : List Key), x = .ref b ∧ H2 b = some (.tup (k.map kV)) ∧ H2 p = some (.dT []) ∧ Q (.ref p) (upd H2 p (.dT [(k, y)]))
theorem d_dictSetT {pins : List (Addr × Obj)} {s : Shared} {σ : L2.St} {H : Hp} {E : Value → Shared → Prop} {D b : Addr} {kvs : List (List Key × V)} {k : List Key} {v : V} {r : Value} {Q : Unit → Shared → Prop} (hu : X.A.units < cLine) (I : Inv X pins σ H s) (hD : H D = some (.dT kvs)) (eb : H b = some (.tup (k.map kV))) (hz : kvs.length < sizeLine)
    (rv : RelV v r) (h : ∀ s', Inv X pins σ (upd H D (.dT (putK kvs k v))) s' → Q () s') : wpAny (model X.prog X.w) X.A (dictSet D (.ref b) r) Q E s := by
  obtain ⟨z, hd, xs, rel, dd⟩ := dt_of I.hok hD
  have hzx : xs.length ≤ sizeLine := by rw [← Paired.length rel]; exact z
  have hl : (putK kvs k v).length ≤ sizeLine := by have := length_putK kvs k v; omega
  refine wpAny_dictSet_heap (hsz := hzx) (knd := tupleKind (mixKind X.prog X.w)) hu (key_of I.hok eb) dd fun h' dd' hs => h _ ?_
  obtain ⟨q, es, ep, hq, h2, h3, h4, _, h5⟩ := dd'
  refine d_write I (by rw [hD]; exact True.intro) hs ⟨q, hq⟩ ⟨hl, hd, _, (rel.put k eb rv).keeps fun c ys ec => ?_, q, es, ep, hq, h2, h3, h4, h5⟩
  rw [upd_ne (ne_of ec hD (fun z => nomatch z))]
  exact ec
theorem pe_disp1T {pos : Pos} {k v : Expr} {tk tv : TE} (hu : X.A.units + 150 < cLine) (hk : PE X k tk) (hv : PE X v tv) : PE X (.Dict [some k] [v] pos) (tDisp1T tk tv) := by
  refine ⟨fun pins s σ H Q I q => ?_⟩
  have hn := I.hok.fresh (Nat.le_refl s.heap.objs.size)
  have I1 := I.laid (a := s.heap.objs.size) (o := .dT []) (h' := s.heap.push { cls := .type "dict", data := .dict #[] }) (t' := s.toks) (fun _ _ q => Heap.get?_push_of_some _ q) (Nat.le_refl _) (dt_empty s.heap I.big)
  refine wpAny_Dict_any (keys := [some k]) (values := [v]) rfl rfl (by simp) (Nat.le_of_ble_eq_true rfl) (pairTrees_cons_walk (thn (hk.run pins _ σ _ _ I1 (q _ hn)) fun u s1 ⟨x, H1, I2, rx, q1⟩ => thn (hv.run pins s1 σ H1 _ I2 q1) fun w2 s2 ⟨y, H2, I3, ry, b, kk, ex, eb, hD, q2⟩ => pairTrees_nil_walk ?_))
  subst ex
  cases (show u = Value.ref b from rx)
  unfold storeAll
  simp only [List.forIn_cons, List.forIn_nil]
  refine wpAny_bind (wpAny_bind (d_dictSetT (by omega) I3 hD eb (Nat.lt_of_lt_of_le Nat.zero_lt_one (by rw [sizeLine_eq]; decide)) ry fun s4 I4 => wpAny_pure ?_))
  exact wpAny_pure ⟨.ref s.heap.objs.size, _, I4, rfl, q2⟩
end
/-- a set of tuples of texts, held as the keys of a dict -/
structure TSet where
  ks : List (List Str)
def kT (x : List Str) : List Key := x.map Sum.inr
theorem kT_inj {x y : List Str} (h : kT x = kT y) : x = y := by
  unfold kT at h
  exact (List.map_inj_right fun a b e => by cases e; rfl).mp h
theorem kT_map (x : List Str) : (kT x).map kV = x.map V.str := by
  unfold kT
  rw [List.map_map]
  rfl
instance : Rep TSet := ⟨fun K B v S => ∃ a kvs, v = .ref a ∧ Rd B a (.dT kvs) ∧ kvs.map (·.1) = S.ks.map kT, fun e ⟨a, kvs, h1, h2, h3⟩ => ⟨a, kvs, h1, e.1 a _ rfl h2, h3⟩⟩
theorem valV_some {kvs : List (List Key × V)} {S : List (List Str)} (h : kvs.map (·.1) = S.map kT) (x : List Str) : (valV kvs (kT x)).isSome = decide (x ∈ S) := by
  rw [Bool.eq_iff_iff, decide_eq_true_iff]
  unfold valV
  rw [Option.isSome_map, List.find?_isSome]
  constructor
  · rintro ⟨p, hp, he⟩
    have : p.1 ∈ kvs.map (·.1) := List.mem_map.mpr ⟨p, hp, rfl⟩
    rw [h, of_decide_eq_true he] at this
    obtain ⟨y, hy, e⟩ := List.mem_map.mp this
    rw [← kT_inj e]
    exact hy
  · intro hx
    have : kT x ∈ kvs.map (·.1) := by rw [h]; exact List.mem_map.mpr ⟨x, hx, rfl⟩
    obtain ⟨p, hp, e⟩ := List.mem_map.mp this
    exact ⟨p, hp, decide_eq_true e⟩
theorem tup_key {K : PySem.W.Frag} {B H : Hp} {v : V} {x : Tup Str} (e : Ex B H) (h : Rep.at_ K B v x) : ∃ b, v = .ref b ∧ H b = some (.tup ((kT x.items).map kV)) := by
  obtain ⟨a, vs, rfl, h1, h2⟩ := at_tup.mp h
  exact ⟨a, rfl, by rw [kT_map, ← atAll_strs h2]; exact e _ _ h1⟩
section
variable {K : PySem.W.Frag} {W0 : List Addr} {B0 H0 : Hp} {os : List OC} {Γ : List (Option Cell)} {σ : L2.St} {B H B1 H1 : Hp} {te ta tb tc tk tv : TE} {tt : TT} {D : Ends} {tu tw tz : TS}
theorem e_inD {x : Tup Str} {S : TSet} (ha : Pe K ta σ B x) (hb : Pe K tb σ B S) (neg : Bool) : Pe K (tOp (rInU K neg) ta tb) σ B (ngb neg (decide (x.items ∈ S.ks))) :=
  e_op ha hb (rd_val (.bl _) (fun _ => at_bl.mpr rfl) fun B H v w e h1 h2 Q q => by
    obtain ⟨b, rfl, hb⟩ := tup_key e h1
    obtain ⟨a, kvs, rfl, h3, h4⟩ := h2
    refine .inr (.inl ⟨a, _, rfl, .inr ⟨kvs, kT x.items, b, Evl.ex_rd e h3, rfl, hb, rfl⟩, ?_⟩)
    rw [valV_some h4]
    exact q)
def dtC (l : Addr) (S : List (List Str)) : OC := ⟨l, fun _ o => ∃ kvs, o = .dT kvs ∧ kvs.map (·.1) = S.map kT, fun _ h => h⟩
theorem St.dct (s : St K W0 B0 H0 os Γ σ B H) {k : Nat} {l : Addr} {S : List (List Str)} (h : os[k]? = some (dtC l S)) : B l = none ∧ ∃ kvs, H l = some (.dT kvs) ∧ kvs.map (·.1) = S.map kT := by
  obtain ⟨h1, _, x, h3, vs, rfl, h4⟩ := s.own _ (List.mem_of_getElem? h)
  exact ⟨h1, vs, h3, h4⟩
/-- if k in d, d a dict that changes -/
theorem St.iteIn {i j k : Nat} {l : Addr} {S : List (List Str)} {x : Tup Str} (neg : Bool) (s : St K W0 B0 H0 os Γ σ B H) (h : os[k]? = some (dtC l S)) (hi : cg Γ i = ca l) (hj : cg Γ j = ce x)
    (k1 : ngb neg (decide (x.items ∈ S)) = true → tu D σ H) (k2 : ngb neg (decide (x.items ∈ S)) = false → tw D σ H) : tIfS (tTest (tOp (rInU K neg) (tVar j) (tVar i))) tu tw D σ H := by
  obtain ⟨hb, kvs, hl, hk⟩ := s.dct h
  obtain ⟨v, hv, hx⟩ := s.sl.get hj
  obtain ⟨b, rfl, hkey⟩ := tup_key s.bh hx
  refine ⟨_, hv, ⟨_, s.sl.rf i hi, .inr (.inl ⟨l, _, rfl, .inr ⟨kvs, kT x.items, b, .inl hl, rfl, hkey, rfl⟩, ?_⟩)⟩⟩
  rw [valV_some hk]
  refine ⟨_, rfl, ?_⟩
  cases e : ngb neg (decide (x.items ∈ S)) with
  | true => exact k1 e
  | false => exact k2 e
/-- d[k] = v, k new -/
theorem St.putD {α : Type} [Rep α] {i j k : Nat} {l : Addr} {S : List (List Str)} {x : Tup Str} {y : α} (s : St K W0 B0 H0 os Γ σ B H) (h : os[k]? = some (dtC l S)) (hi : cg Γ i = ca l) (hj : cg Γ j = ce x) (hy : Pe K te σ B y) (hn : x.items ∉ S) (hz : S.length ≤ 1000000)
    (q : ∀ B1 H1, St K W0 B0 H0 (os.set k (dtC l (S ++ [x.items]))) Γ σ B1 H1 → D.nx σ H1) : tAsg te (gSub (tVar i) (tVar j) rSetD) D σ H := hy H s.bh _ fun v B1 H1 u hv => by
  have s1 := s.up u
  obtain ⟨hb, kvs, hl, hk⟩ := s1.dct h
  obtain ⟨w, hw, hx⟩ := s1.sl.get hj
  obtain ⟨b, rfl, hkey⟩ := tup_key s1.bh hx
  have hkl : kvs.length = S.length := by
    have := congrArg List.length hk
    rwa [List.length_map, List.length_map] at this
  refine ⟨_, s1.sl.rf i hi, ⟨_, hw, l, _, rfl, .inr ⟨kvs, kT x.items, b, hl, rfl, hkey, by rw [hkl, sizeLine_eq]; omega, rfl⟩, ?_⟩⟩
  refine q B1 _ (s1.chg (ob := .dT (putK kvs (kT x.items) v)) h rfl ⟨_, rfl, ?_⟩)
  have hno : (kvs.any fun kv => decide (kv.1 = kT x.items)) = false := by
    have h1 := valV_some hk x.items
    rw [decide_eq_false hn] at h1
    rw [List.any_eq_false]
    intro p hp he
    unfold valV at h1
    rw [Option.isSome_map] at h1
    have : (kvs.find? fun kv => decide (kv.1 = kT x.items)).isSome = true := List.find?_isSome.mpr ⟨p, hp, he⟩
    rw [this] at h1
    cases h1
  unfold putK
  rw [hno, if_neg (by decide), List.map_append, List.map_append, hk]
  rfl
end
end Ob

set_option Elab.async false
set_option linter.all false
set_option maxRecDepth 100000
set_option maxHeartbeats 4000000
/-! S7: while in the record; names set at once of which one is new and changes; a dict frozen. -/
namespace Ob
open PySem L2
open Evl (Ex)
open PySem.W (Datum Tup DatumOrd)
section
variable {K : PySem.W.Frag} {W0 : List Addr} {B0 H0 : Hp} {os : List OC} {Γ : List (Option Cell)} {σ : L2.St} {B H B1 H1 : Hp} {te ta tb tc tk tv : TE} {tt : TT} {D : Ends} {tu tw tz : TS}
theorem St.whl {δ : Type} (μ : δ → Nat) (oz : δ → List OC) (Γz : δ → List (Option Cell)) (P : δ → Prop) (bz : δ → Bool) (d0 : δ) (h0 : P d0) (s : St K W0 B0 H0 (oz d0) (Γz d0) σ B H)
    (ht : ∀ d, P d → ∀ σ' B' H', St K W0 B0 H0 (oz d) (Γz d) σ' B' H' → Pt tt σ' B' (bz d))
    (hb : ∀ d, P d → bz d = true → ∀ (σ' : L2.St) (B' H' : Hp) (N : L2.St → Hp → Prop), (∀ (d' : δ) {σ3 : L2.St} {B3 H3 : Hp}, μ d' < μ d → P d' → St K W0 B0 H0 (oz d') (Γz d') σ3 B3 H3 → N σ3 H3) → St K W0 B0 H0 (oz d) (Γz d) σ' B' H' → tu { D with nx := N, ct := N, bk := D.nx } σ' H')
    (k : ∀ d, P d → bz d = false → ∀ σ' B' H', St K W0 B0 H0 (oz d) (Γz d) σ' B' H' → D.nx σ' H') : tWhile tt tu D σ H := by
  refine ⟨fun m σ' H' => ∃ d B', m = μ d ∧ P d ∧ St K W0 B0 H0 (oz d) (Γz d) σ' B' H', ⟨_, d0, B, rfl, h0, s⟩, ?_⟩
  rintro m σ' H' ⟨d, B', rfl, hP, s'⟩
  refine ht d hP σ' B' H' s' H' s'.bh _ fun B2 H2 u => ?_
  have s2 := s'.up u
  cases e : bz d with
  | true =>
    rw [if_pos rfl]
    exact ⟨fun σ3 H3 => ∃ m', m' < μ d ∧ ∃ d' B3, m' = μ d' ∧ P d' ∧ St K W0 B0 H0 (oz d') (Γz d') σ3 B3 H3, fun _ _ h => h, hb d hP e σ' B2 H2 _ (fun d' {σ3 B3 H3} hm hp s3 => ⟨_, hm, d', B3, rfl, hp, s3⟩) s2⟩
  | false =>
    rw [if_neg (by decide)]
    exact k d hP e σ' B2 H2 s2
theorem St.qwhl {δ : Type} (μ : δ → Nat) (oz : δ → List OC) (Γz : δ → List (Option Cell)) (P : δ → Prop) (bz : δ → Bool) (d0 : δ) (h0 : P d0) (s : St K W0 B0 H0 (oz d0) (Γz d0) σ B H)
    (ht : ∀ d, P d → ∀ σ' B' H', St K W0 B0 H0 (oz d) (Γz d) σ' B' H' → Pt tt σ' B' (bz d))
    (hb : ∀ d, P d → bz d = true → ∀ (σ' : L2.St) (B' H' : Hp) (N : L2.St → Hp → Prop), (∀ (d' : δ) {σ3 : L2.St} {B3 H3 : Hp}, μ d' < μ d → P d' → St K W0 B0 H0 (oz d') (Γz d') σ3 B3 H3 → N σ3 H3) → St K W0 B0 H0 (oz d) (Γz d) σ' B' H' → tu { D with nx := N, ct := N, bk := tz D } σ' H')
    (k : ∀ d, P d → bz d = false → ∀ σ' B' H', St K W0 B0 H0 (oz d) (Γz d) σ' B' H' → tz D σ' H') : tSeq (tWhile tt tu) tz D σ H :=
  s.whl (D := { D with nx := tz D }) μ oz Γz P bz d0 h0 ht hb k
/-- name, other = [], a thing -/
theorem St.parNewL {α β : Type} [Rep α] [Rep β] {i j : Nat} {x : β} (s : St K W0 B0 H0 os Γ σ B H) (h : Pe K tb σ B x) (k : ∀ l σ1 B1 H1, St K W0 B0 H0 (os ++ [lstC K l ([] : List α)]) (cs (cs Γ i (ca l)) j (ce x)) σ1 B1 H1 → tz D σ1 H1) : tSeq (tPar i j (tCons (tLst tNil) (tCons tb tNil))) tz D σ H :=
  ⟨Nat.zero_le _, fun p hp => by
    have s1 : St K W0 B0 H0 (os ++ [lstC K p ([] : List α)]) Γ σ B (upd H p (.lst [])) := s.add (ob := .lst []) hp (lstC K p ([] : List α)) rfl ⟨[], rfl, .nil⟩
    exact h _ s1.bh _ fun v B1 H1 u hv => ⟨.ref p, v, rfl, k p _ B1 H1 (((s1.up u).put (x := Any.mk (.ref p)) i rfl).put j hv)⟩⟩
/-- name, other = a thing, {k: v} -/
theorem St.parNewD {α β : Type} [Rep α] [Rep β] {i j m : Nat} {x : α} {y : β} {t : Tup Str} (s : St K W0 B0 H0 os Γ σ B H) (h : Pe K ta σ B x) (hm : cg Γ m = ce t) (hv : Pe K tv σ B y)
    (k : ∀ l σ1 B1 H1, St K W0 B0 H0 (os ++ [dtC l [t.items]]) (cs (cs Γ i (ce x)) j (ca l)) σ1 B1 H1 → tz D σ1 H1) : tSeq (tPar i j (tCons ta (tCons (tDisp1T (tVar m) tv) tNil))) tz D σ H :=
  h H s.bh _ fun v B1 H1 u hvx => by
    have s1 := s.up u
    refine fun p hp => ?_
    have s2 : St K W0 B0 H0 (os ++ [dtC p []]) Γ σ B1 (upd H1 p (.dT [])) := s1.add (ob := .dT []) hp (dtC p []) rfl ⟨[], rfl, rfl⟩
    obtain ⟨w, hw, hx⟩ := s2.sl.get hm
    refine ⟨w, hw, (hv.mono u.bb) _ s2.bh _ fun z B2 H2 u2 hz => ?_⟩
    have s3 := s2.up u2
    obtain ⟨b, rfl, hkey⟩ := tup_key s3.bh (Rep.mono u2.bb hx)
    have hl : (os ++ [dtC p []])[os.length]? = some (dtC p []) := by simp
    obtain ⟨_, kvs, hd, hk⟩ := s3.dct hl
    have : kvs = [] := by simpa using hk
    subst this
    refine ⟨b, kT t.items, rfl, hkey, hd, ⟨v, .ref p, rfl, ?_⟩⟩
    have s4 := s3.chg (o' := dtC p [t.items]) (ob := .dT [(kT t.items, z)]) hl rfl ⟨_, rfl, rfl⟩
    have e : (os ++ [dtC p []]).set os.length (dtC p [t.items]) = os ++ [dtC p [t.items]] := by simp
    rw [e] at s4
    exact k p _ B2 _ ((s4.put i (Rep.mono u2.bb hvx)).put (x := Any.mk (.ref p)) j rfl)
theorem St.qforG {α δ : Type} [Rep α] {wi : TI} {g : TG} {xs : List α} (s : St K W0 B0 H0 os Γ σ B H) (h : ItD K wi σ B xs) (oz : List α → δ → List OC) (Γz : List α → δ → List (Option Cell)) (P : List α → δ → Prop)
    (h0 : ∃ d, P [] d ∧ ∀ B1 H1, St K W0 B0 H0 os Γ σ B1 H1 → St K W0 B0 H0 (oz [] d) (Γz [] d) σ B1 H1)
    (hs : ∀ done x rest d, xs = done ++ x :: rest → P done d → ∀ (v : V) (σ' : L2.St) (B' H' : Hp) (N : L2.St → Hp → Prop), (∀ (d' : δ) {σ3 : L2.St} {B3 H3 : Hp}, P (done ++ [x]) d' → St K ((oz done d).map (·.l)) B' H' (oz (done ++ [x]) d') (Γz (done ++ [x]) d') σ3 B3 H3 → N σ3 H3) →
      St K W0 B0 H0 (oz done d) (Γz done d) σ' B' H' → Rep.at_ K B' v x → g v σ' H' fun σ2 H2 => tu { D with nx := N, ct := N, bk := tz D } σ2 H2)
    (k : ∀ d, P xs d → ∀ σ' B' H', St K W0 B0 H0 (oz xs d) (Γz xs d) σ' B' H' → tz D σ' H') : tSeq (tFor wi g tu) tz D σ H := s.forG (D := { D with nx := tz D }) h oz Γz P h0 hs k
theorem St.qputD {α : Type} [Rep α] {i j k : Nat} {l : Addr} {S : List (List Str)} {x : Tup Str} {y : α} (s : St K W0 B0 H0 os Γ σ B H) (h : os[k]? = some (dtC l S)) (hi : cg Γ i = ca l) (hj : cg Γ j = ce x) (hy : Pe K te σ B y) (hn : x.items ∉ S) (hz : S.length ≤ 1000000)
    (q : ∀ B1 H1, St K W0 B0 H0 (os.set k (dtC l (S ++ [x.items]))) Γ σ B1 H1 → tz D σ H1) : tSeq (tAsg te (gSub (tVar i) (tVar j) rSetD)) tz D σ H := s.putD (D := { D with nx := tz D }) h hi hj hy hn hz q
theorem St.frzD {i k : Nat} {l : Addr} {S : List (List Str)} (s : St K W0 B0 H0 os Γ σ B H) (h : os[k]? = some (dtC l S)) (hi : cg Γ i = ca l) (hw : l ∉ W0) : ∃ B1, Ex B B1 ∧ St K W0 B0 H0 (os.eraseIdx k) (cs Γ i (ce (TSet.mk S))) σ B1 H := by
  obtain ⟨hb, kvs, hl, hA⟩ := s.dct h
  have e : Ex B (upd B l (.dT kvs)) := Ex.new hb
  have s2 : Slots K (upd B l (.dT kvs)) σ (cs Γ i (ce (TSet.mk S))) := (s.sl.mono e).re (s.sl.rf i hi) ⟨l, kvs, rfl, .inl upd_same, hA⟩
  have h0 : H0 l = none := by
    rcases (s.own _ (List.mem_of_getElem? h)).2.1 with z | z
    · exact absurd z hw
    · exact z
  refine ⟨_, e, s.bb.trans e, ex_in s.bh hl, s.hh, s.dm, fun a ha => ?_, fun o ho => ?_, s.nd.sublist ((List.eraseIdx_sublist os k).map _), s2⟩
  · by_cases z : a = l
    · exact .inr (z ▸ h0)
    · rw [upd_ne z] at ha
      exact s.nw a ha
  · have hm := (List.eraseIdx_sublist os k).subset ho
    obtain ⟨g1, g2, w, g3, g4⟩ := s.own o hm
    have ne : o.l ≠ l := by
      intro z
      have nd := s.nd
      have hlt := (List.getElem?_eq_some_iff.mp h).1
      have e1 : os = os.take k ++ dtC l S :: os.drop (k + 1) := by
        have e2 : os.drop k = dtC l S :: os.drop (k + 1) := by
          rw [List.drop_eq_getElem_cons hlt]
          congr 1
          exact (List.getElem?_eq_some_iff.mp h).2
        rw [← e2, List.take_append_drop]
      rw [List.eraseIdx_eq_take_drop_succ] at ho
      rw [e1, List.map_append, List.map_cons, List.nodup_append, List.nodup_cons] at nd
      rcases List.mem_append.mp ho with w | w
      · exact nd.2.2 _ (List.mem_map.mpr ⟨o, w, z⟩) _ List.mem_cons_self rfl
      · exact nd.2.1.1 (List.mem_map.mpr ⟨o, w, z⟩)
    exact ⟨by rw [upd_ne ne]; exact g1, g2, w, g3, o.mono e g4⟩
/-- for .. in a drawn thing -/
theorem St.qforDr {α : Type} [Rep α] {b : Addr} {c n : Int} {R : α → Prop} {g : TG} (s : St K W0 B0 H0 (boxC b c :: os) Γ σ B H) (h : Pb K b n te σ B R) (hc : c + n ≤ 2 ^ 40) (k : ∀ x, R x → ∀ v B1 H1, Rep.at_ K B1 v x → St K W0 B0 H0 (boxC b (c + n) :: os) Γ σ B1 H1 → tSeq (tFor (iSeq K (tC v)) g tu) tz D σ H1) : tSeq (tFor (iSeq K te) g tu) tz D σ H :=
  h H c s.bh s.box hc _ fun v x B2 H2 u bx r hv => k x r v B2 H2 hv (s.ub u bx)
end
end Ob

set_option Elab.async false
set_option linter.all false
set_option maxRecDepth 100000
set_option maxHeartbeats 4000000
/-! Dd: dicts from texts to ints that grow: {x: n for ..} with one for and with two, update by new keys. -/
namespace Ob
open PySem L2
open Evl (Ex)
open PySem.W (Datum Tup DatumOrd)
def kvI (d : List (Str × Int)) : List (Key × V) := d.map fun p => (.inr p.1, .int p.2)
def cI (ks : List Str) (n : Int) : List (Str × Int) := ks.map fun k => (k, n)
theorem kvI_len (d : List (Str × Int)) : (kvI d).length = d.length := by simp [kvI]
theorem cI_len (ks : List Str) (n : Int) : (cI ks n).length = ks.length := by simp [cI]
theorem cI_keys (ks : List Str) (n : Int) : (cI ks n).map (·.1) = ks := by
  unfold cI
  rw [List.map_map]
  exact List.map_id' ks
theorem kvI_keys (d : List (Str × Int)) : (kvI d).map (fun kv => kV kv.1) = (d.map (·.1)).map V.str := by
  unfold kvI
  rw [List.map_map, List.map_map]
  rfl
theorem kvI_app (d e : List (Str × Int)) : kvI (d ++ e) = kvI d ++ kvI e := by simp [kvI]
theorem valV_kvI : ∀ (d : List (Str × Int)) (x : Str), valV (kvI d) (.inr x) = (d.lookup x).map V.int
  | [], x => rfl
  | (k, n) :: d, x => by
    unfold kvI
    rw [List.map_cons]
    by_cases h : k = x
    · rw [valV_pos (by rw [h]), h]
      simp
    · have h2 : (x == k) = false := by simpa using fun z : x = k => h z.symm
      rw [valV_neg (fun z => h (Sum.inr.inj z)), List.lookup_cons, h2]
      exact valV_kvI d x
theorem lookup_out : ∀ {d : List (Str × Int)} {x : Str}, x ∉ d.map (·.1) → d.lookup x = none
  | [], _, _ => rfl
  | (k, n) :: d, x, h => by
    rw [List.map_cons, List.mem_cons, not_or] at h
    have h2 : (x == k) = false := by simpa using h.1
    rw [List.lookup_cons, h2]
    exact lookup_out h.2
theorem lookup_in : ∀ {d : List (Str × Int)} {x : Str}, x ∈ d.map (·.1) → ∃ n, d.lookup x = some n ∧ (x, n) ∈ d
  | (k, n) :: d, x, h => by
    rw [List.lookup_cons]
    by_cases e : x = k
    · subst e
      exact ⟨n, by simp, List.mem_cons_self⟩
    · have h2 : (x == k) = false := by simpa using e
      rw [h2]
      rw [List.map_cons, List.mem_cons] at h
      obtain ⟨m, h3, h4⟩ := lookup_in (h.resolve_left e)
      exact ⟨m, h3, List.mem_cons_of_mem _ h4⟩
theorem putK_out {d : List (Str × Int)} {x : Str} (n : Int) (h : x ∉ d.map (·.1)) : putK (kvI d) (.inr x) (.int n) = kvI (d ++ [(x, n)]) := by
  rw [putK_new _ (by rw [valV_kvI, lookup_out h]; rfl), kvI_app]
  rfl
theorem putK_cI (ks : List Str) (x : Str) (n : Int) : putK (kvI (cI ks n)) (.inr x) (.int n) = kvI (cI (insK ks x) n) := by
  unfold insK
  by_cases h : x ∈ ks
  · rw [if_pos h]
    unfold putK
    rw [if_pos]
    · unfold kvI cI
      rw [List.map_map, List.map_map, List.map_map]
      refine List.map_congr_left fun k _ => ?_
      show (if _ then _ else _) = _
      split <;> rfl
    · unfold kvI cI
      rw [List.map_map, List.any_map, List.any_eq_true]
      exact ⟨x, h, by simp⟩
  · rw [if_neg h, putK_out n (by rw [cI_keys]; exact h)]
    simp [cI]
theorem mergeK_new {d : List (Str × Int)} {n : Int} : ∀ {ks : List Str} {d : List (Str × Int)}, ks.Nodup → (∀ k ∈ ks, k ∉ d.map (·.1)) → mergeK (kvI d) (kvI (cI ks n)) = kvI (d ++ cI ks n)
  | [], d, _, _ => by
    show kvI d = kvI (d ++ [])
    rw [List.append_nil]
  | k :: ks, d, nd, h => by
    rw [List.nodup_cons] at nd
    show mergeK (putK (kvI d) (.inr k) (.int n)) (kvI (cI ks n)) = _
    rw [putK_out n (h k List.mem_cons_self), mergeK_new (d := d ++ [(k, n)]) nd.2]
    · simp [cI]
    · intro z hz hm
      rw [List.map_append, List.mem_append] at hm
      rcases hm with hm | hm
      · exact h z (List.mem_cons_of_mem _ hz) hm
      · have : z = k := by simpa using hm
        exact nd.1 (this ▸ hz)
section
variable {K : PySem.W.Frag} {H B B' : Hp} {v : V} {σ : L2.St} {te ta tb tc tk tv : TE} {tt tt1 tu : TT}
theorem kvI_dic : ∀ (d : List (Str × Int)), DicAt K B (kvI d) d
  | [] => .nil
  | _ :: d => .cons ⟨rfl, at_int.mpr rfl⟩ (kvI_dic d)
theorem dic_kvI : ∀ {ks : List (Key × V)} {d : List (Str × Int)}, DicAt K B ks d → ks = kvI d
  | _, _, .nil => rfl
  | _, _, .cons (a := p) (b := q) ⟨h1, h2⟩ t => by
    rw [dic_kvI t]
    unfold kvI
    rw [List.map_cons, ← h1, ← at_int.mp h2]
/-- {x: n for x in xs} -/
theorem dc_const {wi : TI} {vs : List Nat} {j : Nat} {xs : List Str} {n : Int} {Q : VK} (h : ItD K wi σ B xs) (e : Ex B H) (hz : xs.length ≤ 1000000) (hj : ∀ v, ((wipe σ vs).set j (some v))[j]? = some (some v) ∧ wipe ((wipe σ vs).set j (some v)) vs = wipe σ vs) (hv : ∀ σ B, Pe K tv σ B n)
    (q : ∀ D B1 H1, Up B H B1 H1 → B1 D = none → H D = none → H1 D = some (.dK (kvI (cI (insAll [] xs) n))) → Q (.ref D) H1) : tDc wi (gName j) tYes (tVar j) tv vs σ H Q :=
  h H e _ fun J B1 H1 G Y up W hG hY D hD => by
    have hDH : H D = none := Evl.fresh_back up.hh hD
    have hDB : B1 D = none := Evl.fresh_back up.bh hD
    refine walk_w W (fun i H' => ∃ Bi, Up B1 H1 Bi H' ∧ Bi D = none ∧ H' D = some (.dK (kvI (cI (insAll [] (xs.take i)) n)))) ⟨B1, (Up.refl up.bh).hold hD, hDB, upd_same⟩ (fun i H' _ p => ?_) (fun i x Hx H' hi p hy => ?_) (fun H' p => ?_)
    · obtain ⟨Bi, u, _⟩ := p
      exact hG H' (u.bb.trans u.bh)
    · obtain ⟨Bi, u, hb, hd⟩ := p
      obtain ⟨d, hd', hB⟩ := hY i x Hx H' hi (u.bb.trans u.bh) hy
      obtain ⟨B2, u2, hx⟩ := hB Bi u.bb u.bh
      cases at_str.mp hx
      obtain ⟨o1, o2⟩ := u2.out hb hd
      refine ⟨(hj _).2, ⟨.str d, (hj _).1, ?_⟩⟩
      refine (hv _ B2) H' u2.bh _ fun w B3 H3 u3 hw => ?_
      cases at_int.mp hw
      refine ⟨_, .inr d, rfl, (u3.out o1 o2).2, ?_, B3, ((u.trans u2).trans u3).mut hD (u3.out o1 o2).1, (u3.out o1 o2).1, ?_⟩
      · rw [kvI_len, cI_len]
        have h1 := insAll_len (xs.take i) []
        have h2 := List.length_take_le i xs
        have : (sizeLine : Nat) = 16777216 := sizeLine_eq
        simp at h1
        omega
      · rw [upd_same, putK_cI, take_snoc hd', insAll_snoc]
    · obtain ⟨Bi, u, hb, hd⟩ := p
      rw [List.take_length] at hd
      exact q D Bi H' (up.trans u) hb hDH hd
/-- {y: n for x in xs for y in ys x if f1 x y} -/
theorem dc2_const {γ : Type} [Rep γ] {wi wi1 : TI} {g g1 : TG} {vs vs1 : List Nat} {xs : List γ} {n : Int} {Q : VK} (ys : γ → List Str) (f1 : γ → Str → Bool) (h : ItD K wi σ B xs) (e : Ex B H) (hz : (xs.flatMap ys).length ≤ 1000000)
    (ht : ∀ x ∈ xs, ∀ v B1, Ex B B1 → Rep.at_ K B1 v x → ∃ σ2, (∀ H (Q : L2.St → Hp → Prop), Ex B1 H → Q σ2 H → g v (wipe σ vs) H Q) ∧ wipe σ2 vs = wipe σ vs ∧
      ItD K wi1 σ2 B1 (ys x) ∧ ∀ y ∈ ys x, ∀ w B2, Ex B1 B2 → Rep.at_ K B2 w y → ∃ σ3, (∀ H (Q : L2.St → Hp → Prop), Ex B2 H → Q σ3 H → g1 w (wipe σ2 vs1) H Q) ∧ wipe σ3 vs1 = wipe σ2 vs1 ∧ Pt tt1 σ3 B2 (f1 x y) ∧ Pe K tk σ3 B2 y ∧ Pe K tv σ3 B2 n)
    (q : ∀ D B1 H1, Up B H B1 H1 → B1 D = none → H D = none → H1 D = some (.dK (kvI (cI (insAll [] (xs.flatMap fun x => (ys x).filter (f1 x))) n))) → Q (.ref D) H1) : tDc2 wi g tYes wi1 g1 tt1 tk tv vs vs1 σ H Q :=
  h H e _ fun J B1 H1 G Y up W hG hY D hD => by
    have hDH : H D = none := Evl.fresh_back up.hh hD
    have hDB : B1 D = none := Evl.fresh_back up.bh hD
    have hsz : (sizeLine : Nat) = 16777216 := sizeLine_eq
    refine walk_w W (fun i H' => ∃ Bi, Up B1 H1 Bi H' ∧ Bi D = none ∧ H' D = some (.dK (kvI (cI (insAll [] ((xs.take i).flatMap fun x => (ys x).filter (f1 x))) n)))) ⟨B1, (Up.refl up.bh).hold hD, hDB, upd_same⟩ (fun i H' _ p => ?_) (fun i x Hx H' hi p hy => ?_) (fun H' p => ?_)
    · obtain ⟨Bi, u, _⟩ := p
      exact hG H' (u.bb.trans u.bh)
    · obtain ⟨Bi, u, hb, hd⟩ := p
      obtain ⟨d, hd', hB⟩ := hY i x Hx H' hi (u.bb.trans u.bh) hy
      obtain ⟨B2, u2, hx⟩ := hB Bi u.bb u.bh
      obtain ⟨o1, o2⟩ := u2.out hb hd
      obtain ⟨σ2, hg, hw, hI, hT⟩ := ht d (mem_of_get hd') x B2 ((up.bb.trans u.bb).trans u2.bb) hx
      refine hg H' _ u2.bh ⟨hw, ?_⟩
      show wi1 σ2 H' _
      refine hI H' u2.bh _ fun J1 B4 H4 G1 Y1 up1 W1 hG1 hY1 => ?_
      obtain ⟨o3, o4⟩ := up1.out o1 o2
      refine walk_w W1 (fun j H' => ∃ Bj, Up B1 H1 Bj H' ∧ Ex B4 Bj ∧ Bj D = none ∧ H' D = some (.dK (kvI (cI (insAll [] (((xs.take i).flatMap fun x => (ys x).filter (f1 x)) ++ ((ys d).take j).filter (f1 d))) n)))) ⟨B4, (u.trans u2).trans up1, Ex.refl _, o3, ?_⟩ (fun j H' _ p => ?_) (fun j y Hy Hy' hj p hyy => ?_) (fun H' p => ?_)
      · rw [List.take_zero, List.filter_nil, List.append_nil]
        exact o4
      · obtain ⟨Bj, uj, bj, _⟩ := p
        exact hG1 H' (bj.trans uj.bh)
      · obtain ⟨Bj, uj, bj, hbj, hdj⟩ := p
        obtain ⟨c, hc, hB5⟩ := hY1 j y Hy Hy' hj (bj.trans uj.bh) hyy
        obtain ⟨B5, u5, hc5⟩ := hB5 Bj bj uj.bh
        obtain ⟨o5, o6⟩ := u5.out hbj hdj
        obtain ⟨σ3, hg3, hw3, htt3, hk3, hv3⟩ := hT c (mem_of_get hc) y B5 ((up1.bb.trans bj).trans u5.bb) hc5
        refine hg3 Hy' _ u5.bh ⟨hw3, htt3.stay u5.bh fun H6 u6 => ?_⟩
        obtain ⟨o7, o8⟩ := u6.out o5 o6
        cases hf1 : f1 d c with
        | false =>
          refine ⟨B5, (uj.trans u5).trans u6, bj.trans u5.bb, o7, ?_⟩
          rw [take_snoc hc, List.filter_append, List.filter_cons, if_neg (by rw [hf1]; decide), List.filter_nil, List.append_nil]
          exact o8
        | true =>
          refine hk3 H6 u6.bh _ fun kv B7 H7 u7 hkv => ?_
          refine (hv3.mono u7.bb) H7 u7.bh _ fun w B8 H8 u8 hw8 => ?_
          cases at_int.mp hw8
          have out := (u7.trans u8).out o7 o8
          refine ⟨_, .inr c, at_str.mp hkv, out.2, ?_, B8, ((((uj.trans u5).trans u6).trans u7).trans u8).mut hD out.1, ((bj.trans u5.bb).trans u7.bb).trans u8.bb, out.1, ?_⟩
          · rw [kvI_len, cI_len]
            have h1 := insAll_len (((xs.take i).flatMap fun x => (ys x).filter (f1 x)) ++ ((ys d).take j).filter (f1 d)) []
            have h2 := flatMap_filt_len (fun _ => true) ys f1 (fun _ y => y) (xs.take i)
            have h3 := flatMap_take_len ys xs i
            have h4 := flatMap_take_len ys xs (i + 1)
            rw [take_snoc hd', List.flatMap_append, List.length_append] at h4
            have h5 : (([d] : List γ).flatMap ys).length = (ys d).length := by simp
            have h6 := List.length_filter_le (f1 d) ((ys d).take j)
            have h7 := List.length_take_le j (ys d)
            rw [List.filter_eq_self.mpr (fun _ _ => rfl)] at h2
            simp only [List.map_id'] at h2
            rw [List.length_append] at h1
            simp only [List.length_nil] at h1
            omega
          · rw [upd_same, putK_cI, take_snoc hc, List.filter_append, List.filter_cons, if_pos hf1, ← List.append_assoc, List.filter_nil, insAll_snoc]
      · obtain ⟨Bj, uj, bj, hbj, hdj⟩ := p
        refine ⟨Bj, uj, hbj, ?_⟩
        rw [List.take_length] at hdj
        rw [take_snoc hd', List.flatMap_append]
        simpa using hdj
    · obtain ⟨Bi, u, hb, hd⟩ := p
      rw [List.take_length] at hd
      exact q D Bi H' (up.trans u) hb hDH hd
end
end Ob

set_option Elab.async false
set_option linter.all false
set_option maxRecDepth 100000
set_option maxHeartbeats 4000000
/-! Dr: dicts from texts to ints that grow, in the record. -/
namespace Ob
open PySem L2
open Evl (Ex)
open PySem.W (Datum Tup DatumOrd)
def dkiC (l : Addr) (d : List (Str × Int)) : OC := ⟨l, fun _ o => o = .dK (kvI d), fun _ h => h⟩
section
variable {K : PySem.W.Frag} {W0 : List Addr} {B0 H0 : Hp} {os : List OC} {Γ : List (Option Cell)} {σ : L2.St} {B H B1 H1 : Hp} {te ta tb tc tk tv : TE} {tt tt1 : TT} {D : Ends} {tu tw tz : TS}
/-- a new object that a reading made, kept as one that may change -/
theorem St.adopt (s : St K W0 B0 H0 os Γ σ B H) (u : Up B H B1 H1) {p : Addr} {ob : HO} (hb : B1 p = none) (hn : H p = none) (hp : H1 p = some ob) (o : OC) (ho : o.l = p) (hP : o.P B1 ob) : St K W0 B0 H0 (os ++ [o]) Γ σ B1 H1 := by
  have s1 := s.up u
  have h0 : H0 p = none := by
    cases q : H0 p with
    | none => rfl
    | some x => exact absurd hn (s.dm p (by rw [q]; exact fun z => nomatch z))
  refine ⟨s1.bb, s1.bh, s1.hh, s1.dm, s1.nw, fun o' ho' => ?_, ?_, s1.sl⟩
  · rcases List.mem_append.mp ho' with h | h
    · exact s1.own o' h
    · rw [List.mem_singleton.mp h, ho]
      exact ⟨hb, .inr h0, ob, hp, hP⟩
  · rw [List.map_append, List.nodup_append]
    refine ⟨s1.nd, by simp, fun a ha c hc e => ?_⟩
    obtain ⟨o', h, rfl⟩ := List.mem_map.mp ha
    have : c = p := (List.mem_singleton.mp hc).trans ho
    obtain ⟨_, _, x, h3, _⟩ := s.own o' h
    rw [e, this, hn] at h3
    cases h3
theorem St.forget (s : St K W0 B0 H0 os Γ σ B H) (k : Nat) : St K W0 B0 H0 (os.eraseIdx k) Γ σ B H :=
  ⟨s.bb, s.bh, s.hh, s.dm, s.nw, fun o ho => s.own o ((List.eraseIdx_sublist os k).subset ho), s.nd.sublist ((List.eraseIdx_sublist os k).map _), s.sl⟩
theorem St.dki (s : St K W0 B0 H0 os Γ σ B H) {k : Nat} {l : Addr} {d : List (Str × Int)} (h : os[k]? = some (dkiC l d)) : B l = none ∧ H l = some (.dK (kvI d)) := by
  obtain ⟨h1, _, x, h3, h4⟩ := s.own _ (List.mem_of_getElem? h)
  exact ⟨h1, (show H l = some x from h3).trans (congrArg some h4)⟩
theorem St.fzI {i k : Nat} {l : Addr} {d : List (Str × Int)} (s : St K W0 B0 H0 os Γ σ B H) (h : os[k]? = some (dkiC l d)) (hi : cg Γ i = ca l) (hz : d.length ≤ 1000000) : Ex B (upd B l (.dK (kvI d))) ∧ Slots K (upd B l (.dK (kvI d))) σ (cs Γ i (ce (Dic.mk d))) := by
  obtain ⟨hb, hl⟩ := s.dki h
  have e : Ex B (upd B l (.dK (kvI d))) := Ex.new hb
  exact ⟨e, (s.sl.mono e).re (s.sl.rf i hi) ⟨l, kvI d, rfl, .inl upd_same, by rw [kvI_len]; exact hz, kvI_dic d⟩⟩
/-- near = {y: n for x in xs for y in ys x if f1 x y}, the tests read the dict which grows -/
theorem St.qdc2 {γ : Type} [Rep γ] {wi wi1 : TI} {a b i j k : Nat} {l : Addr} {d : List (Str × Int)} {xs : List γ} {n : Int} (ys : γ → List Str) (f1 : γ → Str → Bool) (s : St K W0 B0 H0 os Γ σ B H) (h : os[k]? = some (dkiC l d)) (hi : cg Γ i = ca l) (hz0 : d.length ≤ 1000000) (hz : (xs.flatMap ys).length ≤ 1000000)
    (hI : ∀ B', Ex B B' → Slots K B' σ (cs Γ i (ce (Dic.mk d))) → ItD K wi σ B' xs)
    (ht : ∀ x ∈ xs, ∀ σ2 B2, Slots K B2 σ2 (cs (cw (cs Γ i (ce (Dic.mk d))) [a, b]) a (ce x)) → ItD K wi1 σ2 B2 (ys x) ∧ ∀ y ∈ ys x, ∀ σ3 B3, Slots K B3 σ3 (cs (cw (cs (cw (cs Γ i (ce (Dic.mk d))) [a, b]) a (ce x)) [b]) b (ce y)) → Pt tt1 σ3 B3 (f1 x y) ∧ Pe K tk σ3 B3 y ∧ Pe K tv σ3 B3 n)
    (q : ∀ p σ1 B1 H1, St K W0 B0 H0 (os ++ [dkiC p (cI (insAll [] (xs.flatMap fun x => (ys x).filter (f1 x))) n)]) (cs Γ j (ca p)) σ1 B1 H1 → tz D σ1 H1) :
    tSeq (tAsg (tDc2 wi (gName a) tYes wi1 (gName b) tt1 tk tv [a, b] [b]) (gName j)) tz D σ H := by
  obtain ⟨hb, hl⟩ := s.dki h
  obtain ⟨e, s2⟩ := s.fzI h hi hz0
  refine dc2_const (n := n) (Q := fun v H1 => tz D (σ.set j (some v)) H1) ys f1 (hI _ e s2) (ex_in s.bh hl) hz (fun x hx v B1 b1 hv => ?_) fun p B1 H1 u hb1 hn hp => ?_
  · have s3 := (s2.mono b1).wipe [a, b] |>.set a hv
    obtain ⟨h1, h2⟩ := ht x hx _ B1 s3
    refine ⟨_, fun H Q _ q => q, by rw [set_none_comm (by simp), wipe_wipe], h1, fun y hy w B2 b2 hw => ?_⟩
    have s4 := ((s3.mono b2).wipe [b]).set b hw
    obtain ⟨h3, h4, h5⟩ := h2 y hy _ B2 s4
    exact ⟨_, fun H Q _ q => q, by rw [set_none_comm (by simp), wipe_wipe], h3, h4, h5⟩
  · have u' := up_cut hb u
    have hc : cutH B1 l p = none := by
      unfold cutH
      split
      · rfl
      · exact hb1
    exact q p _ _ H1 ((s.adopt u' hc hn hp (dkiC p _) rfl rfl).put (x := Any.mk (.ref p)) j rfl)
/-- d.update(near), near's keys new -/
theorem St.qupd {i j k k2 : Nat} {l l2 : Addr} {d : List (Str × Int)} {ks : List Str} {n : Int} (s : St K W0 B0 H0 os Γ σ B H) (h : os[k]? = some (dkiC l d)) (h2 : os[k2]? = some (dkiC l2 (cI ks n))) (hk : k ≠ k2) (hi : cg Γ i = ca l) (hj : cg Γ j = ca l2) (nd : ks.Nodup) (hd : ∀ x ∈ ks, x ∉ d.map (·.1)) (hz : d.length + ks.length ≤ 1000000)
    (q : ∀ H1, St K W0 B0 H0 (os.set k (dkiC l (d ++ cI ks n))) Γ σ B H1 → tz D σ H1) : tSeq (tDrop (tBM K "dict" rUpdU (tVar i) (tCons (tVar j) tNil))) tz D σ H := by
  obtain ⟨hb, hl⟩ := s.dki h
  obtain ⟨hb2, hl2⟩ := s.dki h2
  have hne : l ≠ l2 := fun z => by
    have nd' := s.nd
    have e1 : (os.map (·.l))[k]? = some l := by rw [List.getElem?_map, h]; rfl
    have e2 : (os.map (·.l))[k2]? = some l := by rw [List.getElem?_map, h2, z]; rfl
    exact hk ((List.getElem?_inj (List.getElem?_eq_some_iff.mp e1).1 nd').mp (e1.trans e2.symm))
  refine ⟨_, s.sl.rf i hi, .inr (.inr (.inl ⟨rfl, .inl ⟨_, hl⟩⟩)), _, s.sl.rf j hj, ?_⟩
  refine ⟨l, l2, _, _, rfl, rfl, hl, hl2, hne, ?_, ?_⟩
  · rw [kvI_len, kvI_len, cI_len]
    have : (sizeLine : Nat) = 16777216 := sizeLine_eq
    omega
  · rw [mergeK_new (d := []) nd hd]
    exact q _ (s.chg (o' := dkiC l (d ++ cI ks n)) (ob := .dK (kvI (d ++ cI ks n))) h rfl rfl)
/-- xs = list(near) -/
theorem St.keysL {i j k : Nat} {l : Addr} {d : List (Str × Int)} (s : St K W0 B0 H0 os Γ σ B H) (h : os[k]? = some (dkiC l d)) (hi : cg Γ i = ca l)
    (q : ∀ σ1 B1 H1, St K W0 B0 H0 os (cs Γ j (ce (d.map (·.1)))) σ1 B1 H1 → D.nx σ1 H1) : tAsg (tCB (rListU K) (tCons (tVar i) tNil)) (gName j) D σ H := by
  obtain ⟨hb, hl⟩ := s.dki h
  refine ⟨_, s.sl.rf i hi, .inr ⟨l, kvI d, rfl, .inl hl, fun p hp => ?_⟩⟩
  rw [kvI_keys]
  have u := Up.new (o := .lst ((d.map (·.1)).map V.str)) s.bh hp
  exact q _ _ _ ((s.up u).put j (at_list.mpr ⟨p, _, rfl, Evl.sq_of upd_same, strs_atAll _⟩))
theorem St.aug {i : Nat} {x y : Int} (s : St K W0 B0 H0 os Γ σ B H) (hi : cg Γ i = ce x) (h : Pe K te σ B y) (q : ∀ σ1 B1 H1, St K W0 B0 H0 os (cs Γ i (ce (x + y))) σ1 B1 H1 → tz D σ1 H1) : tSeq (tAug i te (ipI fun i j => i + j)) tz D σ H := by
  obtain ⟨v, hv, hx⟩ := s.sl.get hi
  cases at_int.mp hx
  refine ⟨_, hv, h H s.bh _ fun w B1 H1 u hw => ?_⟩
  cases at_int.mp hw
  exact ⟨x, y, rfl, rfl, q _ B1 H1 ((s.up u).put i (at_int.mpr rfl))⟩
/-- the dict that has grown, frozen -/
theorem St.frzI {i k : Nat} {l : Addr} {d : List (Str × Int)} (s : St K W0 B0 H0 os Γ σ B H) (h : os[k]? = some (dkiC l d)) (hi : cg Γ i = ca l) (hw : l ∉ W0) (hz : d.length ≤ 1000000) : ∃ B1, Ex B B1 ∧ St K W0 B0 H0 (os.eraseIdx k) (cs Γ i (ce (Dic.mk d))) σ B1 H := by
  obtain ⟨hb, hl⟩ := s.dki h
  obtain ⟨e, s2⟩ := s.fzI h hi hz
  have h0 : H0 l = none := by
    rcases (s.own _ (List.mem_of_getElem? h)).2.1 with z | z
    · exact absurd z hw
    · exact z
  have hlt := (List.getElem?_eq_some_iff.mp h).1
  refine ⟨_, e, s.bb.trans e, ex_in s.bh hl, s.hh, s.dm, fun a ha => ?_, fun o ho => ?_, s.nd.sublist ((List.eraseIdx_sublist os k).map _), s2⟩
  · by_cases z : a = l
    · exact .inr (z ▸ h0)
    · rw [upd_ne z] at ha
      exact s.nw a ha
  · obtain ⟨g1, g2, w, g3, g4⟩ := s.own o ((List.eraseIdx_sublist os k).subset ho)
    have ne : o.l ≠ l := by
      intro z
      obtain ⟨j, hj, hjk⟩ : ∃ j, os[j]? = some o ∧ j ≠ k := by
        obtain ⟨j, hj⟩ := List.getElem?_of_mem ho
        rw [List.getElem?_eraseIdx] at hj
        split at hj
        · next hlt => exact ⟨j, hj, Nat.ne_of_lt hlt⟩
        · next hge => exact ⟨j + 1, hj, by omega⟩
      have e1 : (os.map (·.l))[k]? = some l := by rw [List.getElem?_map, h]; rfl
      have e2 : (os.map (·.l))[j]? = some l := by rw [List.getElem?_map, hj, ← z]; rfl
      exact hjk ((List.getElem?_inj (List.getElem?_eq_some_iff.mp e2).1 s.nd).mp (e2.trans e1.symm))
    exact ⟨by rw [upd_ne ne]; exact g1, g2, w, g3, o.mono e g4⟩
/-- d, layer, far = {x: n for x in xs}, list(xs), a number: through a tuple -/
theorem St.distStart {i j m a : Nat} {xs : List Str} {x : Int} (s : St K W0 B0 H0 os Γ σ B H) (hI : ItD K (iSeq K ta) σ B xs) (hz : xs.length ≤ 1000000) (ha : a < Γ.length)
    (hs : Pe K ta σ B (Sq.mk xs)) (hx : ∀ σ B, Pe K tv σ B x) (hc : Pe K tc σ B (0 : Int))
    (q : ∀ p σ1 B1 H1, St K W0 B0 H0 (os ++ [dkiC p (cI (insAll [] xs) x)]) (cs (cs (cs Γ i (ca p)) j (ce xs)) m (ce (0 : Int))) σ1 B1 H1 → tz D σ1 H1) :
    tSeq (tAsg (tTup (tCons (tDc (iSeq K ta) (gName a) tYes (tVar a) tv [a]) (tCons (tCB (rListU K) (tCons ta tNil)) (tCons tc tNil)))) (gUnp K 3 (gCons (gName i) (gCons (gName j) (gCons (gName m) gNil))))) tz D σ H := by
  have hl : ∀ {σ : L2.St} {Γ : List (Option Cell)}, Slots K B σ Γ → σ.length = Γ.length := fun s => by
    induction s with
    | nil => rfl
    | cons _ _ ih => rw [List.length_cons, List.length_cons, ih]
  have hj : ∀ v, ((wipe σ [a]).set a (some v))[a]? = some (some v) ∧ wipe ((wipe σ [a]).set a (some v)) [a] = wipe σ [a] := fun v => ⟨by
    have : a < (wipe σ [a]).length := by rw [wipe_length, hl s.sl]; exact ha
    rw [List.getElem?_set_self this], by rw [set_none_comm (by simp), wipe_wipe]⟩
  refine dc_const (Q := fun v H1 => tCB (rListU K) (tCons ta tNil) σ H1 fun v2 H2 => tc σ H2 fun v3 H3 => [v, v2, v3].length ≤ sizeLine ∧ ∀ p, H3 p = none → gUnp K 3 (gCons (gName i) (gCons (gName j) (gCons (gName m) gNil))) (.ref p) σ (upd H3 p (.tup [v, v2, v3])) (tz D)) hI s.bh hz hj hx fun p B1 H1 u hb hn hp => ?_
  have s1 := s.adopt u hb hn hp (dkiC p (cI (insAll [] xs) x)) rfl rfl
  refine (e_lstSq (xs := xs) (hs.mono u.bb)) H1 s1.bh _ fun v2 B2 H2 u2 hv2 => ?_
  have s2 := s1.up u2
  refine (hc.mono (u.bb.trans u2.bb)) H2 s2.bh _ fun v3 B3 H3 u3 hv3 => ?_
  have s3 := s2.up u3
  refine ⟨by show 3 ≤ sizeLine; rw [sizeLine_eq]; decide, fun t ht => .inl ⟨t, _, rfl, Evl.st_of upd_same, rfl, _, _, rfl, _, _, rfl, _, _, rfl, rfl, ?_⟩⟩
  have w := Up.new (o := .tup [V.ref p, v2, v3]) s3.bh ht
  exact q p _ _ _ ((((s3.up w).put (x := Any.mk (.ref p)) i rfl).put j (Rep.mono (u3.bb.trans w.bb) hv2)).put m (Rep.mono w.bb hv3))
theorem e_inDi {d : Dic Int} {x : Str} (ha : Pe K ta σ B x) (hb : Pe K tb σ B d) (neg : Bool) : Pe K (tOp (rInU K neg) ta tb) σ B (ngb neg (decide (x ∈ d.kvs.map (·.1)))) :=
  e_op ha hb (rd_val (.bl _) (fun _ => at_bl.mpr rfl) fun B H v w e h1 h2 Q q => by
    cases at_str.mp h1
    obtain ⟨a, ks, rfl, h3, _, h4⟩ := h2
    refine .inr (.inl ⟨a, _, rfl, .inl ⟨ks, .inr x, Evl.ex_rd e h3, rfl, rfl⟩, ?_⟩)
    rw [dic_kvI h4, valV_kvI]
    have : ((d.kvs.lookup x).map V.int).isSome = decide (x ∈ d.kvs.map (·.1)) := by
      by_cases h : x ∈ d.kvs.map (·.1)
      · obtain ⟨n, hn, _⟩ := lookup_in h
        rw [hn, decide_eq_true h]
        rfl
      · rw [lookup_out h, decide_eq_false h]
        rfl
    rw [this]
    exact q)
end
end Ob

set_option Elab.async false
set_option linter.all false
set_option maxRecDepth 100000
set_option maxHeartbeats 4000000
/-! S6: defs of four parameters, the last one None or a thing; calls that leave it out or name it. -/
namespace Ob
open PySem PySem.Spec PyProof.Rows L2
open Evl (Ex)
open PySem.W (Datum Tup DatumOrd)
section
variable {K : PySem.W.Frag} {x qual : Str} {params : Arguments} {body : List Stmt} {scope : Scope} {kws : List (Str × V)} {f : Addr} {fd : FuncData} {ps : List Str}
/-- a call that names all keyword-only parameters -/
theorem kbindsN (F : FunD K x qual params body scope [] kws f fd) (n : Nat) (ks : List Str)
    (h : ∀ (kV doc pm : Value) (an : Option Addr) (cdv ct : Value) (us ws : List Value), us.length = n → ws.length = ks.length → bindArgs (PySem.W.fnOf x qual params body scope .none kV doc pm an cdv ct) ⟨us, ks.zip ws⟩ = pure (ps.zip (us ++ ws))) : KBn K fd ps n ks (fun us ws => us ++ ws) (fun vs zs => vs ++ zs) := by
  obtain ⟨oc, od, dV, kV, doc, pm, an, cdv, ct, osl, rfl, lk, hcd, hD, hK⟩ := F.ex
  rcases hD with ⟨_, rfl⟩ | ⟨e, _⟩
  · exact ⟨fun s us ws _ l1 l2 => .of_eq (h kV doc pm an cdv ct us ws l1 l2), fun r1 r2 => r1.append r2⟩
  · exact absurd rfl e
end
section
variable {X : Cx} {CX : CXT} {k n : Nat} {f : Addr} {fd : FuncData} {ps : List Str} {k1 : Str} {sp : Sp} {E : XK} {x : Str} {p pos : Pos} {e : Expr} {es : List Expr} {kws : List Keyword} {t tk : TA} {g : List Value → List Value → List Value} {gV : List V → List V → List V}
/-- f(e, .., k = v) -/
theorem pe_callK1 (F : FnOk X.prog X.w X.K X.mg X.base CX k f fd ps sp) (hr : Room k X.A) (hg : Gl X x) (hm : X.mg x = some (.ref f)) (hk : PySem.W.keepIn X.K (.ref f) = true) (hb : KBn X.K fd ps n [k1] g gV) (hx : Passes CX X E)
    (ha : PA X (e :: es) t) (hkw : PK X kws tk) (hall : (backToKw pos (keywordEach kws X.env)).all (·.1.isSome) = true := by rfl) (hks : (backToKw pos (keywordEach kws X.env)).filterMap (·.1) = [k1] := by rfl)
    (hdb : (x == ("__debug__" : Str)) = false := by decide) (he : starEach (e :: es) X.env = (false, eval e X.env) :: starEach es X.env := by rfl)
    (hpl : ((backTo pos (starEach (e :: es) X.env)).any (·.1) || (backToKw pos (keywordEach kws X.env)).any (·.1.isNone)) = false := by rfl) :
    PE X (.Call (.Name x p) (e :: es) kws pos) (tCallN n 1 sp gV E t tk) := pe_callN (ks := [k1]) F hr hg hm hk hb hx ha hkw hall hks hdb he hpl
end
section
variable {K : PySem.W.Frag} {W0 : List Addr} {B0 H0 : Hp} {os : List OC} {Γ : List (Option Cell)} {σ : L2.St} {B H B1 H1 : Hp} {te ta tb tc td tk tv : TE} {tt : TT} {D : Ends} {tu tw tz : TS}
section
variable {α β γ δ ε : Type} [Rep α] [Rep β] [Rep γ] [Rep δ] [Rep ε] {vs : List V} {Q : VK} {E : XK}
def Fn4 (K : PySem.W.Frag) (pre : α → β → γ → δ → Prop) (f : α → β → γ → δ → ε) : Sp := fun vs H Q _ => ∃ x y z t B, Ex B H ∧ RCons K x (RCons K y (RCons K z (RCons K t RNil))) vs B ∧ pre x y z t ∧ ∀ v B2 H2, Up B H B2 H2 → Rep.at_ K B2 v (f x y z t) → Q v H2
theorem Fn4.len {pre : α → β → γ → δ → Prop} {f : α → β → γ → δ → ε} (vs : List V) (H : Hp) (Q : VK) (E : XK) (h : Fn4 K pre f vs H Q E) : vs.length = 4 := by
  obtain ⟨x, y, z, t, B, e, ⟨v, r, rfl, h1, v2, r2, rfl, h2, v3, r3, rfl, h3, v4, r4, rfl, h4, rfl⟩, _⟩ := h
  rfl
theorem Fn4.st {pre : α → β → γ → δ → Prop} {f : α → β → γ → δ → ε} (h : Fn4 K pre f vs H Q E) (N : List Str) : ∃ x y z t B, pre x y z t ∧ St K [] B H [] ([ce x, ce y, ce z, ce t] ++ List.replicate (N.length - 4) none) (start N vs) B H ∧ ∀ v B2 H2, Up B H B2 H2 → Rep.at_ K B2 v (f x y z t) → Q v H2 := by
  obtain ⟨x, y, z, t, B, e, ⟨v, _, rfl, h1, v2, _, rfl, h2, v3, _, rfl, h3, v4, _, rfl, h4, rfl⟩, hp, q⟩ := h
  exact ⟨x, y, z, t, B, hp, St.pure e (start_slots [v, v2, v3, v4] [ce x, ce y, ce z, ce t] _ (.cons (At1.some h1) (.cons (At1.some h2) (.cons (At1.some h3) (.cons (At1.some h4) .nil))))), q⟩
theorem a_4 {x : α} {y : β} {z : γ} {t : δ} (h : Pe K ta σ B x) (h2 : Pe K tb σ B y) (h3 : Pe K tc σ B z) (h4 : Pe K td σ B t) : Pa (tCons ta (tCons tb (tCons tc (tCons td tNil)))) σ B (RCons K x (RCons K y (RCons K z (RCons K t RNil)))) := a_cons h fun _ e => a_3 (h2.mono e) (h3.mono e) (h4.mono e)
theorem e_call4 {pre : α → β → γ → δ → Prop} {f : α → β → γ → δ → ε} {x : α} {y : β} {z : γ} {t : δ} (h : Pe K ta σ B x) (h2 : Pe K tb σ B y) (h3 : Pe K tc σ B z) (h4 : Pe K td σ B t) (hp : pre x y z t) : Pe K (tCall (Fn4 K pre f) [] E (tCons ta (tCons tb (tCons tc (tCons td tNil))))) σ B (f x y z t) := fun H e Q q => a_4 h h2 h3 h4 H e _ fun vs B1 H1 u hv => by
  rw [List.append_nil]
  exact ⟨x, y, z, t, B1, u.bh, hv, hp, fun v B2 H2 u2 h2 => q v B2 H2 (u.trans u2) h2⟩
/-- the last one named -/
theorem e_call4k {pre : α → β → γ → δ → Prop} {f : α → β → γ → δ → ε} {x : α} {y : β} {z : γ} {t : δ} (h : Pe K ta σ B x) (h2 : Pe K tb σ B y) (h3 : Pe K tc σ B z) (h4 : Pe K td σ B t) (hp : pre x y z t) : Pe K (tCallN 3 1 (Fn4 K pre f) (fun vs zs => vs ++ zs) E (tCons ta (tCons tb (tCons tc tNil))) (tCons td tNil)) σ B (f x y z t) := fun H e Q q => a_3 h h2 h3 H e _ fun vs B1 H1 u hv => a_1 (h4.mono u.bb) H1 u.bh _ fun zs B2 H2 u2 hz => by
  obtain ⟨v, _, rfl, k1, v2, _, rfl, k2, v3, _, rfl, k3, rfl⟩ := hv
  obtain ⟨v4, _, rfl, k4, rfl⟩ := hz
  exact ⟨rfl, rfl, x, y, z, t, B2, u2.bh, ⟨v, _, rfl, Rep.mono u2.bb k1, v2, _, rfl, Rep.mono u2.bb k2, v3, _, rfl, Rep.mono u2.bb k3, v4, _, rfl, k4, rfl⟩, hp, fun w B3 H3 u3 hw => q w B3 H3 ((u.trans u2).trans u3) hw⟩
theorem e_call3k {pre : α → β → γ → Prop} {f : α → β → γ → δ} {x : α} {y : β} {z : γ} (h : Pe K ta σ B x) (h2 : Pe K tb σ B y) (h3 : Pe K tc σ B z) (hp : pre x y z) : Pe K (tCallN 2 1 (Fn3 K pre f) (fun vs zs => vs ++ zs) E (tCons ta (tCons tb tNil)) (tCons tc tNil)) σ B (f x y z) := fun H e Q q => a_2 h h2 H e _ fun vs B1 H1 u hv => a_1 (h3.mono u.bb) H1 u.bh _ fun zs B2 H2 u2 hz => by
  obtain ⟨v, _, rfl, k1, v2, _, rfl, k2, rfl⟩ := hv
  obtain ⟨v3, _, rfl, k3, rfl⟩ := hz
  exact ⟨rfl, rfl, x, y, z, B2, u2.bh, ⟨v, _, rfl, Rep.mono u2.bb k1, v2, _, rfl, Rep.mono u2.bb k2, v3, _, rfl, k3, rfl⟩, hp, fun w B3 H3 u3 hw => q w B3 H3 ((u.trans u2).trans u3) hw⟩
end
/-- the last one left out: None -/
theorem e_call4d {α β γ δ ε : Type} [Rep α] [Rep β] [Rep γ] [Rep δ] [Rep ε] {E : XK} {pre : α → β → γ → Mb δ → Prop} {f : α → β → γ → Mb δ → ε} {x : α} {y : β} {z : γ} (h : Pe K ta σ B x) (h2 : Pe K tb σ B y) (h3 : Pe K tc σ B z) (hp : pre x y z (Mb.mk none)) : Pe K (tCall (Fn4 K pre f) [.non] E (tCons ta (tCons tb (tCons tc tNil)))) σ B (f x y z (Mb.mk none)) := fun H e Q q => a_3 h h2 h3 H e _ fun vs B1 H1 u hv => by
  obtain ⟨v, _, rfl, k1, v2, _, rfl, k2, v3, _, rfl, k3, rfl⟩ := hv
  exact ⟨x, y, z, Mb.mk none, B1, u.bh, ⟨v, _, rfl, k1, v2, _, rfl, k2, v3, _, rfl, k3, .non, _, rfl, rfl, rfl⟩, hp, fun w B3 H3 u3 hw => q w B3 H3 (u.trans u3) hw⟩
theorem e_call3d {α β γ δ : Type} [Rep α] [Rep β] [Rep γ] [Rep δ] {E : XK} {pre : α → β → Mb γ → Prop} {f : α → β → Mb γ → δ} {x : α} {y : β} (h : Pe K ta σ B x) (h2 : Pe K tb σ B y) (hp : pre x y (Mb.mk none)) : Pe K (tCall (Fn3 K pre f) [.non] E (tCons ta (tCons tb tNil))) σ B (f x y (Mb.mk none)) := fun H e Q q => a_2 h h2 H e _ fun vs B1 H1 u hv => by
  obtain ⟨v, _, rfl, k1, v2, _, rfl, k2, rfl⟩ := hv
  exact ⟨x, y, Mb.mk none, B1, u.bh, ⟨v, _, rfl, k1, v2, _, rfl, k2, .non, _, rfl, rfl, rfl⟩, hp, fun w B3 H3 u3 hw => q w B3 H3 (u.trans u3) hw⟩
theorem mb_some {α : Type} [Rep α] {H : Hp} {v : V} {t : α} (h : Rep.at_ K H v t) : Rep.at_ K H v (Mb.mk (some t)) := h
theorem mb_get {α : Type} [Rep α] {H : Hp} {v : V} {t : α} (h : Rep.at_ K H v (Mb.mk (some t))) : Rep.at_ K H v t := h
theorem e_nonA {α : Type} [Rep α] : Pe K (tC .non) σ B (Mb.mk (none : Option α)) := fun H e Q q => q _ B H (Up.refl e) rfl
theorem e_isNS {α : Type} [Rep α] {x : Mb (Sq α)} (h : Pe K te σ B x) : Pe K (tOp rIsN te (tC .non)) σ B (x.o.isNone) := fun H e Q q => h H e _ fun v B1 H1 u hv => by
  obtain ⟨o⟩ := x
  cases o with
  | none =>
    cases (show v = .non from hv)
    unfold rIsN
    exact ⟨rfl, q _ B1 H1 u (at_bl.mpr rfl)⟩
  | some t =>
    obtain ⟨a, vs, rfl, _⟩ := (show Rep.at_ K B1 v t from hv)
    unfold rIsN
    exact ⟨rfl, q _ B1 H1 u (at_bl.mpr rfl)⟩
end
end Ob

set_option Elab.async false
set_option linter.all false
set_option maxRecDepth 100000
set_option maxHeartbeats 4000000
/-! Tb: promises of defs behind which a lambda is made: the maker's table may grow. -/
namespace Ob
open PySem PySem.Spec PyProof.Rows L2
open Evl (Ex)
open LamX (CodeO TabB)
open PySem.W (Datum Tup DatumOrd)
def tabC (q : Str) (P : Addr) : OC := ⟨P, fun B o => ∃ ps : Array Value, o = .tbl ps ∧ TriplesOk ps.toList ∧ ∀ (pos : Pos) (cv : Value), codeAmong pos ps.toList = some cv → ∃ c, cv = .ref c ∧ B c = some (CodeO c q), fun e ⟨ps, h1, h2, h3⟩ => ⟨ps, h1, h2, fun pos cv h => by
  obtain ⟨c, e1, e2⟩ := h3 pos cv h
  exact ⟨c, e1, e _ _ e2⟩⟩⟩
theorem LtAt.put {q : Str} {B H : Hp} {P a : Addr} {o : HO} (t : LtAt q B H P) (ne : P ≠ a) : LtAt q B (upd H a o) P := ⟨t.fb, by
  obtain ⟨ps, h, h2⟩ := t.tb
  exact ⟨ps, by rw [upd_ne ne]; exact h, h2⟩⟩
theorem LtAt.frz {q : Str} {B H : Hp} {P a : Addr} {o : HO} (t : LtAt q B H P) (ne : P ≠ a) (e : Ex B (upd B a o)) : LtAt q (upd B a o) H P := ⟨by rw [upd_ne ne]; exact t.fb, by
  obtain ⟨ps, h, h2, h3⟩ := t.tb
  refine ⟨ps, h, h2, fun pos cv z => ?_⟩
  obtain ⟨c, e1, e2⟩ := h3 pos cv z
  exact ⟨c, e1, e _ _ e2⟩⟩
theorem LtAt.own {q : Str} {B H : Hp} {P : Addr} (t : LtAt q B H P) : B P = none ∧ ∃ ob, H P = some ob ∧ (tabC q P).P B ob := by
  obtain ⟨ps, h, h2, h3⟩ := t.tb
  exact ⟨t.fb, _, h, ps, rfl, h2, h3⟩
/-- a reading behind which the table may have grown -/
def PqT {α : Type} [Rep α] (K : PySem.W.Frag) (q : Str) (P : Addr) (te : TE) (σ : L2.St) (B : Hp) (R : α → Prop) : Prop := ∀ H, Ex B H → LtAt q B H P → ∀ Q : VK, (∀ v x B2 H2, Ub P B H B2 H2 → LtAt q B2 H2 P → R x → Rep.at_ K B2 v x → Q v H2) → te σ H Q
section
variable {α β γ δ ε : Type} [Rep α] [Rep β] [Rep γ] [Rep δ] [Rep ε]
def FnT3R (K : PySem.W.Frag) (q : Str) (P : Addr) (pre : α → β → γ → Prop) (R : α → β → γ → δ → Prop) : Sp := fun vs H Q _ => ∃ x y z B, Ex B H ∧ LtAt q B H P ∧ RCons K x (RCons K y (RCons K z RNil)) vs B ∧ pre x y z ∧ ∀ v r B2 H2, Ub P B H B2 H2 → LtAt q B2 H2 P → R x y z r → Rep.at_ K B2 v r → Q v H2
def FnT4R (K : PySem.W.Frag) (q : Str) (P : Addr) (pre : α → β → γ → δ → Prop) (R : α → β → γ → δ → ε → Prop) : Sp := fun vs H Q _ => ∃ x y z t B, Ex B H ∧ LtAt q B H P ∧ RCons K x (RCons K y (RCons K z (RCons K t RNil))) vs B ∧ pre x y z t ∧ ∀ v r B2 H2, Ub P B H B2 H2 → LtAt q B2 H2 P → R x y z t r → Rep.at_ K B2 v r → Q v H2
end
section
variable {K : PySem.W.Frag} {W0 : List Addr} {B0 H0 : Hp} {os : List OC} {Γ : List (Option Cell)} {σ : L2.St} {B H B1 H1 : Hp} {te ta tb tc td tk tv : TE} {tt tt1 : TT} {D : Ends} {tu tw tz : TS} {q : Str} {P : Addr}
theorem PqT.mono {α : Type} [Rep α] {R : α → Prop} {B' : Hp} (h : ∀ B', Ex B B' → PqT K q P te σ B' R) (e : Ex B B') : PqT K q P te σ B' R := h B' e
section
variable {α β γ δ ε : Type} [Rep α] [Rep β] [Rep γ] [Rep δ] [Rep ε] {vs : List V} {Q : VK} {E : XK}
theorem FnT3R.len {pre : α → β → γ → Prop} {R : α → β → γ → δ → Prop} (vs : List V) (H : Hp) (Q : VK) (E : XK) (h : FnT3R K q P pre R vs H Q E) : vs.length = 3 := by
  obtain ⟨x, y, z, B, e, _, ⟨v, r, rfl, h1, v2, r2, rfl, h2, v3, r3, rfl, h3, rfl⟩, _⟩ := h
  rfl
theorem FnT4R.len {pre : α → β → γ → δ → Prop} {R : α → β → γ → δ → ε → Prop} (vs : List V) (H : Hp) (Q : VK) (E : XK) (h : FnT4R K q P pre R vs H Q E) : vs.length = 4 := by
  obtain ⟨x, y, z, t, B, e, _, ⟨v, r, rfl, h1, v2, r2, rfl, h2, v3, r3, rfl, h3, v4, r4, rfl, h4, rfl⟩, _⟩ := h
  rfl
theorem St.startT (e : Ex B H) (t : LtAt q B H P) (s : Slots K B σ Γ) : St K [P] B H [tabC q P] Γ σ B H :=
  ⟨Ex.refl B, e, fun _ _ _ h => h, fun _ h => h, fun _ h => .inl h, fun o ho => by
    rw [List.mem_singleton.mp ho]
    obtain ⟨h1, h2⟩ := t.own
    exact ⟨h1, .inl (by simp [tabC]), h2⟩, by simp, s⟩
theorem FnT3R.st {pre : α → β → γ → Prop} {R : α → β → γ → δ → Prop} (h : FnT3R K q P pre R vs H Q E) (N : List Str) : ∃ x y z B, pre x y z ∧ St K [P] B H [tabC q P] ([ce x, ce y, ce z] ++ List.replicate (N.length - 3) none) (start N vs) B H ∧ ∀ v r B2 H2, Ub P B H B2 H2 → LtAt q B2 H2 P → R x y z r → Rep.at_ K B2 v r → Q v H2 := by
  obtain ⟨x, y, z, B, e, t, ⟨v, _, rfl, h1, v2, _, rfl, h2, v3, _, rfl, h3, rfl⟩, hp, q⟩ := h
  exact ⟨x, y, z, B, hp, St.startT e t (start_slots [v, v2, v3] [ce x, ce y, ce z] _ (.cons (At1.some h1) (.cons (At1.some h2) (.cons (At1.some h3) .nil)))), q⟩
theorem FnT4R.st {pre : α → β → γ → δ → Prop} {R : α → β → γ → δ → ε → Prop} (h : FnT4R K q P pre R vs H Q E) (N : List Str) : ∃ x y z t B, pre x y z t ∧ St K [P] B H [tabC q P] ([ce x, ce y, ce z, ce t] ++ List.replicate (N.length - 4) none) (start N vs) B H ∧ ∀ v r B2 H2, Ub P B H B2 H2 → LtAt q B2 H2 P → R x y z t r → Rep.at_ K B2 v r → Q v H2 := by
  obtain ⟨x, y, z, t, B, e, w, ⟨v, _, rfl, h1, v2, _, rfl, h2, v3, _, rfl, h3, v4, _, rfl, h4, rfl⟩, hp, q⟩ := h
  exact ⟨x, y, z, t, B, hp, St.startT e w (start_slots [v, v2, v3, v4] [ce x, ce y, ce z, ce t] _ (.cons (At1.some h1) (.cons (At1.some h2) (.cons (At1.some h3) (.cons (At1.some h4) .nil))))), q⟩
theorem eT_call3 {pre : α → β → γ → Prop} {R : α → β → γ → δ → Prop} {x : α} {y : β} {z : γ} (h : Pe K ta σ B x) (h2 : Pe K tb σ B y) (h3 : Pe K tc σ B z) (hp : pre x y z) : PqT K q P (tCall (FnT3R K q P pre R) [] E (tCons ta (tCons tb (tCons tc tNil)))) σ B (R x y z) := fun H e t Q k => a_3 h h2 h3 H e _ fun vs B1 H1 u hv => by
  rw [List.append_nil]
  have t1 := t.up u
  exact ⟨x, y, z, B1, u.bh, t1, hv, hp, fun v r B2 H2 u2 t2 r2 h2 => k v r B2 H2 (u.ub.trans t1.ne u2) t2 r2 h2⟩
/-- the last one named -/
theorem eT_call4k {pre : α → β → γ → δ → Prop} {R : α → β → γ → δ → ε → Prop} {x : α} {y : β} {z : γ} {w : δ} (h : Pe K ta σ B x) (h2 : Pe K tb σ B y) (h3 : Pe K tc σ B z) (h4 : Pe K td σ B w) (hp : pre x y z w) : PqT K q P (tCallN 3 1 (FnT4R K q P pre R) (fun vs zs => vs ++ zs) E (tCons ta (tCons tb (tCons tc tNil))) (tCons td tNil)) σ B (R x y z w) := fun H e t Q k => a_3 h h2 h3 H e _ fun vs B1 H1 u hv => a_1 (h4.mono u.bb) H1 u.bh _ fun zs B2 H2 u2 hz => by
  obtain ⟨v, _, rfl, k1, v2, _, rfl, k2, v3, _, rfl, k3, rfl⟩ := hv
  obtain ⟨v4, _, rfl, k4, rfl⟩ := hz
  have t2 := (t.up u).up u2
  exact ⟨rfl, rfl, x, y, z, w, B2, u2.bh, t2, ⟨v, _, rfl, Rep.mono u2.bb k1, v2, _, rfl, Rep.mono u2.bb k2, v3, _, rfl, Rep.mono u2.bb k3, v4, _, rfl, k4, rfl⟩, hp, fun v r B3 H3 u3 t3 r3 hw => k v r B3 H3 ((u.trans u2).ub.trans t2.ne u3) t3 r3 hw⟩
/-- left out: None -/
theorem eT_call4d {R : α → β → γ → Mb δ → ε → Prop} {pre : α → β → γ → Mb δ → Prop} {x : α} {y : β} {z : γ} (h : Pe K ta σ B x) (h2 : Pe K tb σ B y) (h3 : Pe K tc σ B z) (hp : pre x y z (Mb.mk none)) : PqT K q P (tCall (FnT4R K q P pre R) [.non] E (tCons ta (tCons tb (tCons tc tNil)))) σ B (R x y z (Mb.mk none)) := fun H e t Q k => a_3 h h2 h3 H e _ fun vs B1 H1 u hv => by
  obtain ⟨v, _, rfl, k1, v2, _, rfl, k2, v3, _, rfl, k3, rfl⟩ := hv
  have t1 := t.up u
  exact ⟨x, y, z, Mb.mk none, B1, u.bh, t1, ⟨v, _, rfl, k1, v2, _, rfl, k2, v3, _, rfl, k3, .non, _, rfl, rfl, rfl⟩, hp, fun v r B3 H3 u3 t3 r3 hw => k v r B3 H3 (u.ub.trans t1.ne u3) t3 r3 hw⟩
theorem St.tab {k : Nat} (s : St K W0 B0 H0 os Γ σ B H) (h : os[k]? = some (tabC q P)) : LtAt q B H P := by
  obtain ⟨h1, _, ob, h3, ps, rfl, h4⟩ := s.own _ (List.mem_of_getElem? h)
  exact ⟨h1, ps, h3, h4⟩
/-- behind a reading that may let the table grow -/
theorem St.ubT {k : Nat} (s : St K W0 B0 H0 os Γ σ B H) (h : os[k]? = some (tabC q P)) (u : Ub P B H B1 H1) (t : LtAt q B1 H1 P) : St K W0 B0 H0 os Γ σ B1 H1 := by
  have hP := s.own _ (List.mem_of_getElem? h)
  have hH := (s.tab h).ne
  refine ⟨s.bb.trans u.bb, u.bh, fun a w ha h0 => ?_, fun a h => ?_, fun a h => ?_, fun o ho => ?_, s.nd, s.sl.mono u.bb⟩
  · refine u.hh a w (fun z => ?_) (s.hh a w ha h0)
    rcases hP.2.1 with y | y
    · exact ha (z ▸ y)
    · have z' : H0 a = none := z ▸ y
      rw [z'] at h0
      cases h0
  · by_cases e : a = P
    · rw [e]
      exact t.ne
    · cases q : H a with
      | none => exact absurd q (s.dm a h)
      | some o =>
        rw [u.hh a o e q]
        exact fun z => nomatch z
  · rcases u.nw a h with z | z
    · exact s.nw a z
    · cases q : H0 a with
      | none => exact .inr rfl
      | some o => exact absurd z (s.dm a (by rw [q]; exact fun z => nomatch z))
  · by_cases e : o.l = P
    · obtain ⟨j, hj⟩ := List.getElem?_of_mem ho
      have e1 : (os.map (·.l))[j]? = some P := by rw [List.getElem?_map, hj, ← e]; rfl
      have e2 : (os.map (·.l))[k]? = some P := by rw [List.getElem?_map, h]; rfl
      have : j = k := (List.getElem?_inj (List.getElem?_eq_some_iff.mp e1).1 s.nd).mp (e1.trans e2.symm)
      subst this
      rw [hj] at h
      cases h
      obtain ⟨h1, h2⟩ := t.own
      exact ⟨h1, hP.2.1, h2⟩
    · obtain ⟨h1, h2, ob, h3, h4⟩ := s.own o ho
      exact ⟨(u.out h1 h3 e).1, h2, ob, (u.out h1 h3 e).2, o.mono u.bb h4⟩
theorem St.setQ {i k : Nat} {R : α → Prop} (s : St K W0 B0 H0 os Γ σ B H) (ht : os[k]? = some (tabC q P)) (h : PqT K q P te σ B R) (c : ∀ x, R x → ∀ σ1 B1 H1, St K W0 B0 H0 os (cs Γ i (ce x)) σ1 B1 H1 → tz D σ1 H1) : tSeq (tAsg te (gName i)) tz D σ H :=
  h H s.bh (s.tab ht) _ fun v x B1 H1 u t r hv => c x r _ B1 H1 ((s.ubT ht u t).put i hv)
theorem St.retQ {k : Nat} {R : α → Prop} (s : St K W0 B0 H0 os Γ σ B H) (ht : os[k]? = some (tabC q P)) (h : PqT K q P te σ B R) (c : ∀ v x, R x → ∀ B1 H1, St K W0 B0 H0 os Γ σ B1 H1 → Rep.at_ K B1 v x → D.rt v H1) : tRet te D σ H :=
  h H s.bh (s.tab ht) _ fun v x B1 H1 u t r hv => c v x r B1 H1 (s.ubT ht u t) hv
end
/-- sorted(xs, key=lambda x: (-far[x], x)) -/
theorem eT_sortLam {i : Nat} {xs : List Str} {d : Dic Int} {g : Str → Int} (s : Slots K B σ Γ) (h : Pe K te σ B xs) (hi : cg Γ i = ce d) (hz : xs.length ≤ 1000000) (hg : ∀ x ∈ xs, d.kvs.lookup x = some (g x)) : PqT K q P (tSortLam K q P te i) σ B (fun ys => ys = sortKey g xs) := fun H e t Q k =>
  h H e _ fun v B1 H1 u hv => by
    obtain ⟨a, vs, rfl, hs, hx⟩ := at_list.mp hv
    obtain ⟨w, hw, b, ks, rfl, hr, _, hd⟩ := (s.mono u.bb).get hi
    have t1 := t.up u
    refine ⟨B1, a, b, xs, g, ks, rfl, by rw [← atAll_strs hx]; exact Evl.ex_l u.bh hs, hz, hw, Evl.ex_rd u.bh hr, fun x hx => ?_, u.bh, t1, fun B2 H2 p u2 t2 hp => ?_⟩
    · rw [dic_kvI hd, valV_kvI, hg x hx]
      rfl
    · have u3 := Up.new (o := .lst ((sortKey g xs).map V.str)) u2.bh hp
      exact k _ _ _ _ ((u.ub.trans t1.ne u2).up t2.ne u3) (t2.up u3) rfl (at_list.mpr ⟨p, _, rfl, Evl.sq_of upd_same, strs_atAll _⟩)
end
/-! ### the law's end -/
/-- _law_right, behind which the table may have grown -/
def RightPT (K : PySem.W.Frag) (q : Str) (P : Addr) : Sp := fun vs H Q _ => ∃ b B, vs = [.ref b] ∧ Ex B H ∧ BoxAt 0 B H b ∧ LtAt q B H P ∧
  ∀ B2 H2, Ex B B2 → Ex B2 H2 → (∀ a u, a ≠ b → a ≠ P → H a = some u → H2 a = some u) → (∀ a, B2 a ≠ none → B a ≠ none ∨ H a = none) → LtAt q B2 H2 P → Q (.bl true) H2
section
variable {K : PySem.W.Frag} {W0 : List Addr} {B0 H0 : Hp} {os : List OC} {Γ : List (Option Cell)} {σ : L2.St} {B H B1 H1 : Hp} {te ta tb tc td tk tv : TE} {tt tt1 : TT} {D : Ends} {tu tw tz : TS} {q : Str} {P : Addr} {vs : List V} {Q : VK} {E : XK}
theorem RightPT.len (vs : List V) (H : Hp) (Q : VK) (E : XK) (h : RightPT K q P vs H Q E) : vs.length = 1 := by
  obtain ⟨b, B, rfl, _⟩ := h
  rfl
theorem RightPT.st (h : RightPT K q P vs H Q E) (N : List Str) : ∃ b B, St K [b, P] B H [boxC b 0, tabC q P] ([ca b] ++ List.replicate (N.length - 1) none) (start N vs) B H ∧ ∀ (k : Nat) (os : List OC) Γ σ B2 H2, os[k]? = some (tabC q P) → St K [b, P] B H os Γ σ B2 H2 → Q (.bl true) H2 := by
  obtain ⟨b, B, rfl, e, bx, t, k⟩ := h
  refine ⟨b, B, ⟨Ex.refl B, e, fun _ _ _ h => h, fun _ h => h, fun _ h => .inl h, fun o ho => ?_, ?_, start_slots [.ref b] [ca b] _ (.cons (At1.some rfl) .nil)⟩, fun j os Γ σ B2 H2 hj s => k B2 H2 s.bb s.bh (fun a u n1 n2 h => s.hh a u (by simp [n1, n2]) h) s.nw (s.tab hj)⟩
  · rcases List.mem_cons.mp ho with z | z
    · subst z
      obtain ⟨h1, h2⟩ := boxC_of bx
      exact ⟨h1, .inl (by simp [boxC]), h2⟩
    · rw [List.mem_singleton.mp z]
      obtain ⟨h1, h2⟩ := t.own
      exact ⟨h1, .inl (by simp [tabC]), h2⟩
  · obtain ⟨ps, hP, _⟩ := t.tb
    obtain ⟨_, g, m, j, hb, _⟩ := bx
    have : b ≠ P := fun z => by rw [z, hP] at hb; cases hb
    show [b, P].Nodup
    simp [this]
theorem eT_right {s : Sq Int} {k : Int} {E E' : XK} (h1 : Pe K ta σ B s) (h2 : Pe K tb σ B k) (k0 : 0 ≤ k) (k1 : k ≤ 1000) : PqT K q P (tCall (RightPT K q P) [] E (tCons (tCall (sp_Lbox K) [] E' (tCons ta (tCons tb tNil))) tNil)) σ B (fun x => x = true) := fun H e t Q c =>
  a_2 h1 h2 H e (fun vs H1 => sp_Lbox K (vs ++ []) H1 (fun v H2 => RightPT K q P ([v] ++ []) H2 Q E) E') fun vs B1 H1 u hv => by
    rw [List.append_nil]
    refine ⟨s, k, B1, u.bh, hv, ⟨k0, k1⟩, fun b B2 H2 u2 hn bx => ⟨b, B2, rfl, u2.bh, bx, (t.up u).up u2, fun B3 H3 e1 e2 hh nw t3 => ?_⟩⟩
    have hnb : H b = none := Evl.fresh_back u.hh hn
    refine c _ true B3 H3 ⟨(u.bb.trans u2.bb).trans e1, e2, fun a w ne h => ?_, fun a h => ?_⟩ t3 rfl (at_bl.mpr rfl)
    · have nb : a ≠ b := fun z => by rw [z, hnb] at h; cases h
      exact hh a w nb ne (u2.hh _ _ (u.hh _ _ h))
    · rcases nw a h with z | z
      · exact (u.trans u2).nw a z
      · exact .inr (Evl.fresh_back (u.trans u2).hh z)
/-- a list of what such readings give, all of them True -/
theorem lcT_true {γ : Type} [Rep γ] {wi : TI} {g : TG} {ns : List Nat} {xs : List γ} (h : ItD K wi σ B xs) (hz : xs.length ≤ 1000000)
    (ht : ∀ x ∈ xs, ∀ v B1, Ex B B1 → Rep.at_ K B1 v x → ∃ σ2, (∀ H (Q : L2.St → Hp → Prop), Ex B1 H → Q σ2 H → g v (wipe σ ns) H Q) ∧ wipe σ2 ns = wipe σ ns ∧ PqT K q P te σ2 B1 (fun x => x = true)) :
    PqT K q P (tLc wi g tYes te ns) σ B (fun ys : List Bool => ∀ y ∈ ys, y = true) := fun H e t Q c =>
  h H e _ fun J B1 H1 G Y up W hG hY D hD => by
    have hDH : H D = none := Evl.fresh_back up.hh hD
    have hDB : B1 D = none := Evl.fresh_back up.bh hD
    have t1 := t.up up
    have hne : P ≠ D := fun z => t1.ne (z ▸ hD)
    refine walk_w W (fun i H' => ∃ Bi ws out, Ex B1 Bi ∧ Ub P B1 H1 Bi H' ∧ LtAt q Bi H' P ∧ Bi D = none ∧ H' D = some (.lst ws) ∧ AtAll K Bi ws out ∧ out.length = i ∧ ∀ y ∈ out, y = true)
      ⟨B1, [], [], Ex.refl _, (Ub.refl up.bh).put hD hDB, t1.put hne, hDB, upd_same, .nil, rfl, fun _ h => (by cases h)⟩ (fun i H' _ p => ?_) (fun i x Hx H' hi p hy => ?_) (fun H' p => ?_)
    · obtain ⟨Bi, ws, out, b1, u, _⟩ := p
      exact hG H' (b1.trans u.bh)
    · obtain ⟨Bi, ws, out, b1, u, ti, bD, eD, hA, ho, hS⟩ := p
      obtain ⟨d, hd, hB⟩ := hY i x Hx H' hi (b1.trans u.bh) hy
      obtain ⟨B2, u2, hx⟩ := hB Bi b1 u.bh
      obtain ⟨o1, o2⟩ := u2.out bD eD
      obtain ⟨σ2, hg, hw, hte⟩ := ht d (mem_of_get hd) x B2 ((up.bb.trans b1).trans u2.bb) hx
      refine hg H' _ u2.bh ⟨hw, ?_⟩
      refine hte H' u2.bh (ti.up u2) _ fun w y B3 H3 u3 t3 r3 hw3 => ⟨ws, (u3.out o1 o2 hne.symm).2, ?_, B3, ws ++ [w], out ++ [y], (b1.trans u2.bb).trans u3.bb, ?_, t3.put hne, (u3.out o1 o2 hne.symm).1, upd_same, ?_, ?_, ?_⟩
      · rw [hA.length, ho, sizeLine_eq]
        omega
      · exact ((u.up ti.ne u2).trans (ti.up u2).ne u3).put hD (u3.out o1 o2 hne.symm).1
      · exact (hA.mono (u2.bb.trans u3.bb)).snoc hw3
      · rw [List.length_append, List.length_singleton, ho]
      · intro z hz
        rcases List.mem_append.mp hz with hz | hz
        · exact hS z hz
        · rw [List.mem_singleton.mp hz]
          exact r3
    · obtain ⟨Bi, ws, out, b1, u, ti, bD, eD, hA, ho, hS⟩ := p
      obtain ⟨u4, e4⟩ := (up.ub.trans t1.ne u).freeze eD hDH
      exact c (.ref D) out _ H' u4 (ti.frz hne e4) hS (at_list.mpr ⟨D, ws, rfl, Evl.sq_of upd_same, hA.mono e4⟩)
/-- all([_law_right(_law_box(script, k)) for k in range(1 + min(j, len(script)))]) -/
theorem eT_law {s : Sq Int} {j : Int} {i0 i1 : Nat} {ns : List Nat} {E E' : XK} {vsc : V} (hi : σ[i0]? = some (some vsc)) (hs : Rep.at_ K B vsc s) (j0 : 0 ≤ j) (j1 : j ≤ 100)
    (hset : ∀ w, ((wipe σ ns).set i1 (some w))[i0]? = some (some vsc) ∧ ((wipe σ ns).set i1 (some w))[i1]? = some (some w) ∧ wipe ((wipe σ ns).set i1 (some w)) ns = wipe σ ns) :
    PqT K q P (tCB (rAll K) (tCons (tLc (iRng1 (tCons (tOp (rAddU K) (tC (.int 1)) (tCB (rMinU) (tCons (tC (.int j)) (tCons (tCB (rLenU K) (tCons (tVar i0) tNil)) tNil)))) tNil)) (gName i1) tYes (tCall (RightPT K q P) [] E (tCons (tCall (sp_Lbox K) [] E' (tCons (tVar i0) (tCons (tVar i1) tNil))) tNil)) ns) tNil)) σ B (fun x => x = true) := fun H e t Q c => by
  have hm : 0 ≤ (if (s.items.length : Int) < j then (s.items.length : Int) else j) ∧ (if (s.items.length : Int) < j then (s.items.length : Int) else j) ≤ j := by split <;> omega
  have hl : PqT K q P (tLc (iRng1 (tCons (tOp (rAddU K) (tC (.int 1)) (tCB (rMinU) (tCons (tC (.int j)) (tCons (tCB (rLenU K) (tCons (tVar i0) tNil)) tNil)))) tNil)) (gName i1) tYes (tCall (RightPT K q P) [] E (tCons (tCall (sp_Lbox K) [] E' (tCons (tVar i0) (tCons (tVar i1) tNil))) tNil)) ns) σ B (fun ys : List Bool => ∀ y ∈ ys, y = true) := lcT_true (it_rng1 (e_addI e_int (e_minI e_int (e_lenSq (e_var hi hs)))) (by omega) (by omega)) (by rw [rangeI_len]; omega) fun k hk w B1 b1 hw => ⟨_, fun H Q _ q => q, (hset w).2.2, by
    obtain ⟨z, hz, rfl⟩ := List.mem_map.mp hk
    rw [List.mem_range] at hz
    exact eT_right (e_var (hset w).1 (Rep.mono b1 hs)) (e_var (hset w).2.1 hw) (by omega) (by omega)⟩
  refine hl H e t (fun v H1 => rAll K [v] H1 Q) fun v ys B1 H1 u t1 hy hv => ?_
  have key : tCB (rAll K) (tCons (tC v) tNil) σ H1 Q := (e_all (e_const hv)) H1 u.bh Q fun z B2 H2 u2 hz => c z _ B2 H2 (u.up t1.ne u2) (t1.up u2) (List.all_eq_true.mpr fun y h => hy y h) hz
  exact key
end
/-- the law, of its script -/
def LawPT (K : PySem.W.Frag) (q : Str) (P : Addr) : Sp := fun vs H Q _ => ∃ (s : Sq Int) (B : Hp), Ex B H ∧ LtAt q B H P ∧ (∃ v, vs = [v] ∧ Rep.at_ K B v s) ∧ ∀ H2, Q (.bl true) H2
theorem LawPT.len {K : PySem.W.Frag} {q : Str} {P : Addr} (vs : List V) (H : Hp) (Q : VK) (E : XK) (h : LawPT K q P vs H Q E) : vs.length = 1 := by
  obtain ⟨s, B, _, _, ⟨v, rfl, _⟩, _⟩ := h
  rfl
theorem LawPT.start {K : PySem.W.Frag} {q : Str} {P : Addr} {H : Hp} {a : Addr} {ns : List Int} (hP : H P = some (.tbl #[])) (hS : SqL K H a (ns.map V.int)) : LawPT K q P [.ref a] H (fun v _ => v = .bl true) fun _ _ _ => False := by
  have cut : ∀ {b : Addr} {o : HO}, H b = some o → o ≠ .tbl #[] → cutH H P b = some o := fun {b o} h n => by
    have : b ≠ P := fun z => n (by rw [z, hP] at h; exact (Option.some.inj h).symm)
    rw [cutH_ne this]
    exact h
  refine ⟨⟨ns⟩, cutH H P, fun b o h => ?_, ⟨cutH_same, #[], hP, trivial, fun pos cv h => by simp [codeAmong] at h⟩, ⟨_, rfl, a, _, rfl, .inl (hS.imp (fun h => h.imp (fun h => cut h fun z => nomatch z) fun ⟨o, h⟩ => ⟨o, cut h fun z => nomatch z⟩) id), ints_atAll ns⟩, fun _ => rfl⟩
  by_cases hb : b = P
  · rw [hb, cutH_same] at h
    cases h
  · rw [cutH_ne hb] at h
    exact h
end Ob

set_option Elab.async false
set_option linter.all false
set_option maxRecDepth 100000
set_option maxHeartbeats 4000000
/-! Tj: what the join of a law with a lambda's table needs. -/
namespace Ob
open PySem PySem.Spec PyProof.Rows L2
open LamX (TabB)
theorem okC {P : Program} {w : World} {K : PySem.W.Frag} {mg : Str → Option Value} {base : Heap} {x qual : Str} {params : Arguments} {body : List Stmt} {scope : Scope} {dvs : List V} {kws : List (Str × V)} {f : Addr} {fd : FuncData} {CX : CXT} {N ps : List Str} {k : Nat} {sp : Sp} {c : Addr}
    (F : FunD K x qual params body scope dvs kws f fd) (hc : fd.code = .ref c) (S : FnScope N ps scope) (len : ∀ vs H Q E, sp vs H Q E → vs.length = ps.length)
    (hbody : ∀ (A : Around) (outer : List Env) (s : Shared) (H : Hp) (vs : List V) (Q : VK) (E : XK), Room k (A.deeper (envOfC qual scope s.heap.objs.size f (.ref c))) → sp vs H Q E →
      ∃ t, PSs (cxOf CX P w K mg base N qual scope f (.ref c) A outer s H E) body t ∧ t { nx := fun _ H' => Q .non H', rt := Q } (start N vs) H) : FnOk P w K mg base CX (k + 1) f fd ps sp := by
  obtain ⟨oc, od, dV, kV, doc, pm, an, cdv, ct, osl, rfl, lk, hcd, _, _⟩ := F.ex
  have e : cdv = .ref c := hc
  subst e
  exact fn_of lk hcd S len fun A outer s H vs Q E hr hsp => hbody A outer s H vs Q E hr hsp
theorem code_of {K : PySem.W.Frag} {p : He.Defn} {x qual : Str} {params : Arguments} {body : List Stmt} {scope : Scope} {dvs : List V} {kws : List (Str × V)} {fd : FuncData} (F : FunD K x qual params body scope dvs kws (He.fAd K p) fd) : fd.code = .ref (He.cT K p).1 := by
  obtain ⟨oc, od, dV, kV, doc, pm, an, cdv, ct, osl, rfl, lk, hcd, _, _⟩ := F.ex
  obtain ⟨c, rfl⟩ := He.codeIn_ref hcd
  show Value.ref c = .ref (He.codeOf K p)
  rw [He.codeOf_eq lk rfl]
end Ob

set_option Elab.async false
set_option linter.all false
set_option maxRecDepth 100000
set_option maxHeartbeats 4000000
/-! M10: section 3 of the proof: which state leads to which. Plain Lean. -/
namespace Ob
open PySem L2
open PySem.W (Datum Tup DatumOrd)
theorem Reach.symm {rv : Str → List Str} (sym : ∀ x y, y ∈ rv x ↔ x ∈ rv y) {sw : List Str} {x y : Str} (hx : x ∈ sw) (h : Reach rv sw x y) : Reach rv sw y x := by
  induction h with
  | refl => exact .refl
  | step h1 hz hs ih =>
    have h1s := h1.sw hx
    exact Reach.trans (.step .refl ((sym _ _).mp hz) h1s) ih
theorem compsF_all {rv : Str → List Str} {sw : List Str} (hr : ∀ x ∈ sw, x ∈ compO rv sw x) : ∀ (n : Nat) (xs : List Str), xs.length ≤ n → (∀ y ∈ xs, y ∈ sw) → ∀ y ∈ xs, ∃ C ∈ compsF rv sw n xs, y ∈ C
  | 0, xs, h, _, y, hy => by
    have : xs = [] := List.length_eq_zero_iff.mp (by omega)
    rw [this] at hy
    cases hy
  | n + 1, [], _, _, y, hy => by cases hy
  | n + 1, x :: xs, h, hs, y, hy => by
    unfold compsF
    by_cases hc : y ∈ compO rv sw x
    · exact ⟨_, List.mem_cons_self, hc⟩
    · have hx := hr x (hs x List.mem_cons_self)
      have hl : ((x :: xs).filter fun z => !decide (z ∈ compO rv sw x)).length ≤ n := by
        rw [List.filter_cons, if_neg (by simp [hx])]
        have := List.length_filter_le (fun z => !decide (z ∈ compO rv sw x)) xs
        rw [List.length_cons] at h
        omega
      obtain ⟨C, h1, h2⟩ := compsF_all hr n _ hl (fun z hz => hs z (List.mem_filter.mp hz).1) y (List.mem_filter.mpr ⟨hy, by simp [hc]⟩)
      exact ⟨C, List.mem_cons_of_mem _ h1, h2⟩
theorem compsF_disj {rv : Str → List Str} (sym : ∀ x y, y ∈ rv x ↔ x ∈ rv y) {sw : List Str} (nd : sw.Nodup) : ∀ (n : Nat) (xs : List Str), (∀ y ∈ xs, y ∈ sw) → (compsF rv sw n xs).Pairwise (fun C D => ∀ z ∈ C, z ∉ D)
  | 0, _, _ => .nil
  | _ + 1, [], _ => .nil
  | n + 1, x :: xs, hs => by
    unfold compsF
    refine List.pairwise_cons.mpr ⟨fun D hD z hz hzD => ?_, compsF_disj sym nd n _ fun z hz => hs z (List.mem_filter.mp hz).1⟩
    obtain ⟨w, hw, rfl⟩ := compsF_mem hD
    rw [List.mem_filter] at hw
    have hx : x ∈ sw := hs x List.mem_cons_self
    have hws : w ∈ sw := hs w hw.1
    have h1 := (mem_compO.mp hz).2
    have h2 := (mem_compO.mp hzD).2
    have : w ∈ compO rv sw x := mem_compO.mpr ⟨hws, h1.trans (h2.symm sym hws)⟩
    simp [this] at hw
noncomputable def withO (rv : Str → List Str) (sw some : List Str) : List Str := sortD (((compsO rv sw).filter fun C => C.any fun s => decide (s ∈ some)).flatten)
theorem mem_withO {rv : Str → List Str} (sym : ∀ x y, y ∈ rv x ↔ x ∈ rv y) {sw some : List Str} {y : Str} : y ∈ withO rv sw some ↔ y ∈ sw ∧ ∃ z ∈ some, z ∈ sw ∧ Reach rv sw y z := by
  unfold withO
  rw [mem_sortD, List.mem_flatten]
  constructor
  · rintro ⟨C, hC, hy⟩
    rw [List.mem_filter] at hC
    obtain ⟨x, hx, rfl⟩ := compsO_mem hC.1
    obtain ⟨z, hz, hzs⟩ := List.any_eq_true.mp hC.2
    have h1 := mem_compO.mp hy
    have h2 := mem_compO.mp hz
    exact ⟨h1.1, z, of_decide_eq_true hzs, h2.1, (h1.2.symm sym hx).trans h2.2⟩
  · rintro ⟨hy, z, hz, hzs, hr⟩
    obtain ⟨C, h1, h2⟩ := compsF_all (fun x hx => mem_compO.mpr ⟨hx, .refl⟩) sw.length (sortD sw) (by rw [sortD_len]; exact Nat.le_refl _) (fun z hz => mem_sortD.mp hz) y (mem_sortD.mpr hy)
    refine ⟨C, List.mem_filter.mpr ⟨h1, ?_⟩, h2⟩
    obtain ⟨x, hx, rfl⟩ := compsO_mem h1
    have h3 := mem_compO.mp h2
    exact List.any_eq_true.mpr ⟨z, mem_compO.mpr ⟨hzs, h3.2.trans hr⟩, decide_eq_true hz⟩
theorem nodup_flatten' {α : Type} : ∀ {L : List (List α)}, (∀ C ∈ L, C.Nodup) → L.Pairwise (fun C D => ∀ z ∈ C, z ∉ D) → L.flatten.Nodup
  | [], _, _ => .nil
  | C :: L, h, p => by
    rw [List.pairwise_cons] at p
    rw [List.flatten_cons, List.nodup_append]
    refine ⟨h C List.mem_cons_self, nodup_flatten' (fun D hD => h D (List.mem_cons_of_mem _ hD)) p.2, fun a ha b hb e => ?_⟩
    obtain ⟨D, hD, hbD⟩ := List.mem_flatten.mp hb
    exact p.1 D hD a ha (e ▸ hbD)
theorem withO_asc {rv : Str → List Str} (sym : ∀ x y, y ∈ rv x ↔ x ∈ rv y) {sw some : List Str} (nd : sw.Nodup) : Asc (withO rv sw some) := by
  refine sortD_asc (nodup_flatten' (fun C hC => ?_) ?_)
  · obtain ⟨x, _, rfl⟩ := compsO_mem (List.mem_filter.mp hC).1
    exact asc_nodup (compO_asc nd)
  · exact (compsF_disj sym nd sw.length (sortD sw) fun y hy => mem_sortD.mp hy).sublist List.filter_sublist
/-! ### pressable switches, obstacles -/
def keptO (other may : List Str) : List Str := other.filter fun s => !decide (s ∈ may)
def safeO (rv : Str → List Str) (other may : List Str) : List Str := may.filter fun s => !((rv s).any fun n => decide (n ∈ keptO other may))
noncomputable def pressO (rv : Str → List Str) (other may : List Str) : List Str := withO rv (safeO rv other may) other
theorem mem_keptO {other may : List Str} {z : Str} : z ∈ keptO other may ↔ z ∈ other ∧ z ∉ may := by
  unfold keptO
  rw [List.mem_filter]
  simp
theorem mem_safeO {rv : Str → List Str} {other may : List Str} {z : Str} : z ∈ safeO rv other may ↔ z ∈ may ∧ ∀ n ∈ rv z, n ∈ other → n ∈ may := by
  unfold safeO
  rw [List.mem_filter, Bool.not_eq_true', List.any_eq_false]
  refine and_congr Iff.rfl ⟨fun h n hn ho => ?_, fun h n hn hk => ?_⟩
  · refine Classical.byContradiction fun hm => h n hn (decide_eq_true (mem_keptO.mpr ⟨ho, hm⟩))
  · have := mem_keptO.mp (of_decide_eq_true hk)
    exact this.2 (h n hn this.1)
theorem mem_pressO {rv : Str → List Str} (sym : ∀ x y, y ∈ rv x ↔ x ∈ rv y) {other may : List Str} {y : Str} : y ∈ pressO rv other may ↔ y ∈ safeO rv other may ∧ ∃ z ∈ other, z ∈ safeO rv other may ∧ Reach rv (safeO rv other may) y z := mem_withO sym
/-- what a switch reaches, it reaches from each switch that reaches it: closed under rivals -/
theorem press_step {rv : Str → List Str} (sym : ∀ x y, y ∈ rv x ↔ x ∈ rv y) {other may : List Str} {y z : Str} (h : y ∈ pressO rv other may) (hz : z ∈ rv y) (hs : z ∈ safeO rv other may) : z ∈ pressO rv other may := by
  obtain ⟨h1, w, hw, hws, hr⟩ := (mem_pressO sym).mp h
  exact (mem_pressO sym).mpr ⟨hs, w, hw, hws, Reach.trans (.step .refl ((sym _ _).mp hz) h1) hr⟩
theorem Reach.mono {rv : Str → List Str} {sw sw' : List Str} (h : ∀ z ∈ sw, z ∈ sw') {x y : Str} (k : Reach rv sw x y) : Reach rv sw' x y := by
  induction k with
  | refl => exact .refl
  | step _ hz hs ih => exact .step ih hz (h _ hs)
theorem safe_mono {rv : Str → List Str} {other may may' : List Str} (h : ∀ z ∈ may, z ∈ may') {z : Str} (k : z ∈ safeO rv other may) : z ∈ safeO rv other may' := by
  obtain ⟨h1, h2⟩ := mem_safeO.mp k
  exact mem_safeO.mpr ⟨h z h1, fun n hn ho => h n (h2 n hn ho)⟩
theorem press_mono {rv : Str → List Str} (sym : ∀ x y, y ∈ rv x ↔ x ∈ rv y) {other may may' : List Str} (h : ∀ z ∈ may, z ∈ may') {z : Str} (k : z ∈ pressO rv other may) : z ∈ pressO rv other may' := by
  obtain ⟨h1, w, hw, hws, hr⟩ := (mem_pressO sym).mp k
  exact (mem_pressO sym).mpr ⟨safe_mono h h1, w, hw, safe_mono h hws, hr.mono fun _ => safe_mono h⟩
/-- nothing bars the way -/
def FreeO (rv : Str → List Str) (one other may : List Str) : Prop := (∀ z ∈ other, z ∉ one → z ∈ may) ∧ ∀ z ∈ one, z ∉ other → z ∈ tch rv (pressO rv other may)
theorem mem_tch {rv : Str → List Str} {os : List Str} {z : Str} : z ∈ tch rv os ↔ z ∈ os ∨ ∃ s ∈ os, z ∈ rv s := by
  unfold tch
  rw [mem_sortD, mem_tchK]
theorem tch_mono' {rv : Str → List Str} {os os' : List Str} (h : ∀ z ∈ os, z ∈ os') {z : Str} (k : z ∈ tch rv os) : z ∈ tch rv os' := by
  rcases mem_tch.mp k with k | ⟨s, hs, hz⟩
  · exact mem_tch.mpr (.inl (h z k))
  · exact mem_tch.mpr (.inr ⟨s, h s hs, hz⟩)
/-- the order of presses that a route has -/
structure OrdO (rv : Str → List Str) (other may hs : List Str) : Prop where
  nd : hs.Nodup
  mem : ∀ z, z ∈ hs ↔ z ∈ pressO rv other may
  low : ∀ i y, hs[i]? = some y → y ∉ other → ∃ o ∈ hs.drop (i + 1), o ∈ rv y
  hi : ∀ i y, hs[i]? = some y → y ∈ other → ∀ o ∈ hs.drop (i + 1), o ∈ other
theorem lastP_id {hs : List Str} (nd : hs.Nodup) : lastP hs = hs := by
  induction hs with
  | nil => rfl
  | cons x xs ih =>
    rw [List.nodup_cons] at nd
    rw [lastP_cons, if_neg nd.1, ih nd.2]
/-- such presses lead there -/
theorem ord_runs {p : Pan} {one other may hs : List Str} (ho : StOk p other) (h1 : Asc one) (F : FreeO (rvs p) one other may) (O : OrdO (rvs p) other may hs) : runS (rvs p) one hs = other := by
  have sym := rvs_sym' p
  refine asc_ext (runS_asc h1) ho.1 fun z => ?_
  rw [mem_runS]
  have hno : ∀ a ∈ other, ∀ b ∈ other, b ∉ rvs p a := fun a ha b hb hr => by
    rcases mem_rvs.mp hr with h | h
    · exact ho.2.2 a ha b hb h
    · exact ho.2.2 b hb a ha h
  have hkeep : ∀ z ∈ other, z ∈ may → z ∈ pressO (rvs p) other may := fun z hz hm => by
    have hs : z ∈ safeO (rvs p) other may := mem_safeO.mpr ⟨hm, fun n hn hno' => absurd hn (hno z hz n hno')⟩
    exact (mem_pressO sym).mpr ⟨hs, z, hz, hs, .refl⟩
  have hlit : ∀ z, sem (rvs p) hs z = some true ↔ z ∈ hs ∧ z ∈ other := fun z => by
    rw [← left_sem sym O.nd z]
    constructor
    · intro h
      have hm : z ∈ hs := by
        unfold leftO at h
        exact (filtT_sub _ _).subset (mem_sortD.mp h)
      refine ⟨hm, Classical.byContradiction fun hn => ?_⟩
      obtain ⟨i, hi⟩ := List.getElem?_of_mem hm
      obtain ⟨o, ho', hr⟩ := O.low i z hi hn
      exact (left_at O.nd hi).mp h o ho' hr
    · rintro ⟨hm, hz⟩
      obtain ⟨i, hi⟩ := List.getElem?_of_mem hm
      refine (left_at O.nd hi).mpr fun o ho' hr => ?_
      exact hno z hz o (O.hi i z hi hz o ho') hr
  have hsafe : ∀ y ∈ hs, y ∈ safeO (rvs p) other may := fun y hy => ((mem_pressO sym).mp ((O.mem y).mp hy)).1
  have htch : z ∈ tch (rvs p) (pressO (rvs p) other may) ↔ sem (rvs p) hs z ≠ none := by
    rw [← tch_sem]
    exact ⟨tch_mono' fun y hy => (O.mem y).mpr hy, tch_mono' fun y hy => (O.mem y).mp hy⟩
  constructor
  · rintro (h | ⟨h, hz⟩)
    · exact ((hlit z).mp h).2
    · refine Classical.byContradiction fun hn => ?_
      exact htch.mp (F.2 z hz hn) h
  · intro hz
    by_cases hm : z ∈ may
    · exact .inl ((hlit z).mpr ⟨(O.mem z).mpr (hkeep z hz hm), hz⟩)
    · refine .inr ⟨sem_none.mpr ⟨fun h => hm (mem_safeO.mp (hsafe z h)).1, fun s hs' hr => hm ((mem_safeO.mp (hsafe s hs')).2 z hr hz)⟩, ?_⟩
      exact Classical.byContradiction fun hn => hm (F.1 z hz hn)
theorem sem_true_mem {rv : Str → List Str} {z : Str} : ∀ {hs : List Str}, sem rv hs z = some true → z ∈ hs
  | [], h => by cases h
  | x :: hs, h => by
    have h' : (sem rv hs z).or (sb rv x z) = some true := h
    cases e : sem rv hs z with
    | some b =>
      rw [e] at h'
      have hb : b = true := by simpa using h'
      exact List.mem_cons_of_mem _ (sem_true_mem (by rw [e, hb]))
    | none =>
      rw [e, Option.none_or] at h'
      unfold sb at h'
      by_cases hx : z = x
      · rw [hx]; exact List.mem_cons_self
      · rw [if_neg hx] at h'
        split at h' <;> cases h'
/-- what presses reach is not barred -/
theorem free_of_run {rv : Str → List Str} (sym : ∀ x y, y ∈ rv x ↔ x ∈ rv y) {one other may hs : List Str} (hm : ∀ z ∈ hs, z ∈ may) (hr : ∀ z, z ∈ runS rv one hs ↔ z ∈ other) : FreeO rv one other may ∧ ∀ z ∈ hs, z ∈ pressO rv other may := by
  have hon : ∀ z, z ∈ other ↔ sem rv hs z = some true ∨ (sem rv hs z = none ∧ z ∈ one) := fun z => (hr z).symm.trans mem_runS
  have hsafe : ∀ x ∈ hs, x ∈ safeO rv other may := fun x hx => mem_safeO.mpr ⟨hm x hx, fun n hn ho => by
    rcases (hon n).mp ho with h | ⟨h, _⟩
    · exact hm n (sem_true_mem h)
    · exact absurd hn ((sem_none.mp h).2 x hx)⟩
  have nd := lastP_nd hs
  have key : ∀ (k i : Nat) (x : Str), (lastP hs)[i]? = some x → (lastP hs).length ≤ i + k → ∃ z ∈ other, z ∈ safeO rv other may ∧ Reach rv (safeO rv other may) x z := by
    intro k
    induction k with
    | zero =>
      intro i x hx hl
      have := (List.getElem?_eq_some_iff.mp hx).1
      omega
    | succ k ih =>
      intro i x hx hl
      have hxs : x ∈ hs := mem_lastP.mp (List.mem_of_getElem? hx)
      by_cases hlit : sem rv hs x = some true
      · exact ⟨x, (hon x).mpr (.inl hlit), hsafe x hxs, .refl⟩
      · have : ¬ ∀ o ∈ (lastP hs).drop (i + 1), o ∉ rv x := fun h => hlit (by rw [← sem_lastP hs x, ← left_sem sym nd x]; exact (left_at nd hx).mpr h)
        obtain ⟨o, ho⟩ := Classical.not_forall.mp this
        obtain ⟨ho, hor⟩ := Classical.not_imp.mp ho
        have hor := Classical.not_not.mp hor
        obtain ⟨j, hj⟩ := List.getElem?_of_mem ho
        rw [List.getElem?_drop] at hj
        have hos : o ∈ hs := mem_lastP.mp (List.mem_of_getElem? hj)
        obtain ⟨z, h1, h2, h3⟩ := ih (i + 1 + j) o hj (by omega)
        exact ⟨z, h1, h2, Reach.trans (.step .refl hor (hsafe o hos)) h3⟩
  have hpress : ∀ x ∈ hs, x ∈ pressO rv other may := fun x hx => by
    obtain ⟨i, hi⟩ := List.getElem?_of_mem (mem_lastP.mpr hx)
    exact (mem_pressO sym).mpr ⟨hsafe x hx, key _ i x hi (Nat.le_add_left _ _)⟩
  refine ⟨⟨fun z hz hn => ?_, fun z hz hn => ?_⟩, hpress⟩
  · rcases (hon z).mp hz with h | ⟨_, h⟩
    · exact hm z (sem_true_mem h)
    · exact absurd h hn
  · have hs' : sem rv hs z ≠ none := fun h => hn ((hon z).mpr (.inr ⟨h, hz⟩))
    refine tch_mono' hpress ?_
    exact tch_sem.mpr hs'
theorem free_mono {rv : Str → List Str} (sym : ∀ x y, y ∈ rv x ↔ x ∈ rv y) {one other may may' : List Str} (h : ∀ z ∈ may, z ∈ may') (F : FreeO rv one other may) : FreeO rv one other may' :=
  ⟨fun z hz hn => h z (F.1 z hz hn), fun z hz hn => tch_mono' (fun _ => press_mono sym h) (F.2 z hz hn)⟩
theorem free_refl {rv : Str → List Str} {one may : List Str} : FreeO rv one one may := ⟨fun z hz hn => absurd hz hn, fun z hz hn => absurd hz hn⟩
theorem safe_all {rv : Str → List Str} {other sw : List Str} (ho : ∀ z ∈ other, z ∈ sw) {z : Str} : z ∈ safeO rv other sw ↔ z ∈ sw := by
  rw [mem_safeO]
  exact ⟨fun h => h.1, fun h => ⟨h, fun n _ hn => ho n hn⟩⟩
theorem press_all {rv : Str → List Str} (sym : ∀ x y, y ∈ rv x ↔ x ∈ rv y) {other sw : List Str} (ho : ∀ z ∈ other, z ∈ sw) {y : Str} : y ∈ pressO rv other sw ↔ y ∈ sw ∧ ∃ z ∈ other, Reach rv sw y z := by
  rw [mem_pressO sym, safe_all ho]
  refine and_congr Iff.rfl ⟨fun ⟨z, h1, _, h3⟩ => ⟨z, h1, h3.mono fun w hw => (safe_all ho).mp hw⟩, fun ⟨z, h1, h3⟩ => ⟨z, h1, (safe_all ho).mpr (ho z h1), h3.mono fun w hw => (safe_all ho).mpr hw⟩⟩
theorem tch_all {rv : Str → List Str} (sym : ∀ x y, y ∈ rv x ↔ x ∈ rv y) {other sw : List Str} (ho : ∀ z ∈ other, z ∈ sw) {y : Str} (hy : y ∈ sw) : y ∈ tch rv (pressO rv other sw) ↔ ∃ z ∈ other, Reach rv sw y z := by
  rw [mem_tch]
  constructor
  · rintro (h | ⟨s, hs, hr⟩)
    · exact ((press_all sym ho).mp h).2
    · obtain ⟨h1, z, hz, h2⟩ := (press_all sym ho).mp hs
      exact ⟨z, hz, Reach.trans (.step .refl ((sym _ _).mp hr) h1) h2⟩
  · rintro ⟨z, hz, h⟩
    exact .inl ((press_all sym ho).mpr ⟨hy, z, hz, h⟩)
theorem free_trans {rv : Str → List Str} (sym : ∀ x y, y ∈ rv x ↔ x ∈ rv y) {one other third sw : List Str} (h1 : ∀ z ∈ one, z ∈ sw) (h2 : ∀ z ∈ other, z ∈ sw) (h3 : ∀ z ∈ third, z ∈ sw) (F : FreeO rv one other sw) (G : FreeO rv other third sw) : FreeO rv one third sw := by
  refine ⟨fun z hz _ => h3 z hz, fun z hz hn => ?_⟩
  by_cases ho : z ∈ other
  · exact G.2 z ho hn
  · have hz' := h1 z hz
    obtain ⟨w, hw, hr⟩ := (tch_all sym h2 hz').mp (F.2 z hz ho)
    refine (tch_all sym h3 hz').mpr ?_
    by_cases ht : w ∈ third
    · exact ⟨w, ht, hr⟩
    · obtain ⟨v, hv, hr2⟩ := (tch_all sym h3 (h2 w hw)).mp (G.2 w hw ht)
      exact ⟨v, hv, hr.trans hr2⟩
end Ob

set_option Elab.async false
set_option linter.all false
set_option maxRecDepth 100000
set_option maxHeartbeats 4000000
/-! R1: with_some, allowed_of, pressable_in, pressable, obstacles, leads, look_way, needed. -/
namespace Ob
open PySem L2
open Evl (Ex)
open PySem.W (Datum Tup DatumOrd)
theorem compsF_len {rv : Str → List Str} {sw : List Str} : ∀ (n : Nat) (xs : List Str), (compsF rv sw n xs).length ≤ n
  | 0, _ => Nat.le_refl _
  | _ + 1, [] => Nat.zero_le _
  | n + 1, x :: xs => by
    unfold compsF
    rw [List.length_cons]
    exact Nat.succ_le_succ (compsF_len n _)
theorem comp_len {rv : Str → List Str} {sw C : List Str} (h : C ∈ compsO rv sw) : C.length ≤ sw.length := by
  obtain ⟨x, _, rfl⟩ := compsO_mem h
  unfold compO
  rw [sortD_len]
  exact List.length_filter_le _ _
theorem flatten_len {L : List (List Str)} {k : Nat} (h : ∀ C ∈ L, C.length ≤ k) : L.flatten.length ≤ k * L.length := by
  induction L with
  | nil => simp
  | cons C L ih =>
    have h1 := h C List.mem_cons_self
    have h2 := ih fun D hD => h D (List.mem_cons_of_mem _ hD)
    rw [List.flatten_cons, List.length_append, List.length_cons, Nat.mul_add]
    omega
theorem withO_congr {rv rv' : Str → List Str} {sw some : List Str} (nd : sw.Nodup) (h : ∀ y ∈ sw, rv y = rv' y) : withO rv sw some = withO rv' sw some := by
  unfold withO compsO
  rw [compsF_congr nd h _ _ fun y hy => mem_sortD.mp hy]
theorem safeO_congr {rv rv' : Str → List Str} {other may : List Str} (h : ∀ y ∈ may, rv y = rv' y) : safeO rv other may = safeO rv' other may := by
  unfold safeO
  refine List.filter_congr fun y hy => ?_
  rw [h y hy]
theorem safe_sub {rv : Str → List Str} {other may : List Str} : (safeO rv other may).Sublist may := List.filter_sublist
theorem pressO_congr {rv rv' : Str → List Str} {other may : List Str} (nd : may.Nodup) (h : ∀ y ∈ may, rv y = rv' y) : pressO rv other may = pressO rv' other may := by
  unfold pressO
  rw [safeO_congr h, withO_congr (nd.sublist safe_sub) fun y hy => h y (safe_sub.subset hy)]
theorem press_sub {p : Pan} {other may : List Str} {z : Str} (h : z ∈ pressO (rvs p) other may) : z ∈ may := safe_sub.subset ((mem_pressO (rvs_sym' p)).mp h).1
def mayO (p : Pan) (m : Mb (Sq Str)) : List Str := match m.o with
  | none => p.sw
  | some s => s.items
def MayOk (p : Pan) (m : Mb (Sq Str)) : Prop := ∀ s, m.o = some s → s.items.Nodup ∧ ∀ x ∈ s.items, x ∈ p.sw
theorem mayO_nd {p : Pan} (ok : PanOk p) {m : Mb (Sq Str)} (h : MayOk p m) : (mayO p m).Nodup := by
  obtain ⟨o⟩ := m
  cases o with
  | none => exact ok.nd
  | some s => exact (h s rfl).1
theorem mayO_sub {p : Pan} {m : Mb (Sq Str)} (h : MayOk p m) : ∀ x ∈ mayO p m, x ∈ p.sw := by
  obtain ⟨o⟩ := m
  cases o with
  | none => exact fun x hx => hx
  | some s => exact (h s rfl).2
def onS : Str := "on"
def offS : Str := "off"
noncomputable def obsO (rv : Str → List Str) (one other may : List Str) : List (Str × Str) := sortD ((other.filter fun z => !decide (z ∈ one) && !decide (z ∈ may)).map (fun z => (onS, z)) ++ (one.filter fun z => !decide (z ∈ other) && !decide (z ∈ tch rv (pressO rv other may))).map fun z => (offS, z))
theorem mem_obsO {rv : Str → List Str} {one other may : List Str} {e : Str × Str} : e ∈ obsO rv one other may ↔ (e.1 = onS ∧ e.2 ∈ other ∧ e.2 ∉ one ∧ e.2 ∉ may) ∨ (e.1 = offS ∧ e.2 ∈ one ∧ e.2 ∉ other ∧ e.2 ∉ tch rv (pressO rv other may)) := by
  obtain ⟨k, z⟩ := e
  unfold obsO
  rw [(sortD_perm _).mem_iff, List.mem_append, List.mem_map, List.mem_map]
  refine or_congr ⟨?_, ?_⟩ ⟨?_, ?_⟩
  · rintro ⟨y, hy, e⟩
    cases e
    rw [List.mem_filter] at hy
    simp at hy
    exact ⟨rfl, hy.1, hy.2.1, hy.2.2⟩
  · rintro ⟨rfl, h1, h2, h3⟩
    exact ⟨z, List.mem_filter.mpr ⟨h1, by simp [h2, h3]⟩, rfl⟩
  · rintro ⟨y, hy, e⟩
    cases e
    rw [List.mem_filter] at hy
    simp at hy
    exact ⟨rfl, hy.1, hy.2.1, hy.2.2⟩
  · rintro ⟨rfl, h1, h2, h3⟩
    exact ⟨z, List.mem_filter.mpr ⟨h1, by simp [h2, h3]⟩, rfl⟩
theorem obs_nil {rv : Str → List Str} {one other may : List Str} : obsO rv one other may = [] ↔ FreeO rv one other may := by
  rw [List.eq_nil_iff_forall_not_mem]
  constructor
  · intro h
    refine ⟨fun z hz hn => Classical.byContradiction fun hm => h (onS, z) (mem_obsO.mpr (.inl ⟨rfl, hz, hn, hm⟩)), fun z hz hn => Classical.byContradiction fun hm => h (offS, z) (mem_obsO.mpr (.inr ⟨rfl, hz, hn, hm⟩))⟩
  · rintro F ⟨k, z⟩ hm
    rcases mem_obsO.mp hm with ⟨_, h1, h2, h3⟩ | ⟨_, h1, h2, h3⟩
    · exact h3 (F.1 z h1 h2)
    · exact h3 (F.2 z h1 h2)
section
variable {K : PySem.W.Frag}
abbrev sp_with_some (K : PySem.W.Frag) : Sp := Fn3 K (fun (d : Dic (List Str)) (s o : Sq Str) => (TabGood d s.items ∧ s.items.length ≤ 100) ∧ o.items.length ≤ 1000) fun d s o => withO (look d) s.items o.items
def N_with_some : List Str := ["rivals", "switches", "some", "found", "group", "switch"]
def t_with_some (K : PySem.W.Frag) : TS :=
  (tSeq (tAsg (tLst tNil) (gName 3))
    (tSeq (tFor (iSeq K (tCall (sp_components K) [] E0 (tCons (tVar 0) (tCons (tVar 1) tNil)))) (gName 4) (tIfS (tB (tCB (rAny K) (tCons (tLc (iSeq K (tVar 4)) (gName 5) tYes (tOp (rInU K false) (tVar 5) (tVar 2)) [5]) tNil))) (tDrop (tBM K "list" (rExtU K) (tVar 3) (tCons (tVar 4) tNil))) tNext))
    (tRet (tCB (rSortU K) (tCons (tVar 3) tNil)))))
theorem l_with_some (vs : List V) (H : Hp) (Q : VK) (E : XK) (h : sp_with_some K vs H Q E) : vs.length = 3 := Fn3.len vs H Q E h
theorem r_with_some (vs : List V) (H : Hp) (Q : VK) (E : XK) (h : sp_with_some K vs H Q E) : t_with_some K (Ends.ret Q) (start N_with_some vs) H := by
  obtain ⟨d, ⟨sw⟩, ⟨ot⟩, B, ⟨⟨tg, z1⟩, z2⟩, s, q⟩ := Fn3.st h N_with_some
  have z1' : sw.length ≤ 100 := z1
  have hcl : (compsO (look d) sw).length ≤ 100 := Nat.le_trans (compsF_len _ _) z1'
  have hfl : ∀ L : List (List Str), L.Sublist (compsO (look d) sw) → L.flatten.length ≤ 10000 := fun L hL => by
    have h1 := flatten_len (k := 100) (L := L) fun C hC => Nat.le_trans (comp_len (hL.subset hC)) z1'
    have h2 := hL.length_le
    omega
  refine s.new Str fun l σ1 H1 s1 => ?_
  replace s1 : St K [] B H [lstC K l ([] : List Str)] [ce d, ce (Sq.mk sw), ce (Sq.mk ot), ca l, none, none] σ1 B H1 := s1
  refine s1.forG (D := { Ends.ret Q with nx := _ }) (δ := Unit) (it_seqL (e_call2 (E := E0) (f := fun (d : Dic (List Str)) (s : Sq Str) => compsO (look d) s.items) (s1.v (x := d) 0 rfl) (s1.v (x := Sq.mk sw) 1 rfl) tg)) (fun done _ => [lstC K l ((done.filter fun C => C.any fun s => decide (s ∈ ot)).flatten)]) (fun _ _ => [ce d, ce (Sq.mk sw), ce (Sq.mk ot), ca l, none, none]) (fun _ _ => True) ⟨(), trivial, fun _ _ s2 => s2⟩ (fun done C rest _ ex _ v σ' B' H' N hN s2 hv => ?_) fun _ _ σ' B' H' s2 => ?_
  · have ex' : compsO (look d) sw = done ++ C :: rest := ex
    have hC : C ∈ compsO (look d) sw := by rw [ex']; simp
    have hCl : C.length ≤ 100 := Nat.le_trans (comp_len hC) z1'
    have hdone : (done.filter fun C => C.any fun s => decide (s ∈ ot)).Sublist (compsO (look d) sw) := List.filter_sublist.trans (by rw [ex']; exact List.sublist_append_left _ _)
    have hdl := hfl _ hdone
    have s3 := s2.here.put 4 hv
    have fin : ∀ {found : List Str} {σ3 : L2.St} {B3 H3 : Hp}, found = ((done ++ [C]).filter fun C => C.any fun s => decide (s ∈ ot)).flatten → St K ([lstC K l ((done.filter fun C => C.any fun s => decide (s ∈ ot)).flatten)].map (·.l)) B' H' [lstC K l found] (cs [ce d, ce (Sq.mk sw), ce (Sq.mk ot), ca l, none, none] 4 (ce C)) σ3 B3 H3 → N σ3 H3 := fun {found σ3 B3 H3} e s9 => hN () (B3 := B3) trivial (e ▸ s9.fg [4])
    refine s3.iteL (b := C.any fun s => decide (s ∈ ot)) (t_B ((e_any (s3.sl.lcA (fun z => ngb false (decide (z ∈ ot))) (it_seqL (s3.v (x := C) 4 rfl)) (by omega) fun z _ σ4 B4 b4 s4 => e_inSq (s4.v 5 rfl) (s4.v (x := Sq.mk ot) 2 rfl) false)).is (by rw [List.any_map]; rfl))) (fun hb B4 H4 s4 => ?_) fun hb B4 H4 s4 => ?_
    · refine s4.extL (i := 3) (k := 0) (l := l) (xs := (done.filter fun C => C.any fun s => decide (s ∈ ot)).flatten) (ys := C) rfl rfl (s4.v (x := C) 4 rfl) (by omega) fun B5 H5 s5 => fin ?_ s5
      rw [List.filter_append, List.filter_cons, if_pos hb, List.flatten_append]
      simp
    · refine fin ?_ s4
      rw [List.filter_append, List.filter_cons, if_neg (by rw [hb]; decide)]
      simp
  · obtain ⟨B3, b3, s3⟩ := s2.frz (i := 3) (k := 0) (l := l) (xs := ((compsO (look d) sw).filter fun C => C.any fun s => decide (s ∈ ot)).flatten) rfl rfl (fun hm => by cases hm)
    replace s3 : St K [] B H [] [ce d, ce (Sq.mk sw), ce (Sq.mk ot), ce (((compsO (look d) sw).filter fun C => C.any fun s => decide (s ∈ ot)).flatten), none, none] σ' B3 H' := s3
    dsimp only
    exact St.ret (x := withO (look d) sw ot) s3 (e_sortSq ((s3.v (x := ((compsO (look d) sw).filter fun C => C.any fun s => decide (s ∈ ot)).flatten) 3 rfl).imp sq_list) (sortable_str _)) fun v B4 H4 s4 hv => q v B4 H4 s4.toUp hv
abbrev sp_allowed_of (K : PySem.W.Frag) : Sp := Fn2 K (fun (p : Pan) (m : Mb (Sq Str)) => MayOk p m) fun p m => mayO p m
def N_allowed_of : List Str := ["panel", "allowed"]
def t_allowed_of (K : PySem.W.Frag) : TS :=
  (tSeq (tIfS (tTest (tOp (rIsN) (tVar 1) (tC .non))) (tRet (tCB (rListU K) (tCons (tOp (rIxU K) (tVar 0) (tC (.int 0))) tNil))) tNext)
    (tSeq (tDrop (tCall (sp_look_switches K) [] E0 (tCons (tVar 0) (tCons (tVar 1) tNil))))
    (tRet (tCB (rListU K) (tCons (tVar 1) tNil)))))
theorem l_allowed_of (vs : List V) (H : Hp) (Q : VK) (E : XK) (h : sp_allowed_of K vs H Q E) : vs.length = 2 := Fn2.len vs H Q E h
theorem r_allowed_of (vs : List V) (H : Hp) (Q : VK) (E : XK) (h : sp_allowed_of K vs H Q E) : t_allowed_of K (Ends.ret Q) (start N_allowed_of vs) H := by
  obtain ⟨p, m, B, hm, s, q⟩ := Fn2.st h N_allowed_of
  obtain ⟨o⟩ := m
  cases o with
  | none =>
    refine s.ite (b := true) (t_test (e_isNS (x := Mb.mk (none : Option (Sq Str))) (s.v 1 rfl))) (fun _ B1 H1 s1 => ?_) fun hb => by cases hb
    exact s1.ret (e_lstSq (e_sw (s1.v (x := p) 0 rfl))) fun v B2 H2 s2 hv => q v B2 H2 s2.toUp hv
  | some t =>
    obtain ⟨t⟩ := t
    refine s.no (t_test (e_isNS (x := Mb.mk (some (Sq.mk t))) (s.v 1 rfl))) fun B1 H1 s1 => ?_
    refine s1.drop (e_call2 (x := p) (y := Sq.mk t) (s1.v 0 rfl) ((s1.v (x := Mb.mk (some (Sq.mk t))) 1 rfl).imp mb_get) (hm _ rfl).2) fun B2 H2 s2 => ?_
    exact s2.ret (e_lstSq (xs := t) ((s2.v (x := Mb.mk (some (Sq.mk t))) 1 rfl).imp mb_get)) fun v B3 H3 s3 hv => q v B3 H3 s3.toUp hv
abbrev sp_pressable_in (K : PySem.W.Frag) : Sp := Fn3 K (fun (d : Dic (List Str)) (o : Sq Str) (may : List Str) => (TabGood d may ∧ may.length ≤ 100) ∧ o.items.length ≤ 1000) fun d o may => pressO (look d) o.items may
def N_pressable_in : List Str := ["rivals", "other", "allowed", "kept", "safe", "switch", "near"]
def t_pressable_in (K : PySem.W.Frag) : TS :=
  (tSeq (tAsg (tLc (iSeq K (tVar 1)) (gName 5) (tTest (tOp (rInU K true) (tVar 5) (tVar 2))) (tVar 5) [5]) (gName 3))
    (tSeq (tAsg (tLc (iSeq K (tVar 2)) (gName 5) (tNot (tB (tCB (rAny K) (tCons (tLc (iSeq K (tOp (rIxU K) (tVar 0) (tVar 5))) (gName 6) tYes (tOp (rInU K false) (tVar 6) (tVar 3)) [6]) tNil)))) (tVar 5) [5]) (gName 4))
    (tRet (tCall (sp_with_some K) [] E0 (tCons (tVar 0) (tCons (tVar 4) (tCons (tVar 1) tNil)))))))
theorem l_pressable_in (vs : List V) (H : Hp) (Q : VK) (E : XK) (h : sp_pressable_in K vs H Q E) : vs.length = 3 := Fn3.len vs H Q E h
theorem r_pressable_in (vs : List V) (H : Hp) (Q : VK) (E : XK) (h : sp_pressable_in K vs H Q E) : t_pressable_in K (Ends.ret Q) (start N_pressable_in vs) H := by
  obtain ⟨d, ⟨ot⟩, may, B, ⟨⟨tg, z1⟩, z2⟩, s, q⟩ := Fn3.st h N_pressable_in
  have z2' : ot.length ≤ 1000 := z2
  refine s.set (x := keptO ot may) (s.sl.lcF (fun z => ngb true (decide (z ∈ may))) (it_sq (s.v (x := Sq.mk ot) 1 rfl)) (by omega) fun z _ σ2 B1 b1 s2 => ⟨t_test (e_inL (s2.v 5 rfl) (s2.v (x := may) 2 rfl) true), rfl⟩) fun σ1 B1 H1 s1 => ?_
  refine s1.set (x := safeO (look d) ot may) ((s1.sl.lcF (fun z => !(((look d z).map fun n => ngb false (decide (n ∈ keptO ot may))).any id)) (it_seqL (s1.v (x := may) 2 rfl)) (by omega) fun z hz σ2 B2 b2 s2 => ⟨t_not (t_B (e_any (s2.lcA (fun n => ngb false (decide (n ∈ keptO ot may))) (it_seqL (e_ixD (s2.v (x := d) 0 rfl) (s2.v (x := z) 5 rfl) (look_of (tg.2.2 z hz).1))) (by have := (tg.2.2 z hz).2.2; omega) fun n _ σ3 B3 b3 s3 => e_inL (s3.v 6 rfl) (s3.v (x := keptO ot may) 3 rfl) false))), rfl⟩).is ?_) fun σ2 B2 H2 s2 => ?_
  · unfold safeO
    refine List.filter_congr fun z _ => ?_
    rw [List.any_map]
    rfl
  have tg2 : TabGood d (safeO (look d) ot may) := ⟨tg.1.sublist safe_sub, Nat.le_trans safe_sub.length_le tg.2.1, fun y hy => tg.2.2 y (safe_sub.subset hy)⟩
  exact s2.ret (x := pressO (look d) ot may) (e_call3 (x := d) (y := Sq.mk (safeO (look d) ot may)) (z := Sq.mk ot) (f := fun (d : Dic (List Str)) (s o : Sq Str) => withO (look d) s.items o.items) (s2.v 0 rfl) ((s2.v (x := safeO (look d) ot may) 4 rfl).imp sq_list) (s2.v 1 rfl) ⟨⟨tg2, Nat.le_trans safe_sub.length_le z1⟩, z2⟩) fun v B3 H3 s3 hv => q v B3 H3 s3.toUp hv
theorem tabGood_sub {p : Pan} (h : PanN p) {may : List Str} (nd : may.Nodup) (hs : ∀ x ∈ may, x ∈ p.sw) : TabGood (tab p) may ∧ may.length ≤ 100 := by
  have hl : may.length ≤ p.sw.length := nd.length_le_of_subset hs
  have := h.1.s1
  exact ⟨⟨nd, by omega, fun y hy => (tabGood_of h).2.2 y (hs y hy)⟩, by omega⟩
abbrev sp_pressable (K : PySem.W.Frag) : Sp := Fn3 K (fun (p : Pan) (o : Sq Str) (m : Mb (Sq Str)) => (PanN p ∧ MayOk p m) ∧ o.items.length ≤ 1000) fun p o m => pressO (rvs p) o.items (mayO p m)
def N_pressable : List Str := ["panel", "other", "allowed"]
def t_pressable (K : PySem.W.Frag) : TS :=
  (tRet (tCall (sp_pressable_in K) [] E0 (tCons (tCall (sp_rival_table K) [] E0 (tCons (tVar 0) tNil)) (tCons (tVar 1) (tCons (tCall (sp_allowed_of K) [] E0 (tCons (tVar 0) (tCons (tVar 2) tNil))) tNil)))))
theorem l_pressable (vs : List V) (H : Hp) (Q : VK) (E : XK) (h : sp_pressable K vs H Q E) : vs.length = 3 := Fn3.len vs H Q E h
theorem r_pressable (vs : List V) (H : Hp) (Q : VK) (E : XK) (h : sp_pressable K vs H Q E) : t_pressable K (Ends.ret Q) (start N_pressable vs) H := by
  obtain ⟨p, ⟨ot⟩, m, B, ⟨⟨ok, hm⟩, z2⟩, s, q⟩ := Fn3.st h N_pressable
  have nd := mayO_nd ok.1.toPanOk hm
  have sub := mayO_sub hm
  exact s.ret ((e_call3 (x := tab p) (y := Sq.mk ot) (z := mayO p m) (f := fun (d : Dic (List Str)) (o : Sq Str) may => pressO (look d) o.items may) (e_call1 (s.v (x := p) 0 rfl) ok.1.toPanOk) (s.v 1 rfl) (e_call2 (x := p) (y := m) (s.v 0 rfl) (s.v 2 rfl) hm) ⟨tabGood_sub ok nd sub, z2⟩).is (pressO_congr nd (look_rvs sub))) fun v B1 H1 s1 hv => q v B1 H1 s1.toUp hv
def WayPre (p : Pan) (one other : Sq Str) (m : Mb (Sq Str)) : Prop := (PanN p ∧ MayOk p m) ∧ one.items.length ≤ 1000 ∧ other.items.length ≤ 1000
abbrev sp_obstacles (K : PySem.W.Frag) : Sp := Fn4 K WayPre fun p one other m => obsO (rvs p) one.items other.items (mayO p m)
def N_obstacles : List Str := ["panel", "one", "other", "allowed", "rivals", "may", "reached", "found", "switch"]
def t_obstacles (K : PySem.W.Frag) : TS :=
  (tSeq (tAsg (tTup (tCons (tCall (sp_rival_table K) [] E0 (tCons (tVar 0) tNil)) (tCons (tCall (sp_allowed_of K) [] E0 (tCons (tVar 0) (tCons (tVar 3) tNil))) tNil))) (gUnp K 2 (gCons (gName 4) (gCons (gName 5) gNil))))
    (tSeq (tAsg (tCall (sp_touched K) [] E0 (tCons (tVar 4) (tCons (tCall (sp_pressable_in K) [] E0 (tCons (tVar 4) (tCons (tVar 2) (tCons (tVar 5) tNil)))) tNil))) (gName 6))
    (tSeq (tAsg (tLc (iSeq K (tVar 2)) (gName 8) (tAnd (tTest (tOp (rInU K true) (tVar 8) (tVar 1))) (tTest (tOp (rInU K true) (tVar 8) (tVar 5)))) (tTup (tCons (tC (.str "on")) (tCons (tVar 8) tNil))) [8]) (gName 7))
    (tRet (tCB (rSortU K) (tCons (tOp (rAddU K) (tVar 7) (tLc (iSeq K (tVar 1)) (gName 8) (tAnd (tTest (tOp (rInU K true) (tVar 8) (tVar 2))) (tTest (tOp (rInU K true) (tVar 8) (tVar 6)))) (tTup (tCons (tC (.str "off")) (tCons (tVar 8) tNil))) [8])) tNil))))))
theorem l_obstacles (vs : List V) (H : Hp) (Q : VK) (E : XK) (h : sp_obstacles K vs H Q E) : vs.length = 4 := Fn4.len vs H Q E h
theorem r_obstacles (vs : List V) (H : Hp) (Q : VK) (E : XK) (h : sp_obstacles K vs H Q E) : t_obstacles K (Ends.ret Q) (start N_obstacles vs) H := by
  obtain ⟨p, ⟨one⟩, ⟨ot⟩, m, B, ⟨⟨ok, hm⟩, z1, z2⟩, s, q⟩ := Fn4.st h N_obstacles
  have z1' : one.length ≤ 1000 := z1
  have z2' : ot.length ≤ 1000 := z2
  have nd := mayO_nd ok.1.toPanOk hm
  have sub := mayO_sub hm
  have psub : ∀ x ∈ pressO (rvs p) ot (mayO p m), x ∈ p.sw := fun x hx => sub x (press_sub hx)
  have pnd : (pressO (rvs p) ot (mayO p m)).Nodup := asc_nodup (withO_asc (rvs_sym' p) (nd.sublist safe_sub))
  have pl : (pressO (rvs p) ot (mayO p m)).length ≤ p.sw.length := pnd.length_le_of_subset psub
  have s1n := ok.1.s1
  refine s.unp (x := tab p) (y := mayO p m) (e_call1 (s.v (x := p) 0 rfl) ok.1.toPanOk) (e_call2 (x := p) (y := m) (s.v 0 rfl) (s.v 3 rfl) hm) fun σ1 B1 H1 s1 => ?_
  refine s1.set (x := tch (rvs p) (pressO (rvs p) ot (mayO p m))) ((e_call2 (x := tab p) (y := Sq.mk (pressO (rvs p) ot (mayO p m))) (f := fun (d : Dic (List Str)) (s : Sq Str) => tch (look d) s.items) (s1.v 4 rfl) (((e_call3 (x := tab p) (y := Sq.mk ot) (z := mayO p m) (f := fun (d : Dic (List Str)) (o : Sq Str) may => pressO (look d) o.items may) (s1.v 4 rfl) (s1.v 2 rfl) (s1.v 5 rfl) ⟨tabGood_sub ok nd sub, z2⟩).is (pressO_congr nd (look_rvs sub))).imp sq_list) (tchPre_of ok.1 psub (by omega))).is ?_) fun σ2 B2 H2 s2 => ?_
  · show sortD (tchK (look (tab p)) _) = sortD (tchK (rvs p) _)
    rw [tch_congr (look_rvs psub)]
  refine s2.set (x := (ot.filter fun z => !decide (z ∈ one) && !decide (z ∈ mayO p m)).map fun z => (onS, z)) (s2.sl.lc (fun z => ngb true (decide (z ∈ one)) && ngb true (decide (z ∈ mayO p m))) (fun z => (onS, z)) (it_sq (s2.v (x := Sq.mk ot) 2 rfl)) (by omega) fun z _ σ3 B3 b3 s3 => ⟨t_and (t_test (e_inSq (s3.v 8 rfl) (s3.v (x := Sq.mk one) 1 rfl) true)) fun _ => t_test (e_inL (s3.v 8 rfl) (s3.v (x := mayO p m) 5 rfl) true), fun _ => e_pair (e_str (i := onS)) (s3.v 8 rfl)⟩) fun σ3 B3 H3 s3 => ?_
  have l1 := List.length_filter_le (fun z => !decide (z ∈ one) && !decide (z ∈ mayO p m)) ot
  have l2 := List.length_filter_le (fun z => ngb true (decide (z ∈ ot)) && ngb true (decide (z ∈ tch (rvs p) (pressO (rvs p) ot (mayO p m))))) one
  exact s3.ret (x := obsO (rvs p) one ot (mayO p m)) (e_sortSq ((e_addL (s3.v (x := (ot.filter fun z => !decide (z ∈ one) && !decide (z ∈ mayO p m)).map fun z => (onS, z)) 7 rfl) (s3.sl.lc (fun z => ngb true (decide (z ∈ ot)) && ngb true (decide (z ∈ tch (rvs p) (pressO (rvs p) ot (mayO p m))))) (fun z => (offS, z)) (it_sq (s3.v (x := Sq.mk one) 1 rfl)) (by omega) fun z _ σ4 B4 b4 s4 => ⟨t_and (t_test (e_inSq (s4.v 8 rfl) (s4.v (x := Sq.mk ot) 2 rfl) true)) fun _ => t_test (e_inL (s4.v 8 rfl) (s4.v (x := tch (rvs p) (pressO (rvs p) ot (mayO p m))) 6 rfl) true), fun _ => e_pair (e_str (i := offS)) (s4.v 8 rfl)⟩) (by rw [List.length_map, List.length_map]; omega)).imp sq_list) (sortable_pair _)) fun v B4 H4 s4 hv => q v B4 H4 s4.toUp hv
abbrev sp_leads (K : PySem.W.Frag) : Sp := Fn4 K WayPre fun p one other m => decide (obsO (rvs p) one.items other.items (mayO p m) = [])
def N_leads : List Str := ["panel", "one", "other", "allowed"]
def t_leads (K : PySem.W.Frag) : TS :=
  (tRet (tOp (rEqP K) (tCB (rLenU K) (tCons (tCallN 3 1 (sp_obstacles K) (fun vs zs => vs ++ zs) E0 (tCons (tVar 0) (tCons (tVar 1) (tCons (tVar 2) tNil))) (tCons (tVar 3) tNil)) tNil)) (tC (.int 0))))
theorem l_leads (vs : List V) (H : Hp) (Q : VK) (E : XK) (h : sp_leads K vs H Q E) : vs.length = 4 := Fn4.len vs H Q E h
theorem r_leads (vs : List V) (H : Hp) (Q : VK) (E : XK) (h : sp_leads K vs H Q E) : t_leads K (Ends.ret Q) (start N_leads vs) H := by
  obtain ⟨p, one, ot, m, B, hp, s, q⟩ := Fn4.st h N_leads
  exact s.ret ((e_eq (e_lenL (xs := obsO (rvs p) one.items ot.items (mayO p m)) (e_call4k (x := p) (y := one) (z := ot) (t := m) (s.v 0 rfl) (s.v 1 rfl) (s.v 2 rfl) (s.v 3 rfl) hp)) (e_int (i := 0))).is (by rw [decide_eq_decide]; exact ⟨fun h => List.length_eq_zero_iff.mp (by omega), fun h => by rw [h]; rfl⟩)) fun v B1 H1 s1 hv => q v B1 H1 s1.toUp hv
abbrev sp_look_way (K : PySem.W.Frag) : Sp := Fn4 K (fun p one other m => WayPre p one other m ∧ FreeO (rvs p) one.items other.items (mayO p m)) fun _ _ _ _ => ()
end
end Ob

set_option Elab.async false
set_option linter.all false
set_option maxRecDepth 100000
set_option maxHeartbeats 4000000
/-! R2: look_way (of a way that is free), needed. -/
namespace Ob
open PySem L2
open Evl (Ex)
open PySem.W (Datum Tup DatumOrd)
section
variable {K : PySem.W.Frag}
def N_look_way : List Str := ["panel", "one", "other", "allowed", "found"]
def t_look_way (K : PySem.W.Frag) : TS :=
  (tSeq (tAsg (tCallN 3 1 (sp_obstacles K) (fun vs zs => vs ++ zs) E0 (tCons (tVar 0) (tCons (tVar 1) (tCons (tVar 2) tNil))) (tCons (tVar 3) tNil)) (gName 4))
    (tIfS (tTest (tOp (rGtU K) (tCB (rLenU K) (tCons (tVar 4) tNil)) (tC (.int 0)))) tNever tNext))
theorem l_look_way (vs : List V) (H : Hp) (Q : VK) (E : XK) (h : sp_look_way K vs H Q E) : vs.length = 4 := Fn4.len vs H Q E h
theorem r_look_way (vs : List V) (H : Hp) (Q : VK) (E : XK) (h : sp_look_way K vs H Q E) : t_look_way K (Ends.ret Q) (start N_look_way vs) H := by
  obtain ⟨p, one, ot, m, B, ⟨hp, F⟩, s, q⟩ := Fn4.st h N_look_way
  have hn : obsO (rvs p) one.items ot.items (mayO p m) = [] := obs_nil.mpr F
  refine s.set (x := obsO (rvs p) one.items ot.items (mayO p m)) (e_call4k (x := p) (y := one) (z := ot) (t := m) (s.v 0 rfl) (s.v 1 rfl) (s.v 2 rfl) (s.v 3 rfl) hp) fun σ1 B1 H1 s1 => ?_
  refine s1.noL (t_test ((e_gt (e_lenL (xs := obsO (rvs p) one.items ot.items (mayO p m)) (s1.v 4 rfl)) (e_int (i := 0))).is (by rw [hn]; rfl))) fun B2 H2 s2 => ?_
  exact q .non B2 H2 s2.toUp (at_non.mpr rfl)
noncomputable def needO (p : Pan) (one other : List Str) : List Str := p.sw.filter fun s => !decide (obsO (rvs p) one other (p.sw.filter fun z => !decide (z = s)) = [])
abbrev sp_needed (K : PySem.W.Frag) : Sp := Fn3 K (fun (p : Pan) (one other : Sq Str) => (PanN p ∧ one.items.length ≤ 1000 ∧ other.items.length ≤ 1000) ∧ FreeO (rvs p) one.items other.items p.sw) fun p one other => needO p one.items other.items
def N_needed : List Str := ["panel", "one", "other", "found", "switch", "near"]
def t_needed (K : PySem.W.Frag) : TS :=
  (tSeq (tDrop (tCall (sp_look_way K) [] E0 (tCons (tVar 0) (tCons (tVar 1) (tCons (tVar 2) (tCons (tC .non) tNil))))))
    (tSeq (tAsg (tLst tNil) (gName 3))
    (tSeq (tFor (iSeq K (tOp (rIxU K) (tVar 0) (tC (.int 0)))) (gName 4) (tIfS (tNot (tB (tCallN 3 1 (sp_leads K) (fun vs zs => vs ++ zs) E0 (tCons (tVar 0) (tCons (tVar 1) (tCons (tVar 2) tNil))) (tCons (tLc (iSeq K (tOp (rIxU K) (tVar 0) (tC (.int 0)))) (gName 5) (tTest (tOp (rNeP K) (tVar 5) (tVar 4))) (tVar 5) [5]) tNil)))) (tDrop (tBM K "list" (rAppend) (tVar 3) (tCons (tVar 4) tNil))) tNext))
    (tRet (tVar 3)))))
theorem l_needed (vs : List V) (H : Hp) (Q : VK) (E : XK) (h : sp_needed K vs H Q E) : vs.length = 3 := Fn3.len vs H Q E h
theorem r_needed (vs : List V) (H : Hp) (Q : VK) (E : XK) (h : sp_needed K vs H Q E) : t_needed K (Ends.ret Q) (start N_needed vs) H := by
  obtain ⟨p, one, ot, B, ⟨⟨ok, z1, z2⟩, F⟩, s, q⟩ := Fn3.st h N_needed
  have s1n := ok.1.s1
  obtain ⟨gd, hgd⟩ : ∃ gd : Str → Bool, ∀ s, decide (obsO (rvs p) one.items ot.items (p.sw.filter fun z => !decide (z = s)) = []) = gd s := ⟨_, fun _ => rfl⟩
  have hneed : needO p one.items ot.items = p.sw.filter fun s => !gd s := by
    unfold needO
    simp only [hgd]
  have q' : ∀ v B2 H2, Up B H B2 H2 → Rep.at_ K B2 v (p.sw.filter fun s => !gd s) → Q v H2 := by
    rw [← hneed]
    exact q
  refine s.drop (e_call4 (x := p) (y := one) (z := ot) (t := Mb.mk none) (s.v 0 rfl) (s.v 1 rfl) (s.v 2 rfl) e_nonA ⟨⟨⟨ok, fun _ h => by cases h⟩, z1, z2⟩, F⟩) fun B1 H1 s1 => ?_
  refine s1.new Str fun l σ2 H2 s2 => ?_
  replace s2 : St K [] B H [lstC K l ([] : List Str)] [ce p, ce one, ce ot, ca l, none, none] σ2 B1 H2 := s2
  refine s2.forG (D := { Ends.ret Q with nx := _ }) (δ := Unit) (it_sq (e_sw (s2.v (x := p) 0 rfl))) (fun done _ => [lstC K l (done.filter fun s => !gd s)]) (fun _ _ => [ce p, ce one, ce ot, ca l, none, none]) (fun _ _ => True) ⟨(), trivial, fun _ _ s3 => s3⟩ (fun done x rest _ ex _ v σ' B' H' N hN s3 hv => ?_) fun _ _ σ' B' H' s3 => ?_
  · have hdl := congrArg List.length ex
    rw [List.length_append, List.length_cons] at hdl
    have hfl := List.length_filter_le (fun s => !gd s) done
    have s4 := s3.here.put 4 hv
    have hmay : MayOk p (Mb.mk (some (Sq.mk (p.sw.filter fun z => !decide (z = x))))) := fun s hs => by
      cases hs
      exact ⟨ok.1.nd.filter _, fun z hz => (List.mem_filter.mp hz).1⟩
    have fin : ∀ {found : List Str} {σ3 : L2.St} {B3 H3 : Hp}, found = ((done ++ [x]).filter fun s => !gd s) → St K ([lstC K l (done.filter fun s => !gd s)].map (·.l)) B' H' [lstC K l found] (cs [ce p, ce one, ce ot, ca l, none, none] 4 (ce x)) σ3 B3 H3 → N σ3 H3 := fun {found σ3 B3 H3} e s9 => hN () (B3 := B3) trivial (e ▸ s9.fg [4])
    have ht := (e_call4k (E := E0) (x := p) (y := one) (z := ot) (t := Mb.mk (some (Sq.mk (p.sw.filter fun z => !decide (z = x))))) (f := fun p one other m => decide (obsO (rvs p) one.items other.items (mayO p m) = [])) (s4.v 0 rfl) (s4.v 1 rfl) (s4.v 2 rfl) ((s4.sl.lcF (j := 5) (fun z => !decide (z = x)) (it_sq (e_sw (s4.v (x := p) 0 rfl))) (by omega) fun z _ σ5 B5 b5 s5 => ⟨t_test (e_ne (s5.v 5 rfl) (s5.v 4 rfl)), rfl⟩).imp fun h => mb_some (sq_list h)) (pre := WayPre) ⟨⟨ok, hmay⟩, z1, z2⟩).is (hgd x)
    refine s4.iteL (b := !gd x) (t_not (t_B ht)) (fun hb B5 H5 s5 => ?_) fun hb B5 H5 s5 => ?_
    · refine s5.app (i := 3) (k := 0) (l := l) (x := x) rfl rfl (s5.v 4 rfl) (by omega) fun B6 H6 s6 => fin ?_ s6
      rw [List.filter_append, List.filter_cons, if_pos hb]
      rfl
    · refine fin ?_ s5
      rw [List.filter_append, List.filter_cons, if_neg (by rw [hb]; decide)]
      simp
  · obtain ⟨B3, b3, s4⟩ := s3.frz (i := 3) (k := 0) (l := l) (xs := p.sw.filter fun s => !gd s) rfl rfl (fun hm => by cases hm)
    replace s4 : St K [] B H [] [ce p, ce one, ce ot, ce (p.sw.filter fun s => !gd s), none, none] σ' B3 H' := s4
    dsimp only
    exact St.ret (x := p.sw.filter fun s => !gd s) s4 (s4.v 3 rfl) fun v B4 H4 s5 hv => q' v B4 H4 s5.toUp hv
theorem mem_needO {p : Pan} {one other : List Str} {s : Str} : s ∈ needO p one other ↔ s ∈ p.sw ∧ ¬ FreeO (rvs p) one other (p.sw.filter fun z => !decide (z = s)) := by
  unfold needO
  rw [List.mem_filter]
  simp only [Bool.not_eq_true', decide_eq_false_iff_not, obs_nil]
/-- presses that lead there press what is needed -/
theorem need_in {p : Pan} {one other hs : List Str} (hm : ∀ z ∈ hs, z ∈ p.sw) (hr : ∀ z, z ∈ runS (rvs p) one hs ↔ z ∈ other) {s : Str} (h : s ∈ needO p one other) : s ∈ hs := by
  obtain ⟨h1, h2⟩ := mem_needO.mp h
  refine Classical.byContradiction fun hn => h2 ?_
  exact (free_of_run (rvs_sym' p) (fun z hz => List.mem_filter.mpr ⟨hm z hz, by
    simp only [Bool.not_eq_true', decide_eq_false_iff_not]
    intro e
    exact hn (e ▸ hz)⟩) hr).1
end
end Ob

set_option Elab.async false
set_option linter.all false
set_option maxRecDepth 100000
set_option maxHeartbeats 4000000
/-! M11: an order of presses exists where nothing bars the way; what a search reaches; the dark groups. Plain Lean. -/
namespace Ob
open PySem L2
open PySem.W (Datum Tup DatumOrd)
/-- a chain of rivals into a list has a first step into it -/
theorem enter {rv : Str → List Str} (sym : ∀ x y, y ∈ rv x ↔ x ∈ rv y) {other may L : List Str} {y z : Str} (hy : y ∈ pressO rv other may) (hn : y ∉ L) (h : Reach rv (safeO rv other may) y z) : z ∈ pressO rv other may ∧ (z ∈ L → ∃ u ∈ pressO rv other may, u ∉ L ∧ ∃ v ∈ L, v ∈ rv u) := by
  induction h with
  | refl => exact ⟨hy, fun hz => absurd hz hn⟩
  | step h1 hz hs ih =>
    refine ⟨press_step sym ih.1 hz hs, fun hL => ?_⟩
    rename_i u v
    by_cases hu : u ∈ L
    · exact ih.2 hu
    · exact ⟨u, ih.1, hu, v, hL, hz⟩
theorem ord_grow {rv : Str → List Str} (sym : ∀ x y, y ∈ rv x ↔ x ∈ rv y) {other may : List Str} : ∀ (n : Nat) (L : List Str), (pressO rv other may).length ≤ L.length + n → L.Nodup → (∀ z ∈ L, z ∈ pressO rv other may) → (∀ z ∈ pressO rv other may, z ∈ other → z ∈ L) →
    (∀ i y, L[i]? = some y → y ∉ other → ∃ o ∈ L.drop (i + 1), o ∈ rv y) → (∀ i y, L[i]? = some y → y ∈ other → ∀ o ∈ L.drop (i + 1), o ∈ other) → (pressO rv other may).Nodup → ∃ hs, OrdO rv other may hs
  | 0, L, hl, nd, sub, hot, low, hi, pnd => by
    refine ⟨L, nd, fun z => ⟨sub z, fun hz => ?_⟩, low, hi⟩
    refine Classical.byContradiction fun hn => ?_
    have := (List.nodup_cons.mpr ⟨hn, nd⟩).length_le_of_subset (l₂ := pressO rv other may) fun w hw => (List.mem_cons.mp hw).elim (fun e => e ▸ hz) (sub w)
    rw [List.length_cons] at this
    omega
  | n + 1, L, hl, nd, sub, hot, low, hi, pnd => by
    by_cases hall : ∀ z ∈ pressO rv other may, z ∈ L
    · exact ⟨L, nd, fun z => ⟨sub z, hall z⟩, low, hi⟩
    · obtain ⟨y, hy⟩ := Classical.not_forall.mp hall
      obtain ⟨hy, hyn⟩ := Classical.not_imp.mp hy
      obtain ⟨hys, w, hw, hws, hr⟩ := (mem_pressO sym).mp hy
      have he := enter sym hy hyn hr
      obtain ⟨u, hu, hun, v, hv, hvu⟩ := he.2 (hot w he.1 hw)
      have huo : u ∉ other := fun h => hun (hot u hu h)
      refine ord_grow sym n (u :: L) (by rw [List.length_cons]; omega) (List.nodup_cons.mpr ⟨hun, nd⟩) (fun z hz => (List.mem_cons.mp hz).elim (fun e => e ▸ hu) (sub z)) (fun z hz ho => List.mem_cons_of_mem _ (hot z hz ho)) (fun i y hy hyo => ?_) (fun i y hy hyo o ho => ?_) pnd
      · cases i with
        | zero =>
          simp at hy
          subst hy
          exact ⟨v, by simpa using hv, hvu⟩
        | succ i =>
          obtain ⟨o, ho, hor⟩ := low i y (by simpa using hy) hyo
          exact ⟨o, by simpa using ho, hor⟩
      · cases i with
        | zero =>
          simp at hy
          subst hy
          exact absurd hyo huo
        | succ i => exact hi i y (by simpa using hy) hyo o (by simpa using ho)
theorem ord_exists {rv : Str → List Str} (sym : ∀ x y, y ∈ rv x ↔ x ∈ rv y) {other may : List Str} (nd : may.Nodup) : ∃ hs, OrdO rv other may hs := by
  have pnd : (pressO rv other may).Nodup := asc_nodup (withO_asc sym (nd.sublist safe_sub))
  have hL : ∀ z, z ∈ (pressO rv other may).filter (fun z => decide (z ∈ other)) ↔ z ∈ pressO rv other may ∧ z ∈ other := fun z => by
    rw [List.mem_filter]
    simp
  refine ord_grow sym (pressO rv other may).length _ (Nat.le_add_left _ _) (pnd.filter fun z => decide (z ∈ other)) (fun z hz => ((hL z).mp hz).1) (fun z hz ho => (hL z).mpr ⟨hz, ho⟩) (fun i y hy hyo => absurd ((hL y).mp (List.mem_of_getElem? hy)).2 hyo) (fun i y hy hyo o ho => ((hL o).mp (List.mem_of_mem_drop ho)).2) pnd
/-- section 3: a state leads to another one exactly if nothing bars the way -/
theorem lead_iff {p : Pan} (nd : p.sw.Nodup) {one other may : List Str} (hm : ∀ z ∈ may, z ∈ p.sw) (mnd : may.Nodup) (ho : StOk p other) (h1 : Asc one) : FreeO (rvs p) one other may ↔ ∃ hs, (∀ x ∈ hs, x ∈ may) ∧ runS (rvs p) one hs = other := by
  constructor
  · intro F
    obtain ⟨hs, O⟩ := ord_exists (rvs_sym' p) (other := other) mnd
    exact ⟨hs, fun x hx => press_sub ((O.mem x).mp hx), ord_runs ho h1 F O⟩
  · rintro ⟨hs, h1, h2⟩
    exact (free_of_run (rvs_sym' p) h1 fun z => by rw [h2]).1
theorem closed_all {rv : Str → List Str} {one ms : List Str} {S : List (List Str)} (h1 : one ∈ S) (hc : ∀ st ∈ S, ∀ x ∈ ms, wp rv st x ∈ S) : ∀ (hs : List Str) (st : List Str), st ∈ S → (∀ x ∈ hs, x ∈ ms) → runS rv st hs ∈ S
  | [], st, h, _ => h
  | x :: hs, st, h, hm => closed_all h1 hc hs _ (hc st h x (hm x List.mem_cons_self)) fun y hy => hm y (List.mem_cons_of_mem _ hy)
/-! ### how many states there can be -/
def subl : List Str → List (List Str)
  | [] => [[]]
  | x :: xs => subl xs ++ (subl xs).map (x :: ·)
theorem subl_len : ∀ xs : List Str, (subl xs).length = 2 ^ xs.length
  | [] => rfl
  | x :: xs => by
    unfold subl
    rw [List.length_append, List.length_map, subl_len xs, List.length_cons, Nat.pow_succ]
    omega
theorem mem_subl {st xs : List Str} (h : st.Sublist xs) : st ∈ subl xs := by
  induction h with
  | slnil => exact List.mem_singleton.mpr rfl
  | cons x _ ih => exact List.mem_append_left _ ih
  | cons_cons x _ ih => exact List.mem_append_right _ (List.mem_map.mpr ⟨_, ih, rfl⟩)
theorem asc_sub {st sw : List Str} (h1 : Asc st) (h2 : Asc sw) (h : ∀ x ∈ st, x ∈ sw) : st.Sublist sw := by
  have e : sw.filter (fun x => decide (x ∈ st)) = st := asc_ext (h2.sublist List.filter_sublist) h1 fun z => by
    rw [List.mem_filter]
    simp only [decide_eq_true_eq]
    exact ⟨fun k => k.2, fun k => ⟨h z k, k⟩⟩
  rw [← e]
  exact List.filter_sublist
theorem states_few {sw : List Str} (hs : Asc sw) {S : List (List Str)} (nd : S.Nodup) (h : ∀ st ∈ S, Asc st ∧ ∀ x ∈ st, x ∈ sw) : S.length ≤ 2 ^ sw.length := by
  rw [← subl_len]
  exact nd.length_le_of_subset fun st hst => mem_subl (asc_sub (h st hst).1 hs (h st hst).2)
end Ob

set_option Elab.async false
set_option linter.all false
set_option maxRecDepth 100000
set_option maxHeartbeats 4000000
/-! M13: an order by falling distance is an order of presses as section 3 wants it (for route). Plain Lean. -/
namespace Ob
open PySem L2
open PySem.W (Datum Tup DatumOrd)
/-- distances to the switches that stay on -/
structure DistO (rv : Str → List Str) (other may : List Str) (far : Str → Int) : Prop where
  pos : ∀ z ∈ pressO rv other may, 0 ≤ far z
  zero : ∀ z ∈ pressO rv other may, far z = 0 ↔ z ∈ other
  down : ∀ z ∈ pressO rv other may, 0 < far z → ∃ o ∈ pressO rv other may, o ∈ rv z ∧ far o < far z
theorem ord_of_dist {rv : Str → List Str} {other may hs : List Str} {far : Str → Int} (F : DistO rv other may far) (nd : hs.Nodup) (hm : ∀ z, z ∈ hs ↔ z ∈ pressO rv other may) (hp : hs.Pairwise fun x y => far y ≤ far x) : OrdO rv other may hs := by
  have later : ∀ {i j : Nat} {x y : Str}, hs[i]? = some x → hs[j]? = some y → i < j → far y ≤ far x := fun {i j x y} hx hy hij => by
    obtain ⟨l1, e1⟩ := List.getElem?_eq_some_iff.mp hx
    obtain ⟨l2, e2⟩ := List.getElem?_eq_some_iff.mp hy
    have := List.pairwise_iff_getElem.mp hp i j l1 l2 hij
    rw [e1, e2] at this
    exact this
  refine ⟨nd, hm, fun i y hy hn => ?_, fun i y hy ho o hod => ?_⟩
  · have hyp := (hm y).mp (List.mem_of_getElem? hy)
    have h0 : far y ≠ 0 := fun e => hn ((F.zero y hyp).mp e)
    have h1 := F.pos y hyp
    obtain ⟨o, hop, hor, hlt⟩ := F.down y hyp (by omega)
    obtain ⟨j, hj⟩ := List.getElem?_of_mem ((hm o).mpr hop)
    refine ⟨o, ?_, hor⟩
    have hij : i < j := by
      rcases Nat.lt_trichotomy i j with h | h | h
      · exact h
      · subst h
        rw [hy] at hj
        cases hj
        omega
      · have := later hj hy h
        omega
    have : (hs.drop (i + 1))[j - (i + 1)]? = some o := by
      rw [List.getElem?_drop, show i + 1 + (j - (i + 1)) = j by omega]
      exact hj
    exact List.mem_of_getElem? this
  · have hyp := (hm y).mp (List.mem_of_getElem? hy)
    obtain ⟨j, hj⟩ := List.getElem?_of_mem hod
    rw [List.getElem?_drop] at hj
    have hop := (hm o).mp (List.mem_of_getElem? hj)
    have h1 := later hy hj (by omega)
    have h2 := (F.zero y hyp).mpr ho
    have h3 := F.pos o hop
    exact (F.zero o hop).mp (by omega)
end Ob

set_option Elab.async false
set_option linter.all false
set_option maxRecDepth 100000
set_option maxHeartbeats 4000000
/-! R3: distances, order_to, route. -/
namespace Ob
open PySem L2
open Evl (Ex)
open PySem.W (Datum Tup DatumOrd)
/-- distances from the ends, within some switches -/
structure DistR (rv : Str → List Str) (sw ends : List Str) (d : List (Str × Int)) : Prop where
  nd : (d.map (·.1)).Nodup
  sub : ∀ z ∈ d.map (·.1), z ∈ sw
  pos : ∀ p ∈ d, 0 ≤ p.2
  zero : ∀ p ∈ d, p.2 = 0 ↔ p.1 ∈ ends
  ends : ∀ z ∈ ends, z ∈ d.map (·.1)
  down : ∀ p ∈ d, 0 < p.2 → ∃ o ∈ d, p.1 ∈ rv o.1 ∧ o.2 < p.2
structure DistI (rv : Str → List Str) (sw ends : List Str) (d : List (Str × Int)) (layer : List Str) (far : Int) : Prop extends DistR rv sw ends d where
  f0 : 0 ≤ far
  bnd : ∀ p ∈ d, p.2 ≤ far
  ly : ∀ z ∈ layer, (z, far) ∈ d
  lz : layer.length ≤ 1000
  cl : ∀ y ∈ d.map (·.1), y ∉ layer → ∀ z ∈ rv y, z ∈ sw → z ∈ d.map (·.1)
def DistC (rv : Str → List Str) (sw ends : List Str) (d : List (Str × Int)) : Prop := DistR rv sw ends d ∧ ∀ y ∈ d.map (·.1), ∀ z ∈ rv y, z ∈ sw → z ∈ d.map (·.1)
theorem keys_cI {ks : List Str} {n : Int} {p : Str × Int} : p ∈ cI ks n ↔ p.1 ∈ ks ∧ p.2 = n := by
  obtain ⟨a, b⟩ := p
  unfold cI
  rw [List.mem_map]
  constructor
  · rintro ⟨x, hx, e⟩
    cases e
    exact ⟨hx, rfl⟩
  · rintro ⟨h1, h2⟩
    exact ⟨a, h1, by rw [← h2]⟩
theorem mem_keys {d : List (Str × Int)} {z : Str} {n : Int} (h : (z, n) ∈ d) : z ∈ d.map (·.1) := List.mem_map.mpr ⟨_, h, rfl⟩
theorem dist_start {rv : Str → List Str} {sw ends : List Str} (hs : ∀ z ∈ ends, z ∈ sw) (hl : ends.length ≤ 1000) : DistI rv sw ends (cI (insAll [] ends) 0) ends 0 where
  nd := by rw [cI_keys]; exact insAll_nd List.nodup_nil
  sub z hz := by
    rw [cI_keys, mem_insAll] at hz
    exact hs z (hz.resolve_left (by simp))
  pos p hp := by rw [(keys_cI.mp hp).2]; exact Int.le_refl 0
  zero p hp := by
    obtain ⟨h1, h2⟩ := keys_cI.mp hp
    exact ⟨fun _ => (mem_insAll.mp h1).resolve_left (by simp), fun _ => h2⟩
  ends z hz := by rw [cI_keys]; exact mem_insAll.mpr (.inr hz)
  down p hp h0 := by rw [(keys_cI.mp hp).2] at h0; exact absurd h0 (by decide)
  f0 := Int.le_refl 0
  bnd p hp := by rw [(keys_cI.mp hp).2]; exact Int.le_refl 0
  ly z hz := keys_cI.mpr ⟨mem_insAll.mpr (.inr hz), rfl⟩
  lz := hl
  cl y hy hn := by
    rw [cI_keys, mem_insAll] at hy
    exact absurd (hy.resolve_left (by simp)) hn
def hitO (rv : Str → List Str) (sw : List Str) (d : List (Str × Int)) (layer : List Str) : List Str := layer.flatMap fun x => (rv x).filter fun z => decide (z ∈ sw) && !decide (z ∈ d.map (·.1))
theorem mem_hitO {rv : Str → List Str} {sw : List Str} {d : List (Str × Int)} {layer : List Str} {z : Str} : z ∈ insAll [] (hitO rv sw d layer) ↔ (∃ x ∈ layer, z ∈ rv x) ∧ z ∈ sw ∧ z ∉ d.map (·.1) := by
  rw [mem_insAll]
  unfold hitO
  rw [List.mem_flatMap]
  constructor
  · rintro (h | ⟨x, hx, h⟩)
    · cases h
    · rw [List.mem_filter, Bool.and_eq_true, decide_eq_true_iff, Bool.not_eq_true', decide_eq_false_iff_not] at h
      exact ⟨⟨x, hx, h.1⟩, h.2⟩
  · rintro ⟨⟨x, hx, h1⟩, h2, h3⟩
    exact .inr ⟨x, hx, List.mem_filter.mpr ⟨h1, by simp only [h2, h3, decide_true, decide_false, Bool.not_false, Bool.and_self]⟩⟩
theorem dist_turn {rv : Str → List Str} {sw ends : List Str} {d : List (Str × Int)} {layer : List Str} {far : Int} (I : DistI rv sw ends d layer far) (hn : sw.length ≤ 1000) : DistI rv sw ends (d ++ cI (insAll [] (hitO rv sw d layer)) (far + 1)) (insAll [] (hitO rv sw d layer)) (far + 1) := by
  have f0 := I.f0
  have nd2 : (insAll [] (hitO rv sw d layer)).Nodup := insAll_nd List.nodup_nil
  have keys : ∀ {z}, z ∈ (d ++ cI (insAll [] (hitO rv sw d layer)) (far + 1)).map (·.1) ↔ z ∈ d.map (·.1) ∨ z ∈ insAll [] (hitO rv sw d layer) := fun {z} => by rw [List.map_append, List.mem_append, cI_keys]
  have mem : ∀ {p}, p ∈ d ++ cI (insAll [] (hitO rv sw d layer)) (far + 1) → p ∈ d ∨ (p.1 ∈ insAll [] (hitO rv sw d layer) ∧ p.2 = far + 1) := fun {p} hp => (List.mem_append.mp hp).imp id keys_cI.mp
  refine ⟨⟨?_, fun z hz => ?_, fun p hp => ?_, fun p hp => ?_, fun z hz => keys.mpr (.inl (I.ends z hz)), fun p hp h0 => ?_⟩, by omega, fun p hp => ?_, fun z hz => List.mem_append_right _ (keys_cI.mpr ⟨hz, rfl⟩), ?_, fun y hy hny z hz hzs => ?_⟩
  · rw [List.map_append, cI_keys, List.nodup_append]
    exact ⟨I.nd, nd2, fun a ha b hb e => (mem_hitO.mp hb).2.2 (e ▸ ha)⟩
  · rcases keys.mp hz with h | h
    · exact I.sub z h
    · exact (mem_hitO.mp h).2.1
  · rcases mem hp with h | ⟨_, h⟩
    · exact I.pos p h
    · omega
  · rcases mem hp with h | ⟨h1, h⟩
    · exact I.zero p h
    · refine ⟨fun e => by omega, fun e => absurd (I.ends _ e) (mem_hitO.mp h1).2.2⟩
  · rcases mem hp with h | ⟨h1, h⟩
    · obtain ⟨o, ho, h2, h3⟩ := I.down p h h0
      exact ⟨o, List.mem_append_left _ ho, h2, h3⟩
    · obtain ⟨⟨x, hx, hr⟩, _⟩ := mem_hitO.mp h1
      exact ⟨(x, far), List.mem_append_left _ (I.ly x hx), hr, by show far < p.2; omega⟩
  · rcases mem hp with h | ⟨_, h⟩
    · have := I.bnd p h
      omega
    · omega
  · exact Nat.le_trans (nd2.length_le_of_subset fun z hz => (mem_hitO.mp hz).2.1) hn
  · rcases keys.mp hy with h | h
    · by_cases hl : y ∈ layer
      · by_cases hk : z ∈ d.map (·.1)
        · exact keys.mpr (.inl hk)
        · exact keys.mpr (.inr (mem_hitO.mpr ⟨⟨y, hl, hz⟩, hzs, hk⟩))
      · exact keys.mpr (.inl (I.cl y h hl z hz hzs))
    · exact absurd h hny
/-- what reaches an end has a distance -/
theorem dist_all {rv : Str → List Str} {sw ends : List Str} {d : List (Str × Int)} (C : DistC rv sw ends d) {z e : Str} (he : e ∈ ends) (h : Reach rv sw e z) : z ∈ d.map (·.1) := by
  induction h with
  | refl => exact C.1.ends e he
  | step _ hz hs ih => exact C.2 _ ih _ hz hs
section
variable {K : PySem.W.Frag}
abbrev sp_distances (K : PySem.W.Frag) : Sp := Fn3R K (fun (d : Dic (List Str)) (s e : Sq Str) => TabGood d s.items ∧ (∀ z ∈ e.items, z ∈ s.items) ∧ e.items.length ≤ 1000) fun d s e (r : Dic Int) => DistC (look d) s.items e.items r.kvs
def N_distances : List Str := ["rivals", "switches", "ends", "found", "layer", "far", "near", "end", "switch", "other"]
def t_distances (K : PySem.W.Frag) : TS :=
  (tSeq (tAsg (tTup (tCons (tDc (iSeq K (tVar 2)) (gName 7) tYes (tVar 7) (tC (.int 0)) [7]) (tCons (tCB (rListU K) (tCons (tVar 2) tNil)) (tCons (tC (.int 0)) tNil)))) (gUnp K 3 (gCons (gName 3) (gCons (gName 4) (gCons (gName 5) gNil)))))
    (tSeq (tWhile (tTest (tOp (rGtU K) (tCB (rLenU K) (tCons (tVar 4) tNil)) (tC (.int 0)))) (tSeq (tAug 5 (tC (.int 1)) (ipI fun i j => i + j))
    (tSeq (tAsg (tDc2 (iSeq K (tVar 4)) (gName 8) tYes (iSeq K (tOp (rIxU K) (tVar 0) (tVar 8))) (gName 9) (tAnd (tTest (tOp (rInU K false) (tVar 9) (tVar 1))) (tTest (tOp (rInU K true) (tVar 9) (tVar 3)))) (tVar 9) (tVar 5) [8, 9] [9]) (gName 6))
    (tSeq (tDrop (tBM K "dict" (rUpdU) (tVar 3) (tCons (tVar 6) tNil)))
    (tAsg (tCB (rListU K) (tCons (tVar 6) tNil)) (gName 4))))))
    (tRet (tVar 3))))
theorem l_distances (vs : List V) (H : Hp) (Q : VK) (E : XK) (h : sp_distances K vs H Q E) : vs.length = 3 := Fn3R.len vs H Q E h
theorem r_distances (vs : List V) (H : Hp) (Q : VK) (E : XK) (h : sp_distances K vs H Q E) : t_distances K (Ends.ret Q) (start N_distances vs) H := by
  obtain ⟨d, ⟨sw⟩, ⟨es⟩, B, ⟨tg, hes, hel⟩, s, q⟩ := Fn3R.st h N_distances
  have tg' : TabGood d sw := tg
  have hes' : ∀ z ∈ es, z ∈ sw := hes
  have hel' : es.length ≤ 1000 := hel
  have hswl : sw.length ≤ 1000 := tg'.2.1
  refine s.distStart (i := 3) (j := 4) (m := 5) (a := 7) (xs := es) (x := 0) (it_sq (s.v (x := Sq.mk es) 2 rfl)) (by omega) (show 7 < 10 from by decide) (s.v (x := Sq.mk es) 2 rfl) (fun _ _ => e_int) e_int fun p σ1 B1 H1 s1 => ?_
  replace s1 : St K [] B H [dkiC p (cI (insAll [] es) 0)] [ce d, ce (Sq.mk sw), ce (Sq.mk es), ca p, ce es, ce (0 : Int), none, none, none, none] σ1 B1 H1 := s1
  refine s1.qwhl (δ := List (Str × Int) × List Str × Int) (fun e => 2 * (sw.length - e.1.length) + (if e.2.1 = [] then 0 else 1)) (fun e => [dkiC p e.1]) (fun e => [ce d, ce (Sq.mk sw), ce (Sq.mk es), ca p, ce e.2.1, ce e.2.2, none, none, none, none]) (fun e => DistI (look d) sw es e.1 e.2.1 e.2.2) (fun e => !decide (e.2.1 = [])) (cI (insAll [] es) 0, es, 0) (dist_start hes' hel') (fun e hI σ' B' H' s2 => ?_) (fun e hI hb σ' B' H' N hN s2 => ?_) fun e hI hb σ' B' H' s2 => ?_
  · refine t_test ((e_gt (e_lenL (xs := e.2.1) (s2.v 4 rfl)) (e_int (i := 0))).is ?_)
    cases e.2.1 with
    | nil => rfl
    | cons a l =>
      have h1 : (0 : Int) < ((a :: l).length : Int) := by rw [List.length_cons]; omega
      have h2 : ¬ (a :: l = []) := fun z => by cases z
      rw [decide_eq_false h2]
      exact decide_eq_true h1
  · obtain ⟨found, layer, far⟩ := e
    have hI' : DistI (look d) sw es found layer far := hI
    have hfl : found.length ≤ sw.length := by
      have := hI'.nd.length_le_of_subset (l₂ := sw) hI'.sub
      rwa [List.length_map] at this
    have hly : ∀ x ∈ layer, x ∈ sw := fun x hx => hI'.sub x (mem_keys (hI'.ly x hx))
    refine s2.aug (i := 5) (x := far) (y := 1) rfl e_int fun σ3 B3 H3 s3 => ?_
    replace s3 : St K [] B H [dkiC p found] [ce d, ce (Sq.mk sw), ce (Sq.mk es), ca p, ce layer, ce (far + 1), none, none, none, none] σ3 B3 H3 := s3
    have hfm : (layer.flatMap (look d)).length ≤ 1000000 := by
      have key : ∀ l : List Str, (∀ x ∈ l, (look d x).length ≤ 1000) → (l.flatMap (look d)).length ≤ 1000 * l.length := by
        intro l
        induction l with
        | nil => intro _; simp
        | cons x l ih =>
          intro h
          have h1 := h x List.mem_cons_self
          have h2 := ih fun y hy => h y (List.mem_cons_of_mem _ hy)
          rw [List.flatMap_cons, List.length_append, List.length_cons, Nat.mul_add]
          omega
      have h1 := key layer fun x hx => (tg'.2.2 x (hly x hx)).2.2
      have h2 := hI'.lz
      omega
    refine s3.qdc2 (a := 8) (b := 9) (i := 3) (j := 6) (k := 0) (l := p) (d := found) (xs := layer) (n := far + 1) (look d) (fun _ z => decide (z ∈ sw) && !decide (z ∈ found.map (·.1))) rfl rfl (by omega) hfm (fun B' b' sl => it_seqL (sl.v (x := layer) 4 rfl)) (fun x hx σ4 B4 sl => ⟨it_seqL (e_ixD (sl.v (x := d) 0 rfl) (sl.v (x := x) 8 rfl) (look_of (tg'.2.2 x (hly x hx)).1)), fun y _ σ5 B5 sl5 => ⟨t_and (t_test (e_inSq (sl5.v 9 rfl) (sl5.v (x := Sq.mk sw) 1 rfl) false)) fun _ => t_test (e_inDi (sl5.v 9 rfl) (sl5.v (x := Dic.mk found) 3 rfl) true), sl5.v 9 rfl, sl5.v 5 rfl⟩⟩) fun p2 σ4 B4 H4 s4 => ?_
    obtain ⟨near, hnear⟩ : ∃ near, near = insAll [] (hitO (look d) sw found layer) := ⟨_, rfl⟩
    replace s4 : St K [] B H [dkiC p found, dkiC p2 (cI near (far + 1))] [ce d, ce (Sq.mk sw), ce (Sq.mk es), ca p, ce layer, ce (far + 1), ca p2, none, none, none] σ4 B4 H4 := by rw [hnear]; exact s4
    have hI2 := dist_turn hI' hswl
    rw [← hnear] at hI2
    have ndn : near.Nodup := by rw [hnear]; exact insAll_nd List.nodup_nil
    have hnl : (found ++ cI near (far + 1)).length ≤ sw.length := by
      have := hI2.nd.length_le_of_subset (l₂ := sw) hI2.sub
      rwa [List.length_map] at this
    rw [List.length_append, cI_len] at hnl
    refine s4.qupd (i := 3) (j := 6) (k := 0) (k2 := 1) (l := p) (l2 := p2) (d := found) (ks := near) (n := far + 1) rfl rfl (by decide) rfl rfl ndn (fun x hx => by rw [hnear] at hx; exact (mem_hitO.mp hx).2.2) (by omega) fun H5 s5 => ?_
    replace s5 : St K [] B H [dkiC p (found ++ cI near (far + 1)), dkiC p2 (cI near (far + 1))] [ce d, ce (Sq.mk sw), ce (Sq.mk es), ca p, ce layer, ce (far + 1), ca p2, none, none, none] σ4 B4 H5 := s5
    refine s5.keysL (i := 6) (j := 4) (k := 1) (l := p2) (d := cI near (far + 1)) rfl rfl fun σ6 B6 H6 s6 => ?_
    rw [cI_keys] at s6
    refine hN (found ++ cI near (far + 1), near, far + 1) (B3 := B6) ?_ hI2 ((s6.forget 1).fg [6])
    have hne : layer ≠ [] := by simpa using hb
    show 2 * (sw.length - (found ++ cI near (far + 1)).length) + (if near = [] then 0 else 1) < 2 * (sw.length - found.length) + (if layer = [] then 0 else 1)
    rw [if_neg hne, List.length_append, cI_len]
    by_cases hnn : near = []
    · rw [if_pos hnn, hnn]
      simp
    · rw [if_neg hnn]
      have : 0 < near.length := List.length_pos_iff.mpr hnn
      omega
  · obtain ⟨found, layer, far⟩ := e
    have hI' : DistI (look d) sw es found layer far := hI
    have hnil : layer = [] := by simpa using hb
    have hfl : found.length ≤ sw.length := by
      have := hI'.nd.length_le_of_subset (l₂ := sw) hI'.sub
      rwa [List.length_map] at this
    obtain ⟨B4, b4, s4⟩ := s2.frzI (i := 3) (k := 0) (l := p) (d := found) rfl rfl (fun hm => by cases hm) (by omega)
    replace s4 : St K [] B H [] [ce d, ce (Sq.mk sw), ce (Sq.mk es), ce (Dic.mk found), ce layer, ce far, none, none, none, none] σ' B4 H' := s4
    refine St.ret (x := Dic.mk found) s4 (s4.v 3 rfl) fun v B5 H5 s5 hv => q v _ B5 H5 s5.toUp ⟨hI'.toDistR, fun y hy z hz hs => hI'.cl y hy (by rw [hnil]; simp) z hz hs⟩ hv
/-! ### order_to -/
theorem leK_iff {g : Str → Int} {a b : Str} : (!DatumOrd.lt ((-(g b), b) : Int × Str) (-(g a), a)) = true ↔ g b < g a ∨ (g b = g a ∧ leS a b = true) := by
  show (!(if -(g b) = -(g a) then ltS b a else decide (-(g b) < -(g a)))) = true ↔ _
  by_cases h : g b = g a
  · rw [if_pos (by omega)]
    exact ⟨fun z => .inr ⟨h, z⟩, fun z => z.elim (fun z => absurd h (by omega)) fun z => z.2⟩
  · rw [if_neg (by omega), Bool.not_eq_true', decide_eq_false_iff_not]
    exact ⟨fun z => .inl (by omega), fun z => z.elim (fun z => by omega) fun z => absurd z.1 h⟩
theorem sortKey_perm (g : Str → Int) (xs : List Str) : (sortKey g xs).Perm xs := List.mergeSort_perm _ _
theorem sortKey_pw (g : Str → Int) (xs : List Str) : (sortKey g xs).Pairwise fun x y => g y ≤ g x := by
  refine (List.pairwise_mergeSort (le := fun a b => !DatumOrd.lt ((-(g b), b) : Int × Str) (-(g a), a)) (fun a b c h1 h2 => ?_) (fun a b => ?_) xs).imp fun {a b} h => ?_
  · rw [leK_iff] at h1 h2 ⊢
    rcases h1 with h1 | ⟨h1, h3⟩
    · rcases h2 with h2 | ⟨h2, _⟩
      · exact .inl (by omega)
      · exact .inl (by omega)
    · rcases h2 with h2 | ⟨h2, h4⟩
      · exact .inl (by omega)
      · exact .inr ⟨by omega, leS_trans a b c h3 h4⟩
  · rw [Bool.or_eq_true, leK_iff, leK_iff]
    have := leS_total a b
    rw [Bool.or_eq_true] at this
    rcases Int.lt_trichotomy (g a) (g b) with h | h | h
    · exact .inr (.inl h)
    · exact this.elim (fun z => .inl (.inr ⟨h.symm, z⟩)) fun z => .inr (.inr ⟨h, z⟩)
    · exact .inl (.inl h)
  · rw [leK_iff] at h
    omega
def OrdD (rv : Str → List Str) (sw ends hs : List Str) : Prop := hs.Perm sw ∧ ∃ far : Str → Int, (∀ z ∈ sw, 0 ≤ far z) ∧ (∀ z ∈ sw, far z = 0 ↔ z ∈ ends) ∧ (∀ z ∈ sw, 0 < far z → ∃ o ∈ sw, z ∈ rv o ∧ far o < far z) ∧ hs.Pairwise fun x y => far y ≤ far x
def ltO : Str := "order_to.<locals>.<lambda>"
abbrev sp_order_to (K : PySem.W.Frag) (Pt : Addr) : Sp := FnT3R K ltO Pt (fun (d : Dic (List Str)) (sw : List Str) (e : Sq Str) => (TabGood d sw ∧ (∀ z ∈ e.items, z ∈ sw) ∧ e.items.length ≤ 1000) ∧ ∀ z ∈ sw, ∃ o ∈ e.items, Reach (look d) sw o z) fun d sw e hs => OrdD (look d) sw e.items hs
def N_order_to : List Str := ["rivals", "switches", "ends", "far"]
def t_order_to (K : PySem.W.Frag) (Pt : Addr) : TS :=
  (tSeq (tAsg (tCall (sp_distances K) [] E0 (tCons (tVar 0) (tCons (tVar 1) (tCons (tVar 2) tNil)))) (gName 3))
    (tRet (tSortLam K ((("order_to" : Str) ++ ".<locals>.") ++ "<lambda>") Pt (tVar 1) 3)))
theorem l_order_to {Pt : Addr} (vs : List V) (H : Hp) (Q : VK) (E : XK) (h : sp_order_to K Pt vs H Q E) : vs.length = 3 := FnT3R.len vs H Q E h
theorem r_order_to {Pt : Addr} (vs : List V) (H : Hp) (Q : VK) (E : XK) (h : sp_order_to K Pt vs H Q E) : t_order_to K Pt (Ends.ret Q) (start N_order_to vs) H := by
  obtain ⟨d, sw, ⟨es⟩, B, ⟨⟨tg, hes, hel⟩, hr⟩, s, q⟩ := FnT3R.st h N_order_to
  have hswl : sw.length ≤ 1000 := tg.2.1
  refine s.setR (R := fun r : Dic Int => DistC (look d) sw es r.kvs) (e_call3R (x := d) (y := Sq.mk sw) (z := Sq.mk es) (R := fun (d : Dic (List Str)) (s e : Sq Str) (r : Dic Int) => DistC (look d) s.items e.items r.kvs) (s.v 0 rfl) ((s.v (x := sw) 1 rfl).imp sq_list) (s.v 2 rfl) ⟨tg, hes, hel⟩) fun r hC σ1 B1 H1 s1 => ?_
  replace s1 : St K [Pt] B H [tabC ltO Pt] [ce d, ce sw, ce (Sq.mk es), ce r] σ1 B1 H1 := s1
  have hk : ∀ z ∈ sw, z ∈ r.kvs.map (·.1) := fun z hz => by
    obtain ⟨o, ho, hro⟩ := hr z hz
    exact dist_all hC ho hro
  have hg : ∀ z ∈ sw, ∃ n, r.kvs.lookup z = some n ∧ (z, n) ∈ r.kvs := fun z hz => lookup_in (hk z hz)
  have hf : ∀ z ∈ sw, r.kvs.lookup z = some ((r.kvs.lookup z).getD 0) ∧ (z, (r.kvs.lookup z).getD 0) ∈ r.kvs := fun z hz => by
    obtain ⟨n, h1, h2⟩ := hg z hz
    rw [h1]
    exact ⟨rfl, h2⟩
  have uq : ∀ p ∈ r.kvs, p.1 ∈ sw → p.2 = (r.kvs.lookup p.1).getD 0 := fun p hp hs => by
    have h2 := (hf p.1 hs).2
    have nd := hC.1.nd
    obtain ⟨i, hi, e1⟩ := List.mem_iff_getElem.mp hp
    obtain ⟨j, hj, e2⟩ := List.mem_iff_getElem.mp h2
    have e : i = j := (List.getElem_inj (h₀ := by rw [List.length_map]; exact hi) (h₁ := by rw [List.length_map]; exact hj) nd).mp (by rw [List.getElem_map, List.getElem_map, e1, e2])
    subst e
    rw [e1] at e2
    exact congrArg (·.2) e2
  refine s1.retQ (k := 0) rfl (eT_sortLam (i := 3) (xs := sw) (d := r) (g := fun z => (r.kvs.lookup z).getD 0) s1.sl (s1.v 1 rfl) rfl (by omega) fun z hz => (hf z hz).1) fun v ys hy B2 H2 s2 hv => q v ys B2 H2 s2.toUb (s2.tab (k := 0) rfl) ?_ hv
  subst hy
  refine ⟨sortKey_perm _ _, fun z => (r.kvs.lookup z).getD 0, fun z hz => hC.1.pos _ (hf z hz).2, fun z hz => hC.1.zero _ (hf z hz).2, fun z hz h0 => ?_, sortKey_pw _ _⟩
  obtain ⟨o, ho, h1, h2⟩ := hC.1.down _ (hf z hz).2 h0
  have hos : o.1 ∈ sw := hC.1.sub _ (List.mem_map.mpr ⟨o, ho, rfl⟩)
  refine ⟨o.1, hos, h1, ?_⟩
  show (r.kvs.lookup o.1).getD 0 < _
  rw [← uq o ho hos]
  exact h2
/-! ### route -/
theorem reach_congr {rv rv' : Str → List Str} {sw : List Str} (h : ∀ y ∈ sw, rv y = rv' y) {x y : Str} (hx : x ∈ sw) (k : Reach rv sw x y) : Reach rv' sw x y := by
  induction k with
  | refl => exact .refl
  | step h1 hz hs ih => exact .step ih (by rw [← h _ (h1.sw hx)]; exact hz) hs
theorem reach_press {rv : Str → List Str} (sym : ∀ x y, y ∈ rv x ↔ x ∈ rv y) {other may : List Str} {x y : Str} (hx : x ∈ pressO rv other may) (k : Reach rv (safeO rv other may) x y) : y ∈ pressO rv other may ∧ Reach rv (pressO rv other may) x y := by
  induction k with
  | refl => exact ⟨hx, .refl⟩
  | step _ hz hs ih =>
    have h := press_step sym ih.1 hz hs
    exact ⟨h, .step ih.2 hz h⟩
/-- each pressable switch is reached from one that stays on, within the pressable ones -/
theorem press_reach {p : Pan} {other may : List Str} {z : Str} (h : z ∈ pressO (rvs p) other may) : ∃ o ∈ other, o ∈ pressO (rvs p) other may ∧ Reach (rvs p) (pressO (rvs p) other may) o z := by
  have sym := rvs_sym' p
  obtain ⟨h1, w, hw, hws, hr⟩ := (mem_pressO sym).mp h
  have hwp : w ∈ pressO (rvs p) other may := (mem_pressO sym).mpr ⟨hws, w, hw, hws, .refl⟩
  exact ⟨w, hw, hwp, (reach_press sym hwp (hr.symm sym h1)).2⟩
abbrev sp_route (K : PySem.W.Frag) (Pt : Addr) : Sp := FnT4R K ltO Pt (fun p one other m => WayPre p one other m ∧ FreeO (rvs p) one.items other.items (mayO p m)) fun p one other m hs => OrdO (rvs p) other.items (mayO p m) hs
def N_route : List Str := ["panel", "one", "other", "allowed", "rivals", "pressed", "switch"]
def t_route (K : PySem.W.Frag) (Pt : Addr) : TS :=
  (tSeq (tDrop (tCall (sp_look_way K) [] E0 (tCons (tVar 0) (tCons (tVar 1) (tCons (tVar 2) (tCons (tVar 3) tNil))))))
    (tSeq (tAsg (tCall (sp_rival_table K) [] E0 (tCons (tVar 0) tNil)) (gName 4))
    (tSeq (tAsg (tCall (sp_pressable_in K) [] E0 (tCons (tVar 4) (tCons (tVar 2) (tCons (tCall (sp_allowed_of K) [] E0 (tCons (tVar 0) (tCons (tVar 3) tNil))) tNil)))) (gName 5))
    (tRet (tCall (sp_order_to K Pt) [] E0 (tCons (tVar 4) (tCons (tVar 5) (tCons (tLc (iSeq K (tVar 2)) (gName 6) (tTest (tOp (rInU K false) (tVar 6) (tVar 5))) (tVar 6) [6]) tNil))))))))
theorem l_route {Pt : Addr} (vs : List V) (H : Hp) (Q : VK) (E : XK) (h : sp_route K Pt vs H Q E) : vs.length = 4 := FnT4R.len vs H Q E h
theorem r_route {Pt : Addr} (vs : List V) (H : Hp) (Q : VK) (E : XK) (h : sp_route K Pt vs H Q E) : t_route K Pt (Ends.ret Q) (start N_route vs) H := by
  obtain ⟨p, ⟨one⟩, ⟨ot⟩, m, B, ⟨hp, F⟩, s, q⟩ := FnT4R.st h N_route
  obtain ⟨⟨ok, hm⟩, z1, z2⟩ := id hp
  have z2' : ot.length ≤ 1000 := z2
  have sym := rvs_sym' p
  have nd := mayO_nd ok.1.toPanOk hm
  have sub := mayO_sub hm
  have psub : ∀ x ∈ pressO (rvs p) ot (mayO p m), x ∈ p.sw := fun x hx => sub x (press_sub hx)
  have pnd : (pressO (rvs p) ot (mayO p m)).Nodup := asc_nodup (withO_asc sym (nd.sublist safe_sub))
  have hl := List.length_filter_le (fun z => decide (z ∈ pressO (rvs p) ot (mayO p m))) ot
  refine s.drop (e_call4 (x := p) (y := Sq.mk one) (z := Sq.mk ot) (t := m) (s.v 0 rfl) (s.v 1 rfl) (s.v 2 rfl) (s.v 3 rfl) ⟨hp, F⟩) fun B1 H1 s1 => ?_
  refine s1.set (x := tab p) (e_call1 (s1.v (x := p) 0 rfl) ok.1.toPanOk) fun σ2 B2 H2 s2 => ?_
  replace s2 : St K [Pt] B H [tabC ltO Pt] [ce p, ce (Sq.mk one), ce (Sq.mk ot), ce m, ce (tab p), none, none] σ2 B2 H2 := s2
  refine s2.set (x := pressO (rvs p) ot (mayO p m)) ((e_call3 (x := tab p) (y := Sq.mk ot) (z := mayO p m) (f := fun (d : Dic (List Str)) (o : Sq Str) may => pressO (look d) o.items may) (s2.v 4 rfl) (s2.v 2 rfl) (e_call2 (x := p) (y := m) (s2.v 0 rfl) (s2.v 3 rfl) hm) ⟨tabGood_sub ok nd sub, z2⟩).is (pressO_congr nd (look_rvs sub))) fun σ3 B3 H3 s3 => ?_
  obtain ⟨pr, hpr⟩ : ∃ pr, pr = pressO (rvs p) ot (mayO p m) := ⟨_, rfl⟩
  rw [← hpr] at s3 psub pnd hl
  replace s3 : St K [Pt] B H [tabC ltO Pt] [ce p, ce (Sq.mk one), ce (Sq.mk ot), ce m, ce (tab p), ce pr, none] σ3 B3 H3 := s3
  have hlr : ∀ y ∈ pr, look (tab p) y = rvs p y := look_rvs psub
  refine s3.retQ (k := 0) rfl (eT_call3 (x := tab p) (y := pr) (z := Sq.mk (ot.filter fun z => decide (z ∈ pr))) (R := fun (d : Dic (List Str)) (sw : List Str) (e : Sq Str) hs => OrdD (look d) sw e.items hs) (s3.v 4 rfl) (s3.v 5 rfl) ((s3.sl.lcF (fun z => ngb false (decide (z ∈ pr))) (it_sq (s3.v (x := Sq.mk ot) 2 rfl)) (by omega) fun z _ σ4 B4 b4 s4 => ⟨t_test (e_inL (s4.v 6 rfl) (s4.v (x := pr) 5 rfl) false), rfl⟩).imp sq_list) ⟨⟨(tabGood_sub ok pnd psub).1, fun z hz => of_decide_eq_true (List.mem_filter.mp hz).2, by show (ot.filter fun z => decide (z ∈ pr)).length ≤ 1000; omega⟩, fun z hz => ?_⟩) fun v hs hO B4 H4 s4 hv => q v hs B4 H4 s4.toUb (s4.tab (k := 0) rfl) ?_ hv
  · rw [hpr] at hz
    obtain ⟨o, ho, hop, hr⟩ := press_reach hz
    rw [← hpr] at hop hr
    exact ⟨o, List.mem_filter.mpr ⟨ho, decide_eq_true hop⟩, reach_congr (fun y hy => (hlr y hy).symm) hop hr⟩
  · obtain ⟨hperm, far, f1, f2, f3, f4⟩ := hO
    have hmem : ∀ z, z ∈ hs ↔ z ∈ pressO (rvs p) ot (mayO p m) := fun z => by rw [hperm.mem_iff, hpr]
    refine ord_of_dist (far := far) ⟨fun z hz => f1 z (hpr ▸ hz), fun z hz => (f2 z (hpr ▸ hz)).trans ⟨fun h => (List.mem_filter.mp h).1, fun h => List.mem_filter.mpr ⟨h, decide_eq_true (hpr ▸ hz)⟩⟩, fun z hz h0 => ?_⟩ (hperm.nodup_iff.mpr pnd) hmem f4
    obtain ⟨o, ho, h1, h2⟩ := f3 z (hpr ▸ hz) h0
    rw [hlr o ho] at h1
    exact ⟨o, hpr ▸ ho, (sym _ _).mp h1, h2⟩
end
end Ob

set_option Elab.async false
set_option linter.all false
set_option maxRecDepth 100000
set_option maxHeartbeats 4000000
/-! M17: section 6: ways round; what is surely before what; the order that has it the other way round. Plain Lean. -/
namespace Ob
open PySem L2
open PySem.W (Datum Tup DatumOrd)
def barO (rv : Str → List Str) (lit : List Str) (o : Str) : List Str := [o] ++ if ngb false (decide (o ∈ lit)) then rv o else []
def insO (rv : Str → List Str) (P lit : List Str) (o : Str) : List Str := P.filter fun x => ngb true (decide (x ∈ barO rv lit o))
def endsO (lit : List Str) (o : Str) : List Str := lit.filter fun x => !decide (x = o)
theorem mem_barO {rv : Str → List Str} {lit : List Str} {o x : Str} : x ∈ barO rv lit o ↔ x = o ∨ (o ∈ lit ∧ x ∈ rv o) := by
  unfold barO ngb
  rw [List.mem_append, List.mem_singleton]
  by_cases h : o ∈ lit <;> simp [h]
theorem mem_insO {rv : Str → List Str} {P lit : List Str} {o x : Str} : x ∈ insO rv P lit o ↔ x ∈ P ∧ x ≠ o ∧ (o ∈ lit → x ∉ rv o) := by
  unfold insO
  rw [List.mem_filter]
  refine and_congr Iff.rfl ?_
  have h := mem_barO (rv := rv) (lit := lit) (o := o) (x := x)
  by_cases hb : x ∈ barO rv lit o
  · simp only [ngb, hb, decide_true, if_true, Bool.not_true, Bool.false_eq_true, false_iff]
    rcases h.mp hb with e | ⟨e1, e2⟩
    · exact fun z => z.1 e
    · exact fun z => z.2 e1 e2
  · simp only [ngb, hb, decide_false, if_true, Bool.not_false, true_iff]
    exact ⟨fun e => hb (h.mpr (.inl e)), fun e1 e2 => hb (h.mpr (.inr ⟨e1, e2⟩))⟩
theorem mem_endsO {lit : List Str} {o x : Str} : x ∈ endsO lit o ↔ x ∈ lit ∧ x ≠ o := by
  unfold endsO
  rw [List.mem_filter]
  simp
/-- from s a switch that stays on, other than o, is reached without o, and without its rivals if it stays on -/
def WayR (rv : Str → List Str) (P lit : List Str) (s o : Str) : Prop := s ∈ insO rv P lit o ∧ ∃ e ∈ endsO lit o, Reach rv (insO rv P lit o) s e
structure StayO (rv : Str → List Str) (P lit : List Str) : Prop where
  sub : ∀ x ∈ lit, x ∈ P
  free : ∀ x ∈ lit, ∀ y ∈ lit, y ∉ rv x
  hit : ∀ x ∈ P, ∃ e ∈ lit, Reach rv P x e
theorem reach_split {rv : Str → List Str} {P : List Str} {a z : Str} (x : Str) (h : Reach rv P a z) : Reach rv (P.filter fun y => !decide (y = x)) a z ∨ (z = x ∧ x ∈ P) ∨ (x ∈ P ∧ Reach rv (P.filter fun y => !decide (y = a)) x z) ∨ a = x := by
  by_cases hax : a = x
  · exact .inr (.inr (.inr hax))
  induction h with
  | refl => exact .inl .refl
  | step h hz hs ih =>
    rename_i y z
    by_cases hzx : z = x
    · exact .inr (.inl ⟨hzx, hzx ▸ hs⟩)
    · by_cases hza : z = a
      · rw [hza]
        exact .inl .refl
      · rcases ih with i | ⟨i, i2⟩ | ⟨i1, i2⟩ | i
        · exact .inl (i.step hz (List.mem_filter.mpr ⟨hs, by simpa using hzx⟩))
        · rw [i] at hz
          exact .inr (.inr (.inl ⟨i2, Reach.step .refl hz (List.mem_filter.mpr ⟨hs, by simpa using hza⟩)⟩))
        · exact .inr (.inr (.inl ⟨i1, i2.step hz (List.mem_filter.mpr ⟨hs, by simpa using hza⟩)⟩))
        · exact absurd i hax
theorem ins_dark {rv : Str → List Str} {P lit : List Str} {o x : Str} (h : o ∉ lit) : x ∈ insO rv P lit o ↔ x ∈ P ∧ x ≠ o := by
  rw [mem_insO]
  exact ⟨fun z => ⟨z.1, z.2.1⟩, fun z => ⟨z.1, z.2, fun e => absurd e h⟩⟩
theorem sure_dark {rv : Str → List Str} {P lit : List Str} {s o : Str} (S : StayO rv P lit) (hs : s ∈ P) (hso : s ≠ o) (h : ¬ WayR rv P lit s o) : s ∉ lit := fun hl =>
  h ⟨mem_insO.mpr ⟨hs, hso, fun ho hr => S.free o ho s hl hr⟩, s, mem_endsO.mpr ⟨hl, hso⟩, .refl⟩
theorem sure_asym {rv : Str → List Str} {P lit : List Str} {s o : Str} (S : StayO rv P lit) (hs : s ∈ P) (ho : o ∈ P) (hso : s ≠ o) (h : ¬ WayR rv P lit s o) : WayR rv P lit o s := by
  have hd := sure_dark S hs hso h
  have hoi : o ∈ insO rv P lit s := (ins_dark hd).mpr ⟨ho, fun e => hso e.symm⟩
  by_cases hol : o ∈ lit
  · exact ⟨hoi, o, mem_endsO.mpr ⟨hol, fun e => hso e.symm⟩, .refl⟩
  · obtain ⟨e, he, hr⟩ := S.hit o ho
    rcases reach_split s hr with i | ⟨i, _⟩ | ⟨i1, i2⟩ | i
    · refine ⟨hoi, e, mem_endsO.mpr ⟨he, fun z => hd (z ▸ he)⟩, i.mono fun z hz => ?_⟩
      rw [List.mem_filter] at hz
      exact (ins_dark hd).mpr ⟨hz.1, by simpa using hz.2⟩
    · exact absurd (i ▸ he) hd
    · refine absurd ⟨(ins_dark hol).mpr ⟨hs, hso⟩, e, mem_endsO.mpr ⟨he, fun z => hol (z ▸ he)⟩, i2.mono fun z hz => ?_⟩ h
      rw [List.mem_filter] at hz
      exact (ins_dark hol).mpr ⟨hz.1, by simpa using hz.2⟩
    · exact absurd i.symm hso
theorem sure_trans {rv : Str → List Str} {P lit : List Str} {a b c : Str} (S : StayO rv P lit) (ha : a ∈ P) (hb : b ∈ P) (hc : c ∈ P) (hab : a ≠ b) (hbc : b ≠ c) (h1 : ¬ WayR rv P lit a b) (h2 : ¬ WayR rv P lit b c) : a ≠ c ∧ ¬ WayR rv P lit a c := by
  have hbd := sure_dark S hb hbc h2
  refine ⟨fun e => ?_, fun ⟨hi, e, he, hr⟩ => ?_⟩
  · subst e
    exact h2 (sure_asym S ha hb hab h1)
  · have hel := (mem_endsO.mp he).1
    rcases reach_split b hr with i | ⟨i, _⟩ | ⟨i1, i2⟩ | i
    · refine h1 ⟨(ins_dark hbd).mpr ⟨ha, hab⟩, e, mem_endsO.mpr ⟨hel, fun z => hbd (z ▸ hel)⟩, i.mono fun z hz => ?_⟩
      rw [List.mem_filter] at hz
      exact (ins_dark hbd).mpr ⟨(mem_insO.mp hz.1).1, by simpa using hz.2⟩
    · exact hbd (i ▸ hel)
    · exact h2 ⟨i1, e, he, i2.mono fun z hz => (List.mem_filter.mp hz).1⟩
    · exact hab i
/-! ### the order that has the other one first -/
structure PathO (rv : Str → List Str) (P lit : List Str) (s o : Str) (path : List Str) : Prop where
  nd : path.Nodup
  ins : ∀ x ∈ path, x ∈ insO rv P lit o
  first : path[0]? = some s
  next : ∀ i x, path[i]? = some x → x ∉ lit → ∃ y, path[i + 1]? = some y ∧ y ∈ rv x
structure FarO (rv : Str → List Str) (P lit path : List Str) (far : Str → Int) : Prop where
  pos : ∀ z ∈ P, 0 ≤ far z
  zero : ∀ z ∈ P, far z = 0 ↔ z ∈ path ∨ z ∈ lit
  down : ∀ z ∈ P, 0 < far z → ∃ w ∈ P, z ∈ rv w ∧ far w < far z
def laidO (A lit path : List Str) (o : Str) : List Str := A ++ (lit.filter fun x => decide (x = o)) ++ (path.filter fun x => ngb true (decide (x ∈ lit))) ++ sortD (endsO lit o)
theorem left_split {rv : Str → List Str} {l1 l2 : List Str} {z : Str} (nd : (l1 ++ z :: l2).Nodup) : z ∈ leftO rv (l1 ++ z :: l2) ↔ ∀ y ∈ l2, y ∉ rv z := by
  rw [left_at nd (i := l1.length) (by simp)]
  rw [show (l1 ++ z :: l2).drop (l1.length + 1) = l2 by rw [← List.drop_drop]; simp]
section
variable {rv : Str → List Str} {P lit path A : List Str} {s o : Str} {far : Str → Int}
theorem laid_mem (S : StayO rv P lit) (T : PathO rv P lit s o path) (F : FarO rv P lit path far) (hA : A.Perm (P.filter fun x => decide (0 < far x))) (z : Str) : z ∈ laidO A lit path o ↔ z ∈ P := by
  unfold laidO
  rw [List.mem_append, List.mem_append, List.mem_append, hA.mem_iff, List.mem_filter, List.mem_filter, List.mem_filter, mem_sortD, mem_endsO]
  have hn : ngb true (decide (z ∈ lit)) = true ↔ z ∉ lit := by simp [ngb]
  rw [hn]
  constructor
  · rintro (((h | h) | h) | h)
    · exact h.1
    · exact S.sub z h.1
    · exact (mem_insO.mp (T.ins z h.1)).1
    · exact S.sub z h.1
  · intro h
    by_cases hl : z ∈ lit
    · by_cases e : z = o
      · exact .inl (.inl (.inr ⟨hl, by simpa using e⟩))
      · exact .inr ⟨hl, e⟩
    · by_cases hp : z ∈ path
      · exact .inl (.inr ⟨hp, hl⟩)
      · refine .inl (.inl (.inl ⟨h, decide_eq_true ?_⟩))
        have h0 := F.pos z h
        have h1 := F.zero z h
        have : far z ≠ 0 := fun e => (h1.mp e).elim hp hl
        omega
theorem laid_nd (S : StayO rv P lit) (T : PathO rv P lit s o path) (F : FarO rv P lit path far) (pnd : P.Nodup) (lnd : lit.Nodup) (hA : A.Perm (P.filter fun x => decide (0 < far x))) : (laidO A lit path o).Nodup := by
  have hfar : ∀ x ∈ A, x ∉ path ∧ x ∉ lit := fun x hx => by
    have h := List.mem_filter.mp (hA.mem_iff.mp hx)
    have h2 := of_decide_eq_true h.2
    have h1 := F.zero x h.1
    exact ⟨fun e => by have := h1.mpr (.inl e); omega, fun e => by have := h1.mpr (.inr e); omega⟩
  have hn : ∀ z, ngb true (decide (z ∈ lit)) = true → z ∉ lit := fun z h => by simpa [ngb] using h
  unfold laidO
  refine List.nodup_append.mpr ⟨List.nodup_append.mpr ⟨List.nodup_append.mpr ⟨hA.nodup_iff.mpr (pnd.filter _), lnd.filter _, fun a ha b hb e => ?_⟩, T.nd.filter _, fun a ha b hb e => ?_⟩, asc_nodup (sortD_asc (lnd.filter _)), fun a ha b hb e => ?_⟩
  · exact (hfar a ha).2 (e ▸ (List.mem_filter.mp hb).1)
  · have h2 := List.mem_filter.mp hb
    rcases List.mem_append.mp ha with ha | ha
    · exact (hfar a ha).1 (e ▸ h2.1)
    · exact hn b h2.2 (e ▸ (List.mem_filter.mp ha).1)
  · have hb' := mem_endsO.mp (mem_sortD.mp hb)
    rcases List.mem_append.mp ha with ha | ha
    · rcases List.mem_append.mp ha with ha | ha
      · exact (hfar a ha).2 (e ▸ hb'.1)
      · exact hb'.2 (e ▸ of_decide_eq_true (List.mem_filter.mp ha).2)
    · exact hn a (List.mem_filter.mp ha).2 (e ▸ hb'.1)
theorem laid_left (sym : ∀ x y, y ∈ rv x ↔ x ∈ rv y) (S : StayO rv P lit) (T : PathO rv P lit s o path) (F : FarO rv P lit path far) (pnd : P.Nodup) (lnd : lit.Nodup) (hA : A.Perm (P.filter fun x => decide (0 < far x))) (hp : A.Pairwise fun x y => far y ≤ far x) (z : Str) : z ∈ leftO rv (laidO A lit path o) ↔ z ∈ lit := by
  have nd := laid_nd S T F pnd lnd hA
  have hmem := laid_mem S T F hA
  have hn : ∀ z, ngb true (decide (z ∈ lit)) = true ↔ z ∉ lit := fun z => by simp [ngb]
  obtain ⟨Bl, hB⟩ : ∃ Bl, Bl = lit.filter fun x => decide (x = o) := ⟨_, rfl⟩
  obtain ⟨Cl, hC⟩ : ∃ Cl, Cl = path.filter fun x => ngb true (decide (x ∈ lit)) := ⟨_, rfl⟩
  obtain ⟨Dl, hD⟩ : ∃ Dl, Dl = sortD (endsO lit o) := ⟨_, rfl⟩
  have hl : laidO A lit path o = A ++ Bl ++ Cl ++ Dl := by rw [hB, hC, hD]; rfl
  have mB : ∀ x, x ∈ Bl ↔ x ∈ lit ∧ x = o := fun x => by rw [hB, List.mem_filter]; simp
  have mC : ∀ x, x ∈ Cl ↔ x ∈ path ∧ x ∉ lit := fun x => by rw [hC, List.mem_filter, hn]
  have mD : ∀ x, x ∈ Dl ↔ x ∈ lit ∧ x ≠ o := fun x => by rw [hD, mem_sortD, mem_endsO]
  have mA : ∀ x, x ∈ A ↔ x ∈ P ∧ 0 < far x := fun x => by rw [hA.mem_iff, List.mem_filter]; simp
  rw [hl] at nd hmem ⊢
  have inl : ∀ x ∈ lit, x ∈ leftO rv (A ++ Bl ++ Cl ++ Dl) := fun x hx => by
    by_cases e : x = o
    · obtain ⟨b1, b2, hb⟩ := List.append_of_mem ((mB x).mpr ⟨hx, e⟩)
      have e2 : A ++ Bl ++ Cl ++ Dl = (A ++ b1) ++ x :: (b2 ++ Cl ++ Dl) := by rw [hb]; simp
      rw [e2] at nd ⊢
      rw [left_split nd]
      intro y hy hr
      rcases List.mem_append.mp hy with hy | hy
      · rcases List.mem_append.mp hy with hy | hy
        · exact S.free x hx y ((mB y).mp (by rw [hb]; simp [hy])).1 hr
        · have h1 := mem_insO.mp (T.ins y ((mC y).mp hy).1)
          subst e
          exact h1.2.2 hx hr
      · exact S.free x hx y ((mD y).mp hy).1 hr
    · obtain ⟨d1, d2, hd⟩ := List.append_of_mem ((mD x).mpr ⟨hx, e⟩)
      have e2 : A ++ Bl ++ Cl ++ Dl = (A ++ Bl ++ Cl ++ d1) ++ x :: d2 := by rw [hd]; simp
      rw [e2] at nd ⊢
      rw [left_split nd]
      intro y hy hr
      exact S.free x hx y ((mD y).mp (by rw [hd]; simp [hy])).1 hr
  refine ⟨fun hz => Classical.byContradiction fun hzl => ?_, inl z⟩
  have hzm := leftO_sub hz
  have hzP := (hmem z).mp hzm
  by_cases h0 : 0 < far z
  · obtain ⟨w, hw, hr, hlt⟩ := F.down z hzP h0
    obtain ⟨a1, a2, ha⟩ := List.append_of_mem ((mA z).mpr ⟨hzP, h0⟩)
    have e2 : A ++ Bl ++ Cl ++ Dl = a1 ++ z :: (a2 ++ Bl ++ Cl ++ Dl) := by rw [ha]; simp
    have hwm := (hmem w).mpr hw
    rw [e2] at nd hz hwm
    rw [left_split nd] at hz
    refine hz w ?_ ((sym _ _).mp hr)
    rcases List.mem_append.mp hwm with h | h
    · rw [ha] at hp
      have := (List.pairwise_append.mp hp).2.2 w h z List.mem_cons_self
      omega
    · rcases List.mem_cons.mp h with h | h
      · rw [h] at hlt
        omega
      · exact h
  · have hf : far z = 0 := by
      have := F.pos z hzP
      omega
    have hzp : z ∈ path := ((F.zero z hzP).mp hf).resolve_right hzl
    obtain ⟨i, hi⟩ := List.getElem?_of_mem hzp
    obtain ⟨y, hy, hyr⟩ := T.next i z hi hzl
    have hyp := List.mem_of_getElem? hy
    have hyi := mem_insO.mp (T.ins y hyp)
    obtain ⟨l1, e1⟩ := List.getElem?_eq_some_iff.mp hi
    obtain ⟨l2, e2⟩ := List.getElem?_eq_some_iff.mp hy
    have hpath : path = path.take i ++ z :: y :: path.drop (i + 2) := by
      rw [← e1, ← e2, ← List.drop_eq_getElem_cons l2, ← List.drop_eq_getElem_cons l1, List.take_append_drop]
    have hCs : Cl = (path.take i).filter (fun x => ngb true (decide (x ∈ lit))) ++ z :: (y :: path.drop (i + 2)).filter (fun x => ngb true (decide (x ∈ lit))) := by
      rw [hC]
      conv => lhs; rw [hpath]
      rw [List.filter_append, List.filter_cons, if_pos ((hn z).mpr hzl)]
    obtain ⟨c1, hc1⟩ : ∃ c1, c1 = (path.take i).filter (fun x => ngb true (decide (x ∈ lit))) := ⟨_, rfl⟩
    obtain ⟨c2, hc2⟩ : ∃ c2, c2 = (y :: path.drop (i + 2)).filter (fun x => ngb true (decide (x ∈ lit))) := ⟨_, rfl⟩
    rw [← hc1, ← hc2] at hCs
    have e3 : A ++ Bl ++ Cl ++ Dl = (A ++ Bl ++ c1) ++ z :: (c2 ++ Dl) := by rw [hCs]; simp
    rw [e3] at nd hz
    rw [left_split nd] at hz
    refine hz y (List.mem_append.mpr ?_) hyr
    by_cases hyl : y ∈ lit
    · exact .inr ((mD y).mpr ⟨hyl, hyi.2.1⟩)
    · refine .inl ?_
      rw [hc2, List.mem_filter, hn]
      exact ⟨List.mem_cons_self, hyl⟩
/-- o stands ahead of s -/
theorem laid_first (S : StayO rv P lit) (T : PathO rv P lit s o path) (F : FarO rv P lit path far) (hA : A.Perm (P.filter fun x => decide (0 < far x))) (ho : o ∈ P) : ∃ i j : Nat, (laidO A lit path o)[i]? = some o ∧ (laidO A lit path o)[j]? = some s ∧ i < j := by
  have hn : ∀ z, ngb true (decide (z ∈ lit)) = true ↔ z ∉ lit := fun z => by simp [ngb]
  have hsp : s ∈ path := List.mem_of_getElem? T.first
  have hsi := mem_insO.mp (T.ins s hsp)
  have h1 : o ∈ A ++ lit.filter fun x => decide (x = o) := by
    by_cases hl : o ∈ lit
    · exact List.mem_append_right _ (List.mem_filter.mpr ⟨hl, by simp⟩)
    · refine List.mem_append_left _ (hA.mem_iff.mpr (List.mem_filter.mpr ⟨ho, decide_eq_true ?_⟩))
      have h0 := F.pos o ho
      have : far o ≠ 0 := fun e => ((F.zero o ho).mp e).elim (fun h => (mem_insO.mp (T.ins o h)).2.1 rfl) hl
      omega
  have h2 : s ∈ (path.filter fun x => ngb true (decide (x ∈ lit))) ++ sortD (endsO lit o) := by
    by_cases hl : s ∈ lit
    · exact List.mem_append_right _ (mem_sortD.mpr (mem_endsO.mpr ⟨hl, hsi.2.1⟩))
    · exact List.mem_append_left _ (List.mem_filter.mpr ⟨hsp, (hn s).mpr hl⟩)
  have e : laidO A lit path o = (A ++ lit.filter fun x => decide (x = o)) ++ ((path.filter fun x => ngb true (decide (x ∈ lit))) ++ sortD (endsO lit o)) := by
    unfold laidO
    rw [List.append_assoc]
  obtain ⟨i, hi⟩ := List.getElem?_of_mem h1
  obtain ⟨j, hj⟩ := List.getElem?_of_mem h2
  have li := (List.getElem?_eq_some_iff.mp hi).1
  refine ⟨i, (A ++ lit.filter fun x => decide (x = o)).length + j, ?_, ?_, by omega⟩
  · rw [e, List.getElem?_append_left li, hi]
  · rw [e, List.getElem?_append_right (Nat.le_add_right _ _), Nat.add_sub_cancel_left, hj]
end
end Ob

set_option Elab.async false
set_option linter.all false
set_option maxRecDepth 100000
set_option maxHeartbeats 4000000
/-! Dt: dict(pairs), the keys tuples of texts; d[k] of such a dict; a set held by what is in it. -/
namespace L2
open PySem PySem.Spec PyProof.Rows
section
variable {prog : Program} {w : World} {A : Around} {E : Value → Shared → Prop} {J : Type} [DecidableEq J] {knd : KeyKind prog w J}
theorem storedH_len (xs : List (List J × Addr × Value)) (k : List J) (a : Addr) (v : Value) : (storedH xs k a v).length ≤ xs.length + 1 := by
  unfold storedH
  split <;> simp
theorem tk_extBut {h h' : Heap} {ks : List J} {a b : Addr} (x : IsTupleKey knd h ks a) (hs : Heap.ExtBut b h h') (hab : a ≠ b) : IsTupleKey knd h' ks a := let ⟨o, its, n, ho, r⟩ := x; ⟨o, its, n, hs a o hab ho, r⟩
theorem tk_ne {h : Heap} {ks : List J} {a I l : Addr} {i : Nat} (x : IsTupleKey knd h ks a) (hit : h.IsListIter I l i) : a ≠ I := by
  rintro rfl
  obtain ⟨o, its, n, ho, hc, _⟩ := x
  obtain ⟨o2, ho2, hc2, _⟩ := hit
  rw [ho] at ho2
  cases ho2
  rw [hc] at hc2
  exact absurd hc2 (by simp)
theorem dH_extBut {h h' : Heap} {a I l : Addr} {i : Nat} {xs : List (List J × Addr × Value)} (hm : h.DictOfH (tupleKind knd) a xs) (hs : Heap.ExtBut I h h') (hab : a ≠ I) (hit : h.IsListIter I l i) : h'.DictOfH (tupleKind knd) a xs := by
  obtain ⟨o, es, ep, ho, h1, h2, h3, h4, h5⟩ := hm
  exact ⟨o, es, ep, hs a o hab ho, h1, h2, h3, fun x hx => tk_extBut (h4 x hx) hs (tk_ne (h4 x hx) hit), h5⟩
def mergedT (xs rs : List (List J × Addr × Value)) : List (List J × Addr × Value) := rs.foldl (fun acc q => storedH acc q.1 q.2.1 q.2.2) xs
theorem upd_loopT {R : Result → Shared → Prop} {S I l : Addr} {items : Array Value} {res : Value} (hh : A.handled = none) (hu : A.units + 2 < cLine) (hlI : l ≠ I) (hSI : S ≠ I) (hSl : S ≠ l) :
    ∀ (rest : List (List J × Addr × Value)) (i : Nat) (acc : List (List J × Addr × Value)) (ix : Int) (t : Tok) (s : Shared), items.size = i + rest.length → acc.length + rest.length ≤ sizeLine →
      (∀ (j : Nat) (q : List J × Addr × Value), rest[j]? = some q → ∃ b : Addr, items[i + j]? = some (.ref b) ∧ b ≠ S ∧ b ≠ I ∧ IsTup s.heap b #[.ref q.2.1, q.2.2] ∧ IsTupleKey knd s.heap q.1 q.2.1 ∧ q.2.1 ≠ S) →
      s.heap.IsListIter I l i → s.heap.IsList l items → s.heap.DictOfH (tupleKind knd) S acc →
      (∀ h' tk, h'.DictOfH (tupleKind knd) S (mergedT acc rest) → (∀ b o, b ≠ S → b ≠ I → s.heap.get? b = some o → h'.get? b = some o) → R (.ok (.ret res)) { s with heap := h', toks := tk }) →
      codeAny (model prog w) A (.builtin "dict.update.loop" ⟨[.ref S, .ref I, .int ix t, res], []⟩) R s
  | [], i, acc, ix, t, s, hsz, hln, ht, hit, hl, hm, hR => by
    refine codeAny_builtin ud_entry ?_
    rw [Around.under_plainId ud_plain _]
    show wpAny _ A.in1 (pyNext (.ref I) >>= _) _ _ s
    refine wpAny_bind (wpAny_pyNext_list_end (A := A.in1) hh hit hl (by first | exact Array.getElem?_eq_none (Nat.le_of_eq hsz) | (simp at hsz; simp; omega)) fun h' he => ?_)
    show wpAny _ A.in1 (Builtin.Dict.addKeywords S [] >>= _) _ _ _
    refine wpAny_bind (wpAny_pure (wpAny_pure ?_))
    exact hR h' s.toks (dH_extBut hm he hSI hit) fun b o _ hb e => he b o hb e
  | q :: rest, i, acc, ix, t, s, hsz, hln, ht, hit, hl, hm, hR => by
    obtain ⟨b, hb, hbS, hbI, htup, hk, hkS⟩ := ht 0 q rfl
    rw [List.length_cons] at hsz hln
    refine codeAny_builtin ud_entry ?_
    rw [Around.under_plainId ud_plain _]
    show wpAny _ A.in1 (pyNext (.ref I) >>= _) _ _ s
    have hkI := tk_ne hk hit
    refine wpAny_bind (wpAny_pyNext_list_item (x := .ref b) hit hl (by simpa using hb) fun h1 hit1 hs1 => ?_)
    have ht1 : IsTup h1 b #[.ref q.2.1, q.2.2] := htup.extBut hs1.extBut hbI
    have hl1 : h1.IsList l items := hl.extBut hs1.extBut hlI
    have hm1 : h1.DictOfH (tupleKind knd) S acc := dH_extBut hm hs1.extBut hSI hit
    have hk1 : IsTupleKey knd h1 q.1 q.2.1 := tk_extBut hk hs1.extBut hkI
    obtain ⟨o, ho, hc, n, hd⟩ := id ht1
    show wpAny _ A.in1 (holding [Value.ref b] _ >>= _) _ _ _
    refine wpAny_bind (wpAny_holding ?_)
    refine wpAny_bind (wpAny_tryCatch ?_)
    unfold Builtin.Dict.pairItems
    refine wpAny_bind (wpAny_typeOf (T := "tuple") ⟨o, ho, hc⟩ ?_)
    rw [if_pos (by first | decide | rfl | simp)]
    refine wpAny_bind (wpAny_seqItems ho hd (wpAny_pure ?_))
    show wpAny _ A.in1 (holding [Value.ref q.2.1, q.2.2] (dictSet S (.ref q.2.1) q.2.2)) _ _ _
    refine wpAny_holding (wpAny_dictSet_heap (knd := tupleKind knd) (k := q.1) (show A.units + 1 < cLine by omega) hk1 hm1 (fun h2 hm2 hs2 => ?_) (by omega))
    refine wpAny_pure ⟨plainId_quiet ud_plain _, upd_loopT (items := items) hh hu hlI hSI hSl rest (i + 1) (storedH acc q.1 q.2.1 q.2.2) (ix + 1) 0 _ (show items.size = i + 1 + rest.length by omega) ?_ (fun j q' e => ?_) ?_ ?_ hm2 fun h' tk hd' k => ?_⟩
    · have z := storedH_len acc q.1 q.2.1 q.2.2
      omega
    · obtain ⟨b', hb', hbS', hbI', htup', hk', hkS'⟩ := ht (j + 1) q' (by simpa using e)
      refine ⟨b', ?_, hbS', hbI', (htup'.extBut hs1.extBut hbI').extBut hs2.extBut hbS', tk_extBut (tk_extBut hk' hs1.extBut (tk_ne hk' hit)) hs2.extBut hkS', hkS'⟩
      rw [show i + 1 + j = i + (j + 1) by omega]
      exact hb'
    · exact hit1.at fun o' e => hs2.extBut I o' (Ne.symm hSI) e
    · exact hl1.extBut hs2.extBut (Ne.symm hSl)
    · exact hR h' tk hd' fun c oc h3 h4 e => k c oc h3 h4 (hs2.extBut c oc h3 (hs1.extBut c oc h4 e))
theorem call_dict_pairsT {s : Shared} {l : Addr} {ol : Obj} {items : Array Value} {n : Nat} {prs : List (List J × Addr × Value)} {Q : Value → Shared → Prop} (hh : A.handled = none) (hu : A.units + 100 < cLine) (hl : s.heap.get? l = some ol) (hc : ol.cls = .type "list") (hd : ol.dict = none)
    (hdat : ol.data = .seq items n) (hsz : items.size = prs.length) (hln : prs.length ≤ sizeLine)
    (ht : ∀ (j : Nat) (q : List J × Addr × Value), prs[j]? = some q → ∃ b : Addr, items[j]? = some (.ref b) ∧ IsTup s.heap b #[.ref q.2.1, q.2.2] ∧ IsTupleKey knd s.heap q.1 q.2.1)
    (h : ∀ h' tk, h'.DictOfH (tupleKind knd) s.heap.objs.size (mergedT [] prs) → (∀ b o, s.heap.get? b = some o → h'.get? b = some o) → Q (.ref s.heap.objs.size) { s with heap := h', toks := tk }) :
    wpAny (model prog w) A (call (.type "dict") [.ref l]) Q E s := by
  refine callType_codes (Q₁ := fun obj s₁ => obj = .ref s.heap.objs.size ∧ s₁ = { s with heap := s.heap.push { cls := .type "dict", data := .dict #[] } }) PySem.F.kt_called_dict (PySem.F.kt_typeCall_dict_1 _) PySem.F.entry_dict_init (kt_code_dict_new _ ⟨rfl, rfl⟩) ?_
  rintro obj s₁ ⟨rfl, rfl⟩
  have hnew : (s.heap.push { cls := .type "dict", data := .dict #[] }).DictOfH (tupleKind knd) s.heap.objs.size [] := ⟨_, #[], 0, Heap.get?_push_size _ rfl, ⟨rfl, rfl, rfl⟩, rfl, rfl, (fun _ h => nomatch h), List.nodup_nil⟩
  have k0 : ∀ b o, s.heap.get? b = some o → (s.heap.push { cls := .type "dict", data := .dict #[] }).get? b = some o := fun b o e => Heap.get?_push_of_some _ e
  refine ⟨hnew.typeIs, PySem.F.args_dict_init_2 _ _, ?_⟩
  unfold Builtin.«dict.__init__»
  refine wpAny_bind ?_
  unfold Builtin.Dict.selfAndRest
  refine wpAny_bind (wpAny_notOrdered_dict hnew.typeIs ?_)
  show wpAny _ _ (pure (s.heap.objs.size, [Value.ref l])) _ _ _
  refine wpAny_pure ?_
  show wpAny _ _ (Builtin.Dict.updateFrom "dict.__init__" s.heap.objs.size (.ref l) [] .none) _ _ _
  unfold Builtin.Dict.updateFrom
  refine wpAny_bind (wpAny_typeOf (T := "list") ⟨ol, k0 _ _ hl, hc⟩ ?_)
  rw [if_pos (by first | decide | rfl | simp)]
  refine wpAny_bind (miss_list (k0 _ _ hl) hc hdat hd hh fun h1 tk1 hk1 => ?_)
  rw [if_pos (show (none : Option Value).isNone = true from rfl)]
  refine wpAny_bind (wpAny_rule ?_)
  have hl1 : h1.IsList l items := ⟨ol, hk1 _ _ (k0 _ _ hl), hc, n, hdat⟩
  have hS1 : s.heap.objs.size < h1.objs.size := by
    have e : (s.heap.push { cls := .type "dict", data := .dict #[] }).get? s.heap.objs.size = some { cls := .type "dict", data := .dict #[] } := Heap.get?_push_size _ rfl
    exact Heap.lt_size (hk1 _ _ e)
  refine wpAny_bind (wpAny_pyIter_list hl1 ?_)
  have k2 : ∀ b o, h1.get? b = some o → (h1.push { cls := .type "list_iterator", data := .fields #[.ref l, .int 0 0] }).get? b = some o := fun b o e => Heap.get?_push_of_some _ e
  have hlt : l < s.heap.objs.size := Heap.lt_size hl
  have kT : ∀ {ks : List J} {a : Addr}, IsTupleKey knd s.heap ks a → IsTupleKey knd (h1.push { cls := .type "list_iterator", data := .fields #[.ref l, .int 0 0] }) ks a := fun ⟨o, its, n, ho, r⟩ => ⟨o, its, n, k2 _ _ (hk1 _ _ (k0 _ _ ho)), r⟩
  have key := upd_loopT (prog := prog) (w := w) (A := A.in1) (knd := knd) (R := wants (fun r s₂ => r = .none ∧ Q (.ref s.heap.objs.size) s₂) E) (S := s.heap.objs.size) (I := h1.objs.size) (l := l) (items := items) (res := Value.none) hh (show A.units + 1 + 2 < cLine by omega)
    (Nat.ne_of_lt (Nat.lt_trans hlt hS1)) (Nat.ne_of_lt hS1) (Nat.ne_of_gt hlt) prs 0 [] 0 0
    { s with heap := h1.push { cls := .type "list_iterator", data := .fields #[.ref l, .int 0 0] }, toks := tk1 } (by rw [hsz, Nat.zero_add]) (by rw [List.length_nil, Nat.zero_add]; exact hln)
    (fun j q e => by
      obtain ⟨b, e1, e2, e3⟩ := ht j q e
      have hb : b < s.heap.objs.size := e2.lt
      have hkb : q.2.1 < s.heap.objs.size := let ⟨o, _, _, ho, _⟩ := e3; Heap.lt_size ho
      exact ⟨b, by rw [Nat.zero_add]; exact e1, Nat.ne_of_lt hb, Nat.ne_of_lt (Nat.lt_trans hb hS1), e2.keeps fun c o z => k2 _ _ (hk1 _ _ (k0 _ _ z)), kT e3, Nat.ne_of_lt hkb⟩)
    ⟨_, Heap.get?_push_size _ rfl, rfl, rfl⟩ (hl1.at fun o e => k2 _ _ e) (by
      obtain ⟨o, es, ep, z1, z2, z3, z4, z5, z6⟩ := hnew
      exact ⟨o, es, ep, k2 _ _ (hk1 _ _ z1), z2, z3, z4, (fun _ h => nomatch h), z6⟩)
    (fun h' tk hd' k => ⟨rfl, h h' tk hd' fun b o e => k b o (Nat.ne_of_lt (Heap.lt_size e)) (Nat.ne_of_lt (Nat.lt_trans (Heap.lt_size e) hS1)) (k2 _ _ (hk1 _ _ (k0 _ _ e)))⟩)
  first
    | exact wpAny_pure ⟨plainId_quiet ud_plain _, key⟩
    | exact wpAny_bind (wpAny_pure (wpAny_pure ⟨plainId_quiet ud_plain _, key⟩))
end
def mergeKT (kvs more : List (List Key × V)) : List (List Key × V) := more.foldl (fun acc kv => putK acc kv.1 kv.2) kvs
theorem KT.merge {H : Hp} : ∀ {more : List (List Key × V)} {rs : List (List Key × Addr × Value)} {kvs : List (List Key × V)} {xs : List (List Key × Addr × Value)}, KT H more rs → KT H kvs xs → KT H (mergeKT kvs more) (mergedT xs rs) := by
  intro more rs kvs xs r
  unfold KT at r
  induction r generalizing kvs xs with
  | nil => intro q; exact q
  | @cons p q ps qs h t ih =>
    intro r0
    have e : KT H (putK kvs p.1 p.2) (storedH xs q.1 q.2.1 q.2.2) := by
      have := r0.put p.1 (b := q.2.1) h.2.1 h.2.2
      rw [← h.1]; exact this
    exact ih e
theorem length_mergeKT : ∀ (more kvs : List (List Key × V)), (mergeKT kvs more).length ≤ kvs.length + more.length
  | [], kvs => by show kvs.length ≤ kvs.length + 0; omega
  | p :: r, kvs => by
    have h1 := length_mergeKT r (putK kvs p.1 p.2)
    have h2 := length_putK kvs p.1 p.2
    show (mergeKT (putK kvs p.1 p.2) r).length ≤ _
    rw [List.length_cons]; omega
section
variable {X : Cx}
theorem pairs_ofT {pins : List (Addr × Obj)} {σ : St} {H : Hp} {s : Shared} (I : Inv X pins σ H s) : ∀ {ps : List Addr} {kvs : List (List Key × V)}, Paired (fun p kv => ∃ b, SqT X.K H p [.ref b, kv.2] ∧ H b = some (.tup (kv.1.map kV))) ps kvs →
    ∃ prs : List (List Key × Addr × Value), KT H kvs prs ∧ prs.length = ps.length ∧ ∀ (j : Nat) (q : List Key × Addr × Value), prs[j]? = some q → ∃ b : Addr, ps[j]? = some b ∧ IsTup s.heap b #[.ref q.2.1, q.2.2] ∧ IsTupleKey (mixKind X.prog X.w) s.heap q.1 q.2.1
  | _, _, .nil => ⟨[], .nil, rfl, fun j q e => by simp at e⟩
  | _, _, .cons (a := p) (b := kv) ⟨b0, h, hb0⟩ t => by
    obtain ⟨prs, r, hl, hp⟩ := pairs_ofT I t
    obtain ⟨its, rv, ht, _⟩ := I.tuple h
    obtain ⟨u, y, ei, ru, ry⟩ := vals2 rv
    subst ei
    cases (show u = Value.ref b0 from ru)
    refine ⟨(kv.1, b0, y) :: prs, .cons ⟨rfl, hb0, ry⟩ r, by rw [List.length_cons, List.length_cons, hl], fun j q e => ?_⟩
    cases j with
    | zero =>
      have e' : (kv.1, b0, y) = q := Option.some.inj e
      subst e'
      exact ⟨p, rfl, ht, key_of I.hok hb0⟩
    | succ j =>
      obtain ⟨b, e1, e2, e3⟩ := hp j q (by simpa using e)
      exact ⟨b, by simpa using e1, e2, e3⟩
/-- dict(xs) of a list of pairs, the keys tuples of texts and ints -/
def rDictT (K : PySem.W.Frag) : List V → Hp → VK → Prop := fun xs H Q => ∃ (a : Addr) (ps : List Addr) (kvs : List (List Key × V)), xs = [.ref a] ∧ SqL K H a (ps.map V.ref) ∧ Paired (fun p kv => ∃ b, SqT K H p [.ref b, kv.2] ∧ H b = some (.tup (kv.1.map kV))) ps kvs ∧
    ∀ p, H p = none → Q (.ref p) (upd H p (.dT (mergeKT [] kvs)))
theorem call_dictT (hcalm : X.calm = true) (hu : X.A.units + 150 < cLine) : CallR X (.type "dict") (rDictT X.K) := by
  intro pins s σ H xs us Q I r q
  obtain ⟨a, ps, kvs, ex, hq, hp, q⟩ := q
  subst ex
  obtain ⟨u, eu, rx⟩ := vals1 r
  subst eu
  cases rx
  obtain ⟨its, rv, pl, hz⟩ := I.list hq
  have ei := refs_at rv
  subst ei
  rw [List.length_map] at hz
  obtain ⟨prs, rel, hl, hpr⟩ := pairs_ofT I hp
  obtain ⟨o, n, ho, hc, hd, hdat⟩ := pl
  refine call_dict_pairsT (knd := mixKind X.prog X.w) (prs := prs) (I.ok.hd hcalm) (by omega) ho hc hd hdat (by simp [hl]) (by rw [hl]; exact hz) (fun j q' e => ?_) fun h' tk hd' k => ?_
  · obtain ⟨b, e1, e2, e3⟩ := hpr j q' e
    exact ⟨b, by simp [e1], e2, e3⟩
  · have hm : (s.heap.objs.size == sysModules) = false := beq_eq_false_iff_ne.mpr (Nat.ne_of_gt I.big)
    have hlen : (mergeKT [] kvs).length ≤ sizeLine := by
      refine Nat.le_trans (length_mergeKT kvs []) ?_
      rw [List.length_nil, Nat.zero_add, Paired.length rel, hl]
      exact hz
    have hf := I.hok.fresh (Nat.le_refl s.heap.objs.size)
    obtain ⟨o2, es, ep, z1, z2, z3, z4, _, z6⟩ := hd'
    exact ⟨.ref s.heap.objs.size, upd H s.heap.objs.size (.dT (mergeKT [] kvs)), I.laid (t' := tk) k (Nat.le_refl _) (show ObjOk X.prog X.w _ _ _ (.dT (mergeKT [] kvs)) from ⟨hlen, hm, mergedT [] prs, (KT.merge rel .nil).keeps fun c ys ec => by
      rw [upd_ne (fun z => by rw [z, hf] at ec; cases ec)]
      exact ec, o2, es, ep, z1, z2, z3, z4, z6⟩), rfl, q _ hf⟩
end
end L2

set_option Elab.async false
set_option linter.all false
set_option maxRecDepth 100000
set_option maxHeartbeats 4000000
/-! Df: dicts with tuple keys as values; sets held by what is in them; lists of any things; [x] * int(c). -/
namespace Ob
open PySem L2
open Evl (Ex)
open PySem.W (Datum Tup DatumOrd)
/-- a set of tuples of texts, held as the keys of a dict, by what is in it -/
structure RSet where
  P : List Str → Prop
instance : Rep RSet := ⟨fun K B v S => ∃ T : TSet, Rep.at_ K B v T ∧ ∀ z, z ∈ T.ks ↔ S.P z, fun e ⟨T, h1, h2⟩ => ⟨T, Rep.monoR e h1, h2⟩⟩
structure Duo (α β : Type) where
  a : α
  b : β
instance {α β : Type} [Rep α] [Rep β] : Rep (Duo α β) := ⟨fun K H v t => ∃ a v1 v2, v = .ref a ∧ H a = some (.tup [v1, v2]) ∧ Rep.at_ K H v1 t.a ∧ Rep.at_ K H v2 t.b,
  fun e ⟨a, v1, v2, h1, h2, h3, h4⟩ => ⟨a, v1, v2, h1, e.2 _ _ h2, Rep.monoR e h3, Rep.monoR e h4⟩⟩
/-- a list of any things -/
structure LL (α : Type) where
  items : List α
instance {α : Type} [Rep α] : Rep (LL α) := ⟨fun K H v s => ∃ a vs, v = .ref a ∧ SqL K H a vs ∧ AtAll K H vs s.items, fun e ⟨a, vs, h1, h2, h3⟩ => ⟨a, vs, h1, exr_l e h2, h3.monoR e⟩⟩
/-- a dict, the keys tuples of texts -/
structure DicT (α : Type) where
  kvs : List (List Str × α)
def DicTAt {α : Type} [Rep α] (K : PySem.W.Frag) (H : Hp) (ks : List (List Key × V)) (d : List (List Str × α)) : Prop := Paired (fun (p : List Key × V) (q : List Str × α) => p.1 = kT q.1 ∧ Rep.at_ K H p.2 q.2) ks d
instance {α : Type} [Rep α] : Rep (DicT α) := ⟨fun K H v d => ∃ a ks, v = .ref a ∧ Rd H a (.dT ks) ∧ DicTAt K H ks d.kvs,
  fun e ⟨a, ks, h1, h2, h3⟩ => ⟨a, ks, h1, e.1 a _ rfl h2, Paired.mapP h3 fun _ _ h => ⟨h.1, Rep.monoR e h.2⟩⟩⟩
section
variable {K : PySem.W.Frag} {σ : L2.St} {B H : Hp} {te ta tb tc : TE} {tt : TT}
theorem Pq.rs {R : TSet → Prop} {P : List Str → Prop} (h : Pq K te σ B R) (k : ∀ S, R S → ∀ z, z ∈ S.ks ↔ P z) : Pe K te σ B (RSet.mk P) := fun H e Q q => h H e Q fun v y B2 H2 u r hv => q v B2 H2 u ⟨y, hv, k y r⟩
theorem e_inR {x : Tup Str} {S : RSet} (ha : Pe K ta σ B x) (hb : Pe K tb σ B S) (neg : Bool) {b : Bool} (hx : b = true ↔ S.P x.items) : Pe K (tOp (rInU K neg) ta tb) σ B (ngb neg b) :=
  e_op ha hb (rd_val (.bl _) (fun _ => at_bl.mpr rfl) fun B H v w e h1 h2 Q q => by
    obtain ⟨b', rfl, hb'⟩ := tup_key e h1
    obtain ⟨T, ⟨a, kvs, rfl, h3, h4⟩, hT⟩ := h2
    refine .inr (.inl ⟨a, _, rfl, .inr ⟨kvs, kT x.items, b', Evl.ex_rd e h3, rfl, hb', rfl⟩, ?_⟩)
    rw [valV_some h4, show decide (x.items ∈ T.ks) = b by rw [Bool.eq_iff_iff, decide_eq_true_iff, hT, hx]]
    exact q)
theorem e_duo {α β : Type} [Rep α] [Rep β] {x : α} {y : β} (h : Pe K ta σ B x) (h2 : Pe K tb σ B y) : Pe K (tTup (tCons ta (tCons tb tNil))) σ B (Duo.mk x y) := fun H e Q q => h.both h2 e fun v w B1 H1 u hv hw =>
  ⟨by show 2 ≤ sizeLine; rw [sizeLine_eq]; decide, fun p hp => q _ _ _ (u.then hp) ⟨p, v, w, rfl, upd_same, Rep.mono (Up.new (o := .tup [v, w]) u.bh hp).bb hv, Rep.mono (Up.new (o := .tup [v, w]) u.bh hp).bb hw⟩⟩
theorem e_lcS {γ β : Type} [Rep γ] [Rep β] {wi : TI} {g : TG} {vs : List Nat} {xs : List γ} (f : γ → Bool) (y : γ → β) (h : ItD K wi σ B xs) (hz : xs.length ≤ 1000000)
    (ht : ∀ x ∈ xs, ∀ v B1, Ex B B1 → Rep.at_ K B1 v x → TurnD K g tt te vs σ B1 v (f x) (y x)) : Pe K (tLc wi g tt te vs) σ B (LL.mk ((xs.filter f).map y)) := fun H e Q q =>
  h H e _ fun J B1 H1 G Y up W hG hY D hD => by
    have hDH : H D = none := Evl.fresh_back up.hh hD
    have hDB : B1 D = none := Evl.fresh_back up.bh hD
    refine lc_it W (fun i H' => ∃ Bi ws, Ex B1 Bi ∧ (∀ a, Bi a ≠ none → B1 a ≠ none ∨ H1 a = none) ∧ Bi D = none ∧ Ex Bi H' ∧ Ex H1 H' ∧ H' D = some (.lst ws) ∧ AtAll K Bi ws (((xs.take i).filter f).map y))
      ⟨B1, [], Ex.refl _, fun _ h => .inl h, hDB, ex_upd up.bh hDB, Ex.new hD, upd_same, .nil⟩ (fun i H' _ p => ?_) (fun i x Hx H' hi p hy => ?_) (fun H' p => ?_)
    · obtain ⟨Bi, ws, b1, _, _, b2, _⟩ := p
      exact hG H' (b1.trans b2)
    · obtain ⟨Bi, ws, b1, nw, bD, b2, hh, eD, hA⟩ := p
      obtain ⟨d, hd, hB⟩ := hY i x Hx H' hi (b1.trans b2) hy
      obtain ⟨B2, u2, hx⟩ := hB Bi b1 b2
      obtain ⟨o1, o2⟩ := u2.out bD eD
      obtain ⟨σ2, hg, hw, htt, hte⟩ := ht d (mem_of_get hd) x B2 ((up.bb.trans b1).trans u2.bb) hx
      refine hg H' _ u2.bh ⟨hw, htt H' u2.bh _ fun B3 H3 u3 => ?_⟩
      obtain ⟨o3, o4⟩ := u3.out o1 o2
      have nw3 : ∀ a, B3 a ≠ none → B1 a ≠ none ∨ H1 a = none := fun a ha => by
        rcases (u2.trans u3).nw a ha with z | z
        · exact nw a z
        · exact .inr (Evl.fresh_back hh z)
      cases hf : f d with
      | true =>
        rw [hf] at hte
        refine ((hte rfl).mono u3.bb) H3 u3.bh _ fun w B4 H4 u4 hw4 => ⟨ws, (u4.out o3 o4).2, ?_, B4, ws ++ [w], ?_, ?_, (u4.out o3 o4).1, ex_upd u4.bh (u4.out o3 o4).1, ?_, upd_same, ?_⟩
        · have := hA.length
          rw [List.length_map] at this
          have h2 := List.length_filter_le f (xs.take i)
          have h3 := List.length_take_le i xs
          have : (sizeLine : Nat) = 16777216 := sizeLine_eq
          omega
        · exact ((b1.trans u2.bb).trans u3.bb).trans u4.bb
        · intro a ha
          rcases ((u2.trans u3).trans u4).nw a ha with z | z
          · exact nw a z
          · exact .inr (Evl.fresh_back hh z)
        · exact Ex.mut (((hh.trans u2.hh).trans u3.hh).trans u4.hh) hD
        · rw [take_snoc hd, List.filter_append, List.map_append, List.filter_cons, if_pos hf]
          exact AtAll.snoc (hA.mono ((u2.bb.trans u3.bb).trans u4.bb)) hw4
      | false =>
        refine ⟨B3, ws, (b1.trans u2.bb).trans u3.bb, nw3, o3, u3.bh, (hh.trans u2.hh).trans u3.hh, o4, ?_⟩
        rw [take_snoc hd, List.filter_append, List.map_append, List.filter_cons, if_neg (by rw [hf]; decide)]
        show AtAll K B3 ws (_ ++ [])
        rw [List.append_nil]
        exact hA.mono (u2.bb.trans u3.bb)
    · obtain ⟨Bi, ws, b1, nw, bD, b2, hh, eD, hA⟩ := p
      rw [List.take_length] at hA
      refine q (.ref D) (upd Bi D (.lst ws)) H' ⟨(up.bb.trans b1).trans (Ex.new bD), ex_in b2 eD, up.hh.trans hh, fun a ha => ?_⟩ ⟨D, ws, rfl, Evl.sq_of upd_same, hA.mono (Ex.new bD)⟩
      by_cases hDa : a = D
      · exact .inr (hDa ▸ hDH)
      · rw [upd_ne hDa] at ha
        rcases nw a ha with z | z
        · exact up.nw a z
        · exact .inr (Evl.fresh_back up.hh z)
theorem Slots.lcAS {γ β : Type} [Rep γ] [Rep β] {wi : TI} {xs : List γ} {j : Nat} {Γ : List (Option Cell)} (s : Slots K B σ Γ) (y : γ → β) (h : ItD K wi σ B xs) (hz : xs.length ≤ 1000000)
    (ht : ∀ x ∈ xs, ∀ σ2 B1, Ex B B1 → Slots K B1 σ2 (cs (cw Γ [j]) j (ce x)) → Pe K te σ2 B1 (y x)) : Pe K (tLc wi (gName j) tYes te [j]) σ B (LL.mk (xs.map y)) := by
  have h0 := e_lcS (te := te) (g := gName j) (tt := tYes) (vs := [j]) (fun _ => true) y h hz fun x hx v B1 b1 hv => turn_name rfl (by rw [set_none_comm (List.mem_singleton.mpr rfl), wipe_wipe]) t_yes fun _ => ht x hx _ B1 b1 ((s.mono b1).turn hv)
  rw [List.filter_eq_self.mpr fun _ _ => rfl] at h0
  exact h0
/-! dict(pairs) -/
theorem mergeKT_nd : ∀ (more kvs : List (List Key × V)), ((kvs ++ more).map (·.1)).Nodup → mergeKT kvs more = kvs ++ more
  | [], kvs, _ => (List.append_nil kvs).symm
  | p :: r, kvs, h => by
    have hp : putK kvs p.1 p.2 = kvs ++ [p] := by
      have hno : (kvs.any fun kv => decide (kv.1 = p.1)) = false := by
        rw [List.any_eq_false]
        intro z hz he
        rw [List.map_append, List.nodup_append] at h
        exact h.2.2 z.1 (List.mem_map.mpr ⟨z, hz, rfl⟩) p.1 (List.mem_map.mpr ⟨p, List.mem_cons_self, rfl⟩) (of_decide_eq_true he)
      unfold putK
      rw [hno, if_neg (by decide)]
    show mergeKT (putK kvs p.1 p.2) r = _
    rw [hp, mergeKT_nd r (kvs ++ [p]) (by rw [List.append_assoc]; exact h), List.append_assoc]
    rfl
theorem duos {α : Type} [Rep α] : ∀ {vs : List V} {xs : List (Duo (Tup Str) α)}, AtAll K B vs xs → ∃ (ps : List Addr) (kvs : List (List Key × V)), vs = ps.map V.ref ∧ Paired (fun p (kv : List Key × V) => ∃ b, B p = some (.tup [.ref b, kv.2]) ∧ B b = some (.tup (kv.1.map kV))) ps kvs ∧ DicTAt K B kvs (xs.map fun x => (x.a.items, x.b)) ∧ kvs.map (·.1) = xs.map fun x => kT x.a.items
  | _, _, .nil => ⟨[], [], rfl, .nil, .nil, rfl⟩
  | _, _, .cons (b := x) ⟨a, v1, v2, e, h1, h2, h3⟩ t => by
    obtain ⟨ps, kvs, rfl, h4, h5, h6⟩ := duos t
    subst e
    obtain ⟨b, rfl, hb⟩ := tup_key (Ex.refl B) h2
    exact ⟨a :: ps, (kT x.a.items, v2) :: kvs, rfl, .cons ⟨b, h1, hb⟩ h4, .cons ⟨rfl, h3⟩ h5, by rw [List.map_cons, List.map_cons, h6]⟩
theorem e_dictT {α : Type} [Rep α] {xs : List (Duo (Tup Str) α)} (h : Pe K te σ B (LL.mk xs)) (nd : (xs.map fun x => x.a.items).Nodup) : Pe K (tCB (rDictT K) (tCons te tNil)) σ B (DicT.mk (xs.map fun x => (x.a.items, x.b))) := fun H e Q q =>
  h H e _ fun v B1 H1 u hv => by
    obtain ⟨a, vs, rfl, hs, hx⟩ := hv
    obtain ⟨ps, kvs, rfl, h1, h2, h3⟩ := duos hx
    refine ⟨a, ps, kvs, rfl, Evl.ex_l u.bh hs, Paired.mapP h1 fun p kv ⟨b, e1, e2⟩ => ⟨b, ex_tx u.bh e1, u.bh _ _ e2⟩, fun p hp => ?_⟩
    have hm : mergeKT [] kvs = kvs := mergeKT_nd kvs [] (by
      show (kvs.map (·.1)).Nodup
      rw [h3, show (xs.map fun x => kT x.a.items) = (xs.map fun x => x.a.items).map kT by rw [List.map_map]; rfl]
      exact List.Pairwise.map _ (fun a b hab e => hab (kT_inj e)) nd)
    rw [hm]
    exact q _ _ _ (u.then hp) ⟨p, kvs, rfl, .inl upd_same, Paired.mapP h2 fun _ _ z => ⟨z.1, Rep.mono (Up.new (o := .dT kvs) u.bh hp).bb z.2⟩⟩
theorem DicTAt.find {α : Type} [Rep α] : ∀ {ks : List (List Key × V)} {d : List (List Str × α)}, DicTAt K H ks d → ∀ {k : List Str} {x : α}, (k, x) ∈ d → (d.map (·.1)).Nodup → ∃ v, valV ks (kT k) = some v ∧ Rep.at_ K H v x
  | _, _, .nil, k, x, h, _ => by cases h
  | _, _, .cons (a := p) (b := q) ⟨h1, h2⟩ t, k, x, h, nd => by
    obtain ⟨pk, pv⟩ := p
    obtain ⟨qk, qv⟩ := q
    simp only at h1 h2
    subst h1
    rw [List.map_cons, List.nodup_cons] at nd
    rcases List.mem_cons.mp h with e | h'
    · cases e
      exact ⟨pv, valV_pos rfl, h2⟩
    · obtain ⟨v, e1, e2⟩ := DicTAt.find t h' nd.2
      exact ⟨v, by rw [valV_neg (fun z => nd.1 (by rw [kT_inj z]; exact List.mem_map.mpr ⟨_, h', rfl⟩))]; exact e1, e2⟩
theorem e_ixDT {α : Type} [Rep α] {d : DicT α} {k : Tup Str} {x : α} (ha : Pe K ta σ B d) (hb : Pe K tb σ B k) (hi : (k.items, x) ∈ d.kvs) (nd : (d.kvs.map (·.1)).Nodup) : Pe K (tOp (rIxU K) ta tb) σ B x :=
  e_op ha hb fun B H v w e h1 h2 Q q => by
    obtain ⟨a, ks, rfl, hr, hd⟩ := h1
    obtain ⟨z, hz, hzx⟩ := hd.find hi nd
    obtain ⟨b, rfl, hb⟩ := tup_key e h2
    exact .inr (.inr (.inr ⟨a, z, rfl, .inr ⟨ks, kT k.items, b, Evl.ex_rd e hr, rfl, hb, hz.symm⟩, q z B H (Up.refl e) hzx⟩))
/-- [x] * int(c) -/
theorem e_rep1' {α : Type} [DecidableEq α] [Datum α] {x : α} {c : Bool} (h : Pe K te σ B x) (hb : Pe K tb σ B (if c then 1 else 0 : Int)) : Pe K (tOp (rMulU) (tLst (tCons te tNil)) tb) σ B (if c then [x] else []) := fun H e Q q =>
  h H e _ fun v B1 H1 u1 hv => ⟨by show 1 ≤ sizeLine; rw [sizeLine_eq]; decide, fun p hp => by
    have u := u1.then (o := .lst [v]) hp
    refine (hb.mono u.bb) _ u.bh (fun w H2 => rMulU (.ref p) w H2 Q) fun w B2 H2 u2 hw => ?_
    have e2 := at_int.mp hw
    subst e2
    have hp2 : H2 p = some (.lst [v]) := u2.bh _ _ (u2.bb _ _ upd_same)
    have hvx : Rep.at_ K B2 v x := Rep.mono ((Up.new (o := .lst [v]) u1.bh hp).bb.trans u2.bb) hv
    cases c with
    | false =>
      refine .inr ⟨p, 0, [v], rfl, rfl, hp2, by decide, by decide, by simp, fun p2 hn2 => ?_⟩
      have u3 := Up.new (o := .lst []) u2.bh hn2
      exact q _ _ _ ((u.trans u2).trans u3) (at_list.mpr ⟨p2, [], rfl, Evl.sq_of upd_same, .nil⟩)
    | true =>
      refine .inr ⟨p, 1, [v], rfl, rfl, hp2, by decide, by decide, by show 1 * 1 ≤ sizeLine; rw [sizeLine_eq]; decide, fun p2 hn2 => ?_⟩
      have u3 := Up.new (o := .lst [v]) u2.bh hn2
      exact q _ _ _ ((u.trans u2).trans u3) (at_list.mpr ⟨p2, [v], rfl, Evl.sq_of upd_same, .cons (Rep.mono u3.bb hvx) .nil⟩)⟩
end
end Ob

set_option Elab.async false
set_option linter.all false
set_option maxRecDepth 100000
set_option maxHeartbeats 4000000
/-! Y1: look_pressed, can_leave, look_order, look_both, is_order. -/
namespace Ob
open PySem L2
open Evl (Ex)
open PySem.W (Datum Tup DatumOrd)
theorem leftO_free {rv : Str → List Str} {L : List Str} (nd : L.Nodup) (h : ∀ x ∈ L, ∀ y ∈ L, y ∉ rv x) : leftO rv L = sortD L := by
  have hm : ∀ z, z ∈ leftO rv L ↔ z ∈ L := fun z => by
    refine ⟨leftO_sub, fun hz => ?_⟩
    obtain ⟨i, hi⟩ := List.getElem?_of_mem hz
    rw [left_at nd hi]
    exact fun o ho => h z hz o (List.mem_of_mem_drop ho)
  refine asc_ext ?_ (sortD_asc nd) fun z => by rw [hm, mem_sortD]
  unfold leftO
  exact sortD_asc (nd.sublist (filtT_sub _ L))
section
variable {K : PySem.W.Frag}
abbrev sp_look_pressed (K : PySem.W.Frag) : Sp := Fn3 K (fun (p : Pan) (a b : Sq Str) => (∀ x ∈ a.items, x ∈ p.sw) ∧ (∀ x ∈ b.items, x ∈ p.sw) ∧ a.items.length ≤ 1000 ∧ b.items.length ≤ 1000) fun _ _ _ => ()
def N_look_pressed : List Str := ["panel", "pressed", "lit"]
def t_look_pressed (K : PySem.W.Frag) : TS :=
  (tDrop (tCall (sp_look_switches K) [] E0 (tCons (tVar 0) (tCons (tOp (rAddU K) (tCB (rListU K) (tCons (tVar 1) tNil)) (tCB (rListU K) (tCons (tVar 2) tNil))) tNil))))
theorem l_look_pressed (vs : List V) (H : Hp) (Q : VK) (E : XK) (h : sp_look_pressed K vs H Q E) : vs.length = 3 := Fn3.len vs H Q E h
theorem r_look_pressed (vs : List V) (H : Hp) (Q : VK) (E : XK) (h : sp_look_pressed K vs H Q E) : t_look_pressed K (Ends.ret Q) (start N_look_pressed vs) H := by
  obtain ⟨p, ⟨a⟩, ⟨b⟩, B, ⟨h1, h2, z1, z2⟩, s, q⟩ := Fn3.st h N_look_pressed
  have z1' : a.length ≤ 1000 := z1
  have z2' : b.length ≤ 1000 := z2
  exact (e_call2 (pre := fun (p : Pan) (s : Sq Str) => ∀ x ∈ s.items, x ∈ p.sw) (f := fun _ _ => ()) (x := p) (y := Sq.mk (a ++ b)) (s.v 0 rfl) ((e_addL (e_lstSq (s.v (x := Sq.mk a) 1 rfl)) (e_lstSq (s.v (x := Sq.mk b) 2 rfl)) (by omega)).imp sq_list) fun x hx => (List.mem_append.mp hx).elim (h1 x) (h2 x)) H s.bh _ fun v B1 H1 u _ => q .non B1 H1 u (at_non.mpr rfl)
def CanPre (d : Dic (List Str)) (P L : Sq Str) : Prop := TabGood d P.items ∧ L.items.Nodup ∧ StayO (look d) P.items L.items
abbrev sp_can_leave (K : PySem.W.Frag) : Sp := Fn3 K CanPre fun _ _ _ => true
def N_can_leave : List Str := ["rivals", "pressed", "lit", "switch", "group"]
def t_can_leave (K : PySem.W.Frag) : TS :=
  (tSeq (tIfS (tOr (tNot (tB (tCB (rAll K) (tCons (tLc (iSeq K (tVar 2)) (gName 3) tYes (tOp (rInU K false) (tVar 3) (tVar 1)) [3]) tNil)))) (tTest (tOp (rNeP K) (tCall (sp_left_on K) [] E0 (tCons (tVar 0) (tCons (tCB (rListU K) (tCons (tVar 2) tNil)) tNil))) (tCB (rSortU K) (tCons (tVar 2) tNil))))) (tRet (tC (.bl false))) tNext)
    (tRet (tCB (rAll K) (tCons (tLc (iSeq K (tCall (sp_components K) [] E0 (tCons (tVar 0) (tCons (tVar 1) tNil)))) (gName 4) tYes (tCB (rAny K) (tCons (tLc (iSeq K (tVar 4)) (gName 3) tYes (tOp (rInU K false) (tVar 3) (tVar 2)) [3]) tNil)) [4]) tNil))))
theorem l_can_leave (vs : List V) (H : Hp) (Q : VK) (E : XK) (h : sp_can_leave K vs H Q E) : vs.length = 3 := Fn3.len vs H Q E h
theorem r_can_leave (vs : List V) (H : Hp) (Q : VK) (E : XK) (h : sp_can_leave K vs H Q E) : t_can_leave K (Ends.ret Q) (start N_can_leave vs) H := by
  obtain ⟨d, ⟨P⟩, ⟨L⟩, B, ⟨tg, lnd, S⟩, s, q⟩ := Fn3.st h N_can_leave
  have tg' : TabGood d P := tg
  have lnd' : L.Nodup := lnd
  have S' : StayO (look d) P L := S
  have hPl : P.length ≤ 1000 := tg'.2.1
  have hLl : L.length ≤ 1000 := Nat.le_trans (lnd'.length_le_of_subset S'.sub) hPl
  replace s : St K [] B H [] [ce d, ce (Sq.mk P), ce (Sq.mk L), none, none] _ B H := s
  refine s.no (t_or (a := false) (b := false) ((t_not (t_B (e_all (s.sl.lcA (j := 3) (fun z => ngb false (decide (z ∈ P))) (it_sq (s.v (x := Sq.mk L) 2 rfl)) (by omega) fun z _ σ B b sl => e_inSq (sl.v 3 rfl) (sl.v (x := Sq.mk P) 1 rfl) false)))).is ?_) fun _ => t_test ((e_ne (e_call2 (x := d) (y := L) (f := fun d os => leftO (look d) os) (s.v 0 rfl) (e_lstSq (s.v (x := Sq.mk L) 2 rfl)) ⟨fun x hx => (tg'.2.2 x (S'.sub x hx)).1, by omega⟩) (e_sortSq (s.v (x := Sq.mk L) 2 rfl) (sortable_str _))).is (ne_false (leftO_free lnd' S'.free)))) fun B1 H1 s1 => ?_
  · have h : ((L.map fun z => ngb false (decide (z ∈ P))).all id) = true := by
      rw [List.all_map, List.all_eq_true]
      exact fun x hx => decide_eq_true (S'.sub x hx)
    rw [h]
    rfl
  · have hc : (compsO (look d) (Sq.mk P).items).length ≤ 1000 := Nat.le_trans (compsF_len _ _) hPl
    refine s1.ret (x := true) ((e_all (s1.sl.lcA (j := 4) (fun C : List Str => (C.map fun z => ngb false (decide (z ∈ L))).any id) (it_seqL (e_call2 (x := d) (y := Sq.mk P) (f := fun d s => compsO (look d) s.items) (s1.v 0 rfl) (s1.v 1 rfl) tg')) (by omega) fun C hC σ2 B2 b2 s2 => e_any (s2.lcA (j := 3) (fun z => ngb false (decide (z ∈ L))) (it_seqL (s2.v (x := C) 4 rfl)) (by
      obtain ⟨x, hx, rfl⟩ := compsO_mem hC
      have : (compO (look d) P x).length ≤ P.length := comp_len hC
      show (compO (look d) P x).length ≤ 1000000
      omega) fun z _ σ3 B3 b3 s3 => e_inSq (s3.v 3 rfl) (s3.v (x := Sq.mk L) 2 rfl) false))).is ?_) fun v B2 H2 s2 hv => q v B2 H2 s2.toUp hv
    rw [List.all_map, List.all_eq_true]
    intro C hC
    obtain ⟨x, hx, rfl⟩ := compsO_mem hC
    obtain ⟨e, he, hr⟩ := S'.hit x hx
    show ((compO (look d) P x).map _).any id = true
    rw [List.any_map, List.any_eq_true]
    exact ⟨e, mem_compO.mpr ⟨S'.sub e he, hr⟩, decide_eq_true he⟩
abbrev sp_look_order (K : PySem.W.Frag) : Sp := Fn3 K CanPre fun _ _ _ => ()
def N_look_order : List Str := ["rivals", "pressed", "lit"]
def t_look_order (K : PySem.W.Frag) : TS :=
  (tIfS (tNot (tB (tCall (sp_can_leave K) [] E0 (tCons (tVar 0) (tCons (tVar 1) (tCons (tVar 2) tNil)))))) tNever tNext)
theorem l_look_order (vs : List V) (H : Hp) (Q : VK) (E : XK) (h : sp_look_order K vs H Q E) : vs.length = 3 := Fn3.len vs H Q E h
theorem r_look_order (vs : List V) (H : Hp) (Q : VK) (E : XK) (h : sp_look_order K vs H Q E) : t_look_order K (Ends.ret Q) (start N_look_order vs) H := by
  obtain ⟨d, P, L, B, hp, s, q⟩ := Fn3.st h N_look_order
  refine s.iteL (t_not (t_B (e_call3 (x := d) (y := P) (z := L) (f := fun _ _ _ => true) (s.v 0 rfl) (s.v 1 rfl) (s.v 2 rfl) hp))) (fun hb _ _ _ => by cases hb) fun _ B1 H1 s1 => q .non B1 H1 s1.toUp (at_non.mpr rfl)
abbrev sp_look_both (K : PySem.W.Frag) : Sp := Fn3 K (fun (P : Sq Str) (a b : Str) => a ∈ P.items ∧ b ∈ P.items) fun _ _ _ => ()
def N_look_both : List Str := ["pressed", "one", "other", "switch"]
def t_look_both (K : PySem.W.Frag) : TS :=
  (tFor (iSeq K (tTup (tCons (tVar 1) (tCons (tVar 2) tNil)))) (gName 3) (tIfS (tTest (tOp (rInU K true) (tVar 3) (tVar 0))) tNever tNext))
theorem l_look_both (vs : List V) (H : Hp) (Q : VK) (E : XK) (h : sp_look_both K vs H Q E) : vs.length = 3 := Fn3.len vs H Q E h
theorem r_look_both (vs : List V) (H : Hp) (Q : VK) (E : XK) (h : sp_look_both K vs H Q E) : t_look_both K (Ends.ret Q) (start N_look_both vs) H := by
  obtain ⟨⟨P⟩, a, b, B, ⟨ha, hb⟩, s, q⟩ := Fn3.st h N_look_both
  replace s : St K [] B H [] [ce (Sq.mk P), ce a, ce b, none] _ B H := s
  refine s.forC (D := { Ends.ret Q with nx := _ }) [3] (it_seqT (xs := [a, b]) (e_tup2 (s.v (x := a) 1 rfl) (s.v (x := b) 2 rfl))) (fun done x rest ex σ' B' H' N hN s2 => ?_) fun σ' B' H' s2 => q .non B' H' s2.toUp (at_non.mpr rfl)
  have hx : x ∈ P := by
    have : x ∈ [a, b] := by rw [ex]; simp
    rcases List.mem_cons.mp this with e | e
    · rw [e]; exact ha
    · rw [List.mem_singleton.mp e]; exact hb
  have s3 := s2.here
  exact s3.iteL (t_test ((e_inSq (s3.v (x := x) 3 rfl) (s3.v (x := Sq.mk P) 0 rfl) true).is (y := false) (by simp [ngb, hx]))) (fun h => by cases h) fun _ B3 H3 s4 => hN s4 rfl
abbrev sp_is_order (K : PySem.W.Frag) : Sp := Fn4 K (fun (d : Dic (List Str)) (P L : Sq Str) (T : List Str) => (P.items.Nodup ∧ P.items.length ≤ 1000 ∧ ∀ x ∈ T, (d.kvs.lookup x).isSome = true) ∧ T.Perm P.items ∧ leftO (look d) T = sortD L.items) fun _ _ _ _ => true
def N_is_order : List Str := ["rivals", "pressed", "lit", "thing", "switch"]
def t_is_order (K : PySem.W.Frag) : TS :=
  (tSeq (tIfS (tOr (tNot (tB (tCB (rIsi K) (tCons (tVar 3) (tCons (tC (.ty "list")) tNil))))) (tNot (tB (tCB (rAll K) (tCons (tLc (iSeq K (tVar 3)) (gName 4) tYes (tCB (rIsi K) (tCons (tVar 4) (tCons (tC (.ty "str")) tNil))) [4]) tNil))))) (tRet (tC (.bl false))) tNext)
    (tRet (tAndV (tOp (rEqP K) (tCB (rSortU K) (tCons (tVar 3) tNil)) (tCB (rSortU K) (tCons (tVar 1) tNil))) (tOp (rEqP K) (tCall (sp_left_on K) [] E0 (tCons (tVar 0) (tCons (tVar 3) tNil))) (tCB (rSortU K) (tCons (tVar 2) tNil))))))
theorem l_is_order (vs : List V) (H : Hp) (Q : VK) (E : XK) (h : sp_is_order K vs H Q E) : vs.length = 4 := Fn4.len vs H Q E h
theorem r_is_order (vs : List V) (H : Hp) (Q : VK) (E : XK) (h : sp_is_order K vs H Q E) : t_is_order K (Ends.ret Q) (start N_is_order vs) H := by
  obtain ⟨d, ⟨P⟩, ⟨L⟩, T, B, ⟨⟨pnd, z, hl⟩, hp, hleft⟩, s, q⟩ := Fn4.st h N_is_order
  have pnd' : P.Nodup := pnd
  have hp' : T.Perm P := hp
  have z' : P.length ≤ 1000 := z
  have hT := hp'.length_eq
  replace s : St K [] B H [] [ce d, ce (Sq.mk P), ce (Sq.mk L), ce T, none] _ B H := s
  refine s.no (t_or (a := false) (b := false) ((t_not (t_B (e_isi (b := true) (s.v (x := T) 3 rfl) (kit_same "list")))).is rfl) fun _ => (t_not (t_B (e_all (s.sl.lcA (j := 4) (fun _ : Str => true) (it_seqL (s.v (x := T) 3 rfl)) (by omega) fun x _ σ B b sl => e_isi (sl.v (x := x) 4 rfl) (kit_same "str"))))).is ?_) fun B1 H1 s1 => ?_
  · have h : ((T.map fun _ => true).all id) = true := by
      rw [List.all_map, List.all_eq_true]
      exact fun _ _ => rfl
    rw [h]
    rfl
  · refine s1.ret (x := true) ((e_andV (a := true) (b := true) ((e_eq (e_sortSq ((s1.v (x := T) 3 rfl).imp sq_list) (sortable_str _)) (e_sortSq (s1.v (x := Sq.mk P) 1 rfl) (sortable_str _))).is (decide_eq_true ?_)) fun _ => (e_eq (e_call2 (x := d) (y := T) (f := fun d os => leftO (look d) os) (s1.v 0 rfl) (s1.v 3 rfl) ⟨hl, by omega⟩) (e_sortSq (s1.v (x := Sq.mk L) 2 rfl) (sortable_str _))).is (decide_eq_true hleft)).is rfl) fun v B2 H2 s2 hv => q v B2 H2 s2.toUp hv
    exact asc_ext (sortD_asc (hp'.nodup_iff.mpr pnd')) (sortD_asc pnd') fun x => by rw [mem_sortD, mem_sortD, hp'.mem_iff]
end
end Ob

set_option Elab.async false
set_option linter.all false
set_option maxRecDepth 100000
set_option maxHeartbeats 4000000
/-! M18: a search for a path, level by level. Plain Lean. -/
namespace Ob
open PySem L2
open PySem.W (Datum Tup DatumOrd)
structure WPath (rv : Str → List Str) (ins seen : List Str) (st : Str) (w : List Str) : Prop where
  nd : w.Nodup
  mem : ∀ x ∈ w, x ∈ ins ∧ x ∈ seen
  first : w[0]? = some st
  chain : ∀ i x y, w[i]? = some x → w[i + 1]? = some y → y ∈ rv x
  last : ∃ x, w[w.length - 1]? = some x ∧ Reach rv ins st x
structure PathI (rv : Str → List Str) (ins es : List Str) (st : Str) (W : List (List Str)) (seen : List Str) (at_ : Nat) : Prop where
  al : at_ ≤ W.length
  wl : W.length ≤ seen.length
  snd : seen.Nodup
  sst : st ∈ seen
  sin : ∀ x ∈ seen, x = st ∨ x ∈ ins
  w0 : st ∈ ins → ∀ x ∈ seen, ∃ (j : Nat) (w : List Str), W[j]? = some w ∧ w[w.length - 1]? = some x
  w1 : st ∉ ins → W = []
  wp : ∀ w ∈ W, WPath rv ins seen st w
  pop : ∀ (j : Nat) (w : List Str) (x : Str), j < at_ → W[j]? = some w → w[w.length - 1]? = some x → x ∉ es ∧ ∀ z ∈ rv x, z ∈ ins → z ∈ seen
def PathR (rv : Str → List Str) (ins es : List Str) (st : Str) : Option (List Str) → Prop
  | none => ¬ (st ∈ ins ∧ ∃ e ∈ es, Reach rv ins st e)
  | some w => (w.Nodup ∧ (∀ x ∈ w, x ∈ ins) ∧ w[0]? = some st ∧ ∀ i x, w[i]? = some x → x ∉ es → ∃ y, w[i + 1]? = some y ∧ y ∈ rv x) ∧ st ∈ ins ∧ ∃ e ∈ es, Reach rv ins st e
section
variable {rv : Str → List Str} {ins es seen : List Str} {st : Str} {W : List (List Str)} {at_ : Nat}
theorem WPath.up {w : List Str} {z : Str} (h : WPath rv ins seen st w) : WPath rv ins (seen ++ [z]) st w := ⟨h.nd, fun x hx => ⟨(h.mem x hx).1, List.mem_append_left _ (h.mem x hx).2⟩, h.first, h.chain, h.last⟩
theorem path_start : PathI rv ins es st (if decide (st ∈ ins) then [[st]] else []) [st] 0 where
  al := Nat.zero_le _
  wl := by split <;> simp
  snd := by simp
  sst := List.mem_singleton.mpr rfl
  sin x hx := .inl (List.mem_singleton.mp hx)
  w0 h x hx := by
    rw [if_pos (decide_eq_true h), List.mem_singleton.mp hx]
    exact ⟨0, [st], rfl, rfl⟩
  w1 h := by rw [if_neg (by simpa using h)]
  wp w hw := by
    split at hw
    · rename_i h
      have hi := of_decide_eq_true h
      rw [List.mem_singleton.mp hw]
      refine ⟨by simp, fun x hx => ?_, rfl, fun i x y h1 h2 => ?_, st, rfl, .refl⟩
      · rw [List.mem_singleton.mp hx]
        exact ⟨hi, List.mem_singleton.mpr rfl⟩
      · simp at h2
    · cases hw
  pop j w x h := absurd h (Nat.not_lt_zero j)
theorem path_grow {w : List Str} {x z : Str} (I : PathI rv ins es st W seen at_) (hw : W[at_]? = some w) (hx : w[w.length - 1]? = some x) (hz : z ∈ rv x) (hi : z ∈ ins) (hn : z ∉ seen) : PathI rv ins es st (W ++ [w ++ [z]]) (seen ++ [z]) at_ := by
  have hwm := I.wp w (List.mem_of_getElem? hw)
  have hpos : 0 < w.length := by
    have := (List.getElem?_eq_some_iff.mp hwm.first).1
    omega
  have hlt := (List.getElem?_eq_some_iff.mp hw).1
  refine ⟨by rw [List.length_append]; have := I.al; omega, by rw [List.length_append, List.length_append]; have := I.wl; simp; omega, List.nodup_append.mpr ⟨I.snd, by simp, fun a ha b hb e => hn (by rw [← List.mem_singleton.mp hb, ← e]; exact ha)⟩, List.mem_append_left _ I.sst, fun y hy => ?_, fun h y hy => ?_, fun h => ?_, fun u hu => ?_, fun j u y hj hu hy => ?_⟩
  · rcases List.mem_append.mp hy with hy | hy
    · exact I.sin y hy
    · rw [List.mem_singleton.mp hy]
      exact .inr hi
  · rcases List.mem_append.mp hy with hy | hy
    · obtain ⟨j, u, h1, h2⟩ := I.w0 h y hy
      exact ⟨j, u, by rw [List.getElem?_append_left (List.getElem?_eq_some_iff.mp h1).1]; exact h1, h2⟩
    · rw [List.mem_singleton.mp hy]
      exact ⟨W.length, w ++ [z], by simp, by simp⟩
  · have := I.w1 h
    rw [this] at hw
    simp at hw
  · rcases List.mem_append.mp hu with hu | hu
    · exact (I.wp u hu).up
    · rw [List.mem_singleton.mp hu]
      refine ⟨List.nodup_append.mpr ⟨hwm.nd, by simp, fun a ha b hb e => hn (by rw [← List.mem_singleton.mp hb, ← e]; exact (hwm.mem a ha).2)⟩, fun y hy => ?_, ?_, fun i a b h1 h2 => ?_, z, by simp, ?_⟩
      · rcases List.mem_append.mp hy with hy | hy
        · exact ⟨(hwm.mem y hy).1, List.mem_append_left _ (hwm.mem y hy).2⟩
        · rw [List.mem_singleton.mp hy]
          exact ⟨hi, List.mem_append_right _ (List.mem_singleton.mpr rfl)⟩
      · rw [List.getElem?_append_left hpos]
        exact hwm.first
      · by_cases hil : i + 1 < w.length
        · rw [List.getElem?_append_left (by omega)] at h1
          rw [List.getElem?_append_left hil] at h2
          exact hwm.chain i a b h1 h2
        · have hl2 := (List.getElem?_eq_some_iff.mp h2).1
          rw [List.length_append, List.length_singleton] at hl2
          have hi2 : i = w.length - 1 := by omega
          rw [List.getElem?_append_left (by omega), hi2, hx] at h1
          rw [show i + 1 = w.length by omega] at h2
          simp at h2
          cases h1
          rw [← h2]
          exact hz
      · obtain ⟨x', hx', hr⟩ := hwm.last
        rw [hx] at hx'
        cases hx'
        exact hr.step hz hi
  · have hjl : j < W.length := Nat.lt_of_lt_of_le hj I.al
    rw [List.getElem?_append_left hjl] at hu
    obtain ⟨h1, h2⟩ := I.pop j u y hj hu hy
    exact ⟨h1, fun a ha hai => List.mem_append_left _ (h2 a ha hai)⟩
theorem path_next {w : List Str} {x : Str} (I : PathI rv ins es st W seen at_) (hw : W[at_]? = some w) (hx : w[w.length - 1]? = some x) (he : x ∉ es) (hn : ∀ z ∈ rv x, z ∈ ins → z ∈ seen) : PathI rv ins es st W seen (at_ + 1) :=
  { I with
    al := (List.getElem?_eq_some_iff.mp hw).1
    pop := fun j u y hj hu hy => by
      by_cases h : j < at_
      · exact I.pop j u y h hu hy
      · have hj2 : j = at_ := by omega
        rw [hj2, hw] at hu
        cases hu
        rw [hx] at hy
        cases hy
        exact ⟨he, hn⟩ }
theorem path_found {w : List Str} {x : Str} (I : PathI rv ins es st W seen at_) (hw : W[at_]? = some w) (hx : w[w.length - 1]? = some x) (he : x ∈ es) : PathR rv ins es st (some w) := by
  have hwm := I.wp w (List.mem_of_getElem? hw)
  obtain ⟨x', hx', hr⟩ := hwm.last
  rw [hx] at hx'
  cases hx'
  have hsi := (hwm.mem st (List.mem_of_getElem? hwm.first)).1
  refine ⟨⟨hwm.nd, fun y hy => (hwm.mem y hy).1, hwm.first, fun i y hy hne => ?_⟩, hsi, x, he, hr⟩
  have hl := (List.getElem?_eq_some_iff.mp hy).1
  by_cases hil : i + 1 < w.length
  · exact ⟨w[i + 1], List.getElem?_eq_getElem hil, hwm.chain i y _ hy (List.getElem?_eq_getElem hil)⟩
  · rw [show i = w.length - 1 by omega, hx] at hy
    cases hy
    exact absurd he hne
theorem path_none (I : PathI rv ins es st W seen at_) (h : W.length ≤ at_) : PathR rv ins es st none := by
  rintro ⟨hsi, e, he, hr⟩
  have hcl : ∀ z, Reach rv ins st z → z ∈ seen := fun z hz => by
    induction hz with
    | refl => exact I.sst
    | step _ hz hs ih =>
      obtain ⟨j, w, h1, h2⟩ := I.w0 hsi _ ih
      have hj := (List.getElem?_eq_some_iff.mp h1).1
      exact (I.pop j w _ (by omega) h1 h2).2 _ hz hs
  obtain ⟨j, w, h1, h2⟩ := I.w0 hsi e (hcl e hr)
  have hj := (List.getElem?_eq_some_iff.mp h1).1
  exact (I.pop j w e (by omega) h1 h2).1 he
theorem path_few (I : PathI rv ins es st W seen at_) : W.length ≤ ins.length + 1 := by
  have h1 := I.wl
  have h2 := I.snd.length_le_of_subset (l₂ := st :: ins) fun x hx => (I.sin x hx).elim (fun e => e ▸ List.mem_cons_self) fun h => List.mem_cons_of_mem _ h
  rw [List.length_cons] at h2
  omega
end
end Ob

set_option Elab.async false
set_option linter.all false
set_option maxRecDepth 100000
set_option maxHeartbeats 4000000
/-! Y2: path_to, way_round, surely_before. -/
namespace Ob
open PySem L2
open Evl (Ex)
open PySem.W (Datum Tup DatumOrd)
section
variable {α β γ δ ε ζ : Type} [Rep α] [Rep β] [Rep γ] [Rep δ] [Rep ε] [Rep ζ] {K : PySem.W.Frag} {vs : List V} {Q : VK} {E : XK} {σ : L2.St} {B H : Hp} {ta tb tc td tf : TE}
def Fn4R (K : PySem.W.Frag) (pre : α → β → γ → δ → Prop) (R : α → β → γ → δ → ε → Prop) : Sp := fun vs H Q _ => ∃ x y z t B, Ex B H ∧ RCons K x (RCons K y (RCons K z (RCons K t RNil))) vs B ∧ pre x y z t ∧ ∀ v r B2 H2, Up B H B2 H2 → R x y z t r → Rep.at_ K B2 v r → Q v H2
theorem Fn4R.len {pre : α → β → γ → δ → Prop} {R : α → β → γ → δ → ε → Prop} (vs : List V) (H : Hp) (Q : VK) (E : XK) (h : Fn4R K pre R vs H Q E) : vs.length = 4 := by
  obtain ⟨x, y, z, t, B, e, ⟨v, r, rfl, h1, v2, r2, rfl, h2, v3, r3, rfl, h3, v4, r4, rfl, h4, rfl⟩, _⟩ := h
  rfl
theorem e_call4R {pre : α → β → γ → δ → Prop} {R : α → β → γ → δ → ε → Prop} {x : α} {y : β} {z : γ} {t : δ} (h : Pe K ta σ B x) (h2 : Pe K tb σ B y) (h3 : Pe K tc σ B z) (h4 : Pe K td σ B t) (hp : pre x y z t) : Pq K (tCall (Fn4R K pre R) [] E (tCons ta (tCons tb (tCons tc (tCons td tNil))))) σ B (R x y z t) := fun H e Q q => a_4 h h2 h3 h4 H e _ fun vs B1 H1 u hv => by
  rw [List.append_nil]
  exact ⟨x, y, z, t, B1, u.bh, hv, hp, fun v r B2 H2 u2 r2 h2 => q v r B2 H2 (u.trans u2) r2 h2⟩
theorem Fn4R.st {pre : α → β → γ → δ → Prop} {R : α → β → γ → δ → ε → Prop} (h : Fn4R K pre R vs H Q E) (N : List Str) : ∃ x y z t B, pre x y z t ∧ St K [] B H [] ([ce x, ce y, ce z, ce t] ++ List.replicate (N.length - 4) none) (start N vs) B H ∧ ∀ v r B2 H2, Up B H B2 H2 → R x y z t r → Rep.at_ K B2 v r → Q v H2 := by
  obtain ⟨x, y, z, t, B, e, ⟨v, _, rfl, h1, v2, _, rfl, h2, v3, _, rfl, h3, v4, _, rfl, h4, rfl⟩, hp, q⟩ := h
  exact ⟨x, y, z, t, B, hp, St.pure e (start_slots [v, v2, v3, v4] [ce x, ce y, ce z, ce t] _ (.cons (At1.some h1) (.cons (At1.some h2) (.cons (At1.some h3) (.cons (At1.some h4) .nil))))), q⟩
end
section
variable {K : PySem.W.Frag} {W0 : List Addr} {B0 H0 : Hp} {os : List OC} {Γ : List (Option Cell)} {σ : L2.St} {B H : Hp} {te ta tb tc : TE} {tt : TT} {D : Ends} {tu tz : TS}
/-- waiting, seen, at = [[start]] if .. else [], [start], 0 -/
theorem St.pathStart {a i j m : Nat} {st : Str} {b : Bool} (s : St K W0 B0 H0 os Γ σ B H) (h : Pt tt σ B b) (ha : cg Γ a = ce st)
    (k : ∀ l1 l2 σ1 B1 H1, St K W0 B0 H0 ((os ++ [lstC K l1 (if b then [[st]] else ([] : List (List Str)))]) ++ [lstC K l2 [st]]) (cs (cs (cs Γ i (ca l1)) j (ca l2)) m (ce (0 : Int))) σ1 B1 H1 → tz D σ1 H1) :
    tSeq (tPar3 i j m (tCons (tIf tt (tLst (tCons (tLst (tCons (tVar a) tNil)) tNil)) (tLst tNil)) (tCons (tLst (tCons (tVar a) tNil)) (tCons (tC (.int 0)) tNil)))) tz D σ H := by
  have len1 : ∀ v : V, [v].length ≤ sizeLine := fun v => by show 1 ≤ sizeLine; rw [sizeLine_eq]; decide
  refine h H s.bh _ fun B1 H1 u => ?_
  have s1 := s.up u
  have fin : ∀ l1 B2 H2, St K W0 B0 H0 (os ++ [lstC K l1 (if b then [[st]] else ([] : List (List Str)))]) Γ σ B2 H2 →
      (tLst (tCons (tVar a) tNil)) σ H2 (fun v H3 => ∃ x y z, [.ref l1, v, .int 0] = [x, y, z] ∧ tz D (((σ.set i (some x)).set j (some y)).set m (some z)) H3) := fun l1 B2 H2 s2 => by
    obtain ⟨v, hv, hx⟩ := s2.sl.get ha
    refine ⟨v, hv, len1 v, fun p hp => ⟨_, _, _, rfl, ?_⟩⟩
    have s3 := s2.add (ob := .lst [v]) hp (lstC K p [st]) rfl ⟨[v], rfl, .cons hx .nil⟩
    exact k l1 p _ B2 _ (((St.put (x := Any.mk (.ref l1)) s3 i rfl).put (x := Any.mk (.ref p)) j rfl).put (x := (0 : Int)) m (at_int.mpr rfl))
  cases b with
  | true =>
    obtain ⟨v, hv, hx⟩ := s1.sl.get ha
    refine ⟨v, hv, len1 v, fun p hp => ⟨len1 _, fun l1 hl1 => ?_⟩⟩
    have u2 := Up.new (o := .lst [v]) s1.bh hp
    have s2 := s1.up u2
    have hin : Rep.at_ K (upd B1 p (.lst [v])) (.ref p) [st] := at_list.mpr ⟨p, [v], rfl, Evl.sq_of upd_same, .cons (Rep.mono u2.bb hx) .nil⟩
    exact fin l1 _ _ (s2.add (ob := .lst [.ref p]) hl1 (lstC K l1 [[st]]) rfl ⟨[.ref p], rfl, .cons hin .nil⟩)
  | false =>
    exact ⟨Nat.zero_le _, fun l1 hl1 => fin l1 B1 _ (s1.add (ob := .lst []) hl1 (lstC K l1 ([] : List (List Str))) rfl ⟨[], rfl, .nil⟩)⟩
/-- while, the test reads a list that changes -/
theorem St.qwhlT {δ : Type} (μ : δ → Nat) (oz : δ → List OC) (Γz : δ → List (Option Cell)) (P : δ → Prop) (bz : δ → Bool) (d0 : δ) (h0 : P d0) (s : St K W0 B0 H0 (oz d0) (Γz d0) σ B H)
    (ht : ∀ d, P d → ∀ σ' B' H', St K W0 B0 H0 (oz d) (Γz d) σ' B' H' → ∃ l o, B' l = none ∧ H' l = some o ∧ Pt tt σ' (upd B' l o) (bz d))
    (hb : ∀ d, P d → bz d = true → ∀ (σ' : L2.St) (B' H' : Hp) (N : L2.St → Hp → Prop), (∀ (d' : δ) {σ3 : L2.St} {B3 H3 : Hp}, μ d' < μ d → P d' → St K W0 B0 H0 (oz d') (Γz d') σ3 B3 H3 → N σ3 H3) → St K W0 B0 H0 (oz d) (Γz d) σ' B' H' → tu { D with nx := N, ct := N, bk := tz D } σ' H')
    (k : ∀ d, P d → bz d = false → ∀ σ' B' H', St K W0 B0 H0 (oz d) (Γz d) σ' B' H' → tz D σ' H') : tSeq (tWhile tt tu) tz D σ H := by
  refine ⟨fun m σ' H' => ∃ d B', m = μ d ∧ P d ∧ St K W0 B0 H0 (oz d) (Γz d) σ' B' H', ⟨_, d0, B, rfl, h0, s⟩, ?_⟩
  rintro m σ' H' ⟨d, B', rfl, hP, s'⟩
  obtain ⟨l, o, hl, hlo, hpt⟩ := ht d hP σ' B' H' s'
  refine hpt.thaw hl s'.bh hlo fun H2 u _ => ?_
  have s2 := s'.up u
  cases e : bz d with
  | true =>
    rw [if_pos rfl]
    exact ⟨fun σ3 H3 => ∃ m', m' < μ d ∧ ∃ d' B3, m' = μ d' ∧ P d' ∧ St K W0 B0 H0 (oz d') (Γz d') σ3 B3 H3, fun _ _ h => h, hb d hP e σ' B' H2 _ (fun d' {σ3 B3 H3} hm hp s3 => ⟨_, hm, d', B3, rfl, hp, s3⟩) s2⟩
  | false =>
    rw [if_neg (by decide)]
    exact k d hP e σ' B' H2 s2
/-- name = xs[k], xs a list that changes -/
theorem St.setIx {α : Type} [Rep α] {i j k m : Nat} {l : Addr} {xs : List α} {n : Int} {x : α} (s : St K W0 B0 H0 os Γ σ B H) (h : os[k]? = some (lstC K l xs)) (hi : cg Γ i = ca l) (hj : cg Γ j = ce n) (hx : atI xs n = some x) (q : ∀ σ1, St K W0 B0 H0 os (cs Γ m (ce x)) σ1 B H → tz D σ1 H) : tSeq (tAsg (tOp (rIxU K) (tVar i) (tVar j)) (gName m)) tz D σ H := by
  obtain ⟨hb, vs, hl, hA⟩ := s.lst h
  obtain ⟨w, hw, hn⟩ := s.sl.get hj
  cases at_int.mp hn
  have hl2 := hA.length
  have hv : ∃ v, atI vs n = some v ∧ Rep.at_ K B v x := by
    unfold atI at hx ⊢
    rw [hl2]
    cases e : ixN xs.length n with
    | none => rw [e] at hx; cases hx
    | some y =>
      rw [e] at hx
      have hx' : xs[y]? = some x := hx
      have hlt : y < vs.length := by
        have := (List.getElem?_eq_some_iff.mp hx').1
        omega
      obtain ⟨x', h1, h2⟩ := AtAll.get' hA (List.getElem?_eq_getElem hlt)
      rw [hx'] at h1
      cases h1
      exact ⟨vs[y], List.getElem?_eq_getElem hlt, h2⟩
  obtain ⟨v, hv1, hv2⟩ := hv
  exact ⟨_, s.sl.rf i hi, _, hw, .inl ⟨l, vs, n, v, rfl, rfl, Evl.sq_of hl, hv1, q _ (s.put m hv2)⟩⟩
theorem St.augL {i : Nat} {x y : Int} (s : St K W0 B0 H0 os Γ σ B H) (hi : cg Γ i = ce x) (h : Pe K te σ B y) (q : ∀ σ1 B1 H1, St K W0 B0 H0 os (cs Γ i (ce (x + y))) σ1 B1 H1 → D.nx σ1 H1) : tAug i te (ipI fun i j => i + j) D σ H := by
  obtain ⟨v, hv, hx⟩ := s.sl.get hi
  cases at_int.mp hx
  refine ⟨_, hv, h H s.bh _ fun w B1 H1 u hw => ?_⟩
  cases at_int.mp hw
  exact ⟨x, y, rfl, rfl, q _ B1 H1 ((s.up u).put i (at_int.mpr rfl))⟩
end
section
variable {K : PySem.W.Frag}
abbrev sp_path_to (K : PySem.W.Frag) : Sp := Fn4R K (fun (d : Dic (List Str)) (ins : List Str) (_ : Str) (es : List Str) => ins.length ≤ 1000 ∧ es.length ≤ 1000 ∧ ∀ x ∈ ins, (d.kvs.lookup x).isSome = true ∧ (look d x).length ≤ 1000) fun d ins st es (m : Mb (List Str)) => PathR (look d) ins es st m.o
def N_path_to : List Str := ["rivals", "inside", "start", "ends", "waiting", "seen", "at", "path", "near"]
def t_path_to (K : PySem.W.Frag) : TS :=
  (tSeq (tPar3 4 5 6 (tCons (tIf (tTest (tOp (rInU K false) (tVar 2) (tVar 1))) (tLst (tCons (tLst (tCons (tVar 2) tNil)) tNil)) (tLst tNil)) (tCons (tLst (tCons (tVar 2) tNil)) (tCons (tC (.int 0)) tNil))))
    (tSeq (tWhile (tTest (tOp (rLtU K) (tVar 6) (tCB (rLenU K) (tCons (tVar 4) tNil)))) (tSeq (tAsg (tOp (rIxU K) (tVar 4) (tVar 6)) (gName 7))
    (tSeq (tIfS (tTest (tOp (rInU K false) (tOp (rIxU K) (tVar 7) (tUn (rU fun i => .int (-i)) (tC (.int 1)))) (tVar 3))) (tRet (tVar 7)) tNext)
    (tSeq (tFor (iSeq K (tOp (rIxU K) (tVar 0) (tOp (rIxU K) (tVar 7) (tUn (rU fun i => .int (-i)) (tC (.int 1)))))) (gName 8) (tIfS (tAnd (tTest (tOp (rInU K false) (tVar 8) (tVar 1))) (tTest (tOp (rInU K true) (tVar 8) (tVar 5)))) (tSeq (tDrop (tBM K "list" (rAppend) (tVar 5) (tCons (tVar 8) tNil)))
    (tDrop (tBM K "list" (rAppend) (tVar 4) (tCons (tOp (rAddU K) (tVar 7) (tLst (tCons (tVar 8) tNil))) tNil)))) tNext))
    (tAug 6 (tC (.int 1)) (ipI fun i j => i + j))))))
    (tRet (tC .non))))
theorem l_path_to (vs : List V) (H : Hp) (Q : VK) (E : XK) (h : sp_path_to K vs H Q E) : vs.length = 4 := Fn4R.len vs H Q E h
theorem r_path_to (vs : List V) (H : Hp) (Q : VK) (E : XK) (h : sp_path_to K vs H Q E) : t_path_to K (Ends.ret Q) (start N_path_to vs) H := by
  obtain ⟨d, ins, st, es, B, ⟨z1, z2, hk⟩, s, q⟩ := Fn4R.st h N_path_to
  replace s : St K [] B H [] [ce d, ce ins, ce st, ce es, none, none, none, none, none] _ B H := s
  refine s.pathStart (a := 2) (st := st) (b := ngb false (decide (st ∈ ins))) (t_test (e_inL (s.v (x := st) 2 rfl) (s.v (x := ins) 1 rfl) false)) rfl fun l1 l2 σ1 B1 H1 s1 => ?_
  replace s1 : St K [] B H [lstC K l1 (if decide (st ∈ ins) then [[st]] else ([] : List (List Str))), lstC K l2 [st]] [ce d, ce ins, ce st, ce es, ca l1, ca l2, ce (0 : Int), none, none] σ1 B1 H1 := s1
  refine s1.qwhlT (δ := List (List Str) × List Str × Nat) (fun e => ins.length + 2 - e.2.2) (fun e => [lstC K l1 e.1, lstC K l2 e.2.1]) (fun e => [ce d, ce ins, ce st, ce es, ca l1, ca l2, ce (e.2.2 : Int), none, none]) (fun e => PathI (look d) ins es st e.1 e.2.1 e.2.2) (fun e => DatumOrd.lt (e.2.2 : Int) (e.1.length : Int)) (_, _, 0) path_start (fun e hI σ' B' H' s2 => ?_) (fun e hI hb σ' B' H' N hN s2 => ?_) fun e hI hb σ' B' H' s2 => ?_
  · obtain ⟨vs', hb, hl, hA, e', sl⟩ := s2.fz (i := 4) (k := 0) (l := l1) (xs := e.1) rfl rfl
    exact ⟨l1, .lst vs', hb, hl, t_test (e_lt (sl.v (x := (e.2.2 : Int)) 6 rfl) (e_lenL (xs := e.1) (sl.v 4 rfl)))⟩
  · obtain ⟨W, seen, at_⟩ := e
    have hI' : PathI (look d) ins es st W seen at_ := hI
    have hlt : at_ < W.length := by
      have h : decide ((at_ : Int) < (W.length : Int)) = true := hb
      have := of_decide_eq_true h
      omega
    have hfew := path_few hI'
    obtain ⟨w, hw⟩ : ∃ w, W[at_]? = some w := ⟨W[at_], List.getElem?_eq_getElem hlt⟩
    have hwp := hI'.wp w (List.mem_of_getElem? hw)
    obtain ⟨x, hx, hr⟩ := hwp.last
    have hwpos : 0 < w.length := by
      have := (List.getElem?_eq_some_iff.mp hwp.first).1
      omega
    have hwl : w.length ≤ ins.length := hwp.nd.length_le_of_subset fun y hy => (hwp.mem y hy).1
    have hxi := (hwp.mem x (List.mem_of_getElem? hx)).1
    have hix : atI w (-1) = some x := atI_last (n := w.length - 1) (by omega) hx
    have hWix : atI W (at_ : Int) = some w := atI_nat (by omega) (by simpa using hw)
    refine s2.setIx (i := 4) (j := 6) (k := 0) (m := 7) (l := l1) (xs := W) (n := (at_ : Int)) (x := w) rfl rfl rfl hWix fun σ3 s3 => ?_
    replace s3 : St K [] B H [lstC K l1 W, lstC K l2 seen] [ce d, ce ins, ce st, ce es, ca l1, ca l2, ce (at_ : Int), ce w, none] σ3 B' H' := s3
    refine s3.ite (b := ngb false (decide (x ∈ es))) (t_test (e_inL (e_ixL (s3.v (x := w) 7 rfl) (e_negI (K := K) (e_int (i := 1))) hix) (s3.v (x := es) 3 rfl) false)) (fun hbe B4 H4 s4 => ?_) fun hbe B4 H4 s4 => ?_
    · refine St.ret (x := Mb.mk (some w)) s4 ((s4.v (x := w) 7 rfl).imp fun h => mb_some h) fun v B5 H5 s5 hv => q v (Mb.mk (some w)) B5 H5 s5.toUp (path_found hI' hw hx (of_decide_eq_true hbe)) hv
    · have hxe : x ∉ es := of_decide_eq_false hbe
      have hkx := hk x hxi
      refine St.qforG (δ := List (List Str) × List Str) s4 (it_seqL (e_ixD (s4.v (x := d) 0 rfl) (e_ixL (s4.v (x := w) 7 rfl) (e_negI (K := K) (e_int (i := 1))) hix) (look_of hkx.1))) (fun _ e => [lstC K l1 e.1, lstC K l2 e.2]) (fun _ _ => [ce d, ce ins, ce st, ce es, ca l1, ca l2, ce (at_ : Int), ce w, none]) (fun done e => PathI (look d) ins es st e.1 e.2 at_ ∧ e.1[at_]? = some w ∧ ∀ z ∈ done, z ∈ ins → z ∈ e.2) ⟨(W, seen), ⟨hI', hw, fun z hz => nomatch hz⟩, fun _ _ s5 => s5⟩ (fun done z rest e ex hP v σ5 B5 H5 N2 hN2 s5 hv => ?_) fun e hP σ5 B5 H5 s5 => ?_
      · obtain ⟨W1, seen1⟩ := e
        obtain ⟨I1, hw1, hdn⟩ := hP
        have hz : z ∈ look d x := by rw [ex]; simp
        have hW1 : W1.length ≤ ins.length + 1 := path_few I1
        have hwl1 := I1.wl
        have hsl1 : seen1.length ≤ ins.length + 1 := by
          have := I1.snd.length_le_of_subset (l₂ := st :: ins) fun y hy => (I1.sin y hy).elim (fun e => e ▸ List.mem_cons_self) fun h => List.mem_cons_of_mem _ h
          rw [List.length_cons] at this
          omega
        have s6 := s5.here.put 8 hv
        replace s6 : St K [l1, l2] B5 H5 [lstC K l1 W1, lstC K l2 seen1] [ce d, ce ins, ce st, ce es, ca l1, ca l2, ce (at_ : Int), ce w, ce z] _ B5 H5 := s6
        refine s6.iteT (i := 5) (k := 1) (l := l2) (xs := seen1) (b := ngb false (decide (z ∈ ins)) && ngb true (decide (z ∈ seen1))) rfl rfl (fun B7 b7 sl => t_and (t_test (e_inL (sl.v (x := z) 8 rfl) (sl.v (x := ins) 1 rfl) false)) fun _ => t_test (e_inL (sl.v (x := z) 8 rfl) (sl.v (x := seen1) 5 rfl) true)) (fun hbz B7 H7 s7 => ?_) fun hbz B7 H7 s7 => ?_
        · have hz2 : z ∈ ins ∧ z ∉ seen1 := by simpa [ngb] using hbz
          refine s7.app (D := { (_ : Ends) with nx := _ }) (i := 5) (k := 1) (l := l2) (xs := seen1) (x := z) rfl rfl (s7.v 8 rfl) (by omega) fun B8 H8 s8 => ?_
          refine St.app (xs := W1) (x := w ++ [z]) s8 (i := 4) (k := 0) (l := l1) rfl rfl (e_addL (s8.v (x := w) 7 rfl) (e_lst1 (s8.v (x := z) 8 rfl)) (by show w.length + 1 ≤ 1000000; omega)) (by omega) fun B9 H9 s9 => hN2 (W1 ++ [w ++ [z]], seen1 ++ [z]) (B3 := B9) ⟨path_grow I1 hw1 hx hz hz2.1 hz2.2, ?_, fun y hy hyi => ?_⟩ (s9.fg [8])
          · show (W1 ++ [w ++ [z]])[at_]? = some w
            rw [List.getElem?_append_left (List.getElem?_eq_some_iff.mp hw1).1]
            exact hw1
          · rcases List.mem_append.mp hy with hy | hy
            · exact List.mem_append_left _ (hdn y hy hyi)
            · exact List.mem_append_right _ hy
        · refine hN2 (W1, seen1) (B3 := B7) ⟨I1, hw1, fun y hy hyi => ?_⟩ (s7.fg [8])
          rcases List.mem_append.mp hy with hy | hy
          · exact hdn y hy hyi
          · rw [List.mem_singleton.mp hy] at hyi ⊢
            refine Classical.byContradiction fun hn => ?_
            simp [ngb, hyi, hn] at hbz
      · obtain ⟨W1, seen1⟩ := e
        obtain ⟨I1, hw1, hdn⟩ := hP
        have hW1 : W1.length ≤ ins.length + 1 := path_few I1
        refine s5.augL (i := 6) (x := (at_ : Int)) (y := 1) rfl (e_int (i := 1)) fun σ6 B6 H6 s6 => hN (W1, seen1, at_ + 1) (B3 := B6) ?_ (path_next I1 hw1 hx hxe hdn) ?_
        · have := I1.al
          show ins.length + 2 - (at_ + 1) < ins.length + 2 - at_
          omega
        · rw [show (at_ : Int) + 1 = ((at_ + 1 : Nat) : Int) by omega] at s6
          exact s6.fg [7]
  · obtain ⟨W, seen, at_⟩ := e
    have hI' : PathI (look d) ins es st W seen at_ := hI
    have hle : W.length ≤ at_ := by
      have h : decide ((at_ : Int) < (W.length : Int)) = false := hb
      have := of_decide_eq_false h
      omega
    exact q .non (Mb.mk none) B' H' s2.toUp (path_none hI' hle) rfl
end
end Ob

set_option Elab.async false
set_option linter.all false
set_option maxRecDepth 100000
set_option maxHeartbeats 4000000
/-! Y3: way_round, surely_before. -/
namespace Ob
open PySem L2
open Evl (Ex)
open PySem.W (Datum Tup DatumOrd)
section
variable {α β γ δ ε ζ : Type} [Rep α] [Rep β] [Rep γ] [Rep δ] [Rep ε] [Rep ζ] {K : PySem.W.Frag} {vs : List V} {Q : VK} {E : XK} {σ : L2.St} {B H : Hp} {ta tb tc td tf te : TE}
def Fn5R (K : PySem.W.Frag) (pre : α → β → γ → δ → ε → Prop) (R : α → β → γ → δ → ε → ζ → Prop) : Sp := fun vs H Q _ => ∃ x y z t w B, Ex B H ∧ RCons K x (RCons K y (RCons K z (RCons K t (RCons K w RNil)))) vs B ∧ pre x y z t w ∧ ∀ v r B2 H2, Up B H B2 H2 → R x y z t w r → Rep.at_ K B2 v r → Q v H2
theorem Fn5R.len {pre : α → β → γ → δ → ε → Prop} {R : α → β → γ → δ → ε → ζ → Prop} (vs : List V) (H : Hp) (Q : VK) (E : XK) (h : Fn5R K pre R vs H Q E) : vs.length = 5 := by
  obtain ⟨x, y, z, t, w, B, e, ⟨v, r, rfl, h1, v2, r2, rfl, h2, v3, r3, rfl, h3, v4, r4, rfl, h4, v5, r5, rfl, h5, rfl⟩, _⟩ := h
  rfl
theorem a_5 {x : α} {y : β} {z : γ} {t : δ} {w : ε} (h : Pe K ta σ B x) (h2 : Pe K tb σ B y) (h3 : Pe K tc σ B z) (h4 : Pe K td σ B t) (h5 : Pe K tf σ B w) : Pa (tCons ta (tCons tb (tCons tc (tCons td (tCons tf tNil))))) σ B (RCons K x (RCons K y (RCons K z (RCons K t (RCons K w RNil))))) := a_cons h fun _ e => a_4 (h2.mono e) (h3.mono e) (h4.mono e) (h5.mono e)
theorem e_call5R {pre : α → β → γ → δ → ε → Prop} {R : α → β → γ → δ → ε → ζ → Prop} {x : α} {y : β} {z : γ} {t : δ} {w : ε} (h : Pe K ta σ B x) (h2 : Pe K tb σ B y) (h3 : Pe K tc σ B z) (h4 : Pe K td σ B t) (h5 : Pe K tf σ B w) (hp : pre x y z t w) : Pq K (tCall (Fn5R K pre R) [] E (tCons ta (tCons tb (tCons tc (tCons td (tCons tf tNil)))))) σ B (R x y z t w) := fun H e Q q => a_5 h h2 h3 h4 h5 H e _ fun vs B1 H1 u hv => by
  rw [List.append_nil]
  exact ⟨x, y, z, t, w, B1, u.bh, hv, hp, fun v r B2 H2 u2 r2 h2 => q v r B2 H2 (u.trans u2) r2 h2⟩
theorem Fn5R.st {pre : α → β → γ → δ → ε → Prop} {R : α → β → γ → δ → ε → ζ → Prop} (h : Fn5R K pre R vs H Q E) (N : List Str) : ∃ x y z t w B, pre x y z t w ∧ St K [] B H [] ([ce x, ce y, ce z, ce t, ce w] ++ List.replicate (N.length - 5) none) (start N vs) B H ∧ ∀ v r B2 H2, Up B H B2 H2 → R x y z t w r → Rep.at_ K B2 v r → Q v H2 := by
  obtain ⟨x, y, z, t, w, B, e, ⟨v, _, rfl, h1, v2, _, rfl, h2, v3, _, rfl, h3, v4, _, rfl, h4, v5, _, rfl, h5, rfl⟩, hp, q⟩ := h
  exact ⟨x, y, z, t, w, B, hp, St.pure e (start_slots [v, v2, v3, v4, v5] [ce x, ce y, ce z, ce t, ce w] _ (.cons (At1.some h1) (.cons (At1.some h2) (.cons (At1.some h3) (.cons (At1.some h4) (.cons (At1.some h5) .nil)))))), q⟩
theorem e_isNq {R : Mb (List Str) → Prop} {b : Bool} (h : Pq K te σ B R) (k : ∀ m, R m → m.o.isNone = b) : Pe K (tOp rIsN te (tC .non)) σ B b := fun H e Q q => h H e _ fun v m B1 H1 u hr hv => by
  have hk := k m hr
  obtain ⟨o⟩ := m
  cases o with
  | none =>
    cases (show v = .non from hv)
    unfold rIsN
    exact ⟨rfl, q _ B1 H1 u (at_bl.mpr (by rw [← hk]; rfl))⟩
  | some t =>
    obtain ⟨a, vs, rfl, _⟩ := at_list.mp (show Rep.at_ K B1 v t from hv)
    unfold rIsN
    exact ⟨rfl, q _ B1 H1 u (at_bl.mpr (by rw [← hk]; rfl))⟩
end
section
variable {K : PySem.W.Frag} {W0 : List Addr} {B0 H0 : Hp} {os : List OC} {Γ : List (Option Cell)} {σ : L2.St} {B H : Hp} {ta : TE} {D : Ends} {tz : TS}
/-- name, other = a thing, [] -/
theorem St.parN {α β : Type} [Rep α] [Rep β] {i j : Nat} {x : α} (s : St K W0 B0 H0 os Γ σ B H) (h : Pe K ta σ B x) (k : ∀ l σ1 B1 H1, St K W0 B0 H0 (os ++ [lstC K l ([] : List β)]) (cs (cs Γ i (ce x)) j (ca l)) σ1 B1 H1 → tz D σ1 H1) : tSeq (tPar i j (tCons ta (tCons (tLst tNil) tNil))) tz D σ H :=
  h H s.bh _ fun v B1 H1 u hv => ⟨Nat.zero_le _, fun p hp => ⟨v, .ref p, rfl, by
    have s1 : St K W0 B0 H0 (os ++ [lstC K p ([] : List β)]) Γ σ B1 (upd H1 p (.lst [])) := (s.up u).add (ob := .lst []) hp (lstC K p ([] : List β)) rfl ⟨[], rfl, .nil⟩
    exact k p _ B1 _ ((s1.put i hv).put (x := Any.mk (.ref p)) j rfl)⟩⟩
end
/-! plain -/
theorem ins_sub {rv : Str → List Str} {P lit : List Str} {o x : Str} (h : x ∈ insO rv P lit o) : x ∈ P := (mem_insO.mp h).1
theorem way_congr {rv rv' : Str → List Str} {P lit : List Str} {s o : Str} (h : ∀ y ∈ P, rv y = rv' y) (ho : o ∈ P) : WayR rv P lit s o ↔ WayR rv' P lit s o := by
  have e : insO rv P lit o = insO rv' P lit o := by
    unfold insO barO
    rw [h o ho]
  unfold WayR
  rw [e]
  have k1 : ∀ y ∈ insO rv' P lit o, rv y = rv' y := fun y hy => h y (mem_insO.mp hy).1
  exact ⟨fun ⟨hs, e, he, hr⟩ => ⟨hs, e, he, reach_congr k1 hs hr⟩, fun ⟨hs, e, he, hr⟩ => ⟨hs, e, he, reach_congr (fun y hy => (k1 y hy).symm) hs hr⟩⟩
theorem stay_congr {rv rv' : Str → List Str} {P lit : List Str} (h : ∀ y ∈ P, rv y = rv' y) (S : StayO rv P lit) : StayO rv' P lit where
  sub := S.sub
  free x hx y hy := by rw [← h x (S.sub x hx)]; exact S.free x hx y hy
  hit x hx := by
    obtain ⟨e, he, hr⟩ := S.hit x hx
    exact ⟨e, he, reach_congr h hx hr⟩
noncomputable def sureB (rv : Str → List Str) (P lit : List Str) (a b : Str) : Bool := @decide (¬ WayR rv P lit a b) (Classical.propDecidable _)
theorem sureB_iff {rv : Str → List Str} {P lit : List Str} {a b : Str} : sureB rv P lit a b = true ↔ ¬ WayR rv P lit a b := by
  unfold sureB
  exact @decide_eq_true_iff _ (Classical.propDecidable _)
noncomputable def sureL (rv : Str → List Str) (P lit : List Str) : List (Str × Str) := (sortD P).flatMap fun a => ((sortD P).filter fun b => !decide (a = b) && sureB rv P lit a b).map fun b => (a, b)
theorem mem_sureL {rv : Str → List Str} {P lit : List Str} {a b : Str} : (a, b) ∈ sureL rv P lit ↔ (a ∈ P ∧ b ∈ P) ∧ a ≠ b ∧ ¬ WayR rv P lit a b := by
  unfold sureL
  rw [List.mem_flatMap]
  constructor
  · rintro ⟨x, hx, h⟩
    obtain ⟨y, hy, e⟩ := List.mem_map.mp h
    cases e
    rw [List.mem_filter, Bool.and_eq_true, Bool.not_eq_true', decide_eq_false_iff_not, sureB_iff, mem_sortD] at hy
    exact ⟨⟨mem_sortD.mp hx, hy.1⟩, hy.2⟩
  · rintro ⟨⟨h1, h2⟩, h3, h4⟩
    refine ⟨a, mem_sortD.mpr h1, List.mem_map.mpr ⟨b, ?_, rfl⟩⟩
    rw [List.mem_filter, Bool.and_eq_true, Bool.not_eq_true', decide_eq_false_iff_not, sureB_iff, mem_sortD]
    exact ⟨h2, h3, h4⟩
section
variable {K : PySem.W.Frag}
def WayPre5 (d : Dic (List Str)) (P L : Sq Str) (_ o : Str) : Prop := (TabGood d P.items ∧ L.items.Nodup ∧ ∀ x ∈ L.items, x ∈ P.items) ∧ o ∈ P.items
abbrev sp_way_round (K : PySem.W.Frag) : Sp := Fn5R K WayPre5 fun d P L s o (m : Mb (List Str)) => PathR (look d) (insO (look d) P.items L.items o) (endsO L.items o) s m.o
def N_way_round : List Str := ["rivals", "pressed", "lit", "one", "other", "barred", "inside", "switch"]
def t_way_round (K : PySem.W.Frag) : TS :=
  (tSeq (tAsg (tOp (rAddU K) (tLst (tCons (tVar 4) tNil)) (tIf (tTest (tOp (rInU K false) (tVar 4) (tVar 2))) (tOp (rIxU K) (tVar 0) (tVar 4)) (tLst tNil))) (gName 5))
    (tSeq (tAsg (tLc (iSeq K (tVar 1)) (gName 7) (tTest (tOp (rInU K true) (tVar 7) (tVar 5))) (tVar 7) [7]) (gName 6))
    (tRet (tCall (sp_path_to K) [] E0 (tCons (tVar 0) (tCons (tVar 6) (tCons (tVar 3) (tCons (tLc (iSeq K (tVar 2)) (gName 7) (tTest (tOp (rNeP K) (tVar 7) (tVar 4))) (tVar 7) [7]) tNil))))))))
theorem l_way_round (vs : List V) (H : Hp) (Q : VK) (E : XK) (h : sp_way_round K vs H Q E) : vs.length = 5 := Fn5R.len vs H Q E h
theorem r_way_round (vs : List V) (H : Hp) (Q : VK) (E : XK) (h : sp_way_round K vs H Q E) : t_way_round K (Ends.ret Q) (start N_way_round vs) H := by
  obtain ⟨d, ⟨P⟩, ⟨L⟩, st, o, B, ⟨⟨tg, lnd, lsub⟩, ho⟩, s, q⟩ := Fn5R.st h N_way_round
  have tg' : TabGood d P := tg
  have lnd' : L.Nodup := lnd
  have lsub' : ∀ x ∈ L, x ∈ P := lsub
  have ho' : o ∈ P := ho
  have hPl : P.length ≤ 1000 := tg'.2.1
  have hLl : L.length ≤ 1000 := Nat.le_trans (lnd'.length_le_of_subset lsub') hPl
  have hk := tg'.2.2 o ho'
  replace s : St K [] B H [] [ce d, ce (Sq.mk P), ce (Sq.mk L), ce st, ce o, none, none, none] _ B H := s
  refine s.set (x := barO (look d) L o) (e_addL (e_lst1 (s.v (x := o) 4 rfl)) (e_if (b := ngb false (decide (o ∈ L))) (t_test (e_inSq (s.v (x := o) 4 rfl) (s.v (x := Sq.mk L) 2 rfl) false)) (fun hb => (e_ixD (s.v (x := d) 0 rfl) (s.v (x := o) 4 rfl) (look_of hk.1)).is (by rw [if_pos hb])) fun hb => (e_lst0 (α := Str)).is (by rw [if_neg (by rw [hb]; decide)])) (by
    have := hk.2.2
    split <;> simp <;> omega)) fun σ1 B1 H1 s1 => ?_
  replace s1 : St K [] B H [] [ce d, ce (Sq.mk P), ce (Sq.mk L), ce st, ce o, ce (barO (look d) L o), none, none] σ1 B1 H1 := s1
  refine s1.set (x := insO (look d) P L o) (s1.sl.lcF (j := 7) (fun x => ngb true (decide (x ∈ barO (look d) L o))) (it_sq (s1.v (x := Sq.mk P) 1 rfl)) (by omega) fun z _ σ4 B4 b4 s4 => ⟨t_test (e_inL (s4.v (x := z) 7 rfl) (s4.v (x := barO (look d) L o) 5 rfl) true), rfl⟩) fun σ2 B2 H2 s2 => ?_
  replace s2 : St K [] B H [] [ce d, ce (Sq.mk P), ce (Sq.mk L), ce st, ce o, ce (barO (look d) L o), ce (insO (look d) P L o), none] σ2 B2 H2 := s2
  have hil : (insO (look d) P L o).length ≤ P.length := List.length_filter_le _ _
  have hel : (endsO L o).length ≤ L.length := List.length_filter_le _ _
  exact (e_call4R (x := d) (y := insO (look d) P L o) (z := st) (t := endsO L o) (pre := fun (d : Dic (List Str)) (ins : List Str) (_ : Str) (es : List Str) => ins.length ≤ 1000 ∧ es.length ≤ 1000 ∧ ∀ x ∈ ins, (d.kvs.lookup x).isSome = true ∧ (look d x).length ≤ 1000) (R := fun d ins st es (m : Mb (List Str)) => PathR (look d) ins es st m.o) (s2.v 0 rfl) (s2.v 6 rfl) (s2.v 3 rfl) (s2.sl.lcF (j := 7) (fun x => !decide (x = o)) (it_sq (s2.v (x := Sq.mk L) 2 rfl)) (by omega) fun z _ σ4 B4 b4 s4 => ⟨t_test (e_ne (s4.v (x := z) 7 rfl) (s4.v (x := o) 4 rfl)), rfl⟩) ⟨by omega, by omega, fun x hx => by
    have := tg'.2.2 x (ins_sub hx)
    exact ⟨this.1, this.2.2⟩⟩) H2 s2.bh _ fun v m B3 H3 u hr hv => q v m B3 H3 (s2.up u).toUp hr hv
theorem path_sure {rv : Str → List Str} {P lit : List Str} {s o : Str} {m : Option (List Str)} (h : PathR rv (insO rv P lit o) (endsO lit o) s m) : m.isNone = sureB rv P lit s o := by
  rw [Bool.eq_iff_iff, sureB_iff]
  cases m with
  | none => exact ⟨fun _ => h, fun _ => rfl⟩
  | some w => exact ⟨fun z => (by cases z), fun z => absurd h.2 z⟩
def SurePre (p : Pan) (P L : Sq Str) : Prop := (PanN p ∧ P.items.Nodup ∧ ∀ x ∈ P.items, x ∈ p.sw) ∧ L.items.Nodup ∧ StayO (rvs p) P.items L.items
theorem SurePre.can {p : Pan} {P L : List Str} (h : SurePre p (Sq.mk P) (Sq.mk L)) : CanPre (tab p) (Sq.mk P) (Sq.mk L) := by
  obtain ⟨⟨ok, nd, sub⟩, lnd, S⟩ := h
  exact ⟨(tabGood_sub ok nd sub).1, lnd, stay_congr (fun y hy => (look_rvs sub y hy).symm) S⟩
abbrev sp_surely_before (K : PySem.W.Frag) : Sp := Fn3 K SurePre fun p P L => sureL (rvs p) P.items L.items
def N_surely_before : List Str := ["panel", "pressed", "on", "rivals", "found", "one", "other"]
def t_surely_before (K : PySem.W.Frag) : TS :=
  (tSeq (tDrop (tCall (sp_look_pressed K) [] E0 (tCons (tVar 0) (tCons (tVar 1) (tCons (tVar 2) tNil)))))
    (tSeq (tPar 3 4 (tCons (tCall (sp_rival_table K) [] E0 (tCons (tVar 0) tNil)) (tCons (tLst tNil) tNil)))
    (tSeq (tDrop (tCall (sp_look_order K) [] E0 (tCons (tVar 3) (tCons (tVar 1) (tCons (tVar 2) tNil)))))
    (tSeq (tFor (iSeq K (tCB (rSortU K) (tCons (tVar 1) tNil))) (gName 5) (tFor (iSeq K (tCB (rSortU K) (tCons (tVar 1) tNil))) (gName 6) (tIfS (tAnd (tTest (tOp (rNeP K) (tVar 5) (tVar 6))) (tTest (tOp (rIsN) (tCall (sp_way_round K) [] E0 (tCons (tVar 3) (tCons (tVar 1) (tCons (tVar 2) (tCons (tVar 5) (tCons (tVar 6) tNil)))))) (tC .non)))) (tDrop (tBM K "list" (rAppend) (tVar 4) (tCons (tTup (tCons (tVar 5) (tCons (tVar 6) tNil))) tNil))) tNext)))
    (tRet (tVar 4))))))
theorem l_surely_before (vs : List V) (H : Hp) (Q : VK) (E : XK) (h : sp_surely_before K vs H Q E) : vs.length = 3 := Fn3.len vs H Q E h
theorem r_surely_before (vs : List V) (H : Hp) (Q : VK) (E : XK) (h : sp_surely_before K vs H Q E) : t_surely_before K (Ends.ret Q) (start N_surely_before vs) H := by
  obtain ⟨p, ⟨P⟩, ⟨L⟩, B, hp, s, q⟩ := Fn3.st h N_surely_before
  have hcan := SurePre.can hp
  obtain ⟨⟨ok, nd, sub⟩, lnd, S⟩ := id hp
  have nd' : P.Nodup := nd
  have sub' : ∀ x ∈ P, x ∈ p.sw := sub
  have lnd' : L.Nodup := lnd
  have S' : StayO (rvs p) P L := S
  have hlook : ∀ y ∈ P, look (tab p) y = rvs p y := look_rvs sub'
  have hPl : P.length ≤ 60 := by
    have := nd'.length_le_of_subset sub'
    have := ok.1.s1
    omega
  have hLl : L.length ≤ 60 := Nat.le_trans (lnd'.length_le_of_subset S'.sub) hPl
  obtain ⟨sb, hsb⟩ : ∃ sb : Str → Str → Bool, ∀ a b, sureB (rvs p) P L a b = sb a b := ⟨_, fun _ _ => rfl⟩
  obtain ⟨g, hg⟩ : ∃ g : Str → List Str → List (Str × Str), ∀ a bs, g a bs = (bs.filter fun b => !decide (a = b) && sb a b).map fun b => (a, b) := ⟨_, fun _ _ => rfl⟩
  have hres : sureL (rvs p) P L = (sortD P).flatMap fun a => g a (sortD P) := by
    unfold sureL
    simp only [hsb, hg]
  have hgl : ∀ a bs, (g a bs).length ≤ bs.length := fun a bs => by
    rw [hg, List.length_map]
    exact List.length_filter_le _ _
  have q' : ∀ v B2 H2, Up B H B2 H2 → Rep.at_ K B2 v ((sortD P).flatMap fun a => g a (sortD P)) → Q v H2 := by rw [← hres]; exact q
  replace s : St K [] B H [] [ce p, ce (Sq.mk P), ce (Sq.mk L), none, none, none, none] _ B H := s
  refine s.drop (x := ()) (e_call3 (x := p) (y := Sq.mk P) (z := Sq.mk L) (f := fun _ _ _ => ()) (s.v 0 rfl) (s.v 1 rfl) (s.v 2 rfl) ⟨sub', fun x hx => sub' x (S'.sub x hx), by show P.length ≤ 1000; omega, by show L.length ≤ 1000; omega⟩) fun B1 H1 s1 => ?_
  refine s1.parN (β := Str × Str) (x := tab p) (e_call1 (s1.v (x := p) 0 rfl) ok.1.toPanOk) fun l σ2 B2 H2 s2 => ?_
  replace s2 : St K [] B H [lstC K l ([] : List (Str × Str))] [ce p, ce (Sq.mk P), ce (Sq.mk L), ce (tab p), ca l, none, none] σ2 B2 H2 := s2
  refine s2.drop (x := ()) (e_call3 (x := tab p) (y := Sq.mk P) (z := Sq.mk L) (pre := CanPre) (f := fun _ _ _ => ()) (s2.v 3 rfl) (s2.v 1 rfl) (s2.v 2 rfl) hcan) fun B3 H3 s3 => ?_
  have hsl : (sortD P).length ≤ 60 := by rw [sortD_len]; exact hPl
  have hfl : ∀ done : List Str, done.length ≤ 60 → (done.flatMap fun a => g a (sortD P)).length ≤ 60 * done.length := by
    intro done
    induction done with
    | nil => intro _; simp
    | cons a done ih =>
      intro h
      rw [List.length_cons] at h
      have h1 := ih (by omega)
      have h2 := hgl a (sortD P)
      rw [List.flatMap_cons, List.length_append, List.length_cons]
      omega
  refine s3.qforG (δ := Unit) (it_seqL (xs := sortD P) (e_sortSq (s3.v (x := Sq.mk P) 1 rfl) (sortable_str _))) (fun done _ => [lstC K l (done.flatMap fun a => g a (sortD P))]) (fun _ _ => [ce p, ce (Sq.mk P), ce (Sq.mk L), ce (tab p), ca l, none, none]) (fun _ _ => True) ⟨(), trivial, fun _ _ s4 => s4⟩ (fun done a rest _ ex _ v σ' B' H' N hN s4 hv => ?_) fun _ _ σ' B' H' s4 => ?_
  · have hdl := congrArg List.length ex
    rw [List.length_append, List.length_cons] at hdl
    have haP : a ∈ P := mem_sortD.mp (by rw [ex]; simp)
    have hf1 := hfl done (by omega)
    have s5 := s4.here.put 5 hv
    replace s5 : St K [l] B' H' [lstC K l (done.flatMap fun a => g a (sortD P))] [ce p, ce (Sq.mk P), ce (Sq.mk L), ce (tab p), ca l, ce a, none] _ B' H' := s5
    refine s5.forG (δ := Unit) (it_seqL (xs := sortD P) (e_sortSq (s5.v (x := Sq.mk P) 1 rfl) (sortable_str _))) (fun done2 _ => [lstC K l ((done.flatMap fun a => g a (sortD P)) ++ g a done2)]) (fun _ _ => [ce p, ce (Sq.mk P), ce (Sq.mk L), ce (tab p), ca l, ce a, none]) (fun _ _ => True) ⟨(), trivial, fun _ _ s6 => by rw [hg, List.filter_nil, List.map_nil, List.append_nil]; exact s6⟩ (fun done2 b rest2 _ ex2 _ v2 σ2 B2 H2 N2 hN2 s6 hv2 => ?_) fun _ _ σ2 B2 H2 s6 => ?_
    · have hdl2 := congrArg List.length ex2
      rw [List.length_append, List.length_cons] at hdl2
      have hbP : b ∈ P := mem_sortD.mp (by rw [ex2]; simp)
      have hg2 := hgl a done2
      have s7 := s6.here.put 6 hv2
      replace s7 : St K [l] B2 H2 [lstC K l ((done.flatMap fun a => g a (sortD P)) ++ g a done2)] [ce p, ce (Sq.mk P), ce (Sq.mk L), ce (tab p), ca l, ce a, ce b] _ B2 H2 := s7
      have hsn : g a (done2 ++ [b]) = g a done2 ++ if (!decide (a = b) && sb a b) = true then [(a, b)] else [] := by
        rw [hg, hg, List.filter_append, List.map_append, List.filter_cons, List.filter_nil]
        split <;> rfl
      refine s7.iteL (b := !decide (a = b) && sb a b) (t_and (t_test (e_ne (s7.v (x := a) 5 rfl) (s7.v (x := b) 6 rfl))) fun _ => t_test (e_isNq (e_call5R (x := tab p) (y := Sq.mk P) (z := Sq.mk L) (t := a) (w := b) (pre := WayPre5) (R := fun d P L s o (m : Mb (List Str)) => PathR (look d) (insO (look d) P.items L.items o) (endsO L.items o) s m.o) (s7.v 3 rfl) (s7.v 1 rfl) (s7.v 2 rfl) (s7.v 5 rfl) (s7.v 6 rfl) ⟨⟨hcan.1, lnd', S'.sub⟩, hbP⟩) fun m hm => by
        rw [path_sure hm, ← hsb, Bool.eq_iff_iff, sureB_iff, sureB_iff]
        exact not_congr (way_congr hlook hbP))) (fun hb B8 H8 s8 => ?_) fun hb B8 H8 s8 => ?_
      · refine s8.app (i := 4) (k := 0) (l := l) (x := (a, b)) rfl rfl (e_pair (s8.v (x := a) 5 rfl) (s8.v (x := b) 6 rfl)) (by rw [List.length_append]; omega) fun B9 H9 s9 => hN2 () (B3 := B9) trivial ?_
        rw [hsn, if_pos hb, ← List.append_assoc]
        exact s9.fg [6]
      · refine hN2 () (B3 := B8) trivial ?_
        rw [hsn, if_neg (by rw [hb]; decide), List.append_nil]
        exact s8.fg [6]
    · refine hN () (B3 := B2) trivial ?_
      rw [List.flatMap_append, List.flatMap_cons, List.flatMap_nil, List.append_nil]
      exact s6.fg [5]
  · obtain ⟨B5, b5, s5⟩ := s4.frz (i := 4) (k := 0) (l := l) (xs := (sortD P).flatMap fun a => g a (sortD P)) rfl rfl (fun hm => by cases hm)
    replace s5 : St K [] B H [] [ce p, ce (Sq.mk P), ce (Sq.mk L), ce (tab p), ce ((sortD P).flatMap fun a => g a (sortD P)), none, none] σ' B5 H' := s5
    exact St.ret (x := (sortD P).flatMap fun a => g a (sortD P)) s5 (s5.v 4 rfl) fun v B6 H6 s6 hv => q' v B6 H6 s6.toUp hv
end
end Ob

set_option Elab.async false
set_option linter.all false
set_option maxRecDepth 100000
set_option maxHeartbeats 4000000
/-! Y4: laid_round. -/
namespace Ob
open PySem L2
open Evl (Ex)
open PySem.W (Datum Tup DatumOrd)
section
variable {α β γ δ ε ζ : Type} [Rep α] [Rep β] [Rep γ] [Rep δ] [Rep ε] [Rep ζ] {K : PySem.W.Frag} {vs : List V} {Q : VK} {E : XK} {σ : L2.St} {B H : Hp} {ta tb tc td tf te : TE} {qn : Str} {Pt : Addr}
def FnT5R (K : PySem.W.Frag) (qn : Str) (Pt : Addr) (pre : α → β → γ → δ → ε → Prop) (R : α → β → γ → δ → ε → ζ → Prop) : Sp := fun vs H Q _ => ∃ x y z t w B, Ex B H ∧ LtAt qn B H Pt ∧ RCons K x (RCons K y (RCons K z (RCons K t (RCons K w RNil)))) vs B ∧ pre x y z t w ∧ ∀ v r B2 H2, Ub Pt B H B2 H2 → LtAt qn B2 H2 Pt → R x y z t w r → Rep.at_ K B2 v r → Q v H2
theorem FnT5R.len {pre : α → β → γ → δ → ε → Prop} {R : α → β → γ → δ → ε → ζ → Prop} (vs : List V) (H : Hp) (Q : VK) (E : XK) (h : FnT5R K qn Pt pre R vs H Q E) : vs.length = 5 := by
  obtain ⟨x, y, z, t, w, B, e, _, ⟨v, r, rfl, h1, v2, r2, rfl, h2, v3, r3, rfl, h3, v4, r4, rfl, h4, v5, r5, rfl, h5, rfl⟩, _⟩ := h
  rfl
theorem FnT5R.st {pre : α → β → γ → δ → ε → Prop} {R : α → β → γ → δ → ε → ζ → Prop} (h : FnT5R K qn Pt pre R vs H Q E) (N : List Str) : ∃ x y z t w B, pre x y z t w ∧ St K [Pt] B H [tabC qn Pt] ([ce x, ce y, ce z, ce t, ce w] ++ List.replicate (N.length - 5) none) (start N vs) B H ∧ ∀ v r B2 H2, Ub Pt B H B2 H2 → LtAt qn B2 H2 Pt → R x y z t w r → Rep.at_ K B2 v r → Q v H2 := by
  obtain ⟨x, y, z, t, w, B, e, tb, ⟨v, _, rfl, h1, v2, _, rfl, h2, v3, _, rfl, h3, v4, _, rfl, h4, v5, _, rfl, h5, rfl⟩, hp, q⟩ := h
  exact ⟨x, y, z, t, w, B, hp, St.startT e tb (start_slots [v, v2, v3, v4, v5] [ce x, ce y, ce z, ce t, ce w] _ (.cons (At1.some h1) (.cons (At1.some h2) (.cons (At1.some h3) (.cons (At1.some h4) (.cons (At1.some h5) .nil)))))), q⟩
theorem eT_call5 {pre : α → β → γ → δ → ε → Prop} {R : α → β → γ → δ → ε → ζ → Prop} {x : α} {y : β} {z : γ} {t : δ} {w : ε} (h : Pe K ta σ B x) (h2 : Pe K tb σ B y) (h3 : Pe K tc σ B z) (h4 : Pe K td σ B t) (h5 : Pe K tf σ B w) (hp : pre x y z t w) : PqT K qn Pt (tCall (FnT5R K qn Pt pre R) [] E (tCons ta (tCons tb (tCons tc (tCons td (tCons tf tNil)))))) σ B (R x y z t w) := fun H e tb Q k => a_5 h h2 h3 h4 h5 H e _ fun vs B1 H1 u hv => by
  rw [List.append_nil]
  have t1 := tb.up u
  exact ⟨x, y, z, t, w, B1, u.bh, t1, hv, hp, fun v r B2 H2 u2 t2 r2 h2 => k v r B2 H2 (u.ub.trans t1.ne u2) t2 r2 h2⟩
end
section
variable {K : PySem.W.Frag} {W0 : List Addr} {B0 H0 : Hp} {os : List OC} {Γ : List (Option Cell)} {σ : L2.St} {B H : Hp} {te : TE} {tt : TT} {D : Ends} {tz : TS} {qn : Str} {P0 : Addr}
/-- name = sorted(xs, key=lambda x: (-far[x], x)), a list that may change -/
theorem St.sortN {i j k : Nat} {xs : List Str} {d : Dic Int} {g : Str → Int} (s : St K W0 B0 H0 os Γ σ B H) (ht : os[k]? = some (tabC qn P0)) (h : Pe K te σ B xs) (hi : cg Γ i = ce d) (hz : xs.length ≤ 1000000) (hg : ∀ x ∈ xs, d.kvs.lookup x = some (g x))
    (c : ∀ l σ1 B1 H1, St K W0 B0 H0 (os ++ [lstC K l (sortKey g xs)]) (cs Γ j (ca l)) σ1 B1 H1 → tz D σ1 H1) : tSeq (tAsg (tSortLam K qn P0 te i) (gName j)) tz D σ H :=
  h H s.bh _ fun v B1 H1 u hv => by
    have s1 := s.up u
    obtain ⟨a, vs, rfl, hs, hx⟩ := at_list.mp hv
    obtain ⟨w, hw, b, ks, rfl, hr, _, hd⟩ := s1.sl.get hi
    refine ⟨B1, a, b, xs, g, ks, rfl, by rw [← atAll_strs hx]; exact Evl.ex_l s1.bh hs, hz, hw, Evl.ex_rd s1.bh hr, fun x hx => ?_, s1.bh, s1.tab ht, fun B2 H2 p u2 t2 hp => ?_⟩
    · rw [dic_kvI hd, valV_kvI, hg x hx]
      rfl
    · have s2 := s1.ubT ht u2 t2
      exact c p _ _ _ (St.put (x := Any.mk (.ref p)) (s2.add (ob := .lst ((sortKey g xs).map V.str)) hp (lstC K p (sortKey g xs)) rfl ⟨_, rfl, strs_atAll _⟩) j rfl)
/-- name += [.. for ..] -/
theorem St.ext {γ β : Type} [Rep γ] [DecidableEq β] [Datum β] {wi : TI} {g : TG} {ns : List Nat} {xs : List γ} {i k : Nat} {l : Addr} {ys : List β} (f : γ → Bool) (y : γ → β) (s : St K W0 B0 H0 os Γ σ B H) (h : os[k]? = some (lstC K l ys)) (hi : cg Γ i = ca l) (hI : ItD K wi σ B xs) (hz : xs.length + ys.length ≤ 1000000)
    (ht : ∀ x ∈ xs, ∀ v B1, Ex B B1 → Rep.at_ K B1 v x → TurnD K g tt te ns σ B1 v (f x) (y x))
    (q : ∀ σ1 B1 H1, St K W0 B0 H0 (os.set k (lstC K l (ys ++ (xs.filter f).map y))) (cs Γ i (ca l)) σ1 B1 H1 → tz D σ1 H1) : tSeq (tAug i (tLc wi g tt te ns) rExt2) tz D σ H :=
  ⟨_, s.sl.rf i hi, lcU (Q := fun y H1 => rExt2 (.ref l) y H1 fun z H2 => tz D (σ.set i (some z)) H2) f y hI s.bh (by omega) ht fun D' ws B1 H1 u hD0 hDH hD hA => by
    have s1 := s.up u
    obtain ⟨_, vs, hl, hAl⟩ := s1.lst h
    refine ⟨l, D', vs, ws, rfl, rfl, hl, hD, ?_, ?_⟩
    · have h1 := hA.length
      rw [List.length_map] at h1
      have h2 := List.length_filter_le f xs
      rw [hAl.length, h1]
      exact Nat.le_trans (show ys.length + (xs.filter f).length ≤ 1000000 by omega) (by rw [sizeLine_eq]; decide)
    · exact q _ B1 _ (St.put (x := Any.mk (.ref l)) (s1.chg (o' := lstC K l (ys ++ (xs.filter f).map y)) (ob := .lst (vs ++ ws)) h rfl ⟨vs ++ ws, rfl, hAl.append hA⟩) i rfl)⟩
theorem Slots.lt (s : Slots K B σ Γ) {γ : Type} [Rep γ] {x : γ} {v : V} {B1 : Hp} {j : Nat} {β : Type} [Rep β] {b : Bool} {r : β} (b1 : Ex B B1) (hv : Rep.at_ K B1 v x) (ht : ∀ σ2, Slots K B1 σ2 (cs (cw Γ [j]) j (ce x)) → Pt tt σ2 B1 b ∧ (b = true → Pe K te σ2 B1 r)) : TurnD K (gName j) tt te [j] σ B1 v b r := by
  obtain ⟨h1, h2⟩ := ht _ ((s.mono b1).turn (j := j) hv)
  exact turn_name rfl (by rw [set_none_comm (List.mem_singleton.mpr rfl), wipe_wipe]) h1 h2
end
theorem dist_far {rv : Str → List Str} {sw ends : List Str} {d : List (Str × Int)} (C : DistC rv sw ends d) (hr : ∀ z ∈ sw, ∃ o ∈ ends, Reach rv sw o z) : ∃ far : Str → Int, (∀ z ∈ sw, d.lookup z = some (far z)) ∧ (∀ z ∈ sw, 0 ≤ far z) ∧ (∀ z ∈ sw, far z = 0 ↔ z ∈ ends) ∧ ∀ z ∈ sw, 0 < far z → ∃ o ∈ sw, z ∈ rv o ∧ far o < far z := by
  have hk : ∀ z ∈ sw, z ∈ d.map (·.1) := fun z hz => by
    obtain ⟨o, ho, hro⟩ := hr z hz
    exact dist_all C ho hro
  have hf : ∀ z ∈ sw, d.lookup z = some ((d.lookup z).getD 0) ∧ (z, (d.lookup z).getD 0) ∈ d := fun z hz => by
    obtain ⟨n, h1, h2⟩ := lookup_in (hk z hz)
    rw [h1]
    exact ⟨rfl, h2⟩
  have uq : ∀ p ∈ d, p.1 ∈ sw → p.2 = (d.lookup p.1).getD 0 := fun p hp hs => by
    have h2 := (hf p.1 hs).2
    have nd := C.1.nd
    obtain ⟨i, hi, e1⟩ := List.mem_iff_getElem.mp hp
    obtain ⟨j, hj, e2⟩ := List.mem_iff_getElem.mp h2
    have e : i = j := (List.getElem_inj (h₀ := by rw [List.length_map]; exact hi) (h₁ := by rw [List.length_map]; exact hj) nd).mp (by rw [List.getElem_map, List.getElem_map, e1, e2])
    subst e
    rw [e1] at e2
    exact congrArg (·.2) e2
  refine ⟨fun z => (d.lookup z).getD 0, fun z hz => (hf z hz).1, fun z hz => C.1.pos _ (hf z hz).2, fun z hz => C.1.zero _ (hf z hz).2, fun z hz h0 => ?_⟩
  obtain ⟨o, ho, h1, h2⟩ := C.1.down _ (hf z hz).2 h0
  have hos : o.1 ∈ sw := C.1.sub _ (List.mem_map.mpr ⟨o, ho, rfl⟩)
  refine ⟨o.1, hos, h1, ?_⟩
  show (d.lookup o.1).getD 0 < _
  rw [← uq o ho hos]
  exact h2
def LaidR (rv : Str → List Str) (P lit path : List Str) (o : Str) (hs : List Str) : Prop := ∃ far A, FarO rv P lit path far ∧ A.Perm (P.filter fun x => decide (0 < far x)) ∧ A.Pairwise (fun x y => far y ≤ far x) ∧ hs = laidO A lit path o
def ltL : Str := "laid_round.<locals>.<lambda>"
section
variable {K : PySem.W.Frag} {Pt : Addr}
abbrev sp_laid_round (K : PySem.W.Frag) (Pt : Addr) : Sp := FnT5R K ltL Pt (fun (d : Dic (List Str)) (P : Sq Str) (L path : List Str) (o : Str) => (TabGood d P.items ∧ L.Nodup ∧ (∀ x ∈ L, x ∈ P.items) ∧ path.Nodup ∧ ∀ x ∈ path, x ∈ P.items) ∧ ∀ z ∈ P.items, ∃ e ∈ L, Reach (look d) P.items e z) fun d P L path o hs => LaidR (look d) P.items L path o hs
def N_laid_round : List Str := ["rivals", "pressed", "lit", "path", "other", "far", "found", "switch"]
def t_laid_round (K : PySem.W.Frag) (Pt : Addr) : TS :=
  (tSeq (tAsg (tCall (sp_distances K) [] E0 (tCons (tVar 0) (tCons (tVar 1) (tCons (tOp (rAddU K) (tVar 3) (tLc (iSeq K (tVar 2)) (gName 7) (tTest (tOp (rInU K true) (tVar 7) (tVar 3))) (tVar 7) [7])) tNil)))) (gName 5))
    (tSeq (tAsg (tSortLam K ((("laid_round" : Str) ++ ".<locals>.") ++ "<lambda>") Pt (tLc (iSeq K (tVar 1)) (gName 7) (tTest (tOp (rGtU K) (tOp (rIxU K) (tVar 5) (tVar 7)) (tC (.int 0)))) (tVar 7) [7]) 5) (gName 6))
    (tSeq (tAug 6 (tLc (iSeq K (tVar 2)) (gName 7) (tTest (tOp (rEqP K) (tVar 7) (tVar 4))) (tVar 7) [7]) rExt2)
    (tSeq (tAug 6 (tLc (iSeq K (tVar 3)) (gName 7) (tTest (tOp (rInU K true) (tVar 7) (tVar 2))) (tVar 7) [7]) rExt2)
    (tRet (tOp (rAddU K) (tVar 6) (tCB (rSortU K) (tCons (tLc (iSeq K (tVar 2)) (gName 7) (tTest (tOp (rNeP K) (tVar 7) (tVar 4))) (tVar 7) [7]) tNil))))))))
theorem l_laid_round (vs : List V) (H : Hp) (Q : VK) (E : XK) (h : sp_laid_round K Pt vs H Q E) : vs.length = 5 := FnT5R.len vs H Q E h
theorem r_laid_round (vs : List V) (H : Hp) (Q : VK) (E : XK) (h : sp_laid_round K Pt vs H Q E) : t_laid_round K Pt (Ends.ret Q) (start N_laid_round vs) H := by
  obtain ⟨d, ⟨P⟩, L, path, o, B, ⟨⟨tg, lnd, lsub, pnd, psub⟩, hreach⟩, s, q⟩ := FnT5R.st h N_laid_round
  have tg' : TabGood d P := tg
  have lsub' : ∀ x ∈ L, x ∈ P := lsub
  have psub' : ∀ x ∈ path, x ∈ P := psub
  have hPl : P.length ≤ 1000 := tg'.2.1
  have hLl : L.length ≤ 1000 := Nat.le_trans (lnd.length_le_of_subset lsub') hPl
  have hpl : path.length ≤ 1000 := Nat.le_trans (pnd.length_le_of_subset psub') hPl
  obtain ⟨es, hes⟩ : ∃ es, es = path ++ L.filter fun x => ngb true (decide (x ∈ path)) := ⟨_, rfl⟩
  have hLf := List.length_filter_le (fun x => ngb true (decide (x ∈ path))) L
  have hem : ∀ z, z ∈ es ↔ z ∈ path ∨ z ∈ L := fun z => by
    rw [hes, List.mem_append, List.mem_filter]
    by_cases h : z ∈ path <;> simp [h, ngb]
  have hesn : es.Nodup := by
    rw [hes]
    refine List.nodup_append.mpr ⟨pnd, lnd.filter _, fun a ha b hb e => ?_⟩
    have := (List.mem_filter.mp hb).2
    rw [← e] at this
    simp [ngb, ha] at this
  have hesl : es.length ≤ 1000 := Nat.le_trans (hesn.length_le_of_subset fun z hz => ((hem z).mp hz).elim (psub' z) (lsub' z)) hPl
  replace s : St K [Pt] B H [tabC ltL Pt] [ce d, ce (Sq.mk P), ce L, ce path, ce o, none, none, none] _ B H := s
  refine s.setR (R := fun r : Dic Int => DistC (look d) P es r.kvs) (e_call3R (x := d) (y := Sq.mk P) (z := Sq.mk es) (pre := fun (d : Dic (List Str)) (s e : Sq Str) => TabGood d s.items ∧ (∀ z ∈ e.items, z ∈ s.items) ∧ e.items.length ≤ 1000) (R := fun (d : Dic (List Str)) (s e : Sq Str) (r : Dic Int) => DistC (look d) s.items e.items r.kvs) (s.v 0 rfl) (s.v 1 rfl) (((e_addL (s.v (x := path) 3 rfl) (s.sl.lcF (j := 7) (fun x => ngb true (decide (x ∈ path))) (it_seqL (s.v (x := L) 2 rfl)) (by omega) fun z _ σ4 B4 b4 s4 => ⟨t_test (e_inL (s4.v (x := z) 7 rfl) (s4.v (x := path) 3 rfl) true), rfl⟩) (by omega)).is hes.symm).imp sq_list) ⟨tg', fun z hz => ((hem z).mp hz).elim (psub' z) (lsub' z), hesl⟩) fun r hC σ1 B1 H1 s1 => ?_
  obtain ⟨far, f0, f1, f2, f3⟩ := dist_far hC fun z hz => by
    obtain ⟨e, he, hr⟩ := hreach z hz
    exact ⟨e, (hem e).mpr (.inr he), hr⟩
  replace s1 : St K [Pt] B H [tabC ltL Pt] [ce d, ce (Sq.mk P), ce L, ce path, ce o, ce r, none, none] σ1 B1 H1 := s1
  obtain ⟨F, hF⟩ : ∃ F, F = P.filter fun x => decide (0 < far x) := ⟨_, rfl⟩
  have hFl : F.length ≤ P.length := by rw [hF]; exact List.length_filter_le _ _
  refine s1.sortN (i := 5) (j := 6) (k := 0) (xs := F) (d := r) (g := far) rfl ((s1.sl.lcF (j := 7) (fun x => DatumOrd.lt (0 : Int) (far x)) (it_sq (s1.v (x := Sq.mk P) 1 rfl)) (by omega) fun z hz σ4 B4 b4 s4 => ⟨t_test (e_gt (e_ixD (s4.v (x := r) 5 rfl) (s4.v (x := z) 7 rfl) (f0 z hz)) (e_int (i := 0))), rfl⟩).is hF.symm) rfl (by omega) (fun x hx => f0 x (List.mem_filter.mp (hF ▸ hx)).1) fun l σ2 B2 H2 s2 => ?_
  obtain ⟨A, hA⟩ : ∃ A, A = sortKey far F := ⟨_, rfl⟩
  have hAp : A.Perm F := by rw [hA]; exact sortKey_perm _ _
  have hAl := hAp.length_eq
  rw [← hA] at s2
  replace s2 : St K [Pt] B H [tabC ltL Pt, lstC K l A] [ce d, ce (Sq.mk P), ce L, ce path, ce o, ce r, ca l, none] σ2 B2 H2 := s2
  have hlP : l ≠ Pt := fun z => by
    have := s2.nd
    rw [z] at this
    exact (List.nodup_cons.mp this).1 List.mem_cons_self
  refine s2.ext (i := 6) (k := 1) (l := l) (ys := A) (fun x : Str => decide (x = o)) (fun x => x) rfl rfl (it_seqL (s2.v (x := L) 2 rfl)) (by omega) (fun x hx v B3 b3 hv => s2.sl.lt b3 hv fun σ3 s3 => ⟨t_test (e_eq (s3.v (x := x) 7 rfl) (s3.v (x := o) 4 rfl)), fun _ => s3.v (x := x) 7 rfl⟩) fun σ3 B3 H3 s3 => ?_
  rw [List.map_id'] at s3
  obtain ⟨A2, hA2⟩ : ∃ A2, A2 = A ++ L.filter fun x => decide (x = o) := ⟨_, rfl⟩
  have hA2l : A2.length ≤ 2000 := by
    have := List.length_filter_le (fun x => decide (x = o)) L
    rw [hA2, List.length_append]
    omega
  rw [← hA2] at s3
  replace s3 : St K [Pt] B H [tabC ltL Pt, lstC K l A2] [ce d, ce (Sq.mk P), ce L, ce path, ce o, ce r, ca l, none] σ3 B3 H3 := s3
  refine s3.ext (i := 6) (k := 1) (l := l) (ys := A2) (fun x : Str => ngb true (decide (x ∈ L))) (fun x => x) rfl rfl (it_seqL (s3.v (x := path) 3 rfl)) (by omega) (fun x hx v B4 b4 hv => s3.sl.lt b4 hv fun σ4 s4 => ⟨t_test (e_inL (s4.v (x := x) 7 rfl) (s4.v (x := L) 2 rfl) true), fun _ => s4.v (x := x) 7 rfl⟩) fun σ4 B4 H4 s4 => ?_
  rw [List.map_id'] at s4
  obtain ⟨A3, hA3⟩ : ∃ A3, A3 = A2 ++ path.filter fun x => ngb true (decide (x ∈ L)) := ⟨_, rfl⟩
  have hA3l : A3.length ≤ 3000 := by
    have := List.length_filter_le (fun x => ngb true (decide (x ∈ L))) path
    rw [hA3, List.length_append]
    omega
  rw [← hA3] at s4
  replace s4 : St K [Pt] B H [tabC ltL Pt, lstC K l A3] [ce d, ce (Sq.mk P), ce L, ce path, ce o, ce r, ca l, none] σ4 B4 H4 := s4
  obtain ⟨B5, b5, s5⟩ := s4.frz (i := 6) (k := 1) (l := l) (xs := A3) rfl rfl (fun hm => hlP (List.mem_singleton.mp hm))
  replace s5 : St K [Pt] B H [tabC ltL Pt] [ce d, ce (Sq.mk P), ce L, ce path, ce o, ce r, ce A3, none] σ4 B5 H4 := s5
  have hel : (endsO L o).length ≤ L.length := List.length_filter_le _ _
  refine s5.ret (x := A3 ++ sortD (endsO L o)) (e_addL (s5.v (x := A3) 6 rfl) (e_sortSq ((s5.sl.lcF (j := 7) (fun x => !decide (x = o)) (it_seqL (s5.v (x := L) 2 rfl)) (by omega) fun z _ σ6 B6 b6 s6 => ⟨t_test (e_ne (s6.v (x := z) 7 rfl) (s6.v (x := o) 4 rfl)), rfl⟩).imp sq_list) (sortable_str _)) (by
    have e1 : (sortD (endsO L o)).length = (endsO L o).length := sortD_len _
    show A3.length + (sortD (endsO L o)).length ≤ 1000000
    omega)) fun v B6 H6 s6 hv => q v (A3 ++ sortD (endsO L o)) B6 H6 s6.toUb (s6.tab (k := 0) rfl) ⟨far, A, ⟨f1, fun z hz => (f2 z hz).trans (hem z), f3⟩, hF ▸ hAp, by rw [hA]; exact sortKey_pw _ _, by rw [hA3, hA2]; rfl⟩ hv
end
end Ob

set_option Elab.async false
set_option linter.all false
set_option maxRecDepth 100000
set_option maxHeartbeats 4000000
/-! Y5: counter_order, shows_counter. -/
namespace Ob
open PySem L2
open Evl (Ex)
open PySem.W (Datum Tup DatumOrd)
def CounterR (rv : Str → List Str) (P L : List Str) (s o : Str) : Option (List Str) → Prop
  | none => ¬ WayR rv P L s o
  | some hs => WayR rv P L s o ∧ hs.Perm P ∧ (∀ z, z ∈ leftO rv hs ↔ z ∈ L) ∧ ∃ i j : Nat, hs[i]? = some o ∧ hs[j]? = some s ∧ i < j
theorem ins_congr {rv rv' : Str → List Str} {P lit : List Str} {o : Str} (h : ∀ y ∈ P, rv y = rv' y) (ho : o ∈ P) : insO rv P lit o = insO rv' P lit o := by
  unfold insO barO
  rw [h o ho]
theorem counter_of {rv rv' : Str → List Str} {P L path hs : List Str} {s o : Str} (sym : ∀ x y, y ∈ rv' x ↔ x ∈ rv' y) (S : StayO rv' P L) (h : ∀ y ∈ P, rv y = rv' y) (ho : o ∈ P) (pnd : P.Nodup) (lnd : L.Nodup) (hp : PathR rv (insO rv P L o) (endsO L o) s (some path)) (hl : LaidR rv P L path o hs) : CounterR rv' P L s o (some hs) := by
  obtain ⟨⟨p1, p2, p3, p4⟩, p5, e, he, hr⟩ := hp
  obtain ⟨far, A, F, hA, hpw, rfl⟩ := hl
  have T : PathO rv' P L s o path := ⟨p1, fun x hx => by rw [← ins_congr h ho]; exact p2 x hx, p3, fun i x hx hxl => by
    obtain ⟨y, hy, hyr⟩ := p4 i x hx fun z => hxl (mem_endsO.mp z).1
    exact ⟨y, hy, by rw [← h x (ins_sub (p2 x (List.mem_of_getElem? hx)))]; exact hyr⟩⟩
  have F' : FarO rv' P L path far := ⟨F.pos, F.zero, fun z hz h0 => by
    obtain ⟨w, hw, h1, h2⟩ := F.down z hz h0
    exact ⟨w, hw, by rw [← h w hw]; exact h1, h2⟩⟩
  refine ⟨(way_congr h ho).mp ⟨p5, e, he, hr⟩, ?_, laid_left sym S T F' pnd lnd hA hpw, laid_first S T F' hA ho⟩
  exact (List.perm_ext_iff_of_nodup (laid_nd S T F' pnd lnd hA) pnd).mpr (laid_mem S T F' hA)
section
variable {K : PySem.W.Frag} {Pt : Addr}
abbrev sp_counter_order (K : PySem.W.Frag) (Pt : Addr) : Sp := FnT5R K ltL Pt (fun (p : Pan) (P L : Sq Str) (s o : Str) => SurePre p P L ∧ s ∈ P.items ∧ o ∈ P.items) fun p P L s o (m : Mb (List Str)) => CounterR (rvs p) P.items L.items s o m.o
def N_counter_order : List Str := ["panel", "pressed", "on", "one", "other", "rivals", "path"]
def t_counter_order (K : PySem.W.Frag) (Pt : Addr) : TS :=
  (tSeq (tDrop (tCall (sp_look_pressed K) [] E0 (tCons (tVar 0) (tCons (tVar 1) (tCons (tVar 2) tNil)))))
    (tSeq (tDrop (tCall (sp_look_both K) [] E0 (tCons (tVar 1) (tCons (tVar 3) (tCons (tVar 4) tNil)))))
    (tSeq (tAsg (tCall (sp_rival_table K) [] E0 (tCons (tVar 0) tNil)) (gName 5))
    (tSeq (tDrop (tCall (sp_look_order K) [] E0 (tCons (tVar 5) (tCons (tVar 1) (tCons (tVar 2) tNil)))))
    (tSeq (tAsg (tCall (sp_way_round K) [] E0 (tCons (tVar 5) (tCons (tVar 1) (tCons (tVar 2) (tCons (tVar 3) (tCons (tVar 4) tNil)))))) (gName 6))
    (tRet (tIf (tTest (tOp (rIsN) (tVar 6) (tC .non))) (tC .non) (tCall (sp_laid_round K Pt) [] E0 (tCons (tVar 5) (tCons (tVar 1) (tCons (tCB (rListU K) (tCons (tVar 2) tNil)) (tCons (tVar 6) (tCons (tVar 4) tNil)))))))))))))
theorem l_counter_order (vs : List V) (H : Hp) (Q : VK) (E : XK) (h : sp_counter_order K Pt vs H Q E) : vs.length = 5 := FnT5R.len vs H Q E h
theorem r_counter_order (vs : List V) (H : Hp) (Q : VK) (E : XK) (h : sp_counter_order K Pt vs H Q E) : t_counter_order K Pt (Ends.ret Q) (start N_counter_order vs) H := by
  obtain ⟨p, ⟨P⟩, ⟨L⟩, st, o, B, ⟨hp, hs, ho⟩, s, q⟩ := FnT5R.st h N_counter_order
  have hcan := SurePre.can hp
  obtain ⟨⟨ok, nd, sub⟩, lnd, S⟩ := id hp
  have nd' : P.Nodup := nd
  have sub' : ∀ x ∈ P, x ∈ p.sw := sub
  have lnd' : L.Nodup := lnd
  have S' : StayO (rvs p) P L := S
  have hs' : st ∈ P := hs
  have ho' : o ∈ P := ho
  have sym := rvs_sym' p
  have hlook : ∀ y ∈ P, look (tab p) y = rvs p y := look_rvs sub'
  have hPl : P.length ≤ 60 := by
    have := nd'.length_le_of_subset sub'
    have := ok.1.s1
    omega
  have hLl : L.length ≤ 60 := Nat.le_trans (lnd'.length_le_of_subset S'.sub) hPl
  replace s : St K [Pt] B H [tabC ltL Pt] [ce p, ce (Sq.mk P), ce (Sq.mk L), ce st, ce o, none, none] _ B H := s
  refine s.drop (x := ()) (e_call3 (x := p) (y := Sq.mk P) (z := Sq.mk L) (f := fun _ _ _ => ()) (s.v 0 rfl) (s.v 1 rfl) (s.v 2 rfl) ⟨sub', fun x hx => sub' x (S'.sub x hx), by show P.length ≤ 1000; omega, by show L.length ≤ 1000; omega⟩) fun B1 H1 s1 => ?_
  refine s1.drop (x := ()) (e_call3 (x := Sq.mk P) (y := st) (z := o) (f := fun _ _ _ => ()) (s1.v 1 rfl) (s1.v 3 rfl) (s1.v 4 rfl) ⟨hs, ho⟩) fun B2 H2 s2 => ?_
  refine s2.set (x := tab p) (e_call1 (s2.v (x := p) 0 rfl) ok.1.toPanOk) fun σ3 B3 H3 s3 => ?_
  replace s3 : St K [Pt] B H [tabC ltL Pt] [ce p, ce (Sq.mk P), ce (Sq.mk L), ce st, ce o, ce (tab p), none] σ3 B3 H3 := s3
  refine s3.drop (x := ()) (e_call3 (x := tab p) (y := Sq.mk P) (z := Sq.mk L) (pre := CanPre) (f := fun _ _ _ => ()) (s3.v 5 rfl) (s3.v 1 rfl) (s3.v 2 rfl) hcan) fun B4 H4 s4 => ?_
  refine s4.setR (R := fun m : Mb (List Str) => PathR (look (tab p)) (insO (look (tab p)) P L o) (endsO L o) st m.o) (e_call5R (x := tab p) (y := Sq.mk P) (z := Sq.mk L) (t := st) (w := o) (pre := WayPre5) (R := fun d P L s o (m : Mb (List Str)) => PathR (look d) (insO (look d) P.items L.items o) (endsO L.items o) s m.o) (s4.v 5 rfl) (s4.v 1 rfl) (s4.v 2 rfl) (s4.v 3 rfl) (s4.v 4 rfl) ⟨⟨hcan.1, lnd', S'.sub⟩, ho'⟩) fun m hm σ5 B5 H5 s5 => ?_
  replace s5 : St K [Pt] B H [tabC ltL Pt] [ce p, ce (Sq.mk P), ce (Sq.mk L), ce st, ce o, ce (tab p), ce m] σ5 B5 H5 := s5
  have hq : Pq K (tVar 6) σ5 B5 (fun x : Mb (List Str) => x = m) := fun H e Q q => (s5.v (x := m) 6 rfl) H e Q fun v B2 H2 u hv => q v m B2 H2 u rfl hv
  refine (t_test (e_isNq hq (b := m.o.isNone) fun x hx => by rw [hx])) H5 s5.bh _ fun B6 H6 u => ?_
  have s6 := s5.up u
  obtain ⟨mo⟩ := m
  cases mo with
  | none =>
    show Q .non H6
    refine q .non (Mb.mk none) B6 H6 s6.toUb (s6.tab (k := 0) rfl) ?_ rfl
    show ¬ WayR (rvs p) P L st o
    rw [← way_congr hlook ho']
    exact hm
  | some path =>
    have hm' : PathR (look (tab p)) (insO (look (tab p)) P L o) (endsO L o) st (some path) := hm
    refine (eT_call5 (x := tab p) (y := Sq.mk P) (z := L) (t := path) (w := o) (pre := fun (d : Dic (List Str)) (P : Sq Str) (L path : List Str) (o : Str) => (TabGood d P.items ∧ L.Nodup ∧ (∀ x ∈ L, x ∈ P.items) ∧ path.Nodup ∧ ∀ x ∈ path, x ∈ P.items) ∧ ∀ z ∈ P.items, ∃ e ∈ L, Reach (look d) P.items e z) (R := fun d P L path o hs => LaidR (look d) P.items L path o hs) (s6.v 5 rfl) (s6.v 1 rfl) (e_lstSq (s6.v (x := Sq.mk L) 2 rfl)) ((s6.v (x := Mb.mk (some path)) 6 rfl).imp fun h => h) (s6.v 4 rfl) ⟨⟨hcan.1, lnd', S'.sub, hm'.1.1, fun x hx => ins_sub (hm'.1.2.1 x hx)⟩, fun z hz => by
      obtain ⟨e, he, hr⟩ := S'.hit z hz
      exact ⟨e, he, reach_congr (fun y hy => (hlook y hy).symm) (S'.sub e he) (hr.symm sym hz)⟩⟩) H6 s6.bh (s6.tab (k := 0) rfl) _ fun v hs7 B7 H7 u7 t7 hL hv => ?_
    have s7 := s6.ubT (k := 0) rfl u7 t7
    exact q v (Mb.mk (some hs7)) B7 H7 s7.toUb t7 (counter_of sym S' hlook ho' nd' lnd' hm' hL) hv
end
section
variable {α β γ δ ε ζ η : Type} [Rep α] [Rep β] [Rep γ] [Rep δ] [Rep ε] [Rep ζ] [Rep η] {K : PySem.W.Frag} {vs : List V} {Q : VK} {E : XK} {σ : L2.St} {B H : Hp} {ta tb tc td te tf : TE}
def Fn6 (K : PySem.W.Frag) (pre : α → β → γ → δ → ε → ζ → Prop) (f : α → β → γ → δ → ε → ζ → η) : Sp := fun vs H Q _ => ∃ x y z t w r B, Ex B H ∧ RCons K x (RCons K y (RCons K z (RCons K t (RCons K w (RCons K r RNil))))) vs B ∧ pre x y z t w r ∧ ∀ v B2 H2, Up B H B2 H2 → Rep.at_ K B2 v (f x y z t w r) → Q v H2
theorem Fn6.len {pre : α → β → γ → δ → ε → ζ → Prop} {f : α → β → γ → δ → ε → ζ → η} (vs : List V) (H : Hp) (Q : VK) (E : XK) (h : Fn6 K pre f vs H Q E) : vs.length = 6 := by
  obtain ⟨x, y, z, t, w, r, B, e, ⟨v, r, rfl, h1, v2, r2, rfl, h2, v3, r3, rfl, h3, v4, r4, rfl, h4, v5, r5, rfl, h5, v6, r6, rfl, h6, rfl⟩, _⟩ := h
  rfl
theorem e_call6 {pre : α → β → γ → δ → ε → ζ → Prop} {f : α → β → γ → δ → ε → ζ → η} {x : α} {y : β} {z : γ} {t : δ} {w : ε} {r : ζ} (h : Pe K ta σ B x) (h2 : Pe K tb σ B y) (h3 : Pe K tc σ B z) (h4 : Pe K td σ B t) (h5 : Pe K te σ B w) (h6 : Pe K tf σ B r) (hp : pre x y z t w r) : Pe K (tCall (Fn6 K pre f) [] E (tCons ta (tCons tb (tCons tc (tCons td (tCons te (tCons tf tNil))))))) σ B (f x y z t w r) := fun H e Q q => (a_cons h fun _ e => a_5 (h2.mono e) (h3.mono e) (h4.mono e) (h5.mono e) (h6.mono e)) H e _ fun vs B1 H1 u hv => by
  rw [List.append_nil]
  exact ⟨x, y, z, t, w, r, B1, u.bh, hv, hp, fun v B2 H2 u2 h2 => q v B2 H2 (u.trans u2) h2⟩
theorem Fn6.st {pre : α → β → γ → δ → ε → ζ → Prop} {f : α → β → γ → δ → ε → ζ → η} (h : Fn6 K pre f vs H Q E) (N : List Str) : ∃ x y z t w r B, pre x y z t w r ∧ St K [] B H [] ([ce x, ce y, ce z, ce t, ce w, ce r] ++ List.replicate (N.length - 6) none) (start N vs) B H ∧ ∀ v B2 H2, Up B H B2 H2 → Rep.at_ K B2 v (f x y z t w r) → Q v H2 := by
  obtain ⟨x, y, z, t, w, r, B, e, ⟨v, _, rfl, h1, v2, _, rfl, h2, v3, _, rfl, h3, v4, _, rfl, h4, v5, _, rfl, h5, v6, _, rfl, h6, rfl⟩, hp, q⟩ := h
  exact ⟨x, y, z, t, w, r, B, hp, St.pure e (start_slots [v, v2, v3, v4, v5, v6] [ce x, ce y, ce z, ce t, ce w, ce r] _ (.cons (At1.some h1) (.cons (At1.some h2) (.cons (At1.some h3) (.cons (At1.some h4) (.cons (At1.some h5) (.cons (At1.some h6) .nil))))))), q⟩
end
section
variable {K : PySem.W.Frag} {σ : L2.St} {B H : Hp} {ta tb : TE}
theorem flat_strs (xs : List Str) : (xs.map V.str).all flatV = true := by
  rw [List.all_map, List.all_eq_true]
  exact fun _ _ => rfl
/-- xs.index(x), x at the place i, no duplicates -/
theorem e_index {xs : List Str} {x : Str} {i : Nat} (ha : Pe K ta σ B xs) (hb : Pe K tb σ B x) (nd : xs.Nodup) (hi : xs[i]? = some x) : Pe K (tBM K "list" (rIndex K) ta (tCons tb tNil)) σ B (i : Int) := fun H e Q q =>
  ha H e _ fun v B1 H1 u1 hv => by
    obtain ⟨a, vs, rfl, hs, hx⟩ := at_list.mp hv
    have hs1 := Evl.ex_l u1.bh hs
    refine ⟨.inl ⟨rfl, _, hs1⟩, (hb.mono u1.bb) H1 u1.bh _ fun w B2 H2 u2 hw => ?_⟩
    cases at_str.mp hw
    have e1 := atAll_strs (hx.mono u2.bb)
    subst e1
    refine ⟨a, xs.map V.str, .str x, i, .str x, rfl, rfl, Evl.ex_l u2.bh (Evl.ex_l u2.bb hs), rfl, flat_strs xs, by rw [List.getElem?_map, hi]; rfl, by show (x == x) = true; simp, fun m z' hm hz => ?_, q _ B2 H2 (u1.trans u2) (at_int.mpr rfl)⟩
    rw [List.getElem?_map] at hz
    obtain ⟨y, hy, rfl⟩ := Option.map_eq_some_iff.mp hz
    show (y == x) = false
    rw [beq_eq_false_iff_ne]
    rintro rfl
    have := nd_idx nd hy hi
    omega
end
section
variable {K : PySem.W.Frag}
abbrev sp_shows_counter (K : PySem.W.Frag) : Sp := Fn6 K (fun (p : Pan) (P L : Sq Str) (s o : Str) (T : List Str) => (SurePre p P L ∧ s ∈ P.items ∧ o ∈ P.items) ∧ CounterR (rvs p) P.items L.items s o (some T)) fun _ _ _ _ _ _ => true
def N_shows_counter : List Str := ["panel", "pressed", "on", "one", "other", "thing"]
def t_shows_counter (K : PySem.W.Frag) : TS :=
  (tSeq (tDrop (tCall (sp_look_pressed K) [] E0 (tCons (tVar 0) (tCons (tVar 1) (tCons (tVar 2) tNil)))))
    (tSeq (tDrop (tCall (sp_look_both K) [] E0 (tCons (tVar 1) (tCons (tVar 3) (tCons (tVar 4) tNil)))))
    (tRet (tAndV (tCall (sp_is_order K) [] E0 (tCons (tCall (sp_rival_table K) [] E0 (tCons (tVar 0) tNil)) (tCons (tVar 1) (tCons (tVar 2) (tCons (tVar 5) tNil))))) (tOp (rLtU K) (tBM K "list" (rIndex K) (tVar 5) (tCons (tVar 4) tNil)) (tBM K "list" (rIndex K) (tVar 5) (tCons (tVar 3) tNil)))))))
theorem l_shows_counter (vs : List V) (H : Hp) (Q : VK) (E : XK) (h : sp_shows_counter K vs H Q E) : vs.length = 6 := Fn6.len vs H Q E h
theorem r_shows_counter (vs : List V) (H : Hp) (Q : VK) (E : XK) (h : sp_shows_counter K vs H Q E) : t_shows_counter K (Ends.ret Q) (start N_shows_counter vs) H := by
  obtain ⟨p, ⟨P⟩, ⟨L⟩, st, o, T, B, ⟨⟨hp, hs, ho⟩, hC⟩, s, q⟩ := Fn6.st h N_shows_counter
  obtain ⟨⟨ok, nd, sub⟩, lnd, S⟩ := id hp
  have nd' : P.Nodup := nd
  have sub' : ∀ x ∈ P, x ∈ p.sw := sub
  have lnd' : L.Nodup := lnd
  have S' : StayO (rvs p) P L := S
  have hPl : P.length ≤ 60 := by
    have := nd'.length_le_of_subset sub'
    have := ok.1.s1
    omega
  have hLl : L.length ≤ 60 := Nat.le_trans (lnd'.length_le_of_subset S'.sub) hPl
  obtain ⟨_, hperm, hleft, i, j, hi, hj, hij⟩ := hC
  have hperm' : T.Perm P := hperm
  have hleft' : ∀ z, z ∈ leftO (rvs p) T ↔ z ∈ L := hleft
  have Tnd : T.Nodup := hperm'.nodup_iff.mpr nd'
  have Tsub : ∀ x ∈ T, x ∈ p.sw := fun x hx => sub' x (hperm'.mem_iff.mp hx)
  have hl : leftO (look (tab p)) T = sortD L := by
    rw [leftO_congr (rv' := rvs p) (look_rvs Tsub)]
    refine asc_ext ?_ (sortD_asc lnd') fun z => by rw [hleft', mem_sortD]
    unfold leftO
    exact sortD_asc (Tnd.sublist (filtT_sub _ T))
  replace s : St K [] B H [] [ce p, ce (Sq.mk P), ce (Sq.mk L), ce st, ce o, ce T] _ B H := s
  refine s.drop (x := ()) (e_call3 (x := p) (y := Sq.mk P) (z := Sq.mk L) (f := fun _ _ _ => ()) (s.v 0 rfl) (s.v 1 rfl) (s.v 2 rfl) ⟨sub', fun x hx => sub' x (S'.sub x hx), by show P.length ≤ 1000; omega, by show L.length ≤ 1000; omega⟩) fun B1 H1 s1 => ?_
  refine s1.drop (x := ()) (e_call3 (x := Sq.mk P) (y := st) (z := o) (f := fun _ _ _ => ()) (s1.v 1 rfl) (s1.v 3 rfl) (s1.v 4 rfl) ⟨hs, ho⟩) fun B2 H2 s2 => ?_
  refine s2.ret (x := true) ((e_andV (a := true) (b := true) (e_call4 (x := tab p) (y := Sq.mk P) (z := Sq.mk L) (t := T) (f := fun _ _ _ _ => true) (e_call1 (s2.v (x := p) 0 rfl) ok.1.toPanOk) (s2.v 1 rfl) (s2.v 2 rfl) (s2.v 5 rfl) ⟨⟨nd', by show P.length ≤ 1000; omega, fun x hx => tab_some (Tsub x hx)⟩, hperm', hl⟩) fun _ => (e_lt (e_index (s2.v (x := T) 5 rfl) (s2.v (x := o) 4 rfl) Tnd hi) (e_index (s2.v (x := T) 5 rfl) (s2.v (x := st) 3 rfl) Tnd hj)).is (decide_eq_true (by omega))).is rfl) fun v B3 H3 s3 hv => q v B3 H3 s3.toUp hv
end
end Ob

set_option Elab.async false
set_option linter.all false
set_option maxRecDepth 100000
set_option maxHeartbeats 4000000
/-! M14: what is connected, step by step; what cuts the way from one switch to another one (k25). Plain Lean. -/
namespace Ob
open PySem L2
open PySem.W (Datum Tup DatumOrd)
theorem ne_nil_iff {α : Type} {l : List α} : l ≠ [] ↔ ∃ x, x ∈ l := ⟨List.exists_mem_of_ne_nil l, fun ⟨x, hx⟩ h => by rw [h] at hx; cases hx⟩
def jhit (r : Str → List Str) (names F : List Str) : List Str := names.filter fun z => !decide (z ∈ F) && !decide (((r z).filter fun y => decide (y ∈ F)) = [])
def joinN (r : Str → List Str) (names : List Str) (x : Str) : Nat → List Str
  | 0 => [x]
  | k + 1 => joinN r names x k ++ jhit r names (joinN r names x k)
def joinO (r : Str → List Str) (names : List Str) (x : Str) : List Str := joinN r names x names.length
theorem mem_jhit {r : Str → List Str} {names F : List Str} {z : Str} : z ∈ jhit r names F ↔ z ∈ names ∧ z ∉ F ∧ ∃ y ∈ r z, y ∈ F := by
  unfold jhit
  rw [List.mem_filter, Bool.and_eq_true, Bool.not_eq_true', decide_eq_false_iff_not, Bool.not_eq_true', decide_eq_false_iff_not, ← ne_eq, ne_nil_iff]
  refine and_congr Iff.rfl (and_congr Iff.rfl ⟨?_, ?_⟩)
  · rintro ⟨y, hy⟩
    rw [List.mem_filter] at hy
    exact ⟨y, hy.1, of_decide_eq_true hy.2⟩
  · rintro ⟨y, h1, h2⟩
    exact ⟨y, List.mem_filter.mpr ⟨h1, decide_eq_true h2⟩⟩
theorem joinN_len (r : Str → List Str) (names : List Str) (x : Str) (nd : names.Nodup) : ∀ k, (joinN r names x k).Nodup ∧ (∀ z ∈ joinN r names x k, z = x ∨ z ∈ names) ∧ x ∈ joinN r names x k ∧ (jhit r names (joinN r names x k) = [] ∨ k + 1 ≤ (joinN r names x k).length)
  | 0 => ⟨by simp [joinN], fun z h => .inl (List.mem_singleton.mp h), List.mem_singleton.mpr rfl, .inr (Nat.le_refl _)⟩
  | k + 1 => by
    obtain ⟨h1, h2, h3, h4⟩ := joinN_len r names x nd k
    refine ⟨?_, fun z hz => ?_, List.mem_append_left _ h3, ?_⟩
    · show (joinN r names x k ++ jhit r names (joinN r names x k)).Nodup
      rw [List.nodup_append]
      exact ⟨h1, nd.sublist List.filter_sublist, fun a ha b hb e => (mem_jhit.mp hb).2.1 (e ▸ ha)⟩
    · rcases List.mem_append.mp (show z ∈ joinN r names x k ++ jhit r names (joinN r names x k) from hz) with h | h
      · exact h2 z h
      · exact .inr (mem_jhit.mp h).1
    · by_cases e : jhit r names (joinN r names x k) = []
      · have : joinN r names x (k + 1) = joinN r names x k := by
          show joinN r names x k ++ jhit r names (joinN r names x k) = _
          rw [e, List.append_nil]
        rw [this]
        exact .inl e
      · refine .inr ?_
        show k + 1 + 1 ≤ (joinN r names x k ++ jhit r names (joinN r names x k)).length
        have h5 := h4.resolve_left e
        have : 0 < (jhit r names (joinN r names x k)).length := List.length_pos_iff.mpr e
        rw [List.length_append]
        omega
theorem joinO_len {r : Str → List Str} {names : List Str} {x : Str} (nd : names.Nodup) : (joinO r names x).length ≤ names.length + 1 := by
  obtain ⟨h1, h2, _⟩ := joinN_len r names x nd names.length
  have := h1.length_le_of_subset (l₂ := x :: names) fun z hz => by
    rcases h2 z hz with h | h
    · rw [h]; exact List.mem_cons_self
    · exact List.mem_cons_of_mem _ h
  rwa [List.length_cons] at this
theorem joinN_mono_len {r : Str → List Str} {names : List Str} {x : Str} (nd : names.Nodup) (k : Nat) : (joinN r names x k).length ≤ names.length + 1 := by
  obtain ⟨h1, h2, _⟩ := joinN_len r names x nd k
  have := h1.length_le_of_subset (l₂ := x :: names) fun z hz => by
    rcases h2 z hz with h | h
    · rw [h]; exact List.mem_cons_self
    · exact List.mem_cons_of_mem _ h
  rwa [List.length_cons] at this
theorem joinO_closed {r : Str → List Str} {names : List Str} {x : Str} (nd : names.Nodup) {z y : Str} (hz : z ∈ names) (hy : y ∈ r z) (hm : y ∈ joinO r names x) : z ∈ joinO r names x := by
  obtain ⟨h1, h2, h3, h4⟩ := joinN_len r names x nd names.length
  refine Classical.byContradiction fun hn => ?_
  rcases h4 with h4 | h4
  · have : z ∈ jhit r names (joinN r names x names.length) := mem_jhit.mpr ⟨hz, hn, y, hy, hm⟩
    rw [h4] at this
    cases this
  · have h5 : (z :: joinN r names x names.length).Nodup := List.nodup_cons.mpr ⟨hn, h1⟩
    have := h5.length_le_of_subset (l₂ := x :: names) fun w hw => by
      rcases List.mem_cons.mp hw with h | h
      · rw [h]; exact List.mem_cons_of_mem _ hz
      · rcases h2 w h with h | h
        · rw [h]; exact List.mem_cons_self
        · exact List.mem_cons_of_mem _ h
    rw [List.length_cons, List.length_cons] at this
    omega
theorem joinN_reach {rv r : Str → List Str} {names : List Str} {x : Str} (hr : ∀ z ∈ names, ∀ y, y ∈ r z → z ∈ rv y) : ∀ (k : Nat) (z : Str), z ∈ joinN r names x k → Reach rv names x z
  | 0, z, h => by
    rw [List.mem_singleton.mp h]
    exact .refl
  | k + 1, z, h => by
    rcases List.mem_append.mp (show z ∈ joinN r names x k ++ jhit r names (joinN r names x k) from h) with h | h
    · exact joinN_reach hr k z h
    · obtain ⟨h1, _, y, h2, h3⟩ := mem_jhit.mp h
      exact .step (joinN_reach hr k y h3) (hr z h1 y h2) h1
theorem mem_joinO {rv r : Str → List Str} {names : List Str} {x : Str} (nd : names.Nodup) (hr : ∀ z ∈ names, ∀ y, y ∈ r z ↔ z ∈ rv y) {z : Str} : z ∈ joinO r names x ↔ Reach rv names x z := by
  refine ⟨joinN_reach (fun z hz y h => (hr z hz y).mp h) _ z, fun h => ?_⟩
  induction h with
  | refl => exact (joinN_len r names x nd names.length).2.2.1
  | step _ hz hs ih => exact joinO_closed nd hs ((hr _ hs _).mpr hz) ih
/-- the switches without which t is connected to no rival of s -/
def dueO (r : Str → List Str) (names : List Str) (s t : Str) : List Str := names.filter fun c => decide (((if c = t then [] else joinO r (names.filter fun z => !decide (z = c)) t).filter fun z => decide (z ∈ r s)) = [])
section
variable {p : Pan}
theorem law_rv {p : Pan} {z y : Str} : y ∈ raw p.ex z ↔ z ∈ rvs p y := by
  exact (mem_raw.trans mem_rvs.symm).trans (rvs_sym' p z y)
theorem join_law (nd : p.sw.Nodup) {names : List Str} (hn : names.Nodup) {x z : Str} : z ∈ joinO (raw p.ex) names x ↔ Reach (rvs p) names x z := mem_joinO hn fun _ _ _ => law_rv
/-- which cut leaves the way from s to t free -/
theorem free_cut (nd : p.sw.Nodup) (irr : ∀ e ∈ p.ex, e.1 ≠ e.2) {s t c : Str} (hs : s ∈ p.sw) (ht : t ∈ p.sw) (hst : s ≠ t) : FreeO (rvs p) [s] [t] (p.sw.filter fun z => !decide (z = c)) ↔ ((if c = t then [] else joinO (raw p.ex) (p.sw.filter fun z => !decide (z = c)) t).filter fun z => decide (z ∈ raw p.ex s)) ≠ [] := by
  have sym := rvs_sym' p
  have may : ∀ z, z ∈ p.sw.filter (fun z => !decide (z = c)) ↔ z ∈ p.sw ∧ z ≠ c := fun z => by rw [List.mem_filter]; simp
  have ndm : (p.sw.filter fun z => !decide (z = c)).Nodup := nd.filter _
  by_cases hct : c = t
  · rw [if_pos hct]
    refine ⟨fun F => ?_, fun h => absurd rfl h⟩
    have := F.1 t (List.mem_singleton.mpr rfl) fun h => hst (List.mem_singleton.mp h).symm
    exact absurd hct.symm ((may t).mp this).2
  · rw [if_neg hct]
    have htm : t ∈ p.sw.filter (fun z => !decide (z = c)) := (may t).mpr ⟨ht, fun h => hct h.symm⟩
    have hot : ∀ z ∈ [t], z ∈ p.sw.filter (fun z => !decide (z = c)) := fun z hz => by rw [List.mem_singleton.mp hz]; exact htm
    have press : ∀ y, y ∈ pressO (rvs p) [t] (p.sw.filter fun z => !decide (z = c)) ↔ y ∈ p.sw.filter (fun z => !decide (z = c)) ∧ Reach (rvs p) (p.sw.filter fun z => !decide (z = c)) t y := fun y => by
      rw [press_all sym hot]
      refine and_congr_right fun hy => ⟨?_, fun h => ⟨t, List.mem_singleton.mpr rfl, h.symm sym htm⟩⟩
      rintro ⟨z, hz, h⟩
      rw [List.mem_singleton.mp hz] at h
      exact h.symm sym hy
    rw [ne_nil_iff]
    have hj : ∀ y, y ∈ (joinO (raw p.ex) (p.sw.filter fun z => !decide (z = c)) t).filter (fun z => decide (z ∈ raw p.ex s)) ↔ y ∈ pressO (rvs p) [t] (p.sw.filter fun z => !decide (z = c)) ∧ s ∈ rvs p y := fun y => by
      rw [List.mem_filter, join_law nd ndm, decide_eq_true_iff, law_rv, press]
      exact ⟨fun ⟨h1, h2⟩ => ⟨⟨h1.sw htm, h1⟩, h2⟩, fun ⟨h1, h2⟩ => ⟨h1.2, h2⟩⟩
    simp only [hj]
    constructor
    · intro F
      rcases mem_tch.mp (F.2 s (List.mem_singleton.mpr rfl) fun h => hst (List.mem_singleton.mp h)) with h | ⟨y, hy, h⟩
      · obtain ⟨h1, h2⟩ := (press s).mp h
        cases h2 with
        | refl => exact absurd rfl hst
        | @step y _ h3 hz _ => exact ⟨y, (press y).mpr ⟨h3.sw htm, h3⟩, hz⟩
      · exact ⟨y, hy, h⟩
    · rintro ⟨y, hy, h⟩
      refine ⟨fun z hz _ => hot z hz, fun z hz _ => ?_⟩
      rw [List.mem_singleton.mp hz]
      exact mem_tch.mpr (.inr ⟨y, hy, h⟩)
/-- .. with all switches -/
theorem free_all (nd : p.sw.Nodup) {s t : Str} (hs : s ∈ p.sw) (ht : t ∈ p.sw) (hst : s ≠ t) : FreeO (rvs p) [s] [t] p.sw ↔ Reach (rvs p) p.sw s t := by
  have sym := rvs_sym' p
  have hot : ∀ z ∈ [t], z ∈ p.sw := fun z hz => by rw [List.mem_singleton.mp hz]; exact ht
  constructor
  · intro F
    obtain ⟨z, hz, h⟩ := (tch_all sym hot hs).mp (F.2 s (List.mem_singleton.mpr rfl) fun h => hst (List.mem_singleton.mp h))
    rw [List.mem_singleton.mp hz] at h
    exact h
  · intro h
    refine ⟨fun z hz _ => hot z hz, fun z hz _ => ?_⟩
    rw [List.mem_singleton.mp hz]
    exact (tch_all sym hot hs).mpr ⟨t, List.mem_singleton.mpr rfl, h⟩
end
end Ob

set_option Elab.async false
set_option linter.all false
set_option maxRecDepth 100000
set_option maxHeartbeats 4000000
/-! M16: the pairs that the wired family draws: no pair twice. Plain Lean. -/
namespace Ob
open PySem L2
open PySem.W (Datum Tup DatumOrd)
def TieP (os : List Str) (srt : Int) (k : Nat) (ps : List SS) : Prop := (∀ e ∈ ps, ∃ i j x y, i < j ∧ j < k ∧ os[j]? = some x ∧ os[i]? = some y ∧ e = mm x y ∧ (srt = 5 → j = i + 1)) ∧ ps.Nodup ∧ ps.length ≤ 20 * k
theorem tie_step {os : List Str} {srt : Int} {k : Nat} {ps : List SS} {x : Str} {mates : List Str} (nd : os.Nodup) (h : TieP os srt k ps) (hx : os[k]? = some x) (mn : mates.Nodup) (hm : ∀ m ∈ mates, ∃ i, i < k ∧ os[i]? = some m ∧ (srt = 5 → k = i + 1)) (hl : mates.length ≤ 20) : TieP os srt (k + 1) (ps ++ mates.map fun m => mm x m) := by
  obtain ⟨h1, h2, h3⟩ := h
  have ne : ∀ m ∈ mates, x ≠ m := fun m hm' e => by
    obtain ⟨i, hi, hio, _⟩ := hm m hm'
    rw [← e] at hio
    have := nd_idx nd hx hio
    omega
  refine ⟨fun e he => ?_, List.nodup_append.mpr ⟨h2, star_nd mn ne, fun a ha b hb e => ?_⟩, ?_⟩
  · rcases List.mem_append.mp he with he | he
    · obtain ⟨i, j, x', y, a1, a2, a3⟩ := h1 e he
      exact ⟨i, j, x', y, a1, by omega, a3⟩
    · obtain ⟨m, hm', rfl⟩ := List.mem_map.mp he
      obtain ⟨i, hi, hio, h5⟩ := hm m hm'
      exact ⟨i, k, x, m, hi, Nat.lt_succ_self k, hx, hio, rfl, h5⟩
  · obtain ⟨i, j, x', y, a1, a2, a3, a4, a5, _⟩ := h1 a ha
    obtain ⟨m, hm', rfl⟩ := List.mem_map.mp hb
    have n1 : x' ≠ y := fun z => by
      rw [← z] at a4
      have := nd_idx nd a3 a4
      omega
    rw [a5] at e
    rcases mm_inj n1 (ne m hm') e with ⟨z, _⟩ | ⟨_, z⟩
    · rw [z] at a3
      have := nd_idx nd hx a3
      omega
    · rw [z] at a4
      have := nd_idx nd hx a4
      omega
  · rw [List.length_append, List.length_map]
    omega
theorem tie_ring {os : List Str} {k : Nat} {ps : List SS} (nd : os.Nodup) (h : TieP os 5 k ps) {o l : Str} (ho : os[0]? = some o) (hl : os[os.length - 1]? = some l) (hn : 2 < os.length) : mm o l ∉ ps := fun hm => by
  obtain ⟨i, j, x, y, a1, a2, a3, a4, a5, a6⟩ := h.1 _ hm
  have e := a6 rfl
  have n1 : x ≠ y := fun z => by
    rw [← z] at a4
    have := nd_idx nd a3 a4
    omega
  have n2 : o ≠ l := fun z => by
    rw [z] at ho
    have := nd_idx nd ho hl
    omega
  rcases mm_inj n2 n1 a5 with ⟨z1, z2⟩ | ⟨z1, z2⟩
  · rw [z1] at ho
    rw [z2] at hl
    have := nd_idx nd a3 ho
    have := nd_idx nd a4 hl
    omega
  · rw [z1] at ho
    rw [z2] at hl
    have := nd_idx nd a4 ho
    have := nd_idx nd a3 hl
    omega
theorem tie_good {os ns : List Str} {srt : Int} {k : Nat} {ps : List SS} (nd : os.Nodup) (hp : ∀ x ∈ os, x ∈ ns) (h : TieP os srt k ps) : ∀ e ∈ ps, (e.1 ∈ ns ∧ e.2 ∈ ns) ∧ ltS e.1 e.2 = true := fun e he => by
  obtain ⟨i, j, x, y, a1, a2, a3, a4, a5, _⟩ := h.1 e he
  rw [a5]
  refine good_mm (hp _ (List.mem_of_getElem? a3)) (hp _ (List.mem_of_getElem? a4)) fun z => ?_
  rw [← z] at a4
  have := nd_idx nd a3 a4
  omega
/-- the mates of a name: of the names ahead of it, none twice -/
theorem mates_ok {os M : List Str} {srt : Int} {k : Nat} {y o z : Str} (nd : os.Nodup) (hk : 0 < k) (hl : os.length ≤ 14) (h1 : M.Sublist (os.take k)) (h2 : M ≠ [] → 1 ≤ srt ∧ srt ≤ 3) (hy : os[k - 1]? = some y) (ho : os[0]? = some o) (hz : ∃ i, i < k ∧ os[i]? = some z) :
    ((M ++ (if ngb false (decide (srt ∈ [(4 : Int), 5])) then [y] else []) ++ (if decide (srt = 6) then [o] else []) ++ (if decide (srt = 7) then [z] else [])).Nodup ∧
    (∀ m ∈ M ++ (if ngb false (decide (srt ∈ [(4 : Int), 5])) then [y] else []) ++ (if decide (srt = 6) then [o] else []) ++ (if decide (srt = 7) then [z] else []), ∃ i, i < k ∧ os[i]? = some m ∧ (srt = 5 → k = i + 1))) ∧
    (M ++ (if ngb false (decide (srt ∈ [(4 : Int), 5])) then [y] else []) ++ (if decide (srt = 6) then [o] else []) ++ (if decide (srt = 7) then [z] else [])).length ≤ 20 := by
  have hMl : M.length ≤ 14 := by
    have := h1.length_le
    have := List.length_take_le k os
    have : (os.take k).length ≤ os.length := by rw [List.length_take]; exact Nat.min_le_right _ _
    omega
  by_cases c : M = []
  · subst c
    by_cases c4 : srt ∈ [(4 : Int), 5]
    · have c4' : srt = 4 ∨ srt = 5 := by simpa using c4
      have n6 : ¬ srt = 6 := by omega
      have n7 : ¬ srt = 7 := by omega
      simp only [ngb, c4, n6, n7, decide_true, decide_false, if_true, if_false, List.nil_append, List.append_nil, Bool.false_eq_true]
      refine ⟨⟨by simp, fun m hm => ?_⟩, by simp⟩
      rw [List.mem_singleton.mp hm]
      exact ⟨k - 1, by omega, hy, fun _ => by omega⟩
    · have n5 : ¬ srt = 5 := fun h => c4 (by rw [h]; decide)
      by_cases c6 : srt = 6
      · have n7 : ¬ srt = 7 := by omega
        simp only [ngb, c4, n7, decide_true, decide_false, if_true, if_false, List.nil_append, List.append_nil, Bool.false_eq_true]
        rw [if_pos (decide_eq_true c6)]
        refine ⟨⟨by simp, fun m hm => ?_⟩, by simp⟩
        rw [List.mem_singleton.mp hm]
        exact ⟨0, hk, ho, fun h => absurd h n5⟩
      · simp only [ngb, c4, c6, decide_true, decide_false, if_true, if_false, List.nil_append, List.append_nil, Bool.false_eq_true]
        by_cases c7 : srt = 7
        · rw [if_pos (decide_eq_true c7)]
          refine ⟨⟨by simp, fun m hm => ?_⟩, by simp⟩
          rw [List.mem_singleton.mp hm]
          obtain ⟨i, hi, hio⟩ := hz
          exact ⟨i, hi, hio, fun h => absurd h n5⟩
        · rw [if_neg (by simpa using c7)]
          exact ⟨⟨.nil, fun m hm => nomatch hm⟩, by simp⟩
  · obtain ⟨a1, a2⟩ := h2 c
    have n4 : ¬ srt ∈ [(4 : Int), 5] := fun h => by
      have : srt = 4 ∨ srt = 5 := by simpa using h
      omega
    have n6 : ¬ srt = 6 := by omega
    have n7 : ¬ srt = 7 := by omega
    simp only [ngb, n4, n6, n7, decide_false, if_false, List.append_nil, Bool.false_eq_true]
    refine ⟨⟨(nd.sublist (List.take_sublist k os)).sublist h1, fun m hm => ?_⟩, by omega⟩
    obtain ⟨i, hi⟩ := List.getElem?_of_mem (h1.subset hm)
    rw [List.getElem?_take] at hi
    split at hi
    · rename_i hik
      exact ⟨i, hik, hi, fun h => by omega⟩
    · cases hi
end Ob

set_option Elab.async false
set_option linter.all false
set_option maxRecDepth 100000
set_option maxHeartbeats 4000000
/-! D8w: the wired family's panels, states, presses, subsets. -/
namespace Ob
open PySem L2
open Evl (Ex)
open PySem.W (Datum Tup DatumOrd)
section
variable {K : PySem.W.Frag} {σ : L2.St} {B H : Hp} {te ta tb tc : TE} {tt t1 t2 : TT} {b : Addr} {n m : Int}
/-- a test that draws -/
def Ptb (b : Addr) (n : Int) (tt : TT) (σ : L2.St) (B : Hp) (R : Bool → Prop) : Prop := ∀ H c, Ex B H → BoxAt c B H b → c + n ≤ 2 ^ 40 → ∀ Q : Bool → Hp → Prop, (∀ r B2 H2, Ub b B H B2 H2 → BoxAt (c + n) B2 H2 b → R r → Q r H2) → tt σ H Q
theorem ptb_test {R : Bool → Prop} (h : Pb K b n te σ B R) : Ptb b n (tTest te) σ B R := fun H c e bx hc Q q => h H c e bx hc _ fun v r B2 H2 u ub hr hv => ⟨r, at_bl.mp hv, q r B2 H2 u ub hr⟩
theorem Ptb.imp {R R' : Bool → Prop} (h : Ptb b n tt σ B R) (k : ∀ x, R x → R' x) : Ptb b n tt σ B R' := fun H c e bx hc Q q => h H c e bx hc Q fun r B2 H2 u ub hr => q r B2 H2 u ub (k r hr)
theorem Ptb.mono {R : Bool → Prop} (hm : ∀ {B'}, Ex B B' → Ptb b n tt σ B' R) {B' : Hp} (e : Ex B B') : Ptb b n tt σ B' R := hm e
theorem ptb_or {a : Bool} {R : Bool → Prop} (h1 : Pt t1 σ B a) (h2 : a = false → ∀ B', Ex B B' → Ptb b n t2 σ B' R) (h0 : a = true → R true) (hn : 0 ≤ n) : Ptb b n (tOr t1 t2) σ B R := fun H c e bx hc Q q =>
  h1 H e (fun k H1 => if k = true then Q true H1 else t2 σ H1 Q) fun B1 H1 u => by
    cases a with
    | true => exact q true B1 H1 u.ub ((u.box bx).le (by omega)) (h0 rfl)
    | false => exact h2 rfl B1 u.bb H1 c u.bh (u.box bx) hc Q fun r B2 H2 u2 ub2 r2 => q r B2 H2 (u.ub.trans (u.box bx).ne u2) ub2 r2
theorem ptb_and {a : Bool} {R : Bool → Prop} (h1 : Pt t1 σ B a) (h2 : a = true → ∀ B', Ex B B' → Ptb b n t2 σ B' R) (h0 : a = false → R false) (hn : 0 ≤ n) : Ptb b n (tAnd t1 t2) σ B R := fun H c e bx hc Q q =>
  h1 H e (fun k H1 => if k = true then t2 σ H1 Q else Q false H1) fun B1 H1 u => by
    cases a with
    | false => exact q false B1 H1 u.ub ((u.box bx).le (by omega)) (h0 rfl)
    | true => exact h2 rfl B1 u.bb H1 c u.bh (u.box bx) hc Q fun r B2 H2 u2 ub2 r2 => q r B2 H2 (u.ub.trans (u.box bx).ne u2) ub2 r2
/-- a comprehension whose test draws -/
theorem b_lcT {γ : Type} [DecidableEq γ] [Datum γ] {wi : TI} {g : TG} {vs : List Nat} {xs : List γ} {R : Bool → Prop} (h : ItD K wi σ B xs) (hz : xs.length ≤ 1000000) (hn : 0 ≤ n)
    (ht : ∀ x ∈ xs, ∀ v B1, Ex B B1 → Rep.at_ K B1 v x → ∃ σ2, (∀ H (Q : L2.St → Hp → Prop), Ex B1 H → Q σ2 H → g v (wipe σ vs) H Q) ∧ wipe σ2 vs = wipe σ vs ∧ Ptb b n tt σ2 B1 R ∧ Pe K te σ2 B1 x) :
    Pb K b (n * xs.length) (tLc wi g tt te vs) σ B (fun ys : List γ => ys.Sublist xs ∧ (ys ≠ [] → R true)) := fun H c e bx hc Q q =>
  h H e _ fun J B1 H1 G Y up W hG hY D hD => by
    have hDH : H D = none := Evl.fresh_back up.hh hD
    have hDB : B1 D = none := Evl.fresh_back up.bh hD
    have bx1 := up.box bx
    have hne : b ≠ D := fun z => bx1.ne (z ▸ hD)
    have hmul : ∀ i : Nat, i ≤ xs.length → n * (i : Int) ≤ n * (xs.length : Int) := fun i hi => Int.mul_le_mul_of_nonneg_left (by omega) hn
    refine walk_w W (fun i H' => ∃ Bi ws out, Ex B1 Bi ∧ Ub b B1 H1 Bi H' ∧ BoxAt (c + n * (i : Int)) Bi H' b ∧ Bi D = none ∧ H' D = some (.lst ws) ∧ AtAll K Bi ws out ∧ out.Sublist (xs.take i) ∧ (out ≠ [] → R true))
      ⟨B1, [], [], Ex.refl _, (Ub.refl up.bh).put hD hDB, (bx1.put hne).le (by simp), hDB, upd_same, .nil, List.nil_sublist _, fun h => absurd rfl h⟩ (fun i H' _ p => ?_) (fun i x Hx H' hi p hy => ?_) (fun H' p => ?_)
    · obtain ⟨Bi, ws, out, b1, u, _⟩ := p
      exact hG H' (b1.trans u.bh)
    · obtain ⟨Bi, ws, out, b1, u, ubi, bD, eD, hA, ho, hS⟩ := p
      obtain ⟨d, hd, hB⟩ := hY i x Hx H' hi (b1.trans u.bh) hy
      obtain ⟨B2, u2, hx⟩ := hB Bi b1 u.bh
      obtain ⟨o1, o2⟩ := u2.out bD eD
      obtain ⟨σ2, hg, hw, htt, hte⟩ := ht d (mem_of_get hd) x B2 ((up.bb.trans b1).trans u2.bb) hx
      have hi1 := hmul (i + 1) hi
      have e1 : n * ((i + 1 : Nat) : Int) = n * (i : Int) + n := by
        rw [show ((i + 1 : Nat) : Int) = (i : Int) + 1 by omega, Int.mul_add, Int.mul_one]
      refine hg H' _ u2.bh ⟨hw, htt H' (c + n * (i : Int)) u2.bh (u2.box ubi) (by omega) _ fun r B3 H3 u3 ub3 r3 => ?_⟩
      have o34 := u3.out o1 o2 hne.symm
      cases r with
      | true =>
        refine (hte.mono u3.bb) H3 u3.bh _ fun w B4 H4 u4 hw4 => ⟨ws, (u4.out o34.1 o34.2).2, ?_, B4, ws ++ [w], out ++ [d], ((b1.trans u2.bb).trans u3.bb).trans u4.bb, ?_, ?_, (u4.out o34.1 o34.2).1, upd_same, ?_, ?_, fun _ => r3⟩
        · rw [hA.length, sizeLine_eq]
          have h2 := ho.length_le
          have h3 := List.length_take_le i xs
          omega
        · exact (((u.up ubi.ne u2).trans (u2.box ubi).ne u3).up ub3.ne u4).put hD (u4.out o34.1 o34.2).1
        · exact ((u4.box ub3).le (by omega)).put hne
        · exact (hA.mono ((u2.bb.trans u3.bb).trans u4.bb)).snoc hw4
        · rw [take_snoc hd]
          exact ho.append (List.Sublist.refl _)
      | false =>
        refine ⟨B3, ws, out, (b1.trans u2.bb).trans u3.bb, (u.up ubi.ne u2).trans (u2.box ubi).ne u3, ub3.le (by omega), o34.1, o34.2, hA.mono (u2.bb.trans u3.bb), ?_, hS⟩
        rw [take_snoc hd]
        exact ho.trans (List.sublist_append_left _ _)
    · obtain ⟨Bi, ws, out, b1, u, ubi, bD, eD, hA, ho, hS⟩ := p
      obtain ⟨u4, e4⟩ := (up.ub.trans bx1.ne u).freeze eD hDH
      rw [List.take_length] at ho
      exact q (.ref D) out _ H' u4 (ubi.frz hne) ⟨ho, hS⟩ (at_list.mpr ⟨D, ws, rfl, Evl.sq_of upd_same, hA.mono e4⟩)
/-- xs[k], k drawn -/
theorem b_ix2 {α : Type} [DecidableEq α] [Datum α] {xs : List α} {R : Int → Prop} (ha : Pe K ta σ B xs) (hb : Pb K b n tb σ B R) (hr : ∀ k, R k → ∃ x, atI xs k = some x) : Pb K b n (tOp (rIxU K) ta tb) σ B (fun y => ∃ k, R k ∧ atI xs k = some y) := fun H c e bx hc Q q =>
  ha H e _ fun v B1 H1 u1 hv => (hb.mono u1.bb) H1 c u1.bh (u1.box bx) hc _ fun w k B2 H2 u2 ub r2 hw => by
    obtain ⟨x, hx⟩ := hr k r2
    have hv2 : Rep.at_ K B2 v xs := Rep.mono u2.bb hv
    have key : tOp (rIxU K) (tC v) (tC w) σ H2 Q := (e_ixL (e_const hv2) (e_const hw) hx) H2 u2.bh Q fun z B3 H3 u3 hz => q z x B3 H3 ((u1.ub.trans (u1.box bx).ne u2).up ub.ne u3) (u3.box ub) ⟨k, r2, hx⟩ hz
    exact key
/-- [x] * int(c), x drawn -/
theorem b_repL {α : Type} [DecidableEq α] [Datum α] {R : α → Prop} {c : Bool} (h : Pb K b n te σ B R) (hb : Pe K tb σ B (if c then 1 else 0 : Int)) : Pb K b n (tOp (rMulU) (tLst (tCons te tNil)) tb) σ B (fun ys => ∃ x, R x ∧ ys = if c then [x] else []) := fun H c0 e bx hc Q q =>
  h H c0 e bx hc _ fun v x B1 H1 u1 ub1 r1 hv => by
    have key : tOp (rMulU) (tLst (tCons (tC v) tNil)) tb σ H1 Q := (e_rep1' (e_const hv) (hb.mono u1.bb)) H1 u1.bh Q fun z B3 H3 u3 hz => q z _ B3 H3 (u1.up ub1.ne u3) (u3.box ub1) ⟨x, r1, rfl⟩ hz
    exact key
end
theorem rangeI_get {lo : Int} {n : Nat} {done rest : List Int} {x : Int} (h : rangeI lo n = done ++ x :: rest) : x = lo + (done.length : Int) ∧ done.length < n := by
  have h1 : (rangeI lo n)[done.length]? = some x := by rw [h]; simp
  have h2 : done.length < n := by
    have := congrArg List.length h
    rw [rangeI_len, List.length_append, List.length_cons] at this
    omega
  refine ⟨?_, h2⟩
  unfold rangeI at h1
  simp [h2] at h1
  omega
section
variable {K : PySem.W.Frag} {W0 : List Addr} {B0 H0 : Hp} {os : List OC} {Γ : List (Option Cell)} {σ : L2.St} {B H : Hp} {ta tb tc : TE} {D : Ends} {tz : TS}
/-- xs + ys of a list that may change, as a new one that may change -/
theorem St.addT {α : Type} [DecidableEq α] [Datum α] {i j k : Nat} {l : Addr} {xs ys : List α} (s : St K W0 B0 H0 os Γ σ B H) (h : os[k]? = some (lstC K l xs)) (hi : cg Γ i = ca l) (hb : Pe K tb σ B ys) (hz : xs.length + ys.length ≤ 1000000)
    (q : ∀ l2 σ1 B1 H1, St K W0 B0 H0 (os ++ [lstC K l2 (xs ++ ys)]) (cs Γ j (ca l2)) σ1 B1 H1 → D.nx σ1 H1) : tAsg (tOp (rAddU K) (tVar i) tb) (gName j) D σ H :=
  ⟨_, s.sl.rf i hi, hb H s.bh _ fun w B1 H1 u hw => by
    have s1 := s.up u
    obtain ⟨_, vs, hl, hA⟩ := s1.lst h
    obtain ⟨b, ws, rfl, hs2, hy⟩ := at_list.mp hw
    refine .inr (.inr (.inl ⟨l, b, vs, ws, rfl, rfl, Evl.sq_of hl, Evl.ex_l s1.bh hs2, ?_, fun p hp => ?_⟩))
    · rw [hA.length, hy.length]
      exact Nat.le_trans hz (by rw [sizeLine_eq]; decide)
    · exact q p _ _ _ (St.put (x := Any.mk (.ref p)) (s1.add (ob := .lst (vs ++ ws)) hp (lstC K p (xs ++ ys)) rfl ⟨vs ++ ws, rfl, hA.append hy⟩) j rfl)⟩
/-- an object that may change, let go -/
theorem St.letgo (s : St K W0 B0 H0 os Γ σ B H) (k : Nat) : St K W0 B0 H0 (os.eraseIdx k) Γ σ B H :=
  ⟨s.bb, s.bh, s.hh, s.dm, s.nw, fun o ho => s.own o ((List.eraseIdx_sublist os k).subset ho), s.nd.sublist ((List.eraseIdx_sublist os k).map _), s.sl⟩
/-- (drawn, []) unpacked -/
theorem St.unpBN {α : Type} [Rep α] {b : Addr} {c n : Int} {R1 : α → Prop} {i j : Nat} (s : St K W0 B0 H0 (boxC b c :: os) Γ σ B H) (h1 : Pb K b n ta σ B R1) (β : Type) [Rep β] (hc : c + n ≤ 2 ^ 40)
    (k : ∀ x l, R1 x → ∀ σ1 B1 H1, St K W0 B0 H0 (boxC b (c + n) :: (os ++ [lstC K l ([] : List β)])) (cs (cs Γ i (ce x)) j (ca l)) σ1 B1 H1 → tz D σ1 H1) : tSeq (tAsg (tTup (tCons ta (tCons (tLst tNil) tNil))) (gUnp K 2 (gCons (gName i) (gCons (gName j) gNil)))) tz D σ H :=
  h1 H c s.bh s.box hc _ fun v x B1 H1 u1 ub1 r1 hv => ⟨Nat.zero_le _, fun p hp => ⟨by show 2 ≤ sizeLine; rw [sizeLine_eq]; decide, fun t ht => .inl ⟨t, [v, .ref p], rfl, Evl.st_of upd_same, rfl, _, _, rfl, _, _, rfl, rfl, by
    have s2 : St K W0 B0 H0 (boxC b (c + n) :: (os ++ [lstC K p ([] : List β)])) Γ σ B1 (upd H1 p (.lst [])) := (s.ub u1 ub1).add (ob := .lst []) hp (lstC K p ([] : List β)) rfl ⟨[], rfl, .nil⟩
    have w3 := Up.new (o := .tup [v, .ref p]) s2.bh ht
    exact k x p r1 _ _ _ (St.put (x := Any.mk (.ref p)) (((s2.up w3).put i (Rep.mono w3.bb hv))) j rfl)⟩⟩⟩
end
section
variable {K : PySem.W.Frag}
abbrev sp_Ltied (K : PySem.W.Frag) : Sp := FnB1 K 20000 (fun ns : List Str => Asc ns ∧ 1 ≤ ns.length ∧ ns.length ≤ 14) (fun ns (y : PanT) => ∃ p, y = p.t ∧ PanG ns.length p)
def N_Ltied : List Str := ["_law_box_here", "_law_called", "_law_sort", "_law_pairs", "_law_line", "_law_at", "_law_mates", "_law_mate"]
def t_Ltied (K : PySem.W.Frag) : TS :=
  (tSeq (tAsg (tTup (tCons (tCall (sp_Ltake K) [] E0 (tCons (tVar 0) (tCons (tC (.int 8)) tNil))) (tCons (tLst tNil) tNil))) (gUnp K 2 (gCons (gName 2) (gCons (gName 3) gNil))))
    (tSeq (tAsg (tCall (sp_Lstrewn K) [] E0 (tCons (tVar 0) (tCons (tVar 1) tNil))) (gName 4))
    (tSeq (tFor (iRng2 (tCons (tC (.int 1)) (tCons (tCB (rLenU K) (tCons (tVar 4) tNil)) tNil))) (gName 5) (tSeq (tAsg (tLc (iSeq K (tSl (rSlU K) (tVar 4) tNoPart (tPart (tVar 5)))) (gName 7) (tOr (tTest (tOp (rEqP K) (tVar 2) (tC (.int 3)))) (tAnd (tTest (tOp (rInU K false) (tVar 2) (tTup (tCons (tC (.int 1)) (tCons (tC (.int 2)) tNil))))) (tTest (tOp (rEqP K) (tCall (sp_Ltake K) [] E0 (tCons (tVar 0) (tCons (tOp (rI0 fun i j => .int (i - j)) (tC (.int 4)) (tVar 2)) tNil))) (tC (.int 0)))))) (tVar 7) [7]) (gName 6))
    (tSeq (tAsg (tOp (rAddU K) (tOp (rAddU K) (tVar 6) (tOp (rMulU) (tLst (tCons (tOp (rIxU K) (tVar 4) (tOp (rI0 fun i j => .int (i - j)) (tVar 5) (tC (.int 1)))) tNil)) (tCB (rInt1) (tCons (tOp (rInU K false) (tVar 2) (tTup (tCons (tC (.int 4)) (tCons (tC (.int 5)) tNil)))) tNil)))) (tOp (rMulU) (tLst (tCons (tOp (rIxU K) (tVar 4) (tC (.int 0))) tNil)) (tCB (rInt1) (tCons (tOp (rEqP K) (tVar 2) (tC (.int 6))) tNil)))) (gName 6))
    (tSeq (tAsg (tOp (rAddU K) (tVar 6) (tOp (rMulU) (tLst (tCons (tOp (rIxU K) (tVar 4) (tCall (sp_Ltake K) [] E0 (tCons (tVar 0) (tCons (tVar 5) tNil)))) tNil)) (tCB (rInt1) (tCons (tOp (rEqP K) (tVar 2) (tC (.int 7))) tNil)))) (gName 6))
    (tAsg (tOp (rAddU K) (tVar 3) (tLc (iSeq K (tVar 6)) (gName 7) tYes (tTup (tCons (tCB (rMinU) (tCons (tOp (rIxU K) (tVar 4) (tVar 5)) (tCons (tVar 7) tNil))) (tCons (tCB (rMaxU) (tCons (tOp (rIxU K) (tVar 4) (tVar 5)) (tCons (tVar 7) tNil))) tNil))) [7])) (gName 3))))))
    (tSeq (tIfS (tAnd (tTest (tOp (rEqP K) (tVar 2) (tC (.int 5)))) (tTest (tOp (rGtU K) (tCB (rLenU K) (tCons (tVar 4) tNil)) (tC (.int 2))))) (tDrop (tBM K "list" (rAppend) (tVar 3) (tCons (tTup (tCons (tCB (rMinU) (tCons (tOp (rIxU K) (tVar 4) (tC (.int 0))) (tCons (tOp (rIxU K) (tVar 4) (tUn (rU fun i => .int (-i)) (tC (.int 1)))) tNil))) (tCons (tCB (rMaxU) (tCons (tOp (rIxU K) (tVar 4) (tC (.int 0))) (tCons (tOp (rIxU K) (tVar 4) (tUn (rU fun i => .int (-i)) (tC (.int 1)))) tNil))) tNil))) tNil))) tNext)
    (tRet (tTup (tCons (tCB (rTupleU K) (tCons (tVar 1) tNil)) (tCons (tCB (rTupleU K) (tCons (tCB (rSortU K) (tCons (tVar 3) tNil)) tNil)) tNil))))))))
theorem l_Ltied (vs : List V) (H : Hp) (Q : VK) (E : XK) (h : sp_Ltied K vs H Q E) : vs.length = 2 := FnB1.len vs H Q E h
theorem r_Ltied (vs : List V) (H : Hp) (Q : VK) (E : XK) (h : sp_Ltied K vs H Q E) : t_Ltied K (Ends.ret Q) (start N_Ltied vs) H := by
  obtain ⟨b, c, ns, B, ⟨hasc, n1, n14⟩, hc, s, q⟩ := FnB1.st h N_Ltied
  refine s.unpBN (n := 1) (x_take (i := 0) (b := b) rfl s.sl (e_int (i := 8)) (by decide) (by decide)) SS (by omega) fun k l0 hk σ1 B1 H1 s1 => ?_
  obtain ⟨k0, k8⟩ := hk
  replace s1 : St K [b] B H [boxC b (c + 1), lstC K l0 ([] : List SS)] [ca b, ce ns, ce k, ca l0, none, none, none, none] σ1 B1 H1 := s1
  refine s1.setB (n := 10000) (e_strewn (b := b) (i := 0) (xs := ns) (s1.sl.rf 0 rfl) ((s1.v (x := ns) 1 rfl).imp sq_list) (by omega)) (by omega) fun os hos σ2 B2 H2 s2 => ?_
  have ond : os.Nodup := hos.nodup_iff.mpr (asc_nodup hasc)
  have ol : os.length = ns.length := hos.length_eq
  have osub : ∀ x ∈ os, x ∈ ns := fun x hx => hos.mem_iff.mp hx
  obtain ⟨o, ho⟩ : ∃ o, os[0]? = some o := ⟨os[0]'(by omega), List.getElem?_eq_getElem (by omega)⟩
  replace s2 : St K [b] B H [boxC b (c + 10001), lstC K l0 ([] : List SS)] [ca b, ce ns, ce k, ca l0, ce os, none, none, none] σ2 B2 H2 := s2.le (by omega)
  refine s2.qforG (δ := Addr × List SS) (it_rng2 (e_int (i := 1)) (e_lenL (s2.v (x := os) 4 rfl)) ⟨by decide, by decide, by omega, by omega⟩) (fun done d => [boxC b (c + 10001 + 100 * (done.length : Int)), lstC K d.1 d.2]) (fun _ d => [ca b, ce ns, ce k, ca d.1, ce os, none, none, none]) (fun done d => TieP os k (1 + done.length) d.2) ⟨(l0, []), ⟨(fun e he => nomatch he), .nil, Nat.zero_le _⟩, fun _ _ s3 => s3.le (by simp)⟩ (fun done at_ rest d ex hP v σ' B' H' N hN s3 hv => ?_) fun d hP σ' B' H' s3 => ?_
  · obtain ⟨l, ps⟩ := d
    obtain ⟨hat, hlt⟩ := rangeI_get ex
    have hdl : done.length + 1 < os.length := by omega
    obtain ⟨kk, hkk⟩ : ∃ kk : Nat, kk = 1 + done.length := ⟨_, rfl⟩
    have hat' : at_ = (kk : Int) := by omega
    rw [← hkk] at hP
    have hkl : kk < os.length := by omega
    obtain ⟨x, hx⟩ : ∃ x, os[kk]? = some x := ⟨os[kk]'hkl, List.getElem?_eq_getElem hkl⟩
    obtain ⟨y, hy⟩ : ∃ y, os[kk - 1]? = some y := ⟨os[kk - 1]'(by omega), List.getElem?_eq_getElem (by omega)⟩
    have s4 := s3.here.put 5 hv
    replace s4 : St K [b, l] B' H' [boxC b (c + 10001 + 100 * (done.length : Int)), lstC K l ps] [ca b, ce ns, ce k, ca l, ce os, ce at_, none, none] _ B' H' := s4
    have hix : atI os at_ = some x := by rw [hat']; exact atI_nat (by omega) (by simpa using hx)
    have htk : (os.take kk).length ≤ 14 := by rw [List.length_take]; omega
    refine s4.setB (n := 14) (R := fun M : List Str => M.Sublist (os.take kk) ∧ (M ≠ [] → 1 ≤ k ∧ k ≤ 3)) (((b_lcT (n := 1) (R := fun r => r = true → 1 ≤ k ∧ k ≤ 3) (it_seqL ((e_slL (s4.v (x := os) 4 rfl) o_none (o_some ((s4.v (x := at_) 5 rfl).is hat'))).is (cutA_to os kk))) (by omega) (by decide) fun z hz w B5 b5 hw => ⟨_, fun H Q _ q => q, ?_, ?_, ((s4.sl.mono b5).turn (j := 7) hw).v 7 rfl⟩).imp fun M hM => ⟨hM.1, fun h => hM.2 h rfl⟩).le (by omega)) (by omega) fun M hM σ5 B5 H5 s5 => ?_
    · rw [set_none_comm (List.mem_singleton.mpr rfl), wipe_wipe]
    · have s5 : Slots K B5 _ (cs (cw [ca b, ce ns, ce k, ca l, ce os, ce at_, none, none] [7]) 7 (ce z)) := (s4.sl.mono b5).turn (j := 7) hw
      refine ptb_or (a := decide (k = 3)) (t_test (e_eq (s5.v (x := k) 2 rfl) (e_int (i := 3)))) (fun _ B6 b6 => ?_) (fun h _ => by have := of_decide_eq_true h; omega) (by decide)
      have s6 := s5.mono b6
      refine ptb_and (a := ngb false (decide (k ∈ [(1 : Int), 2]))) (t_test (e_inT (s6.v (x := k) 2 rfl) (e_intsT [1, 2] (by decide)) false)) (fun ha B7 b7 => ?_) (fun _ h => by cases h) (by decide)
      have s7 := s6.mono b7
      have hk12 : k = 1 ∨ k = 2 := by simpa [ngb] using ha
      exact (ptb_test (b_opL (f := fun z : Int => decide (z = 0)) (x_take (b := b) (i := 0) rfl s7 (e_subI (e_int (i := 4)) (s7.v (x := k) 2 rfl)) (by omega) (by omega)) (e_int (i := 0)) (fun _ _ => rd_eq))).imp fun r _ _ => by omega
    obtain ⟨hM1, hM2⟩ := hM
    replace s5 : St K [b, l] B' H' [boxC b (c + 10001 + 100 * (done.length : Int) + 14), lstC K l ps] [ca b, ce ns, ce k, ca l, ce os, ce at_, ce M, none] σ5 B5 H5 := s5
    have hMl : M.length ≤ 14 := Nat.le_trans hM1.length_le htk
    have hiy : atI os (at_ - 1) = some y := by
      rw [show at_ - 1 = ((kk - 1 : Nat) : Int) by omega]
      exact atI_nat (by omega) (by simpa using hy)
    have hio : atI os 0 = some o := atI_nat (by decide) (by simpa using ho)
    have l1 : ∀ (c : Bool) (w : Str), (if c then [w] else ([] : List Str)).length ≤ 1 := fun c w => by split <;> simp
    obtain ⟨M1, hM1e⟩ : ∃ M1, M1 = M ++ if ngb false (decide (k ∈ [(4 : Int), 5])) then [y] else [] := ⟨_, rfl⟩
    obtain ⟨M2, hM2e⟩ : ∃ M2, M2 = M1 ++ if decide (k = 6) then [o] else [] := ⟨_, rfl⟩
    have hM1l : M1.length ≤ 15 := by
      have := l1 (ngb false (decide (k ∈ [(4 : Int), 5]))) y
      rw [hM1e, List.length_append]
      omega
    have hM2l : M2.length ≤ 16 := by
      have := l1 (decide (k = 6)) o
      rw [hM2e, List.length_append]
      omega
    have y1 := l1 (ngb false (decide (k ∈ [(4 : Int), 5]))) y
    have y2 := l1 (decide (k = 6)) o
    refine s5.set (x := M2) ((e_addL ((e_addL (s5.v (x := M) 6 rfl) (e_rep1' (c := ngb false (decide (k ∈ [(4 : Int), 5]))) (e_ixL (s5.v (x := os) 4 rfl) (e_subI (s5.v (x := at_) 5 rfl) (e_int (i := 1))) hiy) (e_intB (e_inT (s5.v (x := k) 2 rfl) (e_intsT [4, 5] (by decide)) false))) (by omega)).is hM1e.symm) (e_rep1' (c := decide (k = 6)) (e_ixL (s5.v (x := os) 4 rfl) (e_int (i := 0)) hio) (e_intB (e_eq (s5.v (x := k) 2 rfl) (e_int (i := 6))))) (by omega)).is hM2e.symm) fun σ6 B6 H6 s6 => ?_
    replace s6 : St K [b, l] B' H' [boxC b (c + 10001 + 100 * (done.length : Int) + 14), lstC K l ps] [ca b, ce ns, ce k, ca l, ce os, ce at_, ce M2, none] σ6 B6 H6 := s6
    refine s6.setB (n := 1) (b_op (f := fun ys : List Str => M2 ++ ys) (s6.v (x := M2) 6 rfl) (b_repL (c := decide (k = 7)) (b_ix2 (s6.v (x := os) 4 rfl) (x_take (b := b) (i := 0) rfl s6.sl (s6.v (x := at_) 5 rfl) (by omega) (by omega)) fun j hj => ⟨os[j.toNat]'(by omega), atI_nat hj.1 (List.getElem?_eq_getElem (by omega))⟩) (e_intB (e_eq (s6.v (x := k) 2 rfl) (e_int (i := 7))))) fun ys hys => rd_addL (by
      obtain ⟨w, _, rfl⟩ := hys
      have := l1 (decide (k = 7)) w
      omega)) (by omega) fun M3 hM3 σ7 B7 H7 s7 => ?_
    obtain ⟨_, ⟨z, ⟨j, hj, hz⟩, rfl⟩, rfl⟩ := hM3
    have hz' : ∃ i, i < kk ∧ os[i]? = some z := by
      refine ⟨j.toNat, by omega, ?_⟩
      have hjl : j.toNat < os.length := by omega
      have h0 : atI os j = some (os[j.toNat]'hjl) := atI_nat hj.1 (List.getElem?_eq_getElem hjl)
      rw [h0] at hz
      rw [List.getElem?_eq_getElem hjl]
      exact hz
    have hmo := mates_ok (srt := k) ond (show 0 < kk by omega) (show os.length ≤ 14 by omega) hM1 hM2 hy ho hz'
    rw [← hM1e, ← hM2e] at hmo
    obtain ⟨⟨m1, m2⟩, m3⟩ := hmo
    obtain ⟨M3, hM3⟩ : ∃ M3, M3 = M2 ++ if decide (k = 7) then [z] else [] := ⟨_, rfl⟩
    rw [← hM3] at m1 m2 m3
    rw [← hM3] at s7
    replace s7 : St K [b, l] B' H' [boxC b (c + 10001 + 100 * (done.length : Int) + 14 + 1), lstC K l ps] [ca b, ce ns, ce k, ca l, ce os, ce at_, ce M3, none] σ7 B7 H7 := s7
    have hpl : ps.length ≤ 20 * kk := hP.2.2
    refine s7.addT (i := 3) (j := 3) (k := 1) (l := l) (xs := ps) (ys := M3.map fun m => mm x m) rfl rfl (s7.sl.lcA (j := 7) (fun m => mm x m) (it_seqL (s7.v (x := M3) 6 rfl)) (by omega) fun m _ σ8 B8 b8 s8 => e_pair (e_minS (e_ixL (s8.v (x := os) 4 rfl) (s8.v (x := at_) 5 rfl) hix) (s8.v 7 rfl)) (e_maxS (e_ixL (s8.v (x := os) 4 rfl) (s8.v (x := at_) 5 rfl) hix) (s8.v 7 rfl))) (by rw [List.length_map]; omega) fun l2 σ8 B8 H8 s8 => hN (l2, ps ++ M3.map fun m => mm x m) (B3 := B8) ?_ ?_
    · show TieP os k (1 + (done ++ [at_]).length) _
      rw [List.length_append, List.length_singleton, show 1 + (done.length + 1) = kk + 1 by omega]
      exact tie_step ond hP hx m1 m2 m3
    · have s9 : St K [b, l] B' H' [boxC b (c + 10001 + 100 * (done.length : Int) + 14 + 1), lstC K l2 (ps ++ M3.map fun m => mm x m)] [ca b, ce ns, ce k, ca l2, ce os, ce at_, ce M3, none] σ8 B8 H8 := s8.letgo 1
      exact (s9.fg [5, 6, 7]).le (by rw [List.length_append, List.length_singleton]; omega)
  · obtain ⟨l, ps⟩ := d
    have hrl : (rangeI 1 ((os.length : Int) - 1).toNat).length ≤ 13 := by rw [rangeI_len]; omega
    replace s3 : St K [b] B H [boxC b (c + 15000), lstC K l ps] [ca b, ce ns, ce k, ca l, ce os, none, none, none] σ' B' H' := s3.le (by omega)
    have g1 := tie_good ond osub hP
    have g2 : ps.length ≤ 20 * (1 + (rangeI 1 ((os.length : Int) - 1).toNat).length) := hP.2.2
    have g3 : ps.Nodup := hP.2.1
    have hlb : l ≠ b := fun z => by
      have := s3.nd
      rw [z] at this
      exact (List.nodup_cons.mp this).1 List.mem_cons_self
    have hfin : ∀ (ps' : List SS), (∀ e ∈ ps', (e.1 ∈ ns ∧ e.2 ∈ ns) ∧ ltS e.1 e.2 = true) → ps'.length ≤ 300 → ps'.Nodup → ∀ σ4 B4 H4, St K [b] B H [boxC b (c + 15000), lstC K l ps'] [ca b, ce ns, ce k, ca l, ce os, none, none, none] σ4 B4 H4 →
        tRet (tTup (tCons (tCB (rTupleU K) (tCons (tVar 1) tNil)) (tCons (tCB (rTupleU K) (tCons (tCB (rSortU K) (tCons (tVar 3) tNil)) tNil)) tNil))) (Ends.ret Q) σ4 H4 := fun ps' g1 g2 g3 σ4 B4 H4 s4 => by
      obtain ⟨B5, b5, s5⟩ := s4.frz (i := 3) (k := 1) (l := l) (xs := ps') rfl rfl (fun hm => hlb (List.mem_singleton.mp hm))
      replace s5 : St K [b] B H [boxC b (c + 15000)] [ca b, ce ns, ce k, ce ps', ce os, none, none, none] σ4 B5 H4 := s5
      refine s5.ret (e_pair (e_tupL (s5.v (x := ns) 1 rfl)) (e_tupL (α := SS) (e_sortSq ((s5.v (x := ps') 3 rfl).imp sq_list) (sortable_pair _)))) fun v B5 H5 s5 hv => ?_
      exact q v _ _ _ _ B5 H5 (s5.le (by omega)) ⟨⟨ns, sortD ps'⟩, rfl, hasc, (fun h => by rw [show ns = [] from h] at n1; exact absurd n1 (by decide)), Int.le_refl _, fun e he => g1 e (mem_sortD.mp he), sortP_idem ps', by show (sortD ps').length ≤ 300; rw [sortD_len]; exact g2, (sortD_perm ps').nodup_iff.mpr g3⟩ hv
    obtain ⟨z, hz⟩ : ∃ z, os[os.length - 1]? = some z := ⟨os[os.length - 1]'(by omega), List.getElem?_eq_getElem (by omega)⟩
    obtain ⟨hb, hbe⟩ : ∃ hb : Bool, hb = (decide (k = 5) && DatumOrd.lt (2 : Int) (os.length : Int)) := ⟨_, rfl⟩
    have hb1 : hb = true → k = 5 ∧ 2 < os.length := fun h => by
      rw [hbe, Bool.and_eq_true] at h
      have h2 : decide ((2 : Int) < (os.length : Int)) = true := h.2
      exact ⟨of_decide_eq_true h.1, by have := of_decide_eq_true h2; omega⟩
    refine s3.iteJ [boxC b (c + 15000), lstC K l (if hb then ps ++ [mm o z] else ps)] [ca b, ce ns, ce k, ca l, ce os, none, none, none] (b := hb) ((t_and (t_test (e_eq (s3.v (x := k) 2 rfl) (e_int (i := 5)))) fun _ => t_test (e_gt (e_lenL (s3.v (x := os) 4 rfl)) (e_int (i := 2)))).is hbe.symm) (fun σ4 B4 H4 s4 => ?_) (fun hbt N hN B4 H4 s4 => ?_) fun hbf N hN B4 H4 s4 => hN (by rw [if_neg (by rw [hbf]; decide)]; exact s4)
    · refine hfin _ ?_ ?_ ?_ σ4 B4 H4 s4
      · intro e he
        split at he
        · rename_i h
          obtain ⟨h5, hl2⟩ := hb1 h
          rcases List.mem_append.mp he with he | he
          · exact g1 e he
          · rw [List.mem_singleton.mp he]
            refine good_mm (osub _ (List.mem_of_getElem? ho)) (osub _ (List.mem_of_getElem? hz)) fun w => ?_
            rw [w] at ho
            have := nd_idx ond ho hz
            omega
        · exact g1 e he
      · split
        · rw [List.length_append, List.length_singleton]; omega
        · omega
      · split
        · rename_i h
          obtain ⟨h5, hl2⟩ := hb1 h
          subst h5
          exact List.nodup_append.mpr ⟨g3, by simp, fun a ha b hb e => tie_ring ond hP ho hz hl2 (by rw [← List.mem_singleton.mp hb, ← e]; exact ha)⟩
        · exact g3
    · obtain ⟨h5, hl2⟩ := hb1 hbt
      have hio : atI os 0 = some o := atI_nat (by decide) (by simpa using ho)
      have hiz : atI os (-1) = some z := atI_last (n := os.length - 1) (by omega) hz
      refine s4.app (i := 3) (k := 1) (l := l) (xs := ps) (x := mm o z) rfl rfl (e_pair (e_minS (e_ixL (s4.v (x := os) 4 rfl) (e_int (i := 0)) hio) (e_ixL (s4.v (x := os) 4 rfl) (e_negI (K := K) (e_int (i := 1))) hiz)) (e_maxS (e_ixL (s4.v (x := os) 4 rfl) (e_int (i := 0)) hio) (e_ixL (s4.v (x := os) 4 rfl) (e_negI (K := K) (e_int (i := 1))) hiz))) (by omega) fun B5 H5 s5 => hN (B1 := B5) ?_
      rw [if_pos hbt]
      exact s5
abbrev sp_Lwired (K : PySem.W.Frag) : Sp := FnB2 K 40000 (fun (lo hi : Int) => 1 ≤ lo ∧ lo ≤ hi ∧ hi ≤ 14) (fun _ hi (y : PanT) => ∃ p, y = p.t ∧ PanG hi p)
def N_Lwired : List Str := ["_law_box_here", "_law_least", "_law_most"]
def t_Lwired (K : PySem.W.Frag) : TS :=
  (tRet (tCall (sp_Ltied K) [] E0 (tCons (tVar 0) (tCons (tCall (sp_Lnames K) [] E0 (tCons (tVar 0) (tCons (tOp (rAddU K) (tVar 1) (tCall (sp_Ltake K) [] E0 (tCons (tVar 0) (tCons (tOp (rAddU K) (tOp (rI0 fun i j => .int (i - j)) (tVar 2) (tVar 1)) (tC (.int 1))) tNil)))) tNil))) tNil))))
theorem l_Lwired (vs : List V) (H : Hp) (Q : VK) (E : XK) (h : sp_Lwired K vs H Q E) : vs.length = 3 := FnB2.len vs H Q E h
theorem r_Lwired (vs : List V) (H : Hp) (Q : VK) (E : XK) (h : sp_Lwired K vs H Q E) : t_Lwired K (Ends.ret Q) (start N_Lwired vs) H := by
  obtain ⟨b, c, lo, hi, B, ⟨a1, a2, a3⟩, hc, s, q⟩ := FnB2.st h N_Lwired
  refine s.retB (n := 1 + 10000 + 20000) (b_call1 (n := 20000) (i := 0) (s.sl.rf 0 rfl) (b_call1 (n := 10000) (i := 0) (s.sl.rf 0 rfl) (b_op (f := fun y : Int => lo + y) (s.v 1 rfl) (x_take (b := b) (i := 0) rfl s.sl (e_addI (e_subI (s.v (x := hi) 2 rfl) (s.v (x := lo) 1 rfl)) (e_int (i := 1))) (by omega) (by omega)) (fun _ _ => rd_addI)) fun x hx => ?_) fun ns hns => ?_) (by omega) fun v y hy B1 H1 s1 hv => ?_
  · obtain ⟨k, hk, rfl⟩ := hx
    omega
  · obtain ⟨x, ⟨k, hk, rfl⟩, h1, h2⟩ := hns
    exact ⟨h1, by omega, by omega⟩
  · obtain ⟨ns, ⟨x, ⟨k, hk, rfl⟩, h1, h2⟩, p, rfl, g⟩ := hy
    exact q v _ _ _ _ B1 H1 (s1.le (by omega)) ⟨p, rfl, { g with len := by have := g.len; omega }⟩ hv
theorem rd_gt {α : Type} [DecidableEq α] [DatumOrd α] {x y : α} (hz : Datum.depth α ≤ 64 := by decide) : RD K (rGtU K) x y (DatumOrd.lt y x) :=
  rd_val (.bl _) (fun _ => at_bl.mpr rfl) fun B H v w e h1 h2 Q q => ⟨α, inferInstance, inferInstance, x, y, dp_mono e _ _ h1, dp_mono e _ _ h2, hz, q⟩
abbrev sp_Lstate (K : PySem.W.Frag) : Sp := FnB2 K 20000 (fun (p : Pan) (d : Dic (List Str)) => (PanOk p ∧ (∀ e ∈ p.ex, e.1 ≠ e.2) ∧ p.sw.length ≤ 9000) ∧ d = lawTab p) (fun p _ (st : Tup Str) => StOk p st.items)
def N_Lstate : List Str := ["_law_box_here", "_law_wired_here", "_law_table_here", "_law_drawn", "_law_name", "_law_near"]
def t_Lstate (K : PySem.W.Frag) : TS :=
  (tSeq (tAsg (tLst tNil) (gName 3))
    (tSeq (tFor (iSeq K (tCall (sp_Lstrewn K) [] E0 (tCons (tVar 0) (tCons (tOp (rIxU K) (tVar 1) (tC (.int 0))) tNil)))) (gName 4) (tIfS (tAnd (tTest (tOp (rGtU K) (tCall (sp_Ltake K) [] E0 (tCons (tVar 0) (tCons (tC (.int 3)) tNil))) (tC (.int 0)))) (tTest (tOp (rEqP K) (tLc (iSeq K (tOp (rIxU K) (tVar 2) (tVar 4))) (gName 5) (tTest (tOp (rInU K false) (tVar 5) (tVar 3))) (tVar 5) [5]) (tLst tNil)))) (tDrop (tBM K "list" (rAppend) (tVar 3) (tCons (tVar 4) tNil))) tNext))
    (tRet (tCB (rTupleU K) (tCons (tCB (rSortU K) (tCons (tVar 3) tNil)) tNil)))))
theorem l_Lstate (vs : List V) (H : Hp) (Q : VK) (E : XK) (h : sp_Lstate K vs H Q E) : vs.length = 3 := FnB2.len vs H Q E h
theorem r_Lstate (vs : List V) (H : Hp) (Q : VK) (E : XK) (h : sp_Lstate K vs H Q E) : t_Lstate K (Ends.ret Q) (start N_Lstate vs) H := by
  obtain ⟨b, c, p, d, B, ⟨⟨ok, irr, hlen⟩, rfl⟩, hc, s, q⟩ := FnB2.st h N_Lstate
  refine s.new Str fun l σ1 H1 s1 => ?_
  replace s1 : St K [b] B H [boxC b c, lstC K l ([] : List Str)] [ca b, ce p, ce (lawTab p), ca l, none, none] σ1 B H1 := s1
  refine s1.qforDr (n := 10000) (R := fun ys : List Str => ys.Perm p.sw) (e_strewn (b := b) (i := 0) (s1.sl.rf 0 rfl) (e_sw (s1.v (x := p) 1 rfl)) (by omega)) (by omega) fun ys hys v0 B2 H2 hv0 s2 => ?_
  have hynd : ys.Nodup := hys.nodup_iff.mpr ok.nd
  have hyl : ys.length = p.sw.length := hys.length_eq
  have hlb : l ≠ b := fun z => by
    have := s1.nd
    rw [z] at this
    exact (List.nodup_cons.mp this).1 List.mem_cons_self
  refine s2.qforG (δ := List Str) (it_seqL (xs := ys) (e_const hv0)) (fun done found => [boxC b (c + 10000 + (done.length : Int)), lstC K l found]) (fun _ _ => [ca b, ce p, ce (lawTab p), ca l, none, none]) (fun done found => found.Sublist done ∧ ∀ x ∈ found, ∀ y ∈ found, (x, y) ∉ p.ex) ⟨[], ⟨List.nil_sublist _, fun x hx => nomatch hx⟩, fun _ _ s3 => s3.le (by simp)⟩ (fun done x rest found ex hP v σ' B' H' N hN s3 hv => ?_) fun found hP σ' B' H' s3 => ?_
  · obtain ⟨hsub, hfree⟩ := hP
    have hdl := congrArg List.length ex
    rw [List.length_append, List.length_cons] at hdl
    have hxs : x ∈ p.sw := hys.mem_iff.mp (by rw [ex]; simp)
    have hfl := hsub.length_le
    have s4 := s3.here.put 4 hv
    replace s4 : St K [b, l] B' H' [boxC b (c + 10000 + (done.length : Int)), lstC K l found] [ca b, ce p, ce (lawTab p), ca l, ce x, none] _ B' H' := s4
    have keep : ∀ σ5 B5 H5, St K [b, l] B' H' [boxC b (c + 10000 + (done.length : Int) + 1), lstC K l found] [ca b, ce p, ce (lawTab p), ca l, ce x, none] σ5 B5 H5 → N σ5 H5 := fun σ5 B5 H5 s5 => hN found (B3 := B5) ⟨hsub.trans (List.sublist_append_left _ _), hfree⟩ ((s5.fg [4]).le (by rw [List.length_append, List.length_singleton]; omega))
    refine p_ifAndB (c := c + 10000 + (done.length : Int)) (b_opL (f := fun z : Int => DatumOrd.lt (0 : Int) z) (x_take (b := b) (i := 0) rfl s4.sl (e_int (i := 3)) (by decide) (by decide)) (e_int (i := 0)) (fun _ _ => rd_gt)) s4.bh s4.box (by omega) (fun B5 H5 _ u5 bx5 => ?_) fun B5 H5 _ u5 bx5 => keep _ _ _ (s4.ub u5 bx5)
    have s5 : St K [b, l] B' H' [boxC b (c + 10000 + (done.length : Int) + 1), lstC K l found] [ca b, ce p, ce (lawTab p), ca l, ce x, none] _ B5 H5 := s4.ub u5 bx5
    have hrl := rawP_len2 p.ex x
    have hn2 := ok.n2
    refine s5.iteT (i := 3) (k := 1) (l := l) (xs := found) rfl rfl (fun B6 b6 sl => t_test (e_eq (sl.lcF (j := 5) (fun near => ngb false (decide (near ∈ found))) (it_seqL (e_ixD (sl.v (x := lawTab p) 2 rfl) (sl.v (x := x) 4 rfl) (lookup_map (fun s => raw p.ex s) hxs))) (by omega) fun z _ σ7 B7 b7 s7 => ⟨t_test (e_inL (s7.v 5 rfl) (s7.v (x := found) 3 rfl) false), rfl⟩) (e_lst0 (α := Str)))) (fun hb B6 H6 s6 => ?_) fun hb B6 H6 s6 => keep _ _ _ s6
    have hno : ∀ z ∈ raw p.ex x, z ∉ found := fun z hz hf => by
      have := of_decide_eq_true hb
      rw [List.filter_eq_nil_iff] at this
      exact this z hz (by simp [ngb, hf])
    refine s6.app (i := 3) (k := 1) (l := l) (xs := found) (x := x) rfl rfl (s6.v 4 rfl) (by omega) fun B7 H7 s7 => hN (found ++ [x]) (B3 := B7) ⟨hsub.append (List.Sublist.refl _), ?_⟩ ((s7.fg [4]).le (by rw [List.length_append, List.length_singleton]; omega))
    intro z1 h1 z2 h2 he
    rcases List.mem_append.mp h1 with h1 | h1
    · rcases List.mem_append.mp h2 with h2 | h2
      · exact hfree z1 h1 z2 h2 he
      · rw [List.mem_singleton.mp h2] at he
        exact hno z1 (mem_raw.mpr (.inr he)) h1
    · rw [List.mem_singleton.mp h1] at he
      rcases List.mem_append.mp h2 with h2 | h2
      · exact hno z2 (mem_raw.mpr (.inl he)) h2
      · rw [List.mem_singleton.mp h2] at he
        exact irr _ he rfl
  · obtain ⟨hsub, hfree⟩ := hP
    obtain ⟨B5, b5, s5⟩ := s3.frz (i := 3) (k := 1) (l := l) (xs := found) rfl rfl (fun hm => hlb (List.mem_singleton.mp hm))
    replace s5 : St K [b] B H [boxC b (c + 10000 + (ys.length : Int))] [ca b, ce p, ce (lawTab p), ce found, none, none] σ' B5 H' := s5
    refine St.ret (x := Tup.mk (sortD found)) s5 (e_tupL (e_sortSq ((s5.v (x := found) 3 rfl).imp sq_list) (sortable_str _))) fun v B6 H6 s6 hv => q v _ _ _ _ B6 H6 (s6.le (by omega)) ⟨sortD_asc (hynd.sublist hsub), fun x hx => hys.mem_iff.mp (hsub.subset (mem_sortD.mp hx)), fun x hx y hy => hfree x (mem_sortD.mp hx) y (mem_sortD.mp hy)⟩ hv
theorem look_lawW {p : Pan} {x : Str} (h : x ∈ p.sw) : look (lawTab p) x = raw p.ex x := by
  unfold look
  rw [show (lawTab p).kvs.lookup x = some (raw p.ex x) from lookup_map (fun s => raw p.ex s) h]
  rfl
theorem wp_law {p : Pan} {st : List Str} {x : Str} (h : x ∈ p.sw) : wp (look (lawTab p)) st x = wp (rvs p) st x := by
  unfold wp
  rw [look_lawW h]
  congr 2
  refine List.filter_congr fun z _ => ?_
  have hr : z ∈ raw p.ex x ↔ z ∈ rvs p x := mem_sortD.symm
  simp only [hr]
abbrev sp_Lafter (K : PySem.W.Frag) : Sp := Fn3 K (fun (d : Dic (List Str)) (s : Sq Str) (x : Str) => (d.kvs.lookup x).isSome = true ∧ s.items.length ≤ 100000) fun d s x => Tup.mk (wp (look d) s.items x)
def N_Lafter : List Str := ["_law_table_here", "_law_here", "_law_name", "_law_near"]
def t_Lafter (K : PySem.W.Frag) : TS :=
  (tRet (tCB (rTupleU K) (tCons (tCB (rSortU K) (tCons (tOp (rAddU K) (tLc (iSeq K (tVar 1)) (gName 3) (tAnd (tTest (tOp (rInU K true) (tVar 3) (tOp (rIxU K) (tVar 0) (tVar 2)))) (tTest (tOp (rNeP K) (tVar 3) (tVar 2)))) (tVar 3) [3]) (tLst (tCons (tVar 2) tNil))) tNil)) tNil)))
theorem l_Lafter (vs : List V) (H : Hp) (Q : VK) (E : XK) (h : sp_Lafter K vs H Q E) : vs.length = 3 := Fn3.len vs H Q E h
theorem r_Lafter (vs : List V) (H : Hp) (Q : VK) (E : XK) (h : sp_Lafter K vs H Q E) : t_Lafter K (Ends.ret Q) (start N_Lafter vs) H := r_with_press vs H Q E h
/-- all subsets, as the laws list them -/
def partsO (xs : List Str) : List (Tup Str) := xs.foldl (fun ev n => ev ++ ev.map fun t => Tup.mk (t.items ++ [n])) [Tup.mk []]
theorem partsO_snoc (xs : List Str) (n : Str) : partsO (xs ++ [n]) = partsO xs ++ (partsO xs).map fun t => Tup.mk (t.items ++ [n]) := by simp [partsO]
theorem partsO_len (xs : List Str) : (partsO xs).length = 2 ^ xs.length := by
  have key : ∀ n, ∀ xs : List Str, xs.length = n → (partsO xs).length = 2 ^ xs.length := by
    intro n
    induction n with
    | zero => intro xs h; rw [List.eq_nil_of_length_eq_zero h]; rfl
    | succ n ih =>
      intro xs h
      have hne : xs ≠ [] := fun z => by rw [z] at h; cases h
      rw [← List.dropLast_concat_getLast hne, partsO_snoc, List.length_append, List.length_map, ih _ (by rw [List.length_dropLast]; omega), List.length_append, List.length_singleton, Nat.pow_succ]
      omega
  exact key _ xs rfl
theorem partsO_il (xs : List Str) : ∀ t ∈ partsO xs, t.items.length ≤ xs.length := by
  have key : ∀ n, ∀ xs : List Str, xs.length = n → ∀ t ∈ partsO xs, t.items.length ≤ xs.length := by
    intro n
    induction n with
    | zero => intro xs h t ht; rw [List.eq_nil_of_length_eq_zero h] at ht ⊢; rw [List.mem_singleton.mp ht]; exact Nat.le_refl _
    | succ n ih =>
      intro xs h t ht
      have hne : xs ≠ [] := fun z => by rw [z] at h; cases h
      have hd : xs.dropLast.length = n := by rw [List.length_dropLast]; omega
      rw [← List.dropLast_concat_getLast hne, partsO_snoc] at ht
      rcases List.mem_append.mp ht with ht | ht
      · have := ih _ hd t ht
        omega
      · obtain ⟨u, hu, rfl⟩ := List.mem_map.mp ht
        have := ih _ hd u hu
        show (u.items ++ _).length ≤ _
        rw [List.length_append, List.length_singleton]
        omega
  exact key _ xs rfl
abbrev sp_Lparts (K : PySem.W.Frag) : Sp := Fn1 K (fun s : Sq Str => s.items.length ≤ 14) fun s => partsO (sortD s.items)
def N_Lparts : List Str := ["_law_some", "_law_every", "_law_name", "_law_part"]
def t_Lparts (K : PySem.W.Frag) : TS :=
  (tSeq (tAsg (tLst (tCons (tTup tNil) tNil)) (gName 1))
    (tSeq (tFor (iSeq K (tCB (rSortU K) (tCons (tVar 0) tNil))) (gName 2) (tAsg (tOp (rAddU K) (tVar 1) (tLc (iSeq K (tVar 1)) (gName 3) tYes (tOp (rAddU K) (tVar 3) (tTup (tCons (tVar 2) tNil))) [3])) (gName 1)))
    (tRet (tVar 1))))
theorem l_Lparts (vs : List V) (H : Hp) (Q : VK) (E : XK) (h : sp_Lparts K vs H Q E) : vs.length = 1 := Fn1.len vs H Q E h
theorem r_Lparts (vs : List V) (H : Hp) (Q : VK) (E : XK) (h : sp_Lparts K vs H Q E) : t_Lparts K (Ends.ret Q) (start N_Lparts vs) H := by
  obtain ⟨⟨xs⟩, B, hl, s, q⟩ := Fn1.st h N_Lparts
  have hl' : xs.length ≤ 14 := hl
  refine s.set (x := [Tup.mk ([] : List Str)]) (e_lst1 (e_tup0 (α := Str))) fun σ1 B1 H1 s1 => ?_
  replace s1 : St K [] B H [] [ce (Sq.mk xs), ce [Tup.mk ([] : List Str)], none, none] σ1 B1 H1 := s1
  refine s1.forG (D := { Ends.ret Q with nx := _ }) (δ := Unit) (it_seqL (xs := sortD xs) (e_sortSq (s1.v (x := Sq.mk xs) 0 rfl) (sortable_str _))) (fun _ _ => []) (fun done _ => [ce (Sq.mk xs), ce (partsO done), none, none]) (fun _ _ => True) ⟨(), trivial, fun _ _ s2 => s2⟩ (fun done x rest _ ex _ v σ' B' H' N hN s2 hv => ?_) fun _ _ σ' B' H' s2 => ?_
  · have hdl := congrArg List.length ex
    rw [sortD_len, List.length_append, List.length_cons] at hdl
    have h1 := partsO_len done
    have h2 : 2 ^ done.length ≤ 2 ^ 13 := Nat.pow_le_pow_right (by decide) (by omega)
    have h3 : 2 ^ 13 = 8192 := by decide
    have s3 := s2.here.put 2 hv
    refine s3.setL (x := partsO (done ++ [x])) ((e_addL (s3.v (x := partsO done) 1 rfl) (s3.sl.lcA (j := 3) (fun t : Tup Str => Tup.mk (t.items ++ [x])) (it_seqL (s3.v (x := partsO done) 1 rfl)) (by omega) fun t ht σ4 B4 b4 s4 => e_addT (xs := t.items) (ys := [x]) (s4.v (x := t) 3 rfl) (e_tup1 (s4.v (x := x) 2 rfl)) (by have := partsO_il done t ht; rw [List.length_singleton]; omega)) (by rw [List.length_map]; omega)).is (partsO_snoc done x).symm) fun σ4 B4 H4 s4 => hN () (B3 := B4) trivial (s4.fg [2])
  · dsimp only
    exact St.ret (x := partsO (sortD xs)) s2 (s2.v 1 rfl) fun v B3 H3 s3 hv => q v B3 H3 s3.toUp hv
end
end Ob

set_option Elab.async false
set_option linter.all false
set_option maxRecDepth 100000
set_option maxHeartbeats 4000000
/-! Bo: b is True, b is not True, both truth values. -/
namespace Ob
open PySem PySem.Spec PyProof.Rows L2
open Evl (Ex)
section
variable {X : Cx}
def rIsB : R2 := fun x y H Q => ∃ a b : Bool, x = .bl a ∧ y = .bl b ∧ Q (.bl (decide (a = b))) H
def rNotB : R2 := fun x y H Q => ∃ a b : Bool, x = .bl a ∧ y = .bl b ∧ Q (.bl (!decide (a = b))) H
theorem bo_beq (a b : Bool) : (Value.bool a == Value.bool b) = decide (a = b) := by
  by_cases e : a = b
  · subst e
    exact (beq_self_eq_true (Value.bool a)).trans (decide_eq_true (p := a = a) rfl).symm
  · exact (beq_eq_false_iff_ne.mpr fun z => e (Value.bool.inj z)).trans (decide_eq_false e).symm
theorem op_isB : OpR X (compareOp .Is) rIsB := by
  intro pins s σ H x y v u Q I rx ry h
  obtain ⟨a, b, rfl, rfl, q⟩ := h
  cases (show v = Value.bool a from rx)
  cases (show u = Value.bool b from ry)
  exact wpAny_is_plain rfl (fin_bl I q (bo_beq a b).symm)
theorem op_notB : OpR X (compareOp .IsNot) rNotB := by
  intro pins s σ H x y v u Q I rx ry h
  obtain ⟨a, b, rfl, rfl, q⟩ := h
  cases (show v = Value.bool a from rx)
  cases (show u = Value.bool b from ry)
  exact wpAny_isNot_plain rfl (fin_bl I q (congrArg not (bo_beq a b).symm))
end
section
variable {K : PySem.W.Frag} {σ : L2.St} {B : Hp} {ta tb : TE}
theorem e_notB {a b : Bool} (h : Pe K ta σ B a) (h2 : Pe K tb σ B b) : Pe K (tOp rNotB ta tb) σ B (!decide (a = b)) := fun H e Q q => h.both h2 e fun v w B1 H1 u hv hw => ⟨a, b, at_bl.mp hv, at_bl.mp hw, q _ B1 H1 u (at_bl.mpr rfl)⟩
theorem e_isB {a b : Bool} (h : Pe K ta σ B a) (h2 : Pe K tb σ B b) : Pe K (tOp rIsB ta tb) σ B (decide (a = b)) := fun H e Q q => h.both h2 e fun v w B1 H1 u hv hw => ⟨a, b, at_bl.mp hv, at_bl.mp hw, q _ B1 H1 u (at_bl.mpr rfl)⟩
end
end Ob

set_option Elab.async false
set_option linter.all false
set_option maxRecDepth 100000
set_option maxHeartbeats 4000000
/-! Y6: k76's own defs: _law_left, _law_free, _law_web, _law_webs, _law_fits, _law_all_stay, _law_hits. -/
namespace Ob
open PySem L2
open Evl (Ex)
open PySem.W (Datum Tup DatumOrd)
def TabL (d : Dic (List Str)) (xs : List Str) : Prop := ∀ x ∈ xs, (d.kvs.lookup x).isSome = true ∧ (look d x).length ≤ 1000
section
variable {K : PySem.W.Frag}
abbrev sp_Lleft (K : PySem.W.Frag) : Sp := Fn2 K (fun (d : Dic (List Str)) (T : List Str) => TabL d T ∧ T.length ≤ 1000) fun d T => Tup.mk (leftO (look d) T)
def N_Lleft : List Str := ["_law_table_here", "_law_trail", "_law_kept", "_law_at", "_law_name", "_law_mate"]
def t_Lleft (K : PySem.W.Frag) : TS :=
  (tSeq (tAsg (tLst tNil) (gName 2))
    (tSeq (tFor (iEnum K (tCons (tVar 1) tNil)) (gUnp K 2 (gCons (gName 3) (gCons (gName 4) gNil))) (tIfS (tTest (tOp (rEqP K) (tLc (iSeq K (tSl (rSlU K) (tVar 1) (tPart (tOp (rAddU K) (tVar 3) (tC (.int 1)))) tNoPart)) (gName 5) (tTest (tOp (rInU K false) (tVar 5) (tOp (rIxU K) (tVar 0) (tVar 4)))) (tVar 5) [5]) (tLst tNil))) (tDrop (tBM K "list" (rAppend) (tVar 2) (tCons (tVar 4) tNil))) tNext))
    (tRet (tCB (rTupleU K) (tCons (tCB (rSortU K) (tCons (tVar 2) tNil)) tNil)))))
theorem l_Lleft (vs : List V) (H : Hp) (Q : VK) (E : XK) (h : sp_Lleft K vs H Q E) : vs.length = 2 := Fn2.len vs H Q E h
theorem r_Lleft (vs : List V) (H : Hp) (Q : VK) (E : XK) (h : sp_Lleft K vs H Q E) : t_Lleft K (Ends.ret Q) (start N_Lleft vs) H := by
  obtain ⟨d, T, B, ⟨ht, hz⟩, s, q⟩ := Fn2.st h N_Lleft
  refine s.new Str fun l σ1 H1 s1 => ?_
  replace s1 : St K [] B H [lstC K l ([] : List Str)] [ce d, ce T, ca l, none, none, none] σ1 B H1 := s1
  obtain ⟨f, hf⟩ : ∃ f : Int × Str → Bool, ∀ e, f e = decide (((T.drop (e.1.toNat + 1)).filter fun m => ngb false (decide (m ∈ look d e.2))) = []) := ⟨_, fun _ => rfl⟩
  have hres : ((enumI T).filter f).map (·.2) = filtT (fun x r => !(r.any fun o => decide (o ∈ look d x))) T := enum_filtT _ T f fun i x _ => by
    rw [hf, Bool.eq_iff_iff, decide_eq_true_iff, List.filter_eq_nil_iff, Bool.not_eq_true', List.any_eq_false]
    simp [ngb]
  refine s1.forG (D := { Ends.ret Q with nx := _ }) (δ := Unit) (it_enumL (s1.v (x := T) 1 rfl)) (fun done _ => [lstC K l ((done.filter f).map (·.2))]) (fun _ _ => [ce d, ce T, ca l, none, none, none]) (fun _ _ => True) ⟨(), trivial, fun _ _ s2 => s2⟩ (fun done e rest _ ex _ v σ' B' H' N hN s2 hv => ?_) fun _ _ σ' B' H' s2 => ?_
  · obtain ⟨i, x⟩ := e
    have hge : (enumI T)[done.length]? = some (i, x) := by rw [ex]; simp
    have hlt : done.length < T.length := by
      have := (List.getElem?_eq_some_iff.mp hge).1
      rwa [enumI_len] at this
    have hx0 := enumI_get (List.getElem?_eq_getElem hlt)
    rw [hge] at hx0
    cases hx0
    have hxT : T[done.length] ∈ T := List.getElem_mem hlt
    have hfl := List.length_filter_le f done
    refine unp_pair hv s2.bh fun v1 v2 k1 k2 => ?_
    have s3 := (s2.here.put 3 k1).put 4 k2
    replace s3 : St K [l] B' H' [lstC K l ((done.filter f).map (·.2))] [ce d, ce T, ca l, ce (done.length : Int), ce T[done.length], none] _ B' H' := s3
    have hcut : cutA T (some ((done.length : Int) + 1)) none = T.drop (done.length + 1) := cutA_from T (done.length + 1)
    have hk := ht _ hxT
    refine s3.iteL (b := f ((done.length : Int), T[done.length])) (t_test ((e_eq (s3.sl.lcF (j := 5) (fun m => ngb false (decide (m ∈ look d T[done.length]))) (it_seqL ((e_slL (s3.v (x := T) 1 rfl) (o_some (e_addI (s3.v (x := (done.length : Int)) 3 rfl) (e_int (i := 1)))) o_none).is hcut)) (by rw [List.length_drop]; omega) fun z _ σ4 B4 b4 s4 => ⟨t_test (e_inL (s4.v (x := z) 5 rfl) (e_ixD (s4.v (x := d) 0 rfl) (s4.v (x := T[done.length]) 4 rfl) (look_of hk.1)) false), rfl⟩) (e_lst0 (α := Str))).is (by rw [hf]; rfl))) (fun hb B4 H4 s4 => ?_) fun hb B4 H4 s4 => ?_
    · refine s4.app (i := 2) (k := 0) (l := l) (x := T[done.length]) rfl rfl (s4.v 4 rfl) (by rw [List.length_map]; omega) fun B5 H5 s5 => hN () (B3 := B5) trivial ?_
      rw [List.filter_append, List.filter_cons, if_pos hb, List.map_append]
      exact s5.fg [3, 4]
    · refine hN () (B3 := B4) trivial ?_
      rw [List.filter_append, List.filter_cons, if_neg (by rw [hb]; decide), List.filter_nil, List.append_nil]
      exact s4.fg [3, 4]
  · obtain ⟨B5, b5, s5⟩ := s2.frz (i := 2) (k := 0) (l := l) (xs := ((enumI T).filter f).map (·.2)) rfl rfl (fun hm => by cases hm)
    replace s5 : St K [] B H [] [ce d, ce T, ce (((enumI T).filter f).map (·.2)), none, none, none] σ' B5 H' := s5
    dsimp only
    exact St.ret (x := Tup.mk (leftO (look d) T)) s5 (e_tupL ((e_sortSq ((s5.v (x := ((enumI T).filter f).map (·.2)) 2 rfl).imp sq_list) (sortable_str _)).is (by rw [hres]; rfl))) fun v B6 H6 s6 hv => q v B6 H6 s6.toUp hv
def freeB (r : Str → List Str) (part : List Str) : Bool := decide ((part.filter fun x => !decide ((part.filter fun m => ngb false (decide (m ∈ r x))) = [])) = [])
abbrev sp_Lfree (K : PySem.W.Frag) : Sp := Fn2 K (fun (d : Dic (List Str)) (part : Tup Str) => TabL d part.items ∧ part.items.length ≤ 1000) fun d part => freeB (look d) part.items
def N_Lfree : List Str := ["_law_table_here", "_law_part", "_law_name", "_law_mate"]
def t_Lfree (K : PySem.W.Frag) : TS :=
  (tRet (tOp (rEqP K) (tLc (iSeq K (tVar 1)) (gName 2) (tTest (tOp (rNeP K) (tLc (iSeq K (tVar 1)) (gName 3) (tTest (tOp (rInU K false) (tVar 3) (tOp (rIxU K) (tVar 0) (tVar 2)))) (tVar 3) [3]) (tLst tNil))) (tVar 2) [2]) (tLst tNil)))
theorem l_Lfree (vs : List V) (H : Hp) (Q : VK) (E : XK) (h : sp_Lfree K vs H Q E) : vs.length = 2 := Fn2.len vs H Q E h
theorem r_Lfree (vs : List V) (H : Hp) (Q : VK) (E : XK) (h : sp_Lfree K vs H Q E) : t_Lfree K (Ends.ret Q) (start N_Lfree vs) H := by
  obtain ⟨d, ⟨part⟩, B, ⟨ht, hz⟩, s, q⟩ := Fn2.st h N_Lfree
  have hz' : part.length ≤ 1000 := hz
  replace s : St K [] B H [] [ce d, ce (Tup.mk part), none, none] _ B H := s
  refine s.ret (x := freeB (look d) part) (e_eq (s.sl.lcF (j := 2) (fun x => !decide ((part.filter fun m => ngb false (decide (m ∈ look d x))) = [])) (it_seqT (s.v (x := Tup.mk part) 1 rfl)) (by omega) fun x hx σ1 B1 b1 s1 => ⟨t_test (e_ne (s1.lcF (j := 3) (fun m => ngb false (decide (m ∈ look d x))) (it_seqT (s1.v (x := Tup.mk part) 1 rfl)) (by omega) fun m _ σ2 B2 b2 s2 => ⟨t_test (e_inL (s2.v (x := m) 3 rfl) (e_ixD (s2.v (x := d) 0 rfl) (s2.v (x := x) 2 rfl) (look_of (ht x hx).1)) false), rfl⟩) (e_lst0 (α := Str))), rfl⟩) (e_lst0 (α := Str))) fun v B1 H1 s1 hv => q v B1 H1 s1.toUp hv
def WebPre (d : Dic (List Str)) (some : List Str) : Prop := some.Nodup ∧ some.length ≤ 100 ∧ TabL d some
abbrev sp_Lweb (K : PySem.W.Frag) : Sp := Fn3 K (fun (d : Dic (List Str)) (some : List Str) (_ : Str) => WebPre d some) fun d some x => sortD (joinO (look d) some x)
def N_Lweb : List Str := ["_law_table_here", "_law_some", "_law_name", "_law_web_here", "_law_turn", "_law_mate", "_law_near"]
def t_Lweb (K : PySem.W.Frag) : TS :=
  (tSeq (tAsg (tLst (tCons (tVar 2) tNil)) (gName 3))
    (tSeq (tFor (iRng1 (tCons (tCB (rLenU K) (tCons (tVar 1) tNil)) tNil)) (gName 4) (tAsg (tOp (rAddU K) (tVar 3) (tLc (iSeq K (tVar 1)) (gName 5) (tAnd (tTest (tOp (rInU K true) (tVar 5) (tVar 3))) (tTest (tOp (rNeP K) (tLc (iSeq K (tOp (rIxU K) (tVar 0) (tVar 5))) (gName 6) (tTest (tOp (rInU K false) (tVar 6) (tVar 3))) (tVar 6) [6]) (tLst tNil)))) (tVar 5) [5])) (gName 3)))
    (tRet (tCB (rSortU K) (tCons (tVar 3) tNil)))))
theorem l_Lweb (vs : List V) (H : Hp) (Q : VK) (E : XK) (h : sp_Lweb K vs H Q E) : vs.length = 3 := Fn3.len vs H Q E h
theorem r_Lweb (vs : List V) (H : Hp) (Q : VK) (E : XK) (h : sp_Lweb K vs H Q E) : t_Lweb K (Ends.ret Q) (start N_Lweb vs) H := by
  obtain ⟨d, names, x, B, ⟨nd, z1, hl⟩, s, q⟩ := Fn3.st h N_Lweb
  refine s.set (x := [x]) (e_lst1 (s.v (x := x) 2 rfl)) fun σ1 B1 H1 s1 => ?_
  replace s1 : St K [] B H [] [ce d, ce names, ce x, ce [x], none, none, none] σ1 B1 H1 := s1
  refine s1.forG (D := { Ends.ret Q with nx := _ }) (δ := Unit) (it_rng1 (n := (names.length : Int)) (e_lenL (xs := names) (s1.v 1 rfl)) (by omega) (by omega)) (fun _ _ => []) (fun done _ => [ce d, ce names, ce x, ce (joinN (look d) names x done.length), none, none, none]) (fun _ _ => True) ⟨(), trivial, fun _ _ s2 => s2⟩ (fun done k rest _ ex _ v σ' B' H' N hN s2 hv => ?_) fun _ _ σ' B' H' s2 => ?_
  · obtain ⟨F, hF⟩ : ∃ F, F = joinN (look d) names x done.length := ⟨_, rfl⟩
    have hFl : F.length ≤ names.length + 1 := by rw [hF]; exact joinN_mono_len nd _
    have hjl : (jhit (look d) names F).length ≤ names.length := List.length_filter_le _ _
    rw [← hF] at s2
    have s3 := s2.here.put 4 hv
    refine s3.setL (x := F ++ jhit (look d) names F) (e_addL (s3.v (x := F) 3 rfl) (s3.sl.lcF (j := 5) (fun z => ngb true (decide (z ∈ F)) && !decide (((look d z).filter fun y => ngb false (decide (y ∈ F))) = [])) (it_seqL (s3.v (x := names) 1 rfl)) (by omega) fun z hz σ4 B4 b4 s4 => ⟨t_and (t_test (e_inL (s4.v 5 rfl) (s4.v (x := F) 3 rfl) true)) fun _ => t_test (e_ne (s4.lcF (j := 6) (fun y => ngb false (decide (y ∈ F))) (it_seqL (e_ixD (s4.v (x := d) 0 rfl) (s4.v (x := z) 5 rfl) (look_of (hl z hz).1))) (by have := (hl z hz).2; omega) fun y _ σ5 B5 b5 s5 => ⟨t_test (e_inL (s5.v 6 rfl) (s5.v (x := F) 3 rfl) false), rfl⟩) (e_lst0 (α := Str))), rfl⟩) (by show F.length + (jhit (look d) names F).length ≤ 1000000; omega)) fun σ5 B5 H5 s5 => hN () (B3 := B5) trivial ?_
    rw [List.length_append, List.length_singleton, show joinN (look d) names x (done.length + 1) = F ++ jhit (look d) names F by rw [hF]; rfl]
    exact s5.fg [4]
  · rw [rangeI_len, Int.toNat_natCast] at s2
    dsimp only
    exact St.ret (x := sortD (joinO (look d) names x)) s2 (e_sortSq ((s2.v (x := joinO (look d) names x) 3 rfl).imp sq_list) (sortable_str _)) fun v B3 H3 s3 hv => q v B3 H3 s3.toUp hv
end
end Ob

set_option Elab.async false
set_option linter.all false
set_option maxRecDepth 100000
set_option maxHeartbeats 4000000
/-! Y7: _law_webs, _law_fits, _law_all_stay, _law_hits (k76). -/
namespace Ob
open PySem L2
open Evl (Ex)
open PySem.W (Datum Tup DatumOrd)
def webStep (r : Str → List Str) (some : List Str) (F : List (List Str)) (x : Str) : List (List Str) := if F.filter (fun C => ngb false (decide (x ∈ C))) = [] then F ++ [sortD (joinO r some x)] else F
def websO (r : Str → List Str) (some : List Str) : List (List Str) := (sortD some).foldl (webStep r some) []
theorem webs_len (r : Str → List Str) (some : List Str) : ∀ (xs : List Str) (F : List (List Str)), (xs.foldl (webStep r some) F).length ≤ F.length + xs.length
  | [], F => Nat.le_refl _
  | x :: xs, F => by
    have h1 := webs_len r some xs (webStep r some F x)
    have h2 : (webStep r some F x).length ≤ F.length + 1 := by
      unfold webStep
      split <;> simp
    rw [List.length_cons]
    show (xs.foldl (webStep r some) (webStep r some F x)).length ≤ _
    omega
theorem webs_of (r : Str → List Str) (some : List Str) : ∀ (xs : List Str) (F : List (List Str)), (∀ C ∈ F, ∃ x ∈ some, C = sortD (joinO r some x)) → (∀ x ∈ xs, x ∈ some) → ∀ C ∈ xs.foldl (webStep r some) F, ∃ x ∈ some, C = sortD (joinO r some x)
  | [], F, h, _ => h
  | x :: xs, F, h, hx => webs_of r some xs (webStep r some F x) (fun C hC => by
      unfold webStep at hC
      split at hC
      · rcases List.mem_append.mp hC with hC | hC
        · exact h C hC
        · exact ⟨x, hx x List.mem_cons_self, List.mem_singleton.mp hC⟩
      · exact h C hC) fun y hy => hx y (List.mem_cons_of_mem _ hy)
theorem webs_mono (r : Str → List Str) (some : List Str) : ∀ (xs : List Str) (F : List (List Str)), ∀ C ∈ F, C ∈ xs.foldl (webStep r some) F
  | [], F, C, h => h
  | x :: xs, F, C, h => webs_mono r some xs (webStep r some F x) C (by
      unfold webStep
      split
      · exact List.mem_append_left _ h
      · exact h)
theorem webs_all (r : Str → List Str) (some : List Str) (nd : some.Nodup) : ∀ (xs : List Str) (F : List (List Str)), ∀ x ∈ xs, ∃ C ∈ xs.foldl (webStep r some) F, x ∈ C
  | y :: xs, F, x, hx => by
    rcases List.mem_cons.mp hx with e | hx
    · subst e
      have h1 : ∃ C ∈ webStep r some F x, x ∈ C := by
        unfold webStep
        split
        · exact ⟨_, List.mem_append_right _ (List.mem_singleton.mpr rfl), mem_sortD.mpr (joinN_len r some x nd some.length).2.2.1⟩
        · rename_i h
          obtain ⟨C, hC⟩ := List.exists_mem_of_ne_nil _ h
          rw [List.mem_filter] at hC
          exact ⟨C, hC.1, by simpa [ngb] using hC.2⟩
      obtain ⟨C, hC, hxC⟩ := h1
      exact ⟨C, webs_mono r some xs _ C hC, hxC⟩
    · exact webs_all r some nd xs _ x hx
theorem bb1 : ∀ {a b : Bool}, (!a || !b) = true → (a && b) = false := by decide
theorem bb2 : ∀ {a b : Bool}, (!a || !b) = false → (a && b) = true := by decide
def fitsB (r : Str → List Str) (hits : List Str) (webs : List (List Str)) (part : List Str) : Bool := decide ((part.filter fun x => ngb true (decide (x ∈ hits))) = []) && freeB r part && decide ((webs.filter fun C => decide ((C.filter fun x => ngb false (decide (x ∈ part))) = [])) = [])
section
variable {K : PySem.W.Frag}
abbrev sp_Lwebs (K : PySem.W.Frag) : Sp := Fn2 K WebPre fun d some => websO (look d) some
def N_Lwebs : List Str := ["_law_table_here", "_law_some", "_law_webs_here", "_law_name", "_law_web_here"]
def t_Lwebs (K : PySem.W.Frag) : TS :=
  (tSeq (tAsg (tLst tNil) (gName 2))
    (tSeq (tFor (iSeq K (tCB (rSortU K) (tCons (tVar 1) tNil))) (gName 3) (tIfS (tTest (tOp (rEqP K) (tLc (iSeq K (tVar 2)) (gName 4) (tTest (tOp (rInU K false) (tVar 3) (tVar 4))) (tVar 4) [4]) (tLst tNil))) (tDrop (tBM K "list" (rAppend) (tVar 2) (tCons (tCall (sp_Lweb K) [] E0 (tCons (tVar 0) (tCons (tVar 1) (tCons (tVar 3) tNil)))) tNil))) tNext))
    (tRet (tVar 2))))
theorem l_Lwebs (vs : List V) (H : Hp) (Q : VK) (E : XK) (h : sp_Lwebs K vs H Q E) : vs.length = 2 := Fn2.len vs H Q E h
theorem r_Lwebs (vs : List V) (H : Hp) (Q : VK) (E : XK) (h : sp_Lwebs K vs H Q E) : t_Lwebs K (Ends.ret Q) (start N_Lwebs vs) H := by
  obtain ⟨d, some, B, hp, s, q⟩ := Fn2.st h N_Lwebs
  obtain ⟨nd, z1, hl⟩ := id hp
  refine s.new (List Str) fun l σ1 H1 s1 => ?_
  replace s1 : St K [] B H [lstC K l ([] : List (List Str))] [ce d, ce some, ca l, none, none] σ1 B H1 := s1
  refine s1.forG (D := { Ends.ret Q with nx := _ }) (δ := Unit) (it_seqL (xs := sortD some) (e_sortSq ((s1.v (x := some) 1 rfl).imp sq_list) (sortable_str _))) (fun done _ => [lstC K l (done.foldl (webStep (look d) some) [])]) (fun _ _ => [ce d, ce some, ca l, none, none]) (fun _ _ => True) ⟨(), trivial, fun _ _ s2 => s2⟩ (fun done x rest _ ex _ v σ' B' H' N hN s2 hv => ?_) fun _ _ σ' B' H' s2 => ?_
  · have hdl := congrArg List.length ex
    rw [sortD_len, List.length_append, List.length_cons] at hdl
    obtain ⟨F, hF⟩ : ∃ F, F = done.foldl (webStep (look d) some) [] := ⟨_, rfl⟩
    have hFl : F.length ≤ 100 := by
      have := webs_len (look d) some done []
      rw [hF]
      simp at this
      omega
    have hsn : (done ++ [x]).foldl (webStep (look d) some) [] = webStep (look d) some F x := by rw [hF]; simp
    rw [← hF] at s2
    have s3 := s2.here.put 3 hv
    replace s3 : St K [l] B' H' [lstC K l F] [ce d, ce some, ca l, ce x, none] _ B' H' := s3
    refine s3.iteT (i := 2) (k := 0) (l := l) (xs := F) rfl rfl (fun B4 b4 sl => t_test (e_eq (sl.lcF (j := 4) (fun C => ngb false (decide (x ∈ C))) (it_seqL (sl.v (x := F) 2 rfl)) (by omega) fun C _ σ5 B5 b5 s5 => ⟨t_test (e_inL (s5.v (x := x) 3 rfl) (s5.v (x := C) 4 rfl) false), rfl⟩) (e_lst0 (α := List Str)))) (fun hb B4 H4 s4 => ?_) fun hb B4 H4 s4 => ?_
    · refine s4.app (i := 2) (k := 0) (l := l) (xs := F) (x := sortD (joinO (look d) some x)) rfl rfl (e_call3 (x := d) (y := some) (z := x) (pre := fun (d : Dic (List Str)) (some : List Str) (_ : Str) => WebPre d some) (f := fun d some x => sortD (joinO (look d) some x)) (s4.v 0 rfl) (s4.v 1 rfl) (s4.v 3 rfl) hp) (by omega) fun B5 H5 s5 => hN () (B3 := B5) trivial ?_
      rw [hsn, webStep, if_pos (of_decide_eq_true hb)]
      exact s5.fg [3]
    · refine hN () (B3 := B4) trivial ?_
      rw [hsn, webStep, if_neg (of_decide_eq_false hb)]
      exact s4.fg [3]
  · obtain ⟨B5, b5, s5⟩ := s2.frz (i := 2) (k := 0) (l := l) (xs := (sortD some).foldl (webStep (look d) some) []) rfl rfl (fun hm => by cases hm)
    replace s5 : St K [] B H [] [ce d, ce some, ce ((sortD some).foldl (webStep (look d) some) []), none, none] σ' B5 H' := s5
    dsimp only
    exact St.ret (x := (sortD some).foldl (webStep (look d) some) []) s5 (s5.v 2 rfl) fun v B6 H6 s6 hv => q v B6 H6 s6.toUp hv
abbrev sp_Lfits (K : PySem.W.Frag) : Sp := Fn4 K (fun (d : Dic (List Str)) (hits : List Str) (webs : List (List Str)) (part : Tup Str) => (TabL d part.items ∧ part.items.length ≤ 1000) ∧ webs.length ≤ 1000 ∧ ∀ C ∈ webs, C.length ≤ 1000) fun d hits webs part => fitsB (look d) hits webs part.items
def N_Lfits : List Str := ["_law_table_here", "_law_hits_here", "_law_webs_here", "_law_part", "_law_name", "_law_web_here"]
def t_Lfits (K : PySem.W.Frag) : TS :=
  (tSeq (tIfS (tOr (tTest (tOp (rNeP K) (tLc (iSeq K (tVar 3)) (gName 4) (tTest (tOp (rInU K true) (tVar 4) (tVar 1))) (tVar 4) [4]) (tLst tNil))) (tNot (tB (tCall (sp_Lfree K) [] E0 (tCons (tVar 0) (tCons (tVar 3) tNil)))))) (tRet (tC (.bl false))) tNext)
    (tRet (tOp (rEqP K) (tLc (iSeq K (tVar 2)) (gName 5) (tTest (tOp (rEqP K) (tLc (iSeq K (tVar 5)) (gName 4) (tTest (tOp (rInU K false) (tVar 4) (tVar 3))) (tVar 4) [4]) (tLst tNil))) (tVar 5) [5]) (tLst tNil))))
theorem l_Lfits (vs : List V) (H : Hp) (Q : VK) (E : XK) (h : sp_Lfits K vs H Q E) : vs.length = 4 := Fn4.len vs H Q E h
theorem r_Lfits (vs : List V) (H : Hp) (Q : VK) (E : XK) (h : sp_Lfits K vs H Q E) : t_Lfits K (Ends.ret Q) (start N_Lfits vs) H := by
  obtain ⟨d, hits, webs, ⟨part⟩, B, ⟨⟨ht, hz⟩, z1, z2⟩, s, q⟩ := Fn4.st h N_Lfits
  have hz' : part.length ≤ 1000 := hz
  replace s : St K [] B H [] [ce d, ce hits, ce webs, ce (Tup.mk part), none, none] _ B H := s
  obtain ⟨a, ha⟩ : ∃ a, a = decide ((part.filter fun x => ngb true (decide (x ∈ hits))) = []) := ⟨_, rfl⟩
  obtain ⟨b, hb⟩ : ∃ b, b = freeB (look d) part := ⟨_, rfl⟩
  have hres : fitsB (look d) hits webs part = (a && b && decide ((webs.filter fun C => decide ((C.filter fun x => ngb false (decide (x ∈ part))) = [])) = [])) := by rw [ha, hb]; rfl
  have q' : ∀ v B2 H2, Up B H B2 H2 → Rep.at_ K B2 v (a && b && decide ((webs.filter fun C => decide ((C.filter fun x => ngb false (decide (x ∈ part))) = [])) = [])) → Q v H2 := by rw [← hres]; exact q
  refine s.ite (b := !a || !b) (t_or (t_test ((e_ne (s.sl.lcF (j := 4) (fun x => ngb true (decide (x ∈ hits))) (it_seqT (s.v (x := Tup.mk part) 3 rfl)) (by omega) fun z _ σ1 B1 b1 s1 => ⟨t_test (e_inL (s1.v (x := z) 4 rfl) (s1.v (x := hits) 1 rfl) true), rfl⟩) (e_lst0 (α := Str))).is (by rw [ha]))) fun _ => t_not (t_B ((e_call2 (x := d) (y := Tup.mk part) (f := fun d part => freeB (look d) part.items) (s.v 0 rfl) (s.v 3 rfl) ⟨ht, hz⟩).is hb.symm))) (fun hbt B1 H1 s1 => ?_) fun hbf B1 H1 s1 => ?_
  · refine St.ret (x := false) s1 e_bl fun v B2 H2 s2 hv => q' v B2 H2 s2.toUp ?_
    rw [bb1 hbt]
    exact hv
  · rw [bb2 hbf, Bool.true_and] at q'
    exact St.ret (D := Ends.ret Q) (x := decide ((webs.filter fun C => decide ((C.filter fun x => ngb false (decide (x ∈ part))) = [])) = [])) s1 (e_eq (s1.sl.lcF (j := 5) (fun C => decide ((C.filter fun x => ngb false (decide (x ∈ part))) = [])) (it_seqL (s1.v (x := webs) 2 rfl)) (by omega) fun C hC σ2 B2 b2 s2 => ⟨t_test (e_eq (s2.lcF (j := 4) (fun x => ngb false (decide (x ∈ part))) (it_seqL (s2.v (x := C) 5 rfl)) (by have := z2 C hC; omega) fun z _ σ3 B3 b3 s3 => ⟨t_test (e_inT (s3.v (x := z) 4 rfl) (s3.v (x := Tup.mk part) 3 rfl) false), rfl⟩) (e_lst0 (α := Str))), rfl⟩) (e_lst0 (α := List Str))) fun v B2 H2 s2 hv => q' v B2 H2 s2.toUp hv
end
def stayAll (r : Str → List Str) (hits : List Str) : List (Tup Str) := sortD ((partsO (sortD hits)).filter fun t => fitsB r hits (websO r hits) t.items)
/-- what the parts hold -/
theorem parts_sub (xs : List Str) : ∀ t ∈ partsO xs, t.items.Sublist xs := by
  have key : ∀ n, ∀ xs : List Str, xs.length = n → ∀ t ∈ partsO xs, t.items.Sublist xs := by
    intro n
    induction n with
    | zero =>
      intro xs h t ht
      rw [List.eq_nil_of_length_eq_zero h] at ht ⊢
      rw [List.mem_singleton.mp ht]
      exact List.Sublist.refl _
    | succ n ih =>
      intro xs h t ht
      have hne : xs ≠ [] := fun z => by rw [z] at h; cases h
      have hd : xs.dropLast.length = n := by rw [List.length_dropLast]; omega
      have hx := List.dropLast_concat_getLast hne
      rw [← hx, partsO_snoc] at ht
      rw [← hx]
      rcases List.mem_append.mp ht with ht | ht
      · exact (ih _ hd t ht).trans (List.sublist_append_left _ _)
      · obtain ⟨u, hu, rfl⟩ := List.mem_map.mp ht
        exact (ih _ hd u hu).append (List.Sublist.refl _)
  exact key _ xs rfl
section
variable {K : PySem.W.Frag}
abbrev sp_Lall_stay (K : PySem.W.Frag) : Sp := Fn2 K (fun (d : Dic (List Str)) (hits : List Str) => WebPre d hits ∧ hits.length ≤ 12) fun d hits => stayAll (look d) hits
def N_Lall_stay : List Str := ["_law_table_here", "_law_hits_here", "_law_webs_here", "_law_part"]
def t_Lall_stay (K : PySem.W.Frag) : TS :=
  (tSeq (tAsg (tCall (sp_Lwebs K) [] E0 (tCons (tVar 0) (tCons (tVar 1) tNil))) (gName 2))
    (tRet (tCB (rSortU K) (tCons (tLc (iSeq K (tCall (sp_Lparts K) [] E0 (tCons (tVar 1) tNil))) (gName 3) (tB (tCall (sp_Lfits K) [] E0 (tCons (tVar 0) (tCons (tVar 1) (tCons (tVar 2) (tCons (tVar 3) tNil)))))) (tVar 3) [3]) tNil))))
theorem l_Lall_stay (vs : List V) (H : Hp) (Q : VK) (E : XK) (h : sp_Lall_stay K vs H Q E) : vs.length = 2 := Fn2.len vs H Q E h
theorem r_Lall_stay (vs : List V) (H : Hp) (Q : VK) (E : XK) (h : sp_Lall_stay K vs H Q E) : t_Lall_stay K (Ends.ret Q) (start N_Lall_stay vs) H := by
  obtain ⟨d, hits, B, ⟨hp, h12⟩, s, q⟩ := Fn2.st h N_Lall_stay
  obtain ⟨nd, z1, hl⟩ := id hp
  obtain ⟨W, hW⟩ : ∃ W, W = websO (look d) hits := ⟨_, rfl⟩
  have hWl : W.length ≤ 100 := by
    have := webs_len (look d) hits (sortD hits) []
    rw [hW]
    show ((sortD hits).foldl (webStep (look d) hits) []).length ≤ 100
    rw [sortD_len] at this
    simp at this
    omega
  have hWi : ∀ C ∈ W, C.length ≤ 1000 := fun C hC => by
    rw [hW] at hC
    obtain ⟨x, _, rfl⟩ := webs_of (look d) hits (sortD hits) [] (fun C hC => nomatch hC) (fun x hx => mem_sortD.mp hx) C hC
    have := joinO_len (r := look d) (x := x) nd
    rw [sortD_len]
    omega
  have hpl : (partsO (sortD hits)).length ≤ 4096 := by
    rw [partsO_len, sortD_len]
    exact Nat.le_trans (Nat.pow_le_pow_right (by decide) h12) (by decide)
  replace s : St K [] B H [] [ce d, ce hits, none, none] _ B H := s
  refine s.set (x := W) ((e_call2 (x := d) (y := hits) (f := fun d some => websO (look d) some) (s.v 0 rfl) (s.v 1 rfl) hp).is hW.symm) fun σ1 B1 H1 s1 => ?_
  replace s1 : St K [] B H [] [ce d, ce hits, ce W, none] σ1 B1 H1 := s1
  refine s1.ret (x := sortD ((partsO (sortD hits)).filter fun t => fitsB (look d) hits W t.items)) (e_sortSqT ((s1.sl.lcF (j := 3) (fun t : Tup Str => fitsB (look d) hits W t.items) (it_seqL (e_call1 (x := Sq.mk hits) (f := fun s => partsO (sortD s.items)) ((s1.v (x := hits) 1 rfl).imp sq_list) (by show hits.length ≤ 14; omega))) (by show (partsO (sortD hits)).length ≤ 1000000; omega) fun t ht σ2 B2 b2 s2 => ⟨t_B (e_call4 (x := d) (y := hits) (z := W) (t := t) (pre := fun (d : Dic (List Str)) (hits : List Str) (webs : List (List Str)) (part : Tup Str) => (TabL d part.items ∧ part.items.length ≤ 1000) ∧ webs.length ≤ 1000 ∧ ∀ C ∈ webs, C.length ≤ 1000) (f := fun d hits webs part => fitsB (look d) hits webs part.items) (s2.v 0 rfl) (s2.v 1 rfl) (s2.v 2 rfl) (s2.v 3 rfl) ⟨⟨fun x hx => hl x (mem_sortD.mp ((parts_sub _ t ht).subset hx)), by
    have h9 : t.items.length ≤ hits.length := by
      have := (parts_sub _ t ht).length_le
      rwa [sortD_len] at this
    omega⟩, by omega, hWi⟩), rfl⟩).imp sq_list) (allTup_tup _)) fun v B2 H2 s2 hv => q v B2 H2 s2.toUp ?_
  show Rep.at_ K B2 v (sortD ((partsO (sortD hits)).filter fun t => fitsB (look d) hits (websO (look d) hits) t.items))
  rw [← hW]
  exact hv
end
end Ob

set_option Elab.async false
set_option linter.all false
set_option maxRecDepth 100000
set_option maxHeartbeats 4000000
/-! Y8: _law_is_sure, _law_hits (k76). -/
namespace Ob
open PySem L2
open Evl (Ex)
open PySem.W (Datum Tup DatumOrd)
def isSureB (r : Str → List Str) (P L : List Str) (s o : Str) : Bool := if ngb false (decide (s ∈ barO r L o)) = true then true else decide (((sortD (joinO r (insO r P L o) s)).filter fun x => ngb false (decide (x ∈ L))) = [])
theorem isSure_iff {rv r : Str → List Str} {P L : List Str} {s o : Str} (pnd : P.Nodup) (hs : s ∈ P) (ho : o ∈ P) (S : StayO rv P L) (hm : ∀ x ∈ P, ∀ y, y ∈ r x ↔ y ∈ rv x) (sym : ∀ x y, y ∈ rv x ↔ x ∈ rv y) : isSureB r P L s o = sureB rv P L s o := by
  have hins : ∀ x, x ∈ insO r P L o ↔ x ∈ insO rv P L o := fun x => by
    rw [mem_insO, mem_insO, hm o ho]
  have hbar : s ∈ barO r L o ↔ s ∉ insO rv P L o := by
    rw [mem_barO, mem_insO, hm o ho]
    constructor
    · rintro (h | ⟨h1, h2⟩)
      · exact fun z => z.2.1 h
      · exact fun z => z.2.2 h1 h2
    · intro h
      refine Classical.byContradiction fun hn => h ⟨hs, fun e => hn (.inl e), fun h1 h2 => hn (.inr ⟨h1, h2⟩)⟩
  have hj : ∀ z, z ∈ joinO r (insO r P L o) s ↔ Reach rv (insO rv P L o) s z := fun z => by
    rw [mem_joinO (rv := rv) (r := r) (names := insO r P L o) (x := s) (pnd.filter _) fun x hx y => (hm x (ins_sub hx) y).trans (sym x y)]
    exact ⟨fun h => h.mono fun w hw => (hins w).mp hw, fun h => h.mono fun w hw => (hins w).mpr hw⟩
  rw [Bool.eq_iff_iff, sureB_iff]
  unfold isSureB
  by_cases hb : s ∈ barO r L o
  · rw [if_pos (by simp [ngb, hb])]
    exact ⟨fun _ h => hbar.mp hb h.1, fun _ => rfl⟩
  · rw [if_neg (by simp [ngb, hb]), decide_eq_true_iff, List.filter_eq_nil_iff]
    have hsi : s ∈ insO rv P L o := Classical.byContradiction fun h => hb (hbar.mpr h)
    constructor
    · rintro h ⟨_, e, he, hr⟩
      exact h e (mem_sortD.mpr ((hj e).mpr hr)) (by simp [ngb, (mem_endsO.mp he).1])
    · intro h z hz hl
      have hzL : z ∈ L := by simpa [ngb] using hl
      have hr := (hj z).mp (mem_sortD.mp hz)
      have hzi := hr.sw hsi
      exact h ⟨hsi, z, mem_endsO.mpr ⟨hzL, (mem_insO.mp hzi).2.1⟩, hr⟩
section
variable {K : PySem.W.Frag}
abbrev sp_Lis_sure (K : PySem.W.Frag) : Sp := Fn5R K (fun (d : TabR) (P : List Str) (L : Tup Str) (_ o : Str) => (WebPre (Dic.mk d.kvs) P ∧ o ∈ P) ∧ L.items.length ≤ 1000) fun d P L s o (b : Bool) => b = isSureB (look (Dic.mk d.kvs)) P L.items s o
def N_Lis_sure : List Str := ["_law_table_here", "_law_hits_here", "_law_lit", "_law_mine", "_law_its", "_law_barred", "_law_left_here", "_law_name"]
def t_Lis_sure (K : PySem.W.Frag) : TS :=
  (tSeq (tAsg (tOp (rAddU K) (tLst (tCons (tVar 4) tNil)) (tOp (rRepR) (tOp (rIxU K) (tVar 0) (tVar 4)) (tCB (rInt1) (tCons (tOp (rInU K false) (tVar 4) (tVar 2)) tNil)))) (gName 5))
    (tSeq (tAsg (tLc (iSeq K (tVar 1)) (gName 7) (tTest (tOp (rInU K true) (tVar 7) (tVar 5))) (tVar 7) [7]) (gName 6))
    (tSeq (tIfS (tTest (tOp (rInU K false) (tVar 3) (tVar 5))) (tRet (tC (.bl true))) tNext)
    (tRet (tOp (rEqP K) (tLc (iSeq K (tCall (sp_Lweb K) [] E0 (tCons (tVar 0) (tCons (tVar 6) (tCons (tVar 3) tNil))))) (gName 7) (tTest (tOp (rInU K false) (tVar 7) (tVar 2))) (tVar 7) [7]) (tLst tNil))))))
theorem l_Lis_sure (vs : List V) (H : Hp) (Q : VK) (E : XK) (h : sp_Lis_sure K vs H Q E) : vs.length = 5 := Fn5R.len vs H Q E h
theorem r_Lis_sure (vs : List V) (H : Hp) (Q : VK) (E : XK) (h : sp_Lis_sure K vs H Q E) : t_Lis_sure K (Ends.ret Q) (start N_Lis_sure vs) H := by
  obtain ⟨⟨kvs⟩, P, ⟨L⟩, st, o, B, ⟨⟨⟨pnd, z1, hl⟩, ho⟩, z2⟩, s, q⟩ := Fn5R.st h N_Lis_sure
  have hl' : TabL (Dic.mk kvs) P := hl
  have z2' : L.length ≤ 1000 := z2
  obtain ⟨r, hr⟩ : ∃ r, r = look (Dic.mk kvs) := ⟨_, rfl⟩
  have q' : ∀ v B2 H2, Up B H B2 H2 → Rep.at_ K B2 v (isSureB r P L st o) → Q v H2 := fun v B2 H2 u hv => q v _ B2 H2 u (by rw [hr]) hv
  have hk := hl' o ho
  replace s : St K [] B H [] [ce (TabR.mk kvs), ce P, ce (Tup.mk L), ce st, ce o, none, none, none] _ B H := s
  have hd : ∀ {σ : L2.St} {B' : Hp} {te : TE}, Pe K te σ B' (TabR.mk kvs) → Pe K te σ B' (Dic.mk kvs) := fun h => h.imp tabR_dic
  have hbl : (barO r L o).length ≤ 1001 := by
    have := hk.2
    unfold barO
    rw [hr]
    split <;> simp <;> omega
  refine s.set (x := barO r L o) (e_addL (e_lst1 (s.v (x := o) 4 rfl)) ((e_tabRep (c := ngb false (decide (o ∈ L))) (s.v (x := TabR.mk kvs) 0 rfl) (s.v (x := o) 4 rfl) (look_of hk.1) (by have := hk.2; omega) (e_intB (e_inT (s.v (x := o) 4 rfl) (s.v (x := Tup.mk L) 2 rfl) false))).is (by rw [hr])) (by
    have := hk.2
    rw [hr]
    split <;> simp <;> omega)) fun σ1 B1 H1 s1 => ?_
  replace s1 : St K [] B H [] [ce (TabR.mk kvs), ce P, ce (Tup.mk L), ce st, ce o, ce (barO r L o), none, none] σ1 B1 H1 := s1
  refine s1.set (x := insO r P L o) (s1.sl.lcF (j := 7) (fun x => ngb true (decide (x ∈ barO r L o))) (it_seqL (s1.v (x := P) 1 rfl)) (by omega) fun z _ σ4 B4 b4 s4 => ⟨t_test (e_inL (s4.v (x := z) 7 rfl) (s4.v (x := barO r L o) 5 rfl) true), rfl⟩) fun σ2 B2 H2 s2 => ?_
  replace s2 : St K [] B H [] [ce (TabR.mk kvs), ce P, ce (Tup.mk L), ce st, ce o, ce (barO r L o), ce (insO r P L o), none] σ2 B2 H2 := s2
  have hil : (insO r P L o).length ≤ P.length := List.length_filter_le _ _
  have hind : (insO r P L o).Nodup := pnd.filter _
  refine s2.ite (b := ngb false (decide (st ∈ barO r L o))) (t_test (e_inL (s2.v (x := st) 3 rfl) (s2.v (x := barO r L o) 5 rfl) false)) (fun hb B3 H3 s3 => ?_) fun hb B3 H3 s3 => ?_
  · refine St.ret (D := Ends.ret Q) (x := true) s3 e_bl fun v B4 H4 s4 hv => q' v B4 H4 s4.toUp ?_
    unfold isSureB
    rw [if_pos hb]
    exact hv
  · have hjl := joinO_len (r := r) (x := st) hind
    refine St.ret (D := Ends.ret Q) (x := decide (((sortD (joinO r (insO r P L o) st)).filter fun x => ngb false (decide (x ∈ L))) = [])) s3 (e_eq (s3.sl.lcF (j := 7) (fun x => ngb false (decide (x ∈ L))) (it_seqL ((e_call3 (x := Dic.mk kvs) (y := insO r P L o) (z := st) (pre := fun (d : Dic (List Str)) (some : List Str) (_ : Str) => WebPre d some) (f := fun d some x => sortD (joinO (look d) some x)) (hd (s3.v (x := TabR.mk kvs) 0 rfl)) (s3.v 6 rfl) (s3.v 3 rfl) ⟨hind, by omega, fun x hx => hl' x (ins_sub hx)⟩).is (by rw [hr]))) (by rw [sortD_len]; omega) fun z _ σ4 B4 b4 s4 => ⟨t_test (e_inT (s4.v (x := z) 7 rfl) (s4.v (x := Tup.mk L) 2 rfl) false), rfl⟩) (e_lst0 (α := Str))) fun v B4 H4 s4 hv => q' v B4 H4 s4.toUp ?_
    unfold isSureB
    rw [if_neg (by rw [hb]; decide)]
    exact hv
end
section
variable {K : PySem.W.Frag} {σ : L2.St} {B : Hp} {ta tb : TE} {tt : TT} {b : Addr} {n m : Int}
theorem b_ifT {α : Type} [Rep α] {R : α → Prop} (h : Ptb b n tt σ B (fun _ => True)) (h1 : Pb K b m ta σ B R) (h2 : Pb K b m tb σ B R) (hm : 0 ≤ m) : Pb K b (n + m) (tIf tt ta tb) σ B R := fun H c e bx hc Q q =>
  h H c e bx (by omega) (fun k H1 => if k = true then ta σ H1 Q else tb σ H1 Q) fun k B1 H1 u1 ub1 _ => by
    cases k with
    | true => exact (h1.mono u1.bb) H1 (c + n) u1.bh ub1 (by omega) Q fun v x B2 H2 u2 ub2 r2 hv => q v x B2 H2 (u1.trans ub1.ne u2) (ub2.le (by omega)) r2 hv
    | false => exact (h2.mono u1.bb) H1 (c + n) u1.bh ub1 (by omega) Q fun v x B2 H2 u2 ub2 r2 hv => q v x B2 H2 (u1.trans ub1.ne u2) (ub2.le (by omega)) r2 hv
/-- xs[:k], xs drawn -/
theorem b_slD {α : Type} [DecidableEq α] [Datum α] {R : List α → Prop} {k : Int} (h : Pb K b n ta σ B R) (hb : Pe K tb σ B k) : Pb K b n (tSl (rSlU K) ta tNoPart (tPart tb)) σ B (fun ys : List α => ∃ xs, R xs ∧ ys.Sublist xs) := fun H c e bx hc Q q =>
  h H c e bx hc _ fun v xs B1 H1 u1 bx1 r1 hv => by
    have key : tSl (rSlU K) (tC v) tNoPart (tPart tb) σ H1 Q := (e_slL (e_const hv) o_none (o_some (hb.mono u1.bb))) H1 u1.bh Q fun z B3 H3 u3 hz => q z _ B3 H3 (u1.up bx1.ne u3) (u3.box bx1) ⟨xs, r1, (List.take_sublist _ _).trans (List.drop_sublist _ _)⟩ hz
    exact key
end
section
variable {K : PySem.W.Frag}
abbrev sp_Lhits (K : PySem.W.Frag) : Sp := FnB2 K 10003 (fun (p : Pan) (n : Int) => (p.sw.Nodup ∧ p.sw.length ≤ 100) ∧ 0 ≤ n ∧ n ≤ 1000) (fun p _ (ys : List Str) => ys.Nodup ∧ ∀ x ∈ ys, x ∈ p.sw)
def N_Lhits : List Str := ["_law_box_here", "_law_wired_here", "_law_most", "_law_size"]
def t_Lhits (K : PySem.W.Frag) : TS :=
  (tSeq (tAsg (tCB (rMinU) (tCons (tVar 2) (tCons (tCB (rLenU K) (tCons (tOp (rIxU K) (tVar 1) (tC (.int 0))) tNil)) tNil))) (gName 3))
    (tSeq (tAsg (tIf (tTest (tOp (rGtU K) (tCall (sp_Ltake K) [] E0 (tCons (tVar 0) (tCons (tC (.int 3)) tNil))) (tC (.int 0)))) (tVar 3) (tCall (sp_Ltake K) [] E0 (tCons (tVar 0) (tCons (tOp (rAddU K) (tVar 3) (tC (.int 1))) tNil)))) (gName 3))
    (tRet (tSl (rSlU K) (tCall (sp_Lstrewn K) [] E0 (tCons (tVar 0) (tCons (tOp (rIxU K) (tVar 1) (tC (.int 0))) tNil))) tNoPart (tPart (tVar 3))))))
theorem l_Lhits (vs : List V) (H : Hp) (Q : VK) (E : XK) (h : sp_Lhits K vs H Q E) : vs.length = 3 := FnB2.len vs H Q E h
theorem r_Lhits (vs : List V) (H : Hp) (Q : VK) (E : XK) (h : sp_Lhits K vs H Q E) : t_Lhits K (Ends.ret Q) (start N_Lhits vs) H := by
  obtain ⟨b, c, p, n, B, ⟨⟨nd, z1⟩, n0, n1⟩, hc, s, q⟩ := FnB2.st h N_Lhits
  obtain ⟨m, hm⟩ : ∃ m : Int, m = (if (p.sw.length : Int) < n then (p.sw.length : Int) else n) := ⟨_, rfl⟩
  have hm0 : 0 ≤ m ∧ m ≤ 1000 := by
    rw [hm]
    split <;> omega
  refine s.set (x := m) ((e_minI (s.v (x := n) 2 rfl) (e_lenSq (e_sw (s.v (x := p) 1 rfl)))).is hm.symm) fun σ1 B1 H1 s1 => ?_
  replace s1 : St K [b] B H [boxC b c] [ca b, ce p, ce n, ce m] σ1 B1 H1 := s1
  refine s1.setB (n := 1 + 1) (R := fun _ : Int => True) (b_ifT (ptb_test ((b_opL (f := fun z : Int => DatumOrd.lt (0 : Int) z) (x_take (b := b) (i := 0) rfl s1.sl (e_int (i := 3)) (by decide) (by decide)) (e_int (i := 0)) (fun _ _ => rd_gt)).imp fun _ _ => trivial)) (((s1.v (x := m) 3 rfl).pb.imp fun _ _ => trivial).le (by decide)) ((x_take (b := b) (i := 0) rfl s1.sl (e_addI (s1.v (x := m) 3 rfl) (e_int (i := 1))) (by omega) (by omega)).imp fun _ _ => trivial) (by decide)) (by omega) fun k _ σ2 B2 H2 s2 => ?_
  replace s2 : St K [b] B H [boxC b (c + (1 + 1))] [ca b, ce p, ce n, ce k] σ2 B2 H2 := s2
  refine s2.retB (n := 10000) (b_slD (e_strewn (b := b) (i := 0) (s2.sl.rf 0 rfl) (e_sw (s2.v (x := p) 1 rfl)) (by omega)) (s2.v (x := k) 3 rfl)) (by omega) fun v ys hys B3 H3 s3 hv => ?_
  obtain ⟨xs, hxs, hsub⟩ := hys
  exact q v _ _ _ _ B3 H3 (s3.le (by omega)) ⟨(hxs.nodup_iff.mpr nd).sublist hsub, fun x hx => hxs.mem_iff.mp (hsub.subset hx)⟩ hv
end
end Ob

set_option Elab.async false
set_option linter.all false
set_option maxRecDepth 100000
set_option maxHeartbeats 4000000
/-! M19: the sets that stay (k76): what stayAll holds, and that it isn't empty. Plain Lean. -/
namespace Ob
open PySem L2
open PySem.W (Datum Tup DatumOrd)
theorem parts_all (xs : List Str) : ∀ ys, ys.Sublist xs → Tup.mk ys ∈ partsO xs := by
  have key : ∀ n, ∀ xs : List Str, xs.length = n → ∀ ys, ys.Sublist xs → Tup.mk ys ∈ partsO xs := by
    intro n
    induction n with
    | zero =>
      intro xs hn ys hy
      have : xs = [] := List.length_eq_zero_iff.mp hn
      subst this
      rw [List.sublist_nil.mp hy]
      simp [partsO]
    | succ n ih =>
      intro xs hn ys hy
      have hne : xs ≠ [] := by intro e; rw [e] at hn; simp at hn
      rw [← List.dropLast_concat_getLast hne] at hy ⊢
      rw [partsO_snoc, List.mem_append]
      have hl : xs.dropLast.length = n := by rw [List.length_dropLast]; omega
      obtain ⟨l1, l2, e, h1, h2⟩ := List.sublist_append_iff.mp hy
      have h3 : l2 = [] ∨ l2 = [xs.getLast hne] := by
        cases h2 with
        | cons _ h => exact .inl (List.sublist_nil.mp h)
        | cons_cons _ h => rw [List.sublist_nil.mp h]; exact .inr rfl
      rcases h3 with z | z
      · rw [e, z, List.append_nil]
        exact .inl (ih _ hl l1 h1)
      · rw [e, z]
        exact .inr (List.mem_map.mpr ⟨_, ih _ hl l1 h1, rfl⟩)
  exact key _ xs rfl
theorem fits_iff {r : Str → List Str} {hits : List Str} {webs : List (List Str)} {part : List Str} : fitsB r hits webs part = true ↔ (∀ x ∈ part, x ∈ hits) ∧ (∀ x ∈ part, ∀ m ∈ part, m ∉ r x) ∧ ∀ C ∈ webs, ∃ x ∈ C, x ∈ part := by
  unfold fitsB freeB
  simp only [Bool.and_eq_true, decide_eq_true_eq, List.filter_eq_nil_iff, ngb, if_true, Bool.not_eq_true', Bool.false_eq_true, if_false, decide_eq_false_iff_not, and_assoc, Classical.not_not]
  refine and_congr Iff.rfl (and_congr Iff.rfl ?_)
  refine forall_congr' fun C => forall_congr' fun _ => ?_
  constructor
  · intro h
    refine Classical.byContradiction fun k => h fun x hx hp => k ⟨x, hx, hp⟩
  · rintro ⟨x, hx, hp⟩ h
    exact h x hx hp
/-- taken greedily from the end -/
def takeO (r : Str → List Str) : List Str → List Str
  | [] => []
  | x :: xs => if (takeO r xs).filter (fun m => decide (m ∈ r x)) = [] then x :: takeO r xs else takeO r xs
theorem take_sub (r : Str → List Str) : ∀ xs, (takeO r xs).Sublist xs
  | [] => .slnil
  | x :: xs => by
    unfold takeO
    split
    · exact (take_sub r xs).cons₂ x
    · exact (take_sub r xs).cons x
theorem take_free (r : Str → List Str) (sym : ∀ x y, y ∈ r x ↔ x ∈ r y) (irr : ∀ x, x ∉ r x) : ∀ xs, ∀ x ∈ takeO r xs, ∀ m ∈ takeO r xs, m ∉ r x
  | [], x, h => absurd h List.not_mem_nil
  | a :: xs, x, h => by
    unfold takeO at h ⊢
    by_cases c : (takeO r xs).filter (fun m => decide (m ∈ r a)) = []
    · rw [if_pos c] at h ⊢
      rw [List.filter_eq_nil_iff] at c
      have c' : ∀ m ∈ takeO r xs, m ∉ r a := fun m hm k => c m hm (decide_eq_true k)
      intro m hm
      rcases List.mem_cons.mp h with e | e <;> rcases List.mem_cons.mp hm with e' | e'
      · rw [e, e']; exact irr a
      · rw [e]; exact c' m e'
      · rw [e']; exact fun k => c' x e ((sym _ _).mp k)
      · exact take_free r sym irr xs x e m e'
    · rw [if_neg c] at h ⊢
      exact take_free r sym irr xs x h
theorem take_max (r : Str → List Str) : ∀ xs, ∀ x ∈ xs, x ∈ takeO r xs ∨ ∃ m ∈ takeO r xs, m ∈ r x
  | [], x, h => absurd h List.not_mem_nil
  | a :: xs, x, h => by
    unfold takeO
    by_cases c : (takeO r xs).filter (fun m => decide (m ∈ r a)) = []
    · rw [if_pos c]
      rcases List.mem_cons.mp h with e | e
      · exact .inl (e ▸ List.mem_cons_self ..)
      · rcases take_max r xs x e with i | ⟨m, i, j⟩
        · exact .inl (List.mem_cons_of_mem _ i)
        · exact .inr ⟨m, List.mem_cons_of_mem _ i, j⟩
    · rw [if_neg c]
      rcases List.mem_cons.mp h with e | e
      · obtain ⟨m, hm⟩ := List.exists_mem_of_ne_nil _ c
        rw [List.mem_filter, decide_eq_true_eq] at hm
        exact .inr ⟨m, hm.1, e ▸ hm.2⟩
      · exact take_max r xs x e
variable {rv r : Str → List Str} {hits : List Str}
theorem web_mem (nd : hits.Nodup) (hm : ∀ z ∈ hits, ∀ y, y ∈ r z ↔ z ∈ rv y) {C : List Str} (hC : C ∈ websO r hits) : ∃ y ∈ hits, ∀ z, z ∈ C ↔ Reach rv hits y z := by
  obtain ⟨y, hy, e⟩ := webs_of r hits (sortD hits) [] (fun C h => absurd h List.not_mem_nil) (fun x hx => mem_sortD.mp hx) C hC
  refine ⟨y, hy, fun z => ?_⟩
  rw [e, mem_sortD]
  exact mem_joinO nd hm
theorem stay_of (nd : hits.Nodup) (sym : ∀ x y, y ∈ rv x ↔ x ∈ rv y) (hm : ∀ z ∈ hits, ∀ y, y ∈ r z ↔ z ∈ rv y) {t : Tup Str} (ht : t ∈ stayAll r hits) : StayO rv hits t.items ∧ t.items.Sublist (sortD hits) := by
  have ht' := List.mem_filter.mp (mem_sortD.mp ht)
  obtain ⟨f1, f2, f3⟩ := fits_iff.mp ht'.2
  refine ⟨⟨f1, fun x hx y hy k => f2 x hx y hy ((hm x (f1 x hx) y).mpr ((sym x y).mp k)), fun x hx => ?_⟩, parts_sub _ t ht'.1⟩
  obtain ⟨C, hC, hxC⟩ := webs_all r hits nd (sortD hits) [] x (mem_sortD.mpr hx)
  obtain ⟨y, hy, hz⟩ := web_mem nd hm hC
  obtain ⟨e, he, hp⟩ := f3 C hC
  exact ⟨e, hp, (Reach.symm sym hy ((hz x).mp hxC)).trans ((hz e).mp he)⟩
theorem stay_ne (nd : hits.Nodup) (sym : ∀ x y, y ∈ rv x ↔ x ∈ rv y) (irr : ∀ x, x ∉ rv x) (hm : ∀ z ∈ hits, ∀ y, y ∈ r z ↔ z ∈ rv y) : stayAll r hits ≠ [] := by
  have hsub := take_sub rv (sortD hits)
  have hin : ∀ x ∈ takeO rv (sortD hits), x ∈ hits := fun x hx => mem_sortD.mp (hsub.subset hx)
  refine List.ne_nil_of_mem (a := Tup.mk (takeO rv (sortD hits))) (mem_sortD.mpr (List.mem_filter.mpr ⟨parts_all _ _ hsub, fits_iff.mpr ⟨hin, fun x hx m hx' k => take_free rv sym irr _ x hx m hx' ((sym x m).mpr ((hm x (hin x hx) m).mp k)), fun C hC => ?_⟩⟩))
  obtain ⟨y, hy, hz⟩ := web_mem nd hm hC
  rcases take_max rv (sortD hits) y (mem_sortD.mpr hy) with h | ⟨m, h1, h2⟩
  · exact ⟨y, (hz y).mpr .refl, h⟩
  · exact ⟨m, (hz m).mpr (Reach.step .refl h2 (hin m h1)), h1⟩
end Ob


set_option Elab.async false
set_option linter.all false
set_option maxRecDepth 100000
set_option maxHeartbeats 4000000
/-! E76: _law_right and law of k76. -/
namespace Ob
open PySem L2
open Evl (Ex)
open PySem.W (Datum Tup DatumOrd)
theorem in_is {α : Type} {x : α} {ys : List α} {d : Decidable (x ∈ ys)} {c : Bool} (h : x ∈ ys ↔ c = true) : ngb false (@decide (x ∈ ys) d) = c := by
  cases c
  · exact decide_eq_false (fun k => by cases h.mp k)
  · exact decide_eq_true (h.mpr rfl)
theorem ngb_f {b : Bool} : ngb false b = b := rfl
theorem flat_len {α β : Type} (f : α → List β) (m : Nat) : ∀ xs : List α, (∀ x, (f x).length ≤ m) → (xs.flatMap f).length ≤ xs.length * m
  | [], _ => by simp
  | x :: xs, h => by
    rw [List.flatMap_cons, List.length_append, List.length_cons, Nat.succ_mul]
    have := flat_len f m xs h
    have := h x
    omega
theorem sureL_len {rv : Str → List Str} {P L : List Str} : (sureL rv P L).length ≤ P.length * P.length := by
  have h := flat_len (fun a => ((sortD P).filter fun b => !decide (a = b) && sureB rv P L a b).map fun b => (a, b)) P.length (sortD P) fun a => by
    rw [List.length_map]
    have := List.length_filter_le (fun b => !decide (a = b) && sureB rv P L a b) (sortD P)
    rwa [(sortD_perm P).length_eq] at this
  rwa [(sortD_perm P).length_eq] at h
section
variable {K : PySem.W.Frag} {W0 : List Addr} {B0 H0 : Hp} {os : List OC} {Γ : List (Option Cell)} {σ : L2.St} {B H : Hp} {tt : TT} {te : TE} {D : Ends} {tu tw : TS}
theorem St.yesL (s : St K W0 B0 H0 os Γ σ B H) (h : Pt tt σ B true) (k : ∀ B1 H1, St K W0 B0 H0 os Γ σ B1 H1 → tu D σ H1) : tIfS tt tu tw D σ H := h H s.bh (fun b H1 => if b = true then tu D σ H1 else tw D σ H1) fun B1 H1 u => k B1 H1 (s.up u)
theorem e_notNL {x : Mb (List Str)} (h : Pe K te σ B x) : Pe K (tOp rNotN te (tC .non)) σ B (!x.o.isNone) := fun H e Q q => h H e _ fun v B1 H1 u hv => by
  obtain ⟨o⟩ := x
  cases o with
  | none =>
    cases (show v = .non from hv)
    unfold rNotN
    exact ⟨rfl, q _ B1 H1 u (at_bl.mpr rfl)⟩
  | some t =>
    obtain ⟨a, vs, rfl, _⟩ := at_list.mp (show Rep.at_ K B1 v t from hv)
    unfold rNotN
    exact ⟨rfl, q _ B1 H1 u (at_bl.mpr rfl)⟩
end
section
variable {K : PySem.W.Frag} {Pt : Addr}
abbrev sp_LrightT (K : PySem.W.Frag) (Pt : Addr) : Sp := RightPT K ltL Pt
theorem l_LrightT (vs : List V) (H : Hp) (Q : VK) (E : XK) (h : sp_LrightT K Pt vs H Q E) : vs.length = 1 := RightPT.len vs H Q E h
abbrev sp_lawT (K : PySem.W.Frag) (Pt : Addr) : Sp := LawPT K ltL Pt
theorem l_lawT (vs : List V) (H : Hp) (Q : VK) (E : XK) (h : sp_lawT K Pt vs H Q E) : vs.length = 1 := LawPT.len vs H Q E h
def N_lawT : List Str := ["_law_script", "_law_k"]
def t_lawT (K : PySem.W.Frag) (Pt : Addr) : TS :=
  (tRet (tCB (rAll K) (tCons (tLc (iRng1 (tCons (tOp (rAddU K) (tC (.int 1)) (tCB (rMinU) (tCons (tC (.int 2)) (tCons (tCB (rLenU K) (tCons (tVar 0) tNil)) tNil)))) tNil)) (gName 1) tYes (tCall (sp_LrightT K Pt) [] E0 (tCons (tCall (sp_Lbox K) [] E0 (tCons (tVar 0) (tCons (tVar 1) tNil))) tNil)) [1]) tNil)))
theorem r_lawT (vs : List V) (H : Hp) (Q : VK) (E : XK) (h : sp_lawT K Pt vs H Q E) : t_lawT K Pt (Ends.ret Q) (start N_lawT vs) H := by
  obtain ⟨s, B, e, t, ⟨v, rfl, hv⟩, q⟩ := h
  exact (eT_law (s := s) rfl hv (by decide) (by decide) (fun w => ⟨rfl, rfl, rfl⟩)) H e t _ fun v x B2 H2 _ _ hx hv2 => by
    subst hx
    rw [at_bl.mp hv2]
    exact q H2
def N_LrightT : List Str := ["_law_box_here", "_law_wired_here", "_law_table_here", "_law_hits_here", "_law_lit", "_law_sure", "_law_mine", "_law_its", "_law_is_sure_here", "_law_trail", "_law_pair"]
def t_LrightT (K : PySem.W.Frag) (Pt : Addr) : TS :=
  (tSeq (tAsg (tCall (sp_Lwired K) [] E0 (tCons (tVar 0) (tCons (tC (.int 2)) (tCons (tC (.int 10)) tNil)))) (gName 1))
    (tSeq (tPar 2 3 (tCons (tCall (sp_Ltable K) [] E0 (tCons (tVar 1) tNil)) (tCons (tCall (sp_Lhits K) [] E0 (tCons (tVar 0) (tCons (tVar 1) (tCons (tC (.int 10)) tNil)))) tNil)))
    (tSeq (tAsg (tCall (sp_Lof K) [] E0 (tCons (tVar 0) (tCons (tCall (sp_Lall_stay K) [] E0 (tCons (tVar 2) (tCons (tVar 3) tNil))) tNil))) (gName 4))
    (tSeq (tAsg (tCall (sp_surely_before K) [] E0 (tCons (tVar 1) (tCons (tVar 3) (tCons (tVar 4) tNil)))) (gName 5))
    (tSeq (tFor (iSeq K (tVar 3)) (gName 6) (tFor (iSeq K (tLc (iSeq K (tVar 3)) (gName 7) (tTest (tOp (rNeP K) (tVar 7) (tVar 6))) (tVar 7) [7])) (gName 7) (tSeq (tAsg (tCall (sp_Lis_sure K) [] E0 (tCons (tVar 2) (tCons (tVar 3) (tCons (tVar 4) (tCons (tVar 6) (tCons (tVar 7) tNil)))))) (gName 8))
    (tSeq (tIfS (tOr (tTest (tOp (rNeP K) (tVar 8) (tOp (rInU K false) (tTup (tCons (tVar 6) (tCons (tVar 7) tNil))) (tVar 5)))) (tAnd (tB (tVar 8)) (tOr (tTest (tOp (rInU K false) (tTup (tCons (tVar 7) (tCons (tVar 6) tNil))) (tVar 5))) (tTest (tOp (rInU K false) (tVar 6) (tVar 4)))))) (tRet (tC (.bl false))) tNext)
    (tSeq (tAsg (tCall (sp_counter_order K Pt) [] E0 (tCons (tVar 1) (tCons (tVar 3) (tCons (tVar 4) (tCons (tVar 6) (tCons (tVar 7) tNil)))))) (gName 9))
    (tSeq (tIfS (tTest (tOp (rNeP K) (tVar 8) (tOp (rIsN) (tVar 9) (tC .non)))) (tRet (tC (.bl false))) tNext)
    (tIfS (tTest (tOp (rNotN) (tVar 9) (tC .non))) (tSeq (tIfS (tOr (tTest (tOp (rNeP K) (tCB (rSortU K) (tCons (tVar 9) tNil)) (tCB (rSortU K) (tCons (tVar 3) tNil)))) (tTest (tOp (rNeP K) (tCall (sp_Lleft K) [] E0 (tCons (tVar 2) (tCons (tVar 9) tNil))) (tVar 4)))) (tRet (tC (.bl false))) tNext)
    (tSeq (tIfS (tTest (tOp (rGtU K) (tBM K "list" (rIndex K) (tVar 9) (tCons (tVar 7) tNil)) (tBM K "list" (rIndex K) (tVar 9) (tCons (tVar 6) tNil)))) (tRet (tC (.bl false))) tNext)
    (tIfS (tTest (tOp (rNotB) (tCall (sp_shows_counter K) [] E0 (tCons (tVar 1) (tCons (tVar 3) (tCons (tVar 4) (tCons (tVar 6) (tCons (tVar 7) (tCons (tVar 9) tNil))))))) (tC (.bl true)))) (tRet (tC (.bl false))) tNext))) tNext)))))))
    (tSeq (tFor (iSeq K (tVar 5)) (gUnp K 2 (gCons (gName 6) (gCons (gName 7) gNil))) (tIfS (tNot (tB (tCB (rAll K) (tCons (tLc (iSeq K (tVar 5)) (gName 10) (tTest (tOp (rEqP K) (tOp (rIxU K) (tVar 10) (tC (.int 0))) (tVar 7))) (tOp (rInU K false) (tTup (tCons (tVar 6) (tCons (tOp (rIxU K) (tVar 10) (tC (.int 1))) tNil))) (tVar 5)) [10]) tNil)))) (tRet (tC (.bl false))) tNext))
    (tRet (tC (.bl true)))))))))
theorem r_LrightT (vs : List V) (H : Hp) (Q : VK) (E : XK) (h : sp_LrightT K Pt vs H Q E) : t_LrightT K Pt (Ends.ret Q) (start N_LrightT vs) H := by
  obtain ⟨b, B, s, q⟩ := RightPT.st h N_LrightT
  refine s.setB (c := 0) (n := 40000) (e_callB2 (i := 0) (b := b) (s.sl.rf 0 rfl) (e_int (i := 2)) (e_int (i := 10)) ⟨by decide, by decide⟩) (by decide) fun pt hpt σ1 B1 H1 s1 => ?_
  obtain ⟨p, rfl, g⟩ := hpt
  replace s1 : St K [b, Pt] B H [boxC b 40000, tabC ltL Pt] [ca b, ce p, none, none, none, none, none, none, none, none, none] σ1 B1 H1 := s1.cast (y := p) 1 rfl pan_t
  have okn : PanN p := g.nn (by decide)
  have okp := okn.1.toPanOk
  have gl := g.len
  have sym := rvs_sym' p
  have nd := okn.1.nd
  refine s1.parB (n := 0) (m := 10003) ((e_call1 (x := p) (pre := PanOk) (f := fun p => TabR.mk (lawTab p).kvs) (s1.v 1 rfl) okp).pb) (e_callB2 (i := 0) (b := b) (s1.sl.rf 0 rfl) (s1.v (x := p) 1 rfl) (e_int (i := 10)) ⟨⟨nd, by omega⟩, by decide, by decide⟩) (by decide) (by decide) fun d hits hd hh σ2 B2 H2 s2 => ?_
  subst hd
  obtain ⟨hnd, hsub⟩ := hh
  have hhl : hits.length ≤ p.sw.length := hnd.length_le_of_subset hsub
  replace s2 : St K [b, Pt] B H [boxC b 50003, tabC ltL Pt] [ca b, ce p, ce (TabR.mk (lawTab p).kvs), ce hits, none, none, none, none, none, none, none] σ2 B2 H2 := s2
  have hlk : ∀ {x}, x ∈ p.sw → (lawTab p).kvs.lookup x = some (raw p.ex x) := fun h => lookup_map (fun s => raw p.ex s) h
  have hT : ∀ xs : List Str, (∀ x ∈ xs, x ∈ p.sw) → TabL (lawTab p) xs := fun xs h x hx => ⟨by rw [hlk (h x hx)]; rfl, by
    rw [look_lawW (h x hx)]
    have := rawP_len2 p.ex x
    have := g.el
    omega⟩
  have hWeb : WebPre (lawTab p) hits := ⟨hnd, by omega, hT hits hsub⟩
  have hm : ∀ x ∈ hits, ∀ y, y ∈ look (lawTab p) x ↔ y ∈ rvs p x := fun x hx y => by
    rw [look_lawW (hsub x hx)]
    exact mem_sortD.symm
  have hm' : ∀ x ∈ hits, ∀ y, y ∈ look (lawTab p) x ↔ x ∈ rvs p y := fun x hx y => (hm x hx y).trans (sym x y)
  have irr : ∀ x, x ∉ rvs p x := fun x hx => by
    rcases mem_rvs.mp hx with h | h <;> exact g.irr _ h rfl
  have sne := stay_ne hnd sym irr hm'
  have sl : (stayAll (look (lawTab p)) hits).length ≤ 1000000 := by
    have h1 := List.length_filter_le (fun t : Tup Str => fitsB (look (lawTab p)) hits (websO (look (lawTab p)) hits) t.items) (partsO (sortD hits))
    have h2 := partsO_len (sortD hits)
    rw [(sortD_perm hits).length_eq] at h2
    have h3 : 2 ^ hits.length ≤ 2 ^ 10 := Nat.pow_le_pow_right (by decide) (by omega)
    unfold stayAll
    rw [(sortD_perm _).length_eq]
    omega
  obtain ⟨ST, hST⟩ : ∃ ST, ST = stayAll (look (lawTab p)) hits := ⟨_, rfl⟩
  refine s2.setB (c := 50003) (n := 1) (e_of (b := b) (i := 0) (xs := ST) (s2.sl.rf 0 rfl) (((e_call2 (pre := fun (d : Dic (List Str)) (hits : List Str) => WebPre d hits ∧ hits.length ≤ 12) (f := fun d hits => stayAll (look d) hits) (x := lawTab p) (y := hits) ((s2.v (x := TabR.mk (lawTab p).kvs) 2 rfl).imp tabR_dic) (s2.v (x := hits) 3 rfl) ⟨hWeb, by omega⟩).is hST.symm).imp sq_list) (hST ▸ sne) (hST ▸ sl)) (by decide) fun lt hlt σ3 B3 H3 s3 => ?_
  rw [hST] at hlt
  obtain ⟨lit⟩ := lt
  obtain ⟨S, lsub⟩ := stay_of hnd sym hm' hlt
  replace S : StayO (rvs p) hits lit := S
  replace lsub : lit.Sublist (sortD hits) := lsub
  have lnd : lit.Nodup := (((sortD_perm hits).nodup_iff).mpr hnd).sublist lsub
  replace s3 : St K [b, Pt] B H [boxC b 50004, tabC ltL Pt] [ca b, ce p, ce (TabR.mk (lawTab p).kvs), ce hits, ce (Tup.mk lit), none, none, none, none, none, none] σ3 B3 H3 := s3
  have hSP : SurePre p (Sq.mk hits) (Sq.mk lit) := ⟨⟨okn, hnd, hsub⟩, lnd, S⟩
  obtain ⟨SU, hSU⟩ : ∃ SU, SU = sureL (rvs p) hits lit := ⟨_, rfl⟩
  refine s3.set (x := SU) ((e_call3 (pre := SurePre) (f := fun p P L => sureL (rvs p) P.items L.items) (x := p) (y := Sq.mk hits) (z := Sq.mk lit) (s3.v 1 rfl) ((s3.v (x := hits) 3 rfl).imp sq_list) ((s3.v (x := Tup.mk lit) 4 rfl).imp sq_tup) hSP).is hSU.symm) fun σ4 B4 H4 s4 => ?_
  replace s4 : St K [b, Pt] B H [boxC b 50004, tabC ltL Pt] [ca b, ce p, ce (TabR.mk (lawTab p).kvs), ce hits, ce (Tup.mk lit), ce SU, none, none, none, none, none] σ4 B4 H4 := s4
  have hll : lit.length ≤ 1000 := by
    have := lnd.length_le_of_subset S.sub
    omega
  obtain ⟨SB, hSB⟩ : ∃ f : Str → Str → Bool, ∀ a b, f a b = sureB (rvs p) hits lit a b := ⟨_, fun _ _ => rfl⟩
  refine s4.qforG (δ := Unit) (it_seqL (xs := hits) (s4.v 3 rfl)) (fun _ _ => [boxC b 50004, tabC ltL Pt]) (fun _ _ => [ca b, ce p, ce (TabR.mk (lawTab p).kvs), ce hits, ce (Tup.mk lit), ce SU, none, none, none, none, none]) (fun _ _ => True) ⟨(), trivial, fun _ _ s5 => s5⟩ (fun done mine rest _ ex _ v σ' B' H' N hN s5 hv => ?_) fun _ _ σ' B' H' s5 => ?_
  · have hmine : mine ∈ hits := by rw [ex]; simp
    have s6 : St K [b, Pt] B' H' [boxC b 50004, tabC ltL Pt] [ca b, ce p, ce (TabR.mk (lawTab p).kvs), ce hits, ce (Tup.mk lit), ce SU, ce mine, none, none, none, none] _ B' H' := s5.here.put 6 hv
    refine s6.forG (δ := Unit) (it_seqL (s6.sl.lcF (j := 7) (fun x => !decide (x = mine)) (it_seqL (xs := hits) (s6.v 3 rfl)) (by omega) fun z _ σ7 B7 b7 s7 => ⟨t_test (e_ne (s7.v (x := z) 7 rfl) (s7.v (x := mine) 6 rfl)), rfl⟩)) (fun _ _ => [boxC b 50004, tabC ltL Pt]) (fun _ _ => [ca b, ce p, ce (TabR.mk (lawTab p).kvs), ce hits, ce (Tup.mk lit), ce SU, ce mine, none, none, none, none]) (fun _ _ => True) ⟨(), trivial, fun _ _ s7 => s7⟩ (fun done its rest _ ex2 _ w σ7 B7 H7 M hM s7 hw => ?_) fun _ _ σ7 B7 H7 s7 => ?_
    · have hits' : its ∈ hits.filter fun x => !decide (x = mine) := by rw [ex2]; simp
      have hit2 : its ∈ hits ∧ mine ≠ its := by
        have := List.mem_filter.mp hits'
        exact ⟨this.1, fun e => by rw [e] at this; simp at this⟩
      obtain ⟨hitsm, hne⟩ := hit2
      have s8 : St K [b, Pt] B7 H7 [boxC b 50004, tabC ltL Pt] [ca b, ce p, ce (TabR.mk (lawTab p).kvs), ce hits, ce (Tup.mk lit), ce SU, ce mine, ce its, none, none, none] _ B7 H7 := s7.here.put 7 hw
      obtain ⟨sb, hsb⟩ : ∃ sb, sb = SB mine its := ⟨_, rfl⟩
      have hsbw : sb = true ↔ ¬ WayR (rvs p) hits lit mine its := by rw [hsb, hSB]; exact sureB_iff
      refine s8.set (x := sb) ((e_call5R (x := TabR.mk (lawTab p).kvs) (y := hits) (z := Tup.mk lit) (t := mine) (w := its) (pre := fun (d : TabR) (P : List Str) (L : Tup Str) (_ o : Str) => (WebPre (Dic.mk d.kvs) P ∧ o ∈ P) ∧ L.items.length ≤ 1000) (R := fun d P L s o (b : Bool) => b = isSureB (look (Dic.mk d.kvs)) P L.items s o) (s8.v 2 rfl) (s8.v 3 rfl) (s8.v 4 rfl) (s8.v 6 rfl) (s8.v 7 rfl) ⟨⟨hWeb, hitsm⟩, hll⟩).is fun y hy => by
        rw [hsb, hSB]
        exact (show y = isSureB (look (lawTab p)) hits lit mine its from hy).trans (isSure_iff hnd hmine hitsm S hm sym)) fun σ9 B9 H9 s9 => ?_
      replace s9 : St K [b, Pt] B7 H7 [boxC b 50004, tabC ltL Pt] [ca b, ce p, ce (TabR.mk (lawTab p).kvs), ce hits, ce (Tup.mk lit), ce SU, ce mine, ce its, ce sb, none, none] σ9 B9 H9 := s9
      refine s9.no (t_or (a := false) (b := false) (t_test ((e_ne (s9.v (x := sb) 8 rfl) ((e_inL (e_pair (s9.v (x := mine) 6 rfl) (s9.v (x := its) 7 rfl)) (s9.v (x := SU) 5 rfl) false).is (y := sb) (in_is ?_))).is (ne_false rfl))) fun _ => (t_and (a := sb) (b := false) (t_B (s9.v (x := sb) 8 rfl)) fun hb => t_or (a := false) (b := false) (t_test ((e_inL (e_pair (s9.v (x := its) 7 rfl) (s9.v (x := mine) 6 rfl)) (s9.v (x := SU) 5 rfl) false).is (in_is ?_))) fun _ => t_test ((e_inT (s9.v (x := mine) 6 rfl) (s9.v (x := Tup.mk lit) 4 rfl) false).is (in_is ?_))).is (Bool.and_false _)) fun B10 H10 s10 => ?_
      · rw [hSU, mem_sureL, hsbw]
        exact ⟨fun h => h.2.2, fun h => ⟨⟨hmine, hitsm⟩, hne, h⟩⟩
      · rw [hSU, mem_sureL]
        exact ⟨fun h => absurd (sure_asym S hmine hitsm hne (hsbw.mp hb)) h.2.2, fun h => by cases h⟩
      · exact ⟨fun h => absurd h (sure_dark S hmine hne (hsbw.mp hb)), fun h => by cases h⟩
      refine s10.setQ (i := 9) (k := 1) rfl (eT_call5 (x := p) (y := Sq.mk hits) (z := Sq.mk lit) (t := mine) (w := its) (pre := fun (p : Pan) (P L : Sq Str) (s o : Str) => SurePre p P L ∧ s ∈ P.items ∧ o ∈ P.items) (R := fun p P L s o (m : Mb (List Str)) => CounterR (rvs p) P.items L.items s o m.o) (s10.v 1 rfl) ((s10.v (x := hits) 3 rfl).imp sq_list) ((s10.v (x := Tup.mk lit) 4 rfl).imp sq_tup) (s10.v 6 rfl) (s10.v 7 rfl) ⟨hSP, hmine, hitsm⟩) fun m hmr σ11 B11 H11 s11 => ?_
      replace s11 : St K [b, Pt] B7 H7 [boxC b 50004, tabC ltL Pt] [ca b, ce p, ce (TabR.mk (lawTab p).kvs), ce hits, ce (Tup.mk lit), ce SU, ce mine, ce its, ce sb, ce m, none] σ11 B11 H11 := s11
      obtain ⟨mo⟩ := m
      replace hmr : CounterR (rvs p) hits lit mine its mo := hmr
      have hsm : sb = mo.isNone := by
        cases mo with
        | none => exact hsbw.mpr hmr
        | some hs =>
          cases e : sb with
          | false => rfl
          | true => exact absurd hmr.1 (hsbw.mp e)
      have hq : Pq K (tVar 9) σ11 B11 (fun x : Mb (List Str) => x = Mb.mk mo) := fun H e Q q => (s11.v (x := Mb.mk mo) 9 rfl) H e Q fun v B2 H2 u hv => q v (Mb.mk mo) B2 H2 u rfl hv
      refine s11.no (t_test ((e_ne (s11.v (x := sb) 8 rfl) (e_isNq hq (b := mo.isNone) fun x hx => by rw [hx])).is (ne_false hsm))) fun B12 H12 s12 => ?_
      cases mo with
      | none => exact s12.noL (t_test (e_notNL (s12.v (x := Mb.mk none) 9 rfl))) fun B13 H13 s13 => hM () trivial (s13.fg [7, 8, 9])
      | some hs =>
        obtain ⟨_, hperm, hleft, i, j, hi, hj, hij⟩ := id hmr
        have hsnd : hs.Nodup := hperm.nodup_iff.mpr hnd
        have hss : ∀ x ∈ hs, x ∈ p.sw := fun x hx => hsub x (hperm.mem_iff.mp hx)
        have hsl : hs.length = hits.length := hperm.length_eq
        have hTr : ∀ {σ : L2.St} {B : Hp}, Pe K (tVar 9) σ B (Mb.mk (some hs)) → Pe K (tVar 9) σ B hs := fun h => h.imp fun k => k
        have hleq : leftO (look (lawTab p)) hs = lit := by
          rw [leftO_congr (rv' := raw p.ex) fun x hx => look_lawW (hss x hx)]
          refine asc_ext ?_ (List.Pairwise.sublist lsub (sortD_asc hnd)) fun z => ?_
          · unfold leftO
            exact sortD_asc (hsnd.sublist (filtT_sub _ hs))
          · rw [← hleft]
            exact ⟨leftO_mono fun x z h => mem_sortD.mp h, leftO_mono fun x z h => mem_sortD.mpr h⟩
        refine s12.yesL (t_test (e_notNL (s12.v (x := Mb.mk (some hs)) 9 rfl))) fun B13 H13 s13 => ?_
        refine s13.no (t_or (a := false) (b := false) (t_test ((e_ne (e_sortSq ((hTr (s13.v 9 rfl)).imp sq_list) (sortable_str _)) (e_sortSq ((s13.v (x := hits) 3 rfl).imp sq_list) (sortable_str _))).is (ne_false ?_))) fun _ => t_test ((e_ne ((e_call2 (pre := fun (d : Dic (List Str)) (T : List Str) => TabL d T ∧ T.length ≤ 1000) (f := fun d T => Tup.mk (leftO (look d) T)) (x := lawTab p) (y := hs) ((s13.v (x := TabR.mk (lawTab p).kvs) 2 rfl).imp tabR_dic) (hTr (s13.v 9 rfl)) ⟨hT hs hss, by omega⟩).is (congrArg Tup.mk hleq)) (s13.v (x := Tup.mk lit) 4 rfl)).is (ne_false rfl))) fun B14 H14 s14 => ?_
        · exact asc_ext (sortD_asc hsnd) (sortD_asc hnd) fun z => by rw [mem_sortD, mem_sortD, hperm.mem_iff]
        refine s14.no (t_test ((e_gt (e_index (hTr (s14.v 9 rfl)) (s14.v (x := its) 7 rfl) hsnd hi) (e_index (hTr (s14.v 9 rfl)) (s14.v (x := mine) 6 rfl) hsnd hj)).is (decide_eq_false (by omega)))) fun B15 H15 s15 => ?_
        refine s15.noL (t_test ((e_notB (a := true) (b := true) (e_call6 (pre := fun (p : Pan) (P L : Sq Str) (s o : Str) (T : List Str) => (SurePre p P L ∧ s ∈ P.items ∧ o ∈ P.items) ∧ CounterR (rvs p) P.items L.items s o (some T)) (f := fun _ _ _ _ _ _ => true) (x := p) (y := Sq.mk hits) (z := Sq.mk lit) (t := mine) (w := its) (r := hs) (s15.v 1 rfl) ((s15.v (x := hits) 3 rfl).imp sq_list) ((s15.v (x := Tup.mk lit) 4 rfl).imp sq_tup) (s15.v 6 rfl) (s15.v 7 rfl) (hTr (s15.v 9 rfl)) ⟨⟨hSP, hmine, hitsm⟩, hmr⟩) e_bl).is rfl)) fun B16 H16 s16 => hM () trivial (s16.fg [7, 8, 9])
    · exact hN () trivial (s7.fg [6])
  · have hSl : SU.length ≤ 1000000 := by
      have h1 := sureL_len (rv := rvs p) (P := hits) (L := lit)
      have h2 : hits.length * hits.length ≤ 10 * 10 := Nat.mul_le_mul (by omega) (by omega)
      rw [hSU]
      omega
    have hmem : ∀ a b, (a, b) ∈ SU ↔ (a ∈ hits ∧ b ∈ hits) ∧ a ≠ b ∧ ¬ WayR (rvs p) hits lit a b := fun a b => by
      rw [hSU]
      exact mem_sureL
    refine s5.qforG (δ := Unit) (it_seqL (xs := SU) (s5.v 5 rfl)) (fun _ _ => [boxC b 50004, tabC ltL Pt]) (fun _ _ => [ca b, ce p, ce (TabR.mk (lawTab p).kvs), ce hits, ce (Tup.mk lit), ce SU, none, none, none, none, none]) (fun _ _ => True) ⟨(), trivial, fun _ _ s6 => s6⟩ (fun done e rest _ ex _ v σ6 B6 H6 N hN s6 hv => ?_) fun _ _ σ6 B6 H6 s6 => ?_
    · obtain ⟨x, y⟩ := e
      have hxy := (hmem x y).mp (by rw [ex]; simp)
      refine unp_pair hv s6.bh fun v1 v2 h1 h2 => ?_
      have s7 : St K [b, Pt] B6 H6 [boxC b 50004, tabC ltL Pt] [ca b, ce p, ce (TabR.mk (lawTab p).kvs), ce hits, ce (Tup.mk lit), ce SU, ce x, ce y, none, none, none] _ B6 H6 := (s6.here.put 6 h1).put 7 h2
      refine s7.noL ((t_not (t_B (e_all (s7.sl.lc (j := 10) (fun e => decide (e.1 = y)) (fun e => ngb false (decide ((x, e.2) ∈ SU))) (it_seqL (xs := SU) (s7.v 5 rfl)) hSl fun e he σ8 B8 b8 s8 => ⟨t_test (e_eq (e_fst (s8.v (x := e) 10 rfl)) (s8.v (x := y) 7 rfl)), fun _ => (e_inL (e_pair (s8.v (x := x) 6 rfl) (e_snd (s8.v (x := e) 10 rfl))) (s8.v (x := SU) 5 rfl) false).is (in_is (by rw [ngb_f, decide_eq_true_eq]))⟩)))).is ?_) fun B9 H9 s9 => hN () trivial (s9.fg [6, 7])
      rw [Bool.not_eq_false', List.all_map, List.all_eq_true]
      intro e he
      obtain ⟨e1, e2⟩ := e
      obtain ⟨m1, m2⟩ := List.mem_filter.mp he
      have h3 : e1 = y := of_decide_eq_true m2
      subst h3
      have h4 := (hmem _ _).mp m1
      exact decide_eq_true ((hmem x e2).mpr ⟨⟨hxy.1.1, h4.1.2⟩, sure_trans S hxy.1.1 h4.1.1 h4.1.2 hxy.2.1 h4.2.1 hxy.2.2 h4.2.2⟩)
    · refine s6.ret (x := true) e_bl fun v B7 H7 s7 hv => ?_
      rw [at_bl.mp hv]
      exact q 1 _ _ _ B7 H7 rfl s7
end
end Ob

set_option Elab.async false
set_option linter.all false
set_option maxRecDepth 100000
set_option maxHeartbeats 0
namespace Ob
open PySem PySem.Spec PyProof.Rows L2
open Evl (Ex)
def topS (i : Nat) : Stmt := PySem.Challenge.pw_offbyon_k76_whole_ways_round.main.body.getD i (.Pass ⟨0, 0, 0, 0⟩)
abbrev s_look_switches : Stmt := topS 4
abbrev s_rival_table : Stmt := topS 5
abbrev s_component_of : Stmt := topS 6
abbrev s_components : Stmt := topS 7
abbrev s_left_on : Stmt := topS 9
abbrev s_distances : Stmt := topS 11
abbrev s_look_pressed : Stmt := topS 13
abbrev s_can_leave : Stmt := topS 14
abbrev s_look_order : Stmt := topS 15
abbrev s_is_order : Stmt := topS 16
abbrev s_path_to : Stmt := topS 18
abbrev s_way_round : Stmt := topS 19
abbrev s_surely_before : Stmt := topS 20
abbrev s_look_both : Stmt := topS 21
abbrev s_laid_round : Stmt := topS 22
abbrev s_counter_order : Stmt := topS 23
abbrev s_shows_counter : Stmt := topS 24
abbrev s_Lcell_at : Stmt := topS 26
abbrev s_Lbox : Stmt := topS 27
abbrev s_Ltake : Stmt := topS 28
abbrev s_Lof : Stmt := topS 29
abbrev s_Lstrewn : Stmt := topS 30
abbrev s_Lnames : Stmt := topS 31
abbrev s_Ltied : Stmt := topS 32
abbrev s_Lwired : Stmt := topS 33
abbrev s_Ltable : Stmt := topS 34
abbrev s_Lhits : Stmt := topS 35
abbrev s_Lleft : Stmt := topS 36
abbrev s_Lparts : Stmt := topS 37
abbrev s_Lfree : Stmt := topS 38
abbrev s_Lweb : Stmt := topS 39
abbrev s_Lwebs : Stmt := topS 40
abbrev s_Lfits : Stmt := topS 41
abbrev s_Lall_stay : Stmt := topS 42
abbrev s_Lis_sure : Stmt := topS 43
abbrev s_LrightT : Stmt := topS 44
abbrev s_lawT : Stmt := topS 45
theorem sc_look_switches : FnScope N_look_switches ["panel", "switches"] (defScope s_look_switches) := ⟨rfl, rfl, rfl, by decide +kernel, rfl, by decide +kernel, by decide +kernel⟩
theorem sc_rival_table : FnScope N_rival_table ["panel"] (defScope s_rival_table) := ⟨rfl, rfl, rfl, by decide +kernel, rfl, by decide +kernel, by decide +kernel⟩
theorem sc_component_of : FnScope N_component_of ["rivals", "switches", "switch"] (defScope s_component_of) := ⟨rfl, rfl, rfl, by decide +kernel, rfl, by decide +kernel, by decide +kernel⟩
theorem sc_components : FnScope N_components ["rivals", "switches"] (defScope s_components) := ⟨rfl, rfl, rfl, by decide +kernel, rfl, by decide +kernel, by decide +kernel⟩
theorem sc_left_on : FnScope N_left_on ["rivals", "order"] (defScope s_left_on) := ⟨rfl, rfl, rfl, by decide +kernel, rfl, by decide +kernel, by decide +kernel⟩
theorem sc_distances : FnScope N_distances ["rivals", "switches", "ends"] (defScope s_distances) := ⟨rfl, rfl, rfl, by decide +kernel, rfl, by decide +kernel, by decide +kernel⟩
theorem sc_look_pressed : FnScope N_look_pressed ["panel", "pressed", "lit"] (defScope s_look_pressed) := ⟨rfl, rfl, rfl, by decide +kernel, rfl, by decide +kernel, by decide +kernel⟩
theorem sc_can_leave : FnScope N_can_leave ["rivals", "pressed", "lit"] (defScope s_can_leave) := ⟨rfl, rfl, rfl, by decide +kernel, rfl, by decide +kernel, by decide +kernel⟩
theorem sc_look_order : FnScope N_look_order ["rivals", "pressed", "lit"] (defScope s_look_order) := ⟨rfl, rfl, rfl, by decide +kernel, rfl, by decide +kernel, by decide +kernel⟩
theorem sc_is_order : FnScope N_is_order ["rivals", "pressed", "lit", "thing"] (defScope s_is_order) := ⟨rfl, rfl, rfl, by decide +kernel, rfl, by decide +kernel, by decide +kernel⟩
theorem sc_path_to : FnScope N_path_to ["rivals", "inside", "start", "ends"] (defScope s_path_to) := ⟨rfl, rfl, rfl, by decide +kernel, rfl, by decide +kernel, by decide +kernel⟩
theorem sc_way_round : FnScope N_way_round ["rivals", "pressed", "lit", "one", "other"] (defScope s_way_round) := ⟨rfl, rfl, rfl, by decide +kernel, rfl, by decide +kernel, by decide +kernel⟩
theorem sc_surely_before : FnScope N_surely_before ["panel", "pressed", "on"] (defScope s_surely_before) := ⟨rfl, rfl, rfl, by decide +kernel, rfl, by decide +kernel, by decide +kernel⟩
theorem sc_look_both : FnScope N_look_both ["pressed", "one", "other"] (defScope s_look_both) := ⟨rfl, rfl, rfl, by decide +kernel, rfl, by decide +kernel, by decide +kernel⟩
theorem sc_laid_round : FnScope N_laid_round ["rivals", "pressed", "lit", "path", "other"] (defScope s_laid_round) := ⟨rfl, rfl, rfl, by decide +kernel, rfl, by decide +kernel, by decide +kernel⟩
theorem sc_counter_order : FnScope N_counter_order ["panel", "pressed", "on", "one", "other"] (defScope s_counter_order) := ⟨rfl, rfl, rfl, by decide +kernel, rfl, by decide +kernel, by decide +kernel⟩
theorem sc_shows_counter : FnScope N_shows_counter ["panel", "pressed", "on", "one", "other", "thing"] (defScope s_shows_counter) := ⟨rfl, rfl, rfl, by decide +kernel, rfl, by decide +kernel, by decide +kernel⟩
theorem sc_Lcell_at : FnScope N_Lcell_at ["_law_script", "_law_k"] (defScope s_Lcell_at) := ⟨rfl, rfl, rfl, by decide +kernel, rfl, by decide +kernel, by decide +kernel⟩
theorem sc_Lbox : FnScope N_Lbox ["_law_script", "_law_k"] (defScope s_Lbox) := ⟨rfl, rfl, rfl, by decide +kernel, rfl, by decide +kernel, by decide +kernel⟩
theorem sc_Ltake : FnScope N_Ltake ["_law_box_here", "_law_size"] (defScope s_Ltake) := ⟨rfl, rfl, rfl, by decide +kernel, rfl, by decide +kernel, by decide +kernel⟩
theorem sc_Lof : FnScope N_Lof ["_law_box_here", "_law_some"] (defScope s_Lof) := ⟨rfl, rfl, rfl, by decide +kernel, rfl, by decide +kernel, by decide +kernel⟩
theorem sc_Lstrewn : FnScope N_Lstrewn ["_law_box_here", "_law_some"] (defScope s_Lstrewn) := ⟨rfl, rfl, rfl, by decide +kernel, rfl, by decide +kernel, by decide +kernel⟩
theorem sc_Lnames : FnScope N_Lnames ["_law_box_here", "_law_size"] (defScope s_Lnames) := ⟨rfl, rfl, rfl, by decide +kernel, rfl, by decide +kernel, by decide +kernel⟩
theorem sc_Ltied : FnScope N_Ltied ["_law_box_here", "_law_called"] (defScope s_Ltied) := ⟨rfl, rfl, rfl, by decide +kernel, rfl, by decide +kernel, by decide +kernel⟩
theorem sc_Lwired : FnScope N_Lwired ["_law_box_here", "_law_least", "_law_most"] (defScope s_Lwired) := ⟨rfl, rfl, rfl, by decide +kernel, rfl, by decide +kernel, by decide +kernel⟩
theorem sc_Ltable : FnScope N_Ltable ["_law_wired_here"] (defScope s_Ltable) := ⟨rfl, rfl, rfl, by decide +kernel, rfl, by decide +kernel, by decide +kernel⟩
theorem sc_Lhits : FnScope N_Lhits ["_law_box_here", "_law_wired_here", "_law_most"] (defScope s_Lhits) := ⟨rfl, rfl, rfl, by decide +kernel, rfl, by decide +kernel, by decide +kernel⟩
theorem sc_Lleft : FnScope N_Lleft ["_law_table_here", "_law_trail"] (defScope s_Lleft) := ⟨rfl, rfl, rfl, by decide +kernel, rfl, by decide +kernel, by decide +kernel⟩
theorem sc_Lparts : FnScope N_Lparts ["_law_some"] (defScope s_Lparts) := ⟨rfl, rfl, rfl, by decide +kernel, rfl, by decide +kernel, by decide +kernel⟩
theorem sc_Lfree : FnScope N_Lfree ["_law_table_here", "_law_part"] (defScope s_Lfree) := ⟨rfl, rfl, rfl, by decide +kernel, rfl, by decide +kernel, by decide +kernel⟩
theorem sc_Lweb : FnScope N_Lweb ["_law_table_here", "_law_some", "_law_name"] (defScope s_Lweb) := ⟨rfl, rfl, rfl, by decide +kernel, rfl, by decide +kernel, by decide +kernel⟩
theorem sc_Lwebs : FnScope N_Lwebs ["_law_table_here", "_law_some"] (defScope s_Lwebs) := ⟨rfl, rfl, rfl, by decide +kernel, rfl, by decide +kernel, by decide +kernel⟩
theorem sc_Lfits : FnScope N_Lfits ["_law_table_here", "_law_hits_here", "_law_webs_here", "_law_part"] (defScope s_Lfits) := ⟨rfl, rfl, rfl, by decide +kernel, rfl, by decide +kernel, by decide +kernel⟩
theorem sc_Lall_stay : FnScope N_Lall_stay ["_law_table_here", "_law_hits_here"] (defScope s_Lall_stay) := ⟨rfl, rfl, rfl, by decide +kernel, rfl, by decide +kernel, by decide +kernel⟩
theorem sc_Lis_sure : FnScope N_Lis_sure ["_law_table_here", "_law_hits_here", "_law_lit", "_law_mine", "_law_its"] (defScope s_Lis_sure) := ⟨rfl, rfl, rfl, by decide +kernel, rfl, by decide +kernel, by decide +kernel⟩
theorem sc_LrightT : FnScope N_LrightT ["_law_box_here"] (defScope s_LrightT) := ⟨rfl, rfl, rfl, by decide +kernel, rfl, by decide +kernel, by decide +kernel⟩
theorem sc_lawT : FnScope N_lawT ["_law_script"] (defScope s_lawT) := ⟨rfl, rfl, rfl, by decide +kernel, rfl, by decide +kernel, by decide +kernel⟩
structure Tx (K : PySem.W.Frag) (mg : Str → Option Value) where
  a_look_switches : Addr
  fd_look_switches : FuncData
  F_look_switches : FunD K "look_switches" "look_switches" (defArgs s_look_switches) (defBody s_look_switches) (defScope s_look_switches) [] [] a_look_switches fd_look_switches
  g_look_switches : mg "look_switches" = some (.ref a_look_switches)
  b_look_switches : Binds K fd_look_switches ["panel", "switches"] []
  a_rival_table : Addr
  fd_rival_table : FuncData
  F_rival_table : FunD K "rival_table" "rival_table" (defArgs s_rival_table) (defBody s_rival_table) (defScope s_rival_table) [] [] a_rival_table fd_rival_table
  g_rival_table : mg "rival_table" = some (.ref a_rival_table)
  b_rival_table : Binds K fd_rival_table ["panel"] []
  a_component_of : Addr
  fd_component_of : FuncData
  F_component_of : FunD K "component_of" "component_of" (defArgs s_component_of) (defBody s_component_of) (defScope s_component_of) [] [] a_component_of fd_component_of
  g_component_of : mg "component_of" = some (.ref a_component_of)
  b_component_of : Binds K fd_component_of ["rivals", "switches", "switch"] []
  a_components : Addr
  fd_components : FuncData
  F_components : FunD K "components" "components" (defArgs s_components) (defBody s_components) (defScope s_components) [] [] a_components fd_components
  g_components : mg "components" = some (.ref a_components)
  b_components : Binds K fd_components ["rivals", "switches"] []
  a_left_on : Addr
  fd_left_on : FuncData
  F_left_on : FunD K "left_on" "left_on" (defArgs s_left_on) (defBody s_left_on) (defScope s_left_on) [] [] a_left_on fd_left_on
  g_left_on : mg "left_on" = some (.ref a_left_on)
  b_left_on : Binds K fd_left_on ["rivals", "order"] []
  a_distances : Addr
  fd_distances : FuncData
  F_distances : FunD K "distances" "distances" (defArgs s_distances) (defBody s_distances) (defScope s_distances) [] [] a_distances fd_distances
  g_distances : mg "distances" = some (.ref a_distances)
  b_distances : Binds K fd_distances ["rivals", "switches", "ends"] []
  a_look_pressed : Addr
  fd_look_pressed : FuncData
  F_look_pressed : FunD K "look_pressed" "look_pressed" (defArgs s_look_pressed) (defBody s_look_pressed) (defScope s_look_pressed) [] [] a_look_pressed fd_look_pressed
  g_look_pressed : mg "look_pressed" = some (.ref a_look_pressed)
  b_look_pressed : Binds K fd_look_pressed ["panel", "pressed", "lit"] []
  a_can_leave : Addr
  fd_can_leave : FuncData
  F_can_leave : FunD K "can_leave" "can_leave" (defArgs s_can_leave) (defBody s_can_leave) (defScope s_can_leave) [] [] a_can_leave fd_can_leave
  g_can_leave : mg "can_leave" = some (.ref a_can_leave)
  b_can_leave : Binds K fd_can_leave ["rivals", "pressed", "lit"] []
  a_look_order : Addr
  fd_look_order : FuncData
  F_look_order : FunD K "look_order" "look_order" (defArgs s_look_order) (defBody s_look_order) (defScope s_look_order) [] [] a_look_order fd_look_order
  g_look_order : mg "look_order" = some (.ref a_look_order)
  b_look_order : Binds K fd_look_order ["rivals", "pressed", "lit"] []
  a_is_order : Addr
  fd_is_order : FuncData
  F_is_order : FunD K "is_order" "is_order" (defArgs s_is_order) (defBody s_is_order) (defScope s_is_order) [] [] a_is_order fd_is_order
  g_is_order : mg "is_order" = some (.ref a_is_order)
  b_is_order : Binds K fd_is_order ["rivals", "pressed", "lit", "thing"] []
  a_path_to : Addr
  fd_path_to : FuncData
  F_path_to : FunD K "path_to" "path_to" (defArgs s_path_to) (defBody s_path_to) (defScope s_path_to) [] [] a_path_to fd_path_to
  g_path_to : mg "path_to" = some (.ref a_path_to)
  b_path_to : Binds K fd_path_to ["rivals", "inside", "start", "ends"] []
  a_way_round : Addr
  fd_way_round : FuncData
  F_way_round : FunD K "way_round" "way_round" (defArgs s_way_round) (defBody s_way_round) (defScope s_way_round) [] [] a_way_round fd_way_round
  g_way_round : mg "way_round" = some (.ref a_way_round)
  b_way_round : Binds K fd_way_round ["rivals", "pressed", "lit", "one", "other"] []
  a_surely_before : Addr
  fd_surely_before : FuncData
  F_surely_before : FunD K "surely_before" "surely_before" (defArgs s_surely_before) (defBody s_surely_before) (defScope s_surely_before) [] [] a_surely_before fd_surely_before
  g_surely_before : mg "surely_before" = some (.ref a_surely_before)
  b_surely_before : Binds K fd_surely_before ["panel", "pressed", "on"] []
  a_look_both : Addr
  fd_look_both : FuncData
  F_look_both : FunD K "look_both" "look_both" (defArgs s_look_both) (defBody s_look_both) (defScope s_look_both) [] [] a_look_both fd_look_both
  g_look_both : mg "look_both" = some (.ref a_look_both)
  b_look_both : Binds K fd_look_both ["pressed", "one", "other"] []
  a_laid_round : Addr
  fd_laid_round : FuncData
  F_laid_round : FunD K "laid_round" "laid_round" (defArgs s_laid_round) (defBody s_laid_round) (defScope s_laid_round) [] [] a_laid_round fd_laid_round
  g_laid_round : mg "laid_round" = some (.ref a_laid_round)
  b_laid_round : Binds K fd_laid_round ["rivals", "pressed", "lit", "path", "other"] []
  a_counter_order : Addr
  fd_counter_order : FuncData
  F_counter_order : FunD K "counter_order" "counter_order" (defArgs s_counter_order) (defBody s_counter_order) (defScope s_counter_order) [] [] a_counter_order fd_counter_order
  g_counter_order : mg "counter_order" = some (.ref a_counter_order)
  b_counter_order : Binds K fd_counter_order ["panel", "pressed", "on", "one", "other"] []
  a_shows_counter : Addr
  fd_shows_counter : FuncData
  F_shows_counter : FunD K "shows_counter" "shows_counter" (defArgs s_shows_counter) (defBody s_shows_counter) (defScope s_shows_counter) [] [] a_shows_counter fd_shows_counter
  g_shows_counter : mg "shows_counter" = some (.ref a_shows_counter)
  b_shows_counter : Binds K fd_shows_counter ["panel", "pressed", "on", "one", "other", "thing"] []
  a_Lcell_at : Addr
  fd_Lcell_at : FuncData
  F_Lcell_at : FunD K "_law_cell_at" "_law_cell_at" (defArgs s_Lcell_at) (defBody s_Lcell_at) (defScope s_Lcell_at) [] [] a_Lcell_at fd_Lcell_at
  g_Lcell_at : mg "_law_cell_at" = some (.ref a_Lcell_at)
  b_Lcell_at : Binds K fd_Lcell_at ["_law_script", "_law_k"] []
  a_Lbox : Addr
  fd_Lbox : FuncData
  F_Lbox : FunD K "_law_box" "_law_box" (defArgs s_Lbox) (defBody s_Lbox) (defScope s_Lbox) [] [] a_Lbox fd_Lbox
  g_Lbox : mg "_law_box" = some (.ref a_Lbox)
  b_Lbox : Binds K fd_Lbox ["_law_script", "_law_k"] []
  a_Ltake : Addr
  fd_Ltake : FuncData
  F_Ltake : FunD K "_law_take" "_law_take" (defArgs s_Ltake) (defBody s_Ltake) (defScope s_Ltake) [] [] a_Ltake fd_Ltake
  g_Ltake : mg "_law_take" = some (.ref a_Ltake)
  b_Ltake : Binds K fd_Ltake ["_law_box_here", "_law_size"] []
  a_Lof : Addr
  fd_Lof : FuncData
  F_Lof : FunD K "_law_of" "_law_of" (defArgs s_Lof) (defBody s_Lof) (defScope s_Lof) [] [] a_Lof fd_Lof
  g_Lof : mg "_law_of" = some (.ref a_Lof)
  b_Lof : Binds K fd_Lof ["_law_box_here", "_law_some"] []
  a_Lstrewn : Addr
  fd_Lstrewn : FuncData
  F_Lstrewn : FunD K "_law_strewn" "_law_strewn" (defArgs s_Lstrewn) (defBody s_Lstrewn) (defScope s_Lstrewn) [] [] a_Lstrewn fd_Lstrewn
  g_Lstrewn : mg "_law_strewn" = some (.ref a_Lstrewn)
  b_Lstrewn : Binds K fd_Lstrewn ["_law_box_here", "_law_some"] []
  a_Lnames : Addr
  fd_Lnames : FuncData
  F_Lnames : FunD K "_law_names" "_law_names" (defArgs s_Lnames) (defBody s_Lnames) (defScope s_Lnames) [] [] a_Lnames fd_Lnames
  g_Lnames : mg "_law_names" = some (.ref a_Lnames)
  b_Lnames : Binds K fd_Lnames ["_law_box_here", "_law_size"] []
  a_Ltied : Addr
  fd_Ltied : FuncData
  F_Ltied : FunD K "_law_tied" "_law_tied" (defArgs s_Ltied) (defBody s_Ltied) (defScope s_Ltied) [] [] a_Ltied fd_Ltied
  g_Ltied : mg "_law_tied" = some (.ref a_Ltied)
  b_Ltied : Binds K fd_Ltied ["_law_box_here", "_law_called"] []
  a_Lwired : Addr
  fd_Lwired : FuncData
  F_Lwired : FunD K "_law_wired" "_law_wired" (defArgs s_Lwired) (defBody s_Lwired) (defScope s_Lwired) [] [] a_Lwired fd_Lwired
  g_Lwired : mg "_law_wired" = some (.ref a_Lwired)
  b_Lwired : Binds K fd_Lwired ["_law_box_here", "_law_least", "_law_most"] []
  a_Ltable : Addr
  fd_Ltable : FuncData
  F_Ltable : FunD K "_law_table" "_law_table" (defArgs s_Ltable) (defBody s_Ltable) (defScope s_Ltable) [] [] a_Ltable fd_Ltable
  g_Ltable : mg "_law_table" = some (.ref a_Ltable)
  b_Ltable : Binds K fd_Ltable ["_law_wired_here"] []
  a_Lhits : Addr
  fd_Lhits : FuncData
  F_Lhits : FunD K "_law_hits" "_law_hits" (defArgs s_Lhits) (defBody s_Lhits) (defScope s_Lhits) [] [] a_Lhits fd_Lhits
  g_Lhits : mg "_law_hits" = some (.ref a_Lhits)
  b_Lhits : Binds K fd_Lhits ["_law_box_here", "_law_wired_here", "_law_most"] []
  a_Lleft : Addr
  fd_Lleft : FuncData
  F_Lleft : FunD K "_law_left" "_law_left" (defArgs s_Lleft) (defBody s_Lleft) (defScope s_Lleft) [] [] a_Lleft fd_Lleft
  g_Lleft : mg "_law_left" = some (.ref a_Lleft)
  b_Lleft : Binds K fd_Lleft ["_law_table_here", "_law_trail"] []
  a_Lparts : Addr
  fd_Lparts : FuncData
  F_Lparts : FunD K "_law_parts" "_law_parts" (defArgs s_Lparts) (defBody s_Lparts) (defScope s_Lparts) [] [] a_Lparts fd_Lparts
  g_Lparts : mg "_law_parts" = some (.ref a_Lparts)
  b_Lparts : Binds K fd_Lparts ["_law_some"] []
  a_Lfree : Addr
  fd_Lfree : FuncData
  F_Lfree : FunD K "_law_free" "_law_free" (defArgs s_Lfree) (defBody s_Lfree) (defScope s_Lfree) [] [] a_Lfree fd_Lfree
  g_Lfree : mg "_law_free" = some (.ref a_Lfree)
  b_Lfree : Binds K fd_Lfree ["_law_table_here", "_law_part"] []
  a_Lweb : Addr
  fd_Lweb : FuncData
  F_Lweb : FunD K "_law_web" "_law_web" (defArgs s_Lweb) (defBody s_Lweb) (defScope s_Lweb) [] [] a_Lweb fd_Lweb
  g_Lweb : mg "_law_web" = some (.ref a_Lweb)
  b_Lweb : Binds K fd_Lweb ["_law_table_here", "_law_some", "_law_name"] []
  a_Lwebs : Addr
  fd_Lwebs : FuncData
  F_Lwebs : FunD K "_law_webs" "_law_webs" (defArgs s_Lwebs) (defBody s_Lwebs) (defScope s_Lwebs) [] [] a_Lwebs fd_Lwebs
  g_Lwebs : mg "_law_webs" = some (.ref a_Lwebs)
  b_Lwebs : Binds K fd_Lwebs ["_law_table_here", "_law_some"] []
  a_Lfits : Addr
  fd_Lfits : FuncData
  F_Lfits : FunD K "_law_fits" "_law_fits" (defArgs s_Lfits) (defBody s_Lfits) (defScope s_Lfits) [] [] a_Lfits fd_Lfits
  g_Lfits : mg "_law_fits" = some (.ref a_Lfits)
  b_Lfits : Binds K fd_Lfits ["_law_table_here", "_law_hits_here", "_law_webs_here", "_law_part"] []
  a_Lall_stay : Addr
  fd_Lall_stay : FuncData
  F_Lall_stay : FunD K "_law_all_stay" "_law_all_stay" (defArgs s_Lall_stay) (defBody s_Lall_stay) (defScope s_Lall_stay) [] [] a_Lall_stay fd_Lall_stay
  g_Lall_stay : mg "_law_all_stay" = some (.ref a_Lall_stay)
  b_Lall_stay : Binds K fd_Lall_stay ["_law_table_here", "_law_hits_here"] []
  a_Lis_sure : Addr
  fd_Lis_sure : FuncData
  F_Lis_sure : FunD K "_law_is_sure" "_law_is_sure" (defArgs s_Lis_sure) (defBody s_Lis_sure) (defScope s_Lis_sure) [] [] a_Lis_sure fd_Lis_sure
  g_Lis_sure : mg "_law_is_sure" = some (.ref a_Lis_sure)
  b_Lis_sure : Binds K fd_Lis_sure ["_law_table_here", "_law_hits_here", "_law_lit", "_law_mine", "_law_its"] []
  a_LrightT : Addr
  fd_LrightT : FuncData
  F_LrightT : FunD K "_law_right" "_law_right" (defArgs s_LrightT) (defBody s_LrightT) (defScope s_LrightT) [] [] a_LrightT fd_LrightT
  g_LrightT : mg "_law_right" = some (.ref a_LrightT)
  b_LrightT : Binds K fd_LrightT ["_law_box_here"] []
  a_lawT : Addr
  fd_lawT : FuncData
  F_lawT : FunD K "law" "law" (defArgs s_lawT) (defBody s_lawT) (defScope s_lawT) [] [] a_lawT fd_lawT
  g_lawT : mg "law" = some (.ref a_lawT)
  b_lawT : Binds K fd_lawT ["_law_script"] []
  c_tab : Addr
  P_tab : Addr
  h_tab : fd_laid_round.code = .ref c_tab
  m_abs : mg "abs" = none
  m_all : mg "all" = none
  m_any : mg "any" = none
  m_dict : mg "dict" = none
  m_enumerate : mg "enumerate" = none
  m_int : mg "int" = none
  m_isinstance : mg "isinstance" = none
  m_len : mg "len" = none
  m_list : mg "list" = none
  m_max : mg "max" = none
  m_min : mg "min" = none
  m_range : mg "range" = none
  m_sorted : mg "sorted" = none
  m_str : mg "str" = none
  m_tuple : mg "tuple" = none
section
variable {P : Program} {w : World} {K : PySem.W.Frag} {mg : Str → Option Value} {base : Heap}
theorem d_look_switches (T : Tx K mg) : FnOk P w K mg base CX0 1 T.a_look_switches T.fd_look_switches ["panel", "switches"] (sp_look_switches K) := by
  refine T.F_look_switches.ok sc_look_switches l_look_switches (fun cdv A outer s H vs Q E hr h => ⟨t_look_switches K, PSs.nox ?_, r_look_switches vs H Q E h⟩)
  have hu := hu_room hr
  exact (pss_one (ps_for PassesOwn.never rfl (pi_seq (pv 1)) (pg_name (i := 2) sc_look_switches.nd rfl (Or.inl rfl)) (pss_one (ps_if (pt_cmpR (op_notInU hu) (pv 2) (pe_ix (ix_U hu) (pv 0) pe_int (fun _ _ => rfl)) (by rfl)) (pss_one ps_never) pss_nil))))
theorem d_rival_table (T : Tx K mg) : FnOk P w K mg base CX0 1 T.a_rival_table T.fd_rival_table ["panel"] (sp_rival_table K) := by
  refine T.F_rival_table.ok sc_rival_table l_rival_table (fun cdv A outer s H vs Q E hr h => ⟨t_rival_table K, PSs.nox ?_, r_rival_table vs H Q E h⟩)
  have hu := hu_room hr
  exact (pss_cons (ps_set (i := 1) sc_rival_table.nd rfl (Or.inr rfl) (pe_dc (own := [("switch", 4)]) rfl sc_rival_table.nd (pi_seq (pe_ix (ix_U hu) (pv 0) pe_int (fun _ _ => rfl))) (blkOk_by (own := [("switch", 4)]) (N := N_rival_table) (sc := defScope s_rival_table) (by decide +kernel)) (fun _ _ _ _ _ => (pg_name (i := 4) sc_rival_table.nd rfl (by first | exact Or.inl rfl | exact Or.inr rfl))) (fun _ _ _ _ _ => pts_nil) (fun _ _ _ _ _ => (pv 4)) (fun _ _ _ _ _ => (pe_lst pa_nil))))
      (pss_cons (ps_for PassesOwn.never rfl (pi_seq (pe_ix (ix_U hu) (pv 0) pe_int (fun _ _ => rfl))) (pg_unp rfl (pgs_cons (pg_name (i := 2) sc_rival_table.nd rfl (Or.inl rfl)) (pgs_cons (pg_name (i := 3) sc_rival_table.nd rfl (Or.inl rfl)) pgs_nil))) (pss_cons (ps_expr (pe_bm PySem.F.plainAttrs_list PySem.F.slot_list_append PySem.F.type_list_append mt_append (pe_ix (ix_U hu) (pv 1) (pv 2) (fun _ _ => rfl)) (pa_cons (pv 3) pa_nil)))
      (pss_one (ps_expr (pe_bm PySem.F.plainAttrs_list PySem.F.slot_list_append PySem.F.type_list_append mt_append (pe_ix (ix_U hu) (pv 1) (pv 3) (fun _ _ => rfl)) (pa_cons (pv 2) pa_nil))))))
      (pss_one (ps_ret (pe_lock (pe_dc (own := [("switch", 4)]) rfl sc_rival_table.nd (pi_keys (pv 1)) (blkOk_by (own := [("switch", 4)]) (N := N_rival_table) (sc := defScope s_rival_table) (by decide +kernel)) (fun _ _ _ _ _ => (pg_name (i := 4) sc_rival_table.nd rfl (by first | exact Or.inl rfl | exact Or.inr rfl))) (fun _ _ _ _ _ => pts_nil) (fun _ _ _ _ _ => (pv 4)) (fun _ _ _ _ _ => (pe_callB (cr_sortU rfl hu) (by rfl) T.m_sorted (by decide +kernel) (pa_cons (pe_ix (ix_U hu) (pv 1) (pv 4) (fun _ _ => rfl)) pa_nil)))))))))
theorem d_component_of (T : Tx K mg) : FnOk P w K mg base CX0 1 T.a_component_of T.fd_component_of ["rivals", "switches", "switch"] (sp_component_of K) := by
  refine T.F_component_of.ok sc_component_of l_component_of (fun cdv A outer s H vs Q E hr h => ⟨t_component_of K, PSs.nox ?_, r_component_of vs H Q E h⟩)
  have hu := hu_room hr
  exact (pss_cons (ps_asg (pe_tup (pa_cons (pe_lst (pa_cons (pv 2) pa_nil)) (pa_cons pe_int pa_nil))) (pg_unp rfl (pgs_cons (pg_name (i := 3) sc_component_of.nd rfl (Or.inr rfl)) (pgs_cons (pg_name (i := 4) sc_component_of.nd rfl (Or.inl rfl)) pgs_nil))))
      (pss_cons (ps_while PassesOwn.never (pt_cmpR (op_ltU hu) (pv 4) (pe_callB call_lenU (by rfl) T.m_len (by decide +kernel) (pa_cons (pv 3) pa_nil)) (nomark _)) (pss_cons (ps_expr (pe_bm PySem.F.plainAttrs_list PySem.F.slot_list_extend PySem.F.type_list_extend mt_extend (pv 3) (pa_cons (pe_lc (own := [("other", 5)]) rfl sc_component_of.nd (pi_seq (pe_ix (ix_U hu) (pv 0) (pe_ix (ix_U hu) (pv 3) (pv 4) (fun _ _ => rfl)) (fun _ _ => rfl))) (blkOk_by (own := [("other", 5)]) (N := N_component_of) (sc := defScope s_component_of) (by decide +kernel)) (fun _ _ _ _ _ => (pg_name (i := 5) sc_component_of.nd rfl (by first | exact Or.inl rfl | exact Or.inr rfl))) (fun _ _ _ _ _ => (pts_one (PW.pt (pw_and (pt_cmpR (op_inU hu) (pv 5) (pv 1) (by rfl)) (pw_and1 (pt_cmpR (op_notInU hu) (pv 5) (pv 3) (by rfl))))))) (fun _ _ _ _ _ => (pv 5))) pa_nil)))
      (pss_one (ps_aug (i := 4) sc_component_of.nd rfl (Or.inl rfl) pe_int ip_add))))
      (pss_one (ps_ret (pe_callB (cr_sortU rfl hu) (by rfl) T.m_sorted (by decide +kernel) (pa_cons (pv 3) pa_nil))))))
theorem d_components (T : Tx K mg) : FnOk P w K mg base CX0 2 T.a_components T.fd_components ["rivals", "switches"] (sp_components K) := by
  refine T.F_components.ok sc_components l_components (fun cdv A outer s H vs Q E hr h => ⟨t_components K, PSs.nox ?_, r_components vs H Q E h⟩)
  have hu := hu_room hr
  exact (pss_cons (ps_asg (pe_tup (pa_cons (pe_callB (cr_sortU rfl hu) (by rfl) T.m_sorted (by decide +kernel) (pa_cons (pv 1) pa_nil)) (pa_cons (pe_lst pa_nil) pa_nil))) (pg_unp rfl (pgs_cons (pg_name (i := 2) sc_components.nd rfl (Or.inl rfl)) (pgs_cons (pg_name (i := 3) sc_components.nd rfl (Or.inr rfl)) pgs_nil))))
      (pss_cons (ps_while PassesOwn.never (pt_cmpR (op_gtU hu) (pe_callB call_lenU (by rfl) T.m_len (by decide +kernel) (pa_cons (pv 2) pa_nil)) pe_int (nomark _)) (pss_cons (ps_expr (pe_bm PySem.F.plainAttrs_list PySem.F.slot_list_append PySem.F.type_list_append mt_append (pv 3) (pa_cons (pe_call (d_component_of T) (hr.mono (by decide)) (by rfl) T.g_component_of T.F_component_of.kp T.b_component_of .nil pass0 (pa_cons (pv 0) (pa_cons (pv 1) (pa_cons (pe_ix (ix_U hu) (pv 2) pe_int (fun _ _ => rfl)) pa_nil)))) pa_nil)))
      (pss_one (ps_setLc (i := 2) (own := [("switch", 4)]) rfl sc_components.nd rfl rfl (sw_true rfl rfl rfl (by decide +kernel)) (pi_seq (pv 2)) (blkOk_by (own := [("switch", 4)]) (N := N_components) (sc := defScope s_components) (by decide +kernel)) (fun _ _ _ _ _ => (pg_name (i := 4) sc_components.nd rfl (by first | exact Or.inl rfl | exact Or.inr rfl))) (fun _ _ _ _ _ => (pts_one (pt_cmpR (op_notInU hu) (pv 4) (pe_ix (ix_U hu) (pv 3) (pe_un un_neg pe_int) (fun _ _ => rfl)) (by rfl)))) (fun _ _ _ _ _ => (pv 4))))))
      (pss_one (ps_ret (pv 3)))))
theorem d_left_on (T : Tx K mg) : FnOk P w K mg base CX0 1 T.a_left_on T.fd_left_on ["rivals", "order"] (sp_left_on K) := by
  refine T.F_left_on.ok sc_left_on l_left_on (fun cdv A outer s H vs Q E hr h => ⟨t_left_on K, PSs.nox ?_, r_left_on vs H Q E h⟩)
  have hu := hu_room hr
  exact (pss_cons (ps_set (i := 2) sc_left_on.nd rfl (Or.inl rfl) (pe_lst pa_nil))
      (pss_cons (ps_for PassesOwn.never rfl (pi_enum (by rfl) T.m_enumerate (pa_cons (pv 1) pa_nil)) (pg_unp rfl (pgs_cons (pg_name (i := 3) sc_left_on.nd rfl (Or.inl rfl)) (pgs_cons (pg_name (i := 4) sc_left_on.nd rfl (Or.inr rfl)) pgs_nil))) (pss_one (ps_if (pt_not (pt_val (pe_callB (cr_any rfl) (by rfl) T.m_any (by decide +kernel) (pa_cons (pe_lc (own := [("other", 5)]) rfl sc_left_on.nd (pi_seq (pe_slice sl_U (pv 1) (po_some (pe_op op_addU (pv 3) pe_int)) po_none)) (blkOk_by (own := [("other", 5)]) (N := N_left_on) (sc := defScope s_left_on) (by decide +kernel)) (fun _ _ _ _ _ => (pg_name (i := 5) sc_left_on.nd rfl (by first | exact Or.inl rfl | exact Or.inr rfl))) (fun _ _ _ _ _ => pts_nil) (fun _ _ _ _ _ => (pe_cmpR (op_inU hu) (pv 5) (pe_ix (ix_U hu) (pv 0) (pv 4) (fun _ _ => rfl)) (by rfl)))) pa_nil)))) (pss_one (ps_expr (pe_bm PySem.F.plainAttrs_list PySem.F.slot_list_append PySem.F.type_list_append mt_append (pv 2) (pa_cons (pv 4) pa_nil)))) pss_nil)))
      (pss_one (ps_ret (pe_callB (cr_sortU rfl hu) (by rfl) T.m_sorted (by decide +kernel) (pa_cons (pv 2) pa_nil))))))
theorem d_distances (T : Tx K mg) : FnOk P w K mg base CX0 1 T.a_distances T.fd_distances ["rivals", "switches", "ends"] (sp_distances K) := by
  refine T.F_distances.ok sc_distances l_distances (fun cdv A outer s H vs Q E hr h => ⟨t_distances K, PSs.nox ?_, r_distances vs H Q E h⟩)
  have hu := hu_room hr
  exact (pss_cons (ps_asg (pe_tup (pa_cons (pe_dc (own := [("end", 7)]) rfl sc_distances.nd (pi_seq (pv 2)) (blkOk_by (own := [("end", 7)]) (N := N_distances) (sc := defScope s_distances) (by decide +kernel)) (fun _ _ _ _ _ => (pg_name (i := 7) sc_distances.nd rfl (by first | exact Or.inl rfl | exact Or.inr rfl))) (fun _ _ _ _ _ => pts_nil) (fun _ _ _ _ _ => (pv 7)) (fun _ _ _ _ _ => pe_int)) (pa_cons (pe_callTy (call_listU rfl) (by rfl) T.m_list (by decide +kernel) (pa_cons (pv 2) pa_nil)) (pa_cons pe_int pa_nil)))) (pg_unp rfl (pgs_cons (pg_name (i := 3) sc_distances.nd rfl (Or.inr rfl)) (pgs_cons (pg_name (i := 4) sc_distances.nd rfl (Or.inl rfl)) (pgs_cons (pg_name (i := 5) sc_distances.nd rfl (Or.inr rfl)) pgs_nil)))))
      (pss_cons (ps_while PassesOwn.never (pt_cmpR (op_gtU hu) (pe_callB call_lenU (by rfl) T.m_len (by decide +kernel) (pa_cons (pv 4) pa_nil)) pe_int (nomark _)) (pss_cons (ps_aug (i := 5) sc_distances.nd rfl (Or.inr rfl) pe_int ip_add)
      (pss_cons (ps_setDc2 (i := 6) (own := [("switch", 8), ("other", 9)]) rfl sc_distances.nd rfl rfl (swD_true rfl rfl rfl (by decide +kernel)) (pi_seq (pv 4)) (blkOk_by (own := [("switch", 8), ("other", 9)]) (N := N_distances) (sc := defScope s_distances) (by decide +kernel)) (by decide) (fun _ _ _ _ _ => (pg_name (i := 8) sc_distances.nd rfl (by first | exact Or.inl rfl | exact Or.inr rfl))) (fun _ _ _ _ _ => pts_nil) (fun _ _ _ _ _ => (pi_seq (pe_ix (ix_U hu) (pv 0) (pv 8) (fun _ _ => rfl)))) (fun _ _ _ _ _ => (pg_name (i := 9) sc_distances.nd rfl (by first | exact Or.inl rfl | exact Or.inr rfl))) (fun _ _ _ _ _ => (pts_one (PW.pt (pw_and (pt_cmpR (op_inU hu) (pv 9) (pv 1) (by rfl)) (pw_and1 (pt_cmpR (op_notInU hu) (pv 9) (pv 3) (by rfl))))))) (fun _ _ _ _ _ => (pv 9)) (fun _ _ _ _ _ => (pv 5)))
      (pss_cons (ps_expr (pe_bm PySem.F.plainAttrs_dict PySem.F.slot_dict_update PySem.F.type_dict_update mt_updU (pv 3) (pa_cons (pv 6) pa_nil)))
      (pss_one (ps_set (i := 4) sc_distances.nd rfl (Or.inl rfl) (pe_callTy (call_listU rfl) (by rfl) T.m_list (by decide +kernel) (pa_cons (pv 6) pa_nil))))))))
      (pss_one (ps_ret (pv 3)))))
theorem d_look_pressed (T : Tx K mg) : FnOk P w K mg base CX0 2 T.a_look_pressed T.fd_look_pressed ["panel", "pressed", "lit"] (sp_look_pressed K) := by
  refine T.F_look_pressed.ok sc_look_pressed l_look_pressed (fun cdv A outer s H vs Q E hr h => ⟨t_look_pressed K, PSs.nox ?_, r_look_pressed vs H Q E h⟩)
  have hu := hu_room hr
  exact (pss_one (ps_expr (pe_call (d_look_switches T) (hr.mono (by decide)) (by rfl) T.g_look_switches T.F_look_switches.kp T.b_look_switches .nil pass0 (pa_cons (pv 0) (pa_cons (pe_op op_addU (pe_callTy (call_listU rfl) (by rfl) T.m_list (by decide +kernel) (pa_cons (pv 1) pa_nil)) (pe_callTy (call_listU rfl) (by rfl) T.m_list (by decide +kernel) (pa_cons (pv 2) pa_nil))) pa_nil)))))
theorem d_can_leave (T : Tx K mg) : FnOk P w K mg base CX0 3 T.a_can_leave T.fd_can_leave ["rivals", "pressed", "lit"] (sp_can_leave K) := by
  refine T.F_can_leave.ok sc_can_leave l_can_leave (fun cdv A outer s H vs Q E hr h => ⟨t_can_leave K, PSs.nox ?_, r_can_leave vs H Q E h⟩)
  have hu := hu_room hr
  exact (pss_cons (ps_if (PW.pt (pw_or (pt_not (pt_val (pe_callB (cr_all rfl) (by rfl) T.m_all (by decide +kernel) (pa_cons (pe_lc (own := [("switch", 3)]) rfl sc_can_leave.nd (pi_seq (pv 2)) (blkOk_by (own := [("switch", 3)]) (N := N_can_leave) (sc := defScope s_can_leave) (by decide +kernel)) (fun _ _ _ _ _ => (pg_name (i := 3) sc_can_leave.nd rfl (by first | exact Or.inl rfl | exact Or.inr rfl))) (fun _ _ _ _ _ => pts_nil) (fun _ _ _ _ _ => (pe_cmpR (op_inU hu) (pv 3) (pv 1) (by rfl)))) pa_nil)))) (pw_or1 (pt_cmpR (op_neP hu) (pe_call (d_left_on T) (hr.mono (by decide)) (by rfl) T.g_left_on T.F_left_on.kp T.b_left_on .nil pass0 (pa_cons (pv 0) (pa_cons (pe_callTy (call_listU rfl) (by rfl) T.m_list (by decide +kernel) (pa_cons (pv 2) pa_nil)) pa_nil))) (pe_callB (cr_sortU rfl hu) (by rfl) T.m_sorted (by decide +kernel) (pa_cons (pv 2) pa_nil)) (nomark _))))) (pss_one (ps_ret pe_bl)) pss_nil)
      (pss_one (ps_ret (pe_callB (cr_all rfl) (by rfl) T.m_all (by decide +kernel) (pa_cons (pe_lc (own := [("group", 4)]) rfl sc_can_leave.nd (pi_seq (pe_call (d_components T) (hr.mono (by decide)) (by rfl) T.g_components T.F_components.kp T.b_components .nil pass0 (pa_cons (pv 0) (pa_cons (pv 1) pa_nil)))) (blkOk_by (own := [("group", 4)]) (N := N_can_leave) (sc := defScope s_can_leave) (by decide +kernel)) (fun _ _ _ _ _ => (pg_name (i := 4) sc_can_leave.nd rfl (by first | exact Or.inl rfl | exact Or.inr rfl))) (fun _ _ _ _ _ => pts_nil) (fun _ _ _ _ _ => (pe_callB (cr_any rfl) (by rfl) T.m_any (by decide +kernel) (pa_cons (pe_lc (own := [("switch", 3)]) rfl sc_can_leave.nd (pi_seq (pv 4)) (blkOk_by (own := [("switch", 3)]) (N := N_can_leave) (sc := { kind := .function, names := [(".0", .local), ("group", .local), ("any", .globalImplicit), ("lit", .cell)], isGenerator := false, isCoroutine := false, more := [] }) (by decide +kernel)) (fun _ _ _ _ _ => (pg_name (i := 3) sc_can_leave.nd rfl (by first | exact Or.inl rfl | exact Or.inr rfl))) (fun _ _ _ _ _ => pts_nil) (fun _ _ _ _ _ => (pe_cmpR (op_inU hu) (pv 3) (pv 2) (by rfl)))) pa_nil)))) pa_nil)))))
theorem d_look_order (T : Tx K mg) : FnOk P w K mg base CX0 4 T.a_look_order T.fd_look_order ["rivals", "pressed", "lit"] (sp_look_order K) := by
  refine T.F_look_order.ok sc_look_order l_look_order (fun cdv A outer s H vs Q E hr h => ⟨t_look_order K, PSs.nox ?_, r_look_order vs H Q E h⟩)
  have hu := hu_room hr
  exact (pss_one (ps_if (pt_not (pt_val (pe_call (d_can_leave T) (hr.mono (by decide)) (by rfl) T.g_can_leave T.F_can_leave.kp T.b_can_leave .nil pass0 (pa_cons (pv 0) (pa_cons (pv 1) (pa_cons (pv 2) pa_nil)))))) (pss_one ps_never) pss_nil))
theorem d_is_order (T : Tx K mg) : FnOk P w K mg base CX0 2 T.a_is_order T.fd_is_order ["rivals", "pressed", "lit", "thing"] (sp_is_order K) := by
  refine T.F_is_order.ok sc_is_order l_is_order (fun cdv A outer s H vs Q E hr h => ⟨t_is_order K, PSs.nox ?_, r_is_order vs H Q E h⟩)
  have hu := hu_room hr
  exact (pss_cons (ps_if (PW.pt (pw_or (pt_not (pt_val (pe_callB call_isi (by rfl) T.m_isinstance (by decide +kernel) (pa_cons (pv 3) (pa_cons (pe_bltn (v := .ty "list") (by rfl) T.m_list (by decide +kernel) rfl) pa_nil))))) (pw_or1 (pt_not (pt_val (pe_callB (cr_all rfl) (by rfl) T.m_all (by decide +kernel) (pa_cons (pe_lc (own := [("switch", 4)]) rfl sc_is_order.nd (pi_seq (pv 3)) (blkOk_by (own := [("switch", 4)]) (N := N_is_order) (sc := defScope s_is_order) (by decide +kernel)) (fun _ _ _ _ _ => (pg_name (i := 4) sc_is_order.nd rfl (by first | exact Or.inl rfl | exact Or.inr rfl))) (fun _ _ _ _ _ => pts_nil) (fun _ _ _ _ _ => (pe_callB call_isi (by rfl) T.m_isinstance (by decide +kernel) (pa_cons (pv 4) (pa_cons (pe_bltn (v := .ty "str") (by rfl) T.m_str (by decide +kernel) rfl) pa_nil))))) pa_nil))))))) (pss_one (ps_ret pe_bl)) pss_nil)
      (pss_one (ps_ret (pe_and (pe_cmpR (op_eqP hu) (pe_callB (cr_sortU rfl hu) (by rfl) T.m_sorted (by decide +kernel) (pa_cons (pv 3) pa_nil)) (pe_callB (cr_sortU rfl hu) (by rfl) T.m_sorted (by decide +kernel) (pa_cons (pv 1) pa_nil)) (nomark _)) (pe_one (pe_cmpR (op_eqP hu) (pe_call (d_left_on T) (hr.mono (by decide)) (by rfl) T.g_left_on T.F_left_on.kp T.b_left_on .nil pass0 (pa_cons (pv 0) (pa_cons (pv 3) pa_nil))) (pe_callB (cr_sortU rfl hu) (by rfl) T.m_sorted (by decide +kernel) (pa_cons (pv 2) pa_nil)) (nomark _)))))))
theorem d_path_to (T : Tx K mg) : FnOk P w K mg base CX0 1 T.a_path_to T.fd_path_to ["rivals", "inside", "start", "ends"] (sp_path_to K) := by
  refine T.F_path_to.ok sc_path_to l_path_to (fun cdv A outer s H vs Q E hr h => ⟨t_path_to K, PSs.nox ?_, r_path_to vs H Q E h⟩)
  have hu := hu_room hr
  exact (pss_cons (ps_par3 (i := 4) (j := 5) (l := 6) (by rfl) sc_path_to.nd rfl rfl rfl (by decide) (by decide) (by decide) rfl rfl rfl (pa_cons (pe_ifExp (pt_cmpR (op_inU hu) (pv 2) (pv 1) (by rfl)) (pe_lst (pa_cons (pe_lst (pa_cons (pv 2) pa_nil)) pa_nil)) (pe_lst pa_nil)) (pa_cons (pe_lst (pa_cons (pv 2) pa_nil)) (pa_cons pe_int pa_nil))) (by rfl))
      (pss_cons (ps_while PassesOwn.never (pt_cmpR (op_ltU hu) (pv 6) (pe_callB call_lenU (by rfl) T.m_len (by decide +kernel) (pa_cons (pv 4) pa_nil)) (nomark _)) (pss_cons (ps_set (i := 7) sc_path_to.nd rfl (Or.inl rfl) (pe_ix (ix_U hu) (pv 4) (pv 6) (fun _ _ => rfl)))
      (pss_cons (ps_if (pt_cmpR (op_inU hu) (pe_ix (ix_U hu) (pv 7) (pe_un un_neg pe_int) (fun _ _ => rfl)) (pv 3) (by rfl)) (pss_one (ps_ret (pv 7))) pss_nil)
      (pss_cons (ps_for PassesOwn.never rfl (pi_seq (pe_ix (ix_U hu) (pv 0) (pe_ix (ix_U hu) (pv 7) (pe_un un_neg pe_int) (fun _ _ => rfl)) (fun _ _ => rfl))) (pg_name (i := 8) sc_path_to.nd rfl (Or.inl rfl)) (pss_one (ps_if (PW.pt (pw_and (pt_cmpR (op_inU hu) (pv 8) (pv 1) (by rfl)) (pw_and1 (pt_cmpR (op_notInU hu) (pv 8) (pv 5) (by rfl))))) (pss_cons (ps_expr (pe_bm PySem.F.plainAttrs_list PySem.F.slot_list_append PySem.F.type_list_append mt_append (pv 5) (pa_cons (pv 8) pa_nil)))
      (pss_one (ps_expr (pe_bm PySem.F.plainAttrs_list PySem.F.slot_list_append PySem.F.type_list_append mt_append (pv 4) (pa_cons (pe_op op_addU (pv 7) (pe_lst (pa_cons (pv 8) pa_nil))) pa_nil))))) pss_nil)))
      (pss_one (ps_aug (i := 6) sc_path_to.nd rfl (Or.inl rfl) pe_int ip_add))))))
      (pss_one (ps_ret pe_non))))
theorem d_way_round (T : Tx K mg) : FnOk P w K mg base CX0 2 T.a_way_round T.fd_way_round ["rivals", "pressed", "lit", "one", "other"] (sp_way_round K) := by
  refine T.F_way_round.ok sc_way_round l_way_round (fun cdv A outer s H vs Q E hr h => ⟨t_way_round K, PSs.nox ?_, r_way_round vs H Q E h⟩)
  have hu := hu_room hr
  exact (pss_cons (ps_set (i := 5) sc_way_round.nd rfl (Or.inr rfl) (pe_op op_addU (pe_lst (pa_cons (pv 4) pa_nil)) (pe_ifExp (pt_cmpR (op_inU hu) (pv 4) (pv 2) (by rfl)) (pe_ix (ix_U hu) (pv 0) (pv 4) (fun _ _ => rfl)) (pe_lst pa_nil))))
      (pss_cons (ps_setLc (i := 6) (own := [("switch", 7)]) rfl sc_way_round.nd rfl rfl (sw_true rfl rfl rfl (by decide +kernel)) (pi_seq (pv 1)) (blkOk_by (own := [("switch", 7)]) (N := N_way_round) (sc := defScope s_way_round) (by decide +kernel)) (fun _ _ _ _ _ => (pg_name (i := 7) sc_way_round.nd rfl (by first | exact Or.inl rfl | exact Or.inr rfl))) (fun _ _ _ _ _ => (pts_one (pt_cmpR (op_notInU hu) (pv 7) (pv 5) (by rfl)))) (fun _ _ _ _ _ => (pv 7)))
      (pss_one (ps_ret (pe_call (d_path_to T) (hr.mono (by decide)) (by rfl) T.g_path_to T.F_path_to.kp T.b_path_to .nil pass0 (pa_cons (pv 0) (pa_cons (pv 6) (pa_cons (pv 3) (pa_cons (pe_lc (own := [("switch", 7)]) rfl sc_way_round.nd (pi_seq (pv 2)) (blkOk_by (own := [("switch", 7)]) (N := N_way_round) (sc := defScope s_way_round) (by decide +kernel)) (fun _ _ _ _ _ => (pg_name (i := 7) sc_way_round.nd rfl (by first | exact Or.inl rfl | exact Or.inr rfl))) (fun _ _ _ _ _ => (pts_one (pt_cmpR (op_neP hu) (pv 7) (pv 4) (nomark _)))) (fun _ _ _ _ _ => (pv 7))) pa_nil)))))))))
theorem d_surely_before (T : Tx K mg) : FnOk P w K mg base CX0 5 T.a_surely_before T.fd_surely_before ["panel", "pressed", "on"] (sp_surely_before K) := by
  refine T.F_surely_before.ok sc_surely_before l_surely_before (fun cdv A outer s H vs Q E hr h => ⟨t_surely_before K, PSs.nox ?_, r_surely_before vs H Q E h⟩)
  have hu := hu_room hr
  exact (pss_cons (ps_expr (pe_call (d_look_pressed T) (hr.mono (by decide)) (by rfl) T.g_look_pressed T.F_look_pressed.kp T.b_look_pressed .nil pass0 (pa_cons (pv 0) (pa_cons (pv 1) (pa_cons (pv 2) pa_nil)))))
      (pss_cons (ps_par (i := 3) (j := 4) (by rfl) sc_surely_before.nd rfl rfl (by decide) rfl rfl (pa_cons (pe_call (d_rival_table T) (hr.mono (by decide)) (by rfl) T.g_rival_table T.F_rival_table.kp T.b_rival_table .nil pass0 (pa_cons (pv 0) pa_nil)) (pa_cons (pe_lst pa_nil) pa_nil)) (by rfl))
      (pss_cons (ps_expr (pe_call (d_look_order T) (hr.mono (by decide)) (by rfl) T.g_look_order T.F_look_order.kp T.b_look_order .nil pass0 (pa_cons (pv 3) (pa_cons (pv 1) (pa_cons (pv 2) pa_nil)))))
      (pss_cons (ps_for PassesOwn.never rfl (pi_seq (pe_callB (cr_sortU rfl hu) (by rfl) T.m_sorted (by decide +kernel) (pa_cons (pv 1) pa_nil))) (pg_name (i := 5) sc_surely_before.nd rfl (Or.inl rfl)) (pss_one (ps_for PassesOwn.never rfl (pi_seq (pe_callB (cr_sortU rfl hu) (by rfl) T.m_sorted (by decide +kernel) (pa_cons (pv 1) pa_nil))) (pg_name (i := 6) sc_surely_before.nd rfl (Or.inl rfl)) (pss_one (ps_if (PW.pt (pw_and (pt_cmpR (op_neP hu) (pv 5) (pv 6) (nomark _)) (pw_and1 (pt_cmpR op_isNr (pe_call (d_way_round T) (hr.mono (by decide)) (by rfl) T.g_way_round T.F_way_round.kp T.b_way_round .nil pass0 (pa_cons (pv 3) (pa_cons (pv 1) (pa_cons (pv 2) (pa_cons (pv 5) (pa_cons (pv 6) pa_nil)))))) pe_non (nomark _))))) (pss_one (ps_expr (pe_bm PySem.F.plainAttrs_list PySem.F.slot_list_append PySem.F.type_list_append mt_append (pv 4) (pa_cons (pe_tup (pa_cons (pv 5) (pa_cons (pv 6) pa_nil))) pa_nil)))) pss_nil)))))
      (pss_one (ps_ret (pv 4)))))))
theorem d_look_both (T : Tx K mg) : FnOk P w K mg base CX0 1 T.a_look_both T.fd_look_both ["pressed", "one", "other"] (sp_look_both K) := by
  refine T.F_look_both.ok sc_look_both l_look_both (fun cdv A outer s H vs Q E hr h => ⟨t_look_both K, PSs.nox ?_, r_look_both vs H Q E h⟩)
  have hu := hu_room hr
  exact (pss_one (ps_for PassesOwn.never rfl (pi_seq (pe_tup (pa_cons (pv 1) (pa_cons (pv 2) pa_nil)))) (pg_name (i := 3) sc_look_both.nd rfl (Or.inl rfl)) (pss_one (ps_if (pt_cmpR (op_notInU hu) (pv 3) (pv 0) (by rfl)) (pss_one ps_never) pss_nil))))
theorem d_laid_round (T : Tx K mg) (TB : LamX.TabB base mg T.c_tab T.P_tab) : FnOk P w K mg base CX0 2 T.a_laid_round T.fd_laid_round ["rivals", "pressed", "lit", "path", "other"] (sp_laid_round K T.P_tab) := by
  refine okC T.F_laid_round T.h_tab sc_laid_round l_laid_round (fun A outer s H vs Q E hr h => ⟨t_laid_round K T.P_tab, PSs.nox ?_, r_laid_round vs H Q E h⟩)
  have hu := hu_room hr
  have hcd : Value.ref T.c_tab = .ref T.c_tab := rfl
  exact (pss_cons (ps_set (i := 5) sc_laid_round.nd rfl (Or.inr rfl) (pe_call (d_distances T) (hr.mono (by decide)) (by rfl) T.g_distances T.F_distances.kp T.b_distances .nil pass0 (pa_cons (pv 0) (pa_cons (pv 1) (pa_cons (pe_op op_addU (pv 3) (pe_lc (own := [("switch", 7)]) rfl sc_laid_round.nd (pi_seq (pv 2)) (blkOk_by (own := [("switch", 7)]) (N := N_laid_round) (sc := defScope s_laid_round) (by decide +kernel)) (fun _ _ _ _ _ => (pg_name (i := 7) sc_laid_round.nd rfl (by first | exact Or.inl rfl | exact Or.inr rfl))) (fun _ _ _ _ _ => (pts_one (pt_cmpR (op_notInU hu) (pv 7) (pv 3) (by rfl)))) (fun _ _ _ _ _ => (pv 7)))) pa_nil)))))
      (pss_cons (ps_set (i := 6) sc_laid_round.nd rfl (Or.inl rfl) (pe_sortLam hr (pe_lc (own := [("switch", 7)]) rfl sc_laid_round.nd (pi_seq (pv 1)) (blkOk_by (own := [("switch", 7)]) (N := N_laid_round) (sc := defScope s_laid_round) (by decide +kernel)) (fun _ _ _ _ _ => (pg_name (i := 7) sc_laid_round.nd rfl (by first | exact Or.inl rfl | exact Or.inr rfl))) (fun _ _ _ _ _ => (pts_one (pt_cmpR (op_gtU hu) (pe_ix (ix_U hu) (pv 5) (pv 7) (fun _ _ => rfl)) pe_int (nomark _)))) (fun _ _ _ _ _ => (pv 7))) (by rfl) T.m_sorted TB hcd rfl rfl (by rfl) rfl rfl rfl (by decide +kernel) rfl rfl (by decide +kernel) (fun _ _ _ _ _ _ => rfl)))
      (pss_cons (ps_aug (i := 6) sc_laid_round.nd rfl (Or.inl rfl) (pe_lc (own := [("switch", 7)]) rfl sc_laid_round.nd (pi_seq (pv 2)) (blkOk_by (own := [("switch", 7)]) (N := N_laid_round) (sc := defScope s_laid_round) (by decide +kernel)) (fun _ _ _ _ _ => (pg_name (i := 7) sc_laid_round.nd rfl (by first | exact Or.inl rfl | exact Or.inr rfl))) (fun _ _ _ _ _ => (pts_one (pt_cmpR (op_eqP hu) (pv 7) (pv 4) (nomark _)))) (fun _ _ _ _ _ => (pv 7))) iop_ext)
      (pss_cons (ps_aug (i := 6) sc_laid_round.nd rfl (Or.inl rfl) (pe_lc (own := [("switch", 7)]) rfl sc_laid_round.nd (pi_seq (pv 3)) (blkOk_by (own := [("switch", 7)]) (N := N_laid_round) (sc := defScope s_laid_round) (by decide +kernel)) (fun _ _ _ _ _ => (pg_name (i := 7) sc_laid_round.nd rfl (by first | exact Or.inl rfl | exact Or.inr rfl))) (fun _ _ _ _ _ => (pts_one (pt_cmpR (op_notInU hu) (pv 7) (pv 2) (by rfl)))) (fun _ _ _ _ _ => (pv 7))) iop_ext)
      (pss_one (ps_ret (pe_op op_addU (pv 6) (pe_callB (cr_sortU rfl hu) (by rfl) T.m_sorted (by decide +kernel) (pa_cons (pe_lc (own := [("switch", 7)]) rfl sc_laid_round.nd (pi_seq (pv 2)) (blkOk_by (own := [("switch", 7)]) (N := N_laid_round) (sc := defScope s_laid_round) (by decide +kernel)) (fun _ _ _ _ _ => (pg_name (i := 7) sc_laid_round.nd rfl (by first | exact Or.inl rfl | exact Or.inr rfl))) (fun _ _ _ _ _ => (pts_one (pt_cmpR (op_neP hu) (pv 7) (pv 4) (nomark _)))) (fun _ _ _ _ _ => (pv 7))) pa_nil)))))))))
theorem d_counter_order (T : Tx K mg) (TB : LamX.TabB base mg T.c_tab T.P_tab) : FnOk P w K mg base CX0 5 T.a_counter_order T.fd_counter_order ["panel", "pressed", "on", "one", "other"] (sp_counter_order K T.P_tab) := by
  refine T.F_counter_order.ok sc_counter_order l_counter_order (fun cdv A outer s H vs Q E hr h => ⟨t_counter_order K T.P_tab, PSs.nox ?_, r_counter_order vs H Q E h⟩)
  have hu := hu_room hr
  exact (pss_cons (ps_expr (pe_call (d_look_pressed T) (hr.mono (by decide)) (by rfl) T.g_look_pressed T.F_look_pressed.kp T.b_look_pressed .nil pass0 (pa_cons (pv 0) (pa_cons (pv 1) (pa_cons (pv 2) pa_nil)))))
      (pss_cons (ps_expr (pe_call (d_look_both T) (hr.mono (by decide)) (by rfl) T.g_look_both T.F_look_both.kp T.b_look_both .nil pass0 (pa_cons (pv 1) (pa_cons (pv 3) (pa_cons (pv 4) pa_nil)))))
      (pss_cons (ps_set (i := 5) sc_counter_order.nd rfl (Or.inl rfl) (pe_call (d_rival_table T) (hr.mono (by decide)) (by rfl) T.g_rival_table T.F_rival_table.kp T.b_rival_table .nil pass0 (pa_cons (pv 0) pa_nil)))
      (pss_cons (ps_expr (pe_call (d_look_order T) (hr.mono (by decide)) (by rfl) T.g_look_order T.F_look_order.kp T.b_look_order .nil pass0 (pa_cons (pv 5) (pa_cons (pv 1) (pa_cons (pv 2) pa_nil)))))
      (pss_cons (ps_set (i := 6) sc_counter_order.nd rfl (Or.inl rfl) (pe_call (d_way_round T) (hr.mono (by decide)) (by rfl) T.g_way_round T.F_way_round.kp T.b_way_round .nil pass0 (pa_cons (pv 5) (pa_cons (pv 1) (pa_cons (pv 2) (pa_cons (pv 3) (pa_cons (pv 4) pa_nil)))))))
      (pss_one (ps_ret (pe_ifExp (pt_cmpR op_isNr (pv 6) pe_non (nomark _)) pe_non (pe_call (d_laid_round T TB) (hr.mono (by decide)) (by rfl) T.g_laid_round T.F_laid_round.kp T.b_laid_round .nil pass0 (pa_cons (pv 5) (pa_cons (pv 1) (pa_cons (pe_callTy (call_listU rfl) (by rfl) T.m_list (by decide +kernel) (pa_cons (pv 2) pa_nil)) (pa_cons (pv 6) (pa_cons (pv 4) pa_nil))))))))))))))
theorem d_shows_counter (T : Tx K mg) : FnOk P w K mg base CX0 3 T.a_shows_counter T.fd_shows_counter ["panel", "pressed", "on", "one", "other", "thing"] (sp_shows_counter K) := by
  refine T.F_shows_counter.ok sc_shows_counter l_shows_counter (fun cdv A outer s H vs Q E hr h => ⟨t_shows_counter K, PSs.nox ?_, r_shows_counter vs H Q E h⟩)
  have hu := hu_room hr
  exact (pss_cons (ps_expr (pe_call (d_look_pressed T) (hr.mono (by decide)) (by rfl) T.g_look_pressed T.F_look_pressed.kp T.b_look_pressed .nil pass0 (pa_cons (pv 0) (pa_cons (pv 1) (pa_cons (pv 2) pa_nil)))))
      (pss_cons (ps_expr (pe_call (d_look_both T) (hr.mono (by decide)) (by rfl) T.g_look_both T.F_look_both.kp T.b_look_both .nil pass0 (pa_cons (pv 1) (pa_cons (pv 3) (pa_cons (pv 4) pa_nil)))))
      (pss_one (ps_ret (pe_and (pe_call (d_is_order T) (hr.mono (by decide)) (by rfl) T.g_is_order T.F_is_order.kp T.b_is_order .nil pass0 (pa_cons (pe_call (d_rival_table T) (hr.mono (by decide)) (by rfl) T.g_rival_table T.F_rival_table.kp T.b_rival_table .nil pass0 (pa_cons (pv 0) pa_nil)) (pa_cons (pv 1) (pa_cons (pv 2) (pa_cons (pv 5) pa_nil))))) (pe_one (pe_cmpR (op_ltU hu) (pe_bm PySem.F.plainAttrs_list PySem.F.slot_list_index PySem.F.type_list_index mt_index (pv 5) (pa_cons (pv 4) pa_nil)) (pe_bm PySem.F.plainAttrs_list PySem.F.slot_list_index PySem.F.type_list_index mt_index (pv 5) (pa_cons (pv 3) pa_nil)) (nomark _))))))))
theorem d_Lcell_at (T : Tx K mg) : FnOk P w K mg base CX0 1 T.a_Lcell_at T.fd_Lcell_at ["_law_script", "_law_k"] (sp_Lcell_at K) := by
  refine T.F_Lcell_at.ok sc_Lcell_at l_Lcell_at (fun cdv A outer s H vs Q E hr h => ⟨t_Lcell_at K, PSs.nox ?_, r_Lcell_at vs H Q E h⟩)
  have hu := hu_room hr
  exact (pss_cons (ps_if (pt_cmpR (op_ltU hu) (pv 1) (pe_callB call_lenU (by rfl) T.m_len (by decide +kernel) (pa_cons (pv 0) pa_nil)) (nomark _)) (pss_one (ps_ret (pe_ix (ix_U hu) (pv 0) (pv 1) (fun _ _ => rfl)))) pss_nil)
      (pss_one (ps_ret pe_int)))
theorem d_Lbox (T : Tx K mg) : FnOk P w K mg base CX0 2 T.a_Lbox T.fd_Lbox ["_law_script", "_law_k"] (sp_Lbox K) := by
  refine T.F_Lbox.ok sc_Lbox l_Lbox (fun cdv A outer s H vs Q E hr h => ⟨t_Lbox K, PSs.nox ?_, r_Lbox vs H Q E h⟩)
  have hu := hu_room hr
  exact (pss_cons (ps_set (i := 2) sc_Lbox.nd rfl (Or.inl rfl) (pe_call (d_Lcell_at T) (hr.mono (by decide)) (by rfl) T.g_Lcell_at T.F_Lcell_at.kp T.b_Lcell_at .nil pass0 (pa_cons (pv 0) (pa_cons (pv 1) pa_nil))))
      (pss_one (ps_ret (pe_lst (pa_cons (pe_op op_mulU (pe_callB call_absr (by rfl) T.m_abs (by decide +kernel) (pa_cons (pv 2) pa_nil)) (pe_callTy call_int1r (by rfl) T.m_int (by decide +kernel) (pa_cons (pe_cmpR (op_geU hu) (pe_callB call_absr (by rfl) T.m_abs (by decide +kernel) (pa_cons (pv 2) pa_nil)) (pe_op op_pow pe_int pe_int) (nomark _)) pa_nil))) (pa_cons (pe_op op_addU (pe_op op_addU (pe_op op_mod (pv 2) pe_int) (pe_op op_mulU pe_int (pv 1))) pe_int) (pa_cons pe_int pa_nil)))))))
theorem d_Ltake (T : Tx K mg) : FnOk P w K mg base CX0 1 T.a_Ltake T.fd_Ltake ["_law_box_here", "_law_size"] (sp_Ltake K) := by
  refine T.F_Ltake.ok sc_Ltake l_Ltake (fun cdv A outer s H vs Q E hr h => ⟨t_Ltake K, PSs.nox ?_, r_Ltake vs H Q E h⟩)
  have hu := hu_room hr
  exact (pss_cons (ps_if (pt_cmpR (op_gtU hu) (pe_ix (ix_U hu) (pv 0) pe_int (fun _ _ => rfl)) pe_int (nomark _)) (pss_cons (ps_set (i := 2) sc_Ltake.nd rfl (Or.inl rfl) (pe_op op_mod (pe_ix (ix_U hu) (pv 0) pe_int (fun _ _ => rfl)) (pv 1)))
      (pss_cons (ps_asg (pe_op op_fdiv (pe_ix (ix_U hu) (pv 0) pe_int (fun _ _ => rfl)) (pv 1)) (pg_sub (pv 0) pe_int set_list))
      (pss_one (ps_ret (pv 2))))) pss_nil)
      (pss_cons (ps_asg (pe_op op_addU (pe_ix (ix_U hu) (pv 0) pe_int (fun _ _ => rfl)) pe_int) (pg_sub (pv 0) pe_int set_list))
      (pss_cons (ps_set (i := 3) sc_Ltake.nd rfl (Or.inl rfl) (pe_op op_mod (pe_op op_mulU (pe_op op_addU (pe_ix (ix_U hu) (pv 0) pe_int (fun _ _ => rfl)) (pe_op op_mulU pe_int (pe_ix (ix_U hu) (pv 0) pe_int (fun _ _ => rfl)))) (pe_op op_addU pe_int (pe_ix (ix_U hu) (pv 0) pe_int (fun _ _ => rfl)))) pe_int))
      (pss_cons (ps_set (i := 4) sc_Ltake.nd rfl (Or.inl rfl) (pe_op op_mod (pe_op op_mulU (pe_op op_addU (pe_op op_addU (pv 3) (pe_ix (ix_U hu) (pv 0) pe_int (fun _ _ => rfl))) (pe_op op_fdiv (pe_ix (ix_U hu) (pv 0) pe_int (fun _ _ => rfl)) pe_int)) (pe_op op_addU (pe_op op_mod (pv 3) pe_int) pe_int)) pe_int))
      (pss_one (ps_ret (pe_op op_mod (pe_op op_fdiv (pe_op op_mod (pe_op op_addU (pe_op op_mulU (pv 4) pe_int) (pv 3)) pe_int) pe_int) (pv 1))))))))
theorem d_Lof (T : Tx K mg) : FnOk P w K mg base CX0 2 T.a_Lof T.fd_Lof ["_law_box_here", "_law_some"] (sp_Lof K) := by
  refine T.F_Lof.ok sc_Lof l_Lof (fun cdv A outer s H vs Q E hr h => ⟨t_Lof K, PSs.nox ?_, r_Lof vs H Q E h⟩)
  have hu := hu_room hr
  exact (pss_one (ps_ret (pe_ix (ix_U hu) (pv 1) (pe_call (d_Ltake T) (hr.mono (by decide)) (by rfl) T.g_Ltake T.F_Ltake.kp T.b_Ltake .nil pass0 (pa_cons (pv 0) (pa_cons (pe_callB call_lenU (by rfl) T.m_len (by decide +kernel) (pa_cons (pv 1) pa_nil)) pa_nil))) (fun _ _ => rfl))))
theorem d_Lstrewn (T : Tx K mg) : FnOk P w K mg base CX0 2 T.a_Lstrewn T.fd_Lstrewn ["_law_box_here", "_law_some"] (sp_Lstrewn K) := by
  refine T.F_Lstrewn.ok sc_Lstrewn l_Lstrewn (fun cdv A outer s H vs Q E hr h => ⟨t_Lstrewn K, PSs.nox ?_, r_Lstrewn vs H Q E h⟩)
  have hu := hu_room hr
  exact (pss_cons (ps_par (i := 2) (j := 3) (by rfl) sc_Lstrewn.nd rfl rfl (by decide) rfl rfl (pa_cons (pe_callTy (call_listU rfl) (by rfl) T.m_list (by decide +kernel) (pa_cons (pv 1) pa_nil)) (pa_cons (pe_lst pa_nil) pa_nil)) (by rfl))
      (pss_cons (ps_while PassesOwn.never (pt_cmpR (op_neP hu) (pv 2) (pe_lst pa_nil) (nomark _)) (pss_one (ps_expr (pe_bm PySem.F.plainAttrs_list PySem.F.slot_list_append PySem.F.type_list_append mt_append (pv 3) (pa_cons (pe_bm PySem.F.plainAttrs_list PySem.F.slot_list_pop PySem.F.type_list_pop mt_popAt (pv 2) (pa_cons (pe_call (d_Ltake T) (hr.mono (by decide)) (by rfl) T.g_Ltake T.F_Ltake.kp T.b_Ltake .nil pass0 (pa_cons (pv 0) (pa_cons (pe_callB call_lenU (by rfl) T.m_len (by decide +kernel) (pa_cons (pv 2) pa_nil)) pa_nil))) pa_nil)) pa_nil)))))
      (pss_one (ps_ret (pv 3)))))
theorem d_Lnames (T : Tx K mg) : FnOk P w K mg base CX0 3 T.a_Lnames T.fd_Lnames ["_law_box_here", "_law_size"] (sp_Lnames K) := by
  refine T.F_Lnames.ok sc_Lnames l_Lnames (fun cdv A outer s H vs Q E hr h => ⟨t_Lnames K, PSs.nox ?_, r_Lnames vs H Q E h⟩)
  have hu := hu_room hr
  exact (pss_cons (ps_set (i := 2) sc_Lnames.nd rfl (Or.inl rfl) (pe_lst (pa_cons pe_str (pa_cons pe_str (pa_cons pe_str (pa_cons pe_str (pa_cons pe_str (pa_cons pe_str (pa_cons pe_str (pa_cons pe_str (pa_cons pe_str (pa_cons pe_str (pa_cons pe_str (pa_cons pe_str (pa_cons pe_str (pa_cons pe_str pa_nil))))))))))))))))
      (pss_one (ps_ret (pe_callB (cr_sortU rfl hu) (by rfl) T.m_sorted (by decide +kernel) (pa_cons (pe_slice sl_U (pe_call (d_Lstrewn T) (hr.mono (by decide)) (by rfl) T.g_Lstrewn T.F_Lstrewn.kp T.b_Lstrewn .nil pass0 (pa_cons (pv 0) (pa_cons (pv 2) pa_nil))) po_none (po_some (pv 1))) pa_nil)))))
theorem d_Ltied (T : Tx K mg) : FnOk P w K mg base CX0 3 T.a_Ltied T.fd_Ltied ["_law_box_here", "_law_called"] (sp_Ltied K) := by
  refine T.F_Ltied.ok sc_Ltied l_Ltied (fun cdv A outer s H vs Q E hr h => ⟨t_Ltied K, PSs.nox ?_, r_Ltied vs H Q E h⟩)
  have hu := hu_room hr
  exact (pss_cons (ps_asg (pe_tup (pa_cons (pe_call (d_Ltake T) (hr.mono (by decide)) (by rfl) T.g_Ltake T.F_Ltake.kp T.b_Ltake .nil pass0 (pa_cons (pv 0) (pa_cons pe_int pa_nil))) (pa_cons (pe_lst pa_nil) pa_nil))) (pg_unp rfl (pgs_cons (pg_name (i := 2) sc_Ltied.nd rfl (Or.inr rfl)) (pgs_cons (pg_name (i := 3) sc_Ltied.nd rfl (Or.inl rfl)) pgs_nil))))
      (pss_cons (ps_set (i := 4) sc_Ltied.nd rfl (Or.inr rfl) (pe_call (d_Lstrewn T) (hr.mono (by decide)) (by rfl) T.g_Lstrewn T.F_Lstrewn.kp T.b_Lstrewn .nil pass0 (pa_cons (pv 0) (pa_cons (pv 1) pa_nil))))
      (pss_cons (ps_for PassesOwn.never rfl (pi_range2 (by rfl) T.m_range (pa_cons pe_int (pa_cons (pe_callB call_lenU (by rfl) T.m_len (by decide +kernel) (pa_cons (pv 4) pa_nil)) pa_nil))) (pg_name (i := 5) sc_Ltied.nd rfl (Or.inr rfl)) (pss_cons (ps_setLc (i := 6) (own := [("_law_mate", 7)]) rfl sc_Ltied.nd rfl rfl (sw_true rfl rfl rfl (by decide +kernel)) (pi_seq (pe_slice sl_U (pv 4) po_none (po_some (pv 5)))) (blkOk_by (own := [("_law_mate", 7)]) (N := N_Ltied) (sc := defScope s_Ltied) (by decide +kernel)) (fun _ _ _ _ _ => (pg_name (i := 7) sc_Ltied.nd rfl (by first | exact Or.inl rfl | exact Or.inr rfl))) (fun _ _ _ _ _ => (pts_one (PW.pt (pw_or (pt_cmpR (op_eqP hu) (pv 2) pe_int (nomark _)) (pw_or1 (PW.pt (pw_and (pt_cmpR (op_inU hu) (pv 2) (pe_tup (pa_cons pe_int (pa_cons pe_int pa_nil))) (by rfl)) (pw_and1 (pt_cmpR (op_eqP hu) (pe_call (d_Ltake T) (hr.mono (by decide)) (by rfl) T.g_Ltake T.F_Ltake.kp T.b_Ltake .nil pass0 (pa_cons (pv 0) (pa_cons (pe_op op_sub pe_int (pv 2)) pa_nil))) pe_int (nomark _)))))))))) (fun _ _ _ _ _ => (pv 7)))
      (pss_cons (ps_set (i := 6) sc_Ltied.nd rfl (Or.inl rfl) (pe_op op_addU (pe_op op_addU (pv 6) (pe_op op_mulU (pe_lst (pa_cons (pe_ix (ix_U hu) (pv 4) (pe_op op_sub (pv 5) pe_int) (fun _ _ => rfl)) pa_nil)) (pe_callTy call_int1r (by rfl) T.m_int (by decide +kernel) (pa_cons (pe_cmpR (op_inU hu) (pv 2) (pe_tup (pa_cons pe_int (pa_cons pe_int pa_nil))) (by rfl)) pa_nil)))) (pe_op op_mulU (pe_lst (pa_cons (pe_ix (ix_U hu) (pv 4) pe_int (fun _ _ => rfl)) pa_nil)) (pe_callTy call_int1r (by rfl) T.m_int (by decide +kernel) (pa_cons (pe_cmpR (op_eqP hu) (pv 2) pe_int (nomark _)) pa_nil)))))
      (pss_cons (ps_set (i := 6) sc_Ltied.nd rfl (Or.inl rfl) (pe_op op_addU (pv 6) (pe_op op_mulU (pe_lst (pa_cons (pe_ix (ix_U hu) (pv 4) (pe_call (d_Ltake T) (hr.mono (by decide)) (by rfl) T.g_Ltake T.F_Ltake.kp T.b_Ltake .nil pass0 (pa_cons (pv 0) (pa_cons (pv 5) pa_nil))) (fun _ _ => rfl)) pa_nil)) (pe_callTy call_int1r (by rfl) T.m_int (by decide +kernel) (pa_cons (pe_cmpR (op_eqP hu) (pv 2) pe_int (nomark _)) pa_nil)))))
      (pss_one (ps_set (i := 3) sc_Ltied.nd rfl (Or.inl rfl) (pe_op op_addU (pv 3) (pe_lc (own := [("_law_mate", 7)]) rfl sc_Ltied.nd (pi_seq (pv 6)) (blkOk_by (own := [("_law_mate", 7)]) (N := N_Ltied) (sc := defScope s_Ltied) (by decide +kernel)) (fun _ _ _ _ _ => (pg_name (i := 7) sc_Ltied.nd rfl (by first | exact Or.inl rfl | exact Or.inr rfl))) (fun _ _ _ _ _ => pts_nil) (fun _ _ _ _ _ => (pe_tup (pa_cons (pe_callB (cr_minU rfl) (by rfl) T.m_min (by decide +kernel) (pa_cons (pe_ix (ix_U hu) (pv 4) (pv 5) (fun _ _ => rfl)) (pa_cons (pv 7) pa_nil))) (pa_cons (pe_callB (cr_maxU rfl) (by rfl) T.m_max (by decide +kernel) (pa_cons (pe_ix (ix_U hu) (pv 4) (pv 5) (fun _ _ => rfl)) (pa_cons (pv 7) pa_nil))) pa_nil))))))))))))
      (pss_cons (ps_if (PW.pt (pw_and (pt_cmpR (op_eqP hu) (pv 2) pe_int (nomark _)) (pw_and1 (pt_cmpR (op_gtU hu) (pe_callB call_lenU (by rfl) T.m_len (by decide +kernel) (pa_cons (pv 4) pa_nil)) pe_int (nomark _))))) (pss_one (ps_expr (pe_bm PySem.F.plainAttrs_list PySem.F.slot_list_append PySem.F.type_list_append mt_append (pv 3) (pa_cons (pe_tup (pa_cons (pe_callB (cr_minU rfl) (by rfl) T.m_min (by decide +kernel) (pa_cons (pe_ix (ix_U hu) (pv 4) pe_int (fun _ _ => rfl)) (pa_cons (pe_ix (ix_U hu) (pv 4) (pe_un un_neg pe_int) (fun _ _ => rfl)) pa_nil))) (pa_cons (pe_callB (cr_maxU rfl) (by rfl) T.m_max (by decide +kernel) (pa_cons (pe_ix (ix_U hu) (pv 4) pe_int (fun _ _ => rfl)) (pa_cons (pe_ix (ix_U hu) (pv 4) (pe_un un_neg pe_int) (fun _ _ => rfl)) pa_nil))) pa_nil))) pa_nil)))) pss_nil)
      (pss_one (ps_ret (pe_tup (pa_cons (pe_callTy call_tupleU (by rfl) T.m_tuple (by decide +kernel) (pa_cons (pv 1) pa_nil)) (pa_cons (pe_callTy call_tupleU (by rfl) T.m_tuple (by decide +kernel) (pa_cons (pe_callB (cr_sortU rfl hu) (by rfl) T.m_sorted (by decide +kernel) (pa_cons (pv 3) pa_nil)) pa_nil)) pa_nil)))))))))
theorem d_Lwired (T : Tx K mg) : FnOk P w K mg base CX0 4 T.a_Lwired T.fd_Lwired ["_law_box_here", "_law_least", "_law_most"] (sp_Lwired K) := by
  refine T.F_Lwired.ok sc_Lwired l_Lwired (fun cdv A outer s H vs Q E hr h => ⟨t_Lwired K, PSs.nox ?_, r_Lwired vs H Q E h⟩)
  have hu := hu_room hr
  exact (pss_one (ps_ret (pe_call (d_Ltied T) (hr.mono (by decide)) (by rfl) T.g_Ltied T.F_Ltied.kp T.b_Ltied .nil pass0 (pa_cons (pv 0) (pa_cons (pe_call (d_Lnames T) (hr.mono (by decide)) (by rfl) T.g_Lnames T.F_Lnames.kp T.b_Lnames .nil pass0 (pa_cons (pv 0) (pa_cons (pe_op op_addU (pv 1) (pe_call (d_Ltake T) (hr.mono (by decide)) (by rfl) T.g_Ltake T.F_Ltake.kp T.b_Ltake .nil pass0 (pa_cons (pv 0) (pa_cons (pe_op op_addU (pe_op op_sub (pv 2) (pv 1)) pe_int) pa_nil)))) pa_nil))) pa_nil)))))
theorem d_Ltable (T : Tx K mg) : FnOk P w K mg base CX0 1 T.a_Ltable T.fd_Ltable ["_law_wired_here"] (sp_Ltable K) := by
  refine T.F_Ltable.ok sc_Ltable l_Ltable (fun cdv A outer s H vs Q E hr h => ⟨t_Ltable K, PSs.nox ?_, r_Ltable vs H Q E h⟩)
  have hu := hu_room hr
  exact (pss_cons (ps_set (i := 1) sc_Ltable.nd rfl (Or.inl rfl) (pe_callTy (call_dictPr rfl) (by rfl) T.m_dict (by decide +kernel) (pa_cons (pe_lc (own := [("_law_name", 2)]) rfl sc_Ltable.nd (pi_seq (pe_ix (ix_U hu) (pv 0) pe_int (fun _ _ => rfl))) (blkOk_by (own := [("_law_name", 2)]) (N := N_Ltable) (sc := defScope s_Ltable) (by decide +kernel)) (fun _ _ _ _ _ => (pg_name (i := 2) sc_Ltable.nd rfl (by first | exact Or.inl rfl | exact Or.inr rfl))) (fun _ _ _ _ _ => pts_nil) (fun _ _ _ _ _ => (pe_tup (pa_cons (pv 2) (pa_cons (pe_lst pa_nil) pa_nil))))) pa_nil)))
      (pss_cons (ps_for PassesOwn.never rfl (pi_seq (pe_ix (ix_U hu) (pv 0) pe_int (fun _ _ => rfl))) (pg_unp rfl (pgs_cons (pg_name (i := 2) sc_Ltable.nd rfl (Or.inl rfl)) (pgs_cons (pg_name (i := 3) sc_Ltable.nd rfl (Or.inl rfl)) pgs_nil))) (pss_cons (ps_expr (pe_bm PySem.F.plainAttrs_list PySem.F.slot_list_append PySem.F.type_list_append mt_append (pe_ix (ix_U hu) (pv 1) (pv 2) (fun _ _ => rfl)) (pa_cons (pv 3) pa_nil)))
      (pss_one (ps_expr (pe_bm PySem.F.plainAttrs_list PySem.F.slot_list_append PySem.F.type_list_append mt_append (pe_ix (ix_U hu) (pv 1) (pv 3) (fun _ _ => rfl)) (pa_cons (pv 2) pa_nil))))))
      (pss_one (ps_ret (pv 1)))))
theorem d_Lhits (T : Tx K mg) : FnOk P w K mg base CX0 3 T.a_Lhits T.fd_Lhits ["_law_box_here", "_law_wired_here", "_law_most"] (sp_Lhits K) := by
  refine T.F_Lhits.ok sc_Lhits l_Lhits (fun cdv A outer s H vs Q E hr h => ⟨t_Lhits K, PSs.nox ?_, r_Lhits vs H Q E h⟩)
  have hu := hu_room hr
  exact (pss_cons (ps_set (i := 3) sc_Lhits.nd rfl (Or.inl rfl) (pe_callB (cr_minU rfl) (by rfl) T.m_min (by decide +kernel) (pa_cons (pv 2) (pa_cons (pe_callB call_lenU (by rfl) T.m_len (by decide +kernel) (pa_cons (pe_ix (ix_U hu) (pv 1) pe_int (fun _ _ => rfl)) pa_nil)) pa_nil))))
      (pss_cons (ps_set (i := 3) sc_Lhits.nd rfl (Or.inl rfl) (pe_ifExp (pt_cmpR (op_gtU hu) (pe_call (d_Ltake T) (hr.mono (by decide)) (by rfl) T.g_Ltake T.F_Ltake.kp T.b_Ltake .nil pass0 (pa_cons (pv 0) (pa_cons pe_int pa_nil))) pe_int (nomark _)) (pv 3) (pe_call (d_Ltake T) (hr.mono (by decide)) (by rfl) T.g_Ltake T.F_Ltake.kp T.b_Ltake .nil pass0 (pa_cons (pv 0) (pa_cons (pe_op op_addU (pv 3) pe_int) pa_nil)))))
      (pss_one (ps_ret (pe_slice sl_U (pe_call (d_Lstrewn T) (hr.mono (by decide)) (by rfl) T.g_Lstrewn T.F_Lstrewn.kp T.b_Lstrewn .nil pass0 (pa_cons (pv 0) (pa_cons (pe_ix (ix_U hu) (pv 1) pe_int (fun _ _ => rfl)) pa_nil))) po_none (po_some (pv 3)))))))
theorem d_Lleft (T : Tx K mg) : FnOk P w K mg base CX0 1 T.a_Lleft T.fd_Lleft ["_law_table_here", "_law_trail"] (sp_Lleft K) := by
  refine T.F_Lleft.ok sc_Lleft l_Lleft (fun cdv A outer s H vs Q E hr h => ⟨t_Lleft K, PSs.nox ?_, r_Lleft vs H Q E h⟩)
  have hu := hu_room hr
  exact (pss_cons (ps_set (i := 2) sc_Lleft.nd rfl (Or.inl rfl) (pe_lst pa_nil))
      (pss_cons (ps_for PassesOwn.never rfl (pi_enum (by rfl) T.m_enumerate (pa_cons (pv 1) pa_nil)) (pg_unp rfl (pgs_cons (pg_name (i := 3) sc_Lleft.nd rfl (Or.inl rfl)) (pgs_cons (pg_name (i := 4) sc_Lleft.nd rfl (Or.inr rfl)) pgs_nil))) (pss_one (ps_if (pt_cmpR (op_eqP hu) (pe_lc (own := [("_law_mate", 5)]) rfl sc_Lleft.nd (pi_seq (pe_slice sl_U (pv 1) (po_some (pe_op op_addU (pv 3) pe_int)) po_none)) (blkOk_by (own := [("_law_mate", 5)]) (N := N_Lleft) (sc := defScope s_Lleft) (by decide +kernel)) (fun _ _ _ _ _ => (pg_name (i := 5) sc_Lleft.nd rfl (by first | exact Or.inl rfl | exact Or.inr rfl))) (fun _ _ _ _ _ => (pts_one (pt_cmpR (op_inU hu) (pv 5) (pe_ix (ix_U hu) (pv 0) (pv 4) (fun _ _ => rfl)) (by rfl)))) (fun _ _ _ _ _ => (pv 5))) (pe_lst pa_nil) (nomark _)) (pss_one (ps_expr (pe_bm PySem.F.plainAttrs_list PySem.F.slot_list_append PySem.F.type_list_append mt_append (pv 2) (pa_cons (pv 4) pa_nil)))) pss_nil)))
      (pss_one (ps_ret (pe_callTy call_tupleU (by rfl) T.m_tuple (by decide +kernel) (pa_cons (pe_callB (cr_sortU rfl hu) (by rfl) T.m_sorted (by decide +kernel) (pa_cons (pv 2) pa_nil)) pa_nil))))))
theorem d_Lparts (T : Tx K mg) : FnOk P w K mg base CX0 1 T.a_Lparts T.fd_Lparts ["_law_some"] (sp_Lparts K) := by
  refine T.F_Lparts.ok sc_Lparts l_Lparts (fun cdv A outer s H vs Q E hr h => ⟨t_Lparts K, PSs.nox ?_, r_Lparts vs H Q E h⟩)
  have hu := hu_room hr
  exact (pss_cons (ps_set (i := 1) sc_Lparts.nd rfl (Or.inl rfl) (pe_lst (pa_cons (pe_tup pa_nil) pa_nil)))
      (pss_cons (ps_for PassesOwn.never rfl (pi_seq (pe_callB (cr_sortU rfl hu) (by rfl) T.m_sorted (by decide +kernel) (pa_cons (pv 0) pa_nil))) (pg_name (i := 2) sc_Lparts.nd rfl (Or.inr rfl)) (pss_one (ps_set (i := 1) sc_Lparts.nd rfl (Or.inl rfl) (pe_op op_addU (pv 1) (pe_lc (own := [("_law_part", 3)]) rfl sc_Lparts.nd (pi_seq (pv 1)) (blkOk_by (own := [("_law_part", 3)]) (N := N_Lparts) (sc := defScope s_Lparts) (by decide +kernel)) (fun _ _ _ _ _ => (pg_name (i := 3) sc_Lparts.nd rfl (by first | exact Or.inl rfl | exact Or.inr rfl))) (fun _ _ _ _ _ => pts_nil) (fun _ _ _ _ _ => (pe_op op_addU (pv 3) (pe_tup (pa_cons (pv 2) pa_nil)))))))))
      (pss_one (ps_ret (pv 1)))))
theorem d_Lfree (T : Tx K mg) : FnOk P w K mg base CX0 1 T.a_Lfree T.fd_Lfree ["_law_table_here", "_law_part"] (sp_Lfree K) := by
  refine T.F_Lfree.ok sc_Lfree l_Lfree (fun cdv A outer s H vs Q E hr h => ⟨t_Lfree K, PSs.nox ?_, r_Lfree vs H Q E h⟩)
  have hu := hu_room hr
  exact (pss_one (ps_ret (pe_cmpR (op_eqP hu) (pe_lc (own := [("_law_name", 2)]) rfl sc_Lfree.nd (pi_seq (pv 1)) (blkOk_by (own := [("_law_name", 2)]) (N := N_Lfree) (sc := defScope s_Lfree) (by decide +kernel)) (fun _ _ _ _ _ => (pg_name (i := 2) sc_Lfree.nd rfl (by first | exact Or.inl rfl | exact Or.inr rfl))) (fun _ _ _ _ _ => (pts_one (pt_cmpR (op_neP hu) (pe_lc (own := [("_law_mate", 3)]) rfl sc_Lfree.nd (pi_seq (pv 1)) (blkOk_by (own := [("_law_mate", 3)]) (N := N_Lfree) (sc := { kind := .function, names := [(".0", .local), ("_law_name", .cell), ("_law_part", .cell), ("_law_table_here", .cell)], isGenerator := false, isCoroutine := false, more := [] }) (by decide +kernel)) (fun _ _ _ _ _ => (pg_name (i := 3) sc_Lfree.nd rfl (by first | exact Or.inl rfl | exact Or.inr rfl))) (fun _ _ _ _ _ => (pts_one (pt_cmpR (op_inU hu) (pv 3) (pe_ix (ix_U hu) (pv 0) (pv 2) (fun _ _ => rfl)) (by rfl)))) (fun _ _ _ _ _ => (pv 3))) (pe_lst pa_nil) (nomark _)))) (fun _ _ _ _ _ => (pv 2))) (pe_lst pa_nil) (nomark _))))
theorem d_Lweb (T : Tx K mg) : FnOk P w K mg base CX0 1 T.a_Lweb T.fd_Lweb ["_law_table_here", "_law_some", "_law_name"] (sp_Lweb K) := by
  refine T.F_Lweb.ok sc_Lweb l_Lweb (fun cdv A outer s H vs Q E hr h => ⟨t_Lweb K, PSs.nox ?_, r_Lweb vs H Q E h⟩)
  have hu := hu_room hr
  exact (pss_cons (ps_set (i := 3) sc_Lweb.nd rfl (Or.inr rfl) (pe_lst (pa_cons (pv 2) pa_nil)))
      (pss_cons (ps_for PassesOwn.never rfl (pi_range1 (by rfl) T.m_range (pa_cons (pe_callB call_lenU (by rfl) T.m_len (by decide +kernel) (pa_cons (pv 1) pa_nil)) pa_nil)) (pg_name (i := 4) sc_Lweb.nd rfl (Or.inl rfl)) (pss_one (ps_set (i := 3) sc_Lweb.nd rfl (Or.inr rfl) (pe_op op_addU (pv 3) (pe_lc (own := [("_law_mate", 5)]) rfl sc_Lweb.nd (pi_seq (pv 1)) (blkOk_by (own := [("_law_mate", 5)]) (N := N_Lweb) (sc := defScope s_Lweb) (by decide +kernel)) (fun _ _ _ _ _ => (pg_name (i := 5) sc_Lweb.nd rfl (by first | exact Or.inl rfl | exact Or.inr rfl))) (fun _ _ _ _ _ => (pts_one (PW.pt (pw_and (pt_cmpR (op_notInU hu) (pv 5) (pv 3) (by rfl)) (pw_and1 (pt_cmpR (op_neP hu) (pe_lc (own := [("_law_near", 6)]) rfl sc_Lweb.nd (pi_seq (pe_ix (ix_U hu) (pv 0) (pv 5) (fun _ _ => rfl))) (blkOk_by (own := [("_law_near", 6)]) (N := N_Lweb) (sc := { kind := .function, names := [(".0", .local), ("_law_mate", .local), ("_law_table_here", .cell), ("_law_web_here", .cell)], isGenerator := false, isCoroutine := false, more := [] }) (by decide +kernel)) (fun _ _ _ _ _ => (pg_name (i := 6) sc_Lweb.nd rfl (by first | exact Or.inl rfl | exact Or.inr rfl))) (fun _ _ _ _ _ => (pts_one (pt_cmpR (op_inU hu) (pv 6) (pv 3) (by rfl)))) (fun _ _ _ _ _ => (pv 6))) (pe_lst pa_nil) (nomark _))))))) (fun _ _ _ _ _ => (pv 5)))))))
      (pss_one (ps_ret (pe_callB (cr_sortU rfl hu) (by rfl) T.m_sorted (by decide +kernel) (pa_cons (pv 3) pa_nil))))))
theorem d_Lwebs (T : Tx K mg) : FnOk P w K mg base CX0 2 T.a_Lwebs T.fd_Lwebs ["_law_table_here", "_law_some"] (sp_Lwebs K) := by
  refine T.F_Lwebs.ok sc_Lwebs l_Lwebs (fun cdv A outer s H vs Q E hr h => ⟨t_Lwebs K, PSs.nox ?_, r_Lwebs vs H Q E h⟩)
  have hu := hu_room hr
  exact (pss_cons (ps_set (i := 2) sc_Lwebs.nd rfl (Or.inl rfl) (pe_lst pa_nil))
      (pss_cons (ps_for PassesOwn.never rfl (pi_seq (pe_callB (cr_sortU rfl hu) (by rfl) T.m_sorted (by decide +kernel) (pa_cons (pv 1) pa_nil))) (pg_name (i := 3) sc_Lwebs.nd rfl (Or.inr rfl)) (pss_one (ps_if (pt_cmpR (op_eqP hu) (pe_lc (own := [("_law_web_here", 4)]) rfl sc_Lwebs.nd (pi_seq (pv 2)) (blkOk_by (own := [("_law_web_here", 4)]) (N := N_Lwebs) (sc := defScope s_Lwebs) (by decide +kernel)) (fun _ _ _ _ _ => (pg_name (i := 4) sc_Lwebs.nd rfl (by first | exact Or.inl rfl | exact Or.inr rfl))) (fun _ _ _ _ _ => (pts_one (pt_cmpR (op_inU hu) (pv 3) (pv 4) (by rfl)))) (fun _ _ _ _ _ => (pv 4))) (pe_lst pa_nil) (nomark _)) (pss_one (ps_expr (pe_bm PySem.F.plainAttrs_list PySem.F.slot_list_append PySem.F.type_list_append mt_append (pv 2) (pa_cons (pe_call (d_Lweb T) (hr.mono (by decide)) (by rfl) T.g_Lweb T.F_Lweb.kp T.b_Lweb .nil pass0 (pa_cons (pv 0) (pa_cons (pv 1) (pa_cons (pv 3) pa_nil)))) pa_nil)))) pss_nil)))
      (pss_one (ps_ret (pv 2)))))
theorem d_Lfits (T : Tx K mg) : FnOk P w K mg base CX0 2 T.a_Lfits T.fd_Lfits ["_law_table_here", "_law_hits_here", "_law_webs_here", "_law_part"] (sp_Lfits K) := by
  refine T.F_Lfits.ok sc_Lfits l_Lfits (fun cdv A outer s H vs Q E hr h => ⟨t_Lfits K, PSs.nox ?_, r_Lfits vs H Q E h⟩)
  have hu := hu_room hr
  exact (pss_cons (ps_if (PW.pt (pw_or (pt_cmpR (op_neP hu) (pe_lc (own := [("_law_name", 4)]) rfl sc_Lfits.nd (pi_seq (pv 3)) (blkOk_by (own := [("_law_name", 4)]) (N := N_Lfits) (sc := defScope s_Lfits) (by decide +kernel)) (fun _ _ _ _ _ => (pg_name (i := 4) sc_Lfits.nd rfl (by first | exact Or.inl rfl | exact Or.inr rfl))) (fun _ _ _ _ _ => (pts_one (pt_cmpR (op_notInU hu) (pv 4) (pv 1) (by rfl)))) (fun _ _ _ _ _ => (pv 4))) (pe_lst pa_nil) (nomark _)) (pw_or1 (pt_not (pt_val (pe_call (d_Lfree T) (hr.mono (by decide)) (by rfl) T.g_Lfree T.F_Lfree.kp T.b_Lfree .nil pass0 (pa_cons (pv 0) (pa_cons (pv 3) pa_nil)))))))) (pss_one (ps_ret pe_bl)) pss_nil)
      (pss_one (ps_ret (pe_cmpR (op_eqP hu) (pe_lc (own := [("_law_web_here", 5)]) rfl sc_Lfits.nd (pi_seq (pv 2)) (blkOk_by (own := [("_law_web_here", 5)]) (N := N_Lfits) (sc := defScope s_Lfits) (by decide +kernel)) (fun _ _ _ _ _ => (pg_name (i := 5) sc_Lfits.nd rfl (by first | exact Or.inl rfl | exact Or.inr rfl))) (fun _ _ _ _ _ => (pts_one (pt_cmpR (op_eqP hu) (pe_lc (own := [("_law_name", 4)]) rfl sc_Lfits.nd (pi_seq (pv 5)) (blkOk_by (own := [("_law_name", 4)]) (N := N_Lfits) (sc := { kind := .function, names := [(".0", .local), ("_law_web_here", .local), ("_law_part", .cell)], isGenerator := false, isCoroutine := false, more := [] }) (by decide +kernel)) (fun _ _ _ _ _ => (pg_name (i := 4) sc_Lfits.nd rfl (by first | exact Or.inl rfl | exact Or.inr rfl))) (fun _ _ _ _ _ => (pts_one (pt_cmpR (op_inU hu) (pv 4) (pv 3) (by rfl)))) (fun _ _ _ _ _ => (pv 4))) (pe_lst pa_nil) (nomark _)))) (fun _ _ _ _ _ => (pv 5))) (pe_lst pa_nil) (nomark _)))))
theorem d_Lall_stay (T : Tx K mg) : FnOk P w K mg base CX0 3 T.a_Lall_stay T.fd_Lall_stay ["_law_table_here", "_law_hits_here"] (sp_Lall_stay K) := by
  refine T.F_Lall_stay.ok sc_Lall_stay l_Lall_stay (fun cdv A outer s H vs Q E hr h => ⟨t_Lall_stay K, PSs.nox ?_, r_Lall_stay vs H Q E h⟩)
  have hu := hu_room hr
  exact (pss_cons (ps_set (i := 2) sc_Lall_stay.nd rfl (Or.inr rfl) (pe_call (d_Lwebs T) (hr.mono (by decide)) (by rfl) T.g_Lwebs T.F_Lwebs.kp T.b_Lwebs .nil pass0 (pa_cons (pv 0) (pa_cons (pv 1) pa_nil))))
      (pss_one (ps_ret (pe_callB (cr_sortU rfl hu) (by rfl) T.m_sorted (by decide +kernel) (pa_cons (pe_lc (own := [("_law_part", 3)]) rfl sc_Lall_stay.nd (pi_seq (pe_call (d_Lparts T) (hr.mono (by decide)) (by rfl) T.g_Lparts T.F_Lparts.kp T.b_Lparts .nil pass0 (pa_cons (pv 1) pa_nil))) (blkOk_by (own := [("_law_part", 3)]) (N := N_Lall_stay) (sc := defScope s_Lall_stay) (by decide +kernel)) (fun _ _ _ _ _ => (pg_name (i := 3) sc_Lall_stay.nd rfl (by first | exact Or.inl rfl | exact Or.inr rfl))) (fun _ _ _ _ _ => (pts_one (pt_val (pe_call (d_Lfits T) (hr.mono (by decide)) (by rfl) T.g_Lfits T.F_Lfits.kp T.b_Lfits .nil pass0 (pa_cons (pv 0) (pa_cons (pv 1) (pa_cons (pv 2) (pa_cons (pv 3) pa_nil)))))))) (fun _ _ _ _ _ => (pv 3))) pa_nil)))))
theorem d_Lis_sure (T : Tx K mg) : FnOk P w K mg base CX0 2 T.a_Lis_sure T.fd_Lis_sure ["_law_table_here", "_law_hits_here", "_law_lit", "_law_mine", "_law_its"] (sp_Lis_sure K) := by
  refine T.F_Lis_sure.ok sc_Lis_sure l_Lis_sure (fun cdv A outer s H vs Q E hr h => ⟨t_Lis_sure K, PSs.nox ?_, r_Lis_sure vs H Q E h⟩)
  have hu := hu_room hr
  exact (pss_cons (ps_set (i := 5) sc_Lis_sure.nd rfl (Or.inr rfl) (pe_op op_addU (pe_lst (pa_cons (pv 4) pa_nil)) (pe_op op_repR (pe_ix (ix_U hu) (pv 0) (pv 4) (fun _ _ => rfl)) (pe_callTy call_int1r (by rfl) T.m_int (by decide +kernel) (pa_cons (pe_cmpR (op_inU hu) (pv 4) (pv 2) (by rfl)) pa_nil)))))
      (pss_cons (ps_setLc (i := 6) (own := [("_law_name", 7)]) rfl sc_Lis_sure.nd rfl rfl (sw_true rfl rfl rfl (by decide +kernel)) (pi_seq (pv 1)) (blkOk_by (own := [("_law_name", 7)]) (N := N_Lis_sure) (sc := defScope s_Lis_sure) (by decide +kernel)) (fun _ _ _ _ _ => (pg_name (i := 7) sc_Lis_sure.nd rfl (by first | exact Or.inl rfl | exact Or.inr rfl))) (fun _ _ _ _ _ => (pts_one (pt_cmpR (op_notInU hu) (pv 7) (pv 5) (by rfl)))) (fun _ _ _ _ _ => (pv 7)))
      (pss_cons (ps_if (pt_cmpR (op_inU hu) (pv 3) (pv 5) (by rfl)) (pss_one (ps_ret pe_bl)) pss_nil)
      (pss_one (ps_ret (pe_cmpR (op_eqP hu) (pe_lc (own := [("_law_name", 7)]) rfl sc_Lis_sure.nd (pi_seq (pe_call (d_Lweb T) (hr.mono (by decide)) (by rfl) T.g_Lweb T.F_Lweb.kp T.b_Lweb .nil pass0 (pa_cons (pv 0) (pa_cons (pv 6) (pa_cons (pv 3) pa_nil))))) (blkOk_by (own := [("_law_name", 7)]) (N := N_Lis_sure) (sc := defScope s_Lis_sure) (by decide +kernel)) (fun _ _ _ _ _ => (pg_name (i := 7) sc_Lis_sure.nd rfl (by first | exact Or.inl rfl | exact Or.inr rfl))) (fun _ _ _ _ _ => (pts_one (pt_cmpR (op_inU hu) (pv 7) (pv 2) (by rfl)))) (fun _ _ _ _ _ => (pv 7))) (pe_lst pa_nil) (nomark _)))))))
theorem d_LrightT (T : Tx K mg) (TB : LamX.TabB base mg T.c_tab T.P_tab) : FnOk P w K mg base CX0 6 T.a_LrightT T.fd_LrightT ["_law_box_here"] (sp_LrightT K T.P_tab) := by
  refine T.F_LrightT.ok sc_LrightT l_LrightT (fun cdv A outer s H vs Q E hr h => ⟨t_LrightT K T.P_tab, PSs.nox ?_, r_LrightT vs H Q E h⟩)
  have hu := hu_room hr
  exact (pss_cons (ps_set (i := 1) sc_LrightT.nd rfl (Or.inl rfl) (pe_call (d_Lwired T) (hr.mono (by decide)) (by rfl) T.g_Lwired T.F_Lwired.kp T.b_Lwired .nil pass0 (pa_cons (pv 0) (pa_cons pe_int (pa_cons pe_int pa_nil)))))
      (pss_cons (ps_par (i := 2) (j := 3) (by rfl) sc_LrightT.nd rfl rfl (by decide) rfl rfl (pa_cons (pe_call (d_Ltable T) (hr.mono (by decide)) (by rfl) T.g_Ltable T.F_Ltable.kp T.b_Ltable .nil pass0 (pa_cons (pv 1) pa_nil)) (pa_cons (pe_call (d_Lhits T) (hr.mono (by decide)) (by rfl) T.g_Lhits T.F_Lhits.kp T.b_Lhits .nil pass0 (pa_cons (pv 0) (pa_cons (pv 1) (pa_cons pe_int pa_nil)))) pa_nil)) (by rfl))
      (pss_cons (ps_set (i := 4) sc_LrightT.nd rfl (Or.inl rfl) (pe_call (d_Lof T) (hr.mono (by decide)) (by rfl) T.g_Lof T.F_Lof.kp T.b_Lof .nil pass0 (pa_cons (pv 0) (pa_cons (pe_call (d_Lall_stay T) (hr.mono (by decide)) (by rfl) T.g_Lall_stay T.F_Lall_stay.kp T.b_Lall_stay .nil pass0 (pa_cons (pv 2) (pa_cons (pv 3) pa_nil))) pa_nil))))
      (pss_cons (ps_set (i := 5) sc_LrightT.nd rfl (Or.inr rfl) (pe_call (d_surely_before T) (hr.mono (by decide)) (by rfl) T.g_surely_before T.F_surely_before.kp T.b_surely_before .nil pass0 (pa_cons (pv 1) (pa_cons (pv 3) (pa_cons (pv 4) pa_nil)))))
      (pss_cons (ps_for PassesOwn.never rfl (pi_seq (pv 3)) (pg_name (i := 6) sc_LrightT.nd rfl (Or.inr rfl)) (pss_one (ps_for PassesOwn.never rfl (pi_seq (pe_lc (own := [("_law_its", 7)]) rfl sc_LrightT.nd (pi_seq (pv 3)) (blkOk_by (own := [("_law_its", 7)]) (N := N_LrightT) (sc := defScope s_LrightT) (by decide +kernel)) (fun _ _ _ _ _ => (pg_name (i := 7) sc_LrightT.nd rfl (by first | exact Or.inl rfl | exact Or.inr rfl))) (fun _ _ _ _ _ => (pts_one (pt_cmpR (op_neP hu) (pv 7) (pv 6) (nomark _)))) (fun _ _ _ _ _ => (pv 7)))) (pg_name (i := 7) sc_LrightT.nd rfl (Or.inr rfl)) (pss_cons (ps_set (i := 8) sc_LrightT.nd rfl (Or.inl rfl) (pe_call (d_Lis_sure T) (hr.mono (by decide)) (by rfl) T.g_Lis_sure T.F_Lis_sure.kp T.b_Lis_sure .nil pass0 (pa_cons (pv 2) (pa_cons (pv 3) (pa_cons (pv 4) (pa_cons (pv 6) (pa_cons (pv 7) pa_nil)))))))
      (pss_cons (ps_if (PW.pt (pw_or (pt_cmpR (op_neP hu) (pv 8) (pe_cmpR (op_inU hu) (pe_tup (pa_cons (pv 6) (pa_cons (pv 7) pa_nil))) (pv 5) (by rfl)) (nomark _)) (pw_or1 (PW.pt (pw_and (pt_val (pv 8)) (pw_and1 (PW.pt (pw_or (pt_cmpR (op_inU hu) (pe_tup (pa_cons (pv 7) (pa_cons (pv 6) pa_nil))) (pv 5) (by rfl)) (pw_or1 (pt_cmpR (op_inU hu) (pv 6) (pv 4) (by rfl))))))))))) (pss_one (ps_ret pe_bl)) pss_nil)
      (pss_cons (ps_set (i := 9) sc_LrightT.nd rfl (Or.inl rfl) (pe_call (d_counter_order T TB) (hr.mono (by decide)) (by rfl) T.g_counter_order T.F_counter_order.kp T.b_counter_order .nil pass0 (pa_cons (pv 1) (pa_cons (pv 3) (pa_cons (pv 4) (pa_cons (pv 6) (pa_cons (pv 7) pa_nil)))))))
      (pss_cons (ps_if (pt_cmpR (op_neP hu) (pv 8) (pe_cmpR op_isNr (pv 9) pe_non (nomark _)) (nomark _)) (pss_one (ps_ret pe_bl)) pss_nil)
      (pss_one (ps_if (pt_cmpR op_notNr (pv 9) pe_non (nomark _)) (pss_cons (ps_if (PW.pt (pw_or (pt_cmpR (op_neP hu) (pe_callB (cr_sortU rfl hu) (by rfl) T.m_sorted (by decide +kernel) (pa_cons (pv 9) pa_nil)) (pe_callB (cr_sortU rfl hu) (by rfl) T.m_sorted (by decide +kernel) (pa_cons (pv 3) pa_nil)) (nomark _)) (pw_or1 (pt_cmpR (op_neP hu) (pe_call (d_Lleft T) (hr.mono (by decide)) (by rfl) T.g_Lleft T.F_Lleft.kp T.b_Lleft .nil pass0 (pa_cons (pv 2) (pa_cons (pv 9) pa_nil))) (pv 4) (nomark _))))) (pss_one (ps_ret pe_bl)) pss_nil)
      (pss_cons (ps_if (pt_cmpR (op_gtU hu) (pe_bm PySem.F.plainAttrs_list PySem.F.slot_list_index PySem.F.type_list_index mt_index (pv 9) (pa_cons (pv 7) pa_nil)) (pe_bm PySem.F.plainAttrs_list PySem.F.slot_list_index PySem.F.type_list_index mt_index (pv 9) (pa_cons (pv 6) pa_nil)) (nomark _)) (pss_one (ps_ret pe_bl)) pss_nil)
      (pss_one (ps_if (pt_cmpR op_notB (pe_call (d_shows_counter T) (hr.mono (by decide)) (by rfl) T.g_shows_counter T.F_shows_counter.kp T.b_shows_counter .nil pass0 (pa_cons (pv 1) (pa_cons (pv 3) (pa_cons (pv 4) (pa_cons (pv 6) (pa_cons (pv 7) (pa_cons (pv 9) pa_nil))))))) pe_bl (nomark _)) (pss_one (ps_ret pe_bl)) pss_nil)))) pss_nil)))))))))
      (pss_cons (ps_for PassesOwn.never rfl (pi_seq (pv 5)) (pg_unp rfl (pgs_cons (pg_name (i := 6) sc_LrightT.nd rfl (Or.inr rfl)) (pgs_cons (pg_name (i := 7) sc_LrightT.nd rfl (Or.inr rfl)) pgs_nil))) (pss_one (ps_if (pt_not (pt_val (pe_callB (cr_all rfl) (by rfl) T.m_all (by decide +kernel) (pa_cons (pe_lc (own := [("_law_pair", 10)]) rfl sc_LrightT.nd (pi_seq (pv 5)) (blkOk_by (own := [("_law_pair", 10)]) (N := N_LrightT) (sc := defScope s_LrightT) (by decide +kernel)) (fun _ _ _ _ _ => (pg_name (i := 10) sc_LrightT.nd rfl (by first | exact Or.inl rfl | exact Or.inr rfl))) (fun _ _ _ _ _ => (pts_one (pt_cmpR (op_eqP hu) (pe_ix (ix_U hu) (pv 10) pe_int (fun _ _ => rfl)) (pv 7) (nomark _)))) (fun _ _ _ _ _ => (pe_cmpR (op_inU hu) (pe_tup (pa_cons (pv 6) (pa_cons (pe_ix (ix_U hu) (pv 10) pe_int (fun _ _ => rfl)) pa_nil))) (pv 5) (by rfl)))) pa_nil)))) (pss_one (ps_ret pe_bl)) pss_nil)))
      (pss_one (ps_ret pe_bl))))))))
theorem d_lawT (T : Tx K mg) (TB : LamX.TabB base mg T.c_tab T.P_tab) : FnOk P w K mg base CX0 7 T.a_lawT T.fd_lawT ["_law_script"] (sp_lawT K T.P_tab) := by
  refine T.F_lawT.ok sc_lawT l_lawT (fun cdv A outer s H vs Q E hr h => ⟨t_lawT K T.P_tab, PSs.nox ?_, r_lawT vs H Q E h⟩)
  have hu := hu_room hr
  exact (pss_one (ps_ret (pe_callB (cr_all rfl) (by rfl) T.m_all (by decide +kernel) (pa_cons (pe_lc (own := [("_law_k", 1)]) rfl sc_lawT.nd (pi_range1 (by rfl) T.m_range (pa_cons (pe_op op_addU pe_int (pe_callB (cr_minU rfl) (by rfl) T.m_min (by decide +kernel) (pa_cons pe_int (pa_cons (pe_callB call_lenU (by rfl) T.m_len (by decide +kernel) (pa_cons (pv 0) pa_nil)) pa_nil)))) pa_nil)) (blkOk_by (own := [("_law_k", 1)]) (N := N_lawT) (sc := defScope s_lawT) (by decide +kernel)) (fun _ _ _ _ _ => (pg_name (i := 1) sc_lawT.nd rfl (by first | exact Or.inl rfl | exact Or.inr rfl))) (fun _ _ _ _ _ => pts_nil) (fun _ _ _ _ _ => (pe_call (d_LrightT T TB) (hr.mono (by decide)) (by rfl) T.g_LrightT T.F_LrightT.kp T.b_LrightT .nil pass0 (pa_cons (pe_call (d_Lbox T) (hr.mono (by decide)) (by rfl) T.g_Lbox T.F_Lbox.kp T.b_Lbox .nil pass0 (pa_cons (pv 0) (pa_cons (pv 1) pa_nil))) pa_nil)))) pa_nil))))
end
def D_look_switches : He.DefD := ⟨("look_switches", none), "look_switches", "look_switches", defArgs s_look_switches, defBody s_look_switches, defScope s_look_switches, [], []⟩
def D_rival_table : He.DefD := ⟨("rival_table", none), "rival_table", "rival_table", defArgs s_rival_table, defBody s_rival_table, defScope s_rival_table, [], []⟩
def D_component_of : He.DefD := ⟨("component_of", none), "component_of", "component_of", defArgs s_component_of, defBody s_component_of, defScope s_component_of, [], []⟩
def D_components : He.DefD := ⟨("components", none), "components", "components", defArgs s_components, defBody s_components, defScope s_components, [], []⟩
def D_left_on : He.DefD := ⟨("left_on", none), "left_on", "left_on", defArgs s_left_on, defBody s_left_on, defScope s_left_on, [], []⟩
def D_distances : He.DefD := ⟨("distances", none), "distances", "distances", defArgs s_distances, defBody s_distances, defScope s_distances, [], []⟩
def D_look_pressed : He.DefD := ⟨("look_pressed", none), "look_pressed", "look_pressed", defArgs s_look_pressed, defBody s_look_pressed, defScope s_look_pressed, [], []⟩
def D_can_leave : He.DefD := ⟨("can_leave", none), "can_leave", "can_leave", defArgs s_can_leave, defBody s_can_leave, defScope s_can_leave, [], []⟩
def D_look_order : He.DefD := ⟨("look_order", none), "look_order", "look_order", defArgs s_look_order, defBody s_look_order, defScope s_look_order, [], []⟩
def D_is_order : He.DefD := ⟨("is_order", none), "is_order", "is_order", defArgs s_is_order, defBody s_is_order, defScope s_is_order, [], []⟩
def D_path_to : He.DefD := ⟨("path_to", none), "path_to", "path_to", defArgs s_path_to, defBody s_path_to, defScope s_path_to, [], []⟩
def D_way_round : He.DefD := ⟨("way_round", none), "way_round", "way_round", defArgs s_way_round, defBody s_way_round, defScope s_way_round, [], []⟩
def D_surely_before : He.DefD := ⟨("surely_before", none), "surely_before", "surely_before", defArgs s_surely_before, defBody s_surely_before, defScope s_surely_before, [], []⟩
def D_look_both : He.DefD := ⟨("look_both", none), "look_both", "look_both", defArgs s_look_both, defBody s_look_both, defScope s_look_both, [], []⟩
def D_laid_round : He.DefD := ⟨("laid_round", none), "laid_round", "laid_round", defArgs s_laid_round, defBody s_laid_round, defScope s_laid_round, [], []⟩
def D_counter_order : He.DefD := ⟨("counter_order", none), "counter_order", "counter_order", defArgs s_counter_order, defBody s_counter_order, defScope s_counter_order, [], []⟩
def D_shows_counter : He.DefD := ⟨("shows_counter", none), "shows_counter", "shows_counter", defArgs s_shows_counter, defBody s_shows_counter, defScope s_shows_counter, [], []⟩
def D_Lcell_at : He.DefD := ⟨("_law_cell_at", none), "_law_cell_at", "_law_cell_at", defArgs s_Lcell_at, defBody s_Lcell_at, defScope s_Lcell_at, [], []⟩
def D_Lbox : He.DefD := ⟨("_law_box", none), "_law_box", "_law_box", defArgs s_Lbox, defBody s_Lbox, defScope s_Lbox, [], []⟩
def D_Ltake : He.DefD := ⟨("_law_take", none), "_law_take", "_law_take", defArgs s_Ltake, defBody s_Ltake, defScope s_Ltake, [], []⟩
def D_Lof : He.DefD := ⟨("_law_of", none), "_law_of", "_law_of", defArgs s_Lof, defBody s_Lof, defScope s_Lof, [], []⟩
def D_Lstrewn : He.DefD := ⟨("_law_strewn", none), "_law_strewn", "_law_strewn", defArgs s_Lstrewn, defBody s_Lstrewn, defScope s_Lstrewn, [], []⟩
def D_Lnames : He.DefD := ⟨("_law_names", none), "_law_names", "_law_names", defArgs s_Lnames, defBody s_Lnames, defScope s_Lnames, [], []⟩
def D_Ltied : He.DefD := ⟨("_law_tied", none), "_law_tied", "_law_tied", defArgs s_Ltied, defBody s_Ltied, defScope s_Ltied, [], []⟩
def D_Lwired : He.DefD := ⟨("_law_wired", none), "_law_wired", "_law_wired", defArgs s_Lwired, defBody s_Lwired, defScope s_Lwired, [], []⟩
def D_Ltable : He.DefD := ⟨("_law_table", none), "_law_table", "_law_table", defArgs s_Ltable, defBody s_Ltable, defScope s_Ltable, [], []⟩
def D_Lhits : He.DefD := ⟨("_law_hits", none), "_law_hits", "_law_hits", defArgs s_Lhits, defBody s_Lhits, defScope s_Lhits, [], []⟩
def D_Lleft : He.DefD := ⟨("_law_left", none), "_law_left", "_law_left", defArgs s_Lleft, defBody s_Lleft, defScope s_Lleft, [], []⟩
def D_Lparts : He.DefD := ⟨("_law_parts", none), "_law_parts", "_law_parts", defArgs s_Lparts, defBody s_Lparts, defScope s_Lparts, [], []⟩
def D_Lfree : He.DefD := ⟨("_law_free", none), "_law_free", "_law_free", defArgs s_Lfree, defBody s_Lfree, defScope s_Lfree, [], []⟩
def D_Lweb : He.DefD := ⟨("_law_web", none), "_law_web", "_law_web", defArgs s_Lweb, defBody s_Lweb, defScope s_Lweb, [], []⟩
def D_Lwebs : He.DefD := ⟨("_law_webs", none), "_law_webs", "_law_webs", defArgs s_Lwebs, defBody s_Lwebs, defScope s_Lwebs, [], []⟩
def D_Lfits : He.DefD := ⟨("_law_fits", none), "_law_fits", "_law_fits", defArgs s_Lfits, defBody s_Lfits, defScope s_Lfits, [], []⟩
def D_Lall_stay : He.DefD := ⟨("_law_all_stay", none), "_law_all_stay", "_law_all_stay", defArgs s_Lall_stay, defBody s_Lall_stay, defScope s_Lall_stay, [], []⟩
def D_Lis_sure : He.DefD := ⟨("_law_is_sure", none), "_law_is_sure", "_law_is_sure", defArgs s_Lis_sure, defBody s_Lis_sure, defScope s_Lis_sure, [], []⟩
def D_LrightT : He.DefD := ⟨("_law_right", none), "_law_right", "_law_right", defArgs s_LrightT, defBody s_LrightT, defScope s_LrightT, [], []⟩
def D_lawT : He.DefD := ⟨("law", none), "law", "law", defArgs s_lawT, defBody s_lawT, defScope s_lawT, [], []⟩
def fn : List He.DefD := [D_look_switches, D_rival_table, D_component_of, D_components, D_left_on, D_distances, D_look_pressed, D_can_leave, D_look_order, D_is_order, D_path_to, D_way_round, D_surely_before, D_look_both, D_laid_round, D_counter_order, D_shows_counter, D_Lcell_at, D_Lbox, D_Ltake, D_Lof, D_Lstrewn, D_Lnames, D_Ltied, D_Lwired, D_Ltable, D_Lhits, D_Lleft, D_Lparts, D_Lfree, D_Lweb, D_Lwebs, D_Lfits, D_Lall_stay, D_Lis_sure, D_LrightT, D_lawT]
def fa : List He.Fa := [.glo "look_switches", .glo "rival_table", .glo "component_of", .glo "components", .glo "left_on", .glo "distances", .glo "look_pressed", .glo "can_leave", .glo "look_order", .glo "is_order", .glo "path_to", .glo "way_round", .glo "surely_before", .glo "look_both", .glo "laid_round", .glo "counter_order", .glo "shows_counter", .glo "_law_cell_at", .glo "_law_box", .glo "_law_take", .glo "_law_of", .glo "_law_strewn", .glo "_law_names", .glo "_law_tied", .glo "_law_wired", .glo "_law_table", .glo "_law_hits", .glo "_law_left", .glo "_law_parts", .glo "_law_free", .glo "_law_web", .glo "_law_webs", .glo "_law_fits", .glo "_law_all_stay", .glo "_law_is_sure", .glo "_law_right", .glo "law", .free "abs", .free "all", .free "any", .free "dict", .free "enumerate", .free "int", .free "isinstance", .free "len", .free "list", .free "max", .free "min", .free "range", .free "sorted", .free "str", .free "tuple"]
def loose : List Str := (["NoSwitch", "NoOrder", "look_switches", "rival_table", "component_of", "components", "left_on", "distances", "look_pressed", "can_leave", "look_order", "is_order", "path_to", "way_round", "surely_before", "look_both", "laid_round", "counter_order", "shows_counter", "_law_cell_at"] : List Str) ++ (["_law_box", "_law_take", "_law_of", "_law_strewn", "_law_names", "_law_tied", "_law_wired", "_law_table", "_law_hits", "_law_left", "_law_parts", "_law_free", "_law_web", "_law_webs", "_law_fits", "_law_all_stay", "_law_is_sure", "_law_right"] : List Str)
abbrev R : PySem.W.OpenRow := PySem.W.OpenLaw.row PySem.Challenge.rw_offbyon_k76_whole_ways_round
def tf : List He.Defn := [("laid_round", none)]
abbrev hk : PySem.W.Hook := He.hookX 4 fa fn [] tf (fun _ => true)
def ob (s : PySem.W.SharedT) : He.AlX := He.obsX 4 fa fn [] tf (fun _ => true) (HandSHeadRun.getT s)
theorem ob_eq (s : PySem.W.SharedT) : ob s = hk.obs s.abs := He.obsX_eq (HandSHeadRun.getT_eq s)
theorem run (w : World) : HandSHeadRun.RunEq R (PySem.W.view R.prog [45]) hk ob 4000 loose w := by
  intro os
  kernel_rfl
theorem facts {P : Program} {w : World} {K : PySem.W.Frag} {h : Heap} {mg : Str → Option Value} {f : Addr} (X : K.In h) (G : h.Ns mainGlobals mg) (hfa : mg ("law" : Str) = some (.ref f)) (c : He.SaysD fa fn K) :
    ∃ fd : FuncData, (∀ (s : Shared) (v : Value), BindsTo s fd ⟨[v], []⟩ [("_law_script", v)]) ∧ ∀ base : Heap, K.In base → base.Ns mainGlobals mg → LamX.TabB base mg (He.cT K ("laid_round", none)).1 (He.cT K ("laid_round", none)).2 → FnOk P w K mg base CX0 7 f fd ["_law_script"] (sp_lawT K (He.cT K ("laid_round", none)).2) := by
  obtain ⟨fd_look_switches, F_look_switches⟩ := c.def_ 0 (d := D_look_switches) rfl
  obtain ⟨fd_rival_table, F_rival_table⟩ := c.def_ 1 (d := D_rival_table) rfl
  obtain ⟨fd_component_of, F_component_of⟩ := c.def_ 2 (d := D_component_of) rfl
  obtain ⟨fd_components, F_components⟩ := c.def_ 3 (d := D_components) rfl
  obtain ⟨fd_left_on, F_left_on⟩ := c.def_ 4 (d := D_left_on) rfl
  obtain ⟨fd_distances, F_distances⟩ := c.def_ 5 (d := D_distances) rfl
  obtain ⟨fd_look_pressed, F_look_pressed⟩ := c.def_ 6 (d := D_look_pressed) rfl
  obtain ⟨fd_can_leave, F_can_leave⟩ := c.def_ 7 (d := D_can_leave) rfl
  obtain ⟨fd_look_order, F_look_order⟩ := c.def_ 8 (d := D_look_order) rfl
  obtain ⟨fd_is_order, F_is_order⟩ := c.def_ 9 (d := D_is_order) rfl
  obtain ⟨fd_path_to, F_path_to⟩ := c.def_ 10 (d := D_path_to) rfl
  obtain ⟨fd_way_round, F_way_round⟩ := c.def_ 11 (d := D_way_round) rfl
  obtain ⟨fd_surely_before, F_surely_before⟩ := c.def_ 12 (d := D_surely_before) rfl
  obtain ⟨fd_look_both, F_look_both⟩ := c.def_ 13 (d := D_look_both) rfl
  obtain ⟨fd_laid_round, F_laid_round⟩ := c.def_ 14 (d := D_laid_round) rfl
  obtain ⟨fd_counter_order, F_counter_order⟩ := c.def_ 15 (d := D_counter_order) rfl
  obtain ⟨fd_shows_counter, F_shows_counter⟩ := c.def_ 16 (d := D_shows_counter) rfl
  obtain ⟨fd_Lcell_at, F_Lcell_at⟩ := c.def_ 17 (d := D_Lcell_at) rfl
  obtain ⟨fd_Lbox, F_Lbox⟩ := c.def_ 18 (d := D_Lbox) rfl
  obtain ⟨fd_Ltake, F_Ltake⟩ := c.def_ 19 (d := D_Ltake) rfl
  obtain ⟨fd_Lof, F_Lof⟩ := c.def_ 20 (d := D_Lof) rfl
  obtain ⟨fd_Lstrewn, F_Lstrewn⟩ := c.def_ 21 (d := D_Lstrewn) rfl
  obtain ⟨fd_Lnames, F_Lnames⟩ := c.def_ 22 (d := D_Lnames) rfl
  obtain ⟨fd_Ltied, F_Ltied⟩ := c.def_ 23 (d := D_Ltied) rfl
  obtain ⟨fd_Lwired, F_Lwired⟩ := c.def_ 24 (d := D_Lwired) rfl
  obtain ⟨fd_Ltable, F_Ltable⟩ := c.def_ 25 (d := D_Ltable) rfl
  obtain ⟨fd_Lhits, F_Lhits⟩ := c.def_ 26 (d := D_Lhits) rfl
  obtain ⟨fd_Lleft, F_Lleft⟩ := c.def_ 27 (d := D_Lleft) rfl
  obtain ⟨fd_Lparts, F_Lparts⟩ := c.def_ 28 (d := D_Lparts) rfl
  obtain ⟨fd_Lfree, F_Lfree⟩ := c.def_ 29 (d := D_Lfree) rfl
  obtain ⟨fd_Lweb, F_Lweb⟩ := c.def_ 30 (d := D_Lweb) rfl
  obtain ⟨fd_Lwebs, F_Lwebs⟩ := c.def_ 31 (d := D_Lwebs) rfl
  obtain ⟨fd_Lfits, F_Lfits⟩ := c.def_ 32 (d := D_Lfits) rfl
  obtain ⟨fd_Lall_stay, F_Lall_stay⟩ := c.def_ 33 (d := D_Lall_stay) rfl
  obtain ⟨fd_Lis_sure, F_Lis_sure⟩ := c.def_ 34 (d := D_Lis_sure) rfl
  obtain ⟨fd_LrightT, F_LrightT⟩ := c.def_ 35 (d := D_LrightT) rfl
  obtain ⟨fd_lawT, F_lawT⟩ := c.def_ 36 (d := D_lawT) rfl
  have e := hfa.symm.trans (He.glo_ok X G (c.fact 36 (f := .glo "law") rfl))
  cases e
  have b := FunD.bindsA (ps := ["_law_script"]) F_lawT fun _ _ _ _ _ _ us hl => match us, hl with | [_], _ => rfl
  exact ⟨fd_lawT, fun s v => b s [v] rfl, fun base _ _ TB => d_lawT (⟨_, fd_look_switches, F_look_switches, He.glo_ok X G (c.fact 0 (f := .glo "look_switches") rfl), FunD.bindsN F_look_switches (fun _ _ _ _ _ _ us hl => match us, hl with | [_, _], _ => rfl),
    _, fd_rival_table, F_rival_table, He.glo_ok X G (c.fact 1 (f := .glo "rival_table") rfl), FunD.bindsN F_rival_table (fun _ _ _ _ _ _ us hl => match us, hl with | [_], _ => rfl),
    _, fd_component_of, F_component_of, He.glo_ok X G (c.fact 2 (f := .glo "component_of") rfl), FunD.bindsN F_component_of (fun _ _ _ _ _ _ us hl => match us, hl with | [_, _, _], _ => rfl),
    _, fd_components, F_components, He.glo_ok X G (c.fact 3 (f := .glo "components") rfl), FunD.bindsN F_components (fun _ _ _ _ _ _ us hl => match us, hl with | [_, _], _ => rfl),
    _, fd_left_on, F_left_on, He.glo_ok X G (c.fact 4 (f := .glo "left_on") rfl), FunD.bindsN F_left_on (fun _ _ _ _ _ _ us hl => match us, hl with | [_, _], _ => rfl),
    _, fd_distances, F_distances, He.glo_ok X G (c.fact 5 (f := .glo "distances") rfl), FunD.bindsN F_distances (fun _ _ _ _ _ _ us hl => match us, hl with | [_, _, _], _ => rfl),
    _, fd_look_pressed, F_look_pressed, He.glo_ok X G (c.fact 6 (f := .glo "look_pressed") rfl), FunD.bindsN F_look_pressed (fun _ _ _ _ _ _ us hl => match us, hl with | [_, _, _], _ => rfl),
    _, fd_can_leave, F_can_leave, He.glo_ok X G (c.fact 7 (f := .glo "can_leave") rfl), FunD.bindsN F_can_leave (fun _ _ _ _ _ _ us hl => match us, hl with | [_, _, _], _ => rfl),
    _, fd_look_order, F_look_order, He.glo_ok X G (c.fact 8 (f := .glo "look_order") rfl), FunD.bindsN F_look_order (fun _ _ _ _ _ _ us hl => match us, hl with | [_, _, _], _ => rfl),
    _, fd_is_order, F_is_order, He.glo_ok X G (c.fact 9 (f := .glo "is_order") rfl), FunD.bindsN F_is_order (fun _ _ _ _ _ _ us hl => match us, hl with | [_, _, _, _], _ => rfl),
    _, fd_path_to, F_path_to, He.glo_ok X G (c.fact 10 (f := .glo "path_to") rfl), FunD.bindsN F_path_to (fun _ _ _ _ _ _ us hl => match us, hl with | [_, _, _, _], _ => rfl),
    _, fd_way_round, F_way_round, He.glo_ok X G (c.fact 11 (f := .glo "way_round") rfl), FunD.bindsN F_way_round (fun _ _ _ _ _ _ us hl => match us, hl with | [_, _, _, _, _], _ => rfl),
    _, fd_surely_before, F_surely_before, He.glo_ok X G (c.fact 12 (f := .glo "surely_before") rfl), FunD.bindsN F_surely_before (fun _ _ _ _ _ _ us hl => match us, hl with | [_, _, _], _ => rfl),
    _, fd_look_both, F_look_both, He.glo_ok X G (c.fact 13 (f := .glo "look_both") rfl), FunD.bindsN F_look_both (fun _ _ _ _ _ _ us hl => match us, hl with | [_, _, _], _ => rfl),
    _, fd_laid_round, F_laid_round, He.glo_ok X G (c.fact 14 (f := .glo "laid_round") rfl), FunD.bindsN F_laid_round (fun _ _ _ _ _ _ us hl => match us, hl with | [_, _, _, _, _], _ => rfl),
    _, fd_counter_order, F_counter_order, He.glo_ok X G (c.fact 15 (f := .glo "counter_order") rfl), FunD.bindsN F_counter_order (fun _ _ _ _ _ _ us hl => match us, hl with | [_, _, _, _, _], _ => rfl),
    _, fd_shows_counter, F_shows_counter, He.glo_ok X G (c.fact 16 (f := .glo "shows_counter") rfl), FunD.bindsN F_shows_counter (fun _ _ _ _ _ _ us hl => match us, hl with | [_, _, _, _, _, _], _ => rfl),
    _, fd_Lcell_at, F_Lcell_at, He.glo_ok X G (c.fact 17 (f := .glo "_law_cell_at") rfl), FunD.bindsN F_Lcell_at (fun _ _ _ _ _ _ us hl => match us, hl with | [_, _], _ => rfl),
    _, fd_Lbox, F_Lbox, He.glo_ok X G (c.fact 18 (f := .glo "_law_box") rfl), FunD.bindsN F_Lbox (fun _ _ _ _ _ _ us hl => match us, hl with | [_, _], _ => rfl),
    _, fd_Ltake, F_Ltake, He.glo_ok X G (c.fact 19 (f := .glo "_law_take") rfl), FunD.bindsN F_Ltake (fun _ _ _ _ _ _ us hl => match us, hl with | [_, _], _ => rfl),
    _, fd_Lof, F_Lof, He.glo_ok X G (c.fact 20 (f := .glo "_law_of") rfl), FunD.bindsN F_Lof (fun _ _ _ _ _ _ us hl => match us, hl with | [_, _], _ => rfl),
    _, fd_Lstrewn, F_Lstrewn, He.glo_ok X G (c.fact 21 (f := .glo "_law_strewn") rfl), FunD.bindsN F_Lstrewn (fun _ _ _ _ _ _ us hl => match us, hl with | [_, _], _ => rfl),
    _, fd_Lnames, F_Lnames, He.glo_ok X G (c.fact 22 (f := .glo "_law_names") rfl), FunD.bindsN F_Lnames (fun _ _ _ _ _ _ us hl => match us, hl with | [_, _], _ => rfl),
    _, fd_Ltied, F_Ltied, He.glo_ok X G (c.fact 23 (f := .glo "_law_tied") rfl), FunD.bindsN F_Ltied (fun _ _ _ _ _ _ us hl => match us, hl with | [_, _], _ => rfl),
    _, fd_Lwired, F_Lwired, He.glo_ok X G (c.fact 24 (f := .glo "_law_wired") rfl), FunD.bindsN F_Lwired (fun _ _ _ _ _ _ us hl => match us, hl with | [_, _, _], _ => rfl),
    _, fd_Ltable, F_Ltable, He.glo_ok X G (c.fact 25 (f := .glo "_law_table") rfl), FunD.bindsN F_Ltable (fun _ _ _ _ _ _ us hl => match us, hl with | [_], _ => rfl),
    _, fd_Lhits, F_Lhits, He.glo_ok X G (c.fact 26 (f := .glo "_law_hits") rfl), FunD.bindsN F_Lhits (fun _ _ _ _ _ _ us hl => match us, hl with | [_, _, _], _ => rfl),
    _, fd_Lleft, F_Lleft, He.glo_ok X G (c.fact 27 (f := .glo "_law_left") rfl), FunD.bindsN F_Lleft (fun _ _ _ _ _ _ us hl => match us, hl with | [_, _], _ => rfl),
    _, fd_Lparts, F_Lparts, He.glo_ok X G (c.fact 28 (f := .glo "_law_parts") rfl), FunD.bindsN F_Lparts (fun _ _ _ _ _ _ us hl => match us, hl with | [_], _ => rfl),
    _, fd_Lfree, F_Lfree, He.glo_ok X G (c.fact 29 (f := .glo "_law_free") rfl), FunD.bindsN F_Lfree (fun _ _ _ _ _ _ us hl => match us, hl with | [_, _], _ => rfl),
    _, fd_Lweb, F_Lweb, He.glo_ok X G (c.fact 30 (f := .glo "_law_web") rfl), FunD.bindsN F_Lweb (fun _ _ _ _ _ _ us hl => match us, hl with | [_, _, _], _ => rfl),
    _, fd_Lwebs, F_Lwebs, He.glo_ok X G (c.fact 31 (f := .glo "_law_webs") rfl), FunD.bindsN F_Lwebs (fun _ _ _ _ _ _ us hl => match us, hl with | [_, _], _ => rfl),
    _, fd_Lfits, F_Lfits, He.glo_ok X G (c.fact 32 (f := .glo "_law_fits") rfl), FunD.bindsN F_Lfits (fun _ _ _ _ _ _ us hl => match us, hl with | [_, _, _, _], _ => rfl),
    _, fd_Lall_stay, F_Lall_stay, He.glo_ok X G (c.fact 33 (f := .glo "_law_all_stay") rfl), FunD.bindsN F_Lall_stay (fun _ _ _ _ _ _ us hl => match us, hl with | [_, _], _ => rfl),
    _, fd_Lis_sure, F_Lis_sure, He.glo_ok X G (c.fact 34 (f := .glo "_law_is_sure") rfl), FunD.bindsN F_Lis_sure (fun _ _ _ _ _ _ us hl => match us, hl with | [_, _, _, _, _], _ => rfl),
    _, fd_LrightT, F_LrightT, He.glo_ok X G (c.fact 35 (f := .glo "_law_right") rfl), FunD.bindsN F_LrightT (fun _ _ _ _ _ _ us hl => match us, hl with | [_], _ => rfl),
    _, fd_lawT, F_lawT, He.glo_ok X G (c.fact 36 (f := .glo "law") rfl), FunD.bindsN F_lawT (fun _ _ _ _ _ _ us hl => match us, hl with | [_], _ => rfl),
    (He.cT K ("laid_round", none)).1,
    (He.cT K ("laid_round", none)).2,
    code_of F_laid_round,
    He.free_ok X G (c.fact 37 (f := .free "abs") rfl),
    He.free_ok X G (c.fact 38 (f := .free "all") rfl),
    He.free_ok X G (c.fact 39 (f := .free "any") rfl),
    He.free_ok X G (c.fact 40 (f := .free "dict") rfl),
    He.free_ok X G (c.fact 41 (f := .free "enumerate") rfl),
    He.free_ok X G (c.fact 42 (f := .free "int") rfl),
    He.free_ok X G (c.fact 43 (f := .free "isinstance") rfl),
    He.free_ok X G (c.fact 44 (f := .free "len") rfl),
    He.free_ok X G (c.fact 45 (f := .free "list") rfl),
    He.free_ok X G (c.fact 46 (f := .free "max") rfl),
    He.free_ok X G (c.fact 47 (f := .free "min") rfl),
    He.free_ok X G (c.fact 48 (f := .free "range") rfl),
    He.free_ok X G (c.fact 49 (f := .free "sorted") rfl),
    He.free_ok X G (c.fact 50 (f := .free "str") rfl),
    He.free_ok X G (c.fact 51 (f := .free "tuple") rfl)⟩ : Tx K mg) TB⟩
theorem ex_refl (H : Hp) : Ex H H := Ex.refl H
end Ob
open PySem PySem.W PySem.Calls PyProof.Rows
theorem PySem.Challenge.cw_offbyon_k76_whole_ways_round_holds : PySem.Challenge.rw_offbyon_k76_whole_ways_round.Holds := by
  w_on; o_law
  refine HandSHeadRun.head_any (r := OpenLaw.row PySem.Challenge.rw_offbyon_k76_whole_ways_round) (q := view (OpenLaw.row PySem.Challenge.rw_offbyon_k76_whole_ways_round).prog [45]) (H := Ob.hk) (ob := Ob.ob) (M := 4000) (loose := Ob.loose) (d := HandSHeadRun.topDef (OpenLaw.row PySem.Challenge.rw_offbyon_k76_whole_ways_round).prog 45) (kwd := []) Ob.ob_eq
    (by kernel_rfl) (fun s => by kernel_rfl) Ob.run (by kernel_rfl) (by kernel_rfl) (by kernel_rfl) (by rfl) (by first | assumption | decide +kernel) (by decide +kernel) ⟨rfl, rfl, rfl, rfl, rfl, by decide +kernel⟩ ?hw ?hc
  case hw => w_witness2
  case hc =>

    refine LamX.walk_ofTsE (l := PySem.Challenge.rw_offbyon_k76_whole_ways_round) (n := 63) (k := 7) (x := "_law_script") (CX := fun _ => L2.CX0) rfl (by decide) (by kernel_rfl) ⟨rfl, by decide, by decide⟩ ?F (fun _ _ _ _ _ z => z)
    intro w mg fa h Y G hmg0
    obtain ⟨K, KX, c⟩ := Y
    have hmg : mg ("law" : PySem.Str) = some (.ref fa) := by
      have e : (HandSHeadRun.topDef (OpenLaw.row PySem.Challenge.rw_offbyon_k76_whole_ways_round).prog 45).name = ("law" : PySem.Str) := by kernel_rfl
      rw [← e]
      exact hmg0
    obtain ⟨fd, hb, hF⟩ := Ob.facts (P := (PySem.Challenge.rw_offbyon_k76_whole_ways_round).prog) (w := w) KX G hmg c.t.d
    have hm : (("laid_round", none) : He.Defn) ∈ Ob.tf := List.mem_singleton.mpr rfl
    refine ⟨K, KX, fd, [He.cT K ("laid_round", none)], Ob.sp_lawT K (He.cT K ("laid_round", none)).2, ?_, ?_, ?_, hb, fun H a ns _ _ hT hS => Ob.LawPT.start (hT _ (List.mem_singleton.mpr rfl)) hS, fun base k1 k2 hTB => hF base k1 k2 (hTB _ (List.mem_singleton.mpr rfl))⟩
    · intro p hp
      rw [List.mem_singleton.mp hp]
      exact c.empty _ hm
    · intro p hp
      rw [List.mem_singleton.mp hp]
      exact c.out _ hm
    · intro p hp
      rw [List.mem_singleton.mp hp]
      exact PySem.W.codeHd_of_K KX (c.hd _ hm)

