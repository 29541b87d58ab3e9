import PyProof.Rows.All
import Wide.All
import OpenK.AllK
import Wide.FinOn
import HandS.ForMost
import HandS.ForExc
import HandS.Evl
import HandS.Walk
import HandS.Zip
import HandS.Deep
import HandS.DictComp
import HandS.Style
import HandS.IsInst
import KE.Datum
import KE.DatumOrd
import KE.SortData
import HandS.TupAny
import HandS.NoneIn
import HandS.Defaults
import KE.GoesEnum
import KE.GoesMore
import PyProof.EnumMake
import HandS.FltList
import HandS.SetFor
import HandS.SetTxt0
import HandS.Strs
import PyProof.AutoSeq1
import HandS.Steps
import HandS.ExcIs
import HandS.ExcOwn
import HandS.ExcValue
import HandS.TryMany
import KE.KTryMore
import PyProof.ExcBaseAll.LookupError
import HandS.Lambda
import KE.SortUse
import PyProof.Rows.CallKwBuiltin
import PyProof.Rows.CallKw2
import HandS.Dict
import HandS.Small
import PyProof.Rows.TupDisplay
import HandS.HeadHook4
import HandS.ExcInit
import KE.KExcInit
import KE.KExcIs
import HandS.Codes
import KE.KEqDict
import KE.KDictSum
import KE.KDictWalk
import HandS.Call
import HandS.More
import PyProof.Rows.NestShow
import PyProof.Rows.ReprR
import HandS.Ends
import HandS.HeadEnd
import HandS.Text
import KE.KItemsList
import KE.KDictZip
import HandS.ListItems
import PyProof.ListStr
import HandS.Iter
import KE.KeyNested
import HandS.TupSets
import HandS.Words
import HandS.WordsExc
import HandS.Head0
import HandS.Head1
import HandS.Head2
import HandS.HeadHook1
import HandS.HeadHook2
import KE.KStateDown
import PySem.Challenge.RW_offbyon_k83_lamps_that_cannot_be_seen
set_option Elab.async false
set_option linter.all false
set_option maxRecDepth 100000
set_option maxHeartbeats 4000000
/-! Ob1: data with a Lean type over the layer: at_ K H v x: v holds x in the abstract heap H; Pe: a reading gives data by allocating only; walks over data; comprehensions. -/
namespace Ob
open PySem L2
open Evl (Ex)
open PySem.W (Datum Tup)
/-! ### heaps: B, what is frozen, within H, what stands -/
structure Up (B H B2 H2 : Hp) : Prop where
  bb : Ex B B2
  bh : Ex B2 H2
  hh : Ex H H2
  nw : ∀ a, B2 a ≠ none → B a ≠ none ∨ H a = none
theorem Up.refl {B H : Hp} (e : Ex B H) : Up B H B H := ⟨Ex.refl B, e, Ex.refl H, fun _ h => .inl h⟩
theorem Up.trans {B H B1 H1 B2 H2 : Hp} (a : Up B H B1 H1) (b : Up B1 H1 B2 H2) : Up B H B2 H2 :=
  ⟨a.bb.trans b.bb, b.bh, a.hh.trans b.hh, fun x h => by
    rcases b.nw x h with h | h
    · exact a.nw x h
    · refine .inr ?_
      cases q : H x with
      | none => rfl
      | some o =>
        rw [a.hh x o q] at h
        cases h⟩
/-- a new object, frozen -/
theorem Up.new {B H : Hp} {p : Addr} {o : HO} (e : Ex B H) (hp : H p = none) : Up B H (upd B p o) (upd H p o) := by
  have hb : B p = none := Evl.fresh_back e hp
  refine ⟨Ex.new hb, fun a u h => ?_, Ex.new hp, fun a h => ?_⟩
  · by_cases ha : a = p
    · subst ha
      rw [upd_same] at h ⊢
      exact h
    · rw [upd_ne ha] at h ⊢
      exact e a u h
  · by_cases ha : a = p
    · subst ha
      exact .inr hp
    · rw [upd_ne ha] at h
      exact .inl h
theorem Up.then {B H B1 H1 : Hp} {p : Addr} {o : HO} (a : Up B H B1 H1) (hp : H1 p = none) : Up B H (upd B1 p o) (upd H1 p o) := a.trans (Up.new a.bh hp)
/-- an object that is not frozen stays so, and as it was -/
theorem Up.out {B H B2 H2 : Hp} (u : Up B H B2 H2) {a : Addr} {o : HO} (hb : B a = none) (h : H a = some o) : B2 a = none ∧ H2 a = some o := by
  refine ⟨?_, u.hh a o h⟩
  cases q : B2 a with
  | none => rfl
  | some x =>
    rcases u.nw a (by rw [q]; exact fun z => nomatch z) with z | z
    · exact absurd hb z
    · rw [h] at z
      cases z
theorem ex_upd {B H : Hp} {p : Addr} {o : HO} (e : Ex B H) (hb : B p = none) : Ex B (upd H p o) := fun a u h => by
  rw [upd_ne (ne_of_none h hb)]
  exact e a u h
/-- a frozen part may take in an object that stands -/
theorem ex_in {B H : Hp} {p : Addr} {o : HO} (e : Ex B H) (h : H p = some o) : Ex (upd B p o) H := fun a u q => by
  by_cases ha : a = p
  · subst ha
    rw [upd_same] at q
    cases q
    exact h
  · rw [upd_ne ha] at q
    exact e a u q
/-! ### what reads as it did: also behind a lock or an unlock of a dict -/
def plainO : HO → Bool
  | .lst _ => true
  | .tup _ => true
  | .dK _ => true
  | .dT _ => true
  | .ext _ => true
  | _ => false
def ExR (H H' : Hp) : Prop := (∀ a u, plainO u = true → Rd H a u → Rd H' a u) ∧ (∀ a us, H a = some (.tup us) → H' a = some (.tup us)) ∧ ∀ a C dx fs, H a = some (.ins C dx fs) → H' a = some (.ins C dx fs)
theorem ExR.of {H H' : Hp} (e : Ex H H') : ExR H H' := ⟨fun _ _ _ h => Evl.ex_rd e h, fun _ _ h => e _ _ h, fun _ _ _ _ h => e _ _ h⟩
/-- a tuple that stands there as it is reads as a tuple -/
theorem ex_tx {K : PySem.W.Frag} {H H' : Hp} {a : Addr} {xs : List V} (e : Ex H H') (h : H a = some (.tup xs)) : SqT K H' a xs := Evl.st_of (e _ _ h)
theorem exr_l {K : PySem.W.Frag} {H H' : Hp} {a : Addr} {xs : List V} (e : ExR H H') (h : SqL K H a xs) : SqL K H' a xs := h.imp (fun h => e.1 a _ rfl h) id
theorem exr_t {K : PySem.W.Frag} {H H' : Hp} {a : Addr} {xs : List V} (e : ExR H H') (h : SqT K H a xs) : SqT K H' a xs := h.imp (fun h => e.1 a _ rfl h) id
theorem exr_unlock {H : Hp} {d : Addr} {o : Obj} {u0 : HO} (h : H d = some (.frz o u0)) : ExR H (upd H d u0) := ⟨fun a u hp hr => by
  by_cases ha : a = d
  · subst ha
    rcases hr with hr | ⟨o', hr⟩
    · rw [h] at hr
      cases hr
      cases hp
    · rw [h] at hr
      cases hr
      exact .inl upd_same
  · rcases hr with hr | ⟨o', hr⟩
    · exact .inl (by rw [upd_ne ha]; exact hr)
    · exact .inr ⟨o', by rw [upd_ne ha]; exact hr⟩, fun a us ha => by
  have hne : a ≠ d := fun z => by rw [z, h] at ha; cases ha
  rw [upd_ne hne]
  exact ha, fun a _ _ _ ha => by
  have hne : a ≠ d := fun z => by rw [z, h] at ha; cases ha
  rw [upd_ne hne]
  exact ha⟩
/-! ### data in the heap -/
section
variable {K : PySem.W.Frag} {H H' : Hp}
mutual
theorem dp_monoR (e : ExR H H') : ∀ (d : PyData) (v : V), Dp K H v d → Dp K H' v d
  | .none, _, h => by cases h; exact .non
  | .bool _, _, h => by cases h; exact .bl _
  | .int _, _, h => by cases h; exact .int _
  | .str _, _, h => by cases h; exact .str _
  | .list ds, _, h => by
    cases h with
    | lst a b => exact .lst (exr_l e a) (dpAll_monoR e ds _ b)
  | .tuple ds, _, h => by
    cases h with
    | tup a b => exact .tup (exr_t e a) (dpAll_monoR e ds _ b)
  | .dict _, _, h => by cases h
theorem dpAll_monoR (e : ExR H H') : ∀ (ds : List PyData) (vs : List V), DpAll K H vs ds → DpAll K H' vs ds
  | [], _, h => by cases h; exact .nil
  | d :: ds, _, h => by
    cases h with
    | cons a b => exact .cons (dp_monoR e d _ a) (dpAll_monoR e ds _ b)
end
end
/-! data, each tuple as it stands -/
mutual
inductive Dq (K : PySem.W.Frag) (H : Hp) : V → PyData → Prop
  | non : Dq K H .non .none
  | bl (b : Bool) : Dq K H (.bl b) (.bool b)
  | int (i : Int) : Dq K H (.int i) (.int i)
  | str (x : Str) : Dq K H (.str x) (.str x)
  | lst {a : Addr} {xs : List V} {ds : List PyData} : SqL K H a xs → DqAll K H xs ds → Dq K H (.ref a) (.list ds)
  | tup {a : Addr} {xs : List V} {ds : List PyData} : H a = some (.tup xs) → DqAll K H xs ds → Dq K H (.ref a) (.tuple ds)
inductive DqAll (K : PySem.W.Frag) (H : Hp) : List V → List PyData → Prop
  | nil : DqAll K H [] []
  | cons {v : V} {vs : List V} {d : PyData} {ds : List PyData} : Dq K H v d → DqAll K H vs ds → DqAll K H (v :: vs) (d :: ds)
end
section
variable {K : PySem.W.Frag} {H H' : Hp}
mutual
theorem Dq.dp : ∀ (d : PyData) (v : V), Dq K H v d → Dp K H v d
  | .none, _, h => by cases h; exact .non
  | .bool _, _, h => by cases h; exact .bl _
  | .int _, _, h => by cases h; exact .int _
  | .str _, _, h => by cases h; exact .str _
  | .list ds, _, h => by
    cases h with
    | lst a b => exact .lst a (DqAll.dp ds _ b)
  | .tuple ds, _, h => by
    cases h with
    | tup a b => exact .tup (Evl.st_of a) (DqAll.dp ds _ b)
  | .dict _, _, h => by cases h
theorem DqAll.dp : ∀ (ds : List PyData) (vs : List V), DqAll K H vs ds → DpAll K H vs ds
  | [], _, h => by cases h; exact .nil
  | d :: ds, _, h => by
    cases h with
    | cons a b => exact .cons (Dq.dp d _ a) (DqAll.dp ds _ b)
end
mutual
theorem dq_monoR (e : ExR H H') : ∀ (d : PyData) (v : V), Dq K H v d → Dq K H' v d
  | .none, _, h => by cases h; exact .non
  | .bool _, _, h => by cases h; exact .bl _
  | .int _, _, h => by cases h; exact .int _
  | .str _, _, h => by cases h; exact .str _
  | .list ds, _, h => by
    cases h with
    | lst a b => exact .lst (exr_l e a) (dqAll_monoR e ds _ b)
  | .tuple ds, _, h => by
    cases h with
    | tup a b => exact .tup (e.2.1 _ _ a) (dqAll_monoR e ds _ b)
  | .dict _, _, h => by cases h
theorem dqAll_monoR (e : ExR H H') : ∀ (ds : List PyData) (vs : List V), DqAll K H vs ds → DqAll K H' vs ds
  | [], _, h => by cases h; exact .nil
  | d :: ds, _, h => by
    cases h with
    | cons a b => exact .cons (dq_monoR e d _ a) (dqAll_monoR e ds _ b)
end
theorem dp_mono (e : Ex H H') (d : PyData) (v : V) (h : Dq K H v d) : Dp K H' v d := dp_monoR (ExR.of e) d v (Dq.dp d v h)
end
class Rep (α : Type) where
  at_ : PySem.W.Frag → Hp → V → α → Prop
  monoR : ∀ {K : PySem.W.Frag} {H H' : Hp} {v : V} {x : α}, ExR H H' → at_ K H v x → at_ K H' v x
theorem Rep.mono {α : Type} [Rep α] {K : PySem.W.Frag} {H H' : Hp} {v : V} {x : α} (e : Ex H H') (h : Rep.at_ K H v x) : Rep.at_ K H' v x := Rep.monoR (ExR.of e) h
instance (priority := low) repDatum {α : Type} [DecidableEq α] [Datum α] : Rep α := ⟨fun K H v x => Dq K H v (Datum.toD x), fun e h => dq_monoR e _ _ h⟩
/-- a dict with text keys -/
structure Dic (α : Type) where
  kvs : List (Str × α)
def DicAt {α : Type} [Rep α] (K : PySem.W.Frag) (H : Hp) (ks : List (Key × V)) (d : List (Str × α)) : Prop := Paired (fun (p : Key × V) (q : Str × α) => p.1 = .inr q.1 ∧ Rep.at_ K H p.2 q.2) ks d
instance {α : Type} [Rep α] : Rep (Dic α) := ⟨fun K H v d => ∃ a ks, v = .ref a ∧ Rd H a (.dK ks) ∧ ks.length ≤ 1000000 ∧ DicAt K H ks d.kvs,
  fun e ⟨a, ks, h1, h2, hz, h3⟩ => ⟨a, ks, h1, e.1 a _ rfl h2, hz, Paired.mapP h3 fun _ _ h => ⟨h.1, Rep.monoR e h.2⟩⟩⟩
/-- any value at all -/
structure Any where
  v : V
instance : Rep Any := ⟨fun _ _ v x => v = x.v, fun _ h => h⟩
section
variable {K : PySem.W.Frag} {H H' : Hp} {v : V}
abbrev AtAll {α : Type} [Rep α] (K : PySem.W.Frag) (H : Hp) (vs : List V) (xs : List α) : Prop := Paired (Rep.at_ K H) vs xs
theorem AtAll.monoR {α : Type} [Rep α] (e : ExR H H') {vs : List V} {xs : List α} (h : AtAll K H vs xs) : AtAll K H' vs xs := Paired.mapP h fun _ _ q => Rep.monoR e q
theorem AtAll.mono {α : Type} [Rep α] (e : Ex H H') {vs : List V} {xs : List α} (h : AtAll K H vs xs) : AtAll K H' vs xs := Paired.mapP h fun _ _ q => Rep.mono e q
section
variable {α β : Type} [DecidableEq α] [Datum α] [DecidableEq β] [Datum β]
theorem dqAll_at : ∀ {vs : List V} {xs : List α}, DqAll K H vs (xs.map Datum.toD) → AtAll K H vs xs
  | _, [], h => by
    have h' : DqAll K H _ [] := h
    cases h'
    exact .nil
  | _, x :: xs, h => by
    have h' : DqAll K H _ (Datum.toD x :: xs.map Datum.toD) := h
    cases h' with
    | cons a b => exact .cons a (dqAll_at b)
theorem at_dqAll : ∀ {vs : List V} {xs : List α}, AtAll K H vs xs → DqAll K H vs (xs.map Datum.toD)
  | _, _, .nil => .nil
  | _, _, .cons a b => .cons a (at_dqAll b)
theorem at_dpAll {vs : List V} {xs : List α} (h : AtAll K H vs xs) : DpAll K H vs (xs.map Datum.toD) := DqAll.dp _ _ (at_dqAll h)
theorem at_int {i : Int} : Rep.at_ K H v i ↔ v = .int i := ⟨fun h => by cases (show Dq K H v (.int i) from h); rfl, fun h => by rw [h]; exact Dq.int i⟩
theorem at_bl {i : Bool} : Rep.at_ K H v i ↔ v = .bl i := ⟨fun h => by cases (show Dq K H v (.bool i) from h); rfl, fun h => by rw [h]; exact Dq.bl i⟩
theorem at_str {i : Str} : Rep.at_ K H v i ↔ v = .str i := ⟨fun h => by cases (show Dq K H v (.str i) from h); rfl, fun h => by rw [h]; exact Dq.str i⟩
theorem at_non {i : Unit} : Rep.at_ K H v i ↔ v = .non := ⟨fun h => by cases (show Dq K H v .none from h); rfl, fun h => by rw [h]; exact Dq.non⟩
theorem at_list {xs : List α} : Rep.at_ K H v xs ↔ ∃ a vs, v = .ref a ∧ SqL K H a vs ∧ AtAll K H vs xs :=
  ⟨fun h => by cases (show Dq K H v (.list (xs.map Datum.toD)) from h) with
    | lst a b => exact ⟨_, _, rfl, a, dqAll_at b⟩, fun ⟨a, vs, e, h1, h2⟩ => by
    rw [e]
    exact Dq.lst h1 (at_dqAll h2)⟩
theorem at_tup {t : Tup α} : Rep.at_ K H v t ↔ ∃ a vs, v = .ref a ∧ H a = some (.tup vs) ∧ AtAll K H vs t.items :=
  ⟨fun h => by cases (show Dq K H v (.tuple (t.items.map Datum.toD)) from h) with
    | tup a b => exact ⟨_, _, rfl, a, dqAll_at b⟩, fun ⟨a, vs, e, h1, h2⟩ => by
    rw [e]
    exact Dq.tup h1 (at_dqAll h2)⟩
theorem at_pair {p : α × β} : Rep.at_ K H v p ↔ ∃ a v1 v2, v = .ref a ∧ H a = some (.tup [v1, v2]) ∧ Rep.at_ K H v1 p.1 ∧ Rep.at_ K H v2 p.2 :=
  ⟨fun h => by cases (show Dq K H v (.tuple [Datum.toD p.1, Datum.toD p.2]) from h) with
    | tup a b =>
      cases b with
      | cons b1 b2 =>
        cases b2 with
        | cons b2 b3 =>
          cases b3
          exact ⟨_, _, _, rfl, a, b1, b2⟩, fun ⟨a, v1, v2, e, h1, h2, h3⟩ => by
    rw [e]
    exact Dq.tup h1 (.cons h2 (.cons h3 .nil))⟩
end
theorem AtAll.length {α : Type} [Rep α] {vs : List V} {xs : List α} (h : AtAll K H vs xs) : vs.length = xs.length := Paired.length h
theorem AtAll.get {α : Type} [Rep α] : ∀ {vs : List V} {xs : List α} {i : Nat} {x : α}, AtAll K H vs xs → xs[i]? = some x → ∃ v, vs[i]? = some v ∧ Rep.at_ K H v x
  | _, _, _, _, .nil, h => by simp at h
  | _, _, 0, x, .cons (a := v) q _, h => by
    simp at h
    subst h
    exact ⟨v, rfl, q⟩
  | _, _, i + 1, x, .cons _ t, h => by
    obtain ⟨v, h1, h2⟩ := AtAll.get (i := i) t (by simpa using h)
    exact ⟨v, by simpa using h1, h2⟩
theorem AtAll.get' {α : Type} [Rep α] : ∀ {vs : List V} {xs : List α} {i : Nat} {v : V}, AtAll K H vs xs → vs[i]? = some v → ∃ x, xs[i]? = some x ∧ Rep.at_ K H v x
  | _, _, _, _, .nil, h => by simp at h
  | _, _, 0, x, .cons (b := y) q _, h => by
    simp at h
    subst h
    exact ⟨y, rfl, q⟩
  | _, _, i + 1, x, .cons _ t, h => by
    obtain ⟨v, h1, h2⟩ := AtAll.get' (i := i) t (by simpa using h)
    exact ⟨v, by simpa using h1, h2⟩
theorem AtAll.append {α : Type} [Rep α] : ∀ {vs ws : List V} {xs ys : List α}, AtAll K H vs xs → AtAll K H ws ys → AtAll K H (vs ++ ws) (xs ++ ys)
  | _, _, _, _, .nil, k => k
  | _, _, _, _, .cons q t, k => .cons q (AtAll.append t k)
theorem AtAll.snoc {α : Type} [Rep α] {vs : List V} {v : V} {xs : List α} {x : α} (h : AtAll K H vs xs) (k : Rep.at_ K H v x) : AtAll K H (vs ++ [v]) (xs ++ [x]) := h.append (.cons k .nil)
theorem AtAll.take {α : Type} [Rep α] : ∀ {vs : List V} {xs : List α} (n : Nat), AtAll K H vs xs → AtAll K H (vs.take n) (xs.take n)
  | _, _, 0, _ => .nil
  | _, _, _ + 1, .nil => .nil
  | _, _, n + 1, .cons q t => .cons q (AtAll.take n t)
theorem AtAll.drop {α : Type} [Rep α] : ∀ {vs : List V} {xs : List α} (n : Nat), AtAll K H vs xs → AtAll K H (vs.drop n) (xs.drop n)
  | _, _, 0, h => h
  | _, _, _ + 1, .nil => .nil
  | _, _, n + 1, .cons _ t => AtAll.drop n t
theorem AtAll.set {α : Type} [Rep α] {v : V} {x : α} (k : Rep.at_ K H v x) : ∀ {vs : List V} {xs : List α} (n : Nat), AtAll K H vs xs → AtAll K H (vs.set n v) (xs.set n x)
  | _, _, _, .nil => .nil
  | _, _, 0, .cons _ t => .cons k t
  | _, _, n + 1, .cons q t => .cons q (AtAll.set k n t)
theorem AtAll.eraseIdx {α : Type} [Rep α] : ∀ {vs : List V} {xs : List α} (n : Nat), AtAll K H vs xs → AtAll K H (vs.eraseIdx n) (xs.eraseIdx n)
  | _, _, _, .nil => .nil
  | _, _, 0, .cons _ t => t
  | _, _, n + 1, .cons q t => .cons q (AtAll.eraseIdx n t)
theorem atAll_strs : ∀ {vs : List V} {xs : List Str}, AtAll K H vs xs → vs = xs.map V.str
  | _, _, .nil => rfl
  | _, _, .cons q t => by
    rw [List.map_cons, ← atAll_strs t, at_str.mp q]
theorem strs_atAll : ∀ (xs : List Str), AtAll K H (xs.map V.str) xs
  | [] => .nil
  | x :: xs => .cons (at_str.mpr rfl) (strs_atAll xs)
theorem atAll_ints : ∀ {vs : List V} {xs : List Int}, AtAll K H vs xs → vs = xs.map V.int
  | _, _, .nil => rfl
  | _, _, .cons q t => by
    rw [List.map_cons, ← atAll_ints t, at_int.mp q]
theorem ints_atAll : ∀ (xs : List Int), AtAll K H (xs.map V.int) xs
  | [] => .nil
  | x :: xs => .cons (at_int.mpr rfl) (ints_atAll xs)
theorem atAll_bls : ∀ {vs : List V} {xs : List Bool}, AtAll K H vs xs → vs = xs.map V.bl
  | _, _, .nil => rfl
  | _, _, .cons q t => by
    rw [List.map_cons, ← atAll_bls t, at_bl.mp q]
end
/-! ### a reading gives data by allocating alone -/
section
variable (K : PySem.W.Frag)
def Pe {α : Type} [Rep α] (te : TE) (σ : L2.St) (B : Hp) (x : α) : Prop := ∀ H, Ex B H → ∀ Q : VK, (∀ v B2 H2, Up B H B2 H2 → Rep.at_ K B2 v x → Q v H2) → te σ H Q
def Pt (tt : TT) (σ : L2.St) (B : Hp) (b : Bool) : Prop := ∀ H, Ex B H → ∀ Q : Bool → Hp → Prop, (∀ B2 H2, Up B H B2 H2 → Q b H2) → tt σ H Q
def Pa (ta : TA) (σ : L2.St) (B : Hp) (R : List V → Hp → Prop) : Prop := ∀ H, Ex B H → ∀ Q : List V → Hp → Prop, (∀ vs B2 H2, Up B H B2 H2 → R vs B2 → Q vs H2) → ta σ H Q
def Po (to : TO) (σ : L2.St) (B : Hp) (o : Option Int) : Prop := ∀ H, Ex B H → ∀ Q : Option Int → Hp → Prop, (∀ B2 H2, Up B H B2 H2 → Q o H2) → to σ H Q
end
section
variable {K : PySem.W.Frag} {σ : L2.St} {B B' H : Hp} {te ta tb : TE} {tt tu : TT}
variable {α β γ : Type} [Rep α] [Rep β] [Rep γ]
theorem Pe.mono {x : α} (h : Pe K te σ B x) (e : Ex B B') : Pe K te σ B' x := fun H a Q q => h H (e.trans a) Q fun v B2 H2 u hv => by
  -- the new part: what the reading froze, joined with B'
  refine q v (fun a => match B2 a with | some o => some o | none => B' a) H2 ⟨fun c o hc => ?_, fun c o hc => ?_, u.hh, fun c hc => ?_⟩ (Rep.mono (fun c o hc => ?_) hv)
  · show (match B2 c with | some o => some o | none => B' c) = some o
    cases z : B2 c with
    | none => exact hc
    | some o' =>
      rcases u.nw c (by rw [z]; exact fun w => nomatch w) with n | n
      · cases zb : B c with
        | none => exact absurd zb n
        | some ob =>
          have h1 := u.bb c ob zb
          have h2 := e c ob zb
          rw [z] at h1
          rw [hc] at h2
          show some o' = some o
          rw [h1, h2]
      · have := a c o hc
        rw [n] at this
        cases this
  · have hc' : (match B2 c with | some o => some o | none => B' c) = some o := hc
    cases z : B2 c with
    | none =>
      rw [z] at hc'
      exact u.hh c o (a c o hc')
    | some o' =>
      rw [z] at hc'
      rw [← hc']
      exact u.bh c o' z
  · have hc' : (match B2 c with | some o => some o | none => B' c) ≠ none := hc
    cases z : B2 c with
    | none =>
      rw [z] at hc'
      exact .inl hc'
    | some o' =>
      rcases u.nw c (by rw [z]; exact fun w => nomatch w) with n | n
      · refine .inl ?_
        cases zb : B c with
        | none => exact absurd zb n
        | some ob =>
          rw [e c ob zb]
          exact fun w => nomatch w
      · exact .inr n
  · show (match B2 c with | some o => some o | none => B' c) = some o
    rw [hc]
theorem Pt.mono {b : Bool} (h : Pt tt σ B b) (e : Ex B B') : Pt tt σ B' b := fun H a Q q => h H (e.trans a) Q fun B2 H2 u =>
  q B' H2 ⟨Ex.refl _, a.trans u.hh, u.hh, fun _ h => .inl h⟩
theorem Pe.is {x y : α} (h : Pe K te σ B x) (e : x = y) : Pe K te σ B y := e ▸ h
theorem Pt.is {x y : Bool} (h : Pt tt σ B x) (e : x = y) : Pt tt σ B y := e ▸ h
/-! names, constants -/
theorem e_var {i : Nat} {v : V} {x : α} (h : σ[i]? = some (some v)) (hv : Rep.at_ K B v x) : Pe K (tVar i) σ B x := fun H e Q q => ⟨v, h, q v B H (Up.refl e) hv⟩
theorem e_int {i : Int} : Pe K (tC (.int i)) σ B i := fun H e Q q => q _ B H (Up.refl e) (at_int.mpr rfl)
theorem e_str {i : Str} : Pe K (tC (.str i)) σ B i := fun H e Q q => q _ B H (Up.refl e) (at_str.mpr rfl)
theorem e_bl {i : Bool} : Pe K (tC (.bl i)) σ B i := fun H e Q q => q _ B H (Up.refl e) (at_bl.mpr rfl)
theorem e_non : Pe K (tC .non) σ B () := fun H e Q q => q _ B H (Up.refl e) (at_non.mpr rfl)
/-! two readings, one behind the other -/
theorem Pe.both {x : α} {y : β} (ha : Pe K ta σ B x) (hb : Pe K tb σ B y) {H : Hp} (e : Ex B H) {Q : V → V → Hp → Prop} (q : ∀ v w B2 H2, Up B H B2 H2 → Rep.at_ K B2 v x → Rep.at_ K B2 w y → Q v w H2) :
    ta σ H fun v H1 => tb σ H1 fun w H2 => Q v w H2 := ha H e _ fun v B1 H1 u1 h1 => (hb.mono u1.bb) H1 u1.bh _ fun w B2 H2 u2 h2 => q v w B2 H2 (u1.trans u2) (Rep.mono u2.bb h1) h2
/-- an operation on data -/
def RD (K : PySem.W.Frag) (r : R2) (x : α) (y : β) (z : γ) : Prop := ∀ B H v w, Ex B H → Rep.at_ K B v x → Rep.at_ K B w y → ∀ Q : VK, (∀ u B2 H2, Up B H B2 H2 → Rep.at_ K B2 u z → Q u H2) → r v w H Q
theorem e_op {r : R2} {x : α} {y : β} {z : γ} (ha : Pe K ta σ B x) (hb : Pe K tb σ B y) (hr : RD K r x y z) : Pe K (tOp r ta tb) σ B z := fun H e Q q =>
  ha.both hb e fun v w B2 H2 u h1 h2 => hr B2 H2 v w u.bh h1 h2 Q fun z B3 H3 u3 h3 => q z B3 H3 (u.trans u3) h3
/-- an operation whose answer is no object -/
theorem rd_val {r : R2} {x : α} {y : β} {z : γ} (c : V) (hc : ∀ B, Rep.at_ K B c z) (h : ∀ B H v w, Ex B H → Rep.at_ K B v x → Rep.at_ K B w y → ∀ Q : VK, Q c H → r v w H Q) : RD K r x y z := fun B H v w e h1 h2 Q q =>
  h B H v w e h1 h2 Q (q c B H (Up.refl e) (hc B))
def RU (K : PySem.W.Frag) (r : V → Hp → VK → Prop) (x : α) (z : γ) : Prop := ∀ B H v, Ex B H → Rep.at_ K B v x → ∀ Q : VK, (∀ u B2 H2, Up B H B2 H2 → Rep.at_ K B2 u z → Q u H2) → r v H Q
theorem e_un {r : V → Hp → VK → Prop} {x : α} {z : γ} (ha : Pe K ta σ B x) (hr : RU K r x z) : Pe K (tUn r ta) σ B z := fun H e Q q =>
  ha H e _ fun v B2 H2 u h1 => hr B2 H2 v u.bh h1 Q fun z B3 H3 u3 h3 => q z B3 H3 (u.trans u3) h3
/-! tests -/
theorem t_test {b : Bool} (h : Pe K te σ B b) : Pt (tTest te) σ B b := fun H e Q q => h H e _ fun v B2 H2 u hv => ⟨b, at_bl.mp hv, q B2 H2 u⟩
theorem t_B {b : Bool} (h : Pe K te σ B b) : Pt (tB te) σ B b := fun H e Q q => h H e _ fun v B2 H2 u hv => ⟨b, at_bl.mp hv, q B2 H2 u⟩
theorem t_not {b : Bool} (h : Pt tt σ B b) : Pt (tNot tt) σ B (!b) := fun H e Q q => h H e _ fun B2 H2 u => q B2 H2 u
theorem t_yes : Pt tYes σ B true := fun H e Q q => q B H (Up.refl e)
theorem t_and {a b : Bool} (h1 : Pt tt σ B a) (h2 : a = true → Pt tu σ B b) : Pt (tAnd tt tu) σ B (a && b) := fun H e Q q => h1 H e _ fun B2 H2 u => by
  cases a with
  | true => exact (h2 rfl).mono u.bb H2 u.bh _ fun B3 H3 u3 => q B3 H3 (u.trans u3)
  | false => exact q B2 H2 u
theorem t_or {a b : Bool} (h1 : Pt tt σ B a) (h2 : a = false → Pt tu σ B b) : Pt (tOr tt tu) σ B (a || b) := fun H e Q q => h1 H e _ fun B2 H2 u => by
  cases a with
  | true => exact q B2 H2 u
  | false => exact (h2 rfl).mono u.bb H2 u.bh _ fun B3 H3 u3 => q B3 H3 (u.trans u3)
theorem e_andV {a b : Bool} (h1 : Pe K ta σ B a) (h2 : a = true → Pe K tb σ B b) : Pe K (tAndV ta tb) σ B (a && b) := fun H e Q q => h1 H e _ fun v B2 H2 u hv => ⟨a, at_bl.mp hv, by
  cases a with
  | true => exact (h2 rfl).mono u.bb H2 u.bh _ fun v B3 H3 u3 h3 => q v B3 H3 (u.trans u3) h3
  | false => exact q _ B2 H2 u (at_bl.mpr rfl)⟩
theorem e_notV {a : Bool} (h1 : Pe K ta σ B a) : Pe K (tNotV ta) σ B (!a) := fun H e Q q => h1 H e _ fun v B2 H2 u hv => ⟨a, at_bl.mp hv, q _ B2 H2 u (at_bl.mpr rfl)⟩
theorem e_if {b : Bool} {x : α} (h : Pt tt σ B b) (h1 : b = true → Pe K ta σ B x) (h2 : b = false → Pe K tb σ B x) : Pe K (tIf tt ta tb) σ B x := fun H e Q q => h H e _ fun B2 H2 u => by
  cases b with
  | true => exact (h1 rfl).mono u.bb H2 u.bh _ fun v B3 H3 u3 h3 => q v B3 H3 (u.trans u3) h3
  | false => exact (h2 rfl).mono u.bb H2 u.bh _ fun v B3 H3 u3 h3 => q v B3 H3 (u.trans u3) h3
/-! arguments -/
def RNil : List V → Hp → Prop := fun vs _ => vs = []
def RCons (K : PySem.W.Frag) (x : α) (R : List V → Hp → Prop) : List V → Hp → Prop := fun vs B => ∃ v r, vs = v :: r ∧ Rep.at_ K B v x ∧ R r B
theorem a_nil : Pa tNil σ B RNil := fun H e Q q => q [] B H (Up.refl e) rfl
theorem a_cons {x : α} {R : List V → Hp → Prop} {tr : TA} (h : Pe K te σ B x) (hr : ∀ B', Ex B B' → Pa tr σ B' R) : Pa (tCons te tr) σ B (RCons K x R) := fun H e Q q =>
  h H e _ fun v B1 H1 u1 h1 => hr B1 u1.bb H1 u1.bh _ fun vs B2 H2 u2 h2 => q _ B2 H2 (u1.trans u2) ⟨v, vs, rfl, Rep.mono u2.bb h1, h2⟩
theorem a_1 {x : α} (h : Pe K te σ B x) : Pa (tCons te tNil) σ B (RCons K x RNil) := a_cons h fun _ _ => a_nil
theorem a_2 {x : α} {y : β} (h : Pe K ta σ B x) (h2 : Pe K tb σ B y) : Pa (tCons ta (tCons tb tNil)) σ B (RCons K x (RCons K y RNil)) := a_cons h fun _ e => a_1 (h2.mono e)
theorem a_3 {tc : TE} {x : α} {y : β} {z : γ} (h : Pe K ta σ B x) (h2 : Pe K tb σ B y) (h3 : Pe K tc σ B z) : Pa (tCons ta (tCons tb (tCons tc tNil))) σ B (RCons K x (RCons K y (RCons K z RNil))) := a_cons h fun _ e => a_2 (h2.mono e) (h3.mono e)
theorem o_none : Po tNoPart σ B none := fun H e Q q => q B H (Up.refl e)
theorem o_some {i : Int} (h : Pe K te σ B i) : Po (tPart te) σ B (some i) := fun H e Q q => h H e _ fun v B2 H2 u hv => ⟨i, at_int.mp hv, q B2 H2 u⟩
end
end Ob
set_option Elab.async false
set_option linter.all false
set_option maxRecDepth 100000
set_option maxHeartbeats 4000000
/-! Ts: sorting tuples of which some may be empty. -/
namespace Ob
open PySem PySem.Calls PyProof.Rows PySem.W PySem.SeqAt
/-- all are tuples -/
def AllTup (ds : List PyData) : Prop := ∀ d, d ∈ ds → ∃ xs, d = .tuple xs
section
variable {prog : Program} {w : World} {A : Around} {E : Value → Shared → Prop} {s : Shared}
theorem call_tup_lt {Q : Value → Shared → Prop} {l b : Addr} {items items2 : Array Value} {e r : Nat → Bool} (hl : s.heap.IsTuple l items) (hb : s.heap.IsTuple b items2)
    (he : ∀ j (h1 : j < items.size) (h2 : j < items2.size), EqAt A.in1 s items[j] items2[j] (e j)) (hr : ∀ j (h1 : j < items.size) (h2 : j < items2.size), e j = false → RcLt A.in1 s items[j] items2[j] (r j))
    (h : Q (.bool (firstLt e r (decide (items.size < items2.size)) (List.range (min items.size items2.size)))) s) : wpAny (model prog w) A (call (.builtin "tuple.__lt__") [.ref l, .ref b]) Q E s := by
  obtain ⟨⟨cls, dd, data, sl⟩, ho, hc, n, hd⟩ := id hl
  obtain ⟨⟨cls2, dd2, data2, sl2⟩, ho2, hc2, n2, hd2⟩ := id hb
  simp only at hc hd hc2 hd2
  subst hc hd hc2 hd2
  exact call_meets F.slot_tuple_lt ⟨_, ho, rfl⟩ F.entry_tuple_lt (F.args_tuple_lt_2 _ _) (tuple_ltAt l b items items2 n n2 dd dd2 sl sl2 e r) ⟨ho, ho2, he, hr, h⟩
theorem oneLt_tup {xs ys : List PyData} {a b : Value} {as bs : List Addr} {Q : Bool → Shared → Prop} (ra : Reads s.heap a (.tuple xs) as) (rb : Reads s.heap b (.tuple ys) bs) (h : alike (.tuple xs) (.tuple ys) = true)
    (hu : A.units + min (PyData.tuple xs).depth (PyData.tuple ys).depth < cLine) (hq : Q (dataLt (.tuple xs) (.tuple ys)) s) : wpAny (model prog w) A (oneLt' true a b) Q E s := by
  have hal : alikeAll xs ys = true := by simpa [alike] using h
  cases ra with
  | @tuple l o vs n _ as₁ h1 h2 h3 h4 =>
    cases rb with
    | @tuple l' o' vs' n' _ bs₁ k1 k2 k3 k4 =>
      have n1 : vs.size = xs.length := by simpa using ReadsAll.length _ _ _ h4
      have n2 : vs'.size = ys.length := by simpa using ReadsAll.length _ _ _ k4
      rw [dataLt_tuple, ← firstLt_toks xs ys hal, ← n1, ← n2] at hq
      rw [oneLt'_eq]
      simp only [if_true]
      refine wpAny_bind (wpAny_cRoomFor (room_here hu) ?_)
      refine wpAny_bind (wpAny_callSpecialIfBound?_slot (T := "tuple") ⟨_, h1, h2⟩ F.slot_tuple_lt (call_tup_lt (e := pairEq xs ys) (r := fun j => dataLt (xs.getD j .none) (ys.getD j .none)) ⟨_, h1, h2, _, h3⟩ ⟨_, k1, k2, _, k3⟩ (fun j j1 j2 => ?_) (fun j j1 j2 hj => ?_) ?_))
      · have := eqAt_alikeAll xs ys A.in1 s vs.toList vs'.toList _ _ h4 k4 hal (room_in hu) j (by simpa using j1) (by simpa using j2)
        simpa using this
      · have := rcLt_alikeAll xs ys A.in1 s vs.toList vs'.toList _ _ h4 k4 hal (room_in hu) j (by simpa using j1) (by simpa using j2) hj
        simpa using this
      · exact wpAny_truthy_bool hq
/-- the firsts of tuples -/
def FirstIs (h : Heap) (v : Value) (f : Option Value) : Prop := ∃ a o xs n, v = .ref a ∧ h.get? a = some o ∧ o.cls = .type "tuple" ∧ o.data = .seq xs n ∧ xs[0]? = f
theorem firsts_run {M : Model} : ∀ (vs : List Value) (fs : List (Option Value)) {Q : List (Option Value) → Shared → Prop}, EachIs (FirstIs s.heap) vs fs → Q fs s → wpAny M A (vs.mapM firstOfTuple') Q E s
  | _, _, _, .nil, h => by rw [List.mapM_nil]; exact wpAny_pure h
  | v :: vs, f :: fs, Q, .cons ⟨a, o, xs, n, e, ho, hc, hd, hf⟩ t, h => by
    subst e
    rw [List.mapM_cons]
    refine wpAny_bind ?_
    rw [kas_first_eq]
    refine wpAny_bind (Looks.here (show Looks M s.heap (typeOf (.ref a)) o.cls from (Looks.ld ho).andThen .now) ?_)
    rw [hc, if_neg (by first | decide | simp)]
    refine wpAny_bind (listItems_at ho hd (wpAny_pure ?_))
    rw [hf]
    exact wpAny_bind (firsts_run vs fs (Q := fun bs s' => wpAny M A (pure (f :: bs)) Q E s') t (wpAny_pure h))
theorem kind_mixed {M : Model} {vs : List Value} {fs : List (Option Value)} {Q : SortKind → Shared → Prop} (t : EachIs (FirstIs s.heap) vs fs) (hno : ¬ ∀ f ∈ fs, f.isSome = true) (hT : ∀ v ∈ vs, Looks M s.heap (typeOf v) (.type "tuple"))
    (h : Q (if (fs[0]?.bind id).isSome then general' else oneType') s) : wpAny M A (keyKind' vs.toArray) Q E s := by
  rw [kat_kind_eq, List.mapM_toArray, map_eq_pure_bind]
  refine wpAny_bind (wpAny_bind (firsts_run vs fs t (wpAny_pure ?_)))
  have hall : ¬ (fs.toArray.all fun x => x.isSome) = true := by
    simp only [List.all_toArray, List.all_eq_true]
    exact hno
  rw [if_neg hall]
  have e0 : fs.toArray[0]? = fs[0]? := by simp
  rw [e0]
  by_cases hg : (fs[0]?.bind id).isSome = true
  · rw [if_pos hg] at h ⊢
    exact wpAny_pure h
  · rw [if_neg hg] at h ⊢
    rw [oneTypeOnly'_eq, List.mapM_toArray, map_eq_pure_bind]
    refine wpAny_bind (wpAny_bind (wpAny_bind (kas_mapM (r := Value.type "tuple") _ (fun v hv Q' hq => (hT v hv).here hq) (wpAny_pure ?_))))
    have hne : vs ≠ [] := fun e => by
      subst e
      cases t
      exact hno fun f hf => by cases hf
    obtain ⟨v0, vr, rfl⟩ := List.exists_cons_of_ne_nil hne
    have h0 : (List.map (fun _ => Value.type "tuple") (v0 :: vr)).toArray[0]? = some (.type "tuple") := by simp
    have hall2 : ((List.map (fun _ => Value.type "tuple") (v0 :: vr)).toArray.all fun x => x == Value.type "tuple") = true := by
      simp only [List.all_toArray, List.all_map, List.all_eq_true]
      intro _ _
      exact beq_self_eq_true _
    rw [h0]
    simp only [hall2, if_true]
    exact wpAny_pure (wpAny_pure h)
theorem firsts_of {h : Heap} : ∀ {vs : List Value} {ds : List PyData}, EachIs (fun v d => ∃ as, Reads h v d as) vs ds → AllTup ds → ∃ fs, EachIs (FirstIs h) vs fs
  | _, _, .nil, _ => ⟨[], .nil⟩
  | _, _, .cons (b := d) ⟨as, r⟩ t, ht => by
    obtain ⟨fs, h2⟩ := firsts_of t fun d hd => ht d (List.mem_cons_of_mem _ hd)
    obtain ⟨xs, rfl⟩ := ht d List.mem_cons_self
    cases r with
    | @tuple a o vs n _ _ ho hc hd hr => exact ⟨vs[0]? :: fs, .cons ⟨a, o, vs, n, rfl, ho, hc, hd, rfl⟩ h2⟩
theorem firsts_all {h : Heap} : ∀ {vs : List Value} {ds : List PyData} {fs : List (Option Value)}, EachIs (fun v d => ∃ as, Reads h v d as) vs ds → AllTup ds → EachIs (FirstIs h) vs fs → (∀ f ∈ fs, f.isSome = true) → ∀ d, d ∈ ds → ∃ x r, d = .tuple (x :: r)
  | _, _, _, .nil, _, _, _ => fun d hd => by cases hd
  | _, _, _, .cons (b := d) ⟨as, r⟩ t, ht, .cons ⟨a, o, xs, n, e, ho, hc, hd, hf⟩ t2, hall => fun d' hd' => by
    rcases List.mem_cons.mp hd' with rfl | hd'
    · obtain ⟨ys, rfl⟩ := ht _ List.mem_cons_self
      cases r with
      | @tuple a' o' vs n' _ _ ho' hc' hd' hr =>
        cases e
        rw [ho] at ho'
        cases ho'
        rw [hd] at hd'
        cases hd'
        cases ys with
        | cons y ys => exact ⟨y, ys, rfl⟩
        | nil =>
          have h0 : xs.toList.length = 0 := by
            have := ReadsAll.length _ _ _ hr
            simpa using this
          have := hall _ List.mem_cons_self
          rw [← hf, ← Array.getElem?_toList, List.eq_nil_of_length_eq_zero h0] at this
          cases this
    · exact firsts_all t (fun d hd => ht d (List.mem_cons_of_mem _ hd)) t2 (fun f hf => hall f (List.mem_cons_of_mem _ hf)) d' hd'
/-- tuples can be sorted, be some of them empty or not -/
theorem sortsAt_tup {vs : List Value} {ds : List PyData} (e : EachIs (fun v d => ∃ as, Reads s.heap v d as) vs ds) (hal : AllAlike ds) (hk : AllTup ds) (hu : ∀ d, d ∈ ds → A.units + d.depth < cLine) : SortsAt prog w A s (dataKind s.heap ds) vs := by
  obtain ⟨fs, hfs⟩ := firsts_of e hk
  by_cases hall : ∀ f ∈ fs, f.isSome = true
  · exact SortsAt.data e hal (.inl (firsts_all e hk hfs hall)) hu
  · have room : ∀ {d d' : PyData}, d ∈ ds → A.units + min d.depth d'.depth < cLine := fun {d d'} hd => Nat.lt_of_le_of_lt (Nat.add_le_add_left (Nat.min_le_left _ _) _) (hu d hd)
    refine ⟨fun v hv => ?_, if (fs[0]?.bind id).isSome then general' else oneType', ?_, fun h2 E Q hq => kind_mixed hfs hall (fun v hv => ?_) hq⟩
    · obtain ⟨d, hd, as, r⟩ := e.left v hv
      exact ⟨_, dataKind_some hal hd r⟩
    · intro E x y a b Q ha hb hq
      obtain ⟨d, as, hd, ra, rfl⟩ := dataKind_inv ha
      obtain ⟨d', as', hd', rb, rfl⟩ := dataKind_inv hb
      obtain ⟨xs, rfl⟩ := hk d hd
      obtain ⟨ys, rfl⟩ := hk d' hd'
      split
      · show wpAny _ _ (oneLt' false x y) _ _ _
        exact oneLt_alike (f := false) (fun z => by cases z) ra rb (hal _ hd _ hd') (by simp) (room hd) hq
      · show wpAny _ _ (oneLt' true x y) _ _ _
        exact oneLt_tup ra rb (hal _ hd _ hd') (room hd) hq
    · obtain ⟨d, hd, as, r⟩ := e.left v hv
      obtain ⟨xs, rfl⟩ := hk d hd
      exact looks_reads r
theorem sortsAt_any {vs : List Value} {ds : List PyData} (e : EachIs (fun v d => ∃ as, Reads s.heap v d as) vs ds) (hal : AllAlike ds) (hk : Sortable ds ∨ AllTup ds) (hu : ∀ d, d ∈ ds → A.units + d.depth < cLine) : SortsAt prog w A s (dataKind s.heap ds) vs :=
  hk.elim (fun hk => SortsAt.data e hal hk hu) (fun hk => sortsAt_tup e hal hk hu)
end
end Ob
set_option Elab.async false
set_option linter.all false
set_option maxRecDepth 100000
set_option maxHeartbeats 4000000
/-! Ob2: operators and built-ins by data. -/
namespace Ob
open PySem L2
open Evl (Ex)
open PySem.W (Datum Tup DatumOrd)
theorem hu_room {k : Nat} {A : Around} (hr : Room k A) : A.units + 150 < cLine := by have := hr.un; omega
section
variable {X : Cx}
/-! == and != -/
def rEqP (K : PySem.W.Frag) : R2 := fun x y H Q => ∃ d e, Dp K H x d ∧ Dp K H y e ∧ d.plain = true ∧ e.plain = true ∧ d.depth ≤ 64 ∧ Q (.bl (PyData.eqv d e)) H
def rNeP (K : PySem.W.Frag) : R2 := fun x y H Q => ∃ d e, Dp K H x d ∧ Dp K H y e ∧ d.plain = true ∧ e.plain = true ∧ d.depth ≤ 64 ∧ Q (.bl (!PyData.eqv d e)) H
theorem op_eqP (hu : X.A.units + 150 < cLine) : OpR X (compareOp .Eq) (rEqP X.K) := by
  intro pins s σ H x y v u Q I rx ry h
  obtain ⟨d, e, hd, he, pd, pe, hz, q⟩ := h
  obtain ⟨as, r1⟩ := Dp.reads I d x v hd rx
  obtain ⟨bs, r2⟩ := Dp.reads I e y u he ry
  exact PySem.SeqAt.eq_plain r1 r2 pd pe (by have := Nat.min_le_left d.depth e.depth; omega) ⟨.bl _, H, I, rfl, q⟩
theorem op_neP (hu : X.A.units + 150 < cLine) : OpR X (compareOp .NotEq) (rNeP X.K) := by
  intro pins s σ H x y v u Q I rx ry h
  obtain ⟨d, e, hd, he, pd, pe, hz, q⟩ := h
  obtain ⟨as, r1⟩ := Dp.reads I d x v hd rx
  obtain ⟨bs, r2⟩ := Dp.reads I e y u he ry
  exact PySem.SeqAt.ne_plain r1 r2 pd pe (by have := Nat.min_le_left d.depth e.depth; omega) ⟨.bl _, H, I, rfl, q⟩
/-! in, not in: a list or tuple of data; a dict's key; a text in a text -/
def ngb (neg b : Bool) : Bool := if neg then !b else b
def rInP (K : PySem.W.Frag) (neg : Bool) : R2 := fun x y H Q => ∃ d ds, Dp K H x d ∧ (Dp K H y (.list ds) ∨ Dp K H y (.tuple ds)) ∧ PyData.plainAll ds = true ∧ d.plain = true ∧ d.depth ≤ 64 ∧ Q (.bl (ngb neg (ds.any fun z => PyData.eqv z d))) H
def rInDc (neg : Bool) : R2 := fun x y H Q => ∃ a o, y = .ref a ∧ DGet H a x o ∧ Q (.bl (ngb neg o.isSome)) H
def rInSt (neg : Bool) : R2 := fun x y H Q => ∃ i j, x = .str i ∧ y = .str j ∧ Q (.bl (ngb neg (!(Builtin.Str.occurrences j i 0 j.length 1).isEmpty))) H
def rInU (K : PySem.W.Frag) (neg : Bool) : R2 := fun x y H Q => rInP K neg x y H Q ∨ (rInDc neg x y H Q ∨ rInSt neg x y H Q)
theorem op_inP (hu : X.A.units + 150 < cLine) : OpR X (compareOp .In) (rInP X.K false) := by
  intro pins s σ H x y v u Q I rx ry h
  obtain ⟨d, ds, hd, he, pa, pd, hz, q⟩ := h
  obtain ⟨as, r1⟩ := Dp.reads I d x v hd rx
  have hm := Nat.min_le_right (PyData.depthAll ds) d.depth
  rcases he with he | he
  · obtain ⟨bs, r2⟩ := Dp.reads I _ y u he ry
    exact PySem.SeqAt.in_list_data r2 r1 pa pd (by omega) ⟨.bl _, H, I, rfl, q⟩
  · obtain ⟨bs, r2⟩ := Dp.reads I _ y u he ry
    exact PySem.SeqAt.in_tuple_data r2 r1 pa pd (by omega) ⟨.bl _, H, I, rfl, q⟩
theorem op_notInP (hu : X.A.units + 150 < cLine) : OpR X (compareOp .NotIn) (rInP X.K true) := by
  intro pins s σ H x y v u Q I rx ry h
  obtain ⟨d, ds, hd, he, pa, pd, hz, q⟩ := h
  obtain ⟨as, r1⟩ := Dp.reads I d x v hd rx
  have hm := Nat.min_le_right (PyData.depthAll ds) d.depth
  rcases he with he | he
  · obtain ⟨bs, r2⟩ := Dp.reads I _ y u he ry
    exact PySem.SeqAt.notIn_list_data r2 r1 pa pd (by omega) ⟨.bl _, H, I, rfl, q⟩
  · obtain ⟨bs, r2⟩ := Dp.reads I _ y u he ry
    exact PySem.SeqAt.notIn_tuple_data r2 r1 pa pd (by omega) ⟨.bl _, H, I, rfl, q⟩
theorem op_inDc (hu : X.A.units + 150 < cLine) : OpR X (compareOp .In) (rInDc false) := by
  intro pins s σ H x y v u Q I rx ry h
  obtain ⟨a, o, rfl, g, q⟩ := h
  obtain rfl : u = Value.ref a := ry
  exact d_in (by omega) I g rx fun s' I' => ⟨.bl _, H, I', rfl, q⟩
theorem op_notInDc (hu : X.A.units + 150 < cLine) : OpR X (compareOp .NotIn) (rInDc true) := by
  intro pins s σ H x y v u Q I rx ry h
  obtain ⟨a, o, rfl, g, q⟩ := h
  obtain rfl : u = Value.ref a := ry
  exact d_notIn (by omega) I g rx fun s' I' => ⟨.bl _, H, I', rfl, q⟩
theorem op_inU (hu : X.A.units + 150 < cLine) : OpR X (compareOp .In) (rInU X.K false) := (op_inP hu).or ((op_inDc hu).or op_in_str)
theorem op_notInU (hu : X.A.units + 150 < cLine) : OpR X (compareOp .NotIn) (rInU X.K true) := (op_notInP hu).or ((op_notInDc hu).or op_notIn_str)
/-! the order -/
def rLtU (K : PySem.W.Frag) : R2 := fun x y H Q => ∃ (α : Type) (_ : DecidableEq α) (_ : DatumOrd α) (a b : α), Dp K H x (Datum.toD a) ∧ Dp K H y (Datum.toD b) ∧ Datum.depth α ≤ 64 ∧ Q (.bl (DatumOrd.lt a b)) H
def rGtU (K : PySem.W.Frag) : R2 := fun x y H Q => ∃ (α : Type) (_ : DecidableEq α) (_ : DatumOrd α) (a b : α), Dp K H x (Datum.toD a) ∧ Dp K H y (Datum.toD b) ∧ Datum.depth α ≤ 64 ∧ Q (.bl (DatumOrd.lt b a)) H
def rGeU (K : PySem.W.Frag) : R2 := fun x y H Q => ∃ (α : Type) (_ : DecidableEq α) (_ : DatumOrd α) (a b : α), Dp K H x (Datum.toD a) ∧ Dp K H y (Datum.toD b) ∧ Datum.depth α ≤ 64 ∧ Q (.bl (!DatumOrd.lt a b)) H
theorem op_ltU (hu : X.A.units + 150 < cLine) : OpR X (compareOp .Lt) (rLtU X.K) := by
  intro pins s σ H x y v u Q I rx ry h
  obtain ⟨α, i1, i2, a, b, ha, hb, hz, q⟩ := h
  exact PySem.W.lt_datum (Dp.reads I _ x v ha rx) (Dp.reads I _ y u hb ry) (by omega) ⟨.bl _, H, I, rfl, q⟩
theorem op_gtU (hu : X.A.units + 150 < cLine) : OpR X (compareOp .Gt) (rGtU X.K) := by
  intro pins s σ H x y v u Q I rx ry h
  obtain ⟨α, i1, i2, a, b, ha, hb, hz, q⟩ := h
  exact PySem.W.gt_datum (Dp.reads I _ x v ha rx) (Dp.reads I _ y u hb ry) (by omega) ⟨.bl _, H, I, rfl, q⟩
theorem op_geU (hu : X.A.units + 150 < cLine) : OpR X (compareOp .GtE) (rGeU X.K) := by
  intro pins s σ H x y v u Q I rx ry h
  obtain ⟨α, i1, i2, a, b, ha, hb, hz, q⟩ := h
  exact PySem.W.ge_datum (Dp.reads I _ x v ha rx) (Dp.reads I _ y u hb ry) (by omega) ⟨.bl _, H, I, rfl, q⟩
/-! + -/
def rCatL (K : PySem.W.Frag) : R2 := fun x y H Q => ∃ l b xs zs, x = .ref l ∧ y = .ref b ∧ SqL K H l xs ∧ SqL K H b zs ∧ xs.length + zs.length ≤ sizeLine ∧ ∀ p, H p = none → Q (.ref p) (upd H p (.lst (xs ++ zs)))
theorem op_catL : OpR X (binaryOp .Add) (rCatL X.K) := by
  intro pins s σ H x y v u Q I rx ry h
  obtain ⟨l, b, xs, zs, rfl, rfl, hH, hB, hz, q⟩ := h
  cases rx
  cases ry
  obtain ⟨its, r, hl, _⟩ := I.list hH
  obtain ⟨its2, r2, hl2, _⟩ := I.list hB
  obtain ⟨⟨cls, dd, data, sl⟩, n, ho, hc, _, hd⟩ := hl
  obtain ⟨⟨cls2, dd2, data2, sl2⟩, n2, ho2, hc2, _, hd2⟩ := hl2
  simp only at hc hd hc2 hd2
  subst hc hd hc2 hd2
  have e : its.toArray ++ its2.toArray = (its ++ its2).toArray := by simp
  refine concat_meets ⟨_, ho, rfl⟩ ⟨_, ho2, rfl⟩ noFill_list_add seq_list_add PySem.F.slot_list_add PySem.F.entry_list_add (PySem.F.args_list_add_2 _ _) (PyProof.Rows.list_addW l b its.toArray its2.toArray n n2 dd dd2 sl sl2 (by rw [List.size_toArray, List.size_toArray, ← r.length, ← r2.length]; exact hz)) ⟨ho, ho2, ?_⟩
  rw [e]
  exact ⟨.ref _, _, I.lnew (t' := s.toks) (r.append r2) (by rw [List.length_append]; exact hz), rfl, q _ I.fresh⟩
def rStAdd : R2 := fun x y H Q => ∃ i j, x = .str i ∧ y = .str j ∧ i.length + j.length ≤ sizeLine ∧ Q (.str (i ++ j)) H
def rAddU (K : PySem.W.Frag) : R2 := fun x y H Q => (rI0 fun i j => .int (i + j)) x y H Q ∨ (rStAdd x y H Q ∨ (rCatL K x y H Q ∨ rCatA K x y H Q))
theorem op_addU : OpR X (binaryOp .Add) (rAddU X.K) := op_add.or (OpR.or (r := rStAdd) op_add_str (op_catL.or op_catA))
/-! * -/
def rMulU : R2 := fun x y H Q => (rI CMul fun i j => .int (i * j)) x y H Q ∨ rRep x y H Q
theorem op_mulU : OpR X (binaryOp .Mult) rMulU := op_mul.or op_rep
/-! len -/
def rLenU (K : PySem.W.Frag) : List V → Hp → VK → Prop := fun xs H Q => (∃ x n, xs = [x] ∧ LenV K x H n ∧ Q (.int n) H) ∨ ∃ a kvs, xs = [V.ref a] ∧ H a = some (.dK kvs) ∧ Q (.int kvs.length) H
theorem call_lenU : CallR X (.builtin "len") (rLenU X.K) := CallR.or call_len call_lenD
/-! sorted -/
theorem vals_each : ∀ {xs : List V} {us : List Value}, Vals xs us → ∀ {α : Type} [Rep α] {K : PySem.W.Frag} {H : Hp} {ys : List α}, AtAll K H xs ys → PySem.W.EachIs (fun u y => ∃ x, RelV x u ∧ Rep.at_ K H x y) us ys
  | _, _, .nil, _, _, _, _, _, h => by cases h; exact .nil
  | _, _, .cons r t, _, _, _, _, _, h => by
    cases h with
    | cons a b => exact .cons ⟨_, r, a⟩ (vals_each t b)
theorem each_vals : ∀ {α : Type} [Rep α] {K : PySem.W.Frag} {H : Hp} {us : List Value} {ys : List α}, PySem.W.EachIs (fun u y => ∃ x, RelV x u ∧ Rep.at_ K H x y) us ys → ∃ xs, Vals xs us ∧ AtAll K H xs ys
  | _, _, _, _, _, _, .nil => ⟨[], .nil, .nil⟩
  | _, _, _, _, _, _, .cons ⟨x, r, a⟩ t => by
    obtain ⟨xs, h1, h2⟩ := each_vals t
    exact ⟨x :: xs, .cons r h1, .cons a h2⟩
/-- in ascending order, equal ones as they stood -/
def sortD {α : Type} [DecidableEq α] [DatumOrd α] (xs : List α) : List α := xs.mergeSort fun a b => !DatumOrd.lt b a
theorem dataLe_lt {α : Type} [DecidableEq α] [DatumOrd α] : PySem.W.dataLe (β := α) false Datum.toD = fun a b => !DatumOrd.lt b a := by
  funext a b
  show _ = !DatumOrd.lt b a
  rw [← DatumOrd.lt_eq b a]
  rfl
/-- the collected items of a tuple -/
theorem collect_tup {prog : Program} {w : World} {A : Around} {E : Value → Shared → Prop} {s : Shared} {l : Addr} {vs : List Value} {Q : List Value → Shared → Prop} (hl : s.heap.IsTuple l vs.toArray)
    (h : Q vs { s with heap := (s.heap.push (PyProof.Rows.seqObj "list" #[] 0)).update s.heap.objs.size (Obj.mapSeq (· ++ vs.toArray)) }) (hsz : vs.length ≤ sizeLine) :
    wpAny (model prog w) A (collect (.ref l)) Q E s := by
  obtain ⟨o, ho, hc, n, hd⟩ := id hl
  unfold collect
  refine wpAny_bind (wpAny_runValue (codeAny_builtin PyProof.Rows.entry_proto_collect' ?_))
  show wpAny _ _ (do again (.builtin "list.__iadd__" ⟨[← newList [], .ref l], []⟩)) _ _ s
  refine wpAny_bind (wpAny_newList (wpAny_pure ⟨Code.quiet_builtin _ (by decide +kernel), codeAny_builtin PyProof.Rows.entry_list_iadd' ?_⟩))
  show wpAny _ _ (Builtin.List.listExtendWith (.ref s.heap.objs.size) (.ref l) (.ref s.heap.objs.size)) _ _ { s with heap := s.heap.push (PyProof.Rows.seqObj "list" #[] 0) }
  unfold Builtin.List.listExtendWith
  have ho' : (s.heap.push (PyProof.Rows.seqObj "list" #[] 0)).get? l = some o := Heap.get?_push_of_some _ ho
  refine wpAny_bind (wpAny_typeOf (T := "tuple") ⟨o, ho', hc⟩ ?_)
  have ht : (Value.type "tuple" == Value.type "tuple") = true := by rfl
  rw [if_pos (by rw [ht]; simp)]
  refine wpAny_bind (PyProof.Rows.listItems_at ho' hd ?_)
  refine wpAny_bind (PyProof.Rows.listItems_at (xs := #[]) (n := 0) (Heap.get?_push_size _ rfl) rfl ?_)
  rw [if_neg (by simp)]
  refine wpAny_bind (PyProof.Rows.listUpdate_at (xs := #[]) (n := 0) (Heap.get?_push_size _ rfl) rfl ?_ (Nat.zero_le _) (by show (#[] ++ vs.toArray).size ≤ sizeLine + 1; simp only [Array.size_append, List.size_toArray, List.length_nil]; omega))
  refine wpAny_pure ?_
  show wpAny (model prog w) A (do
      let o ← load s.heap.objs.size
      match o.data with
      | .seq xs _ => pure xs.toList
      | _ => unsupported "internal:collect") Q E { s with heap := (s.heap.push (PyProof.Rows.seqObj "list" #[] 0)).update s.heap.objs.size (Obj.mapSeq (· ++ vs.toArray)) }
  refine wpAny_bind (wpAny_load (PyProof.Rows.get?_update_seq (Heap.get?_push_size _ rfl) _) ?_)
  show wpAny _ _ (pure ((#[] : Array Value) ++ vs.toArray).toList) Q E _
  rw [show ((#[] : Array Value) ++ vs.toArray).toList = vs by simp]
  exact wpAny_pure h
section
open PySem.W PyProof.Rows
theorem sorted_of_sortT {prog : Program} {w : World} {A : Around} {E : Value → Shared → Prop} {s : Shared} {l : Addr} {vs : List Value} {Q : Value → Shared → Prop} (hl : s.heap.IsTuple l vs.toArray) (hL : vs.length ≤ sizeLine)
    (body : ∀ E' : Value → Shared → Prop, wpAny (model prog w) A.in1.in1 (Builtin.«list.sort» ⟨[.ref (s.heap.objs.size + 1)], []⟩) (fun f s' => f = .done (.ret .none) ∧ Q (.ref (s.heap.objs.size + 1)) s') E' { s with heap := copyHeap s.heap vs }) :
    wpAny (model prog w) A (call (.builtin "sorted") [.ref l]) Q E s := by
  refine Calls.call_function_entry kind_sorted plain_sorted entry_sorted (args_sorted1 _) ?_
  unfold Builtin.«sorted»
  refine wpAny_bind (m := checkCount "sorted" 1 1 _) (wpAny_pure ?_)
  refine wpAny_bind (collect_tup hl ?_ hL)
  refine wpAny_bind (wpAny_newList ?_ hL)
  have hsz : ((s.heap.push (seqObj "list" #[] 0)).update s.heap.objs.size (Obj.mapSeq (· ++ vs.toArray))).objs.size = s.heap.objs.size + 1 := by
    rw [Heap.size_update, size_push']
  show wpAny _ _ _ _ _ { s with heap := copyHeap s.heap vs }
  rw [hsz]
  refine wpAny_bind (wpAny_holding (wpAny_call_entry slot_list_sort ⟨_, copyHeap_at s.heap vs, rfl⟩ entry_list_sort ?body (args_list_sort _)))
  case body =>
    show wpAny (model prog w) A.in1.in1 (Builtin.«list.sort» ⟨[.ref (s.heap.objs.size + 1)], []⟩) _ _ _
    refine wpAny_mono (body _) (fun f s' hf => ?_) fun _ _ e => e
    obtain ⟨rfl, hq⟩ := hf
    exact ⟨_, rfl, wpAny_pure ⟨_, rfl, hq⟩⟩
theorem sorted_dataL {prog : Program} {w : World} {A : Around} {E : Value → Shared → Prop} {s : Shared} {β : Type} {vs : List Value} {bs : List β} {enc : β → PyData} {R : Value → β → Prop} {l : Addr} {Q : Value → Shared → Prop}
    (hl : s.heap.IsList l vs.toArray) (e : EachIs R vs bs) (er : EachIs (fun v b => ∃ as, Reads s.heap v (enc b) as) vs bs) (hal : AllAlike (bs.map enc)) (hk : Sortable (bs.map enc) ∨ AllTup (bs.map enc)) (hL : bs.length ≤ sizeLine)
    (hu : ∀ b, b ∈ bs → A.units + 2 + (enc b).depth < cLine) (h : ∀ out, out.length = bs.length → EachIs R out (bs.mergeSort (dataLe false enc)) → Q (.ref (s.heap.objs.size + 1)) { s with heap := sortedAll s.heap vs (List.toArray out) }) :
    wpAny (model prog w) A (call (.builtin "sorted") [.ref l]) Q E s := by
  have er' : EachIs (fun v b => ∃ as, Reads (sortingHeap (copyHeap s.heap vs) (s.heap.objs.size + 1) vs) v (enc b) as) vs bs := er.mono fun _ _ ⟨as, r⟩ => ⟨as, PyProof.Rows.Reads.keeps (fun _ _ => sorting_copy_old) r⟩
  exact sorted_vals hl (sortsAt_any (s := { s with heap := sortingHeap (copyHeap s.heap vs) (s.heap.objs.size + 1) vs }) (each_map (R := fun v d => ∃ as, Reads (sortingHeap (copyHeap s.heap vs) (s.heap.objs.size + 1) vs) v d as) enc er') hal hk (bound_map hu)) (by rw [e.length]; exact hL)
    (h _ (by rw [sortVals_length false rfl]; exact e.length) (sortVals_data false e er' hal))
theorem sorted_dataT {prog : Program} {w : World} {A : Around} {E : Value → Shared → Prop} {s : Shared} {β : Type} {vs : List Value} {bs : List β} {enc : β → PyData} {R : Value → β → Prop} {l : Addr} {Q : Value → Shared → Prop}
    (hl : s.heap.IsTuple l vs.toArray) (e : EachIs R vs bs) (er : EachIs (fun v b => ∃ as, Reads s.heap v (enc b) as) vs bs) (hal : AllAlike (bs.map enc)) (hk : Sortable (bs.map enc) ∨ AllTup (bs.map enc)) (hL : bs.length ≤ sizeLine)
    (hu : ∀ b, b ∈ bs → A.units + 2 + (enc b).depth < cLine) (h : ∀ out, out.length = bs.length → EachIs R out (bs.mergeSort (dataLe false enc)) → Q (.ref (s.heap.objs.size + 1)) { s with heap := sortedAll s.heap vs (List.toArray out) }) :
    wpAny (model prog w) A (call (.builtin "sorted") [.ref l]) Q E s := by
  have er' : EachIs (fun v b => ∃ as, Reads (sortingHeap (copyHeap s.heap vs) (s.heap.objs.size + 1) vs) v (enc b) as) vs bs := er.mono fun _ _ ⟨as, r⟩ => ⟨as, PyProof.Rows.Reads.keeps (fun _ _ => sorting_copy_old) r⟩
  have hL' : vs.length ≤ sizeLine := by rw [e.length]; exact hL
  exact sorted_of_sortT hl hL' fun _ => list_sort_vals (s := { s with heap := copyHeap s.heap vs }) (copyHeap_at s.heap vs) (sortsAt_any (s := { s with heap := sortingHeap (copyHeap s.heap vs) (s.heap.objs.size + 1) vs }) (each_map (R := fun v d => ∃ as, Reads (sortingHeap (copyHeap s.heap vs) (s.heap.objs.size + 1) vs) v d as) enc er') hal hk (bound_map hu)) hL'
    ⟨rfl, h _ (by rw [sortVals_length false rfl]; exact e.length) (sortVals_data false e er' hal)⟩
end
def rSortD (K : PySem.W.Frag) : List V → Hp → VK → Prop := fun vs H Q => ∃ (α : Type) (_ : DecidableEq α) (_ : DatumOrd α) (a : Addr) (xs : List V) (bs : List α) (B : Hp), vs = [V.ref a] ∧ (SqL K H a xs ∨ SqT K H a xs) ∧ Ex B H ∧ AtAll K B xs bs ∧ (PySem.W.Sortable (bs.map (Datum.toD (α := α))) ∨ AllTup (bs.map (Datum.toD (α := α)))) ∧ Datum.depth α ≤ 64 ∧
  ∀ ys p, AtAll K B ys (sortD bs) → H p = none → Q (.ref p) (upd H p (.lst ys))
theorem cr_sortD (hu : X.A.units + 150 < cLine) : CallR X (.builtin "sorted") (rSortD X.K) := by
  intro pins s σ H vs us Q I r h
  obtain ⟨α, i1, i2, a, xs, bs, B, rfl, hs, eB, hb, hk, hz, q⟩ := h
  have key : ∀ its : List Value, Vals xs its → xs.length ≤ sizeLine → (∀ Q', (∀ out : List Value, out.length = bs.length → PySem.W.EachIs (fun u y => ∃ x, RelV x u ∧ Rep.at_ X.K B x y) out (bs.mergeSort (PySem.W.dataLe false Datum.toD)) → Q' (.ref (s.heap.objs.size + 1)) { s with heap := PyProof.Rows.sortedAll s.heap its (List.toArray out) }) →
      wpAny (model X.prog X.w) X.A (call (.builtin "sorted") [.ref a]) Q' X.xe s) → wpAny (model X.prog X.w) X.A (call (.builtin "sorted") [.ref a]) (EP X pins σ Q) X.xe s := by
    intro its rv hsz k
    refine k _ fun out ho ho2 => ?_
    rw [dataLe_lt] at ho2
    obtain ⟨ys, h1, h2⟩ := each_vals ho2
    obtain ⟨ep, he'⟩ := PyProof.Rows.sortedAll_at s.heap its out.toArray
    have hlen : ys.length ≤ sizeLine := by rw [h1.length, ho, ← hb.length]; exact hsz
    exact ⟨.ref _, upd H (s.heap.objs.size + 1) (.lst ys), I.laid (t' := s.toks) (fun _ _ => PyProof.Rows.sortedAll_old) (Nat.le_succ _) ⟨hlen, out, ep, h1, he'⟩, rfl, q ys _ h2 (I.hok.fresh (Nat.le_succ _))⟩
  rw [Vals.ref1 r]
  rcases hs with hs | hs
  · obtain ⟨its, rv, hl, hsz⟩ := I.list hs
    have he := vals_each rv hb
    have hbl : bs.length ≤ sizeLine := by rw [← hb.length]; exact hsz
    exact key its rv hsz fun Q' k => sorted_dataL (enc := Datum.toD) hl.isList he (he.mono fun u y ⟨x, rx, hx⟩ => Dp.reads I _ x u (dp_mono eB _ _ hx) rx) (PySem.W.AllAlike.of fun b b' => DatumOrd.alike b b') hk hbl (fun b _ => by have := Datum.depth_le b; omega) k
  · obtain ⟨its, rv, hl, hsz⟩ := I.tuple hs
    have he := vals_each rv hb
    have hbl : bs.length ≤ sizeLine := by rw [← hb.length]; exact hsz
    exact key its rv hsz fun Q' k => sorted_dataT (enc := Datum.toD) hl he (he.mono fun u y ⟨x, rx, hx⟩ => Dp.reads I _ x u (dp_mono eB _ _ hx) rx) (PySem.W.AllAlike.of fun b b' => DatumOrd.alike b b') hk hbl (fun b _ => by have := Datum.depth_le b; omega) k
end
end Ob
set_option Elab.async false
set_option linter.all false
set_option maxRecDepth 100000
set_option maxHeartbeats 4000000
/-! Ob3: walks over data, comprehensions, loops, statements. -/
namespace Ob
open PySem L2
open Evl (Ex)
open PySem.W (Datum Tup DatumOrd)
/-! ### a list or a tuple walked -/
def iSeq (K : PySem.W.Frag) (tl : TE) : TI := fun σ H R => tl σ H fun x H1 => ∃ a, x = .ref a ∧ (((∃ xs, SqL K H1 a xs) ∧ R (Itl K a) H1) ∨ ((∃ xs, SqT K H1 a xs) ∧ R (Itt K a) H1))
section
variable {X : Cx} {tg : Expr}
theorem pi_seq {l : Expr} {tl : TE} (hl : PE X l tl) : PI X tg l (iSeq X.K tl) := by
  refine ⟨fun pins s σ H R I h => ?_⟩
  refine thn (hl.run pins s σ H _ I h) fun v s1 ⟨x, H1, I1, r1, q1⟩ => ?_
  obtain ⟨a, e, q⟩ := q1
  subst e
  cases r1
  rcases q with ⟨⟨xs, hq⟩, q⟩ | ⟨⟨xs, hq⟩, q⟩
  · obtain ⟨its, rv, p, hz⟩ := I1.list hq
    refine wpAny_pyIter_list p.isList ?_
    refine ⟨s1.heap.objs.size, [s1.heap.objs.size], _, _, H1, rfl, I1.kept (t' := s1.toks) fun b o e => Heap.get?_push_of_some _ e, turn_list a _, ⟨_, Heap.get?_push_size _ rfl, rfl, rfl⟩, fun b hb => ?_, q⟩
    have e : b = s1.heap.objs.size := by simpa using hb
    subst e
    exact I1.fpOk (Nat.le_refl _) (I1.hok.fresh (Nat.le_refl _))
  · obtain ⟨its, rv, p, hz⟩ := I1.tuple hq
    refine wpAny_pyIter_tuple (show s1.heap.IsTuple a its.toArray from p) ?_
    refine ⟨s1.heap.objs.size, [s1.heap.objs.size], _, _, H1, rfl, I1.kept (t' := s1.toks) fun b o e => Heap.get?_push_of_some _ e, turn_tuple a _, ⟨_, Heap.get?_push_size _ rfl, rfl, rfl⟩, fun b hb => ?_, q⟩
    have e : b = s1.heap.objs.size := by simpa using hb
    subst e
    exact I1.fpOk (Nat.le_refl _) (I1.hok.fresh (Nat.le_refl _))
end
/-! ### walks over data -/
section
variable (K : PySem.W.Frag) {α : Type} [Rep α]
/-- wi walks the data xs; what it gives may be a new object -/
def ItD (wi : TI) (σ : L2.St) (B : Hp) (xs : List α) : Prop := ∀ H, Ex B H → ∀ R : It → Hp → Prop,
  (∀ J B1 H1 G Y, Up B H B1 H1 → Walk J xs.length G Y → (∀ H', Ex B1 H' → G H') →
    (∀ i x Hx H', i < xs.length → Ex B1 Hx → Y i Hx x H' → ∃ d, xs[i]? = some d ∧ ∀ B', Ex B1 B' → Ex B' Hx → ∃ B2, Up B' Hx B2 H' ∧ Rep.at_ K B2 x d) → R J H1) → wi σ H R
end
section
variable {K : PySem.W.Frag} {σ : L2.St} {B B' H : Hp} {te ta tb : TE} {tt tu : TT}
variable {α β γ : Type} [DecidableEq α] [Datum α] [DecidableEq β] [Datum β]
theorem it_seqL {xs : List α} (h : Pe K te σ B xs) : ItD K (iSeq K te) σ B xs := fun H e R q => h H e _ fun v B1 H1 u hv => by
  obtain ⟨a, vs, rfl, hs, hx⟩ := at_list.mp hv
  refine ⟨a, rfl, .inl ⟨⟨vs, Evl.ex_l u.bh hs⟩, ?_⟩⟩
  refine q (Itl K a) B1 H1 (fun H => SqL K H a vs) (YAt vs) u ?_ (fun H' e' => Evl.ex_l e' hs) fun i x Hx H' hi ex y => ?_
  · rw [← hx.length]
    exact walk_list
  · obtain ⟨y1, y2⟩ := y
    obtain ⟨d, hd, hxd⟩ := AtAll.get' hx y2
    refine ⟨d, hd, fun B' b1 b2 => ⟨B', ?_, Rep.mono b1 hxd⟩⟩
    rw [y1]
    exact Up.refl b2
theorem it_seqT {xs : List α} (h : Pe K te σ B (Tup.mk xs)) : ItD K (iSeq K te) σ B xs := fun H e R q => h H e _ fun v B1 H1 u hv => by
  obtain ⟨a, vs, rfl, hs, hx⟩ := at_tup.mp hv
  refine ⟨a, rfl, .inr ⟨⟨vs, ex_tx u.bh hs⟩, ?_⟩⟩
  refine q (Itt K a) B1 H1 (fun H => SqT K H a vs) (YAt vs) u ?_ (fun H' e' => ex_tx e' hs) fun i x Hx H' hi ex y => ?_
  · have e : xs.length = vs.length := hx.length.symm
    rw [e]
    exact walk_tup
  · obtain ⟨y1, y2⟩ := y
    obtain ⟨d, hd, hxd⟩ := AtAll.get' hx y2
    refine ⟨d, hd, fun B' b1 b2 => ⟨B', ?_, Rep.mono b1 hxd⟩⟩
    rw [y1]
    exact Up.refl b2
theorem walk_zipT {K : PySem.W.Frag} {a b : Addr} {xs ys : List V} {n : Nat} (hn : n = min xs.length ys.length) : Walk (RZ.ItzT K a b) n (fun H => SqT K H a xs ∧ SqT K H b ys) (YPair (fun i => xs[i]?) (fun i => ys[i]?)) := by
  subst hn
  refine ⟨fun i _ hi q => ?_, fun _ q => ⟨xs, ys, q.1, q.2, by omega⟩, fun i H v H' _ q y => ?_⟩
  · have h1 : i < xs.length := by omega
    have h2 : i < ys.length := by omega
    exact ⟨xs, ys, xs[i], ys[i], q.1, q.2, by simp [h1], by simp [h2]⟩
  · obtain ⟨T, x, z, h1, h2, h3, h4, h5⟩ := y
    exact ⟨T, x, z, h1, h2, h3, h4 xs q.1, h5 ys q.2⟩
def rangeI (lo : Int) (n : Nat) : List Int := (List.range n).map fun (i : Nat) => lo + (i : Int)
theorem it_rng1 {n : Int} (h : Pe K te σ B n) (hn : n < 2 ^ 62) (hn0 : -(2 ^ 62) ≤ n) : ItD K (iRng1 (tCons te tNil)) σ B (rangeI 0 n.toNat) := fun H e R q => h H e _ fun v B1 H1 u hv => by
  cases at_int.mp hv
  refine ⟨n, rfl, hn0, hn, ?_⟩
  refine q (Itr 0 n.toNat) B1 H1 (fun _ => True) (YFn fun i => .int (0 + i)) u ?_ (fun _ _ => trivial) fun i x Hx H' hi ex y => ?_
  · have e : (rangeI 0 n.toNat).length = n.toNat := by simp [rangeI]
    rw [e]
    exact walk_range
  · obtain ⟨y1, y2⟩ := y
    have hi' : i < n.toNat := by simpa [rangeI] using hi
    refine ⟨0 + (i : Int), by simp [rangeI, hi'], fun B' b1 b2 => ⟨B', ?_, by rw [y2]; exact at_int.mpr rfl⟩⟩
    rw [y1]
    exact Up.refl b2
theorem it_rng2 {lo n : Int} (h0 : Pe K ta σ B lo) (h : Pe K tb σ B n) (hn : -(2 ^ 62) ≤ lo ∧ lo < 2 ^ 62 ∧ -(2 ^ 62) ≤ n ∧ n < 2 ^ 62) : ItD K (iRng2 (tCons ta (tCons tb tNil))) σ B (rangeI lo (n - lo).toNat) := fun H e R q => h0.both h e fun v w B1 H1 u hv hw => by
  cases at_int.mp hv
  cases at_int.mp hw
  refine ⟨lo, n, rfl, hn, ?_⟩
  refine q (Itr lo (n - lo).toNat) B1 H1 (fun _ => True) (YFn fun i => .int (lo + i)) u ?_ (fun _ _ => trivial) fun i x Hx H' hi ex y => ?_
  · have e : (rangeI lo (n - lo).toNat).length = (n - lo).toNat := by simp [rangeI]
    rw [e]
    exact walk_range
  · obtain ⟨y1, y2⟩ := y
    have hi' : i < (n - lo).toNat := by simpa [rangeI] using hi
    refine ⟨lo + (i : Int), by simp [rangeI, hi'], fun B' b1 b2 => ⟨B', ?_, by rw [y2]; exact at_int.mpr rfl⟩⟩
    rw [y1]
    exact Up.refl b2
/-! ### one turn of a comprehension: the slots behind its target, its test, its item -/
def TurnD (K : PySem.W.Frag) {β : Type} [Rep β] (g : TG) (tt : TT) (te : TE) (vs : List Nat) (σ : L2.St) (B : Hp) (v : V) (b : Bool) (r : β) : Prop :=
  ∃ σ2, (∀ H (Q : L2.St → Hp → Prop), Ex B H → Q σ2 H → g v (wipe σ vs) H Q) ∧ wipe σ2 vs = wipe σ vs ∧ Pt tt σ2 B b ∧ (b = true → Pe K te σ2 B r)
theorem mem_of_get {xs : List γ} {i : Nat} {x : γ} (h : xs[i]? = some x) : x ∈ xs := List.mem_of_getElem? h
theorem take_snoc {xs : List γ} {i : Nat} {x : γ} (h : xs[i]? = some x) : xs.take (i + 1) = xs.take i ++ [x] := by
  rw [List.take_add_one, h]
  rfl
theorem e_lc [Rep γ] {wi : TI} {g : TG} {vs : List Nat} {xs : List γ} (f : γ → Bool) (y : γ → β) (h : ItD K wi σ B xs) (hz : xs.length ≤ 1000000)
    (ht : ∀ x ∈ xs, ∀ v B1, Ex B B1 → Rep.at_ K B1 v x → TurnD K g tt te vs σ B1 v (f x) (y x)) : Pe K (tLc wi g tt te vs) σ B ((xs.filter f).map y) := fun H e Q q =>
  h H e _ fun J B1 H1 G Y up W hG hY D hD => by
    have hDH : H D = none := Evl.fresh_back up.hh hD
    have hDB : B1 D = none := Evl.fresh_back up.bh hD
    refine lc_it W (fun i H' => ∃ Bi ws, Ex B1 Bi ∧ (∀ a, Bi a ≠ none → B1 a ≠ none ∨ H1 a = none) ∧ Bi D = none ∧ Ex Bi H' ∧ Ex H1 H' ∧ H' D = some (.lst ws) ∧ AtAll K Bi ws (((xs.take i).filter f).map y))
      ⟨B1, [], Ex.refl _, fun _ h => .inl h, hDB, ex_upd up.bh hDB, Ex.new hD, upd_same, .nil⟩ (fun i H' _ p => ?_) (fun i x Hx H' hi p hy => ?_) (fun H' p => ?_)
    · obtain ⟨Bi, ws, b1, _, _, b2, _⟩ := p
      exact hG H' (b1.trans b2)
    · obtain ⟨Bi, ws, b1, nw, bD, b2, hh, eD, hA⟩ := p
      obtain ⟨d, hd, hB⟩ := hY i x Hx H' hi (b1.trans b2) hy
      obtain ⟨B2, u2, hx⟩ := hB Bi b1 b2
      obtain ⟨o1, o2⟩ := u2.out bD eD
      obtain ⟨σ2, hg, hw, htt, hte⟩ := ht d (mem_of_get hd) x B2 ((up.bb.trans b1).trans u2.bb) hx
      refine hg H' _ u2.bh ⟨hw, htt H' u2.bh _ fun B3 H3 u3 => ?_⟩
      obtain ⟨o3, o4⟩ := u3.out o1 o2
      have nw3 : ∀ a, B3 a ≠ none → B1 a ≠ none ∨ H1 a = none := fun a ha => by
        rcases (u2.trans u3).nw a ha with z | z
        · exact nw a z
        · exact .inr (Evl.fresh_back hh z)
      cases hf : f d with
      | true =>
        rw [hf] at hte
        refine ((hte rfl).mono u3.bb) H3 u3.bh _ fun w B4 H4 u4 hw4 => ⟨ws, (u4.out o3 o4).2, ?_, B4, ws ++ [w], ?_, ?_, (u4.out o3 o4).1, ex_upd u4.bh (u4.out o3 o4).1, ?_, upd_same, ?_⟩
        · have := hA.length
          rw [List.length_map] at this
          have h2 := List.length_filter_le f (xs.take i)
          have h3 := List.length_take_le i xs
          have : (sizeLine : Nat) = 16777216 := sizeLine_eq
          omega
        · exact ((b1.trans u2.bb).trans u3.bb).trans u4.bb
        · intro a ha
          rcases ((u2.trans u3).trans u4).nw a ha with z | z
          · exact nw a z
          · exact .inr (Evl.fresh_back hh z)
        · exact Ex.mut (((hh.trans u2.hh).trans u3.hh).trans u4.hh) hD
        · rw [take_snoc hd, List.filter_append, List.map_append, List.filter_cons, if_pos hf]
          exact AtAll.snoc (hA.mono ((u2.bb.trans u3.bb).trans u4.bb)) hw4
      | false =>
        refine ⟨B3, ws, (b1.trans u2.bb).trans u3.bb, nw3, o3, u3.bh, (hh.trans u2.hh).trans u3.hh, o4, ?_⟩
        rw [take_snoc hd, List.filter_append, List.map_append, List.filter_cons, if_neg (by rw [hf]; decide)]
        show AtAll K B3 ws (_ ++ [])
        rw [List.append_nil]
        exact hA.mono (u2.bb.trans u3.bb)
    · obtain ⟨Bi, ws, b1, nw, bD, b2, hh, eD, hA⟩ := p
      rw [List.take_length] at hA
      refine q (.ref D) (upd Bi D (.lst ws)) H' ⟨(up.bb.trans b1).trans (Ex.new bD), ex_in b2 eD, up.hh.trans hh, fun a ha => ?_⟩ (at_list.mpr ⟨D, ws, rfl, Evl.sq_of upd_same, hA.mono (Ex.new bD)⟩)
      by_cases hDa : a = D
      · exact .inr (hDa ▸ hDH)
      · rw [upd_ne hDa] at ha
        rcases nw a ha with z | z
        · exact up.nw a z
        · exact .inr (Evl.fresh_back up.hh z)
/-- the target a name -/
theorem turn_name [Rep γ] {σ2 : L2.St} {vs : List Nat} {v : V} {b : Bool} {r : γ} {j : Nat} (e : (wipe σ vs).set j (some v) = σ2) (hw : wipe σ2 vs = wipe σ vs) (ht : Pt tt σ2 B b) (he : b = true → Pe K te σ2 B r) : TurnD K (gName j) tt te vs σ B v b r :=
  ⟨σ2, fun H Q _ q => by rw [← e] at q; exact q, hw, ht, he⟩
end
end Ob
set_option Elab.async false
set_option linter.all false
set_option maxRecDepth 100000
set_option maxHeartbeats 4000000
/-! Ob4: expressions by type; statements; loops. -/
namespace Ob
open PySem L2
open Evl (Ex)
open PySem.W (Datum Tup DatumOrd)
section
variable {K : PySem.W.Frag} {σ : L2.St} {B B' H : Hp} {te ta tb : TE} {tt tu : TT}
variable {α β γ : Type} [DecidableEq α] [Datum α] [DecidableEq β] [Datum β]
/-! comparisons -/
theorem e_eq {x y : α} (ha : Pe K ta σ B x) (hb : Pe K tb σ B y) (hz : Datum.depth α ≤ 64 := by decide) : Pe K (tOp (rEqP K) ta tb) σ B (decide (x = y)) :=
  e_op ha hb (rd_val (.bl (decide (x = y))) (fun _ => at_bl.mpr rfl) fun B H v w e h1 h2 Q q => ⟨_, _, dp_mono e _ _ h1, dp_mono e _ _ h2, Datum.plain x, Datum.plain y, Nat.le_trans (Datum.depth_le x) hz, by rw [Datum.eqv]; exact q⟩)
theorem e_ne {x y : α} (ha : Pe K ta σ B x) (hb : Pe K tb σ B y) (hz : Datum.depth α ≤ 64 := by decide) : Pe K (tOp (rNeP K) ta tb) σ B (!decide (x = y)) :=
  e_op ha hb (rd_val (.bl (!decide (x = y))) (fun _ => at_bl.mpr rfl) fun B H v w e h1 h2 Q q => ⟨_, _, dp_mono e _ _ h1, dp_mono e _ _ h2, Datum.plain x, Datum.plain y, Nat.le_trans (Datum.depth_le x) hz, by rw [Datum.eqv]; exact q⟩)
theorem e_inL {x : α} {ys : List α} (ha : Pe K ta σ B x) (hb : Pe K tb σ B ys) (neg : Bool) (hz : Datum.depth α ≤ 64 := by decide) : Pe K (tOp (rInU K neg) ta tb) σ B (ngb neg (decide (x ∈ ys))) :=
  e_op ha hb (rd_val (.bl _) (fun _ => at_bl.mpr rfl) fun B H v w e h1 h2 Q q => .inl ⟨_, _, dp_mono e _ _ h1, .inl (dp_mono e _ _ h2), PySem.W.plainAll_map ys, Datum.plain x, Nat.le_trans (Datum.depth_le x) hz, by rw [PySem.W.any_datum]; exact q⟩)
theorem e_inT {x : α} {ys : List α} (ha : Pe K ta σ B x) (hb : Pe K tb σ B (Tup.mk ys)) (neg : Bool) (hz : Datum.depth α ≤ 64 := by decide) : Pe K (tOp (rInU K neg) ta tb) σ B (ngb neg (decide (x ∈ ys))) :=
  e_op ha hb (rd_val (.bl _) (fun _ => at_bl.mpr rfl) fun B H v w e h1 h2 Q q => .inl ⟨_, _, dp_mono e _ _ h1, .inr (dp_mono e _ _ h2), PySem.W.plainAll_map ys, Datum.plain x, Nat.le_trans (Datum.depth_le x) hz, by rw [PySem.W.any_datum]; exact q⟩)
theorem e_lt {α : Type} [DecidableEq α] [DatumOrd α] {x y : α} (ha : Pe K ta σ B x) (hb : Pe K tb σ B y) (hz : Datum.depth α ≤ 64 := by decide) : Pe K (tOp (rLtU K) ta tb) σ B (DatumOrd.lt x y) :=
  e_op ha hb (rd_val (.bl _) (fun _ => at_bl.mpr rfl) fun B H v w e h1 h2 Q q => ⟨α, inferInstance, inferInstance, x, y, dp_mono e _ _ h1, dp_mono e _ _ h2, hz, q⟩)
theorem e_gt {α : Type} [DecidableEq α] [DatumOrd α] {x y : α} (ha : Pe K ta σ B x) (hb : Pe K tb σ B y) (hz : Datum.depth α ≤ 64 := by decide) : Pe K (tOp (rGtU K) ta tb) σ B (DatumOrd.lt y x) :=
  e_op ha hb (rd_val (.bl _) (fun _ => at_bl.mpr rfl) fun B H v w e h1 h2 Q q => ⟨α, inferInstance, inferInstance, x, y, dp_mono e _ _ h1, dp_mono e _ _ h2, hz, q⟩)
theorem e_ge {α : Type} [DecidableEq α] [DatumOrd α] {x y : α} (ha : Pe K ta σ B x) (hb : Pe K tb σ B y) (hz : Datum.depth α ≤ 64 := by decide) : Pe K (tOp (rGeU K) ta tb) σ B (!DatumOrd.lt x y) :=
  e_op ha hb (rd_val (.bl _) (fun _ => at_bl.mpr rfl) fun B H v w e h1 h2 Q q => ⟨α, inferInstance, inferInstance, x, y, dp_mono e _ _ h1, dp_mono e _ _ h2, hz, q⟩)
/-! numbers -/
theorem e_addI {i j : Int} (ha : Pe K ta σ B i) (hb : Pe K tb σ B j) : Pe K (tOp (rAddU K) ta tb) σ B (i + j) :=
  e_op ha hb (rd_val (.int (i + j)) (fun _ => at_int.mpr rfl) fun B H v w e h1 h2 Q q => .inl ⟨i, j, at_int.mp h1, at_int.mp h2, q⟩)
theorem e_subI {i j : Int} (ha : Pe K ta σ B i) (hb : Pe K tb σ B j) : Pe K (tOp (rI0 fun i j => .int (i - j)) ta tb) σ B (i - j) :=
  e_op ha hb (rd_val (.int (i - j)) (fun _ => at_int.mpr rfl) fun B H v w e h1 h2 Q q => ⟨i, j, at_int.mp h1, at_int.mp h2, q⟩)
theorem e_mulI {i j : Int} (ha : Pe K ta σ B i) (hb : Pe K tb σ B j) (hc : CMul i j) : Pe K (tOp (rMulU) ta tb) σ B (i * j) :=
  e_op ha hb (rd_val (.int (i * j)) (fun _ => at_int.mpr rfl) fun B H v w e h1 h2 Q q => .inl ⟨i, j, at_int.mp h1, at_int.mp h2, hc, q⟩)
theorem e_modI {i j : Int} (ha : Pe K ta σ B i) (hb : Pe K tb σ B j) (hc : 0 < j) : Pe K (tOp (rI (fun _ j => 0 < j) fun i j => .int (i % j)) ta tb) σ B (i % j) :=
  e_op ha hb (rd_val (.int (i % j)) (fun _ => at_int.mpr rfl) fun B H v w e h1 h2 Q q => ⟨i, j, at_int.mp h1, at_int.mp h2, hc, q⟩)
theorem e_divI {i j : Int} (ha : Pe K ta σ B i) (hb : Pe K tb σ B j) (hc : CDiv i j) : Pe K (tOp (rI CDiv fun i j => .int (i / j)) ta tb) σ B (i / j) :=
  e_op ha hb (rd_val (.int (i / j)) (fun _ => at_int.mpr rfl) fun B H v w e h1 h2 Q q => ⟨i, j, at_int.mp h1, at_int.mp h2, hc, q⟩)
theorem e_powI {i j : Int} (ha : Pe K ta σ B i) (hb : Pe K tb σ B j) (hc : CPow i j) : Pe K (tOp (rI CPow fun i j => .int (i ^ j.toNat)) ta tb) σ B (i ^ j.toNat) :=
  e_op ha hb (rd_val (.int (i ^ j.toNat)) (fun _ => at_int.mpr rfl) fun B H v w e h1 h2 Q q => ⟨i, j, at_int.mp h1, at_int.mp h2, hc, q⟩)
theorem e_negI {i : Int} (ha : Pe K ta σ B i) : Pe K (tUn (rU fun i => .int (-i)) ta) σ B (-i) :=
  e_un ha fun B H v e h Q q => ⟨i, at_int.mp h, q _ B H (Up.refl e) (at_int.mpr rfl)⟩
/-! lists and tuples made -/
theorem e_addL {xs ys : List α} (ha : Pe K ta σ B xs) (hb : Pe K tb σ B ys) (hz : xs.length + ys.length ≤ 1000000) : Pe K (tOp (rAddU K) ta tb) σ B (xs ++ ys) :=
  e_op ha hb fun B H v w e h1 h2 Q q => by
    obtain ⟨a, vs, rfl, hs, hx⟩ := at_list.mp h1
    obtain ⟨b, ws, rfl, hs2, hy⟩ := at_list.mp h2
    refine .inr (.inr (.inl ⟨a, b, vs, ws, rfl, rfl, Evl.ex_l e hs, Evl.ex_l e hs2, ?_, fun p hp => ?_⟩))
    · rw [hx.length, hy.length]
      exact Nat.le_trans hz (by rw [sizeLine_eq]; decide)
    · have u := Up.new (o := .lst (vs ++ ws)) e hp
      exact q _ _ _ u (at_list.mpr ⟨p, _, rfl, Evl.sq_of upd_same, (hx.append hy).mono u.bb⟩)
theorem e_lst0 : Pe K (tLst tNil) σ B ([] : List α) := fun H e Q q => ⟨Nat.zero_le _, fun p hp => q _ _ _ (Up.new e hp) (at_list.mpr ⟨p, [], rfl, Evl.sq_of upd_same, .nil⟩)⟩
theorem e_lst1 {x : α} (h : Pe K te σ B x) : Pe K (tLst (tCons te tNil)) σ B [x] := fun H e Q q => h H e _ fun v B1 H1 u hv =>
  ⟨by show 1 ≤ sizeLine; rw [sizeLine_eq]; decide, fun p hp => q _ _ _ (u.then hp) (at_list.mpr ⟨p, [v], rfl, Evl.sq_of upd_same, .cons (Rep.mono (Up.new (o := .lst [v]) u.bh hp).bb hv) .nil⟩)⟩
theorem e_lst2 {x y : α} (h : Pe K ta σ B x) (h2 : Pe K tb σ B y) : Pe K (tLst (tCons ta (tCons tb tNil))) σ B [x, y] := fun H e Q q => h.both h2 e fun v w B1 H1 u hv hw =>
  ⟨by show 2 ≤ sizeLine; rw [sizeLine_eq]; decide, fun p hp => q _ _ _ (u.then hp) (at_list.mpr ⟨p, [v, w], rfl, Evl.sq_of upd_same, .cons (Rep.mono (Up.new (o := .lst [v, w]) u.bh hp).bb hv) (.cons (Rep.mono (Up.new (o := .lst [v, w]) u.bh hp).bb hw) .nil)⟩)⟩
theorem e_tup0 : Pe K (tTup tNil) σ B (Tup.mk ([] : List α)) := fun H e Q q => ⟨Nat.zero_le _, fun p hp => q _ _ _ (Up.new e hp) (at_tup.mpr ⟨p, [], rfl, upd_same, .nil⟩)⟩
theorem e_tup1 {x : α} (h : Pe K te σ B x) : Pe K (tTup (tCons te tNil)) σ B (Tup.mk [x]) := fun H e Q q => h H e _ fun v B1 H1 u hv =>
  ⟨by show 1 ≤ sizeLine; rw [sizeLine_eq]; decide, fun p hp => q _ _ _ (u.then hp) (at_tup.mpr ⟨p, [v], rfl, upd_same, .cons (Rep.mono (Up.new (o := .tup [v]) u.bh hp).bb hv) .nil⟩)⟩
theorem e_pair {x : α} {y : β} (h : Pe K ta σ B x) (h2 : Pe K tb σ B y) : Pe K (tTup (tCons ta (tCons tb tNil))) σ B (x, y) := fun H e Q q => h.both h2 e fun v w B1 H1 u hv hw =>
  ⟨by show 2 ≤ sizeLine; rw [sizeLine_eq]; decide, fun p hp => q _ _ _ (u.then hp) (at_pair.mpr ⟨p, v, w, rfl, upd_same, Rep.mono (Up.new (o := .tup [v, w]) u.bh hp).bb hv, Rep.mono (Up.new (o := .tup [v, w]) u.bh hp).bb hw⟩)⟩
/-! calls of built-ins -/
theorem e_lenL {xs : List α} (h : Pe K te σ B xs) : Pe K (tCB (rLenU K) (tCons te tNil)) σ B (xs.length : Int) := fun H e Q q => h H e _ fun v B1 H1 u hv => by
  obtain ⟨a, vs, rfl, hs, hx⟩ := at_list.mp hv
  exact .inl ⟨.ref a, xs.length, rfl, .inl ⟨vs, Evl.ex_l u.bh hs, hx.length.symm⟩, q _ B1 H1 u (at_int.mpr rfl)⟩
theorem e_all {bs : List Bool} (h : Pe K te σ B bs) : Pe K (tCB (rAll K) (tCons te tNil)) σ B (bs.all id) := fun H e Q q => h H e _ fun v B1 H1 u hv => by
  obtain ⟨a, vs, rfl, hs, hx⟩ := at_list.mp hv
  rw [atAll_bls hx] at hs
  exact ⟨a, bs, rfl, Evl.ex_l u.bh hs, q _ B1 H1 u (at_bl.mpr rfl)⟩
end
/-! ### statements -/
section
variable {K : PySem.W.Frag} {σ : L2.St} {B B' H : Hp} {te ta tb tl : TE} {tt : TT} {D : Ends} {tu tw tz : TS} {g : TG}
variable {α β γ : Type} [Rep α] [Rep β] [Rep γ]
theorem q_set {i : Nat} {x : α} (h : Pe K te σ B x) (e : Ex B H) (k : ∀ v B1 H1, Up B H B1 H1 → Rep.at_ K B1 v x → tz D (σ.set i (some v)) H1) : tSeq (tAsg te (gName i)) tz D σ H := h H e _ fun v B1 H1 u hv => k v B1 H1 u hv
theorem p_ret {x : α} (h : Pe K te σ B x) (e : Ex B H) (k : ∀ v B1 H1, Up B H B1 H1 → Rep.at_ K B1 v x → D.rt v H1) : tRet te D σ H := h H e _ fun v B1 H1 u hv => k v B1 H1 u hv
theorem p_if {b : Bool} (h : Pt tt σ B b) (e : Ex B H) (h1 : b = true → ∀ B1 H1, Up B H B1 H1 → tu D σ H1) (h2 : b = false → ∀ B1 H1, Up B H B1 H1 → tw D σ H1) : tIfS tt tu tw D σ H := h H e _ fun B1 H1 u => by
  cases b with
  | true => exact h1 rfl B1 H1 u
  | false => exact h2 rfl B1 H1 u
theorem q_if {b : Bool} (h : Pt tt σ B b) (e : Ex B H) (h1 : b = true → ∀ B1 H1, Up B H B1 H1 → tu { D with nx := tz D } σ H1) (h2 : b = false → ∀ B1 H1, Up B H B1 H1 → tw { D with nx := tz D } σ H1) : tSeq (tIfS tt tu tw) tz D σ H := p_if (D := { D with nx := tz D }) h e h1 h2
/-- behind a turn -/
def LoopN (B1 : Hp) (P : L2.St → Hp → Hp → Prop) : L2.St → Hp → Prop := fun σ3 H3 => ∃ B3, Ex B1 B3 ∧ Ex B3 H3 ∧ P σ3 B3 H3
/-- a for over data: Pv: what is done, the slots, what is frozen, the heap -/
theorem p_for {wi : TI} {xs : List α} (h : ItD K wi σ B xs) (e : Ex B H)
    (k : ∀ B1 H1, Up B H B1 H1 → ∃ Pv : List α → L2.St → Hp → Hp → Prop, Pv [] σ B1 H1 ∧
      (∀ done x rest v σ' B' Hx B2 H', xs = done ++ x :: rest → Ex B1 B' → Ex B' Hx → Pv done σ' B' Hx → Up B' Hx B2 H' → Rep.at_ K B2 v x →
        g v σ' H' fun σ2 H2 => tu { D with nx := LoopN B1 (Pv (done ++ [x])), ct := LoopN B1 (Pv (done ++ [x])), bk := D.nx } σ2 H2) ∧
      ∀ σ' B' H', Ex B1 B' → Ex B' H' → Pv xs σ' B' H' → D.nx σ' H') : tFor wi g tu D σ H :=
  h H e _ fun J B1 H1 G Y up W hG hY => by
    obtain ⟨Pv, h0, hs, hd⟩ := k B1 H1 up
    refine for_it W (fun i => LoopN B1 (Pv (xs.take i))) ⟨B1, Ex.refl _, up.bh, h0⟩ (fun i σ' H' _ p => ?_) (fun i x σ' Hx H' hi p hy => ?_) (fun σ' H' p => ?_)
    · obtain ⟨B', b1, b2, _⟩ := p
      exact hG H' (b1.trans b2)
    · obtain ⟨B', b1, b2, hp⟩ := p
      obtain ⟨d, hd', hB⟩ := hY i x Hx H' hi (b1.trans b2) hy
      obtain ⟨B2, u2, hx⟩ := hB B' b1 b2
      have hlt := (List.getElem?_eq_some_iff.mp hd').1
      have exs : xs = xs.take i ++ d :: xs.drop (i + 1) := by
        have e1 : xs.drop i = d :: xs.drop (i + 1) := by
          rw [List.drop_eq_getElem_cons hlt]
          congr 1
          exact (List.getElem?_eq_some_iff.mp hd').2
        rw [← e1, List.take_append_drop]
      have z := hs (xs.take i) d (xs.drop (i + 1)) x σ' B' Hx B2 H' exs b1 b2 hp u2 hx
      have et : xs.take i ++ [d] = xs.take (i + 1) := by
        rw [List.take_add_one, hd']
        rfl
      rw [et] at z
      exact z
    · obtain ⟨B', b1, b2, hp⟩ := p
      rw [List.take_length] at hp
      exact hd σ' B' H' b1 b2 hp
theorem q_for {wi : TI} {xs : List α} (h : ItD K wi σ B xs) (e : Ex B H)
    (k : ∀ B1 H1, Up B H B1 H1 → ∃ Pv : List α → L2.St → Hp → Hp → Prop, Pv [] σ B1 H1 ∧
      (∀ done x rest v σ' B' Hx B2 H', xs = done ++ x :: rest → Ex B1 B' → Ex B' Hx → Pv done σ' B' Hx → Up B' Hx B2 H' → Rep.at_ K B2 v x →
        g v σ' H' fun σ2 H2 => tu { D with nx := LoopN B1 (Pv (done ++ [x])), ct := LoopN B1 (Pv (done ++ [x])), bk := tz D } σ2 H2) ∧
      ∀ σ' B' H', Ex B1 B' → Ex B' H' → Pv xs σ' B' H' → tz D σ' H') : tSeq (tFor wi g tu) tz D σ H := p_for (D := { D with nx := tz D }) h e k
end
end Ob
set_option Elab.async false
set_option linter.all false
set_option maxRecDepth 100000
set_option maxHeartbeats 4000000
/-! Ob5: subscripts, slices, conversions, min and max, dicts, what the readings of the generator name. -/
namespace Ob
open PySem L2
open Evl (Ex)
open PySem.W (Datum Tup DatumOrd)
section
variable {X : Cx}
/-! subscripts -/
def rIxD : R2 := fun x y H Q => ∃ a v, x = .ref a ∧ DGet H a y (some v) ∧ Q v H
def rIxU (K : PySem.W.Frag) : R2 := fun x y H Q => rIxL K x y H Q ∨ (rIxT K x y H Q ∨ (rIxS x y H Q ∨ rIxD x y H Q))
theorem ix_dict (hu : X.A.units + 150 < cLine) : IxR X rIxD := by
  intro value slice pins s σ H x y v u Q I rx ry h hs
  obtain ⟨a, z, rfl, g, q⟩ := h
  cases rx
  exact PyProof.Rows.tail_any (dict_typeIs I g) PySem.F.slot_dict_getitem.lookup (d_getItem (by omega) I g ry fun w' s3 I3 rw' => ⟨z, H, I3, rw', q⟩) hs
theorem ix_U (hu : X.A.units + 150 < cLine) : IxR X (rIxU X.K) := ix_list.or (ix_tup.or (ix_str.or (ix_dict hu)))
/-! slices -/
def rSlU (K : PySem.W.Frag) : V → Option Int → Option Int → Hp → VK → Prop := fun x lo hi H Q => rSlL K x lo hi H Q ∨ (rSlA K x lo hi H Q ∨ rSlS x lo hi H Q)
theorem sl_U : SlR X (rSlU X.K) := sl_list.or (sl_tupA.or sl_str)
/-! tuple(x), list(x) -/
def rTupleU (K : PySem.W.Frag) : List V → Hp → VK → Prop := fun xs H Q => ∃ p ys, xs = [.ref p] ∧ ((SqL K H p ys ∧ ∀ l, H l = none → Q (.ref l) (upd H l (.tup ys))) ∨ (SqT K H p ys ∧ Q (.ref p) H))
theorem call_tupleU : CallR X (.type "tuple") (rTupleU X.K) := call_tuple_of
def rListS (K : PySem.W.Frag) : List V → Hp → VK → Prop := fun xs H Q => ∃ p ys, xs = [.ref p] ∧ (SqL K H p ys ∨ SqT K H p ys) ∧ ∀ l, H l = none → Q (.ref l) (upd H l (.lst ys))
def rListD : List V → Hp → VK → Prop := fun xs H Q => ∃ (a : Addr) (kvs : List (Key × V)), xs = [.ref a] ∧ Rd H a (.dK kvs) ∧ ∀ p, H p = none → Q (.ref p) (upd H p (.lst (kvs.map fun kv => kV kv.1)))
def rListU (K : PySem.W.Frag) : List V → Hp → VK → Prop := fun xs H Q => rListS K xs H Q ∨ rListD xs H Q
theorem call_listU (hc : X.calm = true) : CallR X (.type "list") (rListU X.K) := CallR.or (r := rListS X.K) call_list_of (call_listD hc)
/-! sorted: a list or tuple of data; a dict with text keys -/
def rSortDc : List V → Hp → VK → Prop := fun xs H Q => ∃ (a : Addr) (kvs : List (Key × V)) (ks : List Str), xs = [.ref a] ∧ Rd H a (.dK kvs) ∧ kvs.map (·.1) = ks.map Sum.inr ∧ ks.length < 64 ∧
    ∀ ys p, ys.Perm ks → PyProof.Rows.sortedS ys = true → H p = none → Q (.ref p) (upd H p (.lst (ys.map V.str)))
def rSortU (K : PySem.W.Frag) : List V → Hp → VK → Prop := fun xs H Q => rSortD K xs H Q ∨ rSortDc xs H Q
theorem cr_sortU (hc : X.calm = true) (hu : X.A.units + 150 < cLine) : CallR X (.builtin "sorted") (rSortU X.K) := CallR.or (cr_sortD hu) (call_sortedD hc)
/-! abs, int -/
def rAbs : List V → Hp → VK → Prop := fun xs H Q => ∃ i, xs = [.int i] ∧ Q (.int (if i < 0 then -i else i)) H
theorem call_absr : CallR X (.builtin "abs") rAbs := call_abs
def rInt1 : List V → Hp → VK → Prop := fun xs H Q => (∃ i, xs = [.int i] ∧ Q (.int i) H) ∨ ∃ k, xs = [.bl k] ∧ Q (.int (if k then 1 else 0)) H
theorem call_int1r : CallR X (.type "int") rInt1 := call_int1
/-! min, max of two ints, of two texts -/
def ltS (x y : Str) : Bool := decide (x.cps.toList < y.cps.toList)
theorem cmpS_lt {prog : Program} {w : World} {A : Around} {P : Nat → Value → Prop} (val : Nat → Str) (hval : ∀ i v, P i v → ∃ t, v = .str (val i) t) : CmpOf prog w A .Lt P (fun i j => ltS (val i) (val j)) := by
  intro i j vi vj s Q E hi hj h
  obtain ⟨t, rfl⟩ := hval i vi hi
  obtain ⟨u, rfl⟩ := hval j vj hj
  have h2 : Q (.bool (decide ((val i).cps.toList < (val j).cps.toList))) s := h
  exact PyProof.Rows.lt_str h2
theorem cmpS_gt {prog : Program} {w : World} {A : Around} {P : Nat → Value → Prop} (val : Nat → Str) (hval : ∀ i v, P i v → ∃ t, v = .str (val i) t) : CmpOf prog w A .Gt P (fun i j => ltS (val j) (val i)) := by
  intro i j vi vj s Q E hi hj h
  obtain ⟨t, rfl⟩ := hval i vi hi
  obtain ⟨u, rfl⟩ := hval j vj hj
  have h2 : Q (.bool (decide ((val j).cps.toList < (val i).cps.toList))) s := h
  exact PySem.P.gt_str h2
def s2 (x y : Str) : Nat → Str := fun i => if i = 0 then x else y
theorem s2_at {x y : Str} {t u : Tok} (i : Nat) (v : Value) (h : (#[Value.str x t, Value.str y u] : Array Value)[i]? = some v) : ∃ t, v = .str (s2 x y i) t := by
  match i, h with
  | 0, h => simp at h; exact ⟨t, by rw [← h]; rfl⟩
  | 1, h => simp at h; exact ⟨u, by rw [← h]; rfl⟩
  | i + 2, h => simp at h
theorem min_two_strs {prog : Program} {w : World} {A : Around} {E : Value → Shared → Prop} {s : Shared} {a b : Str} {t u : Tok} {Q : Value → Shared → Prop} (hh : A.handled = none)
    (h : ∀ h' tk, (∀ c o, s.heap.get? c = some o → h'.get? c = some o) → Q (if ltS b a then .str b u else .str a t) { s with heap := h', toks := tk }) :
    wpAny (model prog w) A (call (.builtin "min") [.str a t, .str b u]) Q E s := by
  have hT : (s.heap.push { cls := .type "tuple", data := .seq #[.str a t, .str b u] }).IsTuple s.heap.objs.size #[.str a t, .str b u] := ⟨_, Heap.get?_push_size _ rfl, rfl, 0, rfl⟩
  refine call_min_two (wpAny_pyIter_tuple hT ?_)
  have hsz : (s.heap.push { cls := .type "tuple", data := .seq #[.str a t, .str b u] }).objs.size = s.heap.objs.size + 1 := Heap.size_push ..
  refine ⟨_, [_, s.heap.objs.size], [_], _, _, _, _, rfl, Walks.tuple (A := A.in1) hh _ s.heap.objs.size (by rw [hsz]; exact Nat.ne_of_lt (Nat.lt_succ_self _)) #[.str a t, .str b u],
    ⟨⟨_, Heap.get?_push_size _ rfl, rfl, rfl⟩, hT.push _⟩, fun c hc => ?_, by simp, cmpS_lt (s2 a b) s2_at, fun v h' tk hP hk => ?_⟩
  · show c < ((s.heap.push _).push _).objs.size
    rw [Heap.size_push, hsz]
    rcases List.mem_cons.mp hc with rfl | hc
    · rw [hsz]; exact Nat.lt_succ_self _
    · rcases List.mem_cons.mp hc with rfl | hc
      · exact Nat.lt_succ_of_lt (Nat.lt_succ_self _)
      · cases hc
  · have hold : ∀ c o, s.heap.get? c = some o → h'.get? c = some o := fun c o e => by
      refine hk c o (fun hm => ?_) (Heap.get?_push_of_some _ (Heap.get?_push_of_some _ e))
      rcases List.mem_cons.mp hm with e1 | hm
      · have := Heap.lt_size e; rw [e1, hsz] at this; exact Nat.lt_irrefl _ (Nat.lt_of_succ_lt this)
      · cases hm
    have := h h' tk hold
    have hv : v = if ltS b a then Value.str b u else Value.str a t := by
      cases hc : ltS b a <;> simp [argBest, s2, hc] at hP <;> simp [hP]
    rw [hv]; exact this
theorem max_two_strs {prog : Program} {w : World} {A : Around} {E : Value → Shared → Prop} {s : Shared} {a b : Str} {t u : Tok} {Q : Value → Shared → Prop} (hh : A.handled = none)
    (h : ∀ h' tk, (∀ c o, s.heap.get? c = some o → h'.get? c = some o) → Q (if ltS a b then .str b u else .str a t) { s with heap := h', toks := tk }) :
    wpAny (model prog w) A (call (.builtin "max") [.str a t, .str b u]) Q E s := by
  have hT : (s.heap.push { cls := .type "tuple", data := .seq #[.str a t, .str b u] }).IsTuple s.heap.objs.size #[.str a t, .str b u] := ⟨_, Heap.get?_push_size _ rfl, rfl, 0, rfl⟩
  refine call_max_two (wpAny_pyIter_tuple hT ?_)
  have hsz : (s.heap.push { cls := .type "tuple", data := .seq #[.str a t, .str b u] }).objs.size = s.heap.objs.size + 1 := Heap.size_push ..
  refine ⟨_, [_, s.heap.objs.size], [_], _, _, _, _, rfl, Walks.tuple (A := A.in1) hh _ s.heap.objs.size (by rw [hsz]; exact Nat.ne_of_lt (Nat.lt_succ_self _)) #[.str a t, .str b u],
    ⟨⟨_, Heap.get?_push_size _ rfl, rfl, rfl⟩, hT.push _⟩, fun c hc => ?_, by simp, cmpS_gt (s2 a b) s2_at, fun v h' tk hP hk => ?_⟩
  · show c < ((s.heap.push _).push _).objs.size
    rw [Heap.size_push, hsz]
    rcases List.mem_cons.mp hc with rfl | hc
    · rw [hsz]; exact Nat.lt_succ_self _
    · rcases List.mem_cons.mp hc with rfl | hc
      · exact Nat.lt_succ_of_lt (Nat.lt_succ_self _)
      · cases hc
  · have hold : ∀ c o, s.heap.get? c = some o → h'.get? c = some o := fun c o e => by
      refine hk c o (fun hm => ?_) (Heap.get?_push_of_some _ (Heap.get?_push_of_some _ e))
      rcases List.mem_cons.mp hm with e1 | hm
      · have := Heap.lt_size e; rw [e1, hsz] at this; exact Nat.lt_irrefl _ (Nat.lt_of_succ_lt this)
      · cases hm
    have := h h' tk hold
    have hv : v = if ltS a b then Value.str b u else Value.str a t := by
      cases hc : ltS a b <;> simp [argBest, s2, hc] at hP <;> simp [hP]
    rw [hv]; exact this
def rMinI : List V → Hp → VK → Prop := fun xs H Q => ∃ i j, xs = [.int i, .int j] ∧ Q (.int (if j < i then j else i)) H
def rMaxI : List V → Hp → VK → Prop := fun xs H Q => ∃ i j, xs = [.int i, .int j] ∧ Q (.int (if j > i then j else i)) H
def rMinS : List V → Hp → VK → Prop := fun xs H Q => ∃ i j, xs = [.str i, .str j] ∧ Q (.str (if ltS j i then j else i)) H
def rMaxS : List V → Hp → VK → Prop := fun xs H Q => ∃ i j, xs = [.str i, .str j] ∧ Q (.str (if ltS i j then j else i)) H
def rMinU : List V → Hp → VK → Prop := fun xs H Q => rMinI xs H Q ∨ rMinS xs H Q
def rMaxU : List V → Hp → VK → Prop := fun xs H Q => rMaxI xs H Q ∨ rMaxS xs H Q
theorem call_min2S (hc : X.calm = true) : CallR X (.builtin "min") rMinS := by
  intro pins s σ H xs us Q I r h
  obtain ⟨i, j, rfl, q⟩ := h
  obtain ⟨u, w', rfl, ⟨t, rfl⟩, ⟨t', rfl⟩⟩ := vals2 r
  refine min_two_strs (I.ok.hd hc) fun h' tk k => ⟨_, H, I.kept k, ?_, q⟩
  cases ltS j i <;> exact ⟨_, rfl⟩
theorem call_max2S (hc : X.calm = true) : CallR X (.builtin "max") rMaxS := by
  intro pins s σ H xs us Q I r h
  obtain ⟨i, j, rfl, q⟩ := h
  obtain ⟨u, w', rfl, ⟨t, rfl⟩, ⟨t', rfl⟩⟩ := vals2 r
  refine max_two_strs (I.ok.hd hc) fun h' tk k => ⟨_, H, I.kept k, ?_, q⟩
  cases ltS i j <;> exact ⟨_, rfl⟩
theorem cr_minU (hc : X.calm = true) : CallR X (.builtin "min") rMinU := CallR.or (call_min2 hc) (call_min2S hc)
theorem cr_maxU (hc : X.calm = true) : CallR X (.builtin "max") rMaxU := CallR.or (call_max2 hc) (call_max2S hc)
/-! dict(pairs), d.update(e), name = {..} -/
def rDictP (K : PySem.W.Frag) : List V → Hp → VK → Prop := fun xs H Q => ∃ (a : Addr) (ps : List Addr) (kvs : List (Key × V)), xs = [.ref a] ∧ SqL K H a (ps.map V.ref) ∧ Paired (fun p kv => SqT K H p [kV kv.1, kv.2]) ps kvs ∧
    ∀ p, H p = none → Q (.ref p) (upd H p (.dK (mergeK [] kvs)))
theorem call_dictPr (hc : X.calm = true) : CallR X (.type "dict") (rDictP X.K) := call_dictP hc
end
end Ob
set_option Elab.async false
set_option linter.all false
set_option maxRecDepth 100000
set_option maxHeartbeats 4000000
/-! Ob6: sequences (lists or tuples), panels; promises of pure defs; more expressions by type. -/
namespace Ob
open PySem L2
open Evl (Ex)
open PySem.W (Datum Tup DatumOrd)
/-! ### unpacking a tuple or a list -/
def gUnp (K : PySem.W.Frag) (n : Nat) (t : TGs) : TG := fun v σ H Q => gTup K n t v σ H Q ∨ gUnl K n t v σ H Q
theorem pg_unp {X : Cx} {pos : Pos} {es : List Expr} {k : Nat} {t : TGs} {n : Nat} (hc : X.calm = true) (h : PGs X es t)
    (hn : (assignEach es X.env).length = n := by rfl) (hst : (assignEach es X.env).findIdx? (·.1) = none := by rfl) : PG X (.Tuple es k pos) (gUnp X.K n t) :=
  ⟨fun pins s σ H v u Q I r hw => hw.elim (fun hw => (pg_tup hc h hn hst).run pins s σ H v u Q I r hw) (fun hw => (pg_unl hc h hn hst).run pins s σ H v u Q I r hw)⟩
/-! ### a list or a tuple of things -/
structure Sq (α : Type) where
  items : List α
instance {α : Type} [Rep α] : Rep (Sq α) := ⟨fun K H v s => ∃ a vs, v = .ref a ∧ (SqL K H a vs ∨ H a = some (.tup vs)) ∧ AtAll K H vs s.items,
  fun e ⟨a, vs, h1, h2, h3⟩ => ⟨a, vs, h1, h2.imp (exr_l e) (e.2.1 _ _), h3.monoR e⟩⟩
/-- a pair of names, as a tuple or a list -/
structure Pr where
  a : Str
  b : Str
  deriving DecidableEq
instance : Rep Pr := ⟨fun K H v p => ∃ a, v = .ref a ∧ (SqL K H a [.str p.a, .str p.b] ∨ H a = some (.tup [.str p.a, .str p.b])),
  fun e ⟨a, h1, h2⟩ => ⟨a, h1, h2.imp (exr_l e) (e.2.1 _ _)⟩⟩
/-- a panel, as tuples or lists at any depth -/
structure Pan where
  sw : List Str
  ex : List (Str × Str)
  deriving DecidableEq
def prs (xs : List (Str × Str)) : List Pr := xs.map fun p => ⟨p.1, p.2⟩
instance : Rep Pan := ⟨fun K H v p => ∃ a v1 v2, v = .ref a ∧ (SqL K H a [v1, v2] ∨ H a = some (.tup [v1, v2])) ∧ Rep.at_ K H v1 (Sq.mk p.sw) ∧ Rep.at_ K H v2 (Sq.mk (prs p.ex)),
  fun e ⟨a, v1, v2, h1, h2, h3, h4⟩ => ⟨a, v1, v2, h1, h2.imp (exr_l e) (e.2.1 _ _), Rep.monoR e h3, Rep.monoR e h4⟩⟩
/-- a panel as tuples -/
abbrev PanT : Type := Tup Str × Tup (Str × Str)
def Pan.t (p : Pan) : PanT := (⟨p.sw⟩, ⟨p.ex⟩)
section
variable {K : PySem.W.Frag} {H B B' : Hp} {v : V} {σ : L2.St} {te ta tb tc : TE} {tt tu : TT}
theorem sq_list {α : Type} [DecidableEq α] [Datum α] {xs : List α} (h : Rep.at_ K H v xs) : Rep.at_ K H v (Sq.mk xs) := by
  obtain ⟨a, vs, h1, h2, h3⟩ := at_list.mp h
  exact ⟨a, vs, h1, .inl h2, h3⟩
theorem sq_tup {α : Type} [DecidableEq α] [Datum α] {xs : Tup α} (h : Rep.at_ K H v xs) : Rep.at_ K H v (Sq.mk xs.items) := by
  obtain ⟨a, vs, h1, h2, h3⟩ := at_tup.mp h
  exact ⟨a, vs, h1, .inr h2, h3⟩
theorem pr_pair {p : Str × Str} (h : Rep.at_ K H v p) : Rep.at_ K H v (Pr.mk p.1 p.2) := by
  obtain ⟨a, v1, v2, h1, h2, h3, h4⟩ := at_pair.mp h
  rw [at_str.mp h3, at_str.mp h4] at h2
  exact ⟨a, h1, .inr h2⟩
theorem prs_all : ∀ {vs : List V} {xs : List (Str × Str)}, AtAll K H vs xs → AtAll K H vs (prs xs)
  | _, _, .nil => .nil
  | _, _, .cons a t => .cons (pr_pair a) (prs_all t)
theorem pan_t {p : Pan} (h : Rep.at_ K H v p.t) : Rep.at_ K H v p := by
  obtain ⟨a, v1, v2, h1, h2, h3, h4⟩ := at_pair.mp h
  refine ⟨a, v1, v2, h1, .inr h2, sq_tup h3, ?_⟩
  obtain ⟨b, vs, h5, h6, h7⟩ := at_tup.mp h4
  exact ⟨b, vs, h5, .inr h6, prs_all h7⟩
theorem Pe.imp {α β : Type} [Rep α] [Rep β] {x : α} {y : β} (h : Pe K te σ B x) (k : ∀ {H v}, Rep.at_ K H v x → Rep.at_ K H v y) : Pe K te σ B y := fun H e Q q => h H e Q fun v B2 H2 u hv => q v B2 H2 u (k hv)
theorem it_sq {α : Type} [Rep α] {xs : List α} (h : Pe K te σ B (Sq.mk xs)) : ItD K (iSeq K te) σ B xs := fun H e R q => h H e _ fun v B1 H1 u hv => by
  obtain ⟨a, vs, rfl, hs, hx⟩ := hv
  rcases hs with hs | hs
  · refine ⟨a, rfl, .inl ⟨⟨vs, Evl.ex_l u.bh hs⟩, ?_⟩⟩
    refine q (Itl K a) B1 H1 (fun H => SqL K H a vs) (YAt vs) u ?_ (fun H' e' => Evl.ex_l e' hs) fun i x Hx H' hi ex y => ?_
    · rw [← AtAll.length hx]
      exact walk_list
    · obtain ⟨y1, y2⟩ := y
      obtain ⟨d, hd, hxd⟩ := AtAll.get' hx y2
      refine ⟨d, hd, fun B' b1 b2 => ⟨B', ?_, Rep.mono b1 hxd⟩⟩
      rw [y1]
      exact Up.refl b2
  · refine ⟨a, rfl, .inr ⟨⟨vs, ex_tx u.bh hs⟩, ?_⟩⟩
    refine q (Itt K a) B1 H1 (fun H => SqT K H a vs) (YAt vs) u ?_ (fun H' e' => ex_tx e' hs) fun i x Hx H' hi ex y => ?_
    · rw [← AtAll.length hx]
      exact walk_tup
    · obtain ⟨y1, y2⟩ := y
      obtain ⟨d, hd, hxd⟩ := AtAll.get' hx y2
      refine ⟨d, hd, fun B' b1 b2 => ⟨B', ?_, Rep.mono b1 hxd⟩⟩
      rw [y1]
      exact Up.refl b2
/-! subscripts -/
theorem atI_of {α : Type} [Rep α] {vs : List V} {xs : List α} (h : AtAll K H vs xs) {i : Int} {x : α} (ha : atI xs i = some x) : ∃ v, atI vs i = some v ∧ Rep.at_ K H v x := by
  unfold atI at ha ⊢
  rw [h.length]
  cases e : ixN xs.length i with
  | none =>
    rw [e] at ha
    cases ha
  | some j =>
    rw [e] at ha
    exact h.get (i := j) ha
theorem e_ixSq {α : Type} [Rep α] {xs : List α} {i : Int} {x : α} (ha : Pe K ta σ B (Sq.mk xs)) (hb : Pe K tb σ B i) (hi : atI xs i = some x) : Pe K (tOp (rIxU K) ta tb) σ B x :=
  e_op ha hb fun B H v w e h1 h2 Q q => by
    obtain ⟨a, vs, rfl, hs, hx⟩ := h1
    obtain ⟨z, hz, hzx⟩ := atI_of hx hi
    cases at_int.mp h2
    rcases hs with hs | hs
    · exact .inl ⟨a, vs, i, z, rfl, rfl, Evl.ex_l e hs, hz, q z B H (Up.refl e) hzx⟩
    · exact .inr (.inl ⟨a, vs, i, z, rfl, rfl, ex_tx e hs, hz, q z B H (Up.refl e) hzx⟩)
theorem e_ixL {α : Type} [DecidableEq α] [Datum α] {xs : List α} {i : Int} {x : α} (ha : Pe K ta σ B xs) (hb : Pe K tb σ B i) (hi : atI xs i = some x) : Pe K (tOp (rIxU K) ta tb) σ B x := e_ixSq (ha.imp sq_list) hb hi
theorem e_sw {p : Pan} (ha : Pe K ta σ B p) : Pe K (tOp (rIxU K) ta (tC (.int 0))) σ B (Sq.mk p.sw) :=
  e_op ha e_int fun B H v w e h1 h2 Q q => by
    obtain ⟨a, v1, v2, rfl, hs, h3, h4⟩ := h1
    cases at_int.mp h2
    rcases hs with hs | hs
    · exact .inl ⟨a, _, 0, v1, rfl, rfl, Evl.ex_l e hs, rfl, q v1 B H (Up.refl e) h3⟩
    · exact .inr (.inl ⟨a, _, 0, v1, rfl, rfl, ex_tx e hs, rfl, q v1 B H (Up.refl e) h3⟩)
theorem e_ex {p : Pan} (ha : Pe K ta σ B p) : Pe K (tOp (rIxU K) ta (tC (.int 1))) σ B (Sq.mk (prs p.ex)) :=
  e_op ha e_int fun B H v w e h1 h2 Q q => by
    obtain ⟨a, v1, v2, rfl, hs, h3, h4⟩ := h1
    cases at_int.mp h2
    rcases hs with hs | hs
    · exact .inl ⟨a, _, 1, v2, rfl, rfl, Evl.ex_l e hs, rfl, q v2 B H (Up.refl e) h4⟩
    · exact .inr (.inl ⟨a, _, 1, v2, rfl, rfl, ex_tx e hs, rfl, q v2 B H (Up.refl e) h4⟩)
/-! a dict with text keys -/
theorem DicAt.find {α : Type} [Rep α] : ∀ {ks : List (Key × V)} {d : List (Str × α)}, DicAt K H ks d → ∀ {k : Str} {x : α}, d.lookup k = some x → ∃ v, valV ks (.inr k) = some v ∧ Rep.at_ K H v x
  | _, _, .nil, k, x, h => by cases h
  | _, _, .cons (a := p) (b := q) ⟨h1, h2⟩ t, k, x, h => by
    obtain ⟨pk, pv⟩ := p
    obtain ⟨qk, qv⟩ := q
    simp only at h1 h2
    subst h1
    by_cases e : k = qk
    · subst e
      rw [List.lookup_cons_self] at h
      cases h
      exact ⟨pv, valV_pos rfl, h2⟩
    · have h' : List.lookup k ((qk, qv) :: _) = _ := h
      rw [List.lookup_cons, beq_eq_false_iff_ne.mpr e] at h'
      obtain ⟨v, e1, e2⟩ := DicAt.find t (show List.lookup k _ = some x from h')
      exact ⟨v, by rw [valV_neg (fun z => e (Sum.inr.inj z).symm)]; exact e1, e2⟩
theorem e_ixD {α : Type} [Rep α] {d : Dic α} {k : Str} {x : α} (ha : Pe K ta σ B d) (hb : Pe K tb σ B k) (hi : d.kvs.lookup k = some x) : Pe K (tOp (rIxU K) ta tb) σ B x :=
  e_op ha hb fun B H v w e h1 h2 Q q => by
    obtain ⟨a, ks, rfl, hr, hz, hd⟩ := h1
    obtain ⟨z, hz, hzx⟩ := hd.find hi
    cases at_str.mp h2
    exact .inr (.inr (.inr ⟨a, z, rfl, .inl ⟨ks, .inr k, Evl.ex_rd e hr, rfl, hz.symm⟩, q z B H (Up.refl e) hzx⟩))
/-! in, for sequences of either kind -/
theorem e_inSq {α : Type} [DecidableEq α] [Datum α] {x : α} {ys : List α} (ha : Pe K ta σ B x) (hb : Pe K tb σ B (Sq.mk ys)) (neg : Bool) (hz : Datum.depth α ≤ 64 := by decide) : Pe K (tOp (rInU K neg) ta tb) σ B (ngb neg (decide (x ∈ ys))) :=
  e_op ha hb (rd_val (.bl _) (fun _ => at_bl.mpr rfl) fun B H v w e h1 h2 Q q => by
    obtain ⟨a, vs, rfl, hs, hx⟩ := h2
    refine .inl ⟨_, _, dp_mono e _ _ h1, ?_, PySem.W.plainAll_map ys, Datum.plain x, Nat.le_trans (Datum.depth_le x) hz, by rw [PySem.W.any_datum]; exact q⟩
    exact hs.imp (fun hs => Dp.lst (Evl.ex_l e hs) (at_dpAll (hx.mono e))) (fun hs => Dp.tup (ex_tx e hs) (at_dpAll (hx.mono e))))
/-! conversions -/
theorem e_tupSq {α : Type} [DecidableEq α] [Datum α] {xs : List α} (h : Pe K te σ B (Sq.mk xs)) : Pe K (tCB (rTupleU K) (tCons te tNil)) σ B (Tup.mk xs) := fun H e Q q => h H e _ fun v B1 H1 u hv => by
  obtain ⟨a, vs, rfl, hs, hx⟩ := hv
  rcases hs with hs | hs
  · exact ⟨a, vs, rfl, .inl ⟨Evl.ex_l u.bh hs, fun l hl => q _ _ _ (u.then hl) (at_tup.mpr ⟨l, vs, rfl, upd_same, hx.mono (Up.new (o := .tup vs) u.bh hl).bb⟩)⟩⟩
  · exact ⟨a, vs, rfl, .inr ⟨ex_tx u.bh hs, q _ _ _ u (at_tup.mpr ⟨a, vs, rfl, hs, hx⟩)⟩⟩
theorem e_tupL {α : Type} [DecidableEq α] [Datum α] {xs : List α} (h : Pe K te σ B xs) : Pe K (tCB (rTupleU K) (tCons te tNil)) σ B (Tup.mk xs) := e_tupSq (h.imp sq_list)
theorem e_lstSq {α : Type} [DecidableEq α] [Datum α] {xs : List α} (h : Pe K te σ B (Sq.mk xs)) : Pe K (tCB (rListU K) (tCons te tNil)) σ B xs := fun H e Q q => h H e _ fun v B1 H1 u hv => by
  obtain ⟨a, vs, rfl, hs, hx⟩ := hv
  exact .inl ⟨a, vs, rfl, hs.imp (Evl.ex_l u.bh) (ex_tx u.bh), fun l hl => q _ _ _ (u.then hl) (at_list.mpr ⟨l, vs, rfl, Evl.sq_of upd_same, hx.mono (Up.new (o := .lst vs) u.bh hl).bb⟩)⟩
theorem e_lenSq {α : Type} [Rep α] {xs : List α} (h : Pe K te σ B (Sq.mk xs)) : Pe K (tCB (rLenU K) (tCons te tNil)) σ B (xs.length : Int) := fun H e Q q => h H e _ fun v B1 H1 u hv => by
  obtain ⟨a, vs, rfl, hs, hx⟩ := hv
  exact .inl ⟨.ref a, xs.length, rfl, hs.imp (fun hs => ⟨vs, Evl.ex_l u.bh hs, hx.length.symm⟩) (fun hs => ⟨vs, ex_tx u.bh hs, hx.length.symm⟩), q _ B1 H1 u (at_int.mpr rfl)⟩
theorem e_sortSq {α : Type} [DecidableEq α] [DatumOrd α] {xs : List α} (h : Pe K te σ B (Sq.mk xs)) (hk : PySem.W.Sortable (xs.map Datum.toD)) (hz : Datum.depth α ≤ 64 := by decide) : Pe K (tCB (rSortU K) (tCons te tNil)) σ B (sortD xs) := fun H e Q q => h H e _ fun v B1 H1 u hv => by
  obtain ⟨a, vs, rfl, hs, hx⟩ := hv
  refine .inl ⟨α, inferInstance, inferInstance, a, vs, xs, B1, rfl, hs.imp (Evl.ex_l u.bh) (ex_tx u.bh), u.bh, hx, .inl hk, hz, fun ys p hy hp => ?_⟩
  have u2 := Up.new (o := .lst ys) u.bh hp
  exact q _ _ _ (u.trans u2) (at_list.mpr ⟨p, ys, rfl, Evl.sq_of upd_same, hy.mono u2.bb⟩)
theorem allTup_tup {α : Type} [DecidableEq α] [Datum α] (xs : List (Tup α)) : AllTup (xs.map Datum.toD) := fun d hd => by
  obtain ⟨x, _, rfl⟩ := List.mem_map.mp hd
  exact ⟨_, rfl⟩
theorem sortable_str (xs : List Str) : PySem.W.Sortable (xs.map Datum.toD) := PySem.W.Sortable.others fun b => ⟨fun z => (by cases z), fun _ z => (by cases z)⟩
theorem sortable_pair {α β : Type} [DecidableEq α] [Datum α] [DecidableEq β] [Datum β] (xs : List (α × β)) : PySem.W.Sortable (xs.map Datum.toD) := PySem.W.Sortable.tuples fun b => ⟨_, _, rfl⟩
/-! slices from a place on, to a place -/
theorem AtAll.cut {α : Type} [Rep α] {vs : List V} {xs : List α} (h : AtAll K H vs xs) (lo hi : Option Int) : AtAll K H (cutV vs lo hi) ((xs.drop (HT.sIx xs.length 0 lo)).take (HT.sIx xs.length xs.length hi - HT.sIx xs.length 0 lo)) := by
  unfold cutV
  rw [h.length]
  exact AtAll.take _ (AtAll.drop _ h)
def cutA {α : Type} (xs : List α) (lo hi : Option Int) : List α := (xs.drop (HT.sIx xs.length 0 lo)).take (HT.sIx xs.length xs.length hi - HT.sIx xs.length 0 lo)
theorem cutA_to {α : Type} (xs : List α) (k : Nat) : cutA xs none (some (k : Int)) = xs.take k := by
  unfold cutA
  rw [HT.sIx_nat, HT.sIx_none]
  show List.take (min k xs.length - 0) (xs.drop 0) = _
  rw [Nat.sub_zero, List.drop_zero]
  exact (List.take_eq_take_min ..).symm
theorem e_slL {α : Type} [DecidableEq α] [Datum α] {xs : List α} {tl th : TO} {lo hi : Option Int} (h : Pe K te σ B xs) (h1 : Po tl σ B lo) (h2 : Po th σ B hi) : Pe K (tSl (rSlU K) te tl th) σ B (cutA xs lo hi) := fun H e Q q => h H e _ fun v B1 H1 u hv =>
  h1 H1 (u.bb.trans u.bh) _ fun B2 H2 u2 => h2 H2 (u2.bb.trans u2.bh) _ fun B3 H3 u3 => by
    obtain ⟨a, vs, rfl, hs, hx⟩ := at_list.mp hv
    have b3 : Ex B1 H3 := u.bh.trans (u2.hh.trans u3.hh)
    refine .inl ⟨a, vs, rfl, Evl.ex_l b3 hs, fun p hp => ?_⟩
    have w := Up.new (o := .lst (cutV vs lo hi)) b3 hp
    have v3 : Up B H B1 H3 := ⟨u.bb, b3, u.hh.trans (u2.hh.trans u3.hh), u.nw⟩
    exact q _ _ _ (v3.trans w) (at_list.mpr ⟨p, _, rfl, Evl.sq_of upd_same, (hx.cut lo hi).mono w.bb⟩)
/-! min, max of texts, of ints; abs, int of a bool -/
def minS (x y : Str) : Str := if ltS y x then y else x
def maxS (x y : Str) : Str := if ltS x y then y else x
theorem e_minS {x y : Str} (h : Pe K ta σ B x) (h2 : Pe K tb σ B y) : Pe K (tCB rMinU (tCons ta (tCons tb tNil))) σ B (minS x y) := fun H e Q q => h.both h2 e fun v w B1 H1 u hv hw => by
  cases at_str.mp hv
  cases at_str.mp hw
  exact .inr ⟨x, y, rfl, q _ B1 H1 u (at_str.mpr rfl)⟩
theorem e_maxS {x y : Str} (h : Pe K ta σ B x) (h2 : Pe K tb σ B y) : Pe K (tCB rMaxU (tCons ta (tCons tb tNil))) σ B (maxS x y) := fun H e Q q => h.both h2 e fun v w B1 H1 u hv hw => by
  cases at_str.mp hv
  cases at_str.mp hw
  exact .inr ⟨x, y, rfl, q _ B1 H1 u (at_str.mpr rfl)⟩
theorem e_minI {x y : Int} (h : Pe K ta σ B x) (h2 : Pe K tb σ B y) : Pe K (tCB rMinU (tCons ta (tCons tb tNil))) σ B (if y < x then y else x) := fun H e Q q => h.both h2 e fun v w B1 H1 u hv hw => by
  cases at_int.mp hv
  cases at_int.mp hw
  exact .inl ⟨x, y, rfl, q _ B1 H1 u (at_int.mpr rfl)⟩
theorem e_abs {x : Int} (h : Pe K te σ B x) : Pe K (tCB rAbs (tCons te tNil)) σ B (if x < 0 then -x else x) := fun H e Q q => h H e _ fun v B1 H1 u hv => by
  cases at_int.mp hv
  exact ⟨x, rfl, q _ B1 H1 u (at_int.mpr rfl)⟩
theorem e_intB {x : Bool} (h : Pe K te σ B x) : Pe K (tCB rInt1 (tCons te tNil)) σ B (if x then 1 else 0 : Int) := fun H e Q q => h H e _ fun v B1 H1 u hv => by
  cases at_bl.mp hv
  exact .inr ⟨x, rfl, q _ B1 H1 u (at_int.mpr rfl)⟩
/-! ### promises of pure defs -/
section
variable {α β γ δ : Type} [Rep α] [Rep β] [Rep γ] [Rep δ]
def Fn1 (K : PySem.W.Frag) (pre : α → Prop) (f : α → β) : Sp := fun vs H Q _ => ∃ x B, Ex B H ∧ RCons K x RNil vs B ∧ pre x ∧ ∀ v B2 H2, Up B H B2 H2 → Rep.at_ K B2 v (f x) → Q v H2
def Fn2 (K : PySem.W.Frag) (pre : α → β → Prop) (f : α → β → γ) : Sp := fun vs H Q _ => ∃ x y B, Ex B H ∧ RCons K x (RCons K y RNil) vs B ∧ pre x y ∧ ∀ v B2 H2, Up B H B2 H2 → Rep.at_ K B2 v (f x y) → Q v H2
def Fn3 (K : PySem.W.Frag) (pre : α → β → γ → Prop) (f : α → β → γ → δ) : Sp := fun vs H Q _ => ∃ x y z B, Ex B H ∧ RCons K x (RCons K y (RCons K z RNil)) vs B ∧ pre x y z ∧ ∀ v B2 H2, Up B H B2 H2 → Rep.at_ K B2 v (f x y z) → Q v H2
theorem Fn1.len {pre : α → Prop} {f : α → β} (vs : List V) (H : Hp) (Q : VK) (E : XK) (h : Fn1 K pre f vs H Q E) : vs.length = 1 := by
  obtain ⟨x, B, e, ⟨v, r, rfl, h1, rfl⟩, _⟩ := h
  rfl
theorem Fn2.len {pre : α → β → Prop} {f : α → β → γ} (vs : List V) (H : Hp) (Q : VK) (E : XK) (h : Fn2 K pre f vs H Q E) : vs.length = 2 := by
  obtain ⟨x, y, B, e, ⟨v, r, rfl, h1, v2, r2, rfl, h2, rfl⟩, _⟩ := h
  rfl
theorem Fn3.len {pre : α → β → γ → Prop} {f : α → β → γ → δ} (vs : List V) (H : Hp) (Q : VK) (E : XK) (h : Fn3 K pre f vs H Q E) : vs.length = 3 := by
  obtain ⟨x, y, z, B, e, ⟨v, r, rfl, h1, v2, r2, rfl, h2, v3, r3, rfl, h3, rfl⟩, _⟩ := h
  rfl
theorem e_call1 {pre : α → Prop} {f : α → β} {E : XK} {x : α} (h : Pe K ta σ B x) (hp : pre x) : Pe K (tCall (Fn1 K pre f) [] E (tCons ta tNil)) σ B (f x) := fun H e Q q => a_1 h H e _ fun vs B1 H1 u hv => by
  rw [List.append_nil]
  exact ⟨x, B1, u.bh, hv, hp, fun v B2 H2 u2 h2 => q v B2 H2 (u.trans u2) h2⟩
theorem e_call2 {pre : α → β → Prop} {f : α → β → γ} {E : XK} {x : α} {y : β} (h : Pe K ta σ B x) (h2 : Pe K tb σ B y) (hp : pre x y) : Pe K (tCall (Fn2 K pre f) [] E (tCons ta (tCons tb tNil))) σ B (f x y) := fun H e Q q => a_2 h h2 H e _ fun vs B1 H1 u hv => by
  rw [List.append_nil]
  exact ⟨x, y, B1, u.bh, hv, hp, fun v B2 H2 u2 h2 => q v B2 H2 (u.trans u2) h2⟩
theorem e_call3 {pre : α → β → γ → Prop} {f : α → β → γ → δ} {E : XK} {x : α} {y : β} {z : γ} (h : Pe K ta σ B x) (h2 : Pe K tb σ B y) (h3 : Pe K tc σ B z) (hp : pre x y z) : Pe K (tCall (Fn3 K pre f) [] E (tCons ta (tCons tb (tCons tc tNil)))) σ B (f x y z) := fun H e Q q => a_3 h h2 h3 H e _ fun vs B1 H1 u hv => by
  rw [List.append_nil]
  exact ⟨x, y, z, B1, u.bh, hv, hp, fun v B2 H2 u2 h2 => q v B2 H2 (u.trans u2) h2⟩
end
end
end Ob
set_option Elab.async false
set_option linter.all false
set_option maxRecDepth 100000
set_option maxHeartbeats 4000000
/-! Ob7: dict comprehensions, locks, freezing, lists that a loop grows. -/
namespace Ob
open PySem L2
open Evl (Ex)
open PySem.W (Datum Tup DatumOrd)
section
variable {K : PySem.W.Frag} {H B B' : Hp} {v : V} {σ : L2.St} {te ta tb tc tk tv : TE} {tt tu : TT}
/-- a pair of names unpacked -/
theorem unp_pr {p : Pr} {i j : Nat} {Q : L2.St → Hp → Prop} (hp : Rep.at_ K B v p) (e : Ex B H) (q : Q ((σ.set i (some (.str p.a))).set j (some (.str p.b))) H) : gUnp K 2 (gCons (gName i) (gCons (gName j) gNil)) v σ H Q := by
  obtain ⟨a, rfl, hs⟩ := hp
  rcases hs with hs | hs
  · exact .inr ⟨a, _, rfl, Evl.ex_l e hs, rfl, _, _, rfl, _, _, rfl, rfl, q⟩
  · exact .inl ⟨a, _, rfl, ex_tx e hs, rfl, _, _, rfl, _, _, rfl, rfl, q⟩
theorem unp_pair {α β : Type} [DecidableEq α] [Datum α] [DecidableEq β] [Datum β] {p : α × β} {i j : Nat} {Q : L2.St → Hp → Prop} (hp : Rep.at_ K B v p) (e : Ex B H)
    (q : ∀ v1 v2, Rep.at_ K B v1 p.1 → Rep.at_ K B v2 p.2 → Q ((σ.set i (some v1)).set j (some v2)) H) : gUnp K 2 (gCons (gName i) (gCons (gName j) gNil)) v σ H Q := by
  obtain ⟨a, v1, v2, rfl, hs, h1, h2⟩ := at_pair.mp hp
  exact .inl ⟨a, _, rfl, ex_tx e hs, rfl, _, _, rfl, _, _, rfl, rfl, q v1 v2 h1 h2⟩
/-! freezing, changing what is not frozen -/
theorem Up.freeze {B H B2 H2 : Hp} (u : Up B H B2 H2) {a : Addr} {o : HO} (h : H2 a = some o) (hf : H a = none) : Up B H (upd B2 a o) H2 ∧ Ex B2 (upd B2 a o) := by
  have e2 : Ex B2 (upd B2 a o) := fun c x hc => by
    by_cases hca : c = a
    · subst hca
      have := u.bh c x hc
      rw [h] at this
      rw [upd_same]
      exact this
    · rw [upd_ne hca]
      exact hc
  refine ⟨⟨u.bb.trans e2, ex_in u.bh h, u.hh, fun c hc => ?_⟩, e2⟩
  by_cases hca : c = a
  · exact .inr (hca ▸ hf)
  · rw [upd_ne hca] at hc
    exact u.nw c hc
theorem Up.freezes {B H B2 H2 : Hp} (u : Up B H B2 H2) : ∀ {es : List (Addr × HO)}, (∀ p ∈ es, H2 p.1 = some p.2 ∧ H p.1 = none) → ∃ B3, Up B H B3 H2 ∧ Ex B2 B3 ∧ ∀ p ∈ es, B3 p.1 = some p.2
  | [], _ => ⟨B2, u, Ex.refl _, fun _ h => by cases h⟩
  | p :: es, h => by
    obtain ⟨B3, u3, e3, k3⟩ := Up.freezes u (es := es) fun q hq => h q (List.mem_cons_of_mem _ hq)
    obtain ⟨h1, h2⟩ := h p List.mem_cons_self
    obtain ⟨u4, e4⟩ := u3.freeze h1 h2
    refine ⟨_, u4, e3.trans e4, fun q hq => ?_⟩
    rcases List.mem_cons.mp hq with rfl | hq
    · exact upd_same
    · exact e4 _ _ (k3 q hq)
theorem Up.mut {B H B2 H2 : Hp} (u : Up B H B2 H2) {a : Addr} {o : HO} (hf : H a = none) (hb : B2 a = none) : Up B H B2 (upd H2 a o) :=
  ⟨u.bb, ex_upd u.bh hb, Ex.mut u.hh hf, u.nw⟩
/-- a new object that is not frozen -/
theorem Up.hold {B H B2 H2 : Hp} (u : Up B H B2 H2) {a : Addr} {o : HO} (h : H2 a = none) : Up B H B2 (upd H2 a o) := u.mut (Evl.fresh_back u.hh h) (Evl.fresh_back u.bh h)
/-! dict comprehensions -/
theorem dc_it {J : It} {n : Nat} {G : Hp → Prop} {Y : Nat → Hp → V → Hp → Prop} (w : Walk J n G Y) {g : TG} {tt : TT} {tk tv : TE} {vs : List Nat} {σ : L2.St} {H1 : Hp} {D : Addr} {Qd : Hp → Prop} (Pv : Nat → Hp → Prop) (h0 : Pv 0 (upd H1 D (.dK []))) (hG : ∀ i H, i ≤ n → Pv i H → G H)
    (hs : ∀ i x H H', i < n → Pv i H → Y i H x H' → g x (wipe σ vs) H' fun σ2 H2 => wipe σ2 vs = wipe σ vs ∧ tt σ2 H2 fun b H3 =>
      if b = true then tk σ2 H3 fun y H4 => tv σ2 H4 fun z H5 => ∃ kvs k, y = kV k ∧ H5 D = some (.dK kvs) ∧ kvs.length < sizeLine ∧ Pv (i + 1) (upd H5 D (.dK (putK kvs k z))) else Pv (i + 1) H3) (hd : ∀ H, Pv n H → Qd H) :
    ∃ W : Nat → Nat → Hp → Prop, (∃ m, W 0 m (upd H1 D (.dK []))) ∧ ∀ i m H, W i m H →
      (J.stop i H ∧ Qd H) ∨ (J.go i H ∧ ∃ Nx : Hp → Prop, (∀ H', Nx H' → ∃ m', m' < m ∧ W (i + 1) m' H') ∧ ∀ x H', J.yld i H x H' → g x (wipe σ vs) H' fun σ2 H2 => wipe σ2 vs = wipe σ vs ∧ tt σ2 H2 fun b H3 =>
        if b = true then tk σ2 H3 fun y H4 => tv σ2 H4 fun z H5 => ∃ kvs k, y = kV k ∧ H5 D = some (.dK kvs) ∧ kvs.length < sizeLine ∧ Nx (upd H5 D (.dK (putK kvs k z))) else Nx H3) := by
  refine ⟨fun i m H => m = n - i ∧ i ≤ n ∧ Pv i H, ⟨n, by simp, Nat.zero_le _, h0⟩, ?_⟩
  rintro i m H ⟨rfl, hi, p⟩
  have q := hG i H hi p
  by_cases hlt : i < n
  · exact .inr ⟨w.goes i H hlt q, Pv (i + 1), fun H' p' => ⟨n - (i + 1), by omega, rfl, hlt, p'⟩, fun x H' y => hs i x H H' hlt p (w.yields i H x H' hlt q y)⟩
  · have e : i = n := by omega
    subst e
    exact .inl ⟨w.stops H q, hd H p⟩
theorem valV_out {α : Type} [Rep α] : ∀ {ks : List (Key × V)} {d : List (Str × α)} {k : Str}, DicAt K H ks d → k ∉ d.map (·.1) → valV ks (.inr k) = none
  | _, _, _, .nil, _ => rfl
  | _, _, k, .cons (a := p) (b := q) ⟨h1, h2⟩ t, hn => by
    rw [List.map_cons, List.mem_cons, not_or] at hn
    rw [valV_neg (fun z => hn.1 (by rw [h1] at z; exact (Sum.inr.inj z).symm))]
    exact valV_out t hn.2
theorem DicAt.mono {α : Type} [Rep α] (e : Ex H B) {ks : List (Key × V)} {d : List (Str × α)} (h : DicAt K H ks d) : DicAt K B ks d := Paired.mapP h fun _ _ q => ⟨q.1, Rep.mono e q.2⟩
theorem paired_snoc {α β : Type} {F : α → β → Prop} : ∀ {xs : List α} {ys : List β} {x : α} {y : β}, Paired F xs ys → F x y → Paired F (xs ++ [x]) (ys ++ [y])
  | _, _, _, _, .nil, h => .cons h .nil
  | _, _, _, _, .cons a t, h => .cons a (paired_snoc t h)
def TurnK (K : PySem.W.Frag) {β : Type} [Rep β] (g : TG) (tk tv : TE) (vs : List Nat) (σ : L2.St) (B : Hp) (v : V) (k : Str) (r : β) : Prop :=
  ∃ σ2, (∀ H (Q : L2.St → Hp → Prop), Ex B H → Q σ2 H → g v (wipe σ vs) H Q) ∧ wipe σ2 vs = wipe σ vs ∧ Pe K tk σ2 B k ∧ Pe K tv σ2 B r
theorem e_dc {β γ : Type} [Rep β] [Rep γ] {wi : TI} {g : TG} {vs : List Nat} {xs : List γ} (kf : γ → Str) (y : γ → β) (h : ItD K wi σ B xs) (nd : (xs.map kf).Nodup) (hz : xs.length ≤ 1000000)
    (ht : ∀ x ∈ xs, ∀ v B1, Ex B B1 → Rep.at_ K B1 v x → TurnK K g tk tv vs σ B1 v (kf x) (y x)) : Pe K (tDc wi g tYes tk tv vs) σ B (Dic.mk (xs.map fun x => (kf x, y x))) := fun H e Q q =>
  h H e _ fun J B1 H1 G Y up W hG hY D hD => by
    have hDH : H D = none := Evl.fresh_back up.hh hD
    have hDB : B1 D = none := Evl.fresh_back up.bh hD
    refine dc_it W (fun i H' => ∃ Bi ks, Ex B1 Bi ∧ (∀ a, Bi a ≠ none → B1 a ≠ none ∨ H1 a = none) ∧ Bi D = none ∧ Ex Bi H' ∧ Ex H1 H' ∧ H' D = some (.dK ks) ∧ DicAt K Bi ks ((xs.take i).map fun x => (kf x, y x)))
      ⟨B1, [], Ex.refl _, fun _ h => .inl h, hDB, ex_upd up.bh hDB, Ex.new hD, upd_same, .nil⟩ (fun i H' _ p => ?_) (fun i x Hx H' hi p hy => ?_) (fun H' p => ?_)
    · obtain ⟨Bi, ks, b1, _, _, b2, _⟩ := p
      exact hG H' (b1.trans b2)
    · obtain ⟨Bi, ks, b1, nw, bD, b2, hh, eD, hA⟩ := p
      obtain ⟨d, hd, hB⟩ := hY i x Hx H' hi (b1.trans b2) hy
      obtain ⟨B2, u2, hx⟩ := hB Bi b1 b2
      obtain ⟨o1, o2⟩ := u2.out bD eD
      obtain ⟨σ2, hg, hw, hk, hv⟩ := ht d (mem_of_get hd) x B2 ((up.bb.trans b1).trans u2.bb) hx
      refine hg H' _ u2.bh ⟨hw, ?_⟩
      show tk σ2 H' _
      refine hk H' u2.bh _ fun kv B3 H3 u3 hkv => ?_
      obtain ⟨o3, o4⟩ := u3.out o1 o2
      refine (hv.mono u3.bb) H3 u3.bh _ fun w B4 H4 u4 hw4 => ⟨ks, .inr (kf d), at_str.mp hkv, (u4.out o3 o4).2, ?_, B4, ks ++ [(.inr (kf d), w)], ?_, ?_, (u4.out o3 o4).1, ex_upd u4.bh (u4.out o3 o4).1, ?_, ?_, ?_⟩
      · have e1 := Paired.length hA
        rw [List.length_map] at e1
        have h3 := List.length_take_le i xs
        have : (sizeLine : Nat) = 16777216 := sizeLine_eq
        omega
      · exact ((b1.trans u2.bb).trans u3.bb).trans u4.bb
      · intro a ha
        rcases ((u2.trans u3).trans u4).nw a ha with z | z
        · exact nw a z
        · exact .inr (Evl.fresh_back hh z)
      · exact Ex.mut (((hh.trans u2.hh).trans u3.hh).trans u4.hh) hD
      · rw [upd_same, putK_new w (valV_out hA ?_)]
        rw [List.map_map]
        intro hm
        have nd2 : ((xs.take (i + 1)).map kf).Nodup := by
          rw [List.map_take]
          exact nd.sublist (List.take_sublist _ _)
        rw [take_snoc hd, List.map_append, List.nodup_append] at nd2
        exact nd2.2.2 _ hm _ (by simp) rfl
      · rw [take_snoc hd, List.map_append]
        exact paired_snoc (DicAt.mono ((u2.bb.trans u3.bb).trans u4.bb) hA) ⟨rfl, hw4⟩
    · obtain ⟨Bi, ks, b1, nw, bD, b2, hh, eD, hA⟩ := p
      rw [List.take_length] at hA
      refine q (.ref D) (upd Bi D (.dK ks)) H' ⟨(up.bb.trans b1).trans (Ex.new bD), ex_in b2 eD, up.hh.trans hh, fun a ha => ?_⟩ ⟨D, ks, rfl, .inl upd_same, ?_, hA.mono (Ex.new bD)⟩
      · by_cases hDa : a = D
        · exact .inr (hDa ▸ hDH)
        · rw [upd_ne hDa] at ha
          rcases nw a ha with z | z
          · exact up.nw a z
          · exact .inr (Evl.fresh_back up.hh z)
      · have e1 := Paired.length hA
        rw [List.length_map] at e1
        omega
theorem turnK_name {β : Type} [Rep β] {σ2 : L2.St} {vs : List Nat} {k : Str} {r : β} {j : Nat} (e : (wipe σ vs).set j (some v) = σ2) (hw : wipe σ2 vs = wipe σ vs) (hk : Pe K tk σ2 B k) (hv : Pe K tv σ2 B r) : TurnK K (gName j) tk tv vs σ B v k r :=
  ⟨σ2, fun H Q _ q => by rw [← e] at q; exact q, hw, hk, hv⟩
/-! the keys of a locked dict -/
theorem it_keys {i : Nat} {d : Addr} {o : Obj} {ks : List (Key × V)} {xs : List Str} (hi : σ[i]? = some (some (.ref d))) (hd : B d = some (.frz o (.dK ks))) (hk : ks.map (·.1) = xs.map Sum.inr) : ItD K (iKeys (tVar i)) σ B xs := fun H e R q => by
  refine ⟨.ref d, hi, d, o, rfl, .inl ⟨ks, e d _ hd, ?_⟩⟩
  have el : ks.length = xs.length := by
    have := congrArg List.length hk
    rw [List.length_map, List.length_map] at this
    exact this
  refine q (Itk d o ks) B H (fun H => H d = some (.frz o (.dK ks))) _ (Up.refl e) (by rw [← el]; exact walk_keys) (fun H' e' => e' d _ hd) fun j x Hx H' hj ex y => ?_
  obtain ⟨y1, k, v, y2, y3⟩ := y
  have h1 : (ks.map (·.1))[j]? = some k := by rw [List.getElem?_map, y2]; rfl
  rw [hk, List.getElem?_map] at h1
  obtain ⟨s, hs, e2⟩ := Option.map_eq_some_iff.mp h1
  refine ⟨s, hs, fun B' b1 b2 => ⟨B', by rw [y1]; exact Up.refl b2, ?_⟩⟩
  rw [y3, ← e2]
  exact at_str.mpr rfl
/-- an expression under a dict's lock, returned -/
theorem lock_do {α : Type} [Rep α] {d : Addr} {ks : List (Key × V)} {x : α} {Q : VK} (hB : B d = some (.dK ks)) (e : Ex B H) (h : ∀ od, Pe K te σ (upd B d (.frz od (.dK ks))) x) (k : ∀ v B1 H1, Up B H B1 H1 → Rep.at_ K B1 v x → Q v H1) : tLockE te σ H Q := by
  have hd : H d = some (.dK ks) := e d _ hB
  refine ⟨d, .dK ks, hd, trivial, fun od => h od (upd H d (.frz od (.dK ks))) (fun a o ha => ?_) _ fun v B2 H2 u hv => ⟨u.hh d _ upd_same, k v (upd B2 d (.dK ks)) (upd H2 d (.dK ks)) ⟨fun a o ha => ?_, fun a o ha => ?_, fun a o ha => ?_, fun a ha => ?_⟩ (Rep.monoR (exr_unlock (u.bb d _ upd_same)) hv)⟩⟩
  · by_cases hda : a = d
    · subst hda
      rw [upd_same] at ha ⊢
      exact ha
    · rw [upd_ne hda] at ha ⊢
      exact e a o ha
  · by_cases hda : a = d
    · subst hda
      rw [upd_same, ← hB]
      exact ha
    · rw [upd_ne hda]
      exact u.bb a o (by rw [upd_ne hda]; exact ha)
  · by_cases hda : a = d
    · subst hda
      rw [upd_same] at ha ⊢
      exact ha
    · rw [upd_ne hda] at ha ⊢
      exact u.bh a o ha
  · by_cases hda : a = d
    · subst hda
      rw [upd_same, ← hd]
      exact ha
    · rw [upd_ne hda]
      exact u.hh a o (by rw [upd_ne hda]; exact ha)
  · by_cases hda : a = d
    · subst hda
      exact .inl (by rw [hB]; exact fun z => nomatch z)
    · rw [upd_ne hda] at ha
      rcases u.nw a ha with z | z
      · exact .inl (by rw [upd_ne hda] at z; exact z)
      · exact .inr (by rw [upd_ne hda] at z; exact z)
/-! a list grown -/
theorem app_do {D : Ends} {l : Addr} {vs : List V} {α : Type} [Rep α] {x : α} {to : TE} (hl : H l = some (.lst vs)) (e : Ex B H) (ho : ∀ (H1 : Hp) (Q : VK), Ex H H1 → Q (.ref l) H1 → to σ H1 Q) (h : Pe K te σ B x) (hz : vs.length ≤ 1000000)
    (k : ∀ v B1 H1, Up B H B1 H1 → Rep.at_ K B1 v x → D.nx σ (upd H1 l (.lst (vs ++ [v])))) : tDrop (tBM K "list" rAppend to (tCons te tNil)) D σ H :=
  ho H _ (Ex.refl H) ⟨.inl ⟨rfl, vs, Evl.sq_of hl⟩, h H e _ fun v B1 H1 u hv => ⟨l, vs, v, rfl, rfl, u.hh l _ hl, Nat.lt_of_le_of_lt hz (by rw [sizeLine_eq]; decide), k v B1 H1 u hv⟩⟩
theorem qapp_do {D : Ends} {tz : TS} {l : Addr} {vs : List V} {α : Type} [Rep α] {x : α} {to : TE} (hl : H l = some (.lst vs)) (e : Ex B H) (ho : ∀ (H1 : Hp) (Q : VK), Ex H H1 → Q (.ref l) H1 → to σ H1 Q) (h : Pe K te σ B x) (hz : vs.length ≤ 1000000)
    (k : ∀ v B1 H1, Up B H B1 H1 → Rep.at_ K B1 v x → tz D σ (upd H1 l (.lst (vs ++ [v])))) : tSeq (tDrop (tBM K "list" rAppend to (tCons te tNil))) tz D σ H := app_do (D := { D with nx := tz D }) hl e ho h hz k
theorem app_var {D : Ends} {l : Addr} {vs : List V} {α : Type} [Rep α] {x : α} {i : Nat} (hi : σ[i]? = some (some (.ref l))) (hl : H l = some (.lst vs)) (e : Ex B H) (h : Pe K te σ B x) (hz : vs.length ≤ 1000000)
    (k : ∀ v B1 H1, Up B H B1 H1 → Rep.at_ K B1 v x → D.nx σ (upd H1 l (.lst (vs ++ [v])))) : tDrop (tBM K "list" rAppend (tVar i) (tCons te tNil)) D σ H :=
  app_do hl e (fun H1 Q _ q => ⟨_, hi, q⟩) h hz k
end
end Ob
set_option Elab.async false
set_option linter.all false
set_option maxRecDepth 100000
set_option maxHeartbeats 4000000
/-! P1: the defs of panels.py, effects.py, states.py: readings and promises. -/
namespace Ob
open PySem L2
open Evl (Ex)
open PySem.W (Datum Tup DatumOrd)
abbrev Ends.ret (Q : VK) : Ends := { nx := fun _ H' => Q .non H', rt := Q }
section
variable {K : PySem.W.Frag}
/-! ### are_ascending -/
theorem all_map_id {α : Type} (xs : List α) (f : α → Bool) : ((xs.filter fun _ => true).map f).all id = xs.all f := by
  rw [List.filter_eq_self.mpr fun _ _ => rfl, List.all_map]
  rfl
/-! ### look_switches (where the panel has them all) -/
abbrev sp_look_switches (K : PySem.W.Frag) : Sp := Fn2 K (fun (p : Pan) (s : Sq Str) => ∀ x ∈ s.items, x ∈ p.sw) (fun _ _ => ())
theorem l_look_switches (vs : List V) (H : Hp) (Q : VK) (E : XK) (h : sp_look_switches K vs H Q E) : vs.length = 2 := Fn2.len vs H Q E h
def N_look_switches : List Str := ["panel", "switches", "switch"]
def t_look_switches (K : PySem.W.Frag) : TS :=
  (tFor (iSeq K (tVar 1)) (gName 2) (tIfS (tTest (tOp (rInU K true) (tVar 2) (tOp (rIxU K) (tVar 0) (tC (.int 0))))) tNever tNext))
theorem r_look_switches (vs : List V) (H : Hp) (Q : VK) (E : XK) (h : sp_look_switches K vs H Q E) : t_look_switches K (Ends.ret Q) (start N_look_switches vs) H := by
  obtain ⟨p, s, B, e, ⟨v1, _, rfl, h1, v2, _, rfl, h2, rfl⟩, hp, q⟩ := h
  obtain ⟨xs⟩ := s
  refine p_for (it_sq (e_var rfl h2)) e fun B1 H1 u => ⟨fun done σ' B' H' => Up B H B' H' ∧ ∃ y, σ' = [some v1, some v2, y], ⟨u, none, rfl⟩, fun done x rest v σ' B' Hx B2 H' ex b1 bx hP u2 hv => ?_, fun σ' B' H' b1 bx hP => ?_⟩
  · obtain ⟨uB, y, rfl⟩ := hP
    have hx : x ∈ p.sw := hp x (by rw [ex]; simp)
    have w := uB.trans u2
    refine p_if (t_test (e_inSq (e_var rfl hv) (e_sw (e_var rfl (Rep.mono w.bb h1))) true)) w.bh (fun hb => ?_) (fun _ B3 H3 u3 => ⟨B3, (b1.trans u2.bb).trans u3.bb, u3.bh, w.trans u3, some v, rfl⟩)
    simp [ngb, hx] at hb
  · exact q _ B' H' hP.1 (at_non.mpr rfl)
/-! ### rival_table -/
/-- the rivals of s, exclusion by exclusion -/
def raw (ex : List (Str × Str)) (s : Str) : List Str := ex.flatMap fun e => (if e.1 = s then [e.2] else []) ++ (if e.2 = s then [e.1] else [])
def rvs (p : Pan) (s : Str) : List Str := sortD (raw p.ex s)
def tab (p : Pan) : Dic (List Str) := ⟨p.sw.map fun s => (s, rvs p s)⟩
/-- what the panel functions ask of a panel -/
structure PanOk (p : Pan) : Prop where
  nd : p.sw.Nodup
  ex : ∀ e ∈ p.ex, e.1 ∈ p.sw ∧ e.2 ∈ p.sw
  n1 : p.sw.length ≤ 100000
  n2 : p.ex.length ≤ 100000
abbrev sp_rival_table (K : PySem.W.Frag) : Sp := Fn1 K PanOk tab
theorem l_rival_table (vs : List V) (H : Hp) (Q : VK) (E : XK) (h : sp_rival_table K vs H Q E) : vs.length = 1 := Fn1.len vs H Q E h
/-- the dict's pairs -/
def kvOf (es : List (Str × Addr)) : List (Key × V) := es.map fun p => (.inr p.1, .ref p.2)
theorem valV_kvOf : ∀ {es : List (Str × Addr)} {s : Str} {a : Addr}, (es.map (·.1)).Nodup → (s, a) ∈ es → valV (kvOf es) (.inr s) = some (.ref a)
  | [], _, _, _, h => by cases h
  | (s', a') :: es, s, a, nd, h => by
    by_cases e : s' = s
    · subst e
      rcases List.mem_cons.mp h with z | z
      · cases z
        exact valV_pos rfl
      · rw [List.map_cons, List.nodup_cons] at nd
        exact absurd (List.mem_map.mpr ⟨_, z, rfl⟩) nd.1
    · rcases List.mem_cons.mp h with z | z
      · cases z
        exact absurd rfl e
      · rw [List.map_cons, List.nodup_cons] at nd
        show valV ((Sum.inr s', _) :: kvOf es) _ = _
        rw [valV_neg (fun w => e (Sum.inr.inj w))]
        exact valV_kvOf nd.2 z
structure TabAt (es : List (Str × Addr)) (c : Str → List Str) (D : Addr) (B H : Hp) : Prop where
  dD : H D = some (.dK (kvOf es))
  dl : ∀ p ∈ es, H p.2 = some (.lst ((c p.1).map V.str))
  bD : B D = none
  bl : ∀ p ∈ es, B p.2 = none
  nd : (es.map (·.2)).Nodup
  ne : ∀ p ∈ es, p.2 ≠ D
theorem TabAt.up {es : List (Str × Addr)} {c : Str → List Str} {D : Addr} {B H B2 H2 : Hp} (t : TabAt es c D B H) (u : Up B H B2 H2) : TabAt es c D B2 H2 :=
  ⟨(u.out t.bD t.dD).2, fun p hp => (u.out (t.bl p hp) (t.dl p hp)).2, (u.out t.bD t.dD).1, fun p hp => (u.out (t.bl p hp) (t.dl p hp)).1, t.nd, t.ne⟩
theorem TabAt.app {es : List (Str × Addr)} {c : Str → List Str} {D : Addr} {B H : Hp} (t : TabAt es c D B H) {s : Str} {a : Addr} (h : (s, a) ∈ es) (n1 : (es.map (·.1)).Nodup) (x : Str) :
    TabAt es (fun y => if y = s then c y ++ [x] else c y) D B (upd H a (.lst ((c s).map V.str ++ [.str x]))) := by
  refine ⟨?_, fun p hp => ?_, t.bD, t.bl, t.nd, t.ne⟩
  · rw [upd_ne (t.ne _ h).symm]
    exact t.dD
  · by_cases e : p.2 = a
    · have ep : p = (s, a) := by
        obtain ⟨i, hi, e1⟩ := List.getElem_of_mem hp
        obtain ⟨j, hj, e2⟩ := List.getElem_of_mem h
        have : i = j := by
          refine (List.getElem_inj (xs := es.map (·.2)) (h₀ := by simpa using hi) (h₁ := by simpa using hj) t.nd).mp ?_
          simp [e1, e2, e]
        subst this
        rw [← e1, ← e2]
      subst ep
      show upd H a _ a = _
      rw [upd_same]
      show _ = some (HO.lst ((if s = s then c s ++ [x] else c s).map V.str))
      rw [if_pos rfl, List.map_append]
      rfl
    · rw [upd_ne e]
      have ne : ¬ p.1 = s := fun z => by
        obtain ⟨i, hi, e1⟩ := List.getElem_of_mem hp
        obtain ⟨j, hj, e2⟩ := List.getElem_of_mem h
        have : i = j := by
          refine (List.getElem_inj (xs := es.map (·.1)) (h₀ := by simpa using hi) (h₁ := by simpa using hj) n1).mp ?_
          simp [e1, e2, z]
        subst this
        rw [e1] at e2
        rw [e2] at e
        exact e rfl
      show _ = some (HO.lst ((if p.1 = s then _ else c p.1).map V.str))
      rw [if_neg ne]
      exact t.dl p hp
end
end Ob
set_option Elab.async false
set_option linter.all false
set_option maxRecDepth 100000
set_option maxHeartbeats 4000000
/-! P2: rival_table. -/
namespace Ob
open PySem L2
open Evl (Ex)
open PySem.W (Datum Tup DatumOrd)
def N_rival_table : List Str := ["panel", "found", "one", "other", "switch"]
def t_rival_table (K : PySem.W.Frag) : TS :=
  (tSeq (tAsg (tDc (iSeq K (tOp (rIxU K) (tVar 0) (tC (.int 0)))) (gName 4) tYes (tVar 4) (tLst tNil) [4]) (gName 1))
    (tSeq (tFor (iSeq K (tOp (rIxU K) (tVar 0) (tC (.int 1)))) (gUnp K 2 (gCons (gName 2) (gCons (gName 3) gNil))) (tSeq (tDrop (tBM K "list" (rAppend) (tOp (rIxU K) (tVar 1) (tVar 2)) (tCons (tVar 3) tNil)))
    (tDrop (tBM K "list" (rAppend) (tOp (rIxU K) (tVar 1) (tVar 3)) (tCons (tVar 2) tNil)))))
    (tRet (tLockE (tDc (iKeys (tVar 1)) (gName 4) tYes (tVar 4) (tCB (rSortU K) (tCons (tOp (rIxU K) (tVar 1) (tVar 4)) tNil)) [4])))))
section
variable {K : PySem.W.Frag}
def rawP (ds : List Pr) (s : Str) : List Str := ds.flatMap fun e => (if e.a = s then [e.b] else []) ++ (if e.b = s then [e.a] else [])
theorem rawP_prs (ex : List (Str × Str)) (s : Str) : rawP (prs ex) s = raw ex s := by
  unfold rawP raw prs
  rw [List.flatMap_map]
theorem rawP_snoc (ds : List Pr) (x : Pr) (s : Str) : rawP (ds ++ [x]) s = rawP ds s ++ ((if x.a = s then [x.b] else []) ++ (if x.b = s then [x.a] else [])) := by
  unfold rawP
  rw [List.flatMap_append]
  simp
theorem rawP_len (ds : List Pr) (s : Str) : (rawP ds s).length ≤ 2 * ds.length := by
  induction ds with
  | nil => exact Nat.zero_le _
  | cons d ds ih =>
    have e : rawP (d :: ds) s = ((if d.a = s then [d.b] else []) ++ (if d.b = s then [d.a] else [])) ++ rawP ds s := rfl
    rw [e, List.length_append, List.length_append, List.length_cons]
    have h1 : (if d.a = s then [d.b] else []).length ≤ 1 := by split <;> simp
    have h2 : (if d.b = s then [d.a] else []).length ≤ 1 := by split <;> simp
    omega
theorem lookup_map {α : Type} (f : Str → α) : ∀ {xs : List Str} {s : Str}, s ∈ xs → (xs.map fun s => (s, f s)).lookup s = some (f s)
  | x :: xs, s, h => by
    rw [List.map_cons]
    by_cases e : s = x
    · subst e
      exact List.lookup_cons_self
    · rw [List.lookup_cons, beq_eq_false_iff_ne.mpr e]
      rcases List.mem_cons.mp h with z | z
      · exact absurd z e
      · exact lookup_map f z
theorem kvOf_len (es : List (Str × Addr)) : (kvOf es).length = es.length := by simp [kvOf]
theorem kvOf_dic {es : List (Str × Addr)} {f : Str → List Str} {B : Hp} (h : ∀ p ∈ es, B p.2 = some (.lst ((f p.1).map V.str))) : DicAt K B (kvOf es) (es.map fun p => (p.1, f p.1)) := by
  induction es with
  | nil => exact .nil
  | cons p es ih =>
    refine .cons ⟨rfl, ?_⟩ (ih fun q hq => h q (List.mem_cons_of_mem _ hq))
    exact at_list.mpr ⟨p.2, _, rfl, Evl.sq_of (h p List.mem_cons_self), strs_atAll _⟩
theorem q_dcRaw {D : Ends} {tz : TS} {σ : L2.St} {B H : Hp} {α : Type} [Rep α] {wi : TI} {g : TG} {tt : TT} {tk tv : TE} {vs : List Nat} {j : Nat} {xs : List α} (h : ItD K wi σ B xs) (e : Ex B H)
    (k : ∀ J B1 H1 G Y, Up B H B1 H1 → Walk J xs.length G Y → (∀ H', Ex B1 H' → G H') →
      (∀ i x Hx H', i < xs.length → Ex B1 Hx → Y i Hx x H' → ∃ d, xs[i]? = some d ∧ ∀ B', Ex B1 B' → Ex B' Hx → ∃ B2, Up B' Hx B2 H' ∧ Rep.at_ K B2 x d) → ∀ Dd, H1 Dd = none →
      ∃ W : Nat → Nat → Hp → Prop, (∃ m, W 0 m (upd H1 Dd (.dK []))) ∧ ∀ i m H, W i m H →
      (J.stop i H ∧ tz D (σ.set j (some (.ref Dd))) H) ∨ (J.go i H ∧ ∃ Nx : Hp → Prop, (∀ H', Nx H' → ∃ m', m' < m ∧ W (i + 1) m' H') ∧ ∀ x H', J.yld i H x H' → g x (wipe σ vs) H' fun σ2 H2 => wipe σ2 vs = wipe σ vs ∧ tt σ2 H2 fun b H3 =>
        if b = true then tk σ2 H3 fun y H4 => tv σ2 H4 fun z H5 => ∃ kvs k, y = kV k ∧ H5 Dd = some (.dK kvs) ∧ kvs.length < sizeLine ∧ Nx (upd H5 Dd (.dK (putK kvs k z))) else Nx H3)) :
    tSeq (tAsg (tDc wi g tt tk tv vs) (gName j)) tz D σ H := h H e _ k
theorem r_rival_table (vs : List V) (H : Hp) (Q : VK) (E : XK) (h : sp_rival_table K vs H Q E) : t_rival_table K (Ends.ret Q) (start N_rival_table vs) H := by
  obtain ⟨p, B, e, ⟨v, _, rfl, h1, rfl⟩, ok, q⟩ := h
  refine q_dcRaw (it_sq (e_sw (e_var rfl h1))) e fun J B1 H1 G Y up W hG hY D hD => ?_
  refine dc_it W (fun i H' => ∃ Bi es, Up B1 H1 Bi H' ∧ es.map (·.1) = p.sw.take i ∧ TabAt es (fun _ => []) D Bi H' ∧ ∀ q ∈ es, H1 q.2 = none)
    ⟨B1, [], (Up.refl up.bh).hold hD, rfl, ⟨upd_same, fun _ h => (by cases h), Evl.fresh_back up.bh hD, fun _ h => (by cases h), List.nodup_nil, fun _ h => (by cases h)⟩, fun _ h => (by cases h)⟩
    (fun i H' _ hp => ?_) (fun i x Hx H' hi hp hy => ?_) (fun H' hp => ?_)
  · obtain ⟨Bi, es, u, _⟩ := hp
    exact hG H' (u.bb.trans u.bh)
  · obtain ⟨Bi, es, u, en, t, hf⟩ := hp
    obtain ⟨d, hd, hB⟩ := hY i x Hx H' hi (u.bb.trans u.bh) hy
    obtain ⟨B2, u2, hx⟩ := hB Bi u.bb u.bh
    have t2 := t.up u2
    refine ⟨rfl, ?_⟩
    refine ⟨x, rfl, Nat.zero_le _, fun l hl => ?_⟩
    have lD : D ≠ l := ne_of_none t2.dD hl
    have hlB : B2 l = none := Evl.fresh_back u2.bh hl
    refine ⟨kvOf es, .inr d, at_str.mp hx, by rw [upd_ne lD]; exact t2.dD, ?_, B2, es ++ [(d, l)], ((u.trans u2).hold hl).mut hD t2.bD, ?_, ⟨?_, fun r hr => ?_, t2.bD, fun r hr => ?_, ?_, fun r hr => ?_⟩, fun r hr => ?_⟩
    · rw [kvOf_len]
      have e1 := congrArg List.length en
      rw [List.length_map] at e1
      have h3 := List.length_take_le i p.sw
      have h4 := ok.n1
      have : (sizeLine : Nat) = 16777216 := sizeLine_eq
      omega
    · rw [List.map_append, en, take_snoc hd]
      rfl
    · rw [upd_same, putK_new]
      · show _ = some (HO.dK (kvOf (es ++ [(d, l)])))
        unfold kvOf
        rw [List.map_append]
        rfl
      · have hn : d ∉ es.map (·.1) := by
          rw [en]
          intro hm
          have nd2 : (p.sw.take (i + 1)).Nodup := ok.nd.sublist (List.take_sublist _ _)
          rw [take_snoc hd, List.nodup_append] at nd2
          exact nd2.2.2 _ hm _ (by simp) rfl
        have : ∀ es : List (Str × Addr), d ∉ es.map (·.1) → valV (kvOf es) (.inr d) = none := by
          intro es
          induction es with
          | nil => intro _; rfl
          | cons r es ih =>
            intro hn
            rw [List.map_cons, List.mem_cons, not_or] at hn
            show valV ((Sum.inr r.1, V.ref r.2) :: kvOf es) _ = _
            rw [valV_neg (fun z => hn.1 (Sum.inr.inj z).symm)]
            exact ih hn.2
        exact this es hn
    · rcases List.mem_append.mp hr with hr | hr
      · rw [upd_ne (t2.ne r hr), upd_ne (ne_of_none (t2.dl r hr) hl)]
        exact t2.dl r hr
      · rw [List.mem_singleton] at hr
        subst hr
        show upd (upd H' l _) D _ l = _
        rw [upd_ne lD.symm, upd_same]
        rfl
    · rcases List.mem_append.mp hr with hr | hr
      · exact t2.bl r hr
      · rw [List.mem_singleton] at hr
        subst hr
        exact hlB
    · rw [List.map_append, List.nodup_append]
      refine ⟨t2.nd, by simp, fun a ha b hb => ?_⟩
      obtain ⟨r, hr, rfl⟩ := List.mem_map.mp ha
      have eb : b = l := by simpa using hb
      rw [eb]
      exact ne_of_none (t2.dl r hr) hl
    · rcases List.mem_append.mp hr with hr | hr
      · exact t2.ne r hr
      · rw [List.mem_singleton] at hr
        subst hr
        exact lD.symm
    · rcases List.mem_append.mp hr with hr | hr
      · exact hf r hr
      · rw [List.mem_singleton] at hr
        subst hr
        exact Evl.fresh_back (u.trans u2).hh hl
  · obtain ⟨Bi, es, u, en, t, hf⟩ := hp
    rw [List.take_length] at en
    have uH := up.trans u
    have n1 : (es.map (·.1)).Nodup := by rw [en]; exact ok.nd
    have hDH : H D = none := Evl.fresh_back up.hh hD
    have hfH : ∀ r ∈ es, H r.2 = none := fun r hr => Evl.fresh_back up.hh (hf r hr)
    refine q_for (it_sq (e_ex (e_var rfl (Rep.mono uH.bb h1)))) uH.bh fun B3 H3 u3 => ⟨fun done σ' B' H' => Up B H B' H' ∧ TabAt es (rawP done) D B' H' ∧ ∃ y2 y3, σ' = [some v, some (.ref D), y2, y3, none],
      ⟨uH.trans u3, t.up u3, none, none, rfl⟩, fun done x rest w σ' B' Hx B2 H' ex b1 bx hP u2 hv => ?_, fun σ' B' H' b1 bx hP => ?_⟩
    · obtain ⟨uB, tB, y2, y3, rfl⟩ := hP
      have t2 := tB.up u2
      have hx : x ∈ prs p.ex := by rw [ex]; simp
      have hxx : x.a ∈ p.sw ∧ x.b ∈ p.sw := by
        obtain ⟨z, hz, rfl⟩ := List.mem_map.mp hx
        exact ok.ex z hz
      have ha : ∃ a, (x.a, a) ∈ es := by
        rw [← en] at hxx
        obtain ⟨z, hz, e1⟩ := List.mem_map.mp hxx.1
        exact ⟨z.2, by rw [← e1]; exact hz⟩
      have hb : ∃ a, (x.b, a) ∈ es := by
        rw [← en] at hxx
        obtain ⟨z, hz, e1⟩ := List.mem_map.mp hxx.2
        exact ⟨z.2, by rw [← e1]; exact hz⟩
      obtain ⟨la, ha⟩ := ha
      obtain ⟨lb, hb⟩ := hb
      have hdl : done.length ≤ p.ex.length := by
        have e1 := congrArg List.length ex
        rw [List.length_append, List.length_cons] at e1
        have e2 : (prs p.ex).length = p.ex.length := by simp [prs]
        omega
      have hsz : ∀ s, (rawP done s).length ≤ 200000 := fun s => by
        have := rawP_len done s
        have := ok.n2
        omega
      refine unp_pr hv u2.bh ?_
      refine qapp_do (x := x.b) (t2.dl _ ha) u2.bh (fun H4 Q4 e4 q4 => ?_) (e_var rfl (at_str.mpr rfl)) (by rw [List.length_map]; exact Nat.le_trans (hsz x.a) (by decide)) fun v5 B5 H5 u5 hv5 => ?_
      · exact ⟨_, rfl, _, rfl, .inr (.inr (.inr ⟨D, .ref la, rfl, .inl ⟨kvOf es, .inr x.a, .inl (e4 _ _ t2.dD), rfl, (valV_kvOf n1 ha).symm⟩, q4⟩))⟩
      · cases at_str.mp hv5
        have t5 := t2.up u5
        have t6 := t5.app ha n1 x.b
        have w6 := ((uB.trans u2).trans u5).mut (o := .lst ((rawP done x.a).map V.str ++ [.str x.b])) (hfH _ ha) (t5.bl _ ha)
        refine app_do (x := x.a) (t6.dl _ hb) w6.bh (fun H4 Q4 e4 q4 => ?_) (e_var (i := 2) rfl (at_str.mpr rfl)) ?_ fun v7 B7 H7 u7 hv7 => ?_
        · exact ⟨_, rfl, _, rfl, .inr (.inr (.inr ⟨D, .ref lb, rfl, .inl ⟨kvOf es, .inr x.b, .inl (e4 _ _ t6.dD), rfl, (valV_kvOf n1 hb).symm⟩, q4⟩))⟩
        · rw [List.length_map]
          have h1 := hsz x.b
          show (if x.b = x.a then rawP done x.b ++ [x.b] else rawP done x.b).length ≤ _
          split
          · rw [List.length_append, List.length_singleton]
            omega
          · omega
        · cases at_str.mp hv7
          have t7 := (t6.up u7).app hb n1 x.a
          have w7 := (w6.trans u7).mut (o := .lst (((if x.b = x.a then rawP done x.b ++ [x.b] else rawP done x.b)).map V.str ++ [.str x.a])) (hfH _ hb) ((t6.up u7).bl _ hb)
          refine ⟨B7, ((b1.trans u2.bb).trans u5.bb).trans u7.bb, w7.bh, w7, ?_, _, _, rfl⟩
          have ec : (fun y => if y = x.b then (if y = x.a then rawP done y ++ [x.b] else rawP done y) ++ [x.a] else (if y = x.a then rawP done y ++ [x.b] else rawP done y)) = rawP (done ++ [x]) := by
            funext y
            rw [rawP_snoc]
            by_cases e1 : y = x.a
            · by_cases e2 : y = x.b
              · rw [if_pos e2, if_pos e1, if_pos e1.symm, if_pos e2.symm]
                simp
              · rw [if_neg e2, if_pos e1, if_pos e1.symm, if_neg (fun z => e2 z.symm)]
                simp
            · by_cases e2 : y = x.b
              · rw [if_pos e2, if_neg e1, if_neg (fun z => e1 z.symm), if_pos e2.symm]
                simp
              · rw [if_neg e2, if_neg e1, if_neg (fun z => e1 z.symm), if_neg (fun z => e2 z.symm)]
                simp
          rw [← ec]
          exact t7
    · obtain ⟨uB, tB, y2, y3, rfl⟩ := hP
      obtain ⟨B4, u4, e4, k4⟩ := uB.freezes (es := (D, HO.dK (kvOf es)) :: es.map fun r => (r.2, HO.lst ((rawP (prs p.ex) r.1).map V.str))) fun r hr => by
        rcases List.mem_cons.mp hr with rfl | hr
        · exact ⟨tB.dD, hDH⟩
        · obtain ⟨z, hz, rfl⟩ := List.mem_map.mp hr
          exact ⟨tB.dl z hz, hfH z hz⟩
      have hB4 : B4 D = some (.dK (kvOf es)) := k4 _ List.mem_cons_self
      have hl4 : ∀ r ∈ es, B4 r.2 = some (.lst ((rawP (prs p.ex) r.1).map V.str)) := fun r hr => k4 (r.2, _) (List.mem_cons_of_mem _ (List.mem_map.mpr ⟨r, hr, rfl⟩))
      have ek : (kvOf es).map (·.1) = p.sw.map Sum.inr := by
        rw [← en]
        unfold kvOf
        rw [List.map_map, List.map_map]
        rfl
      refine lock_do (x := tab p) hB4 u4.bh (fun od => ?_) fun v B5 H5 u5 hv => q v B5 H5 (u4.trans u5) hv
      have hdic : Rep.at_ K (upd B4 D (.frz od (.dK (kvOf es)))) (.ref D) (Dic.mk (es.map fun r => (r.1, rawP (prs p.ex) r.1))) := by
        refine ⟨D, kvOf es, rfl, .inr ⟨od, upd_same⟩, ?_, kvOf_dic fun r hr => ?_⟩
        · rw [kvOf_len]
          have e1 := congrArg List.length en
          rw [List.length_map] at e1
          have := ok.n1
          omega
        · rw [upd_ne (tB.ne r hr)]
          exact hl4 r hr
      have e6 : (Dic.mk (es.map fun r => (r.1, rawP (prs p.ex) r.1)) : Dic (List Str)) = Dic.mk (p.sw.map fun s => (s, raw p.ex s)) := by
        rw [← en, List.map_map]
        congr 1
        refine List.map_congr_left fun r _ => ?_
        show (r.1, rawP (prs p.ex) r.1) = (r.1, raw p.ex r.1)
        rw [rawP_prs]
      rw [e6] at hdic
      refine e_dc (fun s : Str => s) (fun s => rvs p s) (it_keys rfl upd_same ek) (by rw [List.map_id']; exact ok.nd) (by have := ok.n1; omega) fun s hs w B6 b6 hw => turnK_name rfl rfl (e_var rfl hw) ?_
      exact e_sortSq ((e_ixD (e_var rfl (Rep.mono b6 hdic)) (e_var rfl hw) (lookup_map (fun s => raw p.ex s) hs)).imp sq_list) (sortable_str _)
end
end Ob
set_option Elab.async false
set_option linter.all false
set_option maxRecDepth 100000
set_option maxHeartbeats 4000000
/-! M1: texts are ordered; sorted lists; filters by what follows. Plain Lean. -/
namespace Ob
open PySem L2
open PySem.W (Datum Tup DatumOrd)
/-! ### the order of texts -/
theorem str_ext {x y : Str} (h : x.cps.toList = y.cps.toList) : x = y := by
  cases x
  cases y
  simp at h
  rw [h]
theorem ltS_irr (x : Str) : ltS x x = false := decide_eq_false (List.lt_irrefl _)
theorem ltS_tr {x y z : Str} (h : ltS x y = true) (k : ltS y z = true) : ltS x z = true := decide_eq_true (List.lt_trans (of_decide_eq_true h) (of_decide_eq_true k))
theorem ltS_tri (x y : Str) : ltS x y = true ∨ x = y ∨ ltS y x = true := by
  by_cases h : x.cps.toList < y.cps.toList
  · exact .inl (decide_eq_true h)
  · by_cases k : y.cps.toList < x.cps.toList
    · exact .inr (.inr (decide_eq_true k))
    · exact .inr (.inl (str_ext (List.le_antisymm (List.not_lt.mp k) (List.not_lt.mp h))))
theorem ltS_asy {x y : Str} (h : ltS x y = true) : ltS y x = false := by
  cases k : ltS y x with
  | false => rfl
  | true =>
    have := ltS_tr h k
    rw [ltS_irr] at this
    cases this
/-- x is not behind y -/
def leS (x y : Str) : Bool := !ltS y x
theorem leS_total (x y : Str) : (leS x y || leS y x) = true := by
  unfold leS
  rcases ltS_tri x y with h | h | h
  · rw [ltS_asy h]; rfl
  · rw [h, ltS_irr]; rfl
  · rw [ltS_asy h]; simp
theorem leS_trans (x y z : Str) (h : leS x y = true) (k : leS y z = true) : leS x z = true := by
  unfold leS at *
  simp only [Bool.not_eq_true'] at *
  rcases ltS_tri z x with a | a | a
  · rcases ltS_tri y z with b | b | b
    · rw [ltS_tr b a] at h; cases h
    · rw [b] at h; rw [h] at a; cases a
    · rw [b] at k; cases k
  · rw [a]; exact ltS_irr _
  · exact ltS_asy a
theorem leS_anti {x y : Str} (h : leS x y = true) (k : leS y x = true) : x = y := by
  unfold leS at *
  simp only [Bool.not_eq_true'] at *
  rcases ltS_tri x y with a | a | a
  · rw [a] at k; cases k
  · exact a
  · rw [a] at h; cases h
theorem sortD_perm {α : Type} [DecidableEq α] [DatumOrd α] (xs : List α) : (sortD xs).Perm xs := List.mergeSort_perm xs _
theorem sortD_len {α : Type} [DecidableEq α] [DatumOrd α] (xs : List α) : (sortD xs).length = xs.length := (sortD_perm xs).length_eq
theorem mem_sortD {α : Type} [DecidableEq α] [DatumOrd α] {xs : List α} {x : α} : x ∈ sortD xs ↔ x ∈ xs := (sortD_perm xs).mem_iff
theorem sortD_sorted (xs : List Str) : (sortD xs).Pairwise fun x y => leS x y = true := List.pairwise_mergeSort leS_trans leS_total xs
theorem sorted_uniq : ∀ {xs ys : List Str}, xs.Perm ys → xs.Pairwise (fun x y => leS x y = true) → ys.Pairwise (fun x y => leS x y = true) → xs = ys := fun h a b =>
  h.eq_of_pairwise (fun x y _ _ h k => leS_anti h k) a b
/-- strictly ascending -/
def Asc (xs : List Str) : Prop := xs.Pairwise fun x y => ltS x y = true
theorem asc_nodup {xs : List Str} (h : Asc xs) : xs.Nodup := h.imp fun {a b} hab e => by
  rw [e, ltS_irr] at hab
  cases hab
theorem asc_le {xs : List Str} (h : Asc xs) : xs.Pairwise fun x y => leS x y = true := h.imp fun {a b} hab => by
  unfold leS
  rw [ltS_asy hab]
  rfl
theorem sortD_asc {xs : List Str} (h : xs.Nodup) : Asc (sortD xs) := by
  have h1 := sortD_sorted xs
  have h2 : (sortD xs).Nodup := (sortD_perm xs).nodup_iff.mpr h
  refine (h1.and h2).imp fun {a b} hab => ?_
  obtain ⟨hle, hne⟩ := hab
  rcases ltS_tri a b with z | z | z
  · exact z
  · exact absurd z hne
  · unfold leS at hle
    rw [z] at hle
    cases hle
/-- two ascending lists of the same members are one -/
theorem asc_ext {xs ys : List Str} (hx : Asc xs) (hy : Asc ys) (h : ∀ z, z ∈ xs ↔ z ∈ ys) : xs = ys :=
  sorted_uniq ((List.perm_ext_iff_of_nodup (asc_nodup hx) (asc_nodup hy)).mpr h) (asc_le hx) (asc_le hy)
end Ob
set_option Elab.async false
set_option linter.all false
set_option maxRecDepth 100000
set_option maxHeartbeats 4000000
/-! Ob8: sets as dicts, two fors in one comprehension, isinstance of data, two names set at once. -/
namespace Ob
open PySem L2
open Evl (Ex)
open PySem.W (Datum Tup DatumOrd)
/-! ### keys in the order in which they came -/
section
variable {K : PySem.W.Frag} {H B B' : Hp} {v : V} {σ : L2.St} {te ta tb tc tk tv : TE} {tt tt1 tu : TT}
/-! ### what grows at D -/
structure Gw {β : Type} [Rep β] (K : PySem.W.Frag) (B1 H1 : Hp) (D : Addr) (Bi H' : Hp) (ws : List V) (out : List β) : Prop where
  nw : ∀ a, Bi a ≠ none → B1 a ≠ none ∨ H1 a = none
  bD : Bi D = none
  bh : Ex Bi H'
  hh : Ex H1 H'
  eD : H' D = some (.lst ws)
  al : AtAll K Bi ws out
theorem Gw.up {β : Type} [Rep β] {B1 H1 : Hp} {D : Addr} {Bi H' B2 H2 : Hp} {ws : List V} {out : List β} (g : Gw K B1 H1 D Bi H' ws out) (u : Up Bi H' B2 H2) : Gw K B1 H1 D B2 H2 ws out :=
  ⟨fun a ha => (u.nw a ha).elim (g.nw a) fun z => .inr (Evl.fresh_back g.hh z), (u.out g.bD g.eD).1, u.bh, g.hh.trans u.hh, (u.out g.bD g.eD).2, g.al.mono u.bb⟩
theorem Gw.push {β : Type} [Rep β] {B1 H1 : Hp} {D : Addr} {Bi H' : Hp} {ws : List V} {out : List β} {w : V} {y : β} (g : Gw K B1 H1 D Bi H' ws out) (hD : H1 D = none) (h : Rep.at_ K Bi w y) : Gw K B1 H1 D Bi (upd H' D (.lst (ws ++ [w]))) (ws ++ [w]) (out ++ [y]) :=
  ⟨g.nw, g.bD, ex_upd g.bh g.bD, Ex.mut g.hh hD, upd_same, AtAll.snoc g.al h⟩
theorem Pt.stay {b : Bool} {Q : Bool → Hp → Prop} (h : Pt tt σ B b) (e : Ex B H) (q : ∀ H2, Up B H B H2 → Q b H2) : tt σ H Q := h H e Q fun B2 H2 u => q H2 ⟨Ex.refl _, u.bb.trans u.bh, u.hh, fun _ h => .inl h⟩
theorem walk_w {J : It} {n : Nat} {G : Hp → Prop} {Y : Nat → Hp → V → Hp → Prop} (w : Walk J n G Y) {F : (Hp → Prop) → V → Hp → Prop} {H0 : Hp} {Qd : Hp → Prop} (Pv : Nat → Hp → Prop) (h0 : Pv 0 H0) (hG : ∀ i H, i ≤ n → Pv i H → G H)
    (hs : ∀ i x H H', i < n → Pv i H → Y i H x H' → F (Pv (i + 1)) x H') (hd : ∀ H, Pv n H → Qd H) :
    ∃ W : Nat → Nat → Hp → Prop, (∃ m, W 0 m H0) ∧ ∀ i m H, W i m H →
      (J.stop i H ∧ Qd H) ∨ (J.go i H ∧ ∃ Nx : Hp → Prop, (∀ H', Nx H' → ∃ m', m' < m ∧ W (i + 1) m' H') ∧ ∀ x H', J.yld i H x H' → F Nx x H') := by
  refine ⟨fun i m H => m = n - i ∧ i ≤ n ∧ Pv i H, ⟨n, by simp, Nat.zero_le _, h0⟩, ?_⟩
  rintro i m H ⟨rfl, hi, p⟩
  have q := hG i H hi p
  by_cases hlt : i < n
  · exact .inr ⟨w.goes i H hlt q, Pv (i + 1), fun H' p' => ⟨n - (i + 1), by omega, rfl, hlt, p'⟩, fun x H' y => hs i x H H' hlt p (w.yields i H x H' hlt q y)⟩
  · have e : i = n := by omega
    subst e
    exact .inl ⟨w.stops H q, hd H p⟩
end
end Ob
set_option Elab.async false
set_option linter.all false
set_option maxRecDepth 100000
set_option maxHeartbeats 4000000
/-! M2: more on sorted texts; filters by what follows; sorting a dict; names set in pairs. -/
namespace Ob
open PySem L2
open Evl (Ex)
open PySem.W (Datum Tup DatumOrd)
section
variable {K : PySem.W.Frag} {H B B' : Hp} {v : V} {σ : L2.St} {te ta tb tc tk tv : TE} {tt tt1 tu : TT}
/-! ### sorted(dict) -/
/-! ### {x: True for x in xs} -/
/-! ### two names at once -/
/-! ### isinstance of data -/
def tyD : PyData → String
  | .none => "NoneType"
  | .bool _ => "bool"
  | .int _ => "int"
  | .str _ => "str"
  | .list _ => "list"
  | .tuple _ => "tuple"
  | .dict _ => "dict"
theorem dp_ty : ∀ {d : PyData} {v : V}, Dp K H v d → TyX K H v (.type (tyD d))
  | _, _, .non => .base .non
  | _, _, .bl _ => .base (.bl _)
  | _, _, .int _ => .base (.int _)
  | _, _, .str _ => .base (.str _)
  | _, _, .lst h _ => by
    rcases h with (h | ⟨o, h⟩) | ⟨o, its, n, h1, h2, _⟩
    · exact .base (.lst h)
    · exact .base (.frz h)
    · exact .kList h1 h2
  | _, _, .tup h _ => by
    rcases h with (h | ⟨o, h⟩) | ⟨o, its, n, h1, h2, _⟩
    · exact .base (.tup h)
    · exact .fTuple h
    · exact .kTuple h1 h2
end
end Ob
set_option Elab.async false
set_option linter.all false
set_option maxRecDepth 100000
set_option maxHeartbeats 4000000
/-! M3: reading a list that still grows: frozen for the reading, thawed behind it. -/
namespace Ob
open PySem L2
open Evl (Ex)
open PySem.W (Datum Tup DatumOrd)
def cutH (B : Hp) (l : Addr) : Hp := fun a => if a = l then none else B a
theorem cutH_ne {B : Hp} {l a : Addr} (h : a ≠ l) : cutH B l a = B a := if_neg h
theorem cutH_same {B : Hp} {l : Addr} : cutH B l l = none := if_pos rfl
theorem up_cut {B H B2 H2 : Hp} {l : Addr} {o : HO} (hb : B l = none) (u : Up (upd B l o) H B2 H2) : Up B H (cutH B2 l) H2 := by
  refine ⟨fun a x h => ?_, fun a x h => ?_, u.hh, fun a h => ?_⟩
  · have ha : a ≠ l := fun z => by rw [z, hb] at h; cases h
    rw [cutH_ne ha]
    exact u.bb a x (by rw [upd_ne ha]; exact h)
  · by_cases ha : a = l
    · rw [ha, cutH_same] at h
      cases h
    · rw [cutH_ne ha] at h
      exact u.bh a x h
  · by_cases ha : a = l
    · rw [ha, cutH_same] at h
      exact absurd rfl h
    · rw [cutH_ne ha] at h
      have := u.nw a h
      rw [upd_ne ha] at this
      exact this
/-- data in which no list lies -/
class Thaw (α : Type) [Rep α] : Prop where
  thaw : ∀ {K : PySem.W.Frag} {B : Hp} {l : Addr} {ws : List V} {v : V} {x : α}, B l = some (.lst ws) → Rep.at_ K B v x → Rep.at_ K (cutH B l) v x
instance : Thaw Int := ⟨fun _ h => at_int.mpr (at_int.mp h)⟩
instance : Thaw Str := ⟨fun _ h => at_str.mpr (at_str.mp h)⟩
instance : Thaw Bool := ⟨fun _ h => at_bl.mpr (at_bl.mp h)⟩
theorem tup_thaw {B : Hp} {l : Addr} {ws : List V} {a : Addr} {vs : List V} (hl : B l = some (.lst ws)) (h : B a = some (.tup vs)) : cutH B l a = some (.tup vs) := by
  have ha : a ≠ l := fun z => by rw [z, hl] at h; cases h
  rw [cutH_ne ha]
  exact h
instance {α : Type} [DecidableEq α] [Datum α] [Thaw α] : Thaw (Tup α) := ⟨fun hl h => by
  obtain ⟨a, vs, e, h1, h2⟩ := at_tup.mp h
  exact at_tup.mpr ⟨a, vs, e, tup_thaw hl h1, Paired.mapP h2 fun _ _ q => Thaw.thaw hl q⟩⟩
instance {α β : Type} [DecidableEq α] [Datum α] [Thaw α] [DecidableEq β] [Datum β] [Thaw β] : Thaw (α × β) := ⟨fun hl h => by
  obtain ⟨a, v1, v2, e, h1, h2, h3⟩ := at_pair.mp h
  exact at_pair.mpr ⟨a, v1, v2, e, tup_thaw hl h1, Thaw.thaw hl h2, Thaw.thaw hl h3⟩⟩
section
variable {K : PySem.W.Frag} {H B B' : Hp} {v : V} {σ : L2.St} {te ta tb tc tk tv : TE} {tt tt1 tu : TT}
theorem Pe.thaw {α : Type} [Rep α] [Thaw α] {x : α} {l : Addr} {ws : List V} (h : Pe K te σ (upd B l (.lst ws)) x) (hb : B l = none) (e : Ex B H) (hl : H l = some (.lst ws)) {Q : VK}
    (q : ∀ v B2 H2, Up B H B2 H2 → B2 l = none → H2 l = some (.lst ws) → Rep.at_ K B2 v x → Q v H2) : te σ H Q :=
  h H (ex_in e hl) Q fun v B2 H2 u hv => q v (cutH B2 l) H2 (up_cut hb u) cutH_same (u.hh l _ hl) (Thaw.thaw (u.bb l _ upd_same) hv)
theorem Pt.thaw {b : Bool} {l : Addr} {o : HO} (h : Pt tt σ (upd B l o) b) (hb : B l = none) (e : Ex B H) (hl : H l = some o) {Q : Bool → Hp → Prop} (q : ∀ H2, Up B H B H2 → H2 l = some o → Q b H2) : tt σ H Q :=
  h H (ex_in e hl) Q fun B2 H2 u => q H2 ⟨Ex.refl _, e.trans u.hh, u.hh, fun _ h => .inl h⟩ (u.hh l _ hl)
theorem p_ift {b : Bool} {D : Ends} {t1 t2 : TS} {l : Addr} {o : HO} (h : Pt tt σ (upd B l o) b) (hb : B l = none) (e : Ex B H) (hl : H l = some o) (h1 : b = true → ∀ H1, Up B H B H1 → H1 l = some o → t1 D σ H1) (h2 : b = false → ∀ H1, Up B H B H1 → H1 l = some o → t2 D σ H1) : tIfS tt t1 t2 D σ H := h.thaw hb e hl fun H1 u hl1 => by
  cases b with
  | true => exact h1 rfl H1 u hl1
  | false => exact h2 rfl H1 u hl1
end
end Ob
set_option Elab.async false
set_option linter.all false
set_option maxRecDepth 100000
set_option maxHeartbeats 4000000
/-! P3: with_press, states_after, run, last_presses, left_on, touched, effect_of, is_state. -/
namespace Ob
open PySem L2
open Evl (Ex)
open PySem.W (Datum Tup DatumOrd)
/-- a small panel -/
structure PanS (p : Pan) : Prop extends PanOk p where
  s1 : p.sw.length < 60
  s2 : p.ex.length ≤ 400
def look (d : Dic (List Str)) (x : Str) : List Str := (d.kvs.lookup x).getD []
theorem look_of {d : Dic (List Str)} {x : Str} (h : (d.kvs.lookup x).isSome = true) : d.kvs.lookup x = some (look d x) := by
  unfold look
  cases e : d.kvs.lookup x with
  | none => rw [e] at h; cases h
  | some y => rfl
theorem tab_some {p : Pan} {x : Str} (h : x ∈ p.sw) : ((tab p).kvs.lookup x).isSome = true := by
  have : (tab p).kvs.lookup x = some (rvs p x) := lookup_map (fun s => rvs p s) h
  rw [this]
  rfl
theorem look_tab {p : Pan} {x : Str} (h : x ∈ p.sw) : look (tab p) x = rvs p x := by
  have : (tab p).kvs.lookup x = some (rvs p x) := lookup_map (fun s => rvs p s) h
  unfold look
  rw [this]
  rfl
theorem mem_raw {ex : List (Str × Str)} {s x : Str} : x ∈ raw ex s ↔ (s, x) ∈ ex ∨ (x, s) ∈ ex := by
  unfold raw
  rw [List.mem_flatMap]
  constructor
  · rintro ⟨⟨a, b⟩, he, h⟩
    rcases List.mem_append.mp h with h | h
    · by_cases e : a = s
      · subst e
        have : x = b := by simpa using h
        exact .inl (this ▸ he)
      · rw [if_neg e] at h; cases h
    · by_cases e : b = s
      · subst e
        have : x = a := by simpa using h
        exact .inr (this ▸ he)
      · rw [if_neg e] at h; cases h
  · rintro (h | h)
    · exact ⟨_, h, by simp⟩
    · exact ⟨_, h, by simp⟩
theorem mem_rvs {p : Pan} {s x : Str} : x ∈ rvs p s ↔ (s, x) ∈ p.ex ∨ (x, s) ∈ p.ex := mem_sortD.trans mem_raw
/-! ### what presses do -/
def wp (rv : Str → List Str) (st : List Str) (x : Str) : List Str := sortD (st.filter (fun o => !decide (o ∈ rv x) && !decide (o = x)) ++ [x])
theorem atI_last {α : Type} {xs : List α} {n : Nat} {x : α} (hn : xs.length = n + 1) (h : xs[n]? = some x) : atI xs (-1) = some x := by
  unfold atI ixN
  rw [if_neg (by decide), hn, if_pos (by omega)]
  show xs[((-1 : Int) + ((n + 1 : Nat) : Int)).toNat]? = some x
  rw [show ((-1 : Int) + ((n + 1 : Nat) : Int)).toNat = n by omega]
  exact h
/-! ### effects -/
abbrev Eff : Type := Tup Str × Tup Str
end Ob
set_option Elab.async false
set_option linter.all false
set_option maxRecDepth 100000
set_option maxHeartbeats 4000000
namespace Ob
open PySem L2
open Evl (Ex)
open PySem.W (Datum Tup DatumOrd)
section
variable {K : PySem.W.Frag}
/-! ### with_press -/
abbrev sp_with_press (K : PySem.W.Frag) : Sp := Fn3 K (fun (d : Dic (List Str)) (s : Sq Str) (x : Str) => (d.kvs.lookup x).isSome = true ∧ s.items.length ≤ 100000) fun d s x => Tup.mk (wp (look d) s.items x)
def N_with_press : List Str := ["rivals", "state", "switch", "other"]
def t_with_press (K : PySem.W.Frag) : TS :=
  (tRet (tCB (rTupleU K) (tCons (tCB (rSortU K) (tCons (tOp (rAddU K) (tLc (iSeq K (tVar 1)) (gName 3) (tAnd (tTest (tOp (rInU K true) (tVar 3) (tOp (rIxU K) (tVar 0) (tVar 2)))) (tTest (tOp (rNeP K) (tVar 3) (tVar 2)))) (tVar 3) [3]) (tLst (tCons (tVar 2) tNil))) tNil)) tNil)))
theorem l_with_press (vs : List V) (H : Hp) (Q : VK) (E : XK) (h : sp_with_press K vs H Q E) : vs.length = 3 := Fn3.len vs H Q E h
theorem r_with_press (vs : List V) (H : Hp) (Q : VK) (E : XK) (h : sp_with_press K vs H Q E) : t_with_press K (Ends.ret Q) (start N_with_press vs) H := by
  obtain ⟨d, s, x, B, e, ⟨v1, _, rfl, h1, v2, _, rfl, h2, v3, _, rfl, h3, rfl⟩, ⟨hx, hs⟩, q⟩ := h
  obtain ⟨xs⟩ := s
  refine p_ret (e_tupL (α := Str) ((e_sortSq ((e_addL (e_lc (fun o => ngb true (decide (o ∈ look d x)) && !decide (o = x)) (fun o : Str => o) (it_sq (e_var rfl h2)) ?_ fun o _ v B1 b1 hv => ?_) (e_lst1 (e_var rfl h3)) ?_).imp sq_list) (sortable_str _)).is ?_)) e q
  · exact Nat.le_trans hs (by decide)
  · exact turn_name rfl rfl (t_and (t_test (e_inL (e_var rfl hv) (e_ixD (e_var rfl (Rep.mono b1 h1)) (e_var rfl (Rep.mono b1 h3)) (look_of hx)) true)) fun _ => t_test (e_ne (e_var rfl hv) (e_var rfl (Rep.mono b1 h3)))) fun _ => e_var rfl hv
  · rw [List.length_map]
    have := List.length_filter_le (fun o => ngb true (decide (o ∈ look d x)) && !decide (o = x)) xs
    simp only [List.length_singleton]
    have hs' : xs.length ≤ 100000 := hs
    omega
  · rw [List.map_id']
    rfl
/-! ### states_after, run -/
/-! ### last_presses -/
end
end Ob
set_option Elab.async false
set_option linter.all false
set_option maxRecDepth 100000
set_option maxHeartbeats 4000000
/-! En: enumerate over a tuple, or over a list or a tuple. -/
namespace PySem
open Sem (wp)
end PySem
namespace L2
open PySem PySem.Spec PyProof.Rows
end L2
set_option Elab.async false
set_option linter.all false
set_option maxRecDepth 100000
set_option maxHeartbeats 4000000
namespace Ob
open PySem L2
open Evl (Ex)
open PySem.W (Datum Tup DatumOrd)
section
variable {K : PySem.W.Frag}
/-! ### touched -/
/-! ### left_on -/
/-! ### effect_of -/
theorem look_rvs {p : Pan} {os : List Str} (h : ∀ x ∈ os, x ∈ p.sw) : ∀ x ∈ os, look (tab p) x = rvs p x := fun x hx => look_tab (h x hx)
/-! ### is_state, of a tuple of texts -/
end
end Ob
set_option Elab.async false
set_option linter.all false
set_option maxRecDepth 100000
set_option maxHeartbeats 4000000
/-! D1: the law's box of drawn numbers: what may change it; take, of. -/
namespace Ob
open PySem L2
open Evl (Ex)
open PySem.W (Datum Tup DatumOrd)
/-- as Up, but the object at b may change -/
structure Ub (b : Addr) (B H B2 H2 : Hp) : Prop where
  bb : Ex B B2
  bh : Ex B2 H2
  hh : ∀ a u, a ≠ b → H a = some u → H2 a = some u
  nw : ∀ a, B2 a ≠ none → B a ≠ none ∨ H a = none
structure BoxAt (c : Int) (B H : Hp) (b : Addr) : Prop where
  fb : B b = none
  bx : ∃ g m k : Int, H b = some (.lst [.int g, .int m, .int k]) ∧ 0 ≤ g ∧ 0 ≤ m ∧ m < 2 ^ 62 ∧ 0 ≤ k ∧ k ≤ c
theorem BoxAt.le {c d : Int} {B H : Hp} {b : Addr} (h : BoxAt c B H b) (hd : c ≤ d) : BoxAt d B H b := by
  obtain ⟨f, g, m, k, h1, h2, h3, h4, h5, h6⟩ := h
  exact ⟨f, g, m, k, h1, h2, h3, h4, h5, Int.le_trans h6 hd⟩
theorem BoxAt.ne {c : Int} {B H : Hp} {b : Addr} (h : BoxAt c B H b) : H b ≠ none := by
  obtain ⟨f, g, m, k, h1, _⟩ := h
  rw [h1]
  exact fun z => nomatch z
theorem Up.ub {b : Addr} {B H B2 H2 : Hp} (u : Up B H B2 H2) : Ub b B H B2 H2 := ⟨u.bb, u.bh, fun a o _ h => u.hh a o h, u.nw⟩
theorem Ub.refl {b : Addr} {B H : Hp} (e : Ex B H) : Ub b B H B H := (Up.refl e).ub
theorem Up.box {c : Int} {b : Addr} {B H B2 H2 : Hp} (u : Up B H B2 H2) (x : BoxAt c B H b) : BoxAt c B2 H2 b := by
  obtain ⟨f, g, m, k, h1, h2⟩ := x
  exact ⟨(u.out f h1).1, g, m, k, (u.out f h1).2, h2⟩
theorem Ub.trans {b : Addr} {B H B1 H1 B2 H2 : Hp} (u : Ub b B H B1 H1) (hb : H1 b ≠ none) (w : Ub b B1 H1 B2 H2) : Ub b B H B2 H2 :=
  ⟨u.bb.trans w.bb, w.bh, fun a o ne h => w.hh a o ne (u.hh a o ne h), fun x h => by
    rcases w.nw x h with z | z
    · exact u.nw x z
    · cases q : H x with
      | none => exact .inr rfl
      | some o =>
        by_cases e : x = b
        · subst e
          exact absurd z hb
        · rw [u.hh x o e q] at z
          cases z⟩
theorem Ub.up {b : Addr} {B H B1 H1 B2 H2 : Hp} (u : Ub b B H B1 H1) (hb : H1 b ≠ none) (w : Up B1 H1 B2 H2) : Ub b B H B2 H2 := u.trans hb w.ub
theorem Ub.mut {b : Addr} {B H B2 H2 : Hp} (u : Ub b B H B2 H2) {o : HO} (hb : B2 b = none) : Ub b B H B2 (upd H2 b o) :=
  ⟨u.bb, ex_upd u.bh hb, fun a x ne h => by rw [upd_ne ne]; exact u.hh a x ne h, u.nw⟩
theorem Ub.fb {b : Addr} {B H B2 H2 : Hp} (u : Ub b B H B2 H2) {a : Addr} {o : HO} (hb : B a = none) (h : H a = some o) : B2 a = none := by
  cases q : B2 a with
  | none => rfl
  | some x =>
    rcases u.nw a (by rw [q]; exact fun z => nomatch z) with z | z
    · exact absurd hb z
    · rw [h] at z
      cases z
theorem Ub.out {b : Addr} {B H B2 H2 : Hp} (u : Ub b B H B2 H2) {a : Addr} {o : HO} (hb : B a = none) (h : H a = some o) (ne : a ≠ b) : B2 a = none ∧ H2 a = some o := ⟨u.fb hb h, u.hh a o ne h⟩
/-- a mutation elsewhere of what is new -/
theorem Ub.put {b : Addr} {B H B2 H2 : Hp} (u : Ub b B H B2 H2) {a : Addr} {o : HO} (hf : H a = none) (hb : B2 a = none) : Ub b B H B2 (upd H2 a o) :=
  ⟨u.bb, ex_upd u.bh hb, fun c x ne h => by
    have : c ≠ a := fun z => by rw [z, hf] at h; cases h
    rw [upd_ne this]
    exact u.hh c x ne h, u.nw⟩
/-- back to a heap in which b is new -/
theorem Ub.new {b : Addr} {B H B1 H1 B2 H2 : Hp} (u : Up B H B1 H1) (hn : H b = none) (hb : H1 b ≠ none) (w : Ub b B1 H1 B2 H2) : Up B H B2 H2 :=
  ⟨u.bb.trans w.bb, w.bh, fun a o h => by
    have ne : a ≠ b := fun z => by rw [z, hn] at h; cases h
    exact w.hh a o ne (u.hh a o h), ((Up.ub u).trans hb w).nw⟩
section
variable (K : PySem.W.Frag)
/-- a reading that draws at most n numbers from the box at b: what it gives is R -/
def Pb {α : Type} [Rep α] (b : Addr) (n : Int) (te : TE) (σ : L2.St) (B : Hp) (R : α → Prop) : Prop := ∀ H c, Ex B H → BoxAt c B H b → c + n ≤ 2 ^ 40 → ∀ Q : VK, (∀ v x B2 H2, Ub b B H B2 H2 → BoxAt (c + n) B2 H2 b → R x → Rep.at_ K B2 v x → Q v H2) → te σ H Q
def FnB1 {α β : Type} [Rep α] [Rep β] (n : Int) (pre : α → Prop) (R : α → β → Prop) : Sp := fun vs H Q _ => ∃ b B c x, Ex B H ∧ BoxAt c B H b ∧ c + n ≤ 2 ^ 40 ∧ (∃ v, vs = [.ref b, v] ∧ Rep.at_ K B v x) ∧ pre x ∧ ∀ v y B2 H2, Ub b B H B2 H2 → BoxAt (c + n) B2 H2 b → R x y → Rep.at_ K B2 v y → Q v H2
def FnB2 {α β γ : Type} [Rep α] [Rep β] [Rep γ] (n : Int) (pre : α → β → Prop) (R : α → β → γ → Prop) : Sp := fun vs H Q _ => ∃ b B c x y, Ex B H ∧ BoxAt c B H b ∧ c + n ≤ 2 ^ 40 ∧ (∃ v w, vs = [.ref b, v, w] ∧ Rep.at_ K B v x ∧ Rep.at_ K B w y) ∧ pre x y ∧ ∀ v z B2 H2, Ub b B H B2 H2 → BoxAt (c + n) B2 H2 b → R x y z → Rep.at_ K B2 v z → Q v H2
end
section
variable {K : PySem.W.Frag} {H B B' : Hp} {v : V} {σ : L2.St} {te ta tb tc tk tv : TE} {tt tt1 tu : TT} {b : Addr} {n m : Int}
section
variable {α β γ : Type} [Rep α] [Rep β] [Rep γ]
theorem FnB1.len {pre : α → Prop} {R : α → β → Prop} (vs : List V) (H : Hp) (Q : VK) (E : XK) (h : FnB1 K n pre R vs H Q E) : vs.length = 2 := by
  obtain ⟨b, B, c, x, _, _, _, ⟨v, rfl, _⟩, _⟩ := h
  rfl
theorem FnB2.len {pre : α → β → Prop} {R : α → β → γ → Prop} (vs : List V) (H : Hp) (Q : VK) (E : XK) (h : FnB2 K n pre R vs H Q E) : vs.length = 3 := by
  obtain ⟨b, B, c, x, y, _, _, _, ⟨v, w, rfl, _⟩, _⟩ := h
  rfl
theorem Pe.pb {x : α} (h : Pe K te σ B x) : Pb K b 0 te σ B (fun y => y = x) := fun H c e bx hc Q q => h H e Q fun v B2 H2 u hv => q v x B2 H2 u.ub ((u.box bx).le (by omega)) rfl hv
theorem Pb.imp {R R' : α → Prop} (h : Pb K b n te σ B R) (k : ∀ x, R x → R' x) : Pb K b n te σ B R' := fun H c e bx hc Q q => h H c e bx hc Q fun v x B2 H2 u ub r hv => q v x B2 H2 u ub (k x r) hv
theorem Pb.mono {R : α → Prop} (h : Pb K b n te σ B R) (e : Ex B B') : Pb K b n te σ B' R := fun H c a bx hc Q q => by
  have fb0 : B b = none := by
    cases z : B b with
    | none => rfl
    | some o =>
      have := e b o z
      rw [bx.fb] at this
      cases this
  have bx0 : BoxAt c B H b := ⟨fb0, bx.bx⟩
  refine h H c (e.trans a) bx0 hc Q fun v x B2 H2 u ub r hv => ?_
  have hB' : ∀ z o, B' z = some o → z ≠ b := fun z o hz w => by rw [w, bx.fb] at hz; cases hz
  refine q v x (fun a => match B2 a with | some o => some o | none => B' a) H2 ⟨fun z o hz => ?_, fun z o hz => ?_, u.hh, fun z hz => ?_⟩ ⟨?_, ub.bx⟩ r (Rep.mono (fun z o hz => ?_) hv)
  · show (match B2 z with | some o => some o | none => B' z) = some o
    cases y : B2 z with
    | none => exact hz
    | some o' =>
      have h1 := u.bh z o' y
      rw [u.hh z o (hB' z o hz) (a z o hz)] at h1
      show some o' = some o
      rw [h1]
  · have hz' : (match B2 z with | some o => some o | none => B' z) = some o := hz
    cases y : B2 z with
    | none =>
      rw [y] at hz'
      exact u.hh z o (hB' z o hz') (a z o hz')
    | some o' =>
      rw [y] at hz'
      rw [← hz']
      exact u.bh z o' y
  · have hz' : (match B2 z with | some o => some o | none => B' z) ≠ none := hz
    cases y : B2 z with
    | none =>
      rw [y] at hz'
      exact .inl hz'
    | some o' =>
      rcases u.nw z (by rw [y]; exact fun w => nomatch w) with w | w
      · refine .inl ?_
        cases zb : B z with
        | none => exact absurd zb w
        | some ob =>
          rw [e z ob zb]
          exact fun w => nomatch w
      · exact .inr w
  · show (match B2 b with | some o => some o | none => B' b) = none
    rw [ub.fb]
    exact bx.fb
  · show (match B2 z with | some o => some o | none => B' z) = some o
    rw [hz]
theorem Pb.le {R : α → Prop} (h : Pb K b n te σ B R) (hn : n ≤ m) : Pb K b m te σ B R := fun H c e bx hc Q q => h H c e bx (by omega) Q fun v x B2 H2 u ub r hv => q v x B2 H2 u (ub.le (by omega)) r hv
/-- the call of a def with the box and one argument -/
theorem b_call1 {pre : α → Prop} {R0 : α → Prop} {R : α → β → Prop} {E : XK} {i : Nat} (hi : σ[i]? = some (some (.ref b))) (h : Pb K b m te σ B R0) (hp : ∀ x, R0 x → pre x) (hn : 0 ≤ n := by decide) : Pb K b (m + n) (tCall (FnB1 K n pre R) [] E (tCons (tVar i) (tCons te tNil))) σ B (fun z => ∃ x, R0 x ∧ R x z) := fun H c e bx hc Q q =>
  ⟨_, hi, h H c e bx (by omega) _ fun v x B2 H2 u ub r hv => ⟨b, B2, c + m, x, u.bh, ub, by omega, ⟨v, rfl, hv⟩, hp x r, fun w y B3 H3 u3 ub3 r3 hw => q w y B3 H3 (u.trans ub.ne u3) (ub3.le (by omega)) ⟨x, r, r3⟩ hw⟩⟩
theorem e_callB1 {pre : α → Prop} {R : α → β → Prop} {E : XK} {i : Nat} {x : α} (hi : σ[i]? = some (some (.ref b))) (h : Pe K te σ B x) (hp : pre x) (hn : 0 ≤ n := by decide) : Pb K b n (tCall (FnB1 K n pre R) [] E (tCons (tVar i) (tCons te tNil))) σ B (R x) :=
  ((b_call1 hi h.pb (fun y hy => by rw [hy]; exact hp) hn).imp (R' := R x) fun z ⟨y, hy, r⟩ => by rw [hy] at r; exact r).le (by omega)
theorem b_call2 {pre : α → β → Prop} {R0 : α → Prop} {R : α → β → γ → Prop} {E : XK} {i : Nat} {y : β} (hi : σ[i]? = some (some (.ref b))) (h : Pb K b m te σ B R0) (h2 : Pe K tb σ B y) (hp : ∀ x, R0 x → pre x y) (hn : 0 ≤ n := by decide) : Pb K b (m + n) (tCall (FnB2 K n pre R) [] E (tCons (tVar i) (tCons te (tCons tb tNil)))) σ B (fun z => ∃ x, R0 x ∧ R x y z) := fun H c e bx hc Q q =>
  ⟨_, hi, h H c e bx (by omega) _ fun v x B2 H2 u ub r hv => (h2.mono u.bb) H2 u.bh _ fun w B3 H3 u3 hw => ⟨b, B3, c + m, x, y, u3.bh, u3.box ub, by omega, ⟨v, w, rfl, Rep.mono u3.bb hv, hw⟩, hp x r, fun w y B4 H4 u4 ub4 r4 hw4 => q w y B4 H4 ((u.up ub.ne u3).trans (u3.box ub).ne u4) (ub4.le (by omega)) ⟨x, r, r4⟩ hw4⟩⟩
theorem e_callB2 {pre : α → β → Prop} {R : α → β → γ → Prop} {E : XK} {i : Nat} {x : α} {y : β} (hi : σ[i]? = some (some (.ref b))) (h : Pe K te σ B x) (h2 : Pe K tb σ B y) (hp : pre x y) (hn : 0 ≤ n := by decide) : Pb K b n (tCall (FnB2 K n pre R) [] E (tCons (tVar i) (tCons te (tCons tb tNil)))) σ B (R x y) :=
  ((b_call2 hi h.pb h2 (fun z hz => by rw [hz]; exact hp) hn).imp (R' := R x y) fun z ⟨x', hx, r⟩ => by rw [hx] at r; exact r).le (by omega)
/-- an operation, the second reading draws -/
theorem b_op {r : R2} {x : α} {R : β → Prop} {f : β → γ} (ha : Pe K ta σ B x) (hb : Pb K b n tb σ B R) (hr : ∀ y, R y → RD K r x y (f y)) : Pb K b n (tOp r ta tb) σ B (fun z => ∃ y, R y ∧ z = f y) := fun H c e bx hc Q q =>
  ha H e _ fun v B1 H1 u1 hv => by
    -- the frozen part that the first reading made is handed on
    refine (fun (hb' : Pb K b n tb σ B1 R) => hb' H1 c u1.bh (u1.box bx) hc _ fun w y B2 H2 u2 ub r2 hw => hr y r2 B2 H2 v w u2.bh (Rep.mono u2.bb hv) hw Q fun z B3 H3 u3 hz => q z (f y) B3 H3 ((u1.ub.trans (u1.box bx).ne u2).up ub.ne u3) (u3.box ub) ⟨y, r2, rfl⟩ hz) ?_
    exact hb.mono u1.bb
/-- an operation, the first reading draws -/
theorem b_opL {r : R2} {y : β} {R : α → Prop} {f : α → γ} (ha : Pb K b n ta σ B R) (hb : Pe K tb σ B y) (hr : ∀ x, R x → RD K r x y (f x)) : Pb K b n (tOp r ta tb) σ B (fun z => ∃ x, R x ∧ z = f x) := fun H c e bx hc Q q =>
  ha H c e bx hc _ fun v x B1 H1 u1 ub r1 hv => (hb.mono u1.bb) H1 u1.bh _ fun w B2 H2 u2 hw => hr x r1 B2 H2 v w u2.bh (Rep.mono u2.bb hv) hw Q fun z B3 H3 u3 hz => q z (f x) B3 H3 (u1.up ub.ne (u2.trans u3)) ((u2.trans u3).box ub) ⟨x, r1, rfl⟩ hz
theorem p_retB {D : Ends} {c : Int} {R : α → Prop} (h : Pb K b n te σ B R) (e : Ex B H) (bx : BoxAt c B H b) (hc : c + n ≤ 2 ^ 40) (k : ∀ v x B1 H1, Ub b B H B1 H1 → BoxAt (c + n) B1 H1 b → R x → Rep.at_ K B1 v x → D.rt v H1) : tRet te D σ H := h H c e bx hc _ fun v x B1 H1 u ub r hv => k v x B1 H1 u ub r hv
end
/-! ### the box's own numbers, read and set -/
section
variable {g mm k : Int}
theorem box_ix {i : Nat} {j x : Int} (hi : σ[i]? = some (some (.ref b))) (hx : atI [g, mm, k] j = some x) : Pe K (tOp (rIxU K) (tVar i) (tC (.int j))) σ (upd B b (.lst [.int g, .int mm, .int k])) x :=
  e_ixL (α := Int) (e_var hi (at_list.mpr ⟨b, _, rfl, Evl.sq_of upd_same, ints_atAll [g, mm, k]⟩)) e_int hx
theorem q_setBox {D : Ends} {tz : TS} {xs : List V} {i : Nat} {j : Int} {jj : Nat} {α : Type} [Rep α] [Thaw α] {x : α} (hi : σ[i]? = some (some (.ref b))) (h : Pe K te σ (upd B b (.lst xs)) x) (hb : B b = none) (e : Ex B H) (hl : H b = some (.lst xs)) (hj : ixN xs.length j = some jj)
    (q : ∀ v B1 H1, Up B H B1 H1 → B1 b = none → H1 b = some (.lst xs) → Rep.at_ K B1 v x → tz D σ (upd H1 b (.lst (xs.set jj v)))) : tSeq (tAsg te (gSub (tVar i) (tC (.int j)) rSetL)) tz D σ H :=
  h.thaw hb e hl fun v B1 H1 u b1 h1 hv => ⟨_, hi, ⟨b, xs, j, jj, rfl, rfl, h1, hj, q v B1 H1 u b1 h1 hv⟩⟩
theorem q_setT {D : Ends} {tz : TS} {o : List V} {i : Nat} {α : Type} [Rep α] [Thaw α] {x : α} (h : Pe K te σ (upd B b (.lst o)) x) (hb : B b = none) (e : Ex B H) (hl : H b = some (.lst o))
    (q : ∀ v B1 H1, Up B H B1 H1 → B1 b = none → H1 b = some (.lst o) → Rep.at_ K B1 v x → tz D (σ.set i (some v)) H1) : tSeq (tAsg te (gName i)) tz D σ H :=
  h.thaw hb e hl fun v B1 H1 u b1 h1 hv => q v B1 H1 u b1 h1 hv
end
/-! ### take -/
abbrev sp_Ltake (K : PySem.W.Frag) : Sp := FnB1 K 1 (fun n : Int => 0 < n ∧ n < 1073741824) (fun n (k : Int) => 0 ≤ k ∧ k < n)
def N_Ltake : List Str := ["_law_box_here", "_law_size", "_law_value", "_law_once", "_law_twice"]
def t_Ltake (K : PySem.W.Frag) : TS :=
  (tSeq (tIfS (tTest (tOp (rGtU K) (tOp (rIxU K) (tVar 0) (tC (.int 0))) (tC (.int 0)))) (tSeq (tAsg (tOp (rI (fun _ j => 0 < j) fun i j => .int (i % j)) (tOp (rIxU K) (tVar 0) (tC (.int 0))) (tVar 1)) (gName 2))
    (tSeq (tAsg (tOp (rI CDiv fun i j => .int (i / j)) (tOp (rIxU K) (tVar 0) (tC (.int 0))) (tVar 1)) (gSub (tVar 0) (tC (.int 0)) rSetL))
    (tRet (tVar 2)))) tNext)
    (tSeq (tAsg (tOp (rAddU K) (tOp (rIxU K) (tVar 0) (tC (.int 2))) (tC (.int 1))) (gSub (tVar 0) (tC (.int 2)) rSetL))
    (tSeq (tAsg (tOp (rI (fun _ j => 0 < j) fun i j => .int (i % j)) (tOp (rMulU) (tOp (rAddU K) (tOp (rIxU K) (tVar 0) (tC (.int 1))) (tOp (rMulU) (tC (.int 39373)) (tOp (rIxU K) (tVar 0) (tC (.int 2))))) (tOp (rAddU K) (tC (.int 48271)) (tOp (rIxU K) (tVar 0) (tC (.int 2))))) (tC (.int 2147483629))) (gName 3))
    (tSeq (tAsg (tOp (rI (fun _ j => 0 < j) fun i j => .int (i % j)) (tOp (rMulU) (tOp (rAddU K) (tOp (rAddU K) (tVar 3) (tOp (rIxU K) (tVar 0) (tC (.int 2)))) (tOp (rI CDiv fun i j => .int (i / j)) (tOp (rIxU K) (tVar 0) (tC (.int 1))) (tC (.int 1000003)))) (tOp (rAddU K) (tOp (rI (fun _ j => 0 < j) fun i j => .int (i % j)) (tVar 3) (tC (.int 30011))) (tC (.int 5)))) (tC (.int 2147483587))) (gName 4))
    (tRet (tOp (rI (fun _ j => 0 < j) fun i j => .int (i % j)) (tOp (rI CDiv fun i j => .int (i / j)) (tOp (rI (fun _ j => 0 < j) fun i j => .int (i % j)) (tOp (rAddU K) (tOp (rMulU) (tVar 4) (tC (.int 39373))) (tVar 3)) (tC (.int 2147483563))) (tC (.int 32))) (tVar 1)))))))
theorem l_Ltake (vs : List V) (H : Hp) (Q : VK) (E : XK) (h : sp_Ltake K vs H Q E) : vs.length = 2 := FnB1.len vs H Q E h
theorem cmul_small {i j : Int} (h1 : 0 ≤ j) (h2 : j < 2 ^ 62) : CMul i j := .inr ⟨by omega, by omega⟩
theorem r_Ltake (vs : List V) (H : Hp) (Q : VK) (E : XK) (h : sp_Ltake K vs H Q E) : t_Ltake K (Ends.ret Q) (start N_Ltake vs) H := by
  obtain ⟨b, B, c, n, e, bx, hc, ⟨v, rfl, hv⟩, ⟨hn, hn2⟩, q⟩ := h
  cases at_int.mp hv
  obtain ⟨fb, g, mm, k, hb, g0, m0, m1, k0, k1⟩ := bx
  have hv' : ∀ B : Hp, Rep.at_ K B (.int n) n := fun B => at_int.mpr rfl
  refine p_ift (b := decide ((0 : Int) < g)) (t_test (e_gt (box_ix rfl rfl) e_int)) fb e hb (fun hg H1 u1 hb1 => ?_) (fun hg H1 u1 hb1 => ?_)
  · have g1 : 0 < g := of_decide_eq_true hg
    refine q_setT (e_modI (box_ix rfl rfl) (e_var rfl (hv' _)) hn) fb u1.bh hb1 fun w B2 H2 u2 fb2 hb2 hw => ?_
    cases at_int.mp hw
    refine q_setBox (i := 0) (jj := 0) rfl (e_divI (i := g) (j := n) (box_ix rfl rfl) (e_var rfl (hv' _)) ⟨hn, hn2⟩) fb2 u2.bh hb2 rfl fun w3 B3 H3 u3 fb3 hb3 hw3 => ?_
    cases at_int.mp hw3
    refine p_ret (K := K) (x := g % n) (e_var rfl (at_int.mpr rfl)) (ex_upd u3.bh fb3) fun w4 B4 H4 u4 hw4 => ?_
    have u : Ub b B H B3 H3 := ((u1.trans u2).trans u3).ub
    refine q w4 (g % n) B4 H4 ((u.mut fb3).up (by rw [upd_same]; exact fun z => nomatch z) u4) (u4.box ⟨fb3, g / n, mm, k, upd_same, Int.ediv_nonneg g0 (by omega), m0, m1, k0, by omega⟩) ⟨Int.emod_nonneg _ (by omega), Int.emod_lt_of_pos _ hn⟩ hw4
  · refine q_setBox (i := 0) (jj := 2) rfl (e_addI (i := k) (j := 1) (box_ix rfl rfl) e_int) fb u1.bh hb1 rfl fun w3 B3 H3 u3 fb3 hb3 hw3 => ?_
    cases at_int.mp hw3
    have u : Ub b B H B3 (upd H3 b (.lst [.int g, .int mm, .int (k + 1)])) := ((u1.trans u3).ub).mut fb3
    have e3 : Ex B3 (upd H3 b (.lst [.int g, .int mm, .int (k + 1)])) := ex_upd u3.bh fb3
    have hb3' : upd H3 b (.lst [.int g, .int mm, .int (k + 1)]) b = some (.lst [.int g, .int mm, .int (k + 1)]) := upd_same
    have bx3 : BoxAt (c + 1) B3 (upd H3 b (.lst [.int g, .int mm, .int (k + 1)])) b := ⟨fb3, g, mm, k + 1, upd_same, g0, m0, m1, by omega, by omega⟩
    generalize hH : upd H3 b (.lst [.int g, .int mm, .int (k + 1)]) = H3' at u e3 hb3' bx3
    show tSeq _ _ _ _ (upd H3 b (.lst [.int g, .int mm, .int (k + 1)]))
    rw [hH]
    refine q_setT (e_modI (e_mulI (e_addI (box_ix rfl rfl) (e_mulI e_int (box_ix rfl rfl) (cmul_small (by omega) (by omega)))) (e_addI e_int (box_ix rfl rfl)) (cmul_small (by omega) (by omega))) e_int (by decide)) fb3 e3 hb3' fun w4 B4 H4 u4 fb4 hb4 hw4 => ?_
    generalize ho : (mm + 39373 * (k + 1)) * (48271 + (k + 1)) % 2147483629 = once at hw4
    have o0 : 0 ≤ once := by rw [← ho]; exact Int.emod_nonneg _ (by decide)
    have o1 : once < 2147483629 := by rw [← ho]; exact Int.emod_lt_of_pos _ (by decide)
    cases at_int.mp hw4
    have ov : ∀ B : Hp, Rep.at_ K B (V.int once) once := fun B => at_int.mpr rfl
    refine q_setT (e_modI (e_mulI (e_addI (e_addI (e_var rfl (ov _)) (box_ix rfl rfl)) (e_divI (box_ix rfl rfl) e_int ⟨by decide, by decide⟩)) (e_addI (e_modI (e_var rfl (ov _)) e_int (by decide)) e_int) (cmul_small ?_ ?_)) e_int (by decide)) fb4 u4.bh hb4 fun w5 B5 H5 u5 fb5 hb5 hw5 => ?_
    · have := Int.emod_nonneg once (b := 30011) (by decide)
      omega
    · have := Int.emod_lt_of_pos once (b := 30011) (by decide)
      omega
    · generalize (once + (k + 1) + mm / 1000003) * (once % 30011 + 5) % 2147483587 = twice at hw5
      cases at_int.mp hw5
      refine p_ret (e_modI (e_divI (e_modI (e_addI (e_mulI (e_var rfl (at_int.mpr rfl)) e_int (cmul_small (by decide) (by decide))) (e_var rfl (ov _))) e_int (by decide)) e_int ⟨by decide, by decide⟩) (e_var rfl (hv' _)) hn) u5.bh fun w6 B6 H6 u6 hw6 => ?_
      exact q w6 _ B6 H6 (u.up bx3.ne ((u4.trans u5).trans u6)) (((u4.trans u5).trans u6).box bx3) ⟨Int.emod_nonneg _ (by omega), Int.emod_lt_of_pos _ hn⟩ hw6
end
end Ob
set_option Elab.async false
set_option linter.all false
set_option maxRecDepth 100000
set_option maxHeartbeats 4000000
/-! D2: cell_at, box, of, strewn, names. -/
namespace Ob
open PySem L2
open Evl (Ex)
open PySem.W (Datum Tup DatumOrd)
section
variable {K : PySem.W.Frag} {H B B' : Hp} {v : V} {σ : L2.St} {te ta tb tc tk tv : TE} {tt tt1 tu : TT} {b : Addr} {n m : Int}
theorem e_const {α : Type} [Rep α] {x : α} (h : Rep.at_ K B v x) : Pe K (tC v) σ B x := fun H e Q q => q v B H (Up.refl e) h
/-- an expression around a reading that draws first -/
theorem b_lift {α β : Type} [Rep α] [Rep β] {R : α → Prop} {S : β → Prop} (ctx : TE → TE) (h : Pb K b n te σ B R) (k : ∀ x, R x → ∀ v B', Ex B B' → Rep.at_ K B' v x → ∃ z, S z ∧ Pe K (ctx (tC v)) σ B' z)
    (hctx : ∀ H Q, (te σ H fun v H1 => ctx (tC v) σ H1 Q) → ctx te σ H Q := by exact fun _ _ h => h) : Pb K b n (ctx te) σ B S := fun H c e bx hc Q q => hctx H Q (h H c e bx hc _ fun v x B1 H1 u ub r hv => by
  obtain ⟨z, hz, hp⟩ := k x r v B1 u.bb hv
  exact hp H1 u.bh Q fun w B2 H2 u2 hw => q w z B2 H2 (u.up ub.ne u2) (u2.box ub) hz hw)
theorem Ub.freeze {B H B2 H2 : Hp} (u : Ub b B H B2 H2) {a : Addr} {o : HO} (h : H2 a = some o) (hf : H a = none) : Ub b B H (upd B2 a o) H2 ∧ Ex B2 (upd B2 a o) := by
  have e2 : Ex B2 (upd B2 a o) := fun c x hc => by
    by_cases hca : c = a
    · subst hca
      have := u.bh c x hc
      rw [h] at this
      rw [upd_same]
      exact this
    · rw [upd_ne hca]
      exact hc
  refine ⟨⟨u.bb.trans e2, ex_in u.bh h, u.hh, fun c hc => ?_⟩, e2⟩
  by_cases hca : c = a
  · exact .inr (hca ▸ hf)
  · rw [upd_ne hca] at hc
    exact u.nw c hc
theorem BoxAt.frz {c : Int} {a : Addr} {o : HO} (x : BoxAt c B H b) (ne : b ≠ a) : BoxAt c (upd B a o) H b := ⟨by rw [upd_ne ne]; exact x.fb, x.bx⟩
theorem BoxAt.put {c : Int} {a : Addr} {o : HO} (x : BoxAt c B H b) (ne : b ≠ a) : BoxAt c B (upd H a o) b := ⟨x.fb, by rw [upd_ne ne]; exact x.bx⟩
/-! texts, laid as a list -/
def tStrs : List Str → TA
  | [] => tNil
  | x :: xs => tCons (tC (.str x)) (tStrs xs)
theorem tStrs_at : ∀ (xs : List Str) {H : Hp} {Q : List V → Hp → Prop}, Q (xs.map V.str) H → tStrs xs σ H Q
  | [], _, _, h => h
  | x :: xs, H, Q, h => tStrs_at xs (Q := fun vs H2 => Q (V.str x :: vs) H2) h
theorem e_strs (xs : List Str) (hz : xs.length ≤ 1000) : Pe K (tLst (tStrs xs)) σ B xs := fun H e Q q => tStrs_at xs ⟨by rw [List.length_map, sizeLine_eq]; exact Nat.le_trans hz (by decide), fun p hp => q _ _ _ (Up.new e hp) (at_list.mpr ⟨p, _, rfl, Evl.sq_of upd_same, strs_atAll _⟩)⟩
def tInts : List Int → TA
  | [] => tNil
  | x :: xs => tCons (tC (.int x)) (tInts xs)
theorem tInts_at : ∀ (xs : List Int) {H : Hp} {Q : List V → Hp → Prop}, Q (xs.map V.int) H → tInts xs σ H Q
  | [], _, _, h => h
  | x :: xs, H, Q, h => tInts_at xs (Q := fun vs H2 => Q (V.int x :: vs) H2) h
theorem e_intsT (xs : List Int) (hz : xs.length ≤ 1000) : Pe K (tTup (tInts xs)) σ B (Tup.mk xs) := fun H e Q q => tInts_at xs ⟨by rw [List.length_map, sizeLine_eq]; exact Nat.le_trans hz (by decide), fun p hp => q _ _ _ (Up.new e hp) (at_tup.mpr ⟨p, _, rfl, upd_same, ints_atAll _⟩)⟩
end
section
variable {K : PySem.W.Frag}
theorem p_retI3 {ta tb tc : TE} {σ : L2.St} {B H : Hp} {D : Ends} {i j k : Int} (h1 : Pe K ta σ B i) (h2 : Pe K tb σ B j) (h3 : Pe K tc σ B k) (e : Ex B H) (q : ∀ l B1 H1, Up B H B1 H1 → H1 l = none → D.rt (.ref l) (upd H1 l (.lst [.int i, .int j, .int k]))) : tRet (tLst (tCons ta (tCons tb (tCons tc tNil)))) D σ H :=
  a_3 h1 h2 h3 H e (fun vs H1 => vs.length ≤ sizeLine ∧ ∀ p, H1 p = none → D.rt (.ref p) (upd H1 p (.lst vs))) fun vs B2 H2 u2 hvs => by
    obtain ⟨w1, _, rfl, hw1, w2, _, rfl, hw2, w3, _, rfl, hw3, rfl⟩ := hvs
    cases at_int.mp hw1
    cases at_int.mp hw2
    cases at_int.mp hw3
    exact ⟨by show 3 ≤ sizeLine; rw [sizeLine_eq]; decide, fun p hp => q p B2 H2 u2 hp⟩
/-! ### cell_at, box -/
theorem int01 (b : Bool) : 0 ≤ (if b = true then 1 else 0 : Int) ∧ (if b = true then 1 else 0 : Int) < 2 ^ 62 := by cases b <;> exact ⟨by decide, by decide⟩
theorem abs0 (x : Int) : 0 ≤ (if x < 0 then -x else x) := by split <;> omega
def cellAt (xs : List Int) (k : Int) : Int := xs[k.toNat]?.getD 0
abbrev sp_Lcell_at (K : PySem.W.Frag) : Sp := Fn2 K (fun (_ : Sq Int) (k : Int) => 0 ≤ k) fun s k => cellAt s.items k
def N_Lcell_at : List Str := ["_law_script", "_law_k"]
def t_Lcell_at (K : PySem.W.Frag) : TS :=
  (tSeq (tIfS (tTest (tOp (rLtU K) (tVar 1) (tCB (rLenU K) (tCons (tVar 0) tNil)))) (tRet (tOp (rIxU K) (tVar 0) (tVar 1))) tNext)
    (tRet (tC (.int 0))))
theorem l_Lcell_at (vs : List V) (H : Hp) (Q : VK) (E : XK) (h : sp_Lcell_at K vs H Q E) : vs.length = 2 := Fn2.len vs H Q E h
theorem r_Lcell_at (vs : List V) (H : Hp) (Q : VK) (E : XK) (h : sp_Lcell_at K vs H Q E) : t_Lcell_at K (Ends.ret Q) (start N_Lcell_at vs) H := by
  obtain ⟨s, k, B, e, ⟨v1, _, rfl, h1, v2, _, rfl, h2, rfl⟩, hk, q⟩ := h
  obtain ⟨xs⟩ := s
  refine q_if (t_test (e_lt (e_var rfl h2) (e_lenSq (e_var rfl h1)))) e (fun hb B1 H1 u1 => ?_) fun hb B1 H1 u1 => ?_
  · have hlt : k < (xs.length : Int) := of_decide_eq_true hb
    have hi : atI xs k = some (cellAt xs k) := by
      unfold atI ixN cellAt
      rw [if_pos hk, if_pos hlt]
      show xs[k.toNat]? = _
      rw [List.getElem?_eq_getElem (by omega)]
      rfl
    exact p_ret (e_ixSq (x := cellAt xs k) (e_var rfl (Rep.mono u1.bb h1)) (e_var rfl (Rep.mono u1.bb h2)) hi) u1.bh fun v B2 H2 u2 hv => q v B2 H2 (u1.trans u2) hv
  · have hlt : ¬ k < (xs.length : Int) := of_decide_eq_false hb
    have hi : (0 : Int) = cellAt xs k := by
      unfold cellAt
      rw [List.getElem?_eq_none (by omega)]
      rfl
    show tRet (tC (.int 0)) (Ends.ret Q) (start N_Lcell_at [v1, v2]) H1
    exact p_ret (x := cellAt xs k) ((e_int (i := 0)).is hi) u1.bh fun v B2 H2 u2 hv => q v B2 H2 (u1.trans u2) hv
abbrev sp_Lbox (K : PySem.W.Frag) : Sp := fun vs H Q _ => ∃ (s : Sq Int) (k : Int) (B : Hp), Ex B H ∧ RCons K s (RCons K k RNil) vs B ∧ (0 ≤ k ∧ k ≤ 1000) ∧ ∀ b B2 H2, Up B H B2 H2 → H b = none → BoxAt 0 B2 H2 b → Q (.ref b) H2
def N_Lbox : List Str := ["_law_script", "_law_k", "_law_cell"]
def t_Lbox (K : PySem.W.Frag) : TS :=
  (tSeq (tAsg (tCall (sp_Lcell_at K) [] E0 (tCons (tVar 0) (tCons (tVar 1) tNil))) (gName 2))
    (tRet (tLst (tCons (tOp (rMulU) (tCB (rAbs) (tCons (tVar 2) tNil)) (tCB (rInt1) (tCons (tOp (rGeU K) (tCB (rAbs) (tCons (tVar 2) tNil)) (tOp (rI CPow fun i j => .int (i ^ j.toNat)) (tC (.int 10)) (tC (.int 18)))) tNil))) (tCons (tOp (rAddU K) (tOp (rAddU K) (tOp (rI (fun _ j => 0 < j) fun i j => .int (i % j)) (tVar 2) (tC (.int 2305843009213693951))) (tOp (rMulU) (tC (.int 15485863)) (tVar 1))) (tC (.int 29))) (tCons (tC (.int 0)) tNil))))))
theorem l_Lbox (vs : List V) (H : Hp) (Q : VK) (E : XK) (h : sp_Lbox K vs H Q E) : vs.length = 2 := by
  obtain ⟨x, y, B, e, ⟨v, r, rfl, h1, v2, r2, rfl, h2, rfl⟩, _⟩ := h
  rfl
theorem r_Lbox (vs : List V) (H : Hp) (Q : VK) (E : XK) (h : sp_Lbox K vs H Q E) : t_Lbox K (Ends.ret Q) (start N_Lbox vs) H := by
  obtain ⟨s, k, B, e, ⟨v1, _, rfl, h1, v2, _, rfl, h2, rfl⟩, ⟨k0, k1⟩, q⟩ := h
  refine q_set (e_call2 (e_var rfl h1) (e_var rfl h2) k0) e fun v B1 H1 u1 hv => ?_
  generalize cellAt s.items k = x at hv
  have h2' := Rep.mono u1.bb h2
  have p1 : ∃ g : Int, 0 ≤ g ∧ Pe K (tOp (rMulU) (tCB (rAbs) (tCons (tVar 2) tNil)) (tCB (rInt1) (tCons (tOp (rGeU K) (tCB (rAbs) (tCons (tVar 2) tNil)) (tOp (rI CPow fun i j => .int (i ^ j.toNat)) (tC (.int 10)) (tC (.int 18)))) tNil))) [some v1, some v2, some v] B1 g := by
    have hp : Pe K (tOp (rI CPow fun i j => .int (i ^ j.toNat)) (tC (.int 10)) (tC (.int 18))) [some v1, some v2, some v] B1 ((10 : Int) ^ (18 : Int).toNat) := e_powI e_int e_int ⟨by decide, by decide, by decide⟩
    generalize (10 : Int) ^ (18 : Int).toNat = z at hp
    have hg := e_intB (e_ge (e_abs (e_var (σ := [some v1, some v2, some v]) (i := 2) rfl hv)) hp)
    exact ⟨_, Int.mul_nonneg (abs0 x) (int01 _).1, e_mulI (e_abs (e_var rfl hv)) hg (cmul_small (int01 _).1 (int01 _).2)⟩
  have p2 : ∃ m : Int, 0 ≤ m ∧ m < 2 ^ 62 ∧ Pe K (tOp (rAddU K) (tOp (rAddU K) (tOp (rI (fun _ j => 0 < j) fun i j => .int (i % j)) (tVar 2) (tC (.int 2305843009213693951))) (tOp (rMulU) (tC (.int 15485863)) (tVar 1))) (tC (.int 29))) [some v1, some v2, some v] B1 m := by
    have e1 := Int.emod_nonneg x (b := 2305843009213693951) (by decide)
    have e2 := Int.emod_lt_of_pos x (b := 2305843009213693951) (by decide)
    exact ⟨_, by omega, by omega, e_addI (e_addI (e_modI (e_var rfl hv) e_int (by decide)) (e_mulI e_int (e_var rfl h2') (cmul_small k0 (by omega)))) e_int⟩
  obtain ⟨g, g0, p1⟩ := p1
  obtain ⟨m, m0, m1, p2⟩ := p2
  refine p_retI3 p1 p2 e_int u1.bh fun l B2 H2 u2 hl => ?_
  have u := u1.trans u2
  exact q l B2 _ (u.hold hl) (Evl.fresh_back u.hh hl) ⟨Evl.fresh_back u.bh hl, g, m, 0, upd_same, g0, m0, m1, by decide, by decide⟩
/-! ### of -/
/-- of a list that may change: the very object -/
def OfV (K : PySem.W.Frag) : Sp := fun vs H Q _ => ∃ b B c a ws, vs = [V.ref b, .ref a] ∧ Ex B H ∧ BoxAt c B H b ∧ c + 1 ≤ 2 ^ 40 ∧ a ≠ b ∧ H a = some (.lst ws) ∧ ws ≠ [] ∧ ws.length ≤ 1000000 ∧ ∀ (k : Nat) w B2 H2, ws[k]? = some w → Ub b B H B2 H2 → BoxAt (c + 1) B2 H2 b → Q w H2
abbrev sp_Lof (K : PySem.W.Frag) : Sp := fun vs H Q E => (∃ (α : Type) (_ : Rep α), FnB1 K 1 (fun s : Sq α => s.items ≠ [] ∧ s.items.length ≤ 1000000) (fun s (y : α) => y ∈ s.items) vs H Q E) ∨ OfV K vs H Q E
def N_Lof : List Str := ["_law_box_here", "_law_some"]
def t_Lof (K : PySem.W.Frag) : TS :=
  (tRet (tOp (rIxU K) (tVar 1) (tCall (sp_Ltake K) [] E0 (tCons (tVar 0) (tCons (tCB (rLenU K) (tCons (tVar 1) tNil)) tNil)))))
theorem l_Lof (vs : List V) (H : Hp) (Q : VK) (E : XK) (h : sp_Lof K vs H Q E) : vs.length = 2 := by
  rcases h with ⟨α, _, h⟩ | ⟨b, B, c, a, ws, rfl, _⟩
  · exact FnB1.len vs H Q E h
  · rfl
theorem r_Lof (vs : List V) (H : Hp) (Q : VK) (E : XK) (h : sp_Lof K vs H Q E) : t_Lof K (Ends.ret Q) (start N_Lof vs) H := by
  rcases h with ⟨α, _, b, B, c, s, e, bx, hc, ⟨v, rfl, hv⟩, ⟨hn, hn2⟩, q⟩ | ⟨b, B, c, a, ws, rfl, e, bx, hc, hab, ha, hn, hn2, q⟩
  · obtain ⟨xs⟩ := s
    have hpos : 0 < xs.length := List.length_pos_iff.mpr hn
    have hn2' : xs.length ≤ 1000000 := hn2
    refine ⟨_, rfl, ?_⟩
    refine e_callB1 (b := b) rfl (e_lenSq (e_var rfl hv)) ⟨by omega, by omega⟩ (by decide) H c e bx hc _ fun w y B1 H1 u1 ub1 ⟨y0, y1⟩ hw => ?_
    have hy : xs[y.toNat]? = some (xs[y.toNat]'(by omega)) := List.getElem?_eq_getElem (by omega)
    refine e_ixSq (σ := start N_Lof [.ref b, v]) (x := xs[y.toNat]'(by omega)) (e_const (Rep.mono u1.bb hv)) (e_const hw) ?_ H1 u1.bh _ fun z B2 H2 u2 hz => ?_
    · unfold atI ixN
      rw [if_pos y0, if_pos y1]
      exact hy
    · exact q z _ B2 H2 (u1.up ub1.ne u2) (u2.box ub1) (List.getElem_mem _) hz
  · have hpos : 0 < ws.length := List.length_pos_iff.mpr hn
    refine ⟨_, rfl, _, rfl, _, rfl, .inl ⟨_, ws.length, rfl, .inl ⟨ws, Evl.sq_of ha, rfl⟩, ?_⟩⟩
    show FnB1 K 1 (fun n : Int => 0 < n ∧ n < 1073741824) (fun n (k : Int) => 0 ≤ k ∧ k < n) ([V.ref b, .int (ws.length : Int)] ++ []) H _ E0
    refine ⟨b, B, c, (ws.length : Int), e, bx, hc, ⟨_, rfl, at_int.mpr rfl⟩, ⟨by omega, by omega⟩, fun w y B1 H1 u1 ub1 hy hw => ?_⟩
    obtain ⟨y0, y1⟩ := hy
    cases at_int.mp hw
    have hx : ws[y.toNat]? = some (ws[y.toNat]'(by omega)) := List.getElem?_eq_getElem (by omega)
    refine .inl ⟨a, ws, y, ws[y.toNat]'(by omega), rfl, rfl, Evl.sq_of (u1.hh a _ hab ha), ?_, q y.toNat _ B1 H1 hx u1 ub1⟩
    show (ixN ws.length y).bind (fun j => ws[j]?) = _
    unfold ixN
    rw [if_pos y0, if_pos y1]
    exact hx
theorem e_of {σ : L2.St} {B : Hp} {te : TE} {b : Addr} {i : Nat} {E : XK} {α : Type} [Rep α] {xs : List α} (hi : σ[i]? = some (some (.ref b))) (h : Pe K te σ B (Sq.mk xs)) (hn : xs ≠ []) (hz : xs.length ≤ 1000000) : Pb K b 1 (tCall (sp_Lof K) [] E (tCons (tVar i) (tCons te tNil))) σ B (fun y => y ∈ xs) := fun H c e bx hc Q q =>
  ⟨_, hi, h H e _ fun v B2 H2 u hv => .inl ⟨α, inferInstance, b, B2, c, Sq.mk xs, u.bh, u.box bx, hc, ⟨v, rfl, hv⟩, ⟨hn, hz⟩, fun w y B3 H3 u3 ub3 r3 hw => q w y B3 H3 (u.ub.trans (u.box bx).ne u3) ub3 r3 hw⟩⟩
end
end Ob
set_option Elab.async false
set_option linter.all false
set_option maxRecDepth 100000
set_option maxHeartbeats 4000000
/-! D3: strewn, names, presses. -/
namespace Ob
open PySem L2
open Evl (Ex)
open PySem.W (Datum Tup DatumOrd)
theorem erase_perm {α : Type} : ∀ {xs : List α} {k : Nat} {x : α}, xs[k]? = some x → (x :: xs.eraseIdx k).Perm xs
  | [], _, _, h => by simp at h
  | y :: ys, 0, x, h => by
    simp at h
    subst h
    exact List.Perm.refl _
  | y :: ys, k + 1, x, h => by
    have h' : ys[k]? = some x := by simpa using h
    show (x :: y :: ys.eraseIdx k).Perm (y :: ys)
    exact (List.Perm.swap y x _).trans ((erase_perm h').cons y)
section
variable {K : PySem.W.Frag}
/-! ### strewn -/
abbrev sp_Lstrewn (K : PySem.W.Frag) : Sp := fun vs H Q E => ∃ (α : Type) (_ : DecidableEq α) (_ : Datum α), Datum.depth (List α) ≤ 64 ∧ FnB1 K 10000 (fun s : Sq α => s.items.length ≤ 10000) (fun s (ys : List α) => ys.Perm s.items) vs H Q E
def N_Lstrewn : List Str := ["_law_box_here", "_law_some", "_law_left", "_law_drawn"]
def t_Lstrewn (K : PySem.W.Frag) : TS :=
  (tSeq (tPar 2 3 (tCons (tCB (rListU K) (tCons (tVar 1) tNil)) (tCons (tLst tNil) tNil)))
    (tSeq (tWhile (tTest (tOp (rNeP K) (tVar 2) (tLst tNil))) (tDrop (tBM K "list" (rAppend) (tVar 3) (tCons (tBM K "list" (rPopAt) (tVar 2) (tCons (tCall (sp_Ltake K) [] E0 (tCons (tVar 0) (tCons (tCB (rLenU K) (tCons (tVar 2) tNil)) tNil))) tNil)) tNil))))
    (tRet (tVar 3))))
theorem l_Lstrewn (vs : List V) (H : Hp) (Q : VK) (E : XK) (h : sp_Lstrewn K vs H Q E) : vs.length = 2 := by
  obtain ⟨α, _, _, _, h⟩ := h
  exact FnB1.len vs H Q E h
structure StrI {α : Type} [DecidableEq α] [Datum α] (K : PySem.W.Frag) (b : Addr) (c : Int) (B H : Hp) (r f : Addr) (xs rest found : List α) (B' H' : Hp) : Prop where
  u : Ub b B H B' H'
  bx : BoxAt (c + found.length) B' H' b
  br : B' r = none
  bf : B' f = none
  hr : ∃ vr, H' r = some (.lst vr) ∧ AtAll K B' vr rest
  hf : ∃ vf, H' f = some (.lst vf) ∧ AtAll K B' vf found
  pm : (found ++ rest).Perm xs
theorem r_Lstrewn (vs : List V) (H : Hp) (Q : VK) (E : XK) (h : sp_Lstrewn K vs H Q E) : t_Lstrewn K (Ends.ret Q) (start N_Lstrewn vs) H := by
  obtain ⟨α, _, _, hd, b, B, c, s, e, bx, hc, ⟨v, rfl, hv⟩, hn, q⟩ := h
  obtain ⟨xs⟩ := s
  have hn' : xs.length ≤ 10000 := hn
  -- the two lists
  obtain ⟨a, vr, rfl, hs, hx⟩ := hv
  refine ⟨_, rfl, .inl ⟨a, vr, rfl, hs.imp (Evl.ex_l e) (ex_tx e), fun r hr => ?_⟩⟩
  have u1 : Up B H B (upd H r (.lst vr)) := (Up.refl e).hold hr
  have br : B r = none := Evl.fresh_back e hr
  refine ⟨Nat.zero_le _, fun f hf => ⟨.ref r, .ref f, rfl, ?_⟩⟩
  have hfH : H f = none := Evl.fresh_back u1.hh hf
  have bf : B f = none := Evl.fresh_back e hfH
  have hrf : r ≠ f := fun z => by rw [← z, upd_same] at hf; cases hf
  have hbne := bx.ne
  have rb : r ≠ b := fun z => hbne (z ▸ hr)
  have fb : f ≠ b := fun z => hbne (z ▸ hfH)
  have u2 : Up B H B (upd (upd H r (.lst vr)) f (.lst [])) := u1.hold hf
  refine ⟨fun m σ' H' => ∃ rest found B', σ' = [some (.ref b), some (.ref a), some (.ref r), some (.ref f)] ∧ m = rest.length ∧ StrI K b c B H r f xs rest found B' H',
    ⟨xs.length, xs, [], B, rfl, rfl, u2.ub, (u2.box bx).le (by simp), br, bf, ⟨vr, by rw [upd_ne hrf, upd_same], hx⟩, ⟨[], upd_same, .nil⟩, List.Perm.refl _⟩, ?_⟩
  rintro m σ' H' ⟨rest, found, B', rfl, rfl, I⟩
  obtain ⟨wr, h1r, h2r⟩ := I.hr
  obtain ⟨wf, h1f, h2f⟩ := I.hf
  have hlen : found.length + rest.length = xs.length := by
    have := I.pm.length_eq
    rw [List.length_append] at this
    exact this
  have hlist : Rep.at_ K (upd B' r (.lst wr)) (.ref r) rest := at_list.mpr ⟨r, wr, rfl, Evl.sq_of upd_same, h2r.mono (Ex.new I.br)⟩
  refine (t_test (e_ne (e_var rfl hlist) (e_lst0 (α := α)) hd)).thaw I.br I.u.bh h1r fun H2 u3 h2 => ?_
  have I2f := (u3.out I.bf h1f).2
  cases hb : (!decide (rest = [])) with
  | true =>
    rw [if_pos rfl]
    have hpos : 0 < rest.length := by
      cases rest with
      | nil => simp at hb
      | cons _ _ => exact Nat.zero_lt_succ _
    refine ⟨_, fun _ _ h => h, ?_⟩
    refine ⟨_, rfl, .inl ⟨rfl, wf, Evl.sq_of I2f⟩, ?_⟩
    refine ⟨_, rfl, .inl ⟨rfl, wr, Evl.sq_of h2⟩, ?_⟩
    refine ⟨_, rfl, _, rfl, .inl ⟨.ref r, rest.length, rfl, .inl ⟨wr, Evl.sq_of h2, h2r.length.symm⟩, ?_⟩⟩
    have bx2 : BoxAt (c + found.length) B' H2 b := u3.box I.bx
    refine ⟨b, B', c + found.length, (rest.length : Int), u3.bh, bx2, by omega, ⟨_, rfl, at_int.mpr rfl⟩, ⟨by omega, by omega⟩, fun w y B3 H3 u4 bx4 ⟨y0, y1⟩ hw => ?_⟩
    cases at_int.mp hw
    obtain ⟨b3r, h3r⟩ := u4.out I.br h2 rb
    obtain ⟨b3f, h3f⟩ := u4.out I.bf I2f fb
    have hk : rest[y.toNat]? = some (rest[y.toNat]'(by omega)) := List.getElem?_eq_getElem (by omega)
    obtain ⟨z, hz, hzx⟩ := h2r.get hk
    have hix : ixN wr.length y = some y.toNat := by
      unfold ixN
      rw [if_pos y0, if_pos (by rw [h2r.length]; exact y1)]
    refine ⟨r, wr, y, y.toNat, z, rfl, rfl, h3r, by omega, by omega, (ixN_seq hix).1, hz, ?_⟩
    refine ⟨f, wf, z, rfl, rfl, by rw [upd_ne hrf.symm]; exact h3f, ?_, ?_⟩
    · rw [h2f.length, sizeLine_eq]
      omega
    · have w1 : Ub b B H B3 H3 := (I.u.up I.bx.ne u3).trans bx2.ne u4
      refine ⟨rest.length - 1, by omega, rest.eraseIdx y.toNat, found ++ [rest[y.toNat]'(by omega)], B3, rfl, ?_, (w1.put hr b3r).put hfH b3f, ?_, b3r, b3f, ⟨_, by rw [upd_ne hrf, upd_same], (h2r.mono u4.bb).eraseIdx _⟩, ⟨_, upd_same, (h2f.mono u4.bb).snoc (Rep.mono u4.bb hzx)⟩, ?_⟩
      · rw [List.length_eraseIdx, if_pos (by omega)]
      · refine BoxAt.put (BoxAt.put (bx4.le ?_) rb.symm) fb.symm
        rw [List.length_append, List.length_singleton]
        omega
      · refine List.Perm.trans ?_ I.pm
        rw [List.append_assoc]
        exact List.Perm.append_left found (erase_perm hk)
  | false =>
    rw [if_neg (by decide)]
    have he : rest = [] := by simpa using hb
    subst he
    have w1 := I.u.up I.bx.ne u3
    have bx2 : BoxAt (c + found.length) B' H2 b := u3.box I.bx
    obtain ⟨w2, e2⟩ := w1.freeze I2f hfH
    refine ⟨_, rfl, ?_⟩
    refine q (.ref f) found _ _ w2 ((bx2.frz fb.symm).le ?_) ?_ (at_list.mpr ⟨f, wf, rfl, Evl.sq_of upd_same, h2f.mono e2⟩)
    · have : found.length + 0 = xs.length := hlen
      omega
    · have := I.pm
      rw [List.append_nil] at this
      exact this
theorem e_strewn {σ : L2.St} {B : Hp} {te : TE} {b : Addr} {i : Nat} {E : XK} {α : Type} [DecidableEq α] [Datum α] {xs : List α} (hi : σ[i]? = some (some (.ref b))) (h : Pe K te σ B (Sq.mk xs)) (hn : xs.length ≤ 10000) (hz : Datum.depth (List α) ≤ 64 := by decide) : Pb K b 10000 (tCall (sp_Lstrewn K) [] E (tCons (tVar i) (tCons te tNil))) σ B (fun ys : List α => ys.Perm xs) := fun H c e bx hc Q q =>
  ⟨_, hi, h H e _ fun v B2 H2 u hv => ⟨α, inferInstance, inferInstance, hz, b, B2, c, Sq.mk xs, u.bh, u.box bx, hc, ⟨v, rfl, hv⟩, hn, fun w y B3 H3 u3 ub3 r3 hw => q w y B3 H3 (u.ub.trans (u.box bx).ne u3) ub3 r3 hw⟩⟩
/-! ### names -/
def poolN : List Str := ["a", "b", "c", "d", "e", "ab", "ba", "abc", "fan", "fans", "lamp", "x", "zz", "zzzzzz"]
abbrev sp_Lnames (K : PySem.W.Frag) : Sp := FnB1 K 10000 (fun n : Int => 1 ≤ n ∧ n ≤ 14) (fun n (ys : List Str) => Asc ys ∧ (ys.length : Int) = n ∧ ∀ y ∈ ys, y ∈ poolN)
def N_Lnames : List Str := ["_law_box_here", "_law_size", "_law_pool"]
def t_Lnames (K : PySem.W.Frag) : TS :=
  (tSeq (tAsg (tLst (tCons (tC (.str "a")) (tCons (tC (.str "b")) (tCons (tC (.str "c")) (tCons (tC (.str "d")) (tCons (tC (.str "e")) (tCons (tC (.str "ab")) (tCons (tC (.str "ba")) (tCons (tC (.str "abc")) (tCons (tC (.str "fan")) (tCons (tC (.str "fans")) (tCons (tC (.str "lamp")) (tCons (tC (.str "x")) (tCons (tC (.str "zz")) (tCons (tC (.str "zzzzzz")) tNil))))))))))))))) (gName 2))
    (tRet (tCB (rSortU K) (tCons (tSl (rSlU K) (tCall (sp_Lstrewn K) [] E0 (tCons (tVar 0) (tCons (tVar 2) tNil))) tNoPart (tPart (tVar 1))) tNil))))
theorem l_Lnames (vs : List V) (H : Hp) (Q : VK) (E : XK) (h : sp_Lnames K vs H Q E) : vs.length = 2 := FnB1.len vs H Q E h
theorem r_Lnames (vs : List V) (H : Hp) (Q : VK) (E : XK) (h : sp_Lnames K vs H Q E) : t_Lnames K (Ends.ret Q) (start N_Lnames vs) H := by
  obtain ⟨b, B, c, n, e, bx, hc, ⟨v, rfl, hv⟩, ⟨n1, n2⟩, q⟩ := h
  refine q_set (K := K) (e_strs poolN (by decide)) e fun w B1 H1 u1 hw => ?_
  refine p_retB (b := b) (n := 10000) (c := c) (R := fun ys : List Str => Asc ys ∧ (ys.length : Int) = n ∧ ∀ y ∈ ys, y ∈ poolN) (b_lift (fun te => tCB (rSortU K) (tCons (tSl (rSlU K) te tNoPart (tPart (tVar 1))) tNil)) (e_strewn (b := b) (i := 0) (xs := poolN) rfl ((e_var rfl hw).imp sq_list) (by decide)) fun ys hp v2 B2 b2 hv2 => ?_) u1.bh (u1.box bx) hc fun v3 x B3 H3 u3 ub r3 hv3 => q v3 x B3 H3 (u1.ub.trans (u1.box bx).ne u3) ub r3 hv3
  have hlen : ys.length = 14 := hp.length_eq
  have hnd : ys.Nodup := hp.nodup_iff.mpr (by decide)
  refine ⟨sortD (ys.take n.toNat), ⟨sortD_asc (hnd.sublist (List.take_sublist _ _)), ?_, fun y hy => hp.mem_iff.mp (List.mem_of_mem_take (mem_sortD.mp hy))⟩, e_sortSq ((((e_slL (e_const hv2) o_none (o_some (e_var rfl (Rep.mono (u1.bb.trans b2) hv))))).is ?_).imp sq_list) (sortable_str _)⟩
  · rw [sortD_len, List.length_take]
    omega
  · rw [show n = ((n.toNat : Nat) : Int) by omega, cutA_to]
    rfl
end
end Ob
set_option Elab.async false
set_option linter.all false
set_option maxRecDepth 100000
set_option maxHeartbeats 4000000
/-! Rr: a list that is read (frozen or not) times 0 or 1. -/
namespace L2
open PySem PySem.Spec PyProof.Rows
end L2
namespace Ob
open PySem L2
open Evl (Ex)
open PySem.W (Datum Tup DatumOrd)
/-- a dict from texts to lists of texts, each list tracked -/
structure TabR where
  kvs : List (Str × List Str)
def TabRAt (H : Hp) (ks : List (Key × V)) (d : List (Str × List Str)) : Prop := Paired (fun (p : Key × V) (q : Str × List Str) => p.1 = .inr q.1 ∧ ∃ l, p.2 = .ref l ∧ Rd H l (.lst (q.2.map V.str))) ks d
instance : Rep TabR := ⟨fun K H v d => ∃ a ks, v = .ref a ∧ Rd H a (.dK ks) ∧ ks.length ≤ 1000000 ∧ TabRAt H ks d.kvs,
  fun e ⟨a, ks, h1, h2, hz, h3⟩ => ⟨a, ks, h1, e.1 a _ rfl h2, hz, Paired.mapP h3 fun _ _ ⟨h, l, h4, h5⟩ => ⟨h, l, h4, e.1 l _ rfl h5⟩⟩⟩
theorem tabR_dic {K : PySem.W.Frag} {H : Hp} {v : V} {d : List (Str × List Str)} (h : Rep.at_ K H v (TabR.mk d)) : Rep.at_ K H v (Dic.mk d) := by
  obtain ⟨a, ks, h1, h2, hz, h3⟩ := h
  exact ⟨a, ks, h1, h2, hz, Paired.mapP h3 fun _ _ ⟨h, l, h4, h5⟩ => ⟨h, by rw [h4]; exact at_list.mpr ⟨l, _, rfl, .inl h5, strs_atAll _⟩⟩⟩
theorem TabRAt.find {H : Hp} : ∀ {ks : List (Key × V)} {d : List (Str × List Str)}, TabRAt H ks d → ∀ {k : Str} {x : List Str}, d.lookup k = some x → ∃ l, valV ks (.inr k) = some (.ref l) ∧ Rd H l (.lst (x.map V.str))
  | _, _, .nil, k, x, h => by cases h
  | _, _, .cons (a := p) (b := q) ⟨h1, l, h2, h3⟩ t, k, x, h => by
    obtain ⟨pk, pv⟩ := p
    obtain ⟨qk, qv⟩ := q
    simp only at h1 h2 h3
    subst h1 h2
    by_cases e : k = qk
    · subst e
      rw [List.lookup_cons_self] at h
      cases h
      exact ⟨l, valV_pos rfl, h3⟩
    · have h' : List.lookup k ((qk, qv) :: _) = _ := h
      rw [List.lookup_cons, beq_eq_false_iff_ne.mpr e] at h'
      obtain ⟨v, e1, e2⟩ := TabRAt.find t (show List.lookup k _ = some x from h')
      exact ⟨v, by rw [valV_neg (fun z => e (Sum.inr.inj z).symm)]; exact e1, e2⟩
end Ob
set_option Elab.async false
set_option linter.all false
set_option maxRecDepth 100000
set_option maxHeartbeats 4000000
/-! D4w: the wired family's table of rivals. -/
namespace Ob
open PySem L2
open Evl (Ex)
open PySem.W (Datum Tup DatumOrd)
section
variable {K : PySem.W.Frag} {H B B' : Hp} {v : V} {σ : L2.St} {te ta tb tc tk tv : TE} {tt tt1 tu : TT} {b : Addr} {n m : Int}
theorem rd_eq {α : Type} [DecidableEq α] [Datum α] {x y : α} (hz : Datum.depth α ≤ 64 := by decide) : RD K (rEqP K) x y (decide (x = y)) :=
  rd_val (.bl (decide (x = y))) (fun _ => at_bl.mpr rfl) fun B H v w e h1 h2 Q q => ⟨_, _, dp_mono e _ _ h1, dp_mono e _ _ h2, Datum.plain x, Datum.plain y, Nat.le_trans (Datum.depth_le x) hz, by rw [Datum.eqv]; exact q⟩
theorem rd_addI {i j : Int} : RD K (rAddU K) i j (i + j) := rd_val (.int (i + j)) (fun _ => at_int.mpr rfl) fun B H v w e h1 h2 Q q => .inl ⟨i, j, at_int.mp h1, at_int.mp h2, q⟩
/-- a comprehension whose item draws -/
theorem b_lcR {γ β : Type} [Rep γ] [DecidableEq β] [Datum β] {wi : TI} {g : TG} {vs : List Nat} {xs : List γ} {S : β → Prop} (h : ItD K wi σ B xs) (hz : xs.length ≤ 1000000) (hn : 0 ≤ n)
    (ht : ∀ x ∈ xs, ∀ v B1, Ex B B1 → Rep.at_ K B1 v x → ∃ σ2, (∀ H (Q : L2.St → Hp → Prop), Ex B1 H → Q σ2 H → g v (wipe σ vs) H Q) ∧ wipe σ2 vs = wipe σ vs ∧ Pb K b n te σ2 B1 S) :
    Pb K b (n * xs.length) (tLc wi g tYes te vs) σ B (fun ys : List β => ys.length = xs.length ∧ ∀ y ∈ ys, S y) := fun H c e bx hc Q q =>
  h H e _ fun J B1 H1 G Y up W hG hY D hD => by
    have hDH : H D = none := Evl.fresh_back up.hh hD
    have hDB : B1 D = none := Evl.fresh_back up.bh hD
    have bx1 := up.box bx
    have hne : b ≠ D := fun z => bx1.ne (z ▸ hD)
    have hmul : ∀ i : Nat, i ≤ xs.length → n * (i : Int) ≤ n * (xs.length : Int) := fun i hi => Int.mul_le_mul_of_nonneg_left (by omega) hn
    refine walk_w W (fun i H' => ∃ Bi ws out, Ex B1 Bi ∧ Ub b B1 H1 Bi H' ∧ BoxAt (c + n * (i : Int)) Bi H' b ∧ Bi D = none ∧ H' D = some (.lst ws) ∧ AtAll K Bi ws out ∧ out.length = i ∧ ∀ y ∈ out, S y)
      ⟨B1, [], [], Ex.refl _, (Ub.refl up.bh).put hD hDB, (bx1.put hne).le (by simp), hDB, upd_same, .nil, rfl, fun _ h => (by cases h)⟩ (fun i H' _ p => ?_) (fun i x Hx H' hi p hy => ?_) (fun H' p => ?_)
    · obtain ⟨Bi, ws, out, b1, u, _⟩ := p
      exact hG H' (b1.trans u.bh)
    · obtain ⟨Bi, ws, out, b1, u, ubi, bD, eD, hA, ho, hS⟩ := p
      obtain ⟨d, hd, hB⟩ := hY i x Hx H' hi (b1.trans u.bh) hy
      obtain ⟨B2, u2, hx⟩ := hB Bi b1 u.bh
      obtain ⟨o1, o2⟩ := u2.out bD eD
      obtain ⟨σ2, hg, hw, hte⟩ := ht d (mem_of_get hd) x B2 ((up.bb.trans b1).trans u2.bb) hx
      refine hg H' _ u2.bh ⟨hw, ?_⟩
      have hi1 := hmul (i + 1) hi
      have e1 : n * ((i + 1 : Nat) : Int) = n * (i : Int) + n := by
        rw [show ((i + 1 : Nat) : Int) = (i : Int) + 1 by omega, Int.mul_add, Int.mul_one]
      refine hte H' (c + n * (i : Int)) u2.bh (u2.box ubi) (by omega) _ fun w y B3 H3 u3 ub3 r3 hw3 => ⟨ws, (u3.out o1 o2 hne.symm).2, ?_, B3, ws ++ [w], out ++ [y], (b1.trans u2.bb).trans u3.bb, ?_, ?_, (u3.out o1 o2 hne.symm).1, upd_same, ?_, ?_, ?_⟩
      · rw [hA.length, ho, sizeLine_eq]
        omega
      · exact ((u.up ubi.ne u2).trans (u2.box ubi).ne u3).put hD (u3.out o1 o2 hne.symm).1
      · exact (ub3.le (by omega)).put hne
      · exact (hA.mono (u2.bb.trans u3.bb)).snoc hw3
      · rw [List.length_append, List.length_singleton, ho]
      · intro z hz
        rcases List.mem_append.mp hz with hz | hz
        · exact hS z hz
        · rw [List.mem_singleton] at hz
          rw [hz]
          exact r3
    · obtain ⟨Bi, ws, out, b1, u, ubi, bD, eD, hA, ho, hS⟩ := p
      obtain ⟨u4, e4⟩ := (up.ub.trans bx1.ne u).freeze eD hDH
      exact q (.ref D) out _ H' u4 (ubi.frz hne) ⟨ho, hS⟩ (at_list.mpr ⟨D, ws, rfl, Evl.sq_of upd_same, hA.mono e4⟩)
end
section
variable {K : PySem.W.Frag}
theorem rangeI_len (lo : Int) (n : Nat) : (rangeI lo n).length = n := by simp [rangeI]
/-! ### the law's table of rivals -/
def lawTab (p : Pan) : Dic (List Str) := ⟨p.sw.map fun s => (s, raw p.ex s)⟩
abbrev sp_Ltable (K : PySem.W.Frag) : Sp := Fn1 K PanOk fun p => TabR.mk (lawTab p).kvs
def N_Ltable : List Str := ["_law_wired_here", "_law_table_here", "_law_name", "_law_mate"]
def t_Ltable (K : PySem.W.Frag) : TS :=
  (tSeq (tAsg (tCB (rDictP K) (tCons (tLc (iSeq K (tOp (rIxU K) (tVar 0) (tC (.int 0)))) (gName 2) tYes (tTup (tCons (tVar 2) (tCons (tLst tNil) tNil))) [2]) tNil)) (gName 1))
    (tSeq (tFor (iSeq K (tOp (rIxU K) (tVar 0) (tC (.int 1)))) (gUnp K 2 (gCons (gName 2) (gCons (gName 3) gNil))) (tSeq (tDrop (tBM K "list" (rAppend) (tOp (rIxU K) (tVar 1) (tVar 2)) (tCons (tVar 3) tNil)))
    (tDrop (tBM K "list" (rAppend) (tOp (rIxU K) (tVar 1) (tVar 3)) (tCons (tVar 2) tNil)))))
    (tRet (tVar 1))))
theorem l_Ltable (vs : List V) (H : Hp) (Q : VK) (E : XK) (h : sp_Ltable K vs H Q E) : vs.length = 1 := Fn1.len vs H Q E h
theorem valV_kvOf_none {es : List (Str × Addr)} {d : Str} (h : d ∉ es.map (·.1)) : valV (kvOf es) (.inr d) = none := by
  induction es with
  | nil => rfl
  | cons r es ih =>
    rw [List.map_cons, List.mem_cons, not_or] at h
    show valV ((Sum.inr r.1, V.ref r.2) :: kvOf es) _ = _
    rw [valV_neg (fun z => h.1 (Sum.inr.inj z).symm)]
    exact ih h.2
theorem mergeK_kvOf {es : List (Str × Addr)} (nd : (es.map (·.1)).Nodup) : mergeK [] (kvOf es) = kvOf es := by
  have key : ∀ (es ds : List (Str × Addr)), ((ds ++ es).map (·.1)).Nodup → mergeK (kvOf ds) (kvOf es) = kvOf (ds ++ es) := by
    intro es
    induction es with
    | nil => intro ds _; rw [List.append_nil]; rfl
    | cons r es ih =>
      intro ds nd
      show mergeK (putK (kvOf ds) (.inr r.1) (.ref r.2)) (kvOf es) = _
      have hn : r.1 ∉ ds.map (·.1) := fun z => by
        rw [List.map_append, List.nodup_append] at nd
        exact nd.2.2 _ z _ (by simp) rfl
      rw [putK_new _ (valV_kvOf_none hn)]
      have e1 : kvOf ds ++ [(Sum.inr r.1, V.ref r.2)] = kvOf (ds ++ [r]) := by
        unfold kvOf
        rw [List.map_append]
        rfl
      rw [e1, ih (ds ++ [r]) (by rw [List.append_assoc]; exact nd), List.append_assoc]
      rfl
  exact key es [] nd
theorem q_dictP {D : Ends} {tz : TS} {σ : L2.St} {B H : Hp} {α : Type} [Rep α] {wi : TI} {g : TG} {tt : TT} {te : TE} {vs : List Nat} {j : Nat} {xs : List α} (h : ItD K wi σ B xs) (e : Ex B H)
    (k : ∀ J B1 H1 G Y, Up B H B1 H1 → Walk J xs.length G Y → (∀ H', Ex B1 H' → G H') →
      (∀ i x Hx H', i < xs.length → Ex B1 Hx → Y i Hx x H' → ∃ d, xs[i]? = some d ∧ ∀ B', Ex B1 B' → Ex B' Hx → ∃ B2, Up B' Hx B2 H' ∧ Rep.at_ K B2 x d) → ∀ Dd, H1 Dd = none →
      ∃ W : Nat → Nat → Hp → Prop, (∃ m, W 0 m (upd H1 Dd (.lst []))) ∧ ∀ i m H, W i m H →
      (J.stop i H ∧ rDictP K [.ref Dd] H fun x H1 => tz D (σ.set j (some x)) H1) ∨ (J.go i H ∧ ∃ Nx : Hp → Prop, (∀ H', Nx H' → ∃ m', m' < m ∧ W (i + 1) m' H') ∧ ∀ x H', J.yld i H x H' → g x (wipe σ vs) H' fun σ2 H2 => wipe σ2 vs = wipe σ vs ∧ tt σ2 H2 fun b H3 =>
        if b = true then te σ2 H3 fun y H4 => ∃ acc, H4 Dd = some (.lst acc) ∧ acc.length < sizeLine ∧ Nx (upd H4 Dd (.lst (acc ++ [y]))) else Nx H3)) :
    tSeq (tAsg (tCB (rDictP K) (tCons (tLc wi g tt te vs) tNil)) (gName j)) tz D σ H := h H e _ k
theorem r_Ltable (vs : List V) (H : Hp) (Q : VK) (E : XK) (h : sp_Ltable K vs H Q E) : t_Ltable K (Ends.ret Q) (start N_Ltable vs) H := by
  obtain ⟨p, B, e, ⟨v, _, rfl, h1, rfl⟩, ok, q⟩ := h
  refine q_dictP (it_sq (e_sw (e_var rfl h1))) e fun J B1 H1 G Y up W hG hY L hL => ?_
  have hLB : B1 L = none := Evl.fresh_back up.bh hL
  refine walk_w W (fun i H' => ∃ Bi es ts, Up B1 H1 Bi H' ∧ Bi L = none ∧ H' L = some (.lst (ts.map V.ref)) ∧ es.map (·.1) = p.sw.take i ∧ Paired (fun (t : Addr) (r : Str × Addr) => Bi t = some (.tup [.str r.1, .ref r.2])) ts es ∧ (es.map (·.2)).Nodup ∧ ∀ r ∈ es, H' r.2 = some (.lst []) ∧ Bi r.2 = none ∧ H1 r.2 = none)
    ⟨B1, [], [], (Up.refl up.bh).hold hL, hLB, upd_same, rfl, .nil, .nil, fun _ h => (by cases h)⟩ (fun i H' _ hp => ?_) (fun i x Hx H' hi hp hy => ?_) (fun H' hp => ?_)
  · obtain ⟨Bi, es, ts, u, _⟩ := hp
    exact hG H' (u.bb.trans u.bh)
  · obtain ⟨Bi, es, ts, u, bL, eL, en, hts, nd, hes⟩ := hp
    obtain ⟨d, hd, hB⟩ := hY i x Hx H' hi (u.bb.trans u.bh) hy
    obtain ⟨B2, u2, hx⟩ := hB Bi u.bb u.bh
    cases at_str.mp hx
    obtain ⟨bL2, eL2⟩ := u2.out bL eL
    refine ⟨rfl, ?_⟩
    refine ⟨_, rfl, Nat.zero_le _, fun l hl => ?_⟩
    have hLl : L ≠ l := ne_of_none eL2 hl
    have u3 : Up B1 H1 B2 (upd H' l (.lst [])) := (u.trans u2).hold hl
    refine ⟨by show 2 ≤ sizeLine; rw [sizeLine_eq]; decide, fun t ht => ?_⟩
    have hlt : t ≠ l := fun z => by rw [z, upd_same] at ht; cases ht
    have htL : t ≠ L := fun z => by rw [z, upd_ne hLl, eL2] at ht; cases ht
    have htH : H' t = none := by rw [upd_ne hlt] at ht; exact ht
    have u4 := u3.trans (Up.new (o := .tup [.str d, .ref l]) u3.bh ht)
    have lenes : es.length = (p.sw.take i).length := by rw [← en, List.length_map]
    refine ⟨ts.map V.ref, by rw [upd_ne htL.symm, upd_ne hLl]; exact eL2, ?_, upd B2 t (.tup [.str d, .ref l]), es ++ [(d, l)], ts ++ [t], u4.mut hL (by rw [upd_ne htL.symm]; exact bL2), by rw [upd_ne htL.symm]; exact bL2, ?_, ?_, ?_, ?_, fun r hr => ?_⟩
    · rw [List.length_map, Paired.length hts, lenes, sizeLine_eq]
      have h3 := List.length_take_le i p.sw
      have := ok.n1
      omega
    · rw [upd_same, List.map_append]
      rfl
    · rw [List.map_append, en, take_snoc hd]
      rfl
    · refine paired_snoc (Paired.mapP hts fun a r hr => ?_) upd_same
      have hat : a ≠ t := fun z => by
        have := u2.bh a _ (u2.bb a _ hr)
        rw [z, htH] at this
        cases this
      rw [upd_ne hat]
      exact u2.bb a _ hr
    · rw [List.map_append, List.nodup_append]
      refine ⟨nd, by simp, fun a ha b hb => ?_⟩
      obtain ⟨r, hr, rfl⟩ := List.mem_map.mp ha
      have eb : b = l := by simpa using hb
      rw [eb]
      exact ne_of_none (u2.hh _ _ (hes r hr).1) hl
    · rcases List.mem_append.mp hr with hr | hr
      · obtain ⟨g1, g2, g3⟩ := hes r hr
        obtain ⟨g4, g5⟩ := u2.out g2 g1
        have n1 : r.2 ≠ l := ne_of_none g5 hl
        have n2 : r.2 ≠ t := ne_of_none g5 htH
        have n3 : r.2 ≠ L := fun z => by
          rw [z, eL] at g1
          cases hE : ts with
          | nil =>
            rw [hE] at hts
            cases hts
            cases hr
          | cons y ys =>
            rw [hE] at g1
            cases g1
        exact ⟨by rw [upd_ne n3, upd_ne n2, upd_ne n1]; exact g5, by rw [upd_ne n2]; exact g4, g3⟩
      · rw [List.mem_singleton] at hr
        subst hr
        exact ⟨by show upd (upd (upd H' l _) t _) L _ l = _; rw [upd_ne hLl.symm, upd_ne hlt.symm, upd_same], by show upd B2 t _ l = none; rw [upd_ne hlt.symm]; exact Evl.fresh_back u2.bh hl, Evl.fresh_back (u.trans u2).hh hl⟩
  · obtain ⟨Bi, es, ts, u, bL, eL, en, hts, nd, hes⟩ := hp
    rw [List.take_length] at en
    have uH0 := up.trans u
    have n1 : (es.map (·.1)).Nodup := by rw [en]; exact ok.nd
    refine ⟨L, ts, kvOf es, rfl, Evl.sq_of eL, ?_, fun D hD => ?_⟩
    · have key : ∀ {ts : List Addr} {es : List (Str × Addr)}, Paired (fun (t : Addr) (r : Str × Addr) => Bi t = some (.tup [.str r.1, .ref r.2])) ts es → Paired (fun p kv => SqT K H' p [kV kv.1, kv.2]) ts (kvOf es) := by
        intro ts es hp
        induction hp with
        | nil => exact .nil
        | cons h _ ih => exact .cons (Evl.st_of (u.bh _ _ h)) ih
      exact key hts
    · rw [mergeK_kvOf n1]
      have hDH : H D = none := Evl.fresh_back uH0.hh hD
      have hfH : ∀ r ∈ es, H r.2 = none := fun r hr => Evl.fresh_back up.hh (hes r hr).2.2
      have uH : Up B H Bi (upd H' D (.dK (kvOf es))) := uH0.hold hD
      have t : TabAt es (fun _ => []) D Bi (upd H' D (.dK (kvOf es))) := ⟨upd_same, fun r hr => by rw [upd_ne (ne_of_none (hes r hr).1 hD)]; exact (hes r hr).1, Evl.fresh_back uH0.bh hD, fun r hr => (hes r hr).2.1, nd, fun r hr => ne_of_none (hes r hr).1 hD⟩
      clear u hts eL
      generalize upd H' D (.dK (kvOf es)) = H2 at uH t ⊢
      refine q_for (it_sq (e_ex (e_var rfl (Rep.mono uH.bb h1)))) uH.bh fun B3 H3 u3 => ⟨fun done σ' B' H' => Up B H B' H' ∧ TabAt es (rawP done) D B' H' ∧ ∃ y2 y3, σ' = [some v, some (.ref D), y2, y3],
        ⟨uH.trans u3, t.up u3, none, none, rfl⟩, fun done x rest w σ' B' Hx B2 H' ex b1 bx hP u2 hv => ?_, fun σ' B' H' b1 bx hP => ?_⟩
      · obtain ⟨uB, tB, y2, y3, rfl⟩ := hP
        have t2 := tB.up u2
        have hx : x ∈ prs p.ex := by rw [ex]; simp
        have hxx : x.a ∈ p.sw ∧ x.b ∈ p.sw := by
          obtain ⟨z, hz, rfl⟩ := List.mem_map.mp hx
          exact ok.ex z hz
        have ha : ∃ a, (x.a, a) ∈ es := by
          rw [← en] at hxx
          obtain ⟨z, hz, e1⟩ := List.mem_map.mp hxx.1
          exact ⟨z.2, by rw [← e1]; exact hz⟩
        have hb : ∃ a, (x.b, a) ∈ es := by
          rw [← en] at hxx
          obtain ⟨z, hz, e1⟩ := List.mem_map.mp hxx.2
          exact ⟨z.2, by rw [← e1]; exact hz⟩
        obtain ⟨la, ha⟩ := ha
        obtain ⟨lb, hb⟩ := hb
        have hdl : done.length ≤ p.ex.length := by
          have e1 := congrArg List.length ex
          rw [List.length_append, List.length_cons] at e1
          have e2 : (prs p.ex).length = p.ex.length := by simp [prs]
          omega
        have hsz : ∀ s, (rawP done s).length ≤ 200000 := fun s => by
          have := rawP_len done s
          have := ok.n2
          omega
        refine unp_pr hv u2.bh ?_
        refine qapp_do (x := x.b) (t2.dl _ ha) u2.bh (fun H4 Q4 e4 q4 => ?_) (e_var rfl (at_str.mpr rfl)) (by rw [List.length_map]; exact Nat.le_trans (hsz x.a) (by decide)) fun v5 B5 H5 u5 hv5 => ?_
        · exact ⟨_, rfl, _, rfl, .inr (.inr (.inr ⟨D, .ref la, rfl, .inl ⟨kvOf es, .inr x.a, .inl (e4 _ _ t2.dD), rfl, (valV_kvOf n1 ha).symm⟩, q4⟩))⟩
        · cases at_str.mp hv5
          have t5 := t2.up u5
          have t6 := t5.app ha n1 x.b
          have w6 := ((uB.trans u2).trans u5).mut (o := .lst ((rawP done x.a).map V.str ++ [.str x.b])) (hfH _ ha) (t5.bl _ ha)
          refine app_do (x := x.a) (t6.dl _ hb) w6.bh (fun H4 Q4 e4 q4 => ?_) (e_var (i := 2) rfl (at_str.mpr rfl)) ?_ fun v7 B7 H7 u7 hv7 => ?_
          · exact ⟨_, rfl, _, rfl, .inr (.inr (.inr ⟨D, .ref lb, rfl, .inl ⟨kvOf es, .inr x.b, .inl (e4 _ _ t6.dD), rfl, (valV_kvOf n1 hb).symm⟩, q4⟩))⟩
          · rw [List.length_map]
            have h1 := hsz x.b
            show (if x.b = x.a then rawP done x.b ++ [x.b] else rawP done x.b).length ≤ _
            split
            · rw [List.length_append, List.length_singleton]
              omega
            · omega
          · cases at_str.mp hv7
            have t7 := (t6.up u7).app hb n1 x.a
            have w7 := (w6.trans u7).mut (o := .lst (((if x.b = x.a then rawP done x.b ++ [x.b] else rawP done x.b)).map V.str ++ [.str x.a])) (hfH _ hb) ((t6.up u7).bl _ hb)
            refine ⟨B7, ((b1.trans u2.bb).trans u5.bb).trans u7.bb, w7.bh, w7, ?_, _, _, rfl⟩
            have ec : (fun y => if y = x.b then (if y = x.a then rawP done y ++ [x.b] else rawP done y) ++ [x.a] else (if y = x.a then rawP done y ++ [x.b] else rawP done y)) = rawP (done ++ [x]) := by
              funext y
              rw [rawP_snoc]
              by_cases e1 : y = x.a
              · by_cases e2 : y = x.b
                · rw [if_pos e2, if_pos e1, if_pos e1.symm, if_pos e2.symm]
                  simp
                · rw [if_neg e2, if_pos e1, if_pos e1.symm, if_neg (fun z => e2 z.symm)]
                  simp
              · by_cases e2 : y = x.b
                · rw [if_pos e2, if_neg e1, if_neg (fun z => e1 z.symm), if_pos e2.symm]
                  simp
                · rw [if_neg e2, if_neg e1, if_neg (fun z => e1 z.symm), if_neg (fun z => e2 z.symm)]
                  simp
            rw [← ec]
            exact t7
      · obtain ⟨uB, tB, y2, y3, rfl⟩ := hP
        obtain ⟨B4, u4, e4, k4⟩ := uB.freezes (es := (D, HO.dK (kvOf es)) :: es.map fun r => (r.2, HO.lst ((rawP (prs p.ex) r.1).map V.str))) fun r hr => by
          rcases List.mem_cons.mp hr with rfl | hr
          · exact ⟨tB.dD, hDH⟩
          · obtain ⟨z, hz, rfl⟩ := List.mem_map.mp hr
            exact ⟨tB.dl z hz, hfH z hz⟩
        have hB4 : B4 D = some (.dK (kvOf es)) := k4 _ List.mem_cons_self
        have hl4 : ∀ r ∈ es, B4 r.2 = some (.lst ((rawP (prs p.ex) r.1).map V.str)) := fun r hr => k4 (r.2, _) (List.mem_cons_of_mem _ (List.mem_map.mpr ⟨r, hr, rfl⟩))
        have ek : (kvOf es).map (·.1) = p.sw.map Sum.inr := by
          rw [← en]
          unfold kvOf
          rw [List.map_map, List.map_map]
          rfl
        have hdic : Rep.at_ K B4 (.ref D) (TabR.mk (es.map fun r => (r.1, rawP (prs p.ex) r.1))) := by
          refine ⟨D, kvOf es, rfl, .inl hB4, ?_, ?_⟩
          · rw [kvOf_len]
            have e1 := congrArg List.length en
            rw [List.length_map] at e1
            have := ok.n1
            omega
          · have key : ∀ rs : List (Str × Addr), (∀ r ∈ rs, B4 r.2 = some (.lst ((rawP (prs p.ex) r.1).map V.str))) → TabRAt B4 (kvOf rs) (rs.map fun r => (r.1, rawP (prs p.ex) r.1)) := by
              intro rs
              induction rs with
              | nil => intro _; exact .nil
              | cons r rs ih => intro h; exact .cons ⟨rfl, r.2, rfl, .inl (h r List.mem_cons_self)⟩ (ih fun r' h' => h r' (List.mem_cons_of_mem _ h'))
            exact key es hl4
        have e6 : (TabR.mk (es.map fun r => (r.1, rawP (prs p.ex) r.1)) : TabR) = TabR.mk (lawTab p).kvs := by
          unfold lawTab
          rw [← en, List.map_map]
          congr 1
          refine List.map_congr_left fun r _ => ?_
          show (r.1, rawP (prs p.ex) r.1) = (r.1, raw p.ex r.1)
          rw [rawP_prs]
        rw [e6] at hdic
        exact p_ret (e_var rfl hdic) u4.bh fun v B5 H5 u5 hv => q v B5 H5 (u4.trans u5) hv
end
end Ob
set_option Elab.async false
set_option linter.all false
set_option maxRecDepth 100000
set_option maxHeartbeats 4000000
/-! M5: states stay states; more exclusions, fewer on. Plain Lean. -/
namespace Ob
open PySem L2
open PySem.W (Datum Tup DatumOrd)
def StOk (p : Pan) (st : List Str) : Prop := Asc st ∧ (∀ x ∈ st, x ∈ p.sw) ∧ ∀ x ∈ st, ∀ y ∈ st, (x, y) ∉ p.ex
theorem mem_wp {rv : Str → List Str} {st : List Str} {x z : Str} : z ∈ wp rv st x ↔ (z ∈ st ∧ z ∉ rv x ∧ z ≠ x) ∨ z = x := by
  unfold wp
  rw [mem_sortD, List.mem_append, List.mem_filter, List.mem_singleton]
  simp
theorem wp_asc {rv : Str → List Str} {st : List Str} {x : Str} (h : st.Nodup) : Asc (wp rv st x) := by
  refine sortD_asc (List.nodup_append.mpr ⟨h.filter _, by simp, fun a ha b hb => ?_⟩)
  rw [List.mem_singleton] at hb
  rw [hb]
  rintro rfl
  simp at ha
theorem wp_st {p : Pan} (irr : ∀ e ∈ p.ex, e.1 ≠ e.2) {st : List Str} {x : Str} (h : StOk p st) (hx : x ∈ p.sw) : StOk p (wp (rvs p) st x) := by
  obtain ⟨h1, h2, h3⟩ := h
  refine ⟨wp_asc (asc_nodup h1), fun z hz => ?_, fun a ha b hb => ?_⟩
  · rcases mem_wp.mp hz with ⟨z1, _⟩ | z1
    · exact h2 z z1
    · rw [z1]; exact hx
  · rcases mem_wp.mp ha with ⟨a1, a2, a3⟩ | a1
    · rcases mem_wp.mp hb with ⟨b1, b2, b3⟩ | b1
      · exact h3 a a1 b b1
      · rw [b1]
        exact fun z => a2 (mem_rvs.mpr (.inr z))
    · rw [a1]
      rcases mem_wp.mp hb with ⟨b1, b2, b3⟩ | b1
      · exact fun z => b2 (mem_rvs.mpr (.inl z))
      · rw [b1]
        exact fun z => irr _ z rfl
end Ob
set_option Elab.async false
set_option linter.all false
set_option maxRecDepth 100000
set_option maxHeartbeats 4000000
/-! D5w: the wired family: what D5 holds without the law's state. -/
namespace Ob
open PySem L2
open Evl (Ex)
open PySem.W (Datum Tup DatumOrd)
section
variable {K : PySem.W.Frag} {H B B' : Hp} {v : V} {σ : L2.St} {te ta tb tc tk tv : TE} {tt tt1 tu : TT} {b : Addr} {n m : Int}
theorem p_ifAndB {R : Bool → Prop} {t1 t2 : TS} {D : Ends} {c : Int} (h : Pb K b n te σ B R) (e : Ex B H) (bx : BoxAt c B H b) (hc : c + n ≤ 2 ^ 40) (k1 : ∀ B1 H1, R true → Ub b B H B1 H1 → BoxAt (c + n) B1 H1 b → tIfS tt t1 t2 D σ H1) (k2 : ∀ B1 H1, R false → Ub b B H B1 H1 → BoxAt (c + n) B1 H1 b → t2 D σ H1) : tIfS (tAnd (tTest te) tt) t1 t2 D σ H :=
  h H c e bx hc (fun v H1 => ∃ k, v = .bl k ∧ (if k = true then tt σ H1 (fun b H1 => if b = true then t1 D σ H1 else t2 D σ H1) else (if false = true then t1 D σ H1 else t2 D σ H1))) (fun v x B1 H1 u ub r hv => ⟨x, at_bl.mp hv, by
    cases x with
    | true => exact k1 B1 H1 r u ub
    | false => exact k2 B1 H1 r u ub⟩)
end
section
variable {K : PySem.W.Frag}
structure PanG (m : Int) (p : Pan) : Prop where
  asc : Asc p.sw
  ne : p.sw ≠ []
  len : (p.sw.length : Int) ≤ m
  ex : ∀ e ∈ p.ex, (e.1 ∈ p.sw ∧ e.2 ∈ p.sw) ∧ ltS e.1 e.2 = true
  so : sortD p.ex = p.ex
  el : p.ex.length ≤ 300
  xn : p.ex.Nodup
  nm : ∀ x ∈ p.sw, x ∈ poolN
theorem rawP_len2 (ex : List (Str × Str)) (s : Str) : (raw ex s).length ≤ 2 * ex.length := by
  rw [← rawP_prs]
  have h1 := rawP_len (prs ex) s
  have h2 : (prs ex).length = ex.length := by simp [prs]
  omega
end
end Ob
set_option Elab.async false
set_option linter.all false
set_option maxRecDepth 100000
set_option maxHeartbeats 4000000
/-! M4: the order of pairs of texts; least and greatest of two; neighbours in a list. -/
namespace Ob
open PySem L2
open PySem.W (Datum Tup DatumOrd)
abbrev SS : Type := Str × Str
def ltP (p q : SS) : Bool := if p.1 = q.1 then ltS p.2 q.2 else ltS p.1 q.1
theorem ltP_irr (p : SS) : ltP p p = false := by
  unfold ltP
  rw [if_pos rfl, ltS_irr]
theorem ltP_tr {p q r : SS} (h : ltP p q = true) (k : ltP q r = true) : ltP p r = true := by
  unfold ltP at *
  by_cases e1 : p.1 = q.1
  · rw [if_pos e1] at h
    by_cases e2 : q.1 = r.1
    · rw [if_pos e2] at k
      rw [if_pos (e1.trans e2)]
      exact ltS_tr h k
    · rw [if_neg e2] at k
      rw [if_neg (fun z => e2 (e1.symm.trans z)), e1]
      exact k
  · rw [if_neg e1] at h
    by_cases e2 : q.1 = r.1
    · rw [if_pos e2] at k
      rw [← e2, if_neg e1]
      exact h
    · rw [if_neg e2] at k
      have h3 := ltS_tr h k
      by_cases e3 : p.1 = r.1
      · rw [e3, ltS_irr] at h3
        cases h3
      · rw [if_neg e3]
        exact h3
theorem ltP_tri (p q : SS) : ltP p q = true ∨ p = q ∨ ltP q p = true := by
  unfold ltP
  by_cases e : p.1 = q.1
  · rw [if_pos e, if_pos e.symm]
    rcases ltS_tri p.2 q.2 with h | h | h
    · exact .inl h
    · exact .inr (.inl (Prod.ext e h))
    · exact .inr (.inr h)
  · rw [if_neg e, if_neg (fun z => e z.symm)]
    rcases ltS_tri p.1 q.1 with h | h | h
    · exact .inl h
    · exact absurd h e
    · exact .inr (.inr h)
theorem ltP_asy {x y : SS} (h : ltP x y = true) : ltP y x = false := by
  cases k : ltP y x with
  | false => rfl
  | true =>
    have := ltP_tr h k
    rw [ltP_irr] at this
    cases this
def leP (x y : SS) : Bool := !ltP y x
theorem leP_total (x y : SS) : (leP x y || leP y x) = true := by
  unfold leP
  rcases ltP_tri x y with h | h | h
  · rw [ltP_asy h]; rfl
  · rw [h, ltP_irr]; rfl
  · rw [ltP_asy h]; simp
theorem leP_trans (x y z : SS) (h : leP x y = true) (k : leP y z = true) : leP x z = true := by
  unfold leP at *
  simp only [Bool.not_eq_true'] at *
  rcases ltP_tri z x with a | a | a
  · rcases ltP_tri y z with b | b | b
    · rw [ltP_tr b a] at h; cases h
    · rw [b] at h; rw [h] at a; cases a
    · rw [b] at k; cases k
  · rw [a]; exact ltP_irr _
  · exact ltP_asy a
theorem leP_anti {x y : SS} (h : leP x y = true) (k : leP y x = true) : x = y := by
  unfold leP at *
  simp only [Bool.not_eq_true'] at *
  rcases ltP_tri x y with a | a | a
  · rw [a] at k; cases k
  · exact a
  · rw [a] at h; cases h
theorem sortP_sorted (xs : List SS) : (sortD xs).Pairwise fun x y => leP x y = true := List.pairwise_mergeSort leP_trans leP_total xs
theorem perm_sortP {xs ys : List SS} (h : xs.Perm ys) : sortD xs = sortD ys :=
  ((sortD_perm xs).trans (h.trans (sortD_perm ys).symm)).eq_of_pairwise (fun x y _ _ h k => leP_anti h k) (sortP_sorted xs) (sortP_sorted ys)
theorem sortP_idem (xs : List SS) : sortD (sortD xs) = sortD xs := perm_sortP (sortD_perm xs)
theorem min_max {x y : Str} (h : x ≠ y) : ltS (minS x y) (maxS x y) = true ∧ (minS x y = x ∧ maxS x y = y ∨ minS x y = y ∧ maxS x y = x) := by
  unfold minS maxS
  rcases ltS_tri x y with a | a | a
  · rw [ltS_asy a, a]
    exact ⟨a, .inl ⟨rfl, rfl⟩⟩
  · exact absurd a h
  · rw [ltS_asy a, a]
    exact ⟨a, .inr ⟨rfl, rfl⟩⟩
end Ob
set_option Elab.async false
set_option linter.all false
set_option maxRecDepth 100000
set_option maxHeartbeats 4000000
/-! M6: the pairs of a path, a ring, a star: no pair twice. Plain Lean. -/
namespace Ob
open PySem L2
open PySem.W (Datum Tup DatumOrd)
def mm (x y : Str) : SS := (minS x y, maxS x y)
theorem mm_inj {x y a b : Str} (h1 : x ≠ y) (h2 : a ≠ b) (h : mm x y = mm a b) : (x = a ∧ y = b) ∨ (x = b ∧ y = a) := by
  have e1 : minS x y = minS a b := congrArg Prod.fst h
  have e2 : maxS x y = maxS a b := congrArg Prod.snd h
  obtain ⟨_, k1⟩ := min_max h1
  obtain ⟨_, k2⟩ := min_max h2
  rcases k1 with ⟨p1, p2⟩ | ⟨p1, p2⟩
  · rcases k2 with ⟨q1, q2⟩ | ⟨q1, q2⟩
    · exact .inl ⟨by rw [← p1, e1, q1], by rw [← p2, e2, q2]⟩
    · exact .inr ⟨by rw [← p1, e1, q1], by rw [← p2, e2, q2]⟩
  · rcases k2 with ⟨q1, q2⟩ | ⟨q1, q2⟩
    · exact .inr ⟨by rw [← p2, e2, q2], by rw [← p1, e1, q1]⟩
    · exact .inl ⟨by rw [← p2, e2, q2], by rw [← p1, e1, q1]⟩
theorem map_nd {α β : Type} {f : α → β} {xs : List α} (nd : xs.Nodup) (hi : ∀ x ∈ xs, ∀ y ∈ xs, f x = f y → x = y) : (xs.map f).Nodup := by
  induction xs with
  | nil => exact .nil
  | cons x xs ih =>
    rw [List.nodup_cons] at nd
    rw [List.map_cons, List.nodup_cons]
    refine ⟨fun h => ?_, ih nd.2 fun a ha b hb => hi a (List.mem_cons_of_mem _ ha) b (List.mem_cons_of_mem _ hb)⟩
    obtain ⟨y, hy, e⟩ := List.mem_map.mp h
    have := hi y (List.mem_cons_of_mem _ hy) x List.mem_cons_self e
    exact nd.1 (this ▸ hy)
theorem nd_idx {α : Type} {xs : List α} (nd : xs.Nodup) {i j : Nat} {x : α} (h1 : xs[i]? = some x) (h2 : xs[j]? = some x) : i = j := by
  obtain ⟨l1, e1⟩ := List.getElem?_eq_some_iff.mp h1
  obtain ⟨l2, e2⟩ := List.getElem?_eq_some_iff.mp h2
  exact (List.getElem_inj (h₀ := l1) (h₁ := l2) nd).mp (by rw [e1, e2])
theorem star_nd {os : List Str} (nd : os.Nodup) {o : Str} (h : ∀ z ∈ os, o ≠ z) : (os.map fun z => mm o z).Nodup := by
  refine map_nd nd fun x hx y hy e => ?_
  rcases mm_inj (h x hx) (h y hy) e with ⟨_, b⟩ | ⟨a, b⟩
  · exact b
  · exact absurd a (h y hy)
end Ob
set_option Elab.async false
set_option linter.all false
set_option maxRecDepth 100000
set_option maxHeartbeats 4000000
/-! D6w: the wired family: what D6 holds without the law's panel. -/
namespace Ob
open PySem L2
open Evl (Ex)
open PySem.W (Datum Tup DatumOrd)
section
variable {K : PySem.W.Frag} {H B B' : Hp} {v : V} {σ : L2.St} {te ta tb tc tk tv : TE} {tt tt1 tu : TT} {b : Addr} {n m : Int}
/-- a comprehension whose list stays open -/
theorem lcU {γ β : Type} [Rep γ] [DecidableEq β] [Datum β] {wi : TI} {g : TG} {vs : List Nat} {xs : List γ} {Q : VK} (f : γ → Bool) (y : γ → β) (h : ItD K wi σ B xs) (e : Ex B H) (hz : xs.length ≤ 1000000)
    (ht : ∀ x ∈ xs, ∀ v B1, Ex B B1 → Rep.at_ K B1 v x → TurnD K g tt te vs σ B1 v (f x) (y x))
    (q : ∀ D ws B1 H1, Up B H B1 H1 → B1 D = none → H D = none → H1 D = some (.lst ws) → AtAll K B1 ws ((xs.filter f).map y) → Q (.ref D) H1) : tLc wi g tt te vs σ H Q :=
  h H e _ fun J B1 H1 G Y up W hG hY D hD => by
    have hDH : H D = none := Evl.fresh_back up.hh hD
    have hDB : B1 D = none := Evl.fresh_back up.bh hD
    refine walk_w W (fun i H' => ∃ Bi ws, Ex B1 Bi ∧ Gw K B1 H1 D Bi H' ws (((xs.take i).filter f).map y))
      ⟨B1, [], Ex.refl _, fun _ h => .inl h, hDB, ex_upd up.bh hDB, Ex.new hD, upd_same, .nil⟩ (fun i H' _ p => ?_) (fun i x Hx H' hi p hy => ?_) (fun H' p => ?_)
    · obtain ⟨Bi, ws, b1, gw⟩ := p
      exact hG H' (b1.trans gw.bh)
    · obtain ⟨Bi, ws, b1, gw⟩ := p
      obtain ⟨d, hd, hB⟩ := hY i x Hx H' hi (b1.trans gw.bh) hy
      obtain ⟨B2, u2, hx⟩ := hB Bi b1 gw.bh
      have gw2 := gw.up u2
      obtain ⟨σ2, hg, hw, htt, hte⟩ := ht d (mem_of_get hd) x B2 ((up.bb.trans b1).trans u2.bb) hx
      refine hg H' _ u2.bh ⟨hw, htt.stay u2.bh fun H3 u3 => ?_⟩
      have gw3 := gw2.up u3
      cases hf : f d with
      | false =>
        refine ⟨B2, ws, b1.trans u2.bb, ?_⟩
        rw [take_snoc hd, List.filter_append, List.map_append, List.filter_cons, if_neg (by rw [hf]; decide)]
        show Gw K B1 H1 D B2 H3 ws (_ ++ [])
        rw [List.append_nil]
        exact gw3
      | true =>
        rw [hf] at hte
        refine (hte rfl) H3 gw3.bh _ fun w B4 H4 u4 hw4 => ⟨ws, (gw3.up u4).eD, ?_, B4, ws ++ [w], (b1.trans u2.bb).trans u4.bb, ?_⟩
        · have h1 := gw.al.length
          rw [List.length_map] at h1
          have h2 := List.length_filter_le f (xs.take i)
          have h3 := List.length_take_le i xs
          have : (sizeLine : Nat) = 16777216 := sizeLine_eq
          omega
        · rw [take_snoc hd, List.filter_append, List.map_append, List.filter_cons, if_pos hf]
          exact (gw3.up u4).push hD hw4
    · obtain ⟨Bi, ws, b1, gw⟩ := p
      have hA := gw.al
      rw [List.take_length] at hA
      refine q D ws Bi H' ⟨up.bb.trans b1, gw.bh, up.hh.trans gw.hh, fun a ha => ?_⟩ gw.bD hDH gw.eD hA
      rcases gw.nw a ha with z | z
      · exact up.nw a z
      · exact .inr (Evl.fresh_back up.hh z)
theorem rd_addL {α : Type} [DecidableEq α] [Datum α] {xs ys : List α} (hz : xs.length + ys.length ≤ 1000000) : RD K (rAddU K) xs ys (xs ++ ys) := fun B H v w e h1 h2 Q q => by
  obtain ⟨a, vs, rfl, hs, hx⟩ := at_list.mp h1
  obtain ⟨b, ws, rfl, hs2, hy⟩ := at_list.mp h2
  refine .inr (.inr (.inl ⟨a, b, vs, ws, rfl, rfl, Evl.ex_l e hs, Evl.ex_l e hs2, ?_, fun p hp => ?_⟩))
  · rw [hx.length, hy.length]
    exact Nat.le_trans hz (by rw [sizeLine_eq]; decide)
  · have u := Up.new (o := .lst (vs ++ ws)) e hp
    exact q _ _ _ u (at_list.mpr ⟨p, _, rfl, Evl.sq_of upd_same, (hx.append hy).mono u.bb⟩)
end
theorem good_mm {ns : List Str} {x y : Str} (hx : x ∈ ns) (hy : y ∈ ns) (h : x ≠ y) : (minS x y ∈ ns ∧ maxS x y ∈ ns) ∧ ltS (minS x y) (maxS x y) = true := by
  obtain ⟨h1, h2⟩ := min_max h
  refine ⟨?_, h1⟩
  rcases h2 with ⟨e1, e2⟩ | ⟨e1, e2⟩
  · rw [e1, e2]; exact ⟨hx, hy⟩
  · rw [e1, e2]; exact ⟨hy, hx⟩
section
variable {K : PySem.W.Frag}
theorem atI_nat {α : Type} {xs : List α} {k : Int} {x : α} (k0 : 0 ≤ k) (h : xs[k.toNat]? = some x) : atI xs k = some x := by
  obtain ⟨l, _⟩ := List.getElem?_eq_some_iff.mp h
  unfold atI ixN
  rw [if_pos k0, if_pos (by omega)]
  exact h
end
end Ob
set_option Elab.async false
set_option linter.all false
set_option maxRecDepth 100000
set_option maxHeartbeats 4000000
/-! D7: what the laws' last defs need: pairs unpacked, two draws at once, tuples joined, all() over the boxes. -/
namespace Ob
open PySem L2
open Evl (Ex)
open PySem.W (Datum Tup DatumOrd)
section
variable {K : PySem.W.Frag} {H B B' : Hp} {v : V} {σ : L2.St} {te ta tb tc tk tv : TE} {tt tt1 tu : TT} {b : Addr} {n m : Int}
theorem e_addT {α : Type} [DecidableEq α] [Datum α] {xs ys : List α} (ha : Pe K ta σ B (Tup.mk xs)) (hb : Pe K tb σ B (Tup.mk ys)) (hz : xs.length + ys.length ≤ 1000000) : Pe K (tOp (rAddU K) ta tb) σ B (Tup.mk (xs ++ ys)) :=
  e_op ha hb fun B H v w e h1 h2 Q q => by
    obtain ⟨a, vs, rfl, hs, hx⟩ := at_tup.mp h1
    obtain ⟨b, ws, rfl, hs2, hy⟩ := at_tup.mp h2
    refine .inr (.inr (.inr ⟨a, b, vs, ws, rfl, rfl, ex_tx e hs, ex_tx e hs2, ?_, fun hn => ?_, fun _ hn => ?_, fun _ _ p hp => ?_⟩))
    · rw [hx.length, hy.length]
      exact Nat.le_trans hz (by rw [sizeLine_eq]; decide)
    · subst hn
      have e1 : xs = [] := List.eq_nil_of_length_eq_zero hx.length.symm
      subst e1
      exact q _ B H (Up.refl e) (at_tup.mpr ⟨b, ws, rfl, hs2, hy⟩)
    · subst hn
      have e1 : ys = [] := List.eq_nil_of_length_eq_zero hy.length.symm
      subst e1
      rw [List.append_nil] at q
      exact q _ B H (Up.refl e) (at_tup.mpr ⟨a, vs, rfl, hs, hx⟩)
    · have u := Up.new (o := .tup (vs ++ ws)) e hp
      exact q _ _ _ u (at_tup.mpr ⟨p, _, rfl, upd_same, (hx.append hy).mono u.bb⟩)
/-- _law_right: it holds -/
def RightP (K : PySem.W.Frag) : Sp := fun vs H Q _ => ∃ b B, vs = [.ref b] ∧ Ex B H ∧ BoxAt 0 B H b ∧ ∀ B2 H2, Ub b B H B2 H2 → Q (.bl true) H2
theorem RightP.len (vs : List V) (H : Hp) (Q : VK) (E : XK) (h : RightP K vs H Q E) : vs.length = 1 := by
  obtain ⟨b, B, rfl, _⟩ := h
  rfl
theorem e_right {s : Sq Int} {k : Int} {E E' : XK} (h1 : Pe K ta σ B s) (h2 : Pe K tb σ B k) (k0 : 0 ≤ k) (k1 : k ≤ 1000) : Pe K (tCall (RightP K) [] E (tCons (tCall (sp_Lbox K) [] E' (tCons ta (tCons tb tNil))) tNil)) σ B true := fun H e Q q =>
  a_2 h1 h2 H e (fun vs H1 => sp_Lbox K (vs ++ []) H1 (fun v H2 => RightP K ([v] ++ []) H2 Q E) E') fun vs B1 H1 u hv => by
    rw [List.append_nil]
    exact ⟨s, k, B1, u.bh, hv, ⟨k0, k1⟩, fun b B2 H2 u2 hn bx => ⟨b, B2, rfl, u2.bh, bx, fun B3 H3 u3 => q _ B3 H3 (u.trans (Ub.new u2 hn bx.ne u3)) (at_bl.mpr rfl)⟩⟩
/-- all([_law_right(_law_box(script, k)) for k in range(1 + min(j, len(script)))]) -/
theorem e_law {s : Sq Int} {j : Int} {i0 i1 : Nat} {vs : List Nat} {E E' : XK} {vsc : V} (hi : σ[i0]? = some (some vsc)) (hs : Rep.at_ K B vsc s) (j0 : 0 ≤ j) (j1 : j ≤ 100)
    (hset : ∀ w, ((wipe σ vs).set i1 (some w))[i0]? = some (some vsc) ∧ ((wipe σ vs).set i1 (some w))[i1]? = some (some w) ∧ wipe ((wipe σ vs).set i1 (some w)) vs = wipe σ vs) :
    Pe K (tCB (rAll K) (tCons (tLc (iRng1 (tCons (tOp (rAddU K) (tC (.int 1)) (tCB (rMinU) (tCons (tC (.int j)) (tCons (tCB (rLenU K) (tCons (tVar i0) tNil)) tNil)))) tNil)) (gName i1) tYes (tCall (RightP K) [] E (tCons (tCall (sp_Lbox K) [] E' (tCons (tVar i0) (tCons (tVar i1) tNil))) tNil)) vs) tNil)) σ B true := by
  have hm : 0 ≤ (if (s.items.length : Int) < j then (s.items.length : Int) else j) ∧ (if (s.items.length : Int) < j then (s.items.length : Int) else j) ≤ j := by split <;> omega
  refine (e_all (e_lc (fun _ => true) (fun _ : Int => true) (it_rng1 (e_addI e_int (e_minI e_int (e_lenSq (e_var hi hs)))) (by omega) (by omega)) (by rw [rangeI_len]; omega) fun k hk w B1 b1 hw => turn_name rfl (hset w).2.2 t_yes fun _ => ?_)).is ?_
  · obtain ⟨z, hz, rfl⟩ := List.mem_map.mp hk
    rw [List.mem_range] at hz
    exact e_right (e_var (hset w).1 (Rep.mono b1 hs)) (e_var (hset w).2.1 hw) (by omega) (by omega)
  · rw [all_map_id]
    simp
end
section
variable {K : PySem.W.Frag}
/-- the law, of its script -/
abbrev sp_law (K : PySem.W.Frag) : Sp := Fn1 K (fun _ : Sq Int => True) fun _ => true
theorem l_law (vs : List V) (H : Hp) (Q : VK) (E : XK) (h : sp_law K vs H Q E) : vs.length = 1 := Fn1.len vs H Q E h
abbrev sp_Lright (K : PySem.W.Frag) : Sp := RightP K
theorem l_Lright (vs : List V) (H : Hp) (Q : VK) (E : XK) (h : sp_Lright K vs H Q E) : vs.length = 1 := RightP.len vs H Q E h
def N_law : List Str := ["_law_script", "_law_k"]
def t_law (K : PySem.W.Frag) : TS :=
  (tRet (tCB (rAll K) (tCons (tLc (iRng1 (tCons (tOp (rAddU K) (tC (.int 1)) (tCB (rMinU) (tCons (tC (.int 2)) (tCons (tCB (rLenU K) (tCons (tVar 0) tNil)) tNil)))) tNil)) (gName 1) tYes (tCall (sp_Lright K) [] E0 (tCons (tCall (sp_Lbox K) [] E0 (tCons (tVar 0) (tCons (tVar 1) tNil))) tNil)) [1]) tNil)))
theorem r_law (vs : List V) (H : Hp) (Q : VK) (E : XK) (h : sp_law K vs H Q E) : t_law K (Ends.ret Q) (start N_law vs) H := by
  obtain ⟨s, B, e, ⟨v, _, rfl, h1, rfl⟩, _, q⟩ := h
  exact p_ret (e_law (s := s) rfl h1 (by decide) (by decide) (fun w => ⟨rfl, rfl, rfl⟩)) e q
end
end Ob
set_option Elab.async false
set_option linter.all false
set_option maxRecDepth 100000
set_option maxHeartbeats 4000000
/-! S1: the state as one record: slots by what they hold, objects that may change, what stood at the start. -/
namespace Ob
open PySem L2
open Evl (Ex)
open PySem.W (Datum Tup DatumOrd)
/-! ### slots -/
structure Cell where
  α : Type
  inst : Rep α
  x : α
abbrev ce {α : Type} [r : Rep α] (x : α) : Option Cell := some ⟨α, r, x⟩
abbrev ca (l : Addr) : Option Cell := ce (Any.mk (.ref l))
def At1 (K : PySem.W.Frag) (B : Hp) (o : Option V) (c : Option Cell) : Prop := ∀ d, c = some d → ∃ v, o = some v ∧ @Rep.at_ d.α d.inst K B v d.x
inductive Slots (K : PySem.W.Frag) (B : Hp) : L2.St → List (Option Cell) → Prop where
  | nil : Slots K B [] []
  | cons {o : Option V} {c : Option Cell} {σ : L2.St} {Γ : List (Option Cell)} (a : At1 K B o c) (t : Slots K B σ Γ) : Slots K B (o :: σ) (c :: Γ)
def cg : List (Option Cell) → Nat → Option Cell
  | [], _ => none
  | c :: _, 0 => c
  | _ :: Γ, n + 1 => cg Γ n
def cs : List (Option Cell) → Nat → Option Cell → List (Option Cell)
  | [], _, _ => []
  | _ :: Γ, 0, c => c :: Γ
  | d :: Γ, n + 1, c => d :: cs Γ n c
def cw (Γ : List (Option Cell)) : List Nat → List (Option Cell)
  | [] => Γ
  | v :: vs => cs (cw Γ vs) v none
section
variable {K : PySem.W.Frag} {B B' H : Hp} {σ : L2.St} {Γ : List (Option Cell)} {te ta tb tc tk tv : TE} {tt tu : TT}
theorem At1.none {o : Option V} : At1 K B o none := fun _ h => by cases h
theorem At1.some {α : Type} [r : Rep α] {v : V} {x : α} (h : Rep.at_ K B v x) : At1 K B (some v) (ce x) := fun d e => by
  cases e
  exact ⟨v, rfl, h⟩
theorem Slots.mono (s : Slots K B σ Γ) (e : Ex B B') : Slots K B' σ Γ := by
  induction s with
  | nil => exact .nil
  | cons h t ih => exact .cons (fun d hd => by
      obtain ⟨v, h1, h2⟩ := h d hd
      exact ⟨v, h1, @Rep.mono d.α d.inst _ _ _ _ _ e h2⟩) ih
theorem Slots.get : ∀ {σ : L2.St} {Γ : List (Option Cell)}, Slots K B σ Γ → ∀ {i : Nat} {d : Cell}, cg Γ i = some d → ∃ v, σ[i]? = some (some v) ∧ @Rep.at_ d.α d.inst K B v d.x
  | _, _, .nil, _, _, h => by cases h
  | _, _, .cons a t, 0, d, h => by
    obtain ⟨v, h1, h2⟩ := a d h
    exact ⟨v, by rw [h1]; rfl, h2⟩
  | _, _, .cons a t, n + 1, d, h => by
    obtain ⟨v, h1, h2⟩ := Slots.get t (i := n) h
    exact ⟨v, by simpa using h1, h2⟩
theorem Slots.put : ∀ {σ : L2.St} {Γ : List (Option Cell)}, Slots K B σ Γ → ∀ (i : Nat) {o : Option V} {c : Option Cell}, At1 K B o c → Slots K B (σ.set i o) (cs Γ i c)
  | _, _, .nil, _, _, _, _ => .nil
  | _, _, .cons a t, 0, _, _, h => .cons h t
  | _, _, .cons a t, n + 1, _, _, h => .cons a (Slots.put t n h)
theorem Slots.set {α : Type} [r : Rep α] (s : Slots K B σ Γ) (i : Nat) {v : V} {x : α} (h : Rep.at_ K B v x) : Slots K B (σ.set i (some v)) (cs Γ i (ce x)) := s.put i (At1.some h)
theorem Slots.wipe (s : Slots K B σ Γ) : ∀ vs : List Nat, Slots K B (wipe σ vs) (cw Γ vs)
  | [] => s
  | v :: vs => (Slots.wipe s vs).put v At1.none
theorem Slots.wiped : ∀ (vs : List Nat) {σ : L2.St} {Γ : List (Option Cell)}, Slots K B σ Γ → Slots K B σ (cw Γ vs)
  | [], _, _, s => s
  | v :: vs, σ, Γ, s => by
    have h := Slots.wiped vs s
    have key : ∀ {σ : L2.St} {Γ : List (Option Cell)}, Slots K B σ Γ → ∀ i, Slots K B σ (cs Γ i none) := by
      intro σ Γ s
      induction s with
      | nil => intro i; exact .nil
      | cons a t ih =>
        intro i
        cases i with
        | zero => exact .cons At1.none t
        | succ n => exact .cons a (ih n)
    exact key h v
/-- the slot i, read -/
theorem Slots.v {α : Type} [r : Rep α] {x : α} (s : Slots K B σ Γ) (i : Nat) (h : cg Γ i = ce x) : Pe K (tVar i) σ B x := by
  obtain ⟨v, h1, h2⟩ := s.get h
  exact e_var h1 h2
theorem Slots.rf {l : Addr} (s : Slots K B σ Γ) (i : Nat) (h : cg Γ i = ca l) : σ[i]? = some (some (.ref l)) := by
  obtain ⟨v, h1, h2⟩ := s.get h
  have : v = .ref l := h2
  rw [h1, this]
theorem set_none_comm {σ : L2.St} {i : Nat} : ∀ {vs : List Nat}, i ∈ vs → ∀ o, L2.wipe (σ.set i o) vs = L2.wipe σ vs
  | v :: vs, h, o => by
    unfold L2.wipe
    by_cases hi : i ∈ vs
    · rw [set_none_comm hi o]
    · have hv : i = v := (List.mem_cons.mp h).resolve_right hi
      subst hv
      have key : ∀ {vs : List Nat}, i ∉ vs → L2.wipe (σ.set i o) vs = (L2.wipe σ vs).set i o := by
        intro vs
        induction vs with
        | nil => intro _; rfl
        | cons w ws ih =>
          intro hn
          rw [List.mem_cons, not_or] at hn
          unfold L2.wipe
          rw [ih hn.2, List.set_comm _ _ (fun z => hn.1 z)]
      rw [key hi, List.set_set]
theorem wipe_wipe {σ : L2.St} {vs : List Nat} : L2.wipe (L2.wipe σ vs) vs = L2.wipe σ vs := by
  have key : ∀ ws : List Nat, (∀ w ∈ ws, w ∈ vs) → L2.wipe (L2.wipe σ ws) vs = L2.wipe σ vs := by
    intro ws
    induction ws with
    | nil => intro _; rfl
    | cons w ws ih =>
      intro h
      show L2.wipe ((L2.wipe σ ws).set w none) vs = _
      rw [set_none_comm (h w List.mem_cons_self)]
      exact ih fun z hz => h z (List.mem_cons_of_mem _ hz)
  exact key vs fun _ h => h
/-! ### comprehensions by slots -/
section
variable {β γ : Type} [DecidableEq β] [Datum β] [Rep γ] {wi : TI} {xs : List γ} {j : Nat}
theorem Slots.turn (s : Slots K B σ Γ) {v : V} {x : γ} (h : Rep.at_ K B v x) : Slots K B ((L2.wipe σ [j]).set j (some v)) (cs (cw Γ [j]) j (ce x)) := (s.wipe [j]).set j h
theorem Slots.lc (s : Slots K B σ Γ) (f : γ → Bool) (y : γ → β) (h : ItD K wi σ B xs) (hz : xs.length ≤ 1000000)
    (ht : ∀ x ∈ xs, ∀ σ2 B1, Ex B B1 → Slots K B1 σ2 (cs (cw Γ [j]) j (ce x)) → Pt tt σ2 B1 (f x) ∧ (f x = true → Pe K te σ2 B1 (y x))) : Pe K (tLc wi (gName j) tt te [j]) σ B ((xs.filter f).map y) :=
  e_lc f y h hz fun x hx v B1 b1 hv => by
    obtain ⟨h1, h2⟩ := ht x hx _ B1 b1 ((s.mono b1).turn hv)
    exact turn_name rfl (by rw [set_none_comm (List.mem_singleton.mpr rfl), wipe_wipe]) h1 h2
/-- without a test -/
theorem Slots.lcA (s : Slots K B σ Γ) (y : γ → β) (h : ItD K wi σ B xs) (hz : xs.length ≤ 1000000)
    (ht : ∀ x ∈ xs, ∀ σ2 B1, Ex B B1 → Slots K B1 σ2 (cs (cw Γ [j]) j (ce x)) → Pe K te σ2 B1 (y x)) : Pe K (tLc wi (gName j) tYes te [j]) σ B (xs.map y) :=
  (s.lc (fun _ => true) y h hz fun x hx σ2 B1 b1 s2 => ⟨t_yes, fun _ => ht x hx σ2 B1 b1 s2⟩).is (by rw [List.filter_eq_self.mpr fun _ _ => rfl])
end
section
variable {β : Type} [DecidableEq β] [Datum β] {wi : TI} {xs : List β} {j : Nat}
/-- the items themselves, by a test -/
theorem Slots.lcF (s : Slots K B σ Γ) (f : β → Bool) (h : ItD K wi σ B xs) (hz : xs.length ≤ 1000000)
    (ht : ∀ x ∈ xs, ∀ σ2 B1, Ex B B1 → Slots K B1 σ2 (cs (cw Γ [j]) j (ce x)) → Pt tt σ2 B1 (f x) ∧ cg (cs (cw Γ [j]) j (ce x)) j = ce x) : Pe K (tLc wi (gName j) tt (tVar j) [j]) σ B (xs.filter f) :=
  (s.lc f (fun x => x) h hz fun x hx σ2 B1 b1 s2 => ⟨(ht x hx σ2 B1 b1 s2).1, fun _ => s2.v j (ht x hx σ2 B1 b1 s2).2⟩).is (List.map_id' _)
end
end
/-! ### objects that may change -/
structure OC where
  l : Addr
  P : Hp → HO → Prop
  mono : ∀ {B B' : Hp} {o : HO}, Ex B B' → P B o → P B' o
def lstC (K : PySem.W.Frag) (l : Addr) {α : Type} [Rep α] (xs : List α) : OC := ⟨l, fun B o => ∃ vs, o = .lst vs ∧ AtAll K B vs xs, fun e ⟨vs, h1, h2⟩ => ⟨vs, h1, h2.mono e⟩⟩
def boxC (b : Addr) (c : Int) : OC := ⟨b, fun _ o => ∃ g m k : Int, o = .lst [.int g, .int m, .int k] ∧ 0 ≤ g ∧ 0 ≤ m ∧ m < 2 ^ 62 ∧ 0 ≤ k ∧ k ≤ c, fun _ h => h⟩
structure St (K : PySem.W.Frag) (W0 : List Addr) (B0 H0 : Hp) (os : List OC) (Γ : List (Option Cell)) (σ : L2.St) (B H : Hp) : Prop where
  bb : Ex B0 B
  bh : Ex B H
  hh : ∀ a u, a ∉ W0 → H0 a = some u → H a = some u
  dm : ∀ a, H0 a ≠ none → H a ≠ none
  nw : ∀ a, B a ≠ none → B0 a ≠ none ∨ H0 a = none
  own : ∀ o ∈ os, B o.l = none ∧ (o.l ∈ W0 ∨ H0 o.l = none) ∧ ∃ ob, H o.l = some ob ∧ o.P B ob
  nd : (os.map (·.l)).Nodup
  sl : Slots K B σ Γ
section
variable {K : PySem.W.Frag} {W0 : List Addr} {B0 H0 : Hp} {os : List OC} {Γ : List (Option Cell)} {σ : L2.St} {B H B1 H1 : Hp} {te ta tb tc tk tv : TE} {tt : TT} {D : Ends} {tu tw tz : TS}
theorem St.up (s : St K W0 B0 H0 os Γ σ B H) (u : Up B H B1 H1) : St K W0 B0 H0 os Γ σ B1 H1 where
  bb := s.bb.trans u.bb
  bh := u.bh
  hh a x h h0 := u.hh a x (s.hh a x h h0)
  dm a h := by
    cases q : H a with
    | none => exact absurd q (s.dm a h)
    | some o =>
      rw [u.hh a o q]
      exact fun z => nomatch z
  nw a h := by
    rcases u.nw a h with z | z
    · exact s.nw a z
    · cases q : H0 a with
      | none => exact .inr rfl
      | some o => exact absurd z (s.dm a (by rw [q]; exact fun z => nomatch z))
  own o ho := by
    obtain ⟨h1, h2, ob, h3, h4⟩ := s.own o ho
    exact ⟨(u.out h1 h3).1, h2, ob, (u.out h1 h3).2, o.mono u.bb h4⟩
  nd := s.nd
  sl := s.sl.mono u.bb
theorem St.slot (s : St K W0 B0 H0 os Γ σ B H) {σ' : L2.St} {Γ' : List (Option Cell)} (h : Slots K B σ' Γ') : St K W0 B0 H0 os Γ' σ' B H := ⟨s.bb, s.bh, s.hh, s.dm, s.nw, s.own, s.nd, h⟩
theorem St.fg (s : St K W0 B0 H0 os Γ σ B H) (vs : List Nat) : St K W0 B0 H0 os (cw Γ vs) σ B H := s.slot (s.sl.wiped vs)
theorem St.put (s : St K W0 B0 H0 os Γ σ B H) {α : Type} [Rep α] (i : Nat) {v : V} {x : α} (h : Rep.at_ K B v x) : St K W0 B0 H0 os (cs Γ i (ce x)) (σ.set i (some v)) B H := s.slot (s.sl.set i h)
/-- the slot i, read -/
theorem St.v (s : St K W0 B0 H0 os Γ σ B H) {α : Type} [r : Rep α] {x : α} (i : Nat) (h : cg Γ i = ce x) : Pe K (tVar i) σ B x := s.sl.v i h
/-- a turn's own record, joined with that from the start -/
theorem St.comp (s : St K W0 B0 H0 os Γ σ B H) {os' : List OC} {Γ' : List (Option Cell)} {σ' : L2.St} (w : St K (os.map (·.l)) B H os' Γ' σ' B1 H1) : St K W0 B0 H0 os' Γ' σ' B1 H1 where
  bb := s.bb.trans w.bb
  bh := w.bh
  hh a x h h0 := by
    refine w.hh a x (fun hm => ?_) (s.hh a x h h0)
    obtain ⟨o, ho, rfl⟩ := List.mem_map.mp hm
    rcases (s.own o ho).2.1 with z | z
    · exact h z
    · rw [z] at h0
      cases h0
  dm a h := w.dm a (s.dm a h)
  nw a h := by
    rcases w.nw a h with z | z
    · exact s.nw a z
    · cases q : H0 a with
      | none => exact .inr rfl
      | some o => exact absurd z (s.dm a (by rw [q]; exact fun z => nomatch z))
  own o ho := by
    obtain ⟨h1, h2, h3⟩ := w.own o ho
    refine ⟨h1, ?_, h3⟩
    rcases h2 with z | z
    · obtain ⟨o', ho', e⟩ := List.mem_map.mp z
      have := (s.own o' ho').2.1
      rw [e] at this
      exact this
    · cases q : H0 o.l with
      | none => exact .inr rfl
      | some x => exact absurd z (s.dm _ (by rw [q]; exact fun z => nomatch z))
  nd := w.nd
  sl := w.sl
/-- a turn's own record, at its start -/
theorem St.here (s : St K W0 B0 H0 os Γ σ B H) : St K (os.map (·.l)) B H os Γ σ B H where
  bb := Ex.refl B
  bh := s.bh
  hh _ _ _ h := h
  dm _ h := h
  nw _ h := .inl h
  own o ho := ⟨(s.own o ho).1, .inl (List.mem_map.mpr ⟨o, ho, rfl⟩), (s.own o ho).2.2⟩
  nd := s.nd
  sl := s.sl
theorem St.toUp (s : St K [] B0 H0 os Γ σ B H) : Up B0 H0 B H := ⟨s.bb, s.bh, fun a u h => s.hh a u (by simp) h, s.nw⟩
theorem St.toUb {b : Addr} (s : St K [b] B0 H0 os Γ σ B H) : Ub b B0 H0 B H := ⟨s.bb, s.bh, fun a u ne h => s.hh a u (by simpa using ne) h, s.nw⟩
theorem St.box {b : Addr} {c : Int} (s : St K W0 B0 H0 (boxC b c :: os) Γ σ B H) : BoxAt c B H b := by
  obtain ⟨h1, _, ob, h3, g, m, k, rfl, h4⟩ := s.own _ List.mem_cons_self
  exact ⟨h1, g, m, k, h3, h4⟩
theorem boxC_of {b : Addr} {c : Int} (x : BoxAt c B H b) : B b = none ∧ ∃ ob, H b = some ob ∧ (boxC b c).P B ob := by
  obtain ⟨f, g, m, k, h1, h2⟩ := x
  exact ⟨f, _, h1, g, m, k, rfl, h2⟩
/-- behind a draw -/
theorem St.ub {b : Addr} {c d : Int} (s : St K W0 B0 H0 (boxC b c :: os) Γ σ B H) (u : Ub b B H B1 H1) (x : BoxAt d B1 H1 b) : St K W0 B0 H0 (boxC b d :: os) Γ σ B1 H1 := by
  have hb := s.own _ List.mem_cons_self
  have hH : H b ≠ none := s.box.ne
  refine ⟨s.bb.trans u.bb, u.bh, fun a w h h0 => ?_, fun a h => ?_, fun a h => ?_, fun o ho => ?_, s.nd, s.sl.mono u.bb⟩
  · refine u.hh a w (fun z => ?_) (s.hh a w h h0)
    subst z
    rcases hb.2.1 with z | z
    · exact h z
    · have z' : H0 a = none := z
      rw [z'] at h0
      cases h0
  · by_cases e : a = b
    · rw [e]
      exact x.ne
    · cases q : H a with
      | none => exact absurd q (s.dm a h)
      | some o =>
        rw [u.hh a o e q]
        exact fun z => nomatch z
  · rcases u.nw a h with z | z
    · exact s.nw a z
    · cases q : H0 a with
      | none => exact .inr rfl
      | some o => exact absurd z (s.dm a (by rw [q]; exact fun z => nomatch z))
  · rcases List.mem_cons.mp ho with rfl | ho
    · obtain ⟨h1, h2⟩ := boxC_of x
      exact ⟨h1, hb.2.1, h2⟩
    · obtain ⟨h1, h2, ob, h3, h4⟩ := s.own o (List.mem_cons_of_mem _ ho)
      have ne : o.l ≠ b := fun z => by
        have := s.nd
        rw [List.map_cons, List.nodup_cons] at this
        exact this.1 (List.mem_map.mpr ⟨o, ho, z⟩)
      exact ⟨(u.out h1 h3 ne).1, h2, ob, (u.out h1 h3 ne).2, o.mono u.bb h4⟩
theorem St.le {b : Addr} {c d : Int} (s : St K W0 B0 H0 (boxC b c :: os) Γ σ B H) (h : c ≤ d) : St K W0 B0 H0 (boxC b d :: os) Γ σ B H := s.ub (Ub.refl s.bh) (s.box.le h)
/-- a new object that may change -/
theorem St.add (s : St K W0 B0 H0 os Γ σ B H) {p : Addr} {ob : HO} (hp : H p = none) (o : OC) (ho : o.l = p) (hP : o.P B ob) : St K W0 B0 H0 (os ++ [o]) Γ σ B (upd H p ob) := by
  have hB : B p = none := Evl.fresh_back s.bh hp
  have h0 : H0 p = none := by
    cases q : H0 p with
    | none => rfl
    | some x => exact absurd hp (s.dm p (by rw [q]; exact fun z => nomatch z))
  refine ⟨s.bb, ex_upd s.bh hB, fun a u h hu => ?_, fun a h => ?_, s.nw, fun o' ho' => ?_, ?_, s.sl⟩
  · have ne : a ≠ p := fun z => by rw [z, h0] at hu; cases hu
    rw [upd_ne ne]
    exact s.hh a u h hu
  · by_cases e : a = p
    · rw [e, upd_same]
      exact fun z => nomatch z
    · rw [upd_ne e]
      exact s.dm a h
  · rcases List.mem_append.mp ho' with h | h
    · obtain ⟨h1, h2, x, h3, h4⟩ := s.own o' h
      have ne : o'.l ≠ p := fun z => by rw [z, hp] at h3; cases h3
      exact ⟨h1, h2, x, by rw [upd_ne ne]; exact h3, h4⟩
    · rw [List.mem_singleton.mp h, ho]
      exact ⟨hB, .inr h0, ob, upd_same, hP⟩
  · rw [List.map_append, List.nodup_append]
    refine ⟨s.nd, by simp, fun a ha c hc e => ?_⟩
    obtain ⟨o', h, rfl⟩ := List.mem_map.mp ha
    have : c = p := by
      have : c = o.l := List.mem_singleton.mp hc
      rw [this, ho]
    obtain ⟨_, _, x, h3, _⟩ := s.own o' h
    rw [e, this, hp] at h3
    cases h3
theorem set_mem {os : List OC} : ∀ {k : Nat} {o x : OC}, os[k]? = some o → ∀ y, y ∈ os.set k x → y = x ∨ (y ∈ os ∧ ((os.map (·.l)).Nodup → y.l ≠ o.l)) := by
  induction os with
  | nil => intro k o x h; simp at h
  | cons w os ih =>
    intro k o x h y hy
    cases k with
    | zero =>
      simp at h
      subst h
      rcases List.mem_cons.mp hy with e | e
      · exact .inl e
      · refine .inr ⟨List.mem_cons_of_mem _ e, fun nd z => ?_⟩
        rw [List.map_cons, List.nodup_cons] at nd
        exact nd.1 (List.mem_map.mpr ⟨y, e, z⟩)
    | succ k =>
      have h' : os[k]? = some o := by simpa using h
      rcases List.mem_cons.mp hy with e | e
      · refine .inr ⟨by rw [e]; exact List.mem_cons_self, fun nd z => ?_⟩
        rw [List.map_cons, List.nodup_cons] at nd
        rw [e] at z
        exact nd.1 (List.mem_map.mpr ⟨o, List.mem_of_getElem? h', z.symm⟩)
      · rcases ih (x := x) h' y e with r | ⟨r1, r2⟩
        · exact .inl r
        · refine .inr ⟨List.mem_cons_of_mem _ r1, fun nd => ?_⟩
          rw [List.map_cons, List.nodup_cons] at nd
          exact r2 nd.2
/-- the object k is changed -/
theorem St.chg (s : St K W0 B0 H0 os Γ σ B H) {k : Nat} {o o' : OC} {ob : HO} (h : os[k]? = some o) (hl : o'.l = o.l) (hP : o'.P B ob) : St K W0 B0 H0 (os.set k o') Γ σ B (upd H o.l ob) := by
  obtain ⟨h1, h2, x, h3, h4⟩ := s.own o (List.mem_of_getElem? h)
  refine ⟨s.bb, ex_upd s.bh h1, fun a u ha hu => ?_, fun a ha => ?_, s.nw, fun y hy => ?_, ?_, s.sl⟩
  · have ne : a ≠ o.l := fun z => by
      rcases h2 with w | w
      · exact ha (z ▸ w)
      · rw [z, w] at hu; cases hu
    rw [upd_ne ne]
    exact s.hh a u ha hu
  · by_cases e : a = o.l
    · rw [e, upd_same]
      exact fun z => nomatch z
    · rw [upd_ne e]
      exact s.dm a ha
  · rcases set_mem h y hy with e | ⟨e, ne⟩
    · rw [e, hl]
      exact ⟨h1, h2, ob, upd_same, hP⟩
    · obtain ⟨g1, g2, w, g3, g4⟩ := s.own y e
      exact ⟨g1, g2, w, by rw [upd_ne (ne s.nd)]; exact g3, g4⟩
  · have e : (os.set k o').map (·.l) = os.map (·.l) := by
      rw [List.map_set, hl]
      refine List.ext_getElem? fun i => ?_
      rw [List.getElem?_set]
      split
      · next e =>
        subst e
        rw [List.getElem?_map, h]
        split
        · rfl
        · next z => exact absurd (by rw [List.length_map]; exact (List.getElem?_eq_some_iff.mp h).1) z
      · rfl
    rw [e]
    exact s.nd
/-! ### the start of a def -/
theorem start_slots : ∀ (vs : List V) (cs : List (Option Cell)) (n : Nat), Slots K B (vs.map some) cs → Slots K B (vs.map some ++ List.replicate n none) (cs ++ List.replicate n none)
  | [], [], n, .nil => by
    show Slots K B (List.replicate n none) (List.replicate n none)
    induction n with
    | zero => exact .nil
    | succ n ih => exact .cons At1.none ih
  | _ :: vs, _ :: cs, n, .cons a t => .cons a (start_slots vs cs n t)
theorem St.pure (e : Ex B H) (s : Slots K B σ Γ) : St K [] B H [] Γ σ B H := ⟨Ex.refl B, e, fun _ _ _ h => h, fun _ h => h, fun _ h => .inl h, fun _ h => (by cases h), List.nodup_nil, s⟩
theorem St.draw {b : Addr} {c : Int} (e : Ex B H) (x : BoxAt c B H b) (s : Slots K B σ Γ) : St K [b] B H [boxC b c] Γ σ B H :=
  ⟨Ex.refl B, e, fun _ _ _ h => h, fun _ h => h, fun _ h => .inl h, fun o ho => by
    rw [List.mem_singleton.mp ho]
    obtain ⟨h1, h2⟩ := boxC_of x
    exact ⟨h1, .inl (by simp [boxC]), h2⟩, by simp, s⟩
section
variable {α β γ δ : Type} [Rep α] [Rep β] [Rep γ] [Rep δ]
/-! ### statements -/
theorem St.set {i : Nat} {x : α} (s : St K W0 B0 H0 os Γ σ B H) (h : Pe K te σ B x) (k : ∀ σ1 B1 H1, St K W0 B0 H0 os (cs Γ i (ce x)) σ1 B1 H1 → tz D σ1 H1) : tSeq (tAsg te (gName i)) tz D σ H :=
  h H s.bh _ fun v B1 H1 u hv => k _ B1 H1 ((s.up u).put i hv)
theorem St.setL {i : Nat} {x : α} (s : St K W0 B0 H0 os Γ σ B H) (h : Pe K te σ B x) (k : ∀ σ1 B1 H1, St K W0 B0 H0 os (cs Γ i (ce x)) σ1 B1 H1 → D.nx σ1 H1) : tAsg te (gName i) D σ H :=
  h H s.bh _ fun v B1 H1 u hv => k _ B1 H1 ((s.up u).put i hv)
theorem St.setB {b : Addr} {c n : Int} {R : α → Prop} {i : Nat} (s : St K W0 B0 H0 (boxC b c :: os) Γ σ B H) (h : Pb K b n te σ B R) (hc : c + n ≤ 2 ^ 40) (k : ∀ x, R x → ∀ σ1 B1 H1, St K W0 B0 H0 (boxC b (c + n) :: os) (cs Γ i (ce x)) σ1 B1 H1 → tz D σ1 H1) : tSeq (tAsg te (gName i)) tz D σ H :=
  h H c s.bh s.box hc _ fun v x B1 H1 u ub r hv => k x r _ B1 H1 ((s.ub u ub).put i hv)
theorem St.par {i j : Nat} {x : α} {y : β} (s : St K W0 B0 H0 os Γ σ B H) (h1 : Pe K ta σ B x) (h2 : Pe K tb σ B y) (k : ∀ σ1 B1 H1, St K W0 B0 H0 os (cs (cs Γ i (ce x)) j (ce y)) σ1 B1 H1 → tz D σ1 H1) : tSeq (tPar i j (tCons ta (tCons tb tNil))) tz D σ H :=
  h1.both h2 s.bh fun v w B1 H1 u hv hw => ⟨v, w, rfl, k _ B1 H1 (((s.up u).put i hv).put j hw)⟩
/-- (a, b) unpacked, each of the two may draw -/
theorem St.unpB {b : Addr} {c n m : Int} {R1 : α → Prop} {R2 : β → Prop} {i j : Nat} (s : St K W0 B0 H0 (boxC b c :: os) Γ σ B H) (h1 : Pb K b n ta σ B R1) (h2 : Pb K b m tb σ B R2) (hm : 0 ≤ m) (hc : c + n + m ≤ 2 ^ 40)
    (k : ∀ x y, R1 x → R2 y → ∀ σ1 B1 H1, St K W0 B0 H0 (boxC b (c + n + m) :: os) (cs (cs Γ i (ce x)) j (ce y)) σ1 B1 H1 → tz D σ1 H1) : tSeq (tAsg (tTup (tCons ta (tCons tb tNil))) (gUnp K 2 (gCons (gName i) (gCons (gName j) gNil)))) tz D σ H :=
  h1 H c s.bh s.box (by omega) _ fun v x B1 H1 u1 ub1 r1 hv => (h2.mono u1.bb) H1 (c + n) u1.bh ub1 hc _ fun w y B2 H2 u2 ub2 r2 hw =>
    ⟨by show 2 ≤ sizeLine; rw [sizeLine_eq]; decide, fun t ht => .inl ⟨t, [v, w], rfl, Evl.st_of upd_same, rfl, _, _, rfl, _, _, rfl, rfl, by
      have w3 := Up.new (o := .tup [v, w]) u2.bh ht
      exact k x y r1 r2 _ _ _ (((((s.ub u1 ub1).ub u2 ub2).up w3).put i (Rep.mono (u2.bb.trans w3.bb) hv)).put j (Rep.mono w3.bb hw))⟩⟩
theorem St.drop {x : α} (s : St K W0 B0 H0 os Γ σ B H) (h : Pe K te σ B x) (k : ∀ B1 H1, St K W0 B0 H0 os Γ σ B1 H1 → tz D σ H1) : tSeq (tDrop te) tz D σ H := h H s.bh _ fun v B1 H1 u hv => k B1 H1 (s.up u)
theorem St.ret {x : α} (s : St K W0 B0 H0 os Γ σ B H) (h : Pe K te σ B x) (k : ∀ v B1 H1, St K W0 B0 H0 os Γ σ B1 H1 → Rep.at_ K B1 v x → D.rt v H1) : tRet te D σ H := h H s.bh _ fun v B1 H1 u hv => k v B1 H1 (s.up u) hv
theorem St.retB {b : Addr} {c n : Int} {R : α → Prop} (s : St K W0 B0 H0 (boxC b c :: os) Γ σ B H) (h : Pb K b n te σ B R) (hc : c + n ≤ 2 ^ 40) (k : ∀ v x, R x → ∀ B1 H1, St K W0 B0 H0 (boxC b (c + n) :: os) Γ σ B1 H1 → Rep.at_ K B1 v x → D.rt v H1) : tRet te D σ H :=
  h H c s.bh s.box hc _ fun v x B1 H1 u ub r hv => k v x r B1 H1 (s.ub u ub) hv
/-- if ..: return: the test is false -/
theorem St.no (s : St K W0 B0 H0 os Γ σ B H) (h : Pt tt σ B false) (k : ∀ B1 H1, St K W0 B0 H0 os Γ σ B1 H1 → tz D σ H1) : tSeq (tIfS tt tu tNext) tz D σ H := h H s.bh (fun b H1 => if b = true then tu { D with nx := tz D } σ H1 else tNext { D with nx := tz D } σ H1) fun B1 H1 u => k B1 H1 (s.up u)
theorem St.noL (s : St K W0 B0 H0 os Γ σ B H) (h : Pt tt σ B false) (k : ∀ B1 H1, St K W0 B0 H0 os Γ σ B1 H1 → tw D σ H1) : tIfS tt tu tw D σ H := h H s.bh (fun b H1 => if b = true then tu D σ H1 else tw D σ H1) fun B1 H1 u => k B1 H1 (s.up u)
theorem St.ite {b : Bool} (s : St K W0 B0 H0 os Γ σ B H) (h : Pt tt σ B b) (k1 : b = true → ∀ B1 H1, St K W0 B0 H0 os Γ σ B1 H1 → tu { D with nx := tz D } σ H1) (k2 : b = false → ∀ B1 H1, St K W0 B0 H0 os Γ σ B1 H1 → tw { D with nx := tz D } σ H1) : tSeq (tIfS tt tu tw) tz D σ H :=
  q_if h s.bh (fun hb B1 H1 u => k1 hb B1 H1 (s.up u)) fun hb B1 H1 u => k2 hb B1 H1 (s.up u)
theorem St.iteL {b : Bool} (s : St K W0 B0 H0 os Γ σ B H) (h : Pt tt σ B b) (k1 : b = true → ∀ B1 H1, St K W0 B0 H0 os Γ σ B1 H1 → tu D σ H1) (k2 : b = false → ∀ B1 H1, St K W0 B0 H0 os Γ σ B1 H1 → tw D σ H1) : tIfS tt tu tw D σ H :=
  p_if h s.bh (fun hb B1 H1 u => k1 hb B1 H1 (s.up u)) fun hb B1 H1 u => k2 hb B1 H1 (s.up u)
/-! ### loops -/
theorem St.forG {δ : Type} {wi : TI} {g : TG} {xs : List α} (s : St K W0 B0 H0 os Γ σ B H) (h : ItD K wi σ B xs) (oz : List α → δ → List OC) (Γz : List α → δ → List (Option Cell)) (P : List α → δ → Prop)
    (h0 : ∃ d, P [] d ∧ ∀ B1 H1, St K W0 B0 H0 os Γ σ B1 H1 → St K W0 B0 H0 (oz [] d) (Γz [] d) σ B1 H1)
    (hs : ∀ done x rest d, xs = done ++ x :: rest → P done d → ∀ (v : V) (σ' : L2.St) (B' H' : Hp) (N : L2.St → Hp → Prop), (∀ (d' : δ) {σ3 : L2.St} {B3 H3 : Hp}, P (done ++ [x]) d' → St K ((oz done d).map (·.l)) B' H' (oz (done ++ [x]) d') (Γz (done ++ [x]) d') σ3 B3 H3 → N σ3 H3) →
      St K W0 B0 H0 (oz done d) (Γz done d) σ' B' H' → Rep.at_ K B' v x → g v σ' H' fun σ2 H2 => tu { D with nx := N, ct := N, bk := D.nx } σ2 H2)
    (k : ∀ d, P xs d → ∀ σ' B' H', St K W0 B0 H0 (oz xs d) (Γz xs d) σ' B' H' → D.nx σ' H') : tFor wi g tu D σ H := by
  refine p_for h s.bh fun B1 H1 u => ⟨fun done σ' B' H' => ∃ d, P done d ∧ St K W0 B0 H0 (oz done d) (Γz done d) σ' B' H', ?_, fun done x rest v σ' B' Hx B2 H2 ex b1 bx hP u2 hv => ?_, fun σ' B' H' b1 bx hP => ?_⟩
  · obtain ⟨d, hd, hk⟩ := h0
    exact ⟨d, hd, hk B1 H1 (s.up u)⟩
  · obtain ⟨d, hd, s'⟩ := hP
    have s2 := s'.up u2
    exact hs done x rest d ex hd v σ' B2 H2 _ (fun d' {σ3 B3 H3} hd' s3 => ⟨B3, b1.trans (u2.bb.trans s3.bb), s3.bh, d', hd', s2.comp s3⟩) s2 hv
  · obtain ⟨d, hd, s'⟩ := hP
    exact k d hd σ' B' H' s'
/-- the same without a box -/
theorem St.forC {wi : TI} {j : Nat} {xs : List α} (vs : List Nat) (s : St K W0 B0 H0 os Γ σ B H) (h : ItD K wi σ B xs)
    (hs : ∀ done x rest, xs = done ++ x :: rest → ∀ (σ' : L2.St) (B' H' : Hp) (N : L2.St → Hp → Prop), (∀ {Γ3 : List (Option Cell)} {σ3 : L2.St} {B3 H3 : Hp}, St K (os.map (·.l)) B' H' os Γ3 σ3 B3 H3 → cw Γ3 vs = cw Γ vs → N σ3 H3) →
      St K W0 B0 H0 os (cs (cw Γ vs) j (ce x)) σ' B' H' → tu { D with nx := N, ct := N, bk := D.nx } σ' H')
    (k : ∀ σ' B' H', St K W0 B0 H0 os (cw Γ vs) σ' B' H' → D.nx σ' H') : tFor wi (gName j) tu D σ H := by
  refine s.forG (δ := Unit) h (fun done _ => os) (fun _ _ => cw Γ vs) (fun _ _ => True) ⟨(), trivial, fun B1 H1 s1 => s1.fg vs⟩ (fun done x rest _ ex _ v σ' B' H' N hN s1 hv => ?_) fun _ _ σ' B' H' s1 => k σ' B' H' s1
  exact hs done x rest ex _ B' H' N (fun {Γ3 σ3 B3 H3} s3 hΓ => hN () trivial (hΓ ▸ s3.fg vs)) (s1.put j hv)
end
/-! ### lists that grow -/
theorem Slots.re {α : Type} [r : Rep α] {x : α} {v : V} : ∀ {σ : L2.St} {Γ : List (Option Cell)} {i : Nat}, Slots K B σ Γ → σ[i]? = some (some v) → Rep.at_ K B v x → Slots K B σ (cs Γ i (ce x))
  | _, _, _, .nil, _, _ => .nil
  | o :: _, _, 0, .cons a t, h, hx => .cons (by
      have h' : o = some v := by simpa using h
      rw [h']
      exact At1.some hx) t
  | _, _, n + 1, .cons a t, h, hx => .cons a (Slots.re (i := n) t (by simpa using h) hx)
section
variable {α : Type} [Rep α]
theorem St.new {i : Nat} (s : St K W0 B0 H0 os Γ σ B H) (α : Type) [Rep α] (k : ∀ l σ1 H1, St K W0 B0 H0 (os ++ [lstC K l ([] : List α)]) (cs Γ i (ca l)) σ1 B H1 → tz D σ1 H1) : tSeq (tAsg (tLst tNil) (gName i)) tz D σ H :=
  ⟨Nat.zero_le _, fun p hp => k p _ _ (St.put (s.add (ob := .lst []) hp (lstC K p ([] : List α)) rfl ⟨[], rfl, .nil⟩) i rfl)⟩
theorem St.lst (s : St K W0 B0 H0 os Γ σ B H) {k : Nat} {l : Addr} {xs : List α} (h : os[k]? = some (lstC K l xs)) : B l = none ∧ ∃ vs, H l = some (.lst vs) ∧ AtAll K B vs xs := by
  obtain ⟨h1, _, x, h3, vs, rfl, h4⟩ := s.own _ (List.mem_of_getElem? h)
  exact ⟨h1, vs, h3, h4⟩
theorem St.app {i k : Nat} {l : Addr} {xs : List α} {x : α} (s : St K W0 B0 H0 os Γ σ B H) (h : os[k]? = some (lstC K l xs)) (hi : cg Γ i = ca l) (he : Pe K te σ B x) (hz : xs.length ≤ 1000000)
    (q : ∀ B1 H1, St K W0 B0 H0 (os.set k (lstC K l (xs ++ [x]))) Γ σ B1 H1 → D.nx σ H1) : tDrop (tBM K "list" rAppend (tVar i) (tCons te tNil)) D σ H := by
  obtain ⟨_, vs, hl, hA⟩ := s.lst h
  exact app_var (s.sl.rf i hi) hl s.bh he (by rw [hA.length]; exact hz) fun v B1 H1 u hv => q B1 _ ((s.up u).chg (ob := .lst (vs ++ [v])) h rfl ⟨vs ++ [v], rfl, (hA.mono u.bb).snoc hv⟩)
theorem St.qapp {i k : Nat} {l : Addr} {xs : List α} {x : α} (s : St K W0 B0 H0 os Γ σ B H) (h : os[k]? = some (lstC K l xs)) (hi : cg Γ i = ca l) (he : Pe K te σ B x) (hz : xs.length ≤ 1000000)
    (q : ∀ B1 H1, St K W0 B0 H0 (os.set k (lstC K l (xs ++ [x]))) Γ σ B1 H1 → tz D σ H1) : tSeq (tDrop (tBM K "list" rAppend (tVar i) (tCons te tNil))) tz D σ H := s.app (D := { D with nx := tz D }) h hi he hz q
end
section
variable {α β : Type} [DecidableEq α] [Datum α] [Rep β] [Thaw β]
theorem St.fz {i k : Nat} {l : Addr} {xs : List α} (s : St K W0 B0 H0 os Γ σ B H) (h : os[k]? = some (lstC K l xs)) (hi : cg Γ i = ca l) : ∃ vs, B l = none ∧ H l = some (.lst vs) ∧ AtAll K B vs xs ∧ Ex B (upd B l (.lst vs)) ∧ Slots K (upd B l (.lst vs)) σ (cs Γ i (ce xs)) := by
  obtain ⟨hb, vs, hl, hA⟩ := s.lst h
  have e : Ex B (upd B l (.lst vs)) := Ex.new hb
  exact ⟨vs, hb, hl, hA, e, (s.sl.mono e).re (s.sl.rf i hi) (at_list.mpr ⟨l, vs, rfl, Evl.sq_of upd_same, hA.mono e⟩)⟩
/-- a test that reads the list which grows -/
theorem St.iteT {i k : Nat} {l : Addr} {xs : List α} {b : Bool} (s : St K W0 B0 H0 os Γ σ B H) (h : os[k]? = some (lstC K l xs)) (hi : cg Γ i = ca l) (ht : ∀ B', Ex B B' → Slots K B' σ (cs Γ i (ce xs)) → Pt tt σ B' b)
    (k1 : b = true → ∀ B1 H1, St K W0 B0 H0 os Γ σ B1 H1 → tu D σ H1) (k2 : b = false → ∀ B1 H1, St K W0 B0 H0 os Γ σ B1 H1 → tw D σ H1) : tIfS tt tu tw D σ H := by
  obtain ⟨vs, hb, hl, hA, e, s2⟩ := s.fz h hi
  exact p_ift (ht _ e s2) hb s.bh hl (fun hb H1 u _ => k1 hb B H1 (s.up u)) fun hb H1 u _ => k2 hb B H1 (s.up u)
theorem St.frz {i k : Nat} {l : Addr} {xs : List α} (s : St K W0 B0 H0 os Γ σ B H) (h : os[k]? = some (lstC K l xs)) (hi : cg Γ i = ca l) (hw : l ∉ W0) : ∃ B1, Ex B B1 ∧ St K W0 B0 H0 (os.eraseIdx k) (cs Γ i (ce xs)) σ B1 H := by
  obtain ⟨vs, hb, hl, hA, e, s2⟩ := s.fz h hi
  have h0 : H0 l = none := by
    rcases (s.own _ (List.mem_of_getElem? h)).2.1 with z | z
    · exact absurd z hw
    · exact z
  refine ⟨_, e, s.bb.trans e, ex_in s.bh hl, s.hh, s.dm, fun a ha => ?_, fun o ho => ?_, s.nd.sublist ((List.eraseIdx_sublist os k).map _), s2⟩
  · by_cases z : a = l
    · exact .inr (z ▸ h0)
    · rw [upd_ne z] at ha
      exact s.nw a ha
  · have hm := (List.eraseIdx_sublist os k).subset ho
    obtain ⟨g1, g2, w, g3, g4⟩ := s.own o hm
    have ne : o.l ≠ l := by
      intro z
      have nd := s.nd
      have hlt := (List.getElem?_eq_some_iff.mp h).1
      have e1 : os = os.take k ++ lstC K l xs :: os.drop (k + 1) := by
        have e2 : os.drop k = lstC K l xs :: os.drop (k + 1) := by
          rw [List.drop_eq_getElem_cons hlt]
          congr 1
          exact (List.getElem?_eq_some_iff.mp h).2
        rw [← e2, List.take_append_drop]
      rw [List.eraseIdx_eq_take_drop_succ] at ho
      rw [e1, List.map_append, List.map_cons, List.nodup_append, List.nodup_cons] at nd
      rcases List.mem_append.mp ho with w | w
      · exact nd.2.2 _ (List.mem_map.mpr ⟨o, w, z⟩) _ List.mem_cons_self rfl
      · exact nd.2.1.1 (List.mem_map.mpr ⟨o, w, z⟩)
    exact ⟨by rw [upd_ne ne]; exact g1, g2, w, g3, o.mono e g4⟩
theorem St.ne {k : Nat} {l b : Addr} {c : Int} {xs : List α} (s : St K W0 B0 H0 (boxC b c :: os) Γ σ B H) (h : os[k]? = some (lstC K l xs)) : l ≠ b := fun z => by
  have nd := s.nd
  rw [List.map_cons, List.nodup_cons] at nd
  exact nd.1 (List.mem_map.mpr ⟨_, List.mem_of_getElem? h, z⟩)
end
end
/-! ### the start of a def, by its promise -/
section
variable {K : PySem.W.Frag} {α β γ δ : Type} [Rep α] [Rep β] [Rep γ] [Rep δ] {vs : List V} {H : Hp} {Q : VK} {E : XK}
theorem Fn1.st {pre : α → Prop} {f : α → β} (h : Fn1 K pre f vs H Q E) (N : List Str) : ∃ x B, pre x ∧ St K [] B H [] ([ce x] ++ List.replicate (N.length - 1) none) (start N vs) B H ∧ ∀ v B2 H2, Up B H B2 H2 → Rep.at_ K B2 v (f x) → Q v H2 := by
  obtain ⟨x, B, e, ⟨v, _, rfl, h1, rfl⟩, hp, q⟩ := h
  exact ⟨x, B, hp, St.pure e (start_slots [v] [ce x] _ (.cons (At1.some h1) .nil)), q⟩
theorem Fn2.st {pre : α → β → Prop} {f : α → β → γ} (h : Fn2 K pre f vs H Q E) (N : List Str) : ∃ x y B, pre x y ∧ St K [] B H [] ([ce x, ce y] ++ List.replicate (N.length - 2) none) (start N vs) B H ∧ ∀ v B2 H2, Up B H B2 H2 → Rep.at_ K B2 v (f x y) → Q v H2 := by
  obtain ⟨x, y, B, e, ⟨v, _, rfl, h1, v2, _, rfl, h2, rfl⟩, hp, q⟩ := h
  exact ⟨x, y, B, hp, St.pure e (start_slots [v, v2] [ce x, ce y] _ (.cons (At1.some h1) (.cons (At1.some h2) .nil))), q⟩
theorem Fn3.st {pre : α → β → γ → Prop} {f : α → β → γ → δ} (h : Fn3 K pre f vs H Q E) (N : List Str) : ∃ x y z B, pre x y z ∧ St K [] B H [] ([ce x, ce y, ce z] ++ List.replicate (N.length - 3) none) (start N vs) B H ∧ ∀ v B2 H2, Up B H B2 H2 → Rep.at_ K B2 v (f x y z) → Q v H2 := by
  obtain ⟨x, y, z, B, e, ⟨v, _, rfl, h1, v2, _, rfl, h2, v3, _, rfl, h3, rfl⟩, hp, q⟩ := h
  exact ⟨x, y, z, B, hp, St.pure e (start_slots [v, v2, v3] [ce x, ce y, ce z] _ (.cons (At1.some h1) (.cons (At1.some h2) (.cons (At1.some h3) .nil)))), q⟩
theorem FnB1.st {n : Int} {pre : α → Prop} {R : α → β → Prop} (h : FnB1 K n pre R vs H Q E) (N : List Str) : ∃ b c x B, pre x ∧ c + n ≤ 2 ^ 40 ∧ St K [b] B H [boxC b c] ([ca b, ce x] ++ List.replicate (N.length - 2) none) (start N vs) B H ∧
    ∀ v y os Γ σ B2 H2, St K [b] B H (boxC b (c + n) :: os) Γ σ B2 H2 → R x y → Rep.at_ K B2 v y → Q v H2 := by
  obtain ⟨b, B, c, x, e, bx, hc, ⟨v, rfl, hv⟩, hp, q⟩ := h
  exact ⟨b, c, x, B, hp, hc, St.draw e bx (start_slots [.ref b, v] [ca b, ce x] _ (.cons (At1.some rfl) (.cons (At1.some hv) .nil))), fun v y os Γ σ B2 H2 s r hv => q v y B2 H2 s.toUb s.box r hv⟩
theorem FnB2.st {n : Int} {pre : α → β → Prop} {R : α → β → γ → Prop} (h : FnB2 K n pre R vs H Q E) (N : List Str) : ∃ b c x y B, pre x y ∧ c + n ≤ 2 ^ 40 ∧ St K [b] B H [boxC b c] ([ca b, ce x, ce y] ++ List.replicate (N.length - 3) none) (start N vs) B H ∧
    ∀ v z os Γ σ B2 H2, St K [b] B H (boxC b (c + n) :: os) Γ σ B2 H2 → R x y z → Rep.at_ K B2 v z → Q v H2 := by
  obtain ⟨b, B, c, x, y, e, bx, hc, ⟨v, w, rfl, hv, hw⟩, hp, q⟩ := h
  exact ⟨b, c, x, y, B, hp, hc, St.draw e bx (start_slots [.ref b, v, w] [ca b, ce x, ce y] _ (.cons (At1.some rfl) (.cons (At1.some hv) (.cons (At1.some hw) .nil)))), fun v y os Γ σ B2 H2 s r hv => q v y B2 H2 s.toUb s.box r hv⟩
theorem RightP.st (h : RightP K vs H Q E) (N : List Str) : ∃ b B, St K [b] B H [boxC b 0] ([ca b] ++ List.replicate (N.length - 1) none) (start N vs) B H ∧ ∀ os Γ σ B2 H2, St K [b] B H os Γ σ B2 H2 → Q (.bl true) H2 := by
  obtain ⟨b, B, rfl, e, bx, q⟩ := h
  exact ⟨b, B, St.draw e bx (start_slots [.ref b] [ca b] _ (.cons (At1.some rfl) .nil)), fun os Γ σ B2 H2 s => q B2 H2 s.toUb⟩
end
end Ob
set_option Elab.async false
set_option linter.all false
set_option maxRecDepth 100000
set_option maxHeartbeats 4000000
/-! P4: are_rivals, rivals_of, press. -/
set_option Elab.async false
set_option linter.all false
set_option maxRecDepth 100000
set_option maxHeartbeats 4000000
/-! P5: component_of, components, groups. -/
namespace Ob
open PySem L2
open Evl (Ex)
open PySem.W (Datum Tup DatumOrd)
/-- x leads to y over rivals among some switches -/
inductive Reach (rv : Str → List Str) (sw : List Str) (x : Str) : Str → Prop where
  | refl : Reach rv sw x x
  | step {y z : Str} (h : Reach rv sw x y) (hz : z ∈ rv y) (hs : z ∈ sw) : Reach rv sw x z
theorem Reach.sw {rv : Str → List Str} {sw : List Str} {x y : Str} (h : Reach rv sw x y) (hx : x ∈ sw) : y ∈ sw := by
  cases h with
  | refl => exact hx
  | step _ _ hs => exact hs
theorem Reach.trans {rv : Str → List Str} {sw : List Str} {x y z : Str} (h : Reach rv sw x y) (k : Reach rv sw y z) : Reach rv sw x z := by
  induction k with
  | refl => exact h
  | step _ hz hs ih => exact .step ih hz hs
open Classical in
noncomputable def compO (rv : Str → List Str) (sw : List Str) (x : Str) : List Str := sortD (sw.filter fun y => decide (Reach rv sw x y))
theorem mem_compO {rv : Str → List Str} {sw : List Str} {x y : Str} : y ∈ compO rv sw x ↔ y ∈ sw ∧ Reach rv sw x y := by
  unfold compO
  rw [mem_sortD, List.mem_filter]
  simp
theorem compO_asc {rv : Str → List Str} {sw : List Str} {x : Str} (nd : sw.Nodup) : Asc (compO rv sw x) := sortD_asc (nd.filter _)
/-- what the search has found up to now -/
structure CompI (rv : Str → List Str) (sw : List Str) (x : Str) (found : List Str) (k : Nat) : Prop where
  nd : found.Nodup
  rc : ∀ y ∈ found, Reach rv sw x y
  x0 : x ∈ found
  sub : ∀ y ∈ found, y ∈ sw
  kl : k ≤ found.length
  cl : ∀ j y, j < k → found[j]? = some y → ∀ z ∈ rv y, z ∈ sw → z ∈ found
theorem CompI.step {rv : Str → List Str} {sw : List Str} {x : Str} {found : List Str} {k : Nat} {y : Str} (I : CompI rv sw x found k) (hy : found[k]? = some y) (hnd : (rv y).Nodup) :
    CompI rv sw x (found ++ (rv y).filter (fun z => decide (z ∈ sw) && !decide (z ∈ found))) (k + 1) := by
  have hm : ∀ z, z ∈ (rv y).filter (fun z => decide (z ∈ sw) && !decide (z ∈ found)) ↔ z ∈ rv y ∧ z ∈ sw ∧ z ∉ found := fun z => by
    rw [List.mem_filter]
    simp
  have hlt : k < found.length := (List.getElem?_eq_some_iff.mp hy).1
  refine ⟨List.nodup_append.mpr ⟨I.nd, hnd.filter _, fun a ha b hb e => ((hm b).mp hb).2.2 (e ▸ ha)⟩, fun z hz => ?_, List.mem_append_left _ I.x0, fun z hz => ?_, ?_, fun j w hj hw z hz hs => ?_⟩
  · rcases List.mem_append.mp hz with h | h
    · exact I.rc z h
    · obtain ⟨h1, h2, _⟩ := (hm z).mp h
      exact .step (I.rc y (List.mem_of_getElem? hy)) h1 h2
  · rcases List.mem_append.mp hz with h | h
    · exact I.sub z h
    · exact ((hm z).mp h).2.1
  · rw [List.length_append]
    omega
  · have hw' : found[j]? = some w := by
      rw [List.getElem?_append_left (by omega)] at hw
      exact hw
    by_cases hzf : z ∈ found
    · exact List.mem_append_left _ hzf
    · by_cases hjk : j = k
      · subst hjk
        rw [hy] at hw'
        cases hw'
        exact List.mem_append_right _ ((hm z).mpr ⟨hz, hs, hzf⟩)
      · exact List.mem_append_left _ (I.cl j w (by omega) hw' z hz hs)
theorem CompI.done {rv : Str → List Str} {sw : List Str} {x : Str} {found : List Str} (I : CompI rv sw x found found.length) (nd : sw.Nodup) : sortD found = compO rv sw x := by
  refine asc_ext (sortD_asc I.nd) (compO_asc nd) fun z => ?_
  rw [mem_sortD, mem_compO]
  have key : ∀ z, Reach rv sw x z → z ∈ found := fun z h => by
    induction h with
    | refl => exact I.x0
    | step h1 hz hs ih =>
      obtain ⟨j, hj⟩ := List.getElem?_of_mem ih
      exact I.cl j _ (List.getElem?_eq_some_iff.mp hj).1 hj _ hz hs
  exact ⟨fun h => ⟨I.sub z h, I.rc z h⟩, fun h => key z h.2⟩
end Ob
set_option Elab.async false
set_option linter.all false
set_option maxRecDepth 100000
set_option maxHeartbeats 4000000
/-! P6: components, groups. -/
namespace Ob
open PySem L2
open Evl (Ex)
open PySem.W (Datum Tup DatumOrd)
section
variable {K : PySem.W.Frag}
/-! ### groups -/
/-- a panel without an exclusion twice -/
def PanN (p : Pan) : Prop := PanS p ∧ p.ex.Nodup ∧ ∀ e ∈ p.ex, ltS e.1 e.2 = true
end
end Ob
set_option Elab.async false
set_option linter.all false
set_option maxRecDepth 100000
set_option maxHeartbeats 4000000
/-! M7: section 1 of the law k04, in plain Lean: presses one by one, two presses exchanged, groups. -/
set_option Elab.async false
set_option linter.all false
set_option maxRecDepth 100000
set_option maxHeartbeats 4000000
/-! M8: what a history does to each switch (section 1 of the proof): sem. Plain Lean. -/
namespace Ob
open PySem L2
open PySem.W (Datum Tup DatumOrd)
/-- one press, of one switch: on, off, or nothing -/
def sb (rv : Str → List Str) (x z : Str) : Option Bool := if z = x then some true else if z ∈ rv x then some false else none
/-! ### effects -/
structure EffIs (e : Eff) (f : Str → Option Bool) : Prop where
  a1 : Asc e.1.items
  a2 : Asc e.2.items
  m1 : ∀ z, z ∈ e.1.items ↔ f z = some true
  m2 : ∀ z, z ∈ e.2.items ↔ f z = some false
theorem EffIs.ext {e e' : Eff} {f f' : Str → Option Bool} (h : EffIs e f) (k : EffIs e' f') (hf : ∀ z, f z = f' z) : e = e' := by
  obtain ⟨⟨a⟩, ⟨b⟩⟩ := e
  obtain ⟨⟨c⟩, ⟨d⟩⟩ := e'
  have e1 : a = c := asc_ext h.a1 k.a1 fun z => (h.m1 z).trans (by rw [hf]; exact (k.m1 z).symm)
  have e2 : b = d := asc_ext h.a2 k.a2 fun z => (h.m2 z).trans (by rw [hf]; exact (k.m2 z).symm)
  rw [e1, e2]
/-- equal effects do the same -/
theorem EffIs.inj {e : Eff} {f f' : Str → Option Bool} (h : EffIs e f) (k : EffIs e f') (z : Str) : f z = f' z := by
  have h1 := (h.m1 z).symm.trans (k.m1 z)
  have h2 := (h.m2 z).symm.trans (k.m2 z)
  cases hf : f z with
  | none =>
    cases hg : f' z with
    | none => rfl
    | some b => rw [hf, hg] at h1 h2; cases b <;> simp at h1 h2
  | some c =>
    cases hg : f' z with
    | none => rw [hf, hg] at h1 h2; cases c <;> simp at h1 h2
    | some b => rw [hf, hg] at h1 h2; cases b <;> cases c <;> simp at h1 h2 <;> rfl
end Ob
set_option Elab.async false
set_option linter.all false
set_option maxRecDepth 100000
set_option maxHeartbeats 4000000
/-! S2: more rules over the record; calls by their meaning. -/
namespace Ob
open PySem L2
open Evl (Ex)
open PySem.W (Datum Tup DatumOrd)
section
variable {K : PySem.W.Frag} {W0 : List Addr} {B0 H0 : Hp} {os : List OC} {Γ : List (Option Cell)} {σ : L2.St} {B H B1 H1 : Hp} {te ta tb tc tk tv : TE} {tt : TT} {D : Ends} {tu tw tz : TS} {b : Addr} {c n : Int}
theorem Slots.lcB {γ β : Type} [Rep γ] [DecidableEq β] [Datum β] {wi : TI} {j : Nat} {xs : List γ} {S : β → Prop} (s : Slots K B σ Γ) (h : ItD K wi σ B xs) (hz : xs.length ≤ 1000000) (hn : 0 ≤ n)
    (ht : ∀ x ∈ xs, ∀ σ2 B1, Ex B B1 → Slots K B1 σ2 (cs (cw Γ [j]) j (ce x)) → Pb K b n te σ2 B1 S) : Pb K b (n * xs.length) (tLc wi (gName j) tYes te [j]) σ B (fun ys : List β => ys.length = xs.length ∧ ∀ y ∈ ys, S y) :=
  b_lcR h hz hn fun x hx v B1 b1 hv => ⟨_, fun H Q _ q => q, by rw [set_none_comm (List.mem_singleton.mpr rfl), wipe_wipe], ht x hx _ B1 b1 ((s.mono b1).turn hv)⟩
/-! calls -/
end
/-! ### a drawn panel -/
theorem PanG.ok {m : Int} {p : Pan} (g : PanG m p) (hm : m ≤ 50) : PanS p := by
  have := g.len
  exact ⟨⟨asc_nodup g.asc, fun e he => (g.ex e he).1, by omega, by have := g.el; omega⟩, by omega, by have := g.el; omega⟩
theorem PanG.nn {m : Int} {p : Pan} (g : PanG m p) (hm : m ≤ 50) : PanN p := ⟨g.ok hm, g.xn, fun e he => (g.ex e he).2⟩
theorem PanG.irr {m : Int} {p : Pan} (g : PanG m p) : ∀ e ∈ p.ex, e.1 ≠ e.2 := fun e he z => by
  have := (g.ex e he).2
  rw [z, ltS_irr] at this
  cases this
/-! ### effects of a panel -/
structure EffS (p : Pan) (e : Eff) (f : Str → Option Bool) : Prop extends EffIs e f where
  sw : ∀ z, f z ≠ none → z ∈ p.sw
theorem EffS.l1 {p : Pan} {e : Eff} {f : Str → Option Bool} (h : EffS p e f) : e.1.items.length ≤ p.sw.length := (asc_nodup h.a1).length_le_of_subset fun z hz => h.sw z (by rw [(h.m1 z).mp hz]; exact fun w => nomatch w)
theorem EffS.l2 {p : Pan} {e : Eff} {f : Str → Option Bool} (h : EffS p e f) : e.2.items.length ≤ p.sw.length := (asc_nodup h.a2).length_le_of_subset fun z hz => h.sw z (by rw [(h.m2 z).mp hz]; exact fun w => nomatch w)
end Ob
set_option Elab.async false
set_option linter.all false
set_option maxRecDepth 100000
set_option maxHeartbeats 4000000
/-! Ws: xs[a:c] = ys with c beyond the end; xs.insert; min of a list of texts. -/
set_option Elab.async false
set_option linter.all false
set_option maxRecDepth 100000
set_option maxHeartbeats 4000000
/-! Ls: xs[a:c] = ys; a slice turned round in its place; new lists that change. -/
namespace Ob
open PySem L2
open Evl (Ex)
open PySem.W (Datum Tup DatumOrd)
def gSl (to : TE) (tl th : TO) : TG := fun v σ H Q => to σ H fun o H1 => tl σ H1 fun a H2 => th σ H2 fun c H3 => ∃ (l b : Addr) (xs ys : List V) (i k : Nat), o = .ref l ∧ v = .ref b ∧ l ≠ b ∧ H3 l = some (.lst xs) ∧ H3 b = some (.lst ys) ∧ a = some (i : Int) ∧ c = some (k : Int) ∧ i ≤ k ∧ i ≤ xs.length ∧ xs.length + ys.length ≤ sizeLine ∧
  Q σ (upd H3 l (.lst (xs.take i ++ ys ++ xs.drop k)))
section
variable {K : PySem.W.Frag} {W0 : List Addr} {B0 H0 : Hp} {os : List OC} {Γ : List (Option Cell)} {σ : L2.St} {B H B1 H1 : Hp} {te ta tb tc tk tv : TE} {tt : TT} {D : Ends} {tu tw tz : TS} {b : Addr} {c n : Int}
theorem cutV_str (xs : List Str) (a c : Nat) (h1 : a ≤ c) (h2 : a ≤ xs.length) : cutV (xs.map V.str) (some (a : Int)) (some (c : Int)) = ((xs.drop a).take (c - a)).map V.str := by
  unfold cutV
  rw [List.length_map, HT.sIx_nat, HT.sIx_nat, Nat.min_eq_left h2, List.map_take, List.map_drop]
  by_cases hc : c ≤ xs.length
  · rw [Nat.min_eq_left hc]
  · rw [Nat.min_eq_right (by omega), List.take_of_length_le (by rw [List.length_drop, List.length_map]; exact Nat.le_refl _), List.take_of_length_le (by rw [List.length_drop, List.length_map]; omega)]
/-- xs[a:c] = xs[a:c][::-1] -/
theorem St.turn {i k : Nat} {l : Addr} {xs : List Str} {a c : Nat} (s : St K W0 B0 H0 os Γ σ B H) (h : os[k]? = some (lstC K l xs)) (hi : cg Γ i = ca l) (ha : Pe K ta σ B (a : Int)) (hc : Pe K tb σ B (c : Int)) (h1 : a ≤ c) (h2 : a ≤ xs.length) (hz : xs.length ≤ 100000)
    (q : ∀ B1 H1, St K W0 B0 H0 (os.set k (lstC K l (xs.take a ++ ((xs.drop a).take (c - a)).reverse ++ xs.drop c))) Γ σ B1 H1 → D.nx σ H1) :
    tAsg (tRevL K (tSl (rSlU K) (tVar i) (tPart ta) (tPart tb))) (gSl (tVar i) (tPart ta) (tPart tb)) D σ H := by
  obtain ⟨hb, vs, hl, hA⟩ := s.lst h
  have ev := atAll_strs hA
  subst ev
  have hσ := s.sl.rf i hi
  refine ⟨_, hσ, ha H s.bh _ fun v1 B1 H1 u1 e1 => ⟨_, at_int.mp e1, hc H1 (u1.bb.trans u1.bh) _ fun v2 B2 H2 u2 e2 => ⟨_, at_int.mp e2, .inl ⟨l, _, rfl, Evl.sq_of (u2.hh _ _ (u1.hh _ _ hl)), fun p hp => ?_⟩⟩⟩⟩
  have u12 : Up B H B H2 := ⟨Ex.refl B, s.bh.trans (u1.hh.trans u2.hh), u1.hh.trans u2.hh, fun _ h => .inl h⟩
  have up := u12.hold (o := .lst (cutV (xs.map V.str) (some (a : Int)) (some (c : Int)))) hp
  refine ⟨p, _, rfl, Evl.sq_of upd_same, fun p2 hp2 => ?_⟩
  rw [cutV_str xs a c h1 h2] at up hp2 ⊢
  have up2 := up.hold (o := .lst (((xs.drop a).take (c - a)).map V.str).reverse) hp2
  have hl2 := up2.hh _ _ hl
  have hne : l ≠ p2 := fun z => by rw [z] at hl; have := up.hh _ _ hl; rw [hp2] at this; cases this
  refine ⟨_, hσ, ha _ up2.bh _ fun v3 B3 H3 u3 e3 => ⟨_, at_int.mp e3, hc H3 (u3.bb.trans u3.bh) _ fun v4 B4 H4 u4 e4 => ⟨_, at_int.mp e4, ?_⟩⟩⟩
  have u34 : Up B H B H4 := ⟨Ex.refl B, up2.bh.trans (u3.hh.trans u4.hh), up2.hh.trans (u3.hh.trans u4.hh), fun _ h => .inl h⟩
  refine ⟨l, p2, xs.map V.str, (((xs.drop a).take (c - a)).map V.str).reverse, a, c, rfl, rfl, hne, u4.hh _ _ (u3.hh _ _ hl2), u4.hh _ _ (u3.hh _ _ upd_same), rfl, rfl, h1, by rw [List.length_map]; exact h2, ?_, ?_⟩
  · rw [List.length_reverse, List.length_map, List.length_map, List.length_take, List.length_drop, sizeLine_eq]
    omega
  · have e : (xs.map V.str).take a ++ (((xs.drop a).take (c - a)).map V.str).reverse ++ (xs.map V.str).drop c = (xs.take a ++ ((xs.drop a).take (c - a)).reverse ++ xs.drop c).map V.str := by
      simp only [List.map_append, List.map_take, List.map_reverse, List.map_drop]
    rw [e]
    exact q B _ ((s.up u34).chg (ob := .lst _) h rfl ⟨_, rfl, strs_atAll _⟩)
end
end Ob
set_option Elab.async false
set_option linter.all false
set_option maxRecDepth 100000
set_option maxHeartbeats 4000000
/-! Ss: len(set(xs)), sorted(set(xs)) of a list of texts. -/
namespace Ob
open PySem PySem.Spec PyProof.Rows L2 PySem.Froz
open Evl (Ex)
/-- values that are the texts, one by one -/
def TxtIs (v : Value) (k : Str) : Prop := ∃ t, v = .str k t
/-- a set of the texts l -/
structure SetS (P : Program) (w : World) (h : Heap) (a : Addr) (l : List Str) : Prop where
  ex : ∃ D : SD, h.get? a = some (sObj "set" D) ∧ TxOk P w D l ∧ Ris D.2.2.place.toList ∧ (w.params.followText "set-order" = true ∨ D.2.2.led = true) ∧ ∃ us, (D.1.toList.map (·.2)).Perm us ∧ PySem.W.EachIs TxtIs us l
theorem SetS.at {P : Program} {w : World} {h h' : Heap} {a : Addr} {l : List Str} (R : SetS P w h a l) (k : ∀ o, h.get? a = some o → h'.get? a = some o) : SetS P w h' a l := by
  obtain ⟨D, h1, h2⟩ := R.ex
  exact ⟨D, k _ h1, h2⟩
/-! ### over the layer -/
end Ob
set_option Elab.async false
set_option linter.all false
set_option maxRecDepth 100000
set_option maxHeartbeats 4000000
/-! M9: presses exchanged, put in; which switches an order leaves on, place by place. Plain Lean. -/
set_option Elab.async false
set_option linter.all false
set_option maxRecDepth 100000
set_option maxHeartbeats 4000000
/-! S3: more rules over the record. -/
namespace Ob
open PySem L2
open Evl (Ex)
open PySem.W (Datum Tup DatumOrd)
section
variable {K : PySem.W.Frag} {W0 : List Addr} {B0 H0 : Hp} {os : List OC} {Γ : List (Option Cell)} {σ : L2.St} {B H B1 H1 : Hp} {te ta tb tc tk tv : TE} {tt : TT} {D : Ends} {tu tw tz : TS} {b : Addr} {c n : Int}
theorem x_take {E : XK} {i : Nat} {n : Int} (hi : cg Γ i = ca b) (s : Slots K B σ Γ) (h : Pe K te σ B n) (h0 : 0 < n) (h1 : n < 1073741824) : Pb K b 1 (tCall (sp_Ltake K) [] E (tCons (tVar i) (tCons te tNil))) σ B (fun k : Int => 0 ≤ k ∧ k < n) := e_callB1 (s.rf i hi) h ⟨h0, h1⟩
end
end Ob
set_option Elab.async false
set_option linter.all false
set_option maxRecDepth 100000
set_option maxHeartbeats 4000000
/-! Xs: xs.extend(ys), ys any list. -/
namespace PySem.AutoSeq1
end PySem.AutoSeq1
set_option Elab.async false
set_option linter.all false
set_option maxRecDepth 100000
set_option maxHeartbeats 4000000
/-! S4: range of a drawn number, extend, insert, a new list beside a drawn thing; promises by a relation; a thing or None. -/
namespace Ob
open PySem L2
open Evl (Ex)
open PySem.W (Datum Tup DatumOrd)
theorem op_isNr {X : Cx} : OpR X (compareOp .Is) rIsN := op_isN
/-- None or a thing -/
structure Mb (α : Type) where
  o : Option α
def mbAt (K : PySem.W.Frag) {α : Type} [Rep α] (B : Hp) (v : V) : Option α → Prop
  | none => v = .non
  | some x => Rep.at_ K B v x
instance {α : Type} [Rep α] : Rep (Mb α) := ⟨fun K B v m => mbAt K B v m.o, fun {K B B' v m} e h => by
  obtain ⟨o⟩ := m
  cases o with
  | none => exact h
  | some x => exact Rep.monoR (α := α) e h⟩
section
variable {K : PySem.W.Frag} {W0 : List Addr} {B0 H0 : Hp} {os : List OC} {Γ : List (Option Cell)} {σ : L2.St} {B H B1 H1 : Hp} {te ta tb tc tk tv : TE} {tt : TT} {D : Ends} {tu tw tz : TS} {b : Addr} {c n m : Int}
/-- a reading that gives something of which R holds -/
def Pq {α : Type} [Rep α] (K : PySem.W.Frag) (te : TE) (σ : L2.St) (B : Hp) (R : α → Prop) : Prop := ∀ H, Ex B H → ∀ Q : VK, (∀ v x B2 H2, Up B H B2 H2 → R x → Rep.at_ K B2 v x → Q v H2) → te σ H Q
theorem Pq.is {α : Type} [Rep α] {R : α → Prop} {x : α} (h : Pq K te σ B R) (k : ∀ y, R y → y = x) : Pe K te σ B x := fun H e Q q => h H e Q fun v y B2 H2 u r hv => q v B2 H2 u (k y r ▸ hv)
def Fn3R {α β γ δ : Type} [Rep α] [Rep β] [Rep γ] [Rep δ] (K : PySem.W.Frag) (pre : α → β → γ → Prop) (R : α → β → γ → δ → Prop) : Sp := fun vs H Q _ => ∃ x y z B, Ex B H ∧ RCons K x (RCons K y (RCons K z RNil)) vs B ∧ pre x y z ∧ ∀ v r B2 H2, Up B H B2 H2 → R x y z r → Rep.at_ K B2 v r → Q v H2
section
variable {α β γ δ : Type} [Rep α] [Rep β] [Rep γ] [Rep δ] {vs : List V} {Q : VK} {E : XK}
theorem Fn3R.len {pre : α → β → γ → Prop} {R : α → β → γ → δ → Prop} (vs : List V) (H : Hp) (Q : VK) (E : XK) (h : Fn3R K pre R vs H Q E) : vs.length = 3 := by
  obtain ⟨x, y, z, B, e, ⟨v, r, rfl, h1, v2, r2, rfl, h2, v3, r3, rfl, h3, rfl⟩, _⟩ := h
  rfl
theorem Fn3R.st {pre : α → β → γ → Prop} {R : α → β → γ → δ → Prop} (h : Fn3R K pre R vs H Q E) (N : List Str) : ∃ x y z B, pre x y z ∧ St K [] B H [] ([ce x, ce y, ce z] ++ List.replicate (N.length - 3) none) (start N vs) B H ∧ ∀ v r B2 H2, Up B H B2 H2 → R x y z r → Rep.at_ K B2 v r → Q v H2 := by
  obtain ⟨x, y, z, B, e, ⟨v, _, rfl, h1, v2, _, rfl, h2, v3, _, rfl, h3, rfl⟩, hp, q⟩ := h
  exact ⟨x, y, z, B, hp, St.pure e (start_slots [v, v2, v3] [ce x, ce y, ce z] _ (.cons (At1.some h1) (.cons (At1.some h2) (.cons (At1.some h3) .nil)))), q⟩
end
end
end Ob
set_option Elab.async false
set_option linter.all false
set_option maxRecDepth 100000
set_option maxHeartbeats 4000000
/-! S5: loops with what follows; an if whose two ways meet. -/
namespace Ob
open PySem L2
open Evl (Ex)
open PySem.W (Datum Tup DatumOrd)
section
variable {K : PySem.W.Frag} {W0 : List Addr} {B0 H0 : Hp} {os : List OC} {Γ : List (Option Cell)} {σ : L2.St} {B H B1 H1 : Hp} {te ta tb tc tk tv : TE} {tt : TT} {D : Ends} {tu tw tz : TS}
/-- the two ways of an if meet again -/
theorem St.iteJ {b : Bool} (os' : List OC) (Γ' : List (Option Cell)) (s : St K W0 B0 H0 os Γ σ B H) (h : Pt tt σ B b) (J : ∀ σ1 B1 H1, St K W0 B0 H0 os' Γ' σ1 B1 H1 → tz D σ1 H1)
    (k1 : b = true → ∀ (N : L2.St → Hp → Prop), (∀ {σ1 B1 H1}, St K W0 B0 H0 os' Γ' σ1 B1 H1 → N σ1 H1) → ∀ B1 H1, St K W0 B0 H0 os Γ σ B1 H1 → tu { D with nx := N } σ H1)
    (k2 : b = false → ∀ (N : L2.St → Hp → Prop), (∀ {σ1 B1 H1}, St K W0 B0 H0 os' Γ' σ1 B1 H1 → N σ1 H1) → ∀ B1 H1, St K W0 B0 H0 os Γ σ B1 H1 → tw { D with nx := N } σ H1) : tSeq (tIfS tt tu tw) tz D σ H :=
  s.ite h (fun hb B1 H1 s1 => k1 hb (tz D) (fun {σ1 B1 H1} s2 => J σ1 B1 H1 s2) B1 H1 s1) fun hb B1 H1 s1 => k2 hb (tz D) (fun {σ1 B1 H1} s2 => J σ1 B1 H1 s2) B1 H1 s1
end
end Ob
set_option Elab.async false
set_option linter.all false
set_option maxRecDepth 100000
set_option maxHeartbeats 4000000
/-! S6: defs of four parameters, the last one None or a thing; calls that leave it out or name it. -/
namespace Ob
open PySem PySem.Spec PyProof.Rows L2
open Evl (Ex)
open PySem.W (Datum Tup DatumOrd)
section
variable {K : PySem.W.Frag} {W0 : List Addr} {B0 H0 : Hp} {os : List OC} {Γ : List (Option Cell)} {σ : L2.St} {B H B1 H1 : Hp} {te ta tb tc td tk tv : TE} {tt : TT} {D : Ends} {tu tw tz : TS}
section
variable {α β γ δ ε : Type} [Rep α] [Rep β] [Rep γ] [Rep δ] [Rep ε] {vs : List V} {Q : VK} {E : XK}
def Fn4 (K : PySem.W.Frag) (pre : α → β → γ → δ → Prop) (f : α → β → γ → δ → ε) : Sp := fun vs H Q _ => ∃ x y z t B, Ex B H ∧ RCons K x (RCons K y (RCons K z (RCons K t RNil))) vs B ∧ pre x y z t ∧ ∀ v B2 H2, Up B H B2 H2 → Rep.at_ K B2 v (f x y z t) → Q v H2
theorem Fn4.len {pre : α → β → γ → δ → Prop} {f : α → β → γ → δ → ε} (vs : List V) (H : Hp) (Q : VK) (E : XK) (h : Fn4 K pre f vs H Q E) : vs.length = 4 := by
  obtain ⟨x, y, z, t, B, e, ⟨v, r, rfl, h1, v2, r2, rfl, h2, v3, r3, rfl, h3, v4, r4, rfl, h4, rfl⟩, _⟩ := h
  rfl
theorem Fn4.st {pre : α → β → γ → δ → Prop} {f : α → β → γ → δ → ε} (h : Fn4 K pre f vs H Q E) (N : List Str) : ∃ x y z t B, pre x y z t ∧ St K [] B H [] ([ce x, ce y, ce z, ce t] ++ List.replicate (N.length - 4) none) (start N vs) B H ∧ ∀ v B2 H2, Up B H B2 H2 → Rep.at_ K B2 v (f x y z t) → Q v H2 := by
  obtain ⟨x, y, z, t, B, e, ⟨v, _, rfl, h1, v2, _, rfl, h2, v3, _, rfl, h3, v4, _, rfl, h4, rfl⟩, hp, q⟩ := h
  exact ⟨x, y, z, t, B, hp, St.pure e (start_slots [v, v2, v3, v4] [ce x, ce y, ce z, ce t] _ (.cons (At1.some h1) (.cons (At1.some h2) (.cons (At1.some h3) (.cons (At1.some h4) .nil))))), q⟩
theorem a_4 {x : α} {y : β} {z : γ} {t : δ} (h : Pe K ta σ B x) (h2 : Pe K tb σ B y) (h3 : Pe K tc σ B z) (h4 : Pe K td σ B t) : Pa (tCons ta (tCons tb (tCons tc (tCons td tNil)))) σ B (RCons K x (RCons K y (RCons K z (RCons K t RNil)))) := a_cons h fun _ e => a_3 (h2.mono e) (h3.mono e) (h4.mono e)
theorem e_call4 {pre : α → β → γ → δ → Prop} {f : α → β → γ → δ → ε} {x : α} {y : β} {z : γ} {t : δ} (h : Pe K ta σ B x) (h2 : Pe K tb σ B y) (h3 : Pe K tc σ B z) (h4 : Pe K td σ B t) (hp : pre x y z t) : Pe K (tCall (Fn4 K pre f) [] E (tCons ta (tCons tb (tCons tc (tCons td tNil))))) σ B (f x y z t) := fun H e Q q => a_4 h h2 h3 h4 H e _ fun vs B1 H1 u hv => by
  rw [List.append_nil]
  exact ⟨x, y, z, t, B1, u.bh, hv, hp, fun v B2 H2 u2 h2 => q v B2 H2 (u.trans u2) h2⟩
end
end
end Ob
set_option Elab.async false
set_option linter.all false
set_option maxRecDepth 100000
set_option maxHeartbeats 4000000
/-! Kw: calls by names only, in any order. -/
namespace Ob
open PySem PySem.Spec PyProof.Rows L2
open Evl (Ex)
/-- the items at these places -/
def permL {α : Type} : List Nat → List α → List α
  | [], _ => []
  | i :: is, ws => (ws[i]?).toList ++ permL is ws
theorem permL_vals {zs : List V} {ws : List Value} (r : Vals zs ws) : ∀ is : List Nat, Vals (permL is zs) (permL is ws)
  | [] => .nil
  | i :: is => by
    have ih := permL_vals r is
    unfold permL
    cases h : zs[i]? with
    | none =>
      have : ws[i]? = none := by
        rw [List.getElem?_eq_none_iff] at h ⊢
        rw [← r.length]
        exact h
      rw [this]
      exact ih
    | some x =>
      obtain ⟨u, hu, ru⟩ := r.get h
      rw [hu]
      exact .cons ru ih
section
variable {K : PySem.W.Frag} {x qual : Str} {params : Arguments} {body : List Stmt} {scope : Scope} {kws : List (Str × V)} {f : Addr} {fd : FuncData} {ps : List Str}
theorem kbinds0 (F : FunD K x qual params body scope [] kws f fd) (ks : List Str) (is : List Nat)
    (h : ∀ (kV doc pm : Value) (an : Option Addr) (cdv ct : Value) (ws : List Value), ws.length = ks.length → bindArgs (PySem.W.fnOf x qual params body scope .none kV doc pm an cdv ct) ⟨[], ks.zip ws⟩ = pure (ps.zip (permL is ws))) : KBn K fd ps 0 ks (fun _ ws => permL is ws) (fun _ zs => permL is zs) := by
  obtain ⟨oc, od, dV, kV, doc, pm, an, cdv, ct, osl, rfl, lk, hcd, hD, hK⟩ := F.ex
  rcases hD with ⟨_, rfl⟩ | ⟨e, _⟩
  · exact ⟨fun s us ws _ l1 l2 => .of_eq (by rw [List.eq_nil_of_length_eq_zero l1]; exact h kV doc pm an cdv ct ws l2), fun _ r2 => permL_vals r2 is⟩
  · exact absurd rfl e
end
section
variable {X : Cx} {CX : CXT} {k n : Nat} {f : Addr} {fd : FuncData} {ps ks : List Str} {k1 k2 k3 k4 : Str} {sp : Sp} {E : XK} {x : Str} {p pos : Pos} {kws : List Keyword} {tk : TA} {g : List Value → List Value → List Value} {gV : List V → List V → List V}
/-- f(k = v, ..) -/
theorem pe_callK0 (F : FnOk X.prog X.w X.K X.mg X.base CX k f fd ps sp) (hr : Room k X.A) (hg : Gl X x) (hm : X.mg x = some (.ref f)) (hk : PySem.W.keepIn X.K (.ref f) = true) (hb : KBn X.K fd ps 0 ks g gV) (hx : Passes CX X E)
    (hkw : PK X kws tk) (hall : (backToKw pos (keywordEach kws X.env)).all (·.1.isSome) = true) (hks : (backToKw pos (keywordEach kws X.env)).filterMap (·.1) = ks)
    (hdb : (x == ("__debug__" : Str)) = false) (hpl : ((backTo pos (starEach [] X.env)).any (·.1) || (backToKw pos (keywordEach kws X.env)).any (·.1.isNone)) = false) :
    PE X (.Call (.Name x p) [] kws pos) (tCallN 0 ks.length sp gV E tNil tk) := by
  refine ⟨fun pins s σ H Q I h => ?_⟩
  refine wpAny_Call_Name_kw (ld_glob I hg hm ?_ hdb)
  refine PySem.W.callWith_KW0 (h₀ := X.base) I.ok.mod.kin hk hall ?_ hpl
  refine thn (hkw.run pos pins s σ H _ I h) fun ws s2 ⟨zs, H2, I2, rz, l1, l2, q2⟩ => ⟨I2.kIn, ?_⟩
  rw [hks]
  exact run_fnN F hr hb hx I2 .nil rz l1 l2 q2
theorem pe_callK0_4 (F : FnOk X.prog X.w X.K X.mg X.base CX k f fd ps sp) (hr : Room k X.A) (hg : Gl X x) (hm : X.mg x = some (.ref f)) (hk : PySem.W.keepIn X.K (.ref f) = true) (hb : KBn X.K fd ps 0 [k1, k2, k3, k4] g gV) (hx : Passes CX X E)
    (hkw : PK X kws tk) (hall : (backToKw pos (keywordEach kws X.env)).all (·.1.isSome) = true := by rfl) (hks : (backToKw pos (keywordEach kws X.env)).filterMap (·.1) = [k1, k2, k3, k4] := by rfl)
    (hdb : (x == ("__debug__" : Str)) = false := by decide) (hpl : ((backTo pos (starEach [] X.env)).any (·.1) || (backToKw pos (keywordEach kws X.env)).any (·.1.isNone)) = false := by rfl) :
    PE X (.Call (.Name x p) [] kws pos) (tCallN 0 4 sp gV E tNil tk) := pe_callK0 (ks := [k1, k2, k3, k4]) F hr hg hm hk hb hx hkw hall hks hdb hpl
end
end Ob
set_option Elab.async false
set_option linter.all false
set_option maxRecDepth 100000
set_option maxHeartbeats 4000000
/-! Xc: try .. except (A, B, C) as error: caught = error; the exception held behind the try; isinstance of it; raise X(). -/
namespace L2
open PySem PySem.Spec PyProof.Rows
/-- an exception of class cls, its dict d, caught and held at a -/
def exH (a : Addr) (cls : Value) (d : Option Addr) : HO := .ext fun h => ∃ (oe : Obj) (vs : Array Value), h.get? a = some oe ∧ Zc cls d oe ∧ oe.data = .fields vs
theorem exH_ok {P : Program} {w : World} {H : Hp} {h : Heap} {a : Addr} {cls : Value} {d : Option Addr} {oe : Obj} {vs : Array Value} (e : h.get? a = some oe) (z : Zc cls d oe) (hd : oe.data = .fields vs) : ObjOk P w H h a (exH a cls d) :=
  ⟨⟨oe, vs, e, z, hd⟩, ⟨oe, e⟩, fun _ _ ⟨o, v, q, r⟩ k => ⟨o, v, k o q, r⟩⟩
theorem flying_push {base h : Heap} {l : List Env} {e : Addr} {Z : Obj → Prop} {o : Obj} (x : HandSPX.FlyingZ base l e Z h) : HandSPX.FlyingZ base l e Z (h.push o) := by
  obtain ⟨k1, k2, k3, oe, vs, T, oT, ts, he, hz, hd, h1, hnT, hTe, hT, hdT, h3⟩ := x
  exact ⟨fun b o q => Heap.get?_push_of_some _ (k1 b o q), k2, Heap.FunFrames.of_keeps (fun b o e _ => ⟨o, Heap.get?_push_of_some _ e, rfl⟩) k3, oe, vs, T, oT, ts, Heap.get?_push_of_some _ he, hz, hd, h1, hnT, hTe, Heap.get?_push_of_some _ hT, hdT, h3⟩
section
variable {X : Cx} {pins : List (Addr × Obj)} {σ : St} {H : Hp} {s : Shared}
theorem Inv.track (I : Inv X pins σ H s) {a : Addr} {oe : Obj} {vs : Array Value} {cls : Value} {d : Option Addr} (ha : s.heap.get? a = some oe) (hz : Zc cls d oe) (hd : oe.data = .fields vs) (na : H a = none) (nL : a ≠ X.env.locals)
    (n0 : X.s_0.heap.get? a = none) (nP : ∀ p ∈ X.pn ++ pins, p.1 ≠ a) : Inv X pins σ (upd H a (exH a cls d)) s :=
  ⟨I.ok, I.os, I.bare, ⟨I.base.keep, I.base.slot, fun b o e n hq => by
      rw [upd_ne (fun z => by rw [z, n0] at e; cases e)]
      exact I.base.free b o e n hq, I.base.there, fun b xs e => by
      have q := I.base.tups b xs e
      rw [upd_ne (ne_of_none q na)]
      exact q, fun b o u e => by
      have q := I.base.frzs b o u e
      rw [upd_ne (ne_of_none q na)]
      exact q, fun b ps e => by
      obtain ⟨m, q⟩ := I.base.tbls b ps e
      exact ⟨m, by rw [upd_ne (ne_of_none q na)]; exact q⟩⟩, I.loc, I.cell, by
    rw [upd_ne (Ne.symm nL)]
    exact I.free, fun x c e => by
    obtain ⟨v, o, ho, hv⟩ := I.cell x c e
    rw [upd_ne (fun z => by
      rw [z, ha] at ho
      cases ho
      rw [hd] at hv
      cases hv)]
    exact I.freeC x c e, fun p hp => by
    obtain ⟨e, n, r⟩ := I.pin p hp
    exact ⟨e, by rw [upd_ne (nP p hp)]; exact n, r⟩, I.hok.laidN (fun _ _ q => q) na (exH_ok ha hz hd), I.len⟩
theorem PS.nox {st : Stmt} {t : TS} (h : PS X.nox st t) : PS X st t := ⟨fun pins s σ H D I hw =>
  wpAny_mono (h.run pins s σ H D (I.wish _) hw) (fun _ _ q => q.unwish) fun _ _ z => False.elim z⟩
end
/-- what 'except (..) as n' wishes of an exception of the body; behind its suite the exception is held -/
def wHold (K : PySem.W.Frag) (cs : List Value) (i : Nat) (ts : Addr → Value → Option Addr → TS) (Wout : WX) (D : Ends) : WX := fun cls d σ H =>
  ∃ b, PySem.W.exmAny K cls cs = some b ∧ (b = true → ∀ a, H a = none → ts a cls d { nx := fun σ' H' => H' a = none → D.nx (σ'.set i none) (upd H' a (exH a cls d)), rt := D.rt, bk := fun σ' H' => D.bk (σ'.set i none) H', ct := fun σ' H' => D.ct (σ'.set i none) H' } (σ.set i (some (.ref a))) H) ∧
    (b = false → Wout cls d σ H)
end L2
set_option Elab.async false
set_option linter.all false
set_option maxRecDepth 100000
set_option maxHeartbeats 4000000
/-! Lam: sorted(xs, key=lambda x: (-far[x], x)): the lambda's code object, kept in the maker's table; the order. -/
namespace Ob
open PySem PySem.Spec PyProof.Rows L2
open Evl (Ex)
open LamX (CodeO TabB)
open PySem.W (Datum Tup DatumOrd)
/-- the table at P: the code objects that it tells are frozen -/
structure LtAt (q : Str) (B H : Hp) (P : Addr) : Prop where
  fb : B P = none
  tb : ∃ ps : Array Value, H P = some (.tbl ps) ∧ TriplesOk ps.toList ∧ ∀ (pos : Pos) (cv : Value), codeAmong pos ps.toList = some cv → ∃ c, cv = .ref c ∧ B c = some (CodeO c q)
theorem LtAt.ne {q : Str} {B H : Hp} {P : Addr} (t : LtAt q B H P) : H P ≠ none := by
  obtain ⟨ps, h, _⟩ := t.tb
  rw [h]
  exact fun z => nomatch z
theorem LtAt.up {q : Str} {B H B1 H1 : Hp} {P : Addr} (t : LtAt q B H P) (u : Up B H B1 H1) : LtAt q B1 H1 P := by
  obtain ⟨ps, h, h2, h3⟩ := t.tb
  refine ⟨(u.out t.fb h).1, ps, (u.out t.fb h).2, h2, fun pos cv e => ?_⟩
  obtain ⟨c, e1, e2⟩ := h3 pos cv e
  exact ⟨c, e1, u.bb _ _ e2⟩
/-! ### one call of the key -/
end Ob
set_option Elab.async false
set_option linter.all false
set_option maxRecDepth 100000
set_option maxHeartbeats 8000000
/-! Dc2: {k: v for .. in .. if .. for .. in .. if ..}: a dict comprehension with two fors. Modelled on the layer's rules for one for, and for lists. -/
set_option Elab.async false
set_option linter.all false
set_option maxRecDepth 100000
set_option maxHeartbeats 4000000
/-! Xd: dicts with tuples of texts as keys: {k: v}, k in d, d[k] = v. -/
namespace Ob
open PySem PySem.Spec PyProof.Rows L2
open Evl (Ex)
open PySem.W (Datum Tup DatumOrd)
section
variable {X : Cx}
/-- {k: v}, k a tuple -/
def tDisp1T (tk tv : TE) : TE := fun σ H Q => ∀ p, H p = none → tk σ (upd H p (.dT [])) fun x H1 => tv σ H1 fun y H2 => ∃ (b : Addr) (k : List Key), x = .ref b ∧ H2 b = some (.tup (k.map kV)) ∧ H2 p = some (.dT []) ∧ Q (.ref p) (upd H2 p (.dT [(k, y)]))
theorem d_dictSetT {pins : List (Addr × Obj)} {s : Shared} {σ : L2.St} {H : Hp} {E : Value → Shared → Prop} {D b : Addr} {kvs : List (List Key × V)} {k : List Key} {v : V} {r : Value} {Q : Unit → Shared → Prop} (hu : X.A.units < cLine) (I : Inv X pins σ H s) (hD : H D = some (.dT kvs)) (eb : H b = some (.tup (k.map kV))) (hz : kvs.length < sizeLine)
    (rv : RelV v r) (h : ∀ s', Inv X pins σ (upd H D (.dT (putK kvs k v))) s' → Q () s') : wpAny (model X.prog X.w) X.A (dictSet D (.ref b) r) Q E s := by
  obtain ⟨z, hd, xs, rel, dd⟩ := dt_of I.hok hD
  have hzx : xs.length ≤ sizeLine := by rw [← Paired.length rel]; exact z
  have hl : (putK kvs k v).length ≤ sizeLine := by have := length_putK kvs k v; omega
  refine wpAny_dictSet_heap (hsz := hzx) (knd := tupleKind (mixKind X.prog X.w)) hu (key_of I.hok eb) dd fun h' dd' hs => h _ ?_
  obtain ⟨q, es, ep, hq, h2, h3, h4, _, h5⟩ := dd'
  refine d_write I (by rw [hD]; exact True.intro) hs ⟨q, hq⟩ ⟨hl, hd, _, (rel.put k eb rv).keeps fun c ys ec => ?_, q, es, ep, hq, h2, h3, h4, h5⟩
  rw [upd_ne (ne_of ec hD (fun z => nomatch z))]
  exact ec
theorem pe_disp1T {pos : Pos} {k v : Expr} {tk tv : TE} (hu : X.A.units + 150 < cLine) (hk : PE X k tk) (hv : PE X v tv) : PE X (.Dict [some k] [v] pos) (tDisp1T tk tv) := by
  refine ⟨fun pins s σ H Q I q => ?_⟩
  have hn := I.hok.fresh (Nat.le_refl s.heap.objs.size)
  have I1 := I.laid (a := s.heap.objs.size) (o := .dT []) (h' := s.heap.push { cls := .type "dict", data := .dict #[] }) (t' := s.toks) (fun _ _ q => Heap.get?_push_of_some _ q) (Nat.le_refl _) (dt_empty s.heap I.big)
  refine wpAny_Dict_any (keys := [some k]) (values := [v]) rfl rfl (by simp) (Nat.le_of_ble_eq_true rfl) (pairTrees_cons_walk (thn (hk.run pins _ σ _ _ I1 (q _ hn)) fun u s1 ⟨x, H1, I2, rx, q1⟩ => thn (hv.run pins s1 σ H1 _ I2 q1) fun w2 s2 ⟨y, H2, I3, ry, b, kk, ex, eb, hD, q2⟩ => pairTrees_nil_walk ?_))
  subst ex
  cases (show u = Value.ref b from rx)
  unfold storeAll
  simp only [List.forIn_cons, List.forIn_nil]
  refine wpAny_bind (wpAny_bind (d_dictSetT (by omega) I3 hD eb (Nat.lt_of_lt_of_le Nat.zero_lt_one (by rw [sizeLine_eq]; decide)) ry fun s4 I4 => wpAny_pure ?_))
  exact wpAny_pure ⟨.ref s.heap.objs.size, _, I4, rfl, q2⟩
end
/-- a set of tuples of texts, held as the keys of a dict -/
structure TSet where
  ks : List (List Str)
def kT (x : List Str) : List Key := x.map Sum.inr
theorem kT_inj {x y : List Str} (h : kT x = kT y) : x = y := by
  unfold kT at h
  exact (List.map_inj_right fun a b e => by cases e; rfl).mp h
theorem kT_map (x : List Str) : (kT x).map kV = x.map V.str := by
  unfold kT
  rw [List.map_map]
  rfl
instance : Rep TSet := ⟨fun K B v S => ∃ a kvs, v = .ref a ∧ Rd B a (.dT kvs) ∧ kvs.map (·.1) = S.ks.map kT, fun e ⟨a, kvs, h1, h2, h3⟩ => ⟨a, kvs, h1, e.1 a _ rfl h2, h3⟩⟩
theorem tup_key {K : PySem.W.Frag} {B H : Hp} {v : V} {x : Tup Str} (e : Ex B H) (h : Rep.at_ K B v x) : ∃ b, v = .ref b ∧ H b = some (.tup ((kT x.items).map kV)) := by
  obtain ⟨a, vs, rfl, h1, h2⟩ := at_tup.mp h
  exact ⟨a, rfl, by rw [kT_map, ← atAll_strs h2]; exact e _ _ h1⟩
end Ob
set_option Elab.async false
set_option linter.all false
set_option maxRecDepth 100000
set_option maxHeartbeats 4000000
/-! S7: while in the record; names set at once of which one is new and changes; a dict frozen. -/
namespace Ob
open PySem L2
open Evl (Ex)
open PySem.W (Datum Tup DatumOrd)
section
variable {K : PySem.W.Frag} {W0 : List Addr} {B0 H0 : Hp} {os : List OC} {Γ : List (Option Cell)} {σ : L2.St} {B H B1 H1 : Hp} {te ta tb tc tk tv : TE} {tt : TT} {D : Ends} {tu tw tz : TS}
theorem St.qforG {α δ : Type} [Rep α] {wi : TI} {g : TG} {xs : List α} (s : St K W0 B0 H0 os Γ σ B H) (h : ItD K wi σ B xs) (oz : List α → δ → List OC) (Γz : List α → δ → List (Option Cell)) (P : List α → δ → Prop)
    (h0 : ∃ d, P [] d ∧ ∀ B1 H1, St K W0 B0 H0 os Γ σ B1 H1 → St K W0 B0 H0 (oz [] d) (Γz [] d) σ B1 H1)
    (hs : ∀ done x rest d, xs = done ++ x :: rest → P done d → ∀ (v : V) (σ' : L2.St) (B' H' : Hp) (N : L2.St → Hp → Prop), (∀ (d' : δ) {σ3 : L2.St} {B3 H3 : Hp}, P (done ++ [x]) d' → St K ((oz done d).map (·.l)) B' H' (oz (done ++ [x]) d') (Γz (done ++ [x]) d') σ3 B3 H3 → N σ3 H3) →
      St K W0 B0 H0 (oz done d) (Γz done d) σ' B' H' → Rep.at_ K B' v x → g v σ' H' fun σ2 H2 => tu { D with nx := N, ct := N, bk := tz D } σ2 H2)
    (k : ∀ d, P xs d → ∀ σ' B' H', St K W0 B0 H0 (oz xs d) (Γz xs d) σ' B' H' → tz D σ' H') : tSeq (tFor wi g tu) tz D σ H := s.forG (D := { D with nx := tz D }) h oz Γz P h0 hs k
/-- for .. in a drawn thing -/
theorem St.qforDr {α : Type} [Rep α] {b : Addr} {c n : Int} {R : α → Prop} {g : TG} (s : St K W0 B0 H0 (boxC b c :: os) Γ σ B H) (h : Pb K b n te σ B R) (hc : c + n ≤ 2 ^ 40) (k : ∀ x, R x → ∀ v B1 H1, Rep.at_ K B1 v x → St K W0 B0 H0 (boxC b (c + n) :: os) Γ σ B1 H1 → tSeq (tFor (iSeq K (tC v)) g tu) tz D σ H1) : tSeq (tFor (iSeq K te) g tu) tz D σ H :=
  h H c s.bh s.box hc _ fun v x B2 H2 u bx r hv => k x r v B2 H2 hv (s.ub u bx)
end
end Ob
set_option Elab.async false
set_option linter.all false
set_option maxRecDepth 100000
set_option maxHeartbeats 4000000
/-! Dd: dicts from texts to ints that grow: {x: n for ..} with one for and with two, update by new keys. -/
set_option Elab.async false
set_option linter.all false
set_option maxRecDepth 100000
set_option maxHeartbeats 4000000
/-! Dr: dicts from texts to ints that grow, in the record. -/
set_option Elab.async false
set_option linter.all false
set_option maxRecDepth 100000
set_option maxHeartbeats 4000000
/-! Tb: promises of defs behind which a lambda is made: the maker's table may grow. -/
namespace Ob
open PySem PySem.Spec PyProof.Rows L2
open Evl (Ex)
open LamX (CodeO TabB)
open PySem.W (Datum Tup DatumOrd)
def tabC (q : Str) (P : Addr) : OC := ⟨P, fun B o => ∃ ps : Array Value, o = .tbl ps ∧ TriplesOk ps.toList ∧ ∀ (pos : Pos) (cv : Value), codeAmong pos ps.toList = some cv → ∃ c, cv = .ref c ∧ B c = some (CodeO c q), fun e ⟨ps, h1, h2, h3⟩ => ⟨ps, h1, h2, fun pos cv h => by
  obtain ⟨c, e1, e2⟩ := h3 pos cv h
  exact ⟨c, e1, e _ _ e2⟩⟩⟩
theorem LtAt.put {q : Str} {B H : Hp} {P a : Addr} {o : HO} (t : LtAt q B H P) (ne : P ≠ a) : LtAt q B (upd H a o) P := ⟨t.fb, by
  obtain ⟨ps, h, h2⟩ := t.tb
  exact ⟨ps, by rw [upd_ne ne]; exact h, h2⟩⟩
theorem LtAt.frz {q : Str} {B H : Hp} {P a : Addr} {o : HO} (t : LtAt q B H P) (ne : P ≠ a) (e : Ex B (upd B a o)) : LtAt q (upd B a o) H P := ⟨by rw [upd_ne ne]; exact t.fb, by
  obtain ⟨ps, h, h2, h3⟩ := t.tb
  refine ⟨ps, h, h2, fun pos cv z => ?_⟩
  obtain ⟨c, e1, e2⟩ := h3 pos cv z
  exact ⟨c, e1, e _ _ e2⟩⟩
theorem LtAt.own {q : Str} {B H : Hp} {P : Addr} (t : LtAt q B H P) : B P = none ∧ ∃ ob, H P = some ob ∧ (tabC q P).P B ob := by
  obtain ⟨ps, h, h2, h3⟩ := t.tb
  exact ⟨t.fb, _, h, ps, rfl, h2, h3⟩
/-- a reading behind which the table may have grown -/
def PqT {α : Type} [Rep α] (K : PySem.W.Frag) (q : Str) (P : Addr) (te : TE) (σ : L2.St) (B : Hp) (R : α → Prop) : Prop := ∀ H, Ex B H → LtAt q B H P → ∀ Q : VK, (∀ v x B2 H2, Ub P B H B2 H2 → LtAt q B2 H2 P → R x → Rep.at_ K B2 v x → Q v H2) → te σ H Q
section
variable {α β γ δ ε : Type} [Rep α] [Rep β] [Rep γ] [Rep δ] [Rep ε]
def FnT3R (K : PySem.W.Frag) (q : Str) (P : Addr) (pre : α → β → γ → Prop) (R : α → β → γ → δ → Prop) : Sp := fun vs H Q _ => ∃ x y z B, Ex B H ∧ LtAt q B H P ∧ RCons K x (RCons K y (RCons K z RNil)) vs B ∧ pre x y z ∧ ∀ v r B2 H2, Ub P B H B2 H2 → LtAt q B2 H2 P → R x y z r → Rep.at_ K B2 v r → Q v H2
def FnT4R (K : PySem.W.Frag) (q : Str) (P : Addr) (pre : α → β → γ → δ → Prop) (R : α → β → γ → δ → ε → Prop) : Sp := fun vs H Q _ => ∃ x y z t B, Ex B H ∧ LtAt q B H P ∧ RCons K x (RCons K y (RCons K z (RCons K t RNil))) vs B ∧ pre x y z t ∧ ∀ v r B2 H2, Ub P B H B2 H2 → LtAt q B2 H2 P → R x y z t r → Rep.at_ K B2 v r → Q v H2
end
section
variable {K : PySem.W.Frag} {W0 : List Addr} {B0 H0 : Hp} {os : List OC} {Γ : List (Option Cell)} {σ : L2.St} {B H B1 H1 : Hp} {te ta tb tc td tk tv : TE} {tt tt1 : TT} {D : Ends} {tu tw tz : TS} {q : Str} {P : Addr}
theorem PqT.mono {α : Type} [Rep α] {R : α → Prop} {B' : Hp} (h : ∀ B', Ex B B' → PqT K q P te σ B' R) (e : Ex B B') : PqT K q P te σ B' R := h B' e
section
variable {α β γ δ ε : Type} [Rep α] [Rep β] [Rep γ] [Rep δ] [Rep ε] {vs : List V} {Q : VK} {E : XK}
theorem FnT3R.len {pre : α → β → γ → Prop} {R : α → β → γ → δ → Prop} (vs : List V) (H : Hp) (Q : VK) (E : XK) (h : FnT3R K q P pre R vs H Q E) : vs.length = 3 := by
  obtain ⟨x, y, z, B, e, _, ⟨v, r, rfl, h1, v2, r2, rfl, h2, v3, r3, rfl, h3, rfl⟩, _⟩ := h
  rfl
theorem FnT4R.len {pre : α → β → γ → δ → Prop} {R : α → β → γ → δ → ε → Prop} (vs : List V) (H : Hp) (Q : VK) (E : XK) (h : FnT4R K q P pre R vs H Q E) : vs.length = 4 := by
  obtain ⟨x, y, z, t, B, e, _, ⟨v, r, rfl, h1, v2, r2, rfl, h2, v3, r3, rfl, h3, v4, r4, rfl, h4, rfl⟩, _⟩ := h
  rfl
theorem St.startT (e : Ex B H) (t : LtAt q B H P) (s : Slots K B σ Γ) : St K [P] B H [tabC q P] Γ σ B H :=
  ⟨Ex.refl B, e, fun _ _ _ h => h, fun _ h => h, fun _ h => .inl h, fun o ho => by
    rw [List.mem_singleton.mp ho]
    obtain ⟨h1, h2⟩ := t.own
    exact ⟨h1, .inl (by simp [tabC]), h2⟩, by simp, s⟩
theorem FnT3R.st {pre : α → β → γ → Prop} {R : α → β → γ → δ → Prop} (h : FnT3R K q P pre R vs H Q E) (N : List Str) : ∃ x y z B, pre x y z ∧ St K [P] B H [tabC q P] ([ce x, ce y, ce z] ++ List.replicate (N.length - 3) none) (start N vs) B H ∧ ∀ v r B2 H2, Ub P B H B2 H2 → LtAt q B2 H2 P → R x y z r → Rep.at_ K B2 v r → Q v H2 := by
  obtain ⟨x, y, z, B, e, t, ⟨v, _, rfl, h1, v2, _, rfl, h2, v3, _, rfl, h3, rfl⟩, hp, q⟩ := h
  exact ⟨x, y, z, B, hp, St.startT e t (start_slots [v, v2, v3] [ce x, ce y, ce z] _ (.cons (At1.some h1) (.cons (At1.some h2) (.cons (At1.some h3) .nil)))), q⟩
theorem FnT4R.st {pre : α → β → γ → δ → Prop} {R : α → β → γ → δ → ε → Prop} (h : FnT4R K q P pre R vs H Q E) (N : List Str) : ∃ x y z t B, pre x y z t ∧ St K [P] B H [tabC q P] ([ce x, ce y, ce z, ce t] ++ List.replicate (N.length - 4) none) (start N vs) B H ∧ ∀ v r B2 H2, Ub P B H B2 H2 → LtAt q B2 H2 P → R x y z t r → Rep.at_ K B2 v r → Q v H2 := by
  obtain ⟨x, y, z, t, B, e, w, ⟨v, _, rfl, h1, v2, _, rfl, h2, v3, _, rfl, h3, v4, _, rfl, h4, rfl⟩, hp, q⟩ := h
  exact ⟨x, y, z, t, B, hp, St.startT e w (start_slots [v, v2, v3, v4] [ce x, ce y, ce z, ce t] _ (.cons (At1.some h1) (.cons (At1.some h2) (.cons (At1.some h3) (.cons (At1.some h4) .nil))))), q⟩
theorem St.tab {k : Nat} (s : St K W0 B0 H0 os Γ σ B H) (h : os[k]? = some (tabC q P)) : LtAt q B H P := by
  obtain ⟨h1, _, ob, h3, ps, rfl, h4⟩ := s.own _ (List.mem_of_getElem? h)
  exact ⟨h1, ps, h3, h4⟩
end
end
/-! ### the law's end -/
/-- _law_right, behind which the table may have grown -/
def RightPT (K : PySem.W.Frag) (q : Str) (P : Addr) : Sp := fun vs H Q _ => ∃ b B, vs = [.ref b] ∧ Ex B H ∧ BoxAt 0 B H b ∧ LtAt q B H P ∧
  ∀ B2 H2, Ex B B2 → Ex B2 H2 → (∀ a u, a ≠ b → a ≠ P → H a = some u → H2 a = some u) → (∀ a, B2 a ≠ none → B a ≠ none ∨ H a = none) → LtAt q B2 H2 P → Q (.bl true) H2
section
variable {K : PySem.W.Frag} {W0 : List Addr} {B0 H0 : Hp} {os : List OC} {Γ : List (Option Cell)} {σ : L2.St} {B H B1 H1 : Hp} {te ta tb tc td tk tv : TE} {tt tt1 : TT} {D : Ends} {tu tw tz : TS} {q : Str} {P : Addr} {vs : List V} {Q : VK} {E : XK}
theorem RightPT.len (vs : List V) (H : Hp) (Q : VK) (E : XK) (h : RightPT K q P vs H Q E) : vs.length = 1 := by
  obtain ⟨b, B, rfl, _⟩ := h
  rfl
theorem RightPT.st (h : RightPT K q P vs H Q E) (N : List Str) : ∃ b B, St K [b, P] B H [boxC b 0, tabC q P] ([ca b] ++ List.replicate (N.length - 1) none) (start N vs) B H ∧ ∀ (k : Nat) (os : List OC) Γ σ B2 H2, os[k]? = some (tabC q P) → St K [b, P] B H os Γ σ B2 H2 → Q (.bl true) H2 := by
  obtain ⟨b, B, rfl, e, bx, t, k⟩ := h
  refine ⟨b, B, ⟨Ex.refl B, e, fun _ _ _ h => h, fun _ h => h, fun _ h => .inl h, fun o ho => ?_, ?_, start_slots [.ref b] [ca b] _ (.cons (At1.some rfl) .nil)⟩, fun j os Γ σ B2 H2 hj s => k B2 H2 s.bb s.bh (fun a u n1 n2 h => s.hh a u (by simp [n1, n2]) h) s.nw (s.tab hj)⟩
  · rcases List.mem_cons.mp ho with z | z
    · subst z
      obtain ⟨h1, h2⟩ := boxC_of bx
      exact ⟨h1, .inl (by simp [boxC]), h2⟩
    · rw [List.mem_singleton.mp z]
      obtain ⟨h1, h2⟩ := t.own
      exact ⟨h1, .inl (by simp [tabC]), h2⟩
  · obtain ⟨ps, hP, _⟩ := t.tb
    obtain ⟨_, g, m, j, hb, _⟩ := bx
    have : b ≠ P := fun z => by rw [z, hP] at hb; cases hb
    show [b, P].Nodup
    simp [this]
end
/-- the law, of its script -/
def LawPT (K : PySem.W.Frag) (q : Str) (P : Addr) : Sp := fun vs H Q _ => ∃ (s : Sq Int) (B : Hp), Ex B H ∧ LtAt q B H P ∧ (∃ v, vs = [v] ∧ Rep.at_ K B v s) ∧ ∀ H2, Q (.bl true) H2
theorem LawPT.len {K : PySem.W.Frag} {q : Str} {P : Addr} (vs : List V) (H : Hp) (Q : VK) (E : XK) (h : LawPT K q P vs H Q E) : vs.length = 1 := by
  obtain ⟨s, B, _, _, ⟨v, rfl, _⟩, _⟩ := h
  rfl
theorem LawPT.start {K : PySem.W.Frag} {q : Str} {P : Addr} {H : Hp} {a : Addr} {ns : List Int} (hP : H P = some (.tbl #[])) (hS : SqL K H a (ns.map V.int)) : LawPT K q P [.ref a] H (fun v _ => v = .bl true) fun _ _ _ => False := by
  have cut : ∀ {b : Addr} {o : HO}, H b = some o → o ≠ .tbl #[] → cutH H P b = some o := fun {b o} h n => by
    have : b ≠ P := fun z => n (by rw [z, hP] at h; exact (Option.some.inj h).symm)
    rw [cutH_ne this]
    exact h
  refine ⟨⟨ns⟩, cutH H P, fun b o h => ?_, ⟨cutH_same, #[], hP, trivial, fun pos cv h => by simp [codeAmong] at h⟩, ⟨_, rfl, a, _, rfl, .inl (hS.imp (fun h => h.imp (fun h => cut h fun z => nomatch z) fun ⟨o, h⟩ => ⟨o, cut h fun z => nomatch z⟩) id), ints_atAll ns⟩, fun _ => rfl⟩
  by_cases hb : b = P
  · rw [hb, cutH_same] at h
    cases h
  · rw [cutH_ne hb] at h
    exact h
end Ob
set_option Elab.async false
set_option linter.all false
set_option maxRecDepth 100000
set_option maxHeartbeats 4000000
/-! Xe: promises of defs that may raise; the try that holds what it caught; the class's facts. -/
namespace Ob
open PySem PySem.Spec PyProof.Rows L2
open Evl (Ex)
open PySem.W (Datum Tup DatumOrd)
def tLockOS (t : TS) : TS := fun D σ H => tLock t D σ H ∨ t D σ H
theorem ps_lockO {X : Cx} {st : Stmt} {t : TS} (h : PS X st t) : PS X st (tLockOS t) := ⟨fun pins s σ H D I hw => hw.elim ((ps_lock h).run pins s σ H D I) (h.run pins s σ H D I)⟩
/-- try: body / except (..) as n: suite, the reading -/
def tTryH (K : PySem.W.Frag) (cs : List Value) (i : Nat) (tb : WX → TS) (ts : Addr → Value → Option Addr → TS) (Wout : WX) : TS := fun D σ H => tb (wHold K cs i ts Wout D) D σ H
section
variable {α β γ : Type} [Rep α] [Rep β] [Rep γ]
def FnT2R (K : PySem.W.Frag) (q : Str) (P : Addr) (pre : α → β → Prop) (R : α → β → γ → Prop) : Sp := fun vs H Q _ => ∃ x y B, Ex B H ∧ LtAt q B H P ∧ RCons K x (RCons K y RNil) vs B ∧ pre x y ∧ ∀ v r B2 H2, Ub P B H B2 H2 → LtAt q B2 H2 P → R x y r → Rep.at_ K B2 v r → Q v H2
/-- the same, or the exception C is raised -/
def FnX2 (K : PySem.W.Frag) (q : Str) (P C : Addr) (pre : α → β → Prop) (R : α → β → γ → Prop) (bad : α → β → Prop) : Sp := fun vs H Q E => FnT2R K q P pre R vs H Q E ∨ ∃ x y B, Ex B H ∧ RCons K x (RCons K y RNil) vs B ∧ bad x y ∧ ∀ B2 H2, Up B H B2 H2 → E (.ref C) none H2
end
section
variable {K : PySem.W.Frag} {W0 : List Addr} {B0 H0 : Hp} {os : List OC} {Γ : List (Option Cell)} {σ : L2.St} {B H B1 H1 : Hp} {te ta tb tc td tk tv : TE} {tt tt1 : TT} {D : Ends} {tu tw tz : TS} {q : Str} {P C : Addr}
variable {α β γ : Type} [Rep α] [Rep β] [Rep γ] {vs : List V} {Q : VK} {E : XK} {pre : α → β → Prop} {R : α → β → γ → Prop} {bad : α → β → Prop}
theorem FnT2R.len (vs : List V) (H : Hp) (Q : VK) (E : XK) (h : FnT2R K q P pre R vs H Q E) : vs.length = 2 := by
  obtain ⟨x, y, B, e, _, ⟨v, r, rfl, h1, v2, r2, rfl, h2, rfl⟩, _⟩ := h
  rfl
theorem FnX2.len (vs : List V) (H : Hp) (Q : VK) (E : XK) (h : FnX2 K q P C pre R bad vs H Q E) : vs.length = 2 := by
  rcases h with h | ⟨x, y, B, e, ⟨v, r, rfl, h1, v2, r2, rfl, h2, rfl⟩, _⟩
  · exact FnT2R.len vs H Q E h
  · rfl
theorem FnT2R.st (h : FnT2R K q P pre R vs H Q E) (N : List Str) : ∃ x y B, pre x y ∧ St K [P] B H [tabC q P] ([ce x, ce y] ++ List.replicate (N.length - 2) none) (start N vs) B H ∧ ∀ v r B2 H2, Ub P B H B2 H2 → LtAt q B2 H2 P → R x y r → Rep.at_ K B2 v r → Q v H2 := by
  obtain ⟨x, y, B, e, t, ⟨v, _, rfl, h1, v2, _, rfl, h2, rfl⟩, hp, q⟩ := h
  exact ⟨x, y, B, hp, St.startT e t (start_slots [v, v2] [ce x, ce y] _ (.cons (At1.some h1) (.cons (At1.some h2) .nil))), q⟩
theorem kit_self {D : Addr} : PySem.W.kitOne K (.ref D) (.ref D) = some true := by
  unfold PySem.W.kitOne
  rw [if_pos (by simp)]
end
end Ob
set_option Elab.async false
set_option linter.all false
set_option maxRecDepth 100000
set_option maxHeartbeats 4000000
/-! Nx: own exception classes over any base, whose __init__ calls the base's and stores one field. -/
namespace PySem
namespace NSX
open PySem.W PySem.Calls PyProof.Rows PySem.HandSPX
section
open Builtin Builtin.ObjectAttr
variable {prog : Program} {w : World} {A : Around} {E : Value → Shared → Prop} {R : Result → Shared → Prop} {hp : Heap} {g : Array GenState} {d : Drawn} {t : Nat} {os : OsState}
/-- the first field of such an exception -/
theorem osa_newG {B : String} {bmB : List Value} {K : W.Frag} {name : Str} {tk : Tok} {v : Value} {x C : Addr} {fv : Array Value} (SF : StoreFacts B bmB "object.__setattr__" "object") (X : K.In hp) (hx : hp.get? x = some { cls := .ref C, data := .fields fv })
    (ho : W.excOver K C bmB = true) (hd : W.hasDictIn K C = true) (ha : W.findIn K (.ref C) name = some none)
    (hq : ∀ h' tk' dx, (∀ b o, b ≠ x → hp.get? b = some o → h'.get? b = some o) → hp.objs.size ≤ dx → dx ≠ x → h'.get? x = some { cls := .ref C, dict := some dx, data := .fields fv } →
      h'.Ns1 dx (fun y => if y = name then some v else none) → R (.ok (.ret .none)) ⟨h', g, d, tk', os⟩) :
    codeAny (model prog w) A (.call (.builtin "object.__setattr__") ⟨[.ref x, .str name tk, v], []⟩) R ⟨hp, g, d, t, os⟩ := by
  have I : W.InstAt hp x { cls := .ref C, data := .fields fv } C none := ⟨hx, rfl, rfl, trivial⟩
  have hne : x ≠ hp.objs.size := Nat.ne_of_lt (Heap.lt_size hx)
  obtain ⟨cd, hcd, hh⟩ := W.any_some hd
  refine W.osa_openX SF X I ho (r := none) (by unfold W.takerIn; rw [ha]; rfl) fun b => ?_
  show wpAny _ _ (storeInOwnDict (.ref x) (.ref C) (.str name tk) name v b) _ _ _
  have Lc : W.Looks (model prog w) hp (classData C) cd := W.looks_clsIn X hcd
  obtain ⟨nm, bs, mro, ns, qn, hdd, sn, sb, ab, col, dl⟩ := cd
  replace hh : hdd = true := hh
  subst hh
  unfold storeInOwnDict ownDictForStores
  repeat (first | with_reducible refine HandSPX.store_in_new ?_ ?_ | with_reducible refine wpAny_loadPart_at hx ?_ | with_reducible refine Lc.at ?_ | wp_step)
  · exact ⟨_, #[], _, (Heap.get?_update_ne _ _ _ _ hne.symm).trans (Heap.get?_push_at rfl rfl), rfl, fun e he => absurd he (by simp), fun _ => rfl⟩
  · intro h' tk' hn' hs
    have h1 : (hp.push { cls := .type "dict", data := .dict #[] }).get? x = some { cls := .ref C, data := .fields fv } := Heap.get?_push_of_some _ hx
    refine hq h' tk' hp.objs.size (fun b o hb hbo => ?_) (Nat.le_refl _) hne.symm ((hs.2 x hne).trans (Heap.get?_update_self _ h1 rfl)) hn'
    exact (hs.2 b (Nat.ne_of_lt (Heap.lt_size hbo))).trans ((Heap.get?_update_ne _ _ _ _ hb).trans (Heap.get?_push_of_some _ hbo))
end
end NSX
end PySem
namespace L2
open PySem PySem.Spec PyProof.Rows
/-- what is known of such a class C (its __init__ at fI, its field f), of its base -/
structure NsC (K : PySem.W.Frag) (C fI : Addr) (f : Str) (bmB : List Value) (newId : String) : Prop where
  ei : PySem.W.excInitIn K C bmB newId = true
  eo : PySem.W.excOver K C bmB = true
  hd : PySem.W.hasDictIn K C = true
  sa : PySem.W.findIn K (.ref C) "__setattr__" = some (some (.builtin "object.__setattr__"))
  no : PySem.W.findIn K (.ref C) f = some none
  iC : PySem.W.findIn K (.ref C) "__init__" = some (some (.ref fI))
  tI : PySem.W.typeIn K (.ref fI) = some (.type "function")
  exC : PySem.W.subIn K (.ref C) (.type "BaseException") = some true
  tyC : PySem.W.typeIn K (.ref C) = some (.type "type")
  kC : PySem.W.keepIn K (.ref C) = true
  ga : PySem.W.findIn K (.ref C) "__getattribute__" = some (some (.builtin "BaseException.__getattribute__"))
  gg : PySem.W.findIn K (.ref C) "__getattr__" = some none
  ca : PySem.W.findIn K (.ref C) "__class__" = some (some (.builtin "object.__class__"))
  cg : PySem.W.specialIn K (.builtin "object.__class__") "__get__" = some (some (.builtin "getset_descriptor.__get__"))
  ct : PySem.W.takesIn K (.builtin "object.__class__") = some true
  cm : PySem.W.mroIn K C (.type "object") = some true
section
variable {X : Cx} {pins : List (Addr × Obj)} {σ : St} {H : Hp} {s : Shared} {a C fI dx : Addr} {f : Str} {y : V} {u : Value} {E : Value → Shared → Prop} {A : Around} {B newId initId : String} {bmB : List Value}
theorem Inv.trackG (I : Inv X pins σ H s) {a : Addr} {oe : Obj} {o : HO} (ha : s.heap.get? a = some oe) (hd : ∀ v, oe.data ≠ .cell v) (na : H a = none) (nL : a ≠ X.env.locals)
    (n0 : X.s_0.heap.get? a = none) (nP : ∀ p ∈ X.pn ++ pins, p.1 ≠ a) (new : ObjOk X.prog X.w (upd H a o) s.heap a o) : Inv X pins σ (upd H a o) s :=
  ⟨I.ok, I.os, I.bare, ⟨I.base.keep, I.base.slot, fun b o e n hq => by
      rw [upd_ne (fun z => by rw [z, n0] at e; cases e)]
      exact I.base.free b o e n hq, I.base.there, fun b xs e => by
      have q := I.base.tups b xs e
      rw [upd_ne (ne_of_none q na)]
      exact q, fun b o u e => by
      have q := I.base.frzs b o u e
      rw [upd_ne (ne_of_none q na)]
      exact q, fun b ps e => by
      obtain ⟨m, q⟩ := I.base.tbls b ps e
      exact ⟨m, by rw [upd_ne (ne_of_none q na)]; exact q⟩⟩, I.loc, I.cell, by
    rw [upd_ne (Ne.symm nL)]
    exact I.free, fun x c e => by
    obtain ⟨v, o, ho, hv⟩ := I.cell x c e
    rw [upd_ne (fun z => by
      rw [z, ha] at ho
      cases ho
      exact hd v hv)]
    exact I.freeC x c e, fun p hp => by
    obtain ⟨e, n, r⟩ := I.pin p hp
    exact ⟨e, by rw [upd_ne (nP p hp)]; exact n, r⟩, I.hok.laidN (fun _ _ q => q) na new, I.len⟩
/-- self.f = y -/
theorem ostG (SF : StoreFacts B bmB "object.__setattr__" "object") (T : NsC X.K C fI f bmB newId) (I : Inv X pins σ H s) (e : H a = some (exo a C none)) (ry : RelV y u) {Q : Unit → Shared → Prop}
    (h : ∀ dx s', H dx = none → dx ≠ a → Inv X pins σ (upd (upd H a (exo a C (some dx))) dx (exd dx [(f, y)])) s' → Q () s') : wpAny (model X.prog X.w) A (setAttr (.ref a) f u) Q E s := by
  obtain ⟨t1, ho⟩ := exo_at I.hok e
  obtain ⟨hp, g, d, t, os⟩ := s
  refine PySem.W.set_plain I.kIn (ox := { cls := .ref C, dict := none, data := .fields #[.ref t1, .none, .none, .none, .bool false, .none] }) (od := none) ⟨ho, rfl, rfl, trivial⟩ T.sa ?_
  refine PySem.NSX.osa_newG SF I.kIn ho T.eo T.hd T.no fun h' tk' dx k dn dne hx hn => ?_
  have hnd : H dx = none := I.hok.fresh dn
  have J := I.write (t' := tk') (x := a) (e := a) (o := exo a C (some dx)) (by rw [e]; exact True.intro) (.inl rfl) k ⟨_, hx⟩ (exo_ok hx)
  obtain ⟨od, es, ep, hod, hdd, hrest⟩ := id hn
  have hlt : ∀ {b : Addr} {o : Obj}, hp.get? b = some o → b ≠ dx := fun {b o} q => Nat.ne_of_lt (Nat.lt_of_lt_of_le (Heap.lt_size q) dn)
  refine h dx _ hnd dne (J.trackG hod (fun v z => by rw [hdd] at z; cases z) (by rw [upd_ne dne]; exact hnd) (fun z => ?_) ?_ (fun p hp z => ?_) (exd_ok hn (relO_put (fs := []) ry fun g => True.intro)))
  · have := I.lt
    rw [← z] at this
    exact absurd (Nat.lt_of_lt_of_le this dn) (Nat.lt_irrefl _)
  · cases q : X.s_0.heap.get? dx with
    | none => rfl
    | some o => exact absurd (Nat.lt_of_lt_of_le (Heap.lt_size q) (Nat.le_trans I.sz dn)) (Nat.lt_irrefl _)
  · exact hlt (I.pin p hp).1 z
/-- B.__init__(self, ..) -/
theorem binit_ok {us : List Value} {Q : Value → Shared → Prop} (F : ExcBaseFacts B newId initId bmB) (T : NsC X.K C fI f bmB newId) (I : Inv X pins σ H s) (e : H a = some (exo a C none)) (hl : us.length ≤ sizeLine) (h : ∀ s', Inv X pins σ H s' → Q .none s') :
    wpAny (model X.prog X.w) A (call (.builtin initId) (.ref a :: us)) Q E s := by
  obtain ⟨nm, N, qn, bs, bm, hdct, sn, sub, ab, col, dd, k0, k1, k2, k3, k5, hC, hT⟩ := PySem.W.excInit_of I.kIn T.ei
  obtain ⟨t1, ho⟩ := exo_at I.hok e
  obtain ⟨hp, g, d, t, os⟩ := s
  refine wpAny_call (PySem.HandSPX.init_base F hT hC ho hl fun h' t2 k hx => ?_)
  have J := I.write (t' := t) (x := a) (e := a) (o := exo a C none) (by rw [e]; exact True.intro) (.inl rfl) k ⟨_, hx⟩ (exo_ok hx)
  have eu : upd H a (exo a C none) = H := funext fun b => by
    by_cases hb : b = a
    · rw [hb, upd_same, e]
    · rw [upd_ne hb]
  exact h _ (eu ▸ J)
end
/-- B.__init__(self, ..), the reading -/
def tBinit (C : Addr) (ta : TA) : TE := fun σ H Q => ta σ H fun vs H1 => ∃ (a : Addr) (ws : List V), vs = .ref a :: ws ∧ ws.length ≤ 1000 ∧ H1 a = some (exo a C none) ∧ Q .non H1
/-- self.f = e, the reading -/
def tOsf (C : Addr) (f : Str) (to te : TE) : TS := fun D σ H => te σ H fun y H1 => to σ H1 fun x H2 => ∃ a : Addr, x = .ref a ∧ H2 a = some (exo a C none) ∧ ∀ dx, H2 dx = none → dx ≠ a → D.nx σ (upd (upd H2 a (exo a C (some dx))) dx (exd dx [(f, y)]))
/-- C(e), the reading -/
def tMkNs (C : Addr) (f : Str) (ta : TA) : St → Hp → XK → Prop := fun σ H Q => ta σ H fun vs H1 => ∃ v, vs = [v] ∧ ∀ d, H1 d = none → Q (.ref C) (some d) (upd H1 d (.xd [(f, v)]))
/-- what __init__ keeps -/
def spInit (C : Addr) (f : Str) : Sp := fun vs H Q _ => ∃ (a : Addr) (v : V), vs = [.ref a, v] ∧ H a = some (exo a C none) ∧ ∀ dx, H dx = none → dx ≠ a → Q .non (upd (upd H a (exo a C (some dx))) dx (exd dx [(f, v)]))
section
variable {X : Cx} {o e : Expr} {es : List Expr} {to te : TE} {ta : TA} {f x : Str} {p p' p1 p2 pos pos2 : Pos} {C fI : Addr} {B newId initId : String} {bmB : List Value}
theorem pe_leinit {pl : Sem Bool} (T : NsC X.K C fI f bmB "LookupError.__new__") (hb0 : bmB = [.type "LookupError", .type "Exception", .type "BaseException", .type "object"]) (hg : Gl X "LookupError") (hm : X.mg "LookupError" = none)
    (vV : PySem.W.findCls X.K (.type "LookupError") (.type "type") "__init__" = some (.val (.builtin "LookupError.__init__"))) (ha : PA X (e :: es) ta)
    (hc : eval (.Call (.Attribute (.Name "LookupError" p1) "__init__" p2) (e :: es) [] pos) X.env = (do
      let ov ← eval (.Name "LookupError" p1) X.env
      standAt p2.atName
      let (f, first) ← holding [ov] (getMethod ov "__init__" pl)
      callWith pos f first (backTo pos (starEach (e :: es) X.env)) (backToKw pos (keywordEach [] X.env))) := by rfl)
    (he : starEach (e :: es) X.env = (false, eval e X.env) :: starEach es X.env := by rfl) (hpl : (backTo pos (starEach es X.env)).any (·.1) = false := by rfl) :
    PE X (.Call (.Attribute (.Name "LookupError" p1) "__init__" p2) (e :: es) [] pos) (tBinit C ta) := by
  subst hb0
  refine ⟨fun pins s σ H Q I h => ?_⟩
  refine PySem.W.methodCall_KW (ld_blt I hg hm (u := .type "LookupError") (by decide +kernel) ?_ (by decide) (by decide)) hc
  obtain ⟨m, fr⟩ := I.fr
  refine PySem.W.method_type (T := "LookupError") (name := "__init__") (v := .builtin "LookupError.__init__") (pl := pl) fr I.ok.mod.kin (show typeOf (.type "LookupError") = pure (.type "type") by kernel_rfl) (by decide +kernel) vV (by decide +kernel) ?_
  show wpAny _ _ (callWith pos (Value.builtin "LookupError.__init__") [] (backTo pos (starEach (e :: es) X.env)) []) _ _ _
  refine PyProof.Rows.callWith_method1 (thn (ha.run pos pins _ σ H _ (I.tok _) h) fun us s1 ⟨vs, H1, I1, r1, a, ws, ev, hl, ea, q⟩ => ?_) he hpl
  subst ev
  cases r1 with
  | @cons _ u0 _ ur ra rw' =>
    obtain rfl : u0 = Value.ref a := ra
    have hlen : ur.length ≤ sizeLine := by
      rw [← Paired.length rw', sizeLine_eq]
      omega
    exact binit_ok PySem.F.excBase_LookupError T I1 ea hlen fun s' J => ⟨.non, H1, J, rfl, q⟩
theorem ps_osf (SF : StoreFacts B bmB "object.__setattr__" "object") (T : NsC X.K C fI f bmB newId) (ho : PE X o to) (he : PE X e te) (hs : swapsWith e (some (.Attribute o f p')) pos.line X.env = pure false := by rfl) : PS X (.Assign [.Attribute o f p'] e pos) (tOsf C f to te) := by
  refine ⟨fun pins s σ H D I h => ?_⟩
  refine plainObj_wpAny_Assign_Attribute (thn (he.run pins s σ H _ I h) fun v s1 ⟨y, H1, I1, r1, q1⟩ => thn (ho.run pins s1 σ H1 _ I1 q1) fun u s2 ⟨xx, H2, I2, r2, a, ex, ea, q⟩ => ?_) hs
  subst ex
  obtain rfl : u = Value.ref a := r2
  exact ostG SF T I2 ea r1 fun dx s' n ne J => ⟨σ, _, J, q dx n ne⟩
/-- C(e) -/
theorem pmk_ns {CX : CXT} {k : Nat} {fd : FuncData} {ps : List Str} (F : ExcBaseFacts B newId initId bmB) (T : NsC X.K C fI f bmB newId)
    (F1 : FnOk X.prog X.w X.K X.mg X.base CX k fI fd ps (spInit C f)) (hr : Room (k + 1) X.A) (hb : Binds X.K fd ps []) (hx : Passes CX X (fun _ _ _ => False)) (hg : Gl X x) (hm : X.mg x = some (.ref C)) (ha : PA X [e] ta)
    (hdb : (x == ("__debug__" : Str)) = false := by decide) (he : starEach [e] X.env = (false, eval e X.env) :: starEach [] X.env := by rfl) (hpl : (backTo pos (starEach [] X.env)).any (·.1) = false := by rfl) :
    PMk X (.Call (.Name x p) [e] [] pos) (tMkNs C f ta) := by
  intro pins s σ H Q I h
  refine wpAny_Call_Name_kw (ld_glob I hg hm ?_ hdb)
  refine PySem.W.callWith_K (h₀ := X.base) I.ok.mod.kin T.kC (thn (ha.run pos pins s σ H _ I h) fun us s1 ⟨vs, H1, I1, r1, v, ev, q1⟩ => ⟨I1.kIn, ?_⟩) he hpl
  subst ev
  obtain ⟨u, rfl, ru⟩ := vals1 r1
  show wpAny _ _ (call (.ref C) [u]) _ _ _
  obtain ⟨hp, g, dr, tk, os⟩ := s1
  obtain ⟨nm, N, qn, bs, bm, hdct, sn, sub, ab, col, dd, k0, k1, k2, k3, k5, hC, hT⟩ := PySem.W.excInit_of I1.kIn T.ei
  have hsz : hp.objs.size ≤ hp.objs.size + 1 := Nat.le_succ _
  have hn : H1 (hp.objs.size + 1) = none := I1.hok.fresh hsz
  obtain ⟨a, hae⟩ : ∃ a, a = hp.objs.size + 1 := ⟨_, rfl⟩
  have kk : ∀ b o, hp.get? b = some o → ((hp.push (PySem.W.kdv_tup [u])).push (PySem.HandSPX.excO C hp.objs.size)).get? b = some o := fun b o e => Heap.get?_push_of_some _ (Heap.get?_push_of_some _ e)
  have hget : ((hp.push (PySem.W.kdv_tup [u])).push (PySem.HandSPX.excO C hp.objs.size)).get? (hp.objs.size + 1) = some (PySem.HandSPX.excO C hp.objs.size) := by heap_get
  have I2 : Inv X pins σ (upd H1 (hp.objs.size + 1) (exo (hp.objs.size + 1) C none)) ⟨(hp.push (PySem.W.kdv_tup [u])).push (PySem.HandSPX.excO C hp.objs.size), g, dr, tk, os⟩ :=
    I1.laid (t' := tk) (a := hp.objs.size + 1) (o := exo (hp.objs.size + 1) C none) (h' := (hp.push (PySem.W.kdv_tup [u])).push (PySem.HandSPX.excO C hp.objs.size)) kk hsz (exo_ok hget)
  have r2 : Vals [V.ref (hp.objs.size + 1), v] [Value.ref (hp.objs.size + 1), u] := .cons rfl (.cons ru .nil)
  have hps : ps.length = 2 := (F1.len [V.ref (hp.objs.size + 1), v] (upd H1 (hp.objs.size + 1) (exo (hp.objs.size + 1) C none)) (fun _ _ => True) (fun _ _ _ => False) ⟨_, v, rfl, upd_same, fun _ _ _ => trivial⟩).symm
  have hb2 := hb _ [Value.ref (hp.objs.size + 1), u] I2.kIn (by rw [List.append_nil]; exact hps.symm)
  rw [List.append_nil] at hb2
  refine wpAny_call (PySem.HandSPX.call_own F hT hC (PySem.W.looks_findIn I1.kIn T.iC) (fun self => PySem.W.bind_fn I1.kIn self T.tI) (by show 1 ≤ sizeLine; rw [sizeLine_eq]; decide)
    (codeAny_mono (F1.run _ X.stack _ _ ⟨[Value.ref (hp.objs.size + 1), u], []⟩ [Value.ref (hp.objs.size + 1), u] _
      (fun v' H2 => v' = .non ∧ ∃ d, H1 d = none ∧ d ≠ hp.objs.size + 1 ∧ H2 = upd (upd (upd H1 (hp.objs.size + 1) (exo (hp.objs.size + 1) C none)) (hp.objs.size + 1) (exo (hp.objs.size + 1) C (some d))) d (exd d [(f, v)])) (fun _ _ _ => False) (hr.make C [u] []) (I2.env0.make C [u] []) hb2 r2
      ⟨_, v, rfl, upd_same, fun d n ne => ⟨rfl, d, by rw [upd_ne ne] at n; exact n, ne, rfl⟩⟩) fun r s' hq' => ?_))
  cases r with
  | error er => exact hx pins σ _ _ er s' I2 hq'
  | ok fl =>
    cases fl with
    | ret u' =>
      obtain ⟨v', H2, os2, bare2, un2, hok2, rv, ev, d, hd1, hda, e2⟩ := hq'
      subst ev
      obtain ⟨h2, g2, d2, t2, os'⟩ := s'
      have ea : H2 (hp.objs.size + 1) = some (exo (hp.objs.size + 1) C (some d)) := by rw [e2, upd_ne (Ne.symm hda), upd_same]
      have ed : H2 d = some (exd d [(f, v)]) := by rw [e2, upd_same]
      have e3 : upd (del H2 (hp.objs.size + 1)) d (.xd [(f, v)]) = upd H1 d (.xd [(f, v)]) := funext fun b => by
        by_cases hbd : b = d
        · rw [hbd, upd_same, upd_same]
        · rw [upd_ne hbd, upd_ne hbd]
          by_cases hba : b = hp.objs.size + 1
          · rw [hba, del_same, hn]
          · rw [del_ne hba, e2, upd_ne hbd, upd_ne hba, upd_ne hba]
      exact ⟨rv, mk_end (raises_own T.exC T.tyC) I1 hsz kk un2 hok2 os2 bare2 ea ed hd1 (by rw [e3]; exact q1 d hd1)⟩
    | next => exact False.elim hq'
    | brk => exact False.elim hq'
    | cont => exact False.elim hq'
end
end L2
set_option Elab.async false
set_option linter.all false
set_option maxRecDepth 100000
set_option maxHeartbeats 4000000
/-! Ny: an exception with a field, held behind the try: isinstance, its field; promises of defs that raise it. -/
namespace L2
open PySem PySem.Spec PyProof.Rows
section
variable {X : Cx} {C fI : Addr} {f : Str} {newId : String} {bmB : List Value}
theorem held_inst {K : PySem.W.Frag} {P : Program} {w : World} {H : Hp} {h : Heap} {a dd : Addr} {fs : List (Str × V)} (hok : HOk P w H h) (ha : H a = some (exH a (.ref C) (some dd))) (hd : H dd = some (.xd fs)) :
    ∃ (oe od : Obj) (mA : Str → Option Value), PySem.W.InstAt h a oe C (some od) ∧ (∀ f, PySem.W.lookIn f od = some (mA f)) ∧ ∀ f, RelO (fs.lookup f) (mA f) := by
  have x : ObjOk P w H h a (exH a (.ref C) (some dd)) := hok a _ ha
  obtain ⟨⟨oe, vs, hget, hz, hv⟩, _⟩ := x
  have y : ObjOk P w H h dd (.xd fs) := hok dd _ hd
  obtain ⟨mA, hns, hr⟩ := y
  obtain ⟨od, ho, hl⟩ := lookIn_ns hns
  exact ⟨oe, od, mA, ⟨hget, hz.1, by unfold PySem.W.notCls; rw [hv] <;> rfl, by rw [hz.2]; exact ho⟩, hl, hr⟩
/-- isinstance(e, c), e an exception with a dict that is held -/
def rIsF (K : PySem.W.Frag) : List V → Hp → VK → Prop := fun xs H Q => ∃ (a C fI dd : Addr) (f : Str) (bmB : List Value) (newId : String) (fs : List (Str × V)) (c : V) (cv : Value) (b : Bool), xs = [.ref a, c] ∧ H a = some (exH a (.ref C) (some dd)) ∧ H dd = some (.xd fs) ∧ NsC K C fI f bmB newId ∧ (∀ u, RelV c u → u = cv) ∧ PySem.W.kitOne K (.ref C) cv = some b ∧ Q (.bl b) H
theorem call_isF {X : Cx} : CallR X (.builtin "isinstance") (rIsF X.K) := by
  intro pins s σ H xs us Q I r h
  obtain ⟨a, C, fI, dd, f, bmB, newId, fs, c, cv, b, rfl, ha, hd, T, hcv, e, q⟩ := h
  cases r with
  | cons rx rr =>
    cases rr with
    | cons rt rr =>
      cases rr
      cases rx
      have ec := hcv _ rt
      subst ec
      obtain ⟨oe, od, mA, J, _, _⟩ := held_inst (K := X.K) I.hok ha hd
      obtain ⟨cd, hcd, _⟩ := PySem.W.any_some T.hd
      exact PySem.W.kia_one (PySem.W.kitx_exc (by rw [hcd]; rfl) T.ga T.gg T.exC T.ca T.cg T.ct T.cm) I.kIn J e (fun z => nomatch z) fun tk => ⟨.bl b, H, I.kept (t' := tk) fun _ _ z => z, rfl, q⟩
/-- e.f of such an exception -/
def tFldH (C : Addr) (f : Str) (te : TE) : TE := fun σ H Q => te σ H fun x H1 => ∃ (a dd : Addr) (v : V), x = .ref a ∧ H1 a = some (exH a (.ref C) (some dd)) ∧ H1 dd = some (.xd [(f, v)]) ∧ Q v H1
theorem pe_fldH {e : Expr} {te : TE} {pos : Pos} (T : NsC X.K C fI f bmB newId) (he : PE X e te) (hb : attributeBase e f X.env (eval e X.env) = eval e X.env := by rfl) : PE X (.Attribute e f pos) (tFldH C f te) := by
  refine ⟨fun pins s σ H Q I h => ?_⟩
  refine attr_of hb (thn (he.run pins s σ H _ I h) fun u s1 hh => ?_)
  obtain ⟨x, H1, I1, rx, a, dd, v, ex, ha, hd, q⟩ := hh
  subst ex
  obtain rfl : u = Value.ref a := rx
  obtain ⟨oe, od, mA, J, hl, hr⟩ := held_inst (K := X.K) I1.hok ha hd
  have l : List.lookup f [(f, v)] = some v := by simp [List.lookup]
  obtain ⟨u, hu, ru⟩ := RelO.some_of (v := v) (o := mA f) (by rw [← l]; exact hr f)
  exact PySem.HandSPX.exc_get I1.kIn J T.ga T.gg T.exC (PySem.W.findObj_own T.hd T.no rfl (by rw [hl, hu])) (handed_of ru) ⟨v, H1, I1.tok _, ru, q⟩
end
/-- raise C(e) -/
def tRaiseNs (C : Addr) (f : Str) (E : XK) (ta : TA) : TS := fun _ σ H => tMkNs C f ta σ H fun cls d H' => E cls d H'
theorem passInit {X : Cx} : Passes L2.CX0 X (fun _ _ _ => False) := pass0
theorem passE {X : Cx} {E : XK} (tk : Takes X (fun cls d _ H => E cls d H)) (σ : L2.St) : PassesAt (L2.CX X.prog X.w) X σ E := fun pins H s e s' I c => passes_call tk (fun _ _ _ _ h => h) pins σ H s e s' I c
end L2
namespace Ob
open PySem PySem.Spec PyProof.Rows L2
open Evl (Ex)
open PySem.W (Datum Tup DatumOrd)
abbrev leB : List Value := [.type "LookupError", .type "Exception", .type "BaseException", .type "object"]
abbrev reB : List Value := [.type "RuntimeError", .type "Exception", .type "BaseException", .type "object"]
def nsB (x f : Str) (bmB : List Value) (newId : String) (K : PySem.W.Frag) : Bool :=
  PySem.W.excInitIn K (He.ga K x) bmB newId && (PySem.W.excOver K (He.ga K x) bmB && (PySem.W.hasDictIn K (He.ga K x) && (He.eqO (PySem.W.findIn K (.ref (He.ga K x)) "__setattr__") (some (some (.builtin "object.__setattr__"))) &&
  (He.eqO (PySem.W.findIn K (.ref (He.ga K x)) f) (some none) && (He.eqO (PySem.W.findIn K (.ref (He.ga K x)) "__init__") (some (some (.ref (He.ma K (He.ga K x) "__init__")))) && (decide (PySem.W.typeIn K (.ref (He.ma K (He.ga K x) "__init__")) = some (.type "function")) &&
  (decide (PySem.W.subIn K (.ref (He.ga K x)) (.type "BaseException") = some true) && (decide (PySem.W.typeIn K (.ref (He.ga K x)) = some (.type "type")) && (PySem.W.keepIn K (.ref (He.ga K x)) &&
  (He.eqO (PySem.W.findIn K (.ref (He.ga K x)) "__getattribute__") (some (some (.builtin "BaseException.__getattribute__"))) && (He.eqO (PySem.W.findIn K (.ref (He.ga K x)) "__getattr__") (some none) && (He.eqO (PySem.W.findIn K (.ref (He.ga K x)) "__class__") (some (some (.builtin "object.__class__"))) &&
  (He.eqO (PySem.W.specialIn K (.builtin "object.__class__") "__get__") (some (some (.builtin "getset_descriptor.__get__"))) && (decide (PySem.W.takesIn K (.builtin "object.__class__") = some true) && decide (PySem.W.mroIn K (He.ga K x) (.type "object") = some true)))))))))))))))
theorem nsB_ok {x f : Str} {bmB : List Value} {newId : String} {K : PySem.W.Frag} (h : nsB x f bmB newId K = true) : NsC K (He.ga K x) (He.ma K (He.ga K x) "__init__") f bmB newId := by
  obtain ⟨h1, h⟩ := He.ba h
  obtain ⟨h2, h⟩ := He.ba h
  obtain ⟨h3, h⟩ := He.ba h
  obtain ⟨h4, h⟩ := He.ba h
  obtain ⟨h5, h⟩ := He.ba h
  obtain ⟨h6, h⟩ := He.ba h
  obtain ⟨h7, h⟩ := He.ba h
  obtain ⟨h8, h⟩ := He.ba h
  obtain ⟨h9, h⟩ := He.ba h
  obtain ⟨h10, h⟩ := He.ba h
  obtain ⟨h11, h⟩ := He.ba h
  obtain ⟨h12, h⟩ := He.ba h
  obtain ⟨h13, h⟩ := He.ba h
  obtain ⟨h14, h⟩ := He.ba h
  obtain ⟨h15, h16⟩ := He.ba h
  exact ⟨h1, h2, h3, He.eqO_ok h4, He.eqO_ok h5, He.eqO_ok h6, of_decide_eq_true h7, of_decide_eq_true h8, of_decide_eq_true h9, h10, He.eqO_ok h11, He.eqO_ok h12, He.eqO_ok h13, He.eqO_ok h14, of_decide_eq_true h15, of_decide_eq_true h16⟩
section
variable {α β γ : Type} [Rep α] [Rep β] [Rep γ]
/-- a def of two parameters that gives g x y, or raises C with the field f that holds a text -/
def FnY2 (K : PySem.W.Frag) (C : Addr) (f : Str) (pre : α → β → Prop) (g : α → β → γ) (bad : α → β → Str → Prop) : Sp := fun vs H Q E => Fn2 K pre g vs H Q E ∨ ∃ x y z B, Ex B H ∧ RCons K x (RCons K y RNil) vs B ∧ bad x y z ∧ ∀ d B2 H2, Up B H B2 H2 → B2 d = some (.xd [(f, .str z)]) → E (.ref C) (some d) H2
end
section
variable {K : PySem.W.Frag} {W0 : List Addr} {B0 H0 : Hp} {os : List OC} {Γ : List (Option Cell)} {σ : L2.St} {B H B1 H1 : Hp} {te ta tb tc td tk tv : TE} {tt tt1 : TT} {D : Ends} {tu tw tz : TS} {C : Addr} {f : Str}
variable {α β γ : Type} [Rep α] [Rep β] [Rep γ] {vs : List V} {Q : VK} {E : XK} {pre : α → β → Prop} {g : α → β → γ} {bad : α → β → Str → Prop}
theorem FnY2.len (vs : List V) (H : Hp) (Q : VK) (E : XK) (h : FnY2 K C f pre g bad vs H Q E) : vs.length = 2 := by
  rcases h with h | ⟨x, y, z, B, e, ⟨v, r, rfl, h1, v2, r2, rfl, h2, rfl⟩, _⟩
  · exact Fn2.len vs H Q E h
  · rfl
theorem e_isF {fI dd a : Addr} {bmB : List Value} {newId : String} {fs : List (Str × V)} {c : V} {cv : Value} {b : Bool} (h : Pe K ta σ B (Any.mk (.ref a))) (hB : B a = some (exH a (.ref C) (some dd))) (hd : B dd = some (.xd fs)) (T : NsC K C fI f bmB newId) (hc : ∀ u, RelV c u → u = cv) (hk : PySem.W.kitOne K (.ref C) cv = some b) : Pe K (tCB (rIsF K) (tCons ta (tCons (tC c) tNil))) σ B b := fun H e Q q => h H e _ fun v B1 H1 u hv => by
  cases (show v = .ref a from hv)
  exact ⟨a, C, fI, dd, f, bmB, newId, fs, c, cv, b, rfl, u.bh _ _ (u.bb _ _ hB), u.bh _ _ (u.bb _ _ hd), T, hc, hk, q _ B1 H1 u (at_bl.mpr rfl)⟩
theorem e_fldH {dd a : Addr} {z : Str} (h : Pe K ta σ B (Any.mk (.ref a))) (hB : B a = some (exH a (.ref C) (some dd))) (hd : B dd = some (.xd [(f, .str z)])) : Pe K (tFldH C f ta) σ B z := fun H e Q q => h H e _ fun v B1 H1 u hv => by
  cases (show v = .ref a from hv)
  exact ⟨a, dd, .str z, rfl, u.bh _ _ (u.bb _ _ hB), u.bh _ _ (u.bb _ _ hd), q _ B1 H1 u (at_str.mpr rfl)⟩
theorem St.raiseN {z : Str} (h : Pe K ta σ B z) (s : St K [] B0 H0 os Γ σ B H) (q : ∀ d B2 H2, Up B0 H0 B2 H2 → B2 d = some (.xd [(f, .str z)]) → E (.ref C) (some d) H2) : tRaiseNs C f E (tCons ta tNil) D σ H := h H s.bh _ fun v B1 H1 u hv => by
  cases at_str.mp hv
  refine ⟨.str z, rfl, fun d hd => ?_⟩
  exact q d _ _ ((s.up u).up (Up.new (o := .xd [(f, .str z)]) u.bh hd)).toUp upd_same
end
section
variable {α β γ δ ε κ : Type} [Rep α] [Rep β] [Rep γ] [Rep δ] [Rep ε] [Rep κ]
/-- of three, of four parameters, the field any thing -/
def FnZ3 (K : PySem.W.Frag) (C : Addr) (f : Str) (ok : Sp) (bad : α → β → γ → ε → Prop) : Sp := fun vs H Q E => ok vs H Q E ∨ ∃ x y z w B, Ex B H ∧ RCons K x (RCons K y (RCons K z RNil)) vs B ∧ bad x y z w ∧ ∀ d v B2 H2, Up B H B2 H2 → B2 d = some (.xd [(f, v)]) → Rep.at_ K B2 v w → E (.ref C) (some d) H2
def FnZ4 (K : PySem.W.Frag) (C : Addr) (f : Str) (ok : Sp) (bad : α → β → γ → δ → ε → Prop) : Sp := fun vs H Q E => ok vs H Q E ∨ ∃ x y z t w B, Ex B H ∧ RCons K x (RCons K y (RCons K z (RCons K t RNil))) vs B ∧ bad x y z t w ∧ ∀ d v B2 H2, Up B H B2 H2 → B2 d = some (.xd [(f, v)]) → Rep.at_ K B2 v w → E (.ref C) (some d) H2
end
section
variable {K : PySem.W.Frag} {W0 : List Addr} {B0 H0 : Hp} {os : List OC} {Γ : List (Option Cell)} {σ : L2.St} {B H B1 H1 : Hp} {te ta tb tc td tk tv : TE} {tt tt1 : TT} {D : Ends} {tu tw tz : TS} {C : Addr} {f : Str}
variable {α β γ δ ε : Type} [Rep α] [Rep β] [Rep γ] [Rep δ] [Rep ε] {vs : List V} {Q : VK} {E : XK} {ok : Sp} {bad : α → β → γ → ε → Prop} {bad4 : α → β → γ → δ → ε → Prop}
theorem FnZ3.len (hk : ∀ vs H Q E, ok vs H Q E → vs.length = 3) (vs : List V) (H : Hp) (Q : VK) (E : XK) (h : FnZ3 K C f ok bad vs H Q E) : vs.length = 3 := by
  rcases h with h | ⟨x, y, z, w, B, e, ⟨v, r, rfl, h1, v2, r2, rfl, h2, v3, r3, rfl, h3, rfl⟩, _⟩
  · exact hk vs H Q E h
  · rfl
theorem FnZ4.len (hk : ∀ vs H Q E, ok vs H Q E → vs.length = 4) (vs : List V) (H : Hp) (Q : VK) (E : XK) (h : FnZ4 K C f ok bad4 vs H Q E) : vs.length = 4 := by
  rcases h with h | ⟨x, y, z, t, w, B, e, ⟨v, r, rfl, h1, v2, r2, rfl, h2, v3, r3, rfl, h3, v4, r4, rfl, h4, rfl⟩, _⟩
  · exact hk vs H Q E h
  · rfl
theorem bad_st4 {x : α} {y : β} {z : γ} {t : δ} {B : Hp} (e : Ex B H) (h : RCons K x (RCons K y (RCons K z (RCons K t RNil))) vs B) (N : List Str) : St K [] B H [] ([ce x, ce y, ce z, ce t] ++ List.replicate (N.length - 4) none) (start N vs) B H := by
  obtain ⟨v, _, rfl, h1, v2, _, rfl, h2, v3, _, rfl, h3, v4, _, rfl, h4, rfl⟩ := h
  exact St.pure e (start_slots [v, v2, v3, v4] [ce x, ce y, ce z, ce t] _ (.cons (At1.some h1) (.cons (At1.some h2) (.cons (At1.some h3) (.cons (At1.some h4) .nil)))))
end
end Ob
set_option Elab.async false
set_option linter.all false
set_option maxRecDepth 100000
set_option maxHeartbeats 4000000
/-! Nz: the __init__ of an exception with one field. -/
namespace Ob
open PySem PySem.Spec PyProof.Rows L2
open Evl (Ex)
def t_xinit (C : Addr) (f : Str) : TS := tSeq (tDrop (tBinit C (tCons (tVar 0) (tCons (tVar 1) tNil)))) (tOsf C f (tVar 0) (tVar 1))
theorem l_xinit {C : Addr} {f : Str} (vs : List V) (H : Hp) (Q : VK) (E : XK) (h : spInit C f vs H Q E) : vs.length = 2 := by
  obtain ⟨a, v, rfl, _⟩ := h
  rfl
theorem r_xinit {C : Addr} {f : Str} {N : List Str} (vs : List V) (H : Hp) (Q : VK) (E : XK) (h : spInit C f vs H Q E) (hN : N.length = 2 := by rfl) : t_xinit C f { nx := fun _ H' => Q .non H', rt := Q } (L2.start N vs) H := by
  obtain ⟨a, v, rfl, hH, q⟩ := h
  have e : L2.start N [.ref a, v] = [some (.ref a), some v] := by
    unfold L2.start
    rw [hN]
    rfl
  rw [e]
  exact ⟨_, rfl, _, rfl, a, [v], rfl, by show 1 ≤ 1000; decide, hH, ⟨v, rfl, .ref a, rfl, a, rfl, hH, fun dx h1 h2 => q dx h1 h2⟩⟩
theorem le_init {K : PySem.W.Frag} : PySem.W.findCls K (.type "LookupError") (.type "type") "__init__" = some (.val (.builtin "LookupError.__init__")) := by kernel_rfl
end Ob
set_option Elab.async false
set_option linter.all false
set_option maxRecDepth 100000
set_option maxHeartbeats 4000000
/-! Xf: except with two, with four classes, the exception held behind the suite (after ps_try_hold3 of Xc; printed by a program). -/
namespace L2
open PySem PySem.Spec PyProof.Rows
section
variable {X : Cx} {n x1 x2 x3 x4 : Str} {c1 c2 c3 c4 : Value} {i : Nat} {body suite : List Stmt} {b₀ : Stmt} {p1 p2 p3 p4 tpos pos pos' : Pos} {kk : Nat} {tb : WX → TS} {ts : Addr → Value → Option Addr → TS} {Wout : WX}
theorem ps_try_hold2 (hs : X.stack = X.env :: X.outer) (hf : X.env.frame = some X.env.locals) (hex : X.ex = []) (hN : X.N.Nodup) (hi : X.N[i]? = some n) (hln : X.env.kindOf n = some .local) (hc1 : Names X x1 c1) (hc2 : Names X x2 c2) (tk : Takes X Wout)
    (hb : ∀ (W : WX) (pn : List (Addr × Obj)) (xe : Value → Shared → Prop), Takes (X.tr pn xe) W → PassesOwn (model X.prog X.w) X.A X.env xe → PSs (X.tr pn xe) body (tb W))
    (hsu : ∀ (a : Addr) (oe : Obj) (cls : Value) (d : Option Addr) (pn : List (Addr × Obj)), Zc cls d oe → (∃ vs, oe.data = .fields vs) → PSs (X.suite a ((a, oe) :: pn)) (b₀ :: suite) (ts a cls d)) :
    PS X (.Try body [.ExceptHandler (some (.Tuple [.Name x1 p1, .Name x2 p2] kk tpos)) (some n) (b₀ :: suite) pos'] [] [] pos) (fun D σ H => tb (wHold X.K [c1, c2] i ts Wout D) D σ H) := by
  refine ⟨fun pins s σ H D I h => ?_⟩
  have ok := I.ok
  have hfr : X.A.frames = some (X.env :: X.outer) := by rw [ok.frames, hs]
  have hloc : Loc X.env.scope n := .inl hln
  refine wpAny_Try_except ?_
  refine wpAny_mono ((hb (wHold X.K [c1, c2] i ts Wout D) (X.pn ++ pins) (fun e s₁ => wpAny (model X.prog X.w) X.A (noteFrame e X.env) (fun _ s₂ => wpAny (model X.prog X.w) X.A (setFlight e none) (fun _ s₃ =>
    wpAny (model X.prog X.w) X.A (handleBy e X.env [.ExceptHandler (some (.Tuple [.Name x1 p1, .Name x2 p2] kk tpos)) (some n) (b₀ :: suite) pos']) (SP X pins D) X.xe s₃) X.xe s₂) X.xe s₁) (fun u s' xx => ?_) PassesOwn.looking).run [] s σ H D (I.toTry _) h) (fun f s1 hsp => ?_) (fun e s1 he => he)
  · -- the catch
    obtain ⟨a, B, sI, pins', σ', H', cls, d, rfl, J', nb, up, sky, na, os, ag, b, hb1, hyes, hno⟩ := xx
    have J : Inv X pins σ' H' sI := J'.ofTry ok
    have sky' : Sky B (X.env :: X.outer) a (Zc cls d) X.env.locals s'.heap := by rw [← hs]; exact sky
    show wpAny (model X.prog X.w) X.A (noteFrame (.ref a) X.env) _ _ _
    refine Sky.land Zc.steady hfr hf sky' fun h3 fl3 up3 => ?_
    have J3 : Inv X pins σ' H' { s' with heap := h3 } := J.landed nb fl3.1 (up.trans up3) os ag
    obtain ⟨oe3, vs3, he3, hz3, hd3⟩ := fl3.there
    have notFr : ∀ {h : Heap} {o : Obj} {vs : Array Value}, h.FunFrames B (X.env :: X.outer) → h.get? a = some o → o.data = .fields vs → a ∉ frs (X.env :: X.outer) := fun {h o vs} ff e dd hm => by
      obtain ⟨_, o', e', hnf⟩ := ff.mem hm
      rw [e] at e'; cases e'
      exact hnf _ dd
    have nfr := notFr fl3.2.2.1 he3 hd3
    have nL : a ≠ X.env.locals := fun z => nfr (List.mem_filterMap.mpr ⟨X.env, List.mem_cons_self, by rw [hf, z]⟩)
    have nF : a ∉ X.fs := fun hm => by
      obtain ⟨e, he, q⟩ := List.mem_filterMap.mp hm
      exact nfr (List.mem_filterMap.mpr ⟨e, List.mem_cons_of_mem _ he, q⟩)
    have nI : sI.heap.get? a = none := by
      cases q : sI.heap.get? a with
      | none => rfl
      | some o =>
        have z := nb a o q (by rw [hs]; exact nfr)
        rw [fl3.2.1] at z
        cases z
    have n0 : X.s_0.heap.get? a = none := by
      cases q : X.s_0.heap.get? a with
      | none => rfl
      | some o =>
        obtain ⟨o', z⟩ := J.base.there a o q (by rw [hex]; exact fun z => nomatch z)
        rw [nI] at z
        cases z
    have nP : ∀ p ∈ X.pn ++ pins, p.1 ≠ a := fun p hp z => by
      obtain ⟨e, _⟩ := J.pin p hp
      rw [z, nI] at e
      cases e
    have S3 := J3.suite he3 hd3 na nL nF
    refine wpAny_handleBy_cons (codeAny_handlers_test ?_) (by intro q; cases q)
    have LT : PySem.W.Looks (model X.prog X.w) h3 (typeOf (.ref a)) cls := fun A Q E s k q => wpAny_typeOf_ref (k _ _ he3) (by rw [hz3.1]; exact q)
    have test : ∀ {x : Str} {np : Pos} {c : Value} {Q : Value → Shared → Prop} {E : Value → Shared → Prop}, Names X x c → Q c { s' with heap := h3 } → wpAny (model X.prog X.w) (X.A.mark (some (.ref a))) (eval (.Name x np) X.env) Q E { s' with heap := h3 } := fun {x np c Q E} hc q => by
      obtain ⟨hg, hdbg, hm | ⟨hm, hv, hnn⟩⟩ := hc
      · exact ld_glob (X := X.suite a ((a, oe3) :: (X.pn ++ pins))) S3 hg hm q hdbg
      · exact ld_blt (X := X.suite a ((a, oe3) :: (X.pn ++ pins))) S3 hg hm hv q hnn hdbg
    refine wpAny_Tuple ?_
    refine wpAny_items_cons (test hc1 ?_)
    refine wpAny_items_cons (test hc2 ?_)
    refine wpAny_items_nil ⟨by show 2 ≤ sizeLine; rw [sizeLine_eq]; decide, ?_⟩
    have kp : ∀ q o, h3.get? q = some o → (h3.push { cls := .type "tuple", data := .seq [c1, c2].toArray }).get? q = some o := fun _ _ z => Heap.get?_push_of_some _ z
    have fl5 := flying_push (o := { cls := .type "tuple", data := .seq [c1, c2].toArray }) fl3
    have up5 : h3.UpToSlots (h3.push { cls := .type "tuple", data := .seq [c1, c2].toArray }) := Heap.UpToSlots.of_keeps kp
    refine (PySem.W.exm_tup2 (M := model X.prog X.w) (J3.kIn.keeps kp) (LT.keeps kp) (Heap.get?_push_size h3 rfl) hb1).here ?_
    cases b with
    | true =>
      refine codeAny_handlers_suite_as ?_
      refine HandSPX.lands_againZ fl5 fun h4 fl4 up4 => ?_
      have J4 : Inv X pins σ' H' { s' with heap := h4 } := J.landed nb fl4.1 (((up.trans up3).trans up5).trans up4) os ag
      obtain ⟨oe4, vs4, he4, hz4, hd4⟩ := fl4.there
      have S4 := J4.suite he4 hd4 na nL nF
      refine store_ok (X := X.suite a ((a, oe4) :: (X.pn ++ pins))) (v := .ref a) S4 hN hi hloc rfl (fun s5 S5 => ?_) (.inr hln)
      refine wpAny_mono ((hsu a oe4 cls d (X.pn ++ pins) hz4 ⟨_, hd4⟩).run [] s5 _ H' _ S5 (hyes rfl a na)) (fun f s6 hsp => ?_) (fun _ _ z => False.elim z)
      have end_ : ∀ {σ6 : St} {H6 : Hp} {Q : Shared → Prop}, Inv (X.suite a ((a, oe4) :: (X.pn ++ pins))) [] σ6 H6 s6 → (∀ s7, Inv X pins (σ6.set i none) H6 s7 → Q s7) →
          wpAny (model X.prog X.w) X.A (do bindName X.env n .none; unbindBehindTheSuite X.env n pos') (fun _ s7 => Q s7) X.xe s6 := fun {σ6 H6 Q} S6 hq => gone_ok (S6.unsuite ok) hN hi hln hq
      cases f with
      | next =>
        obtain ⟨σ6, H6, S6, q6⟩ := hsp
        obtain ⟨ea, na6, _⟩ := S6.pin (a, oe4) (List.mem_append_left _ List.mem_cons_self)
        exact gone_ok ((S6.unsuite ok).track ea hz4 hd4 na6 nL n0 nP) hN hi hln fun s7 J7 => ⟨_, _, J7, q6 na6⟩
      | brk =>
        obtain ⟨σ6, H6, S6, q6⟩ := hsp
        exact end_ S6 fun s7 J7 => ⟨_, _, J7, q6⟩
      | cont =>
        obtain ⟨σ6, H6, S6, q6⟩ := hsp
        exact end_ S6 fun s7 J7 => ⟨_, _, J7, q6⟩
      | ret u =>
        obtain ⟨v6, σ6, H6, S6, r6, q6⟩ := hsp
        exact end_ S6 fun s7 J7 => ⟨_, _, _, J7, r6, q6⟩
    | false =>
      show wpAny _ X.A (handleBy (.ref a) X.env []) _ _ _
      refine wpAny_handleBy_nil ?_
      obtain ⟨k1, k2, k3, oe, vs, T, oT, ts', he, hz, hd, h1, hr⟩ := id fl5
      unfold PySem.passOn
      refine wpAny_bind (wpAny_field he hd h1 ?_)
      rw [if_neg (show ¬ ((Value.ref T == Value.none) = true) from by simp)]
      have fin : wpAny (model X.prog X.w) X.A (setFlight (.ref a) X.env.frame) (fun _ s4 => wpAny (model X.prog X.w) X.A (throw (.ref a) : Sem Flow) (SP X pins D) X.xe s4) X.xe { s' with heap := h3.push { cls := .type "tuple", data := .seq [c1, c2].toArray } } := by
        rw [hf]
        refine HandSPX.setFlight_upZ fl5 fun h4 hh4 up4 => wpAny_throw (tk _ _ ?_)
        exact ⟨a, B, sI, pins, σ', H', cls, d, rfl, J, nb, ((up.trans up3).trans up5).trans up4, .inr (.inr (by rw [hs]; exact hh4)), na, os, ag, hno rfl⟩
      first
        | exact wpAny_bind (wpAny_pure (wpAny_bind fin))
        | exact wpAny_bind fin
  · cases f with
    | next =>
      obtain ⟨σ', H', J', q⟩ := hsp
      exact wpAny_execs_nil ⟨σ', H', J'.ofTry ok, q⟩
    | brk =>
      obtain ⟨σ', H', J', q⟩ := hsp
      exact ⟨σ', H', J'.ofTry ok, q⟩
    | cont =>
      obtain ⟨σ', H', J', q⟩ := hsp
      exact ⟨σ', H', J'.ofTry ok, q⟩
    | ret u =>
      obtain ⟨v, σ', H', J', r, q⟩ := hsp
      exact ⟨v, σ', H', J'.ofTry ok, r, q⟩
end
end L2
set_option Elab.async false
set_option linter.all false
set_option maxRecDepth 100000
set_option maxHeartbeats 4000000
/-! Nq: as Ny's CnG, for except clauses of two and of four classes (printed by a program). -/
namespace Ob
open PySem PySem.Spec PyProof.Rows L2
structure CnGo3 (K : PySem.W.Frag) (f : Str) (bm : List Value) (nid : String) where
  C : Addr
  fI : Addr
  c1 : Addr
  c2 : Addr
  c3 : Addr
  T : NsC K C fI f bm nid
  hx : PySem.W.exmAny K (.ref C) [.ref c1, .ref c2, .ref c3] = some true
  hv : PySem.W.kitOne K (.ref C) (bm.headD .none) = some true
  ho : PySem.W.kitOne K (.ref C) (.ref c1) = some false
  ho2 : PySem.W.kitOne K (.ref C) (.ref c2) = some false
end Ob
set_option Elab.async false
set_option linter.all false
set_option maxRecDepth 100000
set_option maxHeartbeats 4000000
/-! No: as Nq's CnG2, where it is asked whether the exception is of the clause's first class, too: it isn't. -/
namespace Ob
open PySem PySem.Spec PyProof.Rows L2
structure CnGo2 (K : PySem.W.Frag) (f : Str) (bm : List Value) (nid : String) where
  C : Addr
  fI : Addr
  c1 : Addr
  c2 : Addr
  T : NsC K C fI f bm nid
  hx : PySem.W.exmAny K (.ref C) [.ref c1, .ref c2] = some true
  hv : PySem.W.kitOne K (.ref C) (bm.headD .none) = some true
  ho : PySem.W.kitOne K (.ref C) (.ref c1) = some false
abbrev CnSo2 (K : PySem.W.Frag) (f : Str) := CnGo2 K f leB "LookupError.__new__"
def exB2_o2 (bm : List Value) (nid : String) (x f x1 x2 : Str) (K : PySem.W.Frag) : Bool := nsB x f bm nid K && (decide (PySem.W.exmAny K (.ref (He.ga K x)) [.ref (He.ga K x1), .ref (He.ga K x2)] = some true) && (decide (PySem.W.kitOne K (.ref (He.ga K x)) (bm.headD .none) = some true) && decide (PySem.W.kitOne K (.ref (He.ga K x)) (.ref (He.ga K x1)) = some false)))
def cnsOfo2 {bm : List Value} {nid : String} {x f x1 x2 : Str} {K : PySem.W.Frag} (h : exB2_o2 bm nid x f x1 x2 K = true) : CnGo2 K f bm nid :=
  ⟨He.ga K x, He.ma K (He.ga K x) "__init__", He.ga K x1, He.ga K x2, nsB_ok (He.ba h).1, of_decide_eq_true (He.ba (He.ba h).2).1, of_decide_eq_true (He.ba (He.ba (He.ba h).2).2).1, of_decide_eq_true (He.ba (He.ba (He.ba h).2).2).2⟩
end Ob
set_option Elab.async false
set_option linter.all false
set_option maxRecDepth 100000
set_option maxHeartbeats 4000000
/-! Dt: dict(pairs), the keys tuples of texts; d[k] of such a dict; a set held by what is in it. -/
namespace L2
open PySem PySem.Spec PyProof.Rows
end L2
set_option Elab.async false
set_option linter.all false
set_option maxRecDepth 100000
set_option maxHeartbeats 4000000
/-! Df: dicts with tuple keys as values; sets held by what is in them; lists of any things; [x] * int(c). -/
namespace Ob
open PySem L2
open Evl (Ex)
open PySem.W (Datum Tup DatumOrd)
/-- a set of tuples of texts, held as the keys of a dict, by what is in it -/
structure RSet where
  P : List Str → Prop
instance : Rep RSet := ⟨fun K B v S => ∃ T : TSet, Rep.at_ K B v T ∧ ∀ z, z ∈ T.ks ↔ S.P z, fun e ⟨T, h1, h2⟩ => ⟨T, Rep.monoR e h1, h2⟩⟩
structure Duo (α β : Type) where
  a : α
  b : β
instance {α β : Type} [Rep α] [Rep β] : Rep (Duo α β) := ⟨fun K H v t => ∃ a v1 v2, v = .ref a ∧ H a = some (.tup [v1, v2]) ∧ Rep.at_ K H v1 t.a ∧ Rep.at_ K H v2 t.b,
  fun e ⟨a, v1, v2, h1, h2, h3, h4⟩ => ⟨a, v1, v2, h1, e.2.1 _ _ h2, Rep.monoR e h3, Rep.monoR e h4⟩⟩
/-- a list of any things -/
structure LL (α : Type) where
  items : List α
instance {α : Type} [Rep α] : Rep (LL α) := ⟨fun K H v s => ∃ a vs, v = .ref a ∧ SqL K H a vs ∧ AtAll K H vs s.items, fun e ⟨a, vs, h1, h2, h3⟩ => ⟨a, vs, h1, exr_l e h2, h3.monoR e⟩⟩
/-- a dict, the keys tuples of texts -/
structure DicT (α : Type) where
  kvs : List (List Str × α)
def DicTAt {α : Type} [Rep α] (K : PySem.W.Frag) (H : Hp) (ks : List (List Key × V)) (d : List (List Str × α)) : Prop := Paired (fun (p : List Key × V) (q : List Str × α) => p.1 = kT q.1 ∧ Rep.at_ K H p.2 q.2) ks d
instance {α : Type} [Rep α] : Rep (DicT α) := ⟨fun K H v d => ∃ a ks, v = .ref a ∧ Rd H a (.dT ks) ∧ DicTAt K H ks d.kvs,
  fun e ⟨a, ks, h1, h2, h3⟩ => ⟨a, ks, h1, e.1 a _ rfl h2, Paired.mapP h3 fun _ _ h => ⟨h.1, Rep.monoR e h.2⟩⟩⟩
section
variable {K : PySem.W.Frag} {σ : L2.St} {B H : Hp} {te ta tb tc : TE} {tt : TT}
theorem e_lcS {γ β : Type} [Rep γ] [Rep β] {wi : TI} {g : TG} {vs : List Nat} {xs : List γ} (f : γ → Bool) (y : γ → β) (h : ItD K wi σ B xs) (hz : xs.length ≤ 1000000)
    (ht : ∀ x ∈ xs, ∀ v B1, Ex B B1 → Rep.at_ K B1 v x → TurnD K g tt te vs σ B1 v (f x) (y x)) : Pe K (tLc wi g tt te vs) σ B (LL.mk ((xs.filter f).map y)) := fun H e Q q =>
  h H e _ fun J B1 H1 G Y up W hG hY D hD => by
    have hDH : H D = none := Evl.fresh_back up.hh hD
    have hDB : B1 D = none := Evl.fresh_back up.bh hD
    refine lc_it W (fun i H' => ∃ Bi ws, Ex B1 Bi ∧ (∀ a, Bi a ≠ none → B1 a ≠ none ∨ H1 a = none) ∧ Bi D = none ∧ Ex Bi H' ∧ Ex H1 H' ∧ H' D = some (.lst ws) ∧ AtAll K Bi ws (((xs.take i).filter f).map y))
      ⟨B1, [], Ex.refl _, fun _ h => .inl h, hDB, ex_upd up.bh hDB, Ex.new hD, upd_same, .nil⟩ (fun i H' _ p => ?_) (fun i x Hx H' hi p hy => ?_) (fun H' p => ?_)
    · obtain ⟨Bi, ws, b1, _, _, b2, _⟩ := p
      exact hG H' (b1.trans b2)
    · obtain ⟨Bi, ws, b1, nw, bD, b2, hh, eD, hA⟩ := p
      obtain ⟨d, hd, hB⟩ := hY i x Hx H' hi (b1.trans b2) hy
      obtain ⟨B2, u2, hx⟩ := hB Bi b1 b2
      obtain ⟨o1, o2⟩ := u2.out bD eD
      obtain ⟨σ2, hg, hw, htt, hte⟩ := ht d (mem_of_get hd) x B2 ((up.bb.trans b1).trans u2.bb) hx
      refine hg H' _ u2.bh ⟨hw, htt H' u2.bh _ fun B3 H3 u3 => ?_⟩
      obtain ⟨o3, o4⟩ := u3.out o1 o2
      have nw3 : ∀ a, B3 a ≠ none → B1 a ≠ none ∨ H1 a = none := fun a ha => by
        rcases (u2.trans u3).nw a ha with z | z
        · exact nw a z
        · exact .inr (Evl.fresh_back hh z)
      cases hf : f d with
      | true =>
        rw [hf] at hte
        refine ((hte rfl).mono u3.bb) H3 u3.bh _ fun w B4 H4 u4 hw4 => ⟨ws, (u4.out o3 o4).2, ?_, B4, ws ++ [w], ?_, ?_, (u4.out o3 o4).1, ex_upd u4.bh (u4.out o3 o4).1, ?_, upd_same, ?_⟩
        · have := hA.length
          rw [List.length_map] at this
          have h2 := List.length_filter_le f (xs.take i)
          have h3 := List.length_take_le i xs
          have : (sizeLine : Nat) = 16777216 := sizeLine_eq
          omega
        · exact ((b1.trans u2.bb).trans u3.bb).trans u4.bb
        · intro a ha
          rcases ((u2.trans u3).trans u4).nw a ha with z | z
          · exact nw a z
          · exact .inr (Evl.fresh_back hh z)
        · exact Ex.mut (((hh.trans u2.hh).trans u3.hh).trans u4.hh) hD
        · rw [take_snoc hd, List.filter_append, List.map_append, List.filter_cons, if_pos hf]
          exact AtAll.snoc (hA.mono ((u2.bb.trans u3.bb).trans u4.bb)) hw4
      | false =>
        refine ⟨B3, ws, (b1.trans u2.bb).trans u3.bb, nw3, o3, u3.bh, (hh.trans u2.hh).trans u3.hh, o4, ?_⟩
        rw [take_snoc hd, List.filter_append, List.map_append, List.filter_cons, if_neg (by rw [hf]; decide)]
        show AtAll K B3 ws (_ ++ [])
        rw [List.append_nil]
        exact hA.mono (u2.bb.trans u3.bb)
    · obtain ⟨Bi, ws, b1, nw, bD, b2, hh, eD, hA⟩ := p
      rw [List.take_length] at hA
      refine q (.ref D) (upd Bi D (.lst ws)) H' ⟨(up.bb.trans b1).trans (Ex.new bD), ex_in b2 eD, up.hh.trans hh, fun a ha => ?_⟩ ⟨D, ws, rfl, Evl.sq_of upd_same, hA.mono (Ex.new bD)⟩
      by_cases hDa : a = D
      · exact .inr (hDa ▸ hDH)
      · rw [upd_ne hDa] at ha
        rcases nw a ha with z | z
        · exact up.nw a z
        · exact .inr (Evl.fresh_back up.hh z)
theorem Slots.lcAS {γ β : Type} [Rep γ] [Rep β] {wi : TI} {xs : List γ} {j : Nat} {Γ : List (Option Cell)} (s : Slots K B σ Γ) (y : γ → β) (h : ItD K wi σ B xs) (hz : xs.length ≤ 1000000)
    (ht : ∀ x ∈ xs, ∀ σ2 B1, Ex B B1 → Slots K B1 σ2 (cs (cw Γ [j]) j (ce x)) → Pe K te σ2 B1 (y x)) : Pe K (tLc wi (gName j) tYes te [j]) σ B (LL.mk (xs.map y)) := by
  have h0 := e_lcS (te := te) (g := gName j) (tt := tYes) (vs := [j]) (fun _ => true) y h hz fun x hx v B1 b1 hv => turn_name rfl (by rw [set_none_comm (List.mem_singleton.mpr rfl), wipe_wipe]) t_yes fun _ => ht x hx _ B1 b1 ((s.mono b1).turn hv)
  rw [List.filter_eq_self.mpr fun _ _ => rfl] at h0
  exact h0
/-! dict(pairs) -/
theorem DicTAt.find {α : Type} [Rep α] : ∀ {ks : List (List Key × V)} {d : List (List Str × α)}, DicTAt K H ks d → ∀ {k : List Str} {x : α}, (k, x) ∈ d → (d.map (·.1)).Nodup → ∃ v, valV ks (kT k) = some v ∧ Rep.at_ K H v x
  | _, _, .nil, k, x, h, _ => by cases h
  | _, _, .cons (a := p) (b := q) ⟨h1, h2⟩ t, k, x, h, nd => by
    obtain ⟨pk, pv⟩ := p
    obtain ⟨qk, qv⟩ := q
    simp only at h1 h2
    subst h1
    rw [List.map_cons, List.nodup_cons] at nd
    rcases List.mem_cons.mp h with e | h'
    · cases e
      exact ⟨pv, valV_pos rfl, h2⟩
    · obtain ⟨v, e1, e2⟩ := DicTAt.find t h' nd.2
      exact ⟨v, by rw [valV_neg (fun z => nd.1 (by rw [kT_inj z]; exact List.mem_map.mpr ⟨_, h', rfl⟩))]; exact e1, e2⟩
/-- [x] * int(c) -/
theorem e_rep1' {α : Type} [DecidableEq α] [Datum α] {x : α} {c : Bool} (h : Pe K te σ B x) (hb : Pe K tb σ B (if c then 1 else 0 : Int)) : Pe K (tOp (rMulU) (tLst (tCons te tNil)) tb) σ B (if c then [x] else []) := fun H e Q q =>
  h H e _ fun v B1 H1 u1 hv => ⟨by show 1 ≤ sizeLine; rw [sizeLine_eq]; decide, fun p hp => by
    have u := u1.then (o := .lst [v]) hp
    refine (hb.mono u.bb) _ u.bh (fun w H2 => rMulU (.ref p) w H2 Q) fun w B2 H2 u2 hw => ?_
    have e2 := at_int.mp hw
    subst e2
    have hp2 : H2 p = some (.lst [v]) := u2.bh _ _ (u2.bb _ _ upd_same)
    have hvx : Rep.at_ K B2 v x := Rep.mono ((Up.new (o := .lst [v]) u1.bh hp).bb.trans u2.bb) hv
    cases c with
    | false =>
      refine .inr ⟨p, 0, [v], rfl, rfl, hp2, by decide, by decide, by simp, fun p2 hn2 => ?_⟩
      have u3 := Up.new (o := .lst []) u2.bh hn2
      exact q _ _ _ ((u.trans u2).trans u3) (at_list.mpr ⟨p2, [], rfl, Evl.sq_of upd_same, .nil⟩)
    | true =>
      refine .inr ⟨p, 1, [v], rfl, rfl, hp2, by decide, by decide, by show 1 * 1 ≤ sizeLine; rw [sizeLine_eq]; decide, fun p2 hn2 => ?_⟩
      have u3 := Up.new (o := .lst [v]) u2.bh hn2
      exact q _ _ _ ((u.trans u2).trans u3) (at_list.mpr ⟨p2, [v], rfl, Evl.sq_of upd_same, .cons (Rep.mono u3.bb hvx) .nil⟩)⟩
end
end Ob
set_option Elab.async false
set_option linter.all false
set_option maxRecDepth 100000
set_option maxHeartbeats 4000000
/-! M10: section 3 of the proof: which state leads to which. Plain Lean. -/
namespace Ob
open PySem L2
open PySem.W (Datum Tup DatumOrd)
theorem Reach.symm {rv : Str → List Str} (sym : ∀ x y, y ∈ rv x ↔ x ∈ rv y) {sw : List Str} {x y : Str} (hx : x ∈ sw) (h : Reach rv sw x y) : Reach rv sw y x := by
  induction h with
  | refl => exact .refl
  | step h1 hz hs ih =>
    have h1s := h1.sw hx
    exact Reach.trans (.step .refl ((sym _ _).mp hz) h1s) ih
/-! ### pressable switches, obstacles -/
theorem Reach.mono {rv : Str → List Str} {sw sw' : List Str} (h : ∀ z ∈ sw, z ∈ sw') {x y : Str} (k : Reach rv sw x y) : Reach rv sw' x y := by
  induction k with
  | refl => exact .refl
  | step _ hz hs ih => exact .step ih hz (h _ hs)
end Ob
set_option Elab.async false
set_option linter.all false
set_option maxRecDepth 100000
set_option maxHeartbeats 4000000
/-! R1: with_some, allowed_of, pressable_in, pressable, obstacles, leads, look_way, needed. -/
set_option Elab.async false
set_option linter.all false
set_option maxRecDepth 100000
set_option maxHeartbeats 4000000
/-! R2: look_way (of a way that is free), needed. -/
set_option Elab.async false
set_option linter.all false
set_option maxRecDepth 100000
set_option maxHeartbeats 4000000
/-! M11: an order of presses exists where nothing bars the way; what a search reaches; the dark groups. Plain Lean. -/
namespace Ob
open PySem L2
open PySem.W (Datum Tup DatumOrd)
/-! ### how many states there can be -/
def subl : List Str → List (List Str)
  | [] => [[]]
  | x :: xs => subl xs ++ (subl xs).map (x :: ·)
theorem subl_len : ∀ xs : List Str, (subl xs).length = 2 ^ xs.length
  | [] => rfl
  | x :: xs => by
    unfold subl
    rw [List.length_append, List.length_map, subl_len xs, List.length_cons, Nat.pow_succ]
    omega
theorem mem_subl {st xs : List Str} (h : st.Sublist xs) : st ∈ subl xs := by
  induction h with
  | slnil => exact List.mem_singleton.mpr rfl
  | cons x _ ih => exact List.mem_append_left _ ih
  | cons_cons x _ ih => exact List.mem_append_right _ (List.mem_map.mpr ⟨_, ih, rfl⟩)
theorem asc_sub {st sw : List Str} (h1 : Asc st) (h2 : Asc sw) (h : ∀ x ∈ st, x ∈ sw) : st.Sublist sw := by
  have e : sw.filter (fun x => decide (x ∈ st)) = st := asc_ext (h2.sublist List.filter_sublist) h1 fun z => by
    rw [List.mem_filter]
    simp only [decide_eq_true_eq]
    exact ⟨fun k => k.2, fun k => ⟨h z k, k⟩⟩
  rw [← e]
  exact List.filter_sublist
theorem states_few {sw : List Str} (hs : Asc sw) {S : List (List Str)} (nd : S.Nodup) (h : ∀ st ∈ S, Asc st ∧ ∀ x ∈ st, x ∈ sw) : S.length ≤ 2 ^ sw.length := by
  rw [← subl_len]
  exact nd.length_le_of_subset fun st hst => mem_subl (asc_sub (h st hst).1 hs (h st hst).2)
end Ob
set_option Elab.async false
set_option linter.all false
set_option maxRecDepth 100000
set_option maxHeartbeats 4000000
/-! M13: an order by falling distance is an order of presses as section 3 wants it (for route). Plain Lean. -/
set_option Elab.async false
set_option linter.all false
set_option maxRecDepth 100000
set_option maxHeartbeats 4000000
/-! R3: distances, order_to, route. -/
set_option Elab.async false
set_option linter.all false
set_option maxRecDepth 100000
set_option maxHeartbeats 4000000
/-! M20: section 4 of the proof: which effects there are. Plain Lean. -/
set_option Elab.async false
set_option linter.all false
set_option maxRecDepth 100000
set_option maxHeartbeats 4000000
/-! U1a: split off U1: dicts read under a lock, k in d, sorted(d). -/
namespace Ob
open PySem L2
open Evl (Ex)
open PySem.W (Datum Tup DatumOrd)
section
variable {K : PySem.W.Frag} {W0 : List Addr} {B0 H0 : Hp} {os : List OC} {Γ : List (Option Cell)} {σ : L2.St} {B B' H B1 H1 : Hp} {te ta tb tc td tk tv : TE} {tt tt1 : TT} {D : Ends} {tu tw tz : TS}
theorem Slots.monoR (s : Slots K B σ Γ) (e : ExR B B') : Slots K B' σ Γ := by
  induction s with
  | nil => exact .nil
  | cons h t ih => exact .cons (fun d hd => by
      obtain ⟨v, h1, h2⟩ := h d hd
      exact ⟨v, h1, @Rep.monoR d.α d.inst _ _ _ _ _ e h2⟩) ih
end
end Ob
set_option Elab.async false
set_option linter.all false
set_option maxRecDepth 100000
set_option maxHeartbeats 4000000
/-! Sa: data of any kind; _law_same, _law_lists (defs that call themselves). -/
namespace Ob
open PySem L2
open Evl (Ex)
open PySem.W (Datum Tup DatumOrd)
/-- data of any kind -/
structure DD where
  d : PyData
instance : Rep DD := ⟨fun K H v x => Dq K H v x.d, fun e h => dq_monoR e _ _ h⟩
def DOk : Nat → PyData → Prop
  | _, .none => True
  | _, .bool _ => True
  | _, .int _ => True
  | _, .str _ => True
  | 0, .list _ => False
  | 0, .tuple _ => False
  | n + 1, .list xs => xs.length ≤ 1000000 ∧ ∀ x ∈ xs, DOk n x
  | n + 1, .tuple xs => xs.length ≤ 1000000 ∧ ∀ x ∈ xs, DOk n x
  | _, .dict _ => False
theorem DOk.up : ∀ {n : Nat} {d : PyData}, DOk n d → DOk (n + 1) d
  | _, .none, _ => trivial
  | _, .bool _, _ => trivial
  | _, .int _, _ => trivial
  | _, .str _, _ => trivial
  | n + 1, .list xs, h => ⟨h.1, fun x hx => DOk.up (h.2 x hx)⟩
  | n + 1, .tuple xs, h => ⟨h.1, fun x hx => DOk.up (h.2 x hx)⟩
  | 0, .dict _, h => h.elim
  | n + 1, .dict _, h => h.elim
section
variable {K : PySem.W.Frag} {σ : L2.St} {B H : Hp} {v : V} {te ta tb tc : TE} {tt : TT}
theorem e_dd {α : Type} [DecidableEq α] [Datum α] {x : α} (h : Pe K te σ B x) : Pe K te σ B (DD.mk (Datum.toD x)) := h
theorem dqAll_dd : ∀ {vs : List V} {ds : List PyData}, DqAll K H vs ds → AtAll K H vs (ds.map DD.mk)
  | _, [], h => by cases h; exact .nil
  | _, d :: ds, h => by
    cases h with
    | cons a b => exact .cons a (dqAll_dd b)
theorem dd_all : ∀ {vs : List V} {ds : List PyData}, AtAll K H vs (ds.map DD.mk) → DqAll K H vs ds
  | _, [], h => by
    have h' : AtAll K H _ [] := h
    cases h'
    exact .nil
  | _, d :: ds, h => by
    have h' : AtAll K H _ (DD.mk d :: ds.map DD.mk) := h
    cases h' with
    | cons a b => exact .cons a (dd_all b)
theorem ddL_sq {ds : List PyData} (h : Rep.at_ K H v (DD.mk (.list ds))) : Rep.at_ K H v (Sq.mk (ds.map DD.mk)) := by
  have h' : Dq K H v (.list ds) := h
  cases h' with
  | lst a b => exact ⟨_, _, rfl, .inl a, dqAll_dd b⟩
theorem ddT_sq {ds : List PyData} (h : Rep.at_ K H v (DD.mk (.tuple ds))) : Rep.at_ K H v (Sq.mk (ds.map DD.mk)) := by
  have h' : Dq K H v (.tuple ds) := h
  cases h' with
  | tup a b => exact ⟨_, _, rfl, .inr a, dqAll_dd b⟩
theorem ll_dd {ds : List PyData} (h : Rep.at_ K H v (LL.mk (ds.map DD.mk))) : Rep.at_ K H v (DD.mk (.list ds)) := by
  obtain ⟨a, vs, rfl, h1, h2⟩ := h
  exact Dq.lst h1 (dd_all h2)
theorem e_isiD {x : DD} {c : String} {b : Bool} (t : String) (h : Pe K te σ B x) (hk : kitB t c = some b) (ht : tyD x.d = t := by rfl) : Pe K (tCB (rIsi K) (tCons te (tCons (tC (.ty c)) tNil))) σ B b := fun H e Q q =>
  h H e _ fun v B1 H1 u hv => ⟨v, .ty c, _, _, b, rfl, .ty c, dp_ty (Dq.dp _ _ (dq_monoR (ExR.of u.bh) _ _ hv)), kit_ty (ht.symm ▸ hk), q _ B1 H1 u (at_bl.mpr rfl)⟩
theorem kit2 {t c1 c2 : String} {b1 b2 : Bool} (h1 : kitB t c1 = some b1) (h2 : kitB t c2 = some b2) : PySem.W.kitAny K (.type t) [.type c1, .type c2] = some (b1 || b2) := by
  refine kitAny_cons (b := b1) (kit_ty h1) (fun e => ?_) fun e => by rw [e]; rfl
  rw [e, Bool.false_or]
  exact kitAny_cons (b := b2) (kit_ty h2) (fun e => by rw [e]; rfl) fun e => e
theorem e_isi2 {x : DD} {c1 c2 : String} {b1 b2 : Bool} (t : String) (h : Pe K te σ B x) (h1 : kitB t c1 = some b1) (h2 : kitB t c2 = some b2) (ht : tyD x.d = t := by rfl) : Pe K (tCB (rIsiT K) (tCons te (tCons (tTup (tCons (tC (.ty c1)) (tCons (tC (.ty c2)) tNil))) tNil))) σ B (b1 || b2) := fun H e Q q =>
  h H e _ fun v B1 H1 u hv => ⟨by show 2 ≤ sizeLine; rw [sizeLine_eq]; decide, fun p hp => by
    have u2 := u.then (o := .tup [.ty c1, .ty c2]) hp
    have hv2 : Rep.at_ K _ v x := Rep.mono (Up.new (o := .tup [.ty c1, .ty c2]) u.bh hp).bb hv
    exact ⟨v, p, [.ty c1, .ty c2], _, [.type c1, .type c2], b1 || b2, rfl, upd_same, .cons (.ty c1) (.cons (.ty c2) .nil), dp_ty (Dq.dp _ _ (dq_monoR (ExR.of u2.bh) _ _ hv2)), kit2 (ht.symm ▸ h1) (ht.symm ▸ h2), q _ _ _ u2 (at_bl.mpr rfl)⟩⟩
theorem e_eqD {x y : DD} (ha : Pe K ta σ B x) (hb : Pe K tb σ B y) (px : x.d.plain = true) (py : y.d.plain = true) (hz : x.d.depth ≤ 64) : Pe K (tOp (rEqP K) ta tb) σ B (PyData.eqv x.d y.d) :=
  e_op ha hb (rd_val (.bl _) (fun _ => at_bl.mpr rfl) fun B H v w e h1 h2 Q q => ⟨x.d, y.d, Dq.dp _ _ (dq_monoR (ExR.of e) _ _ h1), Dq.dp _ _ (dq_monoR (ExR.of e) _ _ h2), px, py, hz, q⟩)
theorem e_isND {x : DD} (h : Pe K te σ B x) : Pe K (tOp rIsN te (tC .non)) σ B (decide (tyD x.d = "NoneType")) := fun H e Q q => h H e _ fun v B1 H1 u hv => by
  obtain ⟨d⟩ := x
  have hv' : Dq K B1 v d := hv
  unfold rIsN
  cases hv' <;> exact ⟨rfl, q _ B1 H1 u (at_bl.mpr (by rfl))⟩
theorem duo_new {α β : Type} [Rep α] [Rep β] {Hx H' : Hp} {T : Addr} {x y : V} {a : α} {b : β} {B1 : Hp} (hT : Hx T = none) (eH : H' = upd Hx T (.tup [x, y])) (hx : Rep.at_ K B1 x a) (hy : Rep.at_ K B1 y b) :
    ∀ B', Ex B1 B' → Ex B' Hx → ∃ B2, Up B' Hx B2 H' ∧ Rep.at_ K B2 (.ref T) (Duo.mk a b) := fun B' b1 b2 => by
  subst eH
  have u := Up.new (o := .tup [x, y]) b2 hT
  exact ⟨_, u, T, x, y, rfl, upd_same, Rep.mono (b1.trans u.bb) hx, Rep.mono (b1.trans u.bb) hy⟩
def zd (ds : List PyData) : List (Duo DD DD) := ds.map fun d => Duo.mk (DD.mk d) (DD.mk d)
theorem zd_get {ds : List PyData} {i : Nat} {x y : DD} (h1 : (ds.map DD.mk)[i]? = some x) (h2 : (ds.map DD.mk)[i]? = some y) : (zd ds)[i]? = some (Duo.mk x y) := by
  rw [h1] at h2
  cases h2
  rw [List.getElem?_map] at h1
  obtain ⟨d, hd, rfl⟩ := Option.map_eq_some_iff.mp h1
  unfold zd
  rw [List.getElem?_map, hd]
  rfl
theorem it_zipDL {ds : List PyData} (h : Pe K ta σ B (DD.mk (.list ds))) (h2 : Pe K tb σ B (DD.mk (.list ds))) : ItD K (RZ.iZipA K (tCons ta (tCons tb tNil))) σ B (zd ds) := fun H e R q => h.both h2 e fun v w B1 H1 u hv hw => by
  cases (show Dq K B1 v (.list ds) from hv) with
  | @lst a vs _ hs hx0 =>
    cases (show Dq K B1 w (.list ds) from hw) with
    | @lst b ws _ hs2 hy0 =>
      have hx := dqAll_dd hx0
      have hy := dqAll_dd hy0
      refine ⟨a, b, vs, ws, rfl, .inl ⟨Evl.ex_l u.bh hs, Evl.ex_l u.bh hs2, ?_⟩⟩
      refine q (Itz K a b) B1 H1 (fun H => SqL K H a vs ∧ SqL K H b ws) (YPair (fun i => vs[i]?) (fun i => ws[i]?)) u (walk_zip ?_) (fun H' e' => ⟨Evl.ex_l e' hs, Evl.ex_l e' hs2⟩) fun i x Hx H' hi ex y => ?_
      · have l1 := hx.length
        have l2 := hy.length
        unfold zd
        rw [List.length_map] at l1 l2 ⊢
        omega
      · obtain ⟨T, x1, y1, rfl, hT, eH, e1, e2⟩ := y
        obtain ⟨d, hd, hxd⟩ := AtAll.get' hx e1
        obtain ⟨d2, hd2, hyd⟩ := AtAll.get' hy e2
        exact ⟨Duo.mk d d2, zd_get hd hd2, duo_new hT eH hxd hyd⟩
theorem it_zipDT {ds : List PyData} (h : Pe K ta σ B (DD.mk (.tuple ds))) (h2 : Pe K tb σ B (DD.mk (.tuple ds))) : ItD K (RZ.iZipA K (tCons ta (tCons tb tNil))) σ B (zd ds) := fun H e R q => h.both h2 e fun v w B1 H1 u hv hw => by
  cases (show Dq K B1 v (.tuple ds) from hv) with
  | @tup a vs _ hs hx0 =>
    cases (show Dq K B1 w (.tuple ds) from hw) with
    | @tup b ws _ hs2 hy0 =>
      have hx := dqAll_dd hx0
      have hy := dqAll_dd hy0
      refine ⟨a, b, vs, ws, rfl, .inr ⟨ex_tx u.bh hs, ex_tx u.bh hs2, ?_⟩⟩
      refine q (RZ.ItzT K a b) B1 H1 (fun H => SqT K H a vs ∧ SqT K H b ws) (YPair (fun i => vs[i]?) (fun i => ws[i]?)) u (walk_zipT ?_) (fun H' e' => ⟨ex_tx e' hs, ex_tx e' hs2⟩) fun i x Hx H' hi ex y => ?_
      · have l1 := hx.length
        have l2 := hy.length
        unfold zd
        rw [List.length_map] at l1 l2 ⊢
        omega
      · obtain ⟨T, x1, y1, rfl, hT, eH, e1, e2⟩ := y
        obtain ⟨d, hd, hxd⟩ := AtAll.get' hx e1
        obtain ⟨d2, hd2, hyd⟩ := AtAll.get' hy e2
        exact ⟨Duo.mk d d2, zd_get hd hd2, duo_new hT eH hxd hyd⟩
theorem turn_duo {α β γ : Type} [Rep α] [Rep β] [Rep γ] {vs : List Nat} {b : Bool} {r : γ} {i j : Nat} {p : Duo α β} (hp : Rep.at_ K B v p)
    (h : ∀ v1 v2, Rep.at_ K B v1 p.a → Rep.at_ K B v2 p.b → wipe (((wipe σ vs).set i (some v1)).set j (some v2)) vs = wipe σ vs ∧ Pt tt (((wipe σ vs).set i (some v1)).set j (some v2)) B b ∧ (b = true → Pe K te (((wipe σ vs).set i (some v1)).set j (some v2)) B r)) :
    TurnD K (gUnp K 2 (gCons (gName i) (gCons (gName j) gNil))) tt te vs σ B v b r := by
  obtain ⟨a, v1, v2, rfl, hs, h1, h2⟩ := hp
  obtain ⟨hw, ht, he⟩ := h v1 v2 h1 h2
  exact ⟨_, fun H Q e q => .inl ⟨a, [v1, v2], rfl, ex_tx e hs, rfl, v1, [v2], rfl, v2, [], rfl, rfl, q⟩, hw, ht, he⟩
end
section
variable {K : PySem.W.Frag} {W0 : List Addr} {B0 H0 : Hp} {os : List OC} {Γ : List (Option Cell)} {σ : L2.St} {B H : Hp} {tt : TT} {D : Ends} {tu tz : TS}
/-- if ..: a suite that returns; the test is true -/
theorem St.yes (s : St K W0 B0 H0 os Γ σ B H) (h : Pt tt σ B true) (k : ∀ B1 H1, St K W0 B0 H0 os Γ σ B1 H1 → tu { D with nx := tz D } σ H1) : tSeq (tIfS tt tu tNext) tz D σ H := h H s.bh (fun b H1 => if b = true then tu { D with nx := tz D } σ H1 else tNext { D with nx := tz D } σ H1) fun B1 H1 u => k B1 H1 (s.up u)
end
section
variable {K : PySem.W.Frag}
def spOf_Lsame (K : PySem.W.Frag) : Nat → Sp
  | 0 => fun _ _ _ _ => False
  | n + 1 => Fn2 K (fun (a b : DD) => a = b ∧ DOk n a.d) (fun _ _ => true)
abbrev sp_Lsame (K : PySem.W.Frag) : Sp := Fn2 K (fun (a b : DD) => a = b ∧ DOk 5 a.d) (fun _ _ => true)
def N_Lsame : List Str := ["_law_told", "_law_due", "_law_mine", "_law_its"]
def t_Lsame (K : PySem.W.Frag) (sp_Lsame : PySem.W.Frag → Sp) : TS :=
  (tSeq (tIfS (tB (tCB (rIsiT K) (tCons (tVar 1) (tCons (tTup (tCons (tC (.ty "list")) (tCons (tC (.ty "tuple")) tNil))) tNil)))) (tSeq (tIfS (tOr (tTest (tOp (rNeP K) (tCB (rIsi K) (tCons (tVar 0) (tCons (tC (.ty "list")) tNil))) (tCB (rIsi K) (tCons (tVar 1) (tCons (tC (.ty "list")) tNil))))) (tTest (tOp (rNeP K) (tCB (rIsi K) (tCons (tVar 0) (tCons (tC (.ty "tuple")) tNil))) (tCB (rIsi K) (tCons (tVar 1) (tCons (tC (.ty "tuple")) tNil)))))) (tRet (tC (.bl false))) tNext)
    (tRet (tAndV (tOp (rEqP K) (tCB (rLenU K) (tCons (tVar 0) tNil)) (tCB (rLenU K) (tCons (tVar 1) tNil))) (tCB (rAll K) (tCons (tLc (RZ.iZipA K (tCons (tVar 0) (tCons (tVar 1) tNil))) (gUnp K 2 (gCons (gName 2) (gCons (gName 3) gNil))) tYes (tCall (sp_Lsame K) [] E0 (tCons (tVar 2) (tCons (tVar 3) tNil))) [2, 3]) tNil))))) tNext)
    (tSeq (tIfS (tOr (tTest (tOp (rIsN) (tVar 1) (tC .non))) (tB (tCB (rIsiT K) (tCons (tVar 1) (tCons (tTup (tCons (tC (.ty "bool")) (tCons (tC (.ty "str")) tNil))) tNil))))) (tRet (tAndV (tOp (rEqP K) (tVar 0) (tVar 1)) (tAndV (tOp (rEqP K) (tCB (rIsi K) (tCons (tVar 0) (tCons (tC (.ty "bool")) tNil))) (tCB (rIsi K) (tCons (tVar 1) (tCons (tC (.ty "bool")) tNil)))) (tOp (rEqP K) (tOp (rIsN) (tVar 0) (tC .non)) (tOp (rIsN) (tVar 1) (tC .non)))))) tNext)
    (tRet (tAndV (tCB (rIsi K) (tCons (tVar 0) (tCons (tC (.ty "int")) tNil))) (tAndV (tNotV (tCB (rIsi K) (tCons (tVar 0) (tCons (tC (.ty "bool")) tNil)))) (tOp (rEqP K) (tVar 0) (tVar 1)))))))
theorem lOf_Lsame {n : Nat} (vs : List V) (H : Hp) (Q : VK) (E : XK) (h : spOf_Lsame K n vs H Q E) : vs.length = 2 := by
  cases n with
  | zero => exact h.elim
  | succ n => exact Fn2.len vs H Q E h
theorem r_Lsame (n : Nat) (vs : List V) (H : Hp) (Q : VK) (E : XK) (h : spOf_Lsame K (n + 1) vs H Q E) : t_Lsame K (fun K => spOf_Lsame K n) (Ends.ret Q) (start N_Lsame vs) H := by
  obtain ⟨a, b, B, ⟨rfl, hd⟩, s, q⟩ := Fn2.st (E := E) h N_Lsame
  obtain ⟨d⟩ := a
  replace s : St K [] B H [] [ce (DD.mk d), ce (DD.mk d), none, none] _ B H := s
  have fin : ∀ v B2 H2, Up B H B2 H2 → Rep.at_ K B2 v true → Q v H2 := q
  cases d with
  | none =>
    refine s.no (t_B (e_isi2 "NoneType" (b1 := false) (b2 := false) (s.v 1 rfl) (by decide +kernel) (by decide +kernel))) fun B1 H1 s1 => ?_
    refine s1.yes ((t_or (a := true) (b := false) (t_test ((e_isND (s1.v (x := DD.mk .none) 1 rfl)).is rfl)) fun h => by cases h).is rfl) fun B2 H2 s2 => ?_
    refine s2.ret (x := true) ((e_andV (a := true) (b := true) ((e_eqD (s2.v (x := DD.mk .none) 0 rfl) (s2.v (x := DD.mk .none) 1 rfl) rfl rfl (by simp [PyData.depth])).is rfl) fun _ => e_andV (a := true) (b := true) ((e_eq (e_isiD "NoneType" (b := false) (s2.v (x := DD.mk .none) 0 rfl) (by decide +kernel)) (e_isiD "NoneType" (b := false) (s2.v (x := DD.mk .none) 1 rfl) (by decide +kernel))).is rfl) fun _ => (e_eq (e_isND (s2.v (x := DD.mk .none) 0 rfl)) (e_isND (s2.v (x := DD.mk .none) 1 rfl))).is (decide_eq_true rfl)).is rfl) fun v B3 H3 s3 hv => q v B3 H3 s3.toUp hv
  | bool c =>
    refine s.no (t_B (e_isi2 "bool" (b1 := false) (b2 := false) (s.v 1 rfl) (by decide +kernel) (by decide +kernel))) fun B1 H1 s1 => ?_
    refine s1.yes ((t_or (a := false) (b := true) (t_test ((e_isND (s1.v (x := DD.mk (.bool c)) 1 rfl)).is rfl)) fun _ => t_B (e_isi2 "bool" (b1 := true) (b2 := false) (s1.v (x := DD.mk (.bool c)) 1 rfl) (by decide +kernel) (by decide +kernel))).is rfl) fun B2 H2 s2 => ?_
    refine s2.ret (x := true) ((e_andV (a := true) (b := true) ((e_eqD (s2.v (x := DD.mk (.bool c)) 0 rfl) (s2.v (x := DD.mk (.bool c)) 1 rfl) rfl rfl (by simp [PyData.depth])).is (by show (c == c) = true; simp)) fun _ => e_andV (a := true) (b := true) ((e_eq (e_isiD "bool" (b := true) (s2.v (x := DD.mk (.bool c)) 0 rfl) (by decide +kernel)) (e_isiD "bool" (b := true) (s2.v (x := DD.mk (.bool c)) 1 rfl) (by decide +kernel))).is rfl) fun _ => (e_eq (e_isND (s2.v (x := DD.mk (.bool c)) 0 rfl)) (e_isND (s2.v (x := DD.mk (.bool c)) 1 rfl))).is (decide_eq_true rfl)).is rfl) fun v B3 H3 s3 hv => q v B3 H3 s3.toUp hv
  | str c =>
    refine s.no (t_B (e_isi2 "str" (b1 := false) (b2 := false) (s.v 1 rfl) (by decide +kernel) (by decide +kernel))) fun B1 H1 s1 => ?_
    refine s1.yes ((t_or (a := false) (b := true) (t_test ((e_isND (s1.v (x := DD.mk (.str c)) 1 rfl)).is rfl)) fun _ => t_B (e_isi2 "str" (b1 := false) (b2 := true) (s1.v (x := DD.mk (.str c)) 1 rfl) (by decide +kernel) (by decide +kernel))).is rfl) fun B2 H2 s2 => ?_
    refine s2.ret (x := true) ((e_andV (a := true) (b := true) ((e_eqD (s2.v (x := DD.mk (.str c)) 0 rfl) (s2.v (x := DD.mk (.str c)) 1 rfl) rfl rfl (by simp [PyData.depth])).is (by show (c == c) = true; simp)) fun _ => e_andV (a := true) (b := true) ((e_eq (e_isiD "str" (b := false) (s2.v (x := DD.mk (.str c)) 0 rfl) (by decide +kernel)) (e_isiD "str" (b := false) (s2.v (x := DD.mk (.str c)) 1 rfl) (by decide +kernel))).is rfl) fun _ => (e_eq (e_isND (s2.v (x := DD.mk (.str c)) 0 rfl)) (e_isND (s2.v (x := DD.mk (.str c)) 1 rfl))).is (decide_eq_true rfl)).is rfl) fun v B3 H3 s3 hv => q v B3 H3 s3.toUp hv
  | int c =>
    refine s.no (t_B (e_isi2 "int" (b1 := false) (b2 := false) (s.v 1 rfl) (by decide +kernel) (by decide +kernel))) fun B1 H1 s1 => ?_
    refine s1.no ((t_or (a := false) (b := false) (t_test ((e_isND (s1.v (x := DD.mk (.int c)) 1 rfl)).is rfl)) fun _ => t_B (e_isi2 "int" (b1 := false) (b2 := false) (s1.v (x := DD.mk (.int c)) 1 rfl) (by decide +kernel) (by decide +kernel))).is rfl) fun B2 H2 s2 => ?_
    refine s2.ret (x := true) ((e_andV (a := true) (b := true) (e_isiD "int" (b := true) (s2.v (x := DD.mk (.int c)) 0 rfl) (by decide +kernel)) fun _ => e_andV (a := true) (b := true) ((e_notV (e_isiD "int" (b := false) (s2.v (x := DD.mk (.int c)) 0 rfl) (by decide +kernel))).is rfl) fun _ => (e_eqD (s2.v (x := DD.mk (.int c)) 0 rfl) (s2.v (x := DD.mk (.int c)) 1 rfl) rfl rfl (by simp [PyData.depth])).is (by show (c == c) = true; simp)).is rfl) fun v B3 H3 s3 hv => q v B3 H3 s3.toUp hv
  | dict c => cases n <;> exact hd.elim
  | list ds =>
    cases n with
    | zero => exact hd.elim
    | succ n =>
      obtain ⟨z, hd⟩ := hd
      refine s.yes (t_B (e_isi2 "list" (b1 := true) (b2 := false) (s.v 1 rfl) (by decide +kernel) (by decide +kernel))) fun B1 H1 s1 => ?_
      refine s1.no (t_or (a := false) (b := false) (t_test ((e_ne (e_isiD "list" (b := true) (s1.v (x := DD.mk (.list ds)) 0 rfl) (by decide +kernel)) (e_isiD "list" (b := true) (s1.v (x := DD.mk (.list ds)) 1 rfl) (by decide +kernel))).is rfl)) fun _ => t_test ((e_ne (e_isiD "list" (b := false) (s1.v (x := DD.mk (.list ds)) 0 rfl) (by decide +kernel)) (e_isiD "list" (b := false) (s1.v (x := DD.mk (.list ds)) 1 rfl) (by decide +kernel))).is rfl)) fun B2 H2 s2 => ?_
      refine s2.ret (x := true) ((e_andV (a := true) (b := true) ((e_eq (e_lenSq (xs := ds.map DD.mk) ((s2.v (x := DD.mk (.list ds)) 0 rfl).imp ddL_sq)) (e_lenSq (xs := ds.map DD.mk) ((s2.v (x := DD.mk (.list ds)) 1 rfl).imp ddL_sq))).is (decide_eq_true rfl)) fun _ => (e_all (e_lc (fun _ => true) (fun _ : Duo DD DD => true) (it_zipDL (s2.v (x := DD.mk (.list ds)) 0 rfl) (s2.v (x := DD.mk (.list ds)) 1 rfl)) (by unfold zd; rw [List.length_map]; exact z) fun x hx v B3 b3 hv => turn_duo hv fun v1 v2 k1 k2 => ?_)).is ?_).is rfl) fun v B3 H3 s3 hv => q v B3 H3 s3.toUp hv
      · obtain ⟨d, hdm, rfl⟩ := List.mem_map.mp hx
        refine ⟨by rw [set_none_comm (by simp), set_none_comm (by simp), wipe_wipe], t_yes, fun _ => ?_⟩
        have sl := (((s2.sl.mono b3).wipe [2, 3]).set 2 k1).set 3 k2
        exact e_call2 (pre := fun (a b : DD) => a = b ∧ DOk n a.d) (f := fun _ _ => true) (x := DD.mk d) (y := DD.mk d) (sl.v 2 rfl) (sl.v 3 rfl) ⟨rfl, hd d hdm⟩
      · rw [List.all_map, List.all_eq_true]
        exact fun _ _ => rfl
  | tuple ds =>
    cases n with
    | zero => exact hd.elim
    | succ n =>
      obtain ⟨z, hd⟩ := hd
      refine s.yes (t_B (e_isi2 "tuple" (b1 := false) (b2 := true) (s.v 1 rfl) (by decide +kernel) (by decide +kernel))) fun B1 H1 s1 => ?_
      refine s1.no (t_or (a := false) (b := false) (t_test ((e_ne (e_isiD "tuple" (b := false) (s1.v (x := DD.mk (.tuple ds)) 0 rfl) (by decide +kernel)) (e_isiD "tuple" (b := false) (s1.v (x := DD.mk (.tuple ds)) 1 rfl) (by decide +kernel))).is rfl)) fun _ => t_test ((e_ne (e_isiD "tuple" (b := true) (s1.v (x := DD.mk (.tuple ds)) 0 rfl) (by decide +kernel)) (e_isiD "tuple" (b := true) (s1.v (x := DD.mk (.tuple ds)) 1 rfl) (by decide +kernel))).is rfl)) fun B2 H2 s2 => ?_
      refine s2.ret (x := true) ((e_andV (a := true) (b := true) ((e_eq (e_lenSq (xs := ds.map DD.mk) ((s2.v (x := DD.mk (.tuple ds)) 0 rfl).imp ddT_sq)) (e_lenSq (xs := ds.map DD.mk) ((s2.v (x := DD.mk (.tuple ds)) 1 rfl).imp ddT_sq))).is (decide_eq_true rfl)) fun _ => (e_all (e_lc (fun _ => true) (fun _ : Duo DD DD => true) (it_zipDT (s2.v (x := DD.mk (.tuple ds)) 0 rfl) (s2.v (x := DD.mk (.tuple ds)) 1 rfl)) (by unfold zd; rw [List.length_map]; exact z) fun x hx v B3 b3 hv => turn_duo hv fun v1 v2 k1 k2 => ?_)).is ?_).is rfl) fun v B3 H3 s3 hv => q v B3 H3 s3.toUp hv
      · obtain ⟨d, hdm, rfl⟩ := List.mem_map.mp hx
        refine ⟨by rw [set_none_comm (by simp), set_none_comm (by simp), wipe_wipe], t_yes, fun _ => ?_⟩
        have sl := (((s2.sl.mono b3).wipe [2, 3]).set 2 k1).set 3 k2
        exact e_call2 (pre := fun (a b : DD) => a = b ∧ DOk n a.d) (f := fun _ _ => true) (x := DD.mk d) (y := DD.mk d) (sl.v 2 rfl) (sl.v 3 rfl) ⟨rfl, hd d hdm⟩
      · rw [List.all_map, List.all_eq_true]
        exact fun _ _ => rfl
end
end Ob
set_option Elab.async false
set_option linter.all false
set_option maxRecDepth 100000
set_option maxHeartbeats 4000000
/-! Sl: _law_lists. -/
namespace Ob
open PySem L2
open Evl (Ex)
open PySem.W (Datum Tup DatumOrd)
/-- with lists in place of tuples -/
def listyN : Nat → PyData → PyData
  | n + 1, .list xs => .list (xs.map (listyN n))
  | n + 1, .tuple xs => .list (xs.map (listyN n))
  | _, d => d
section
variable {K : PySem.W.Frag}
def spOf_Llists (K : PySem.W.Frag) : Nat → Sp
  | 0 => fun _ _ _ _ => False
  | n + 1 => Fn1 K (fun a : DD => DOk n a.d) (fun a => DD.mk (listyN n a.d))
abbrev sp_Llists (K : PySem.W.Frag) : Sp := Fn1 K (fun a : DD => DOk 5 a.d) (fun a => DD.mk (listyN 5 a.d))
def N_Llists : List Str := ["_law_matter", "_law_part"]
def t_Llists (K : PySem.W.Frag) (sp_Llists : PySem.W.Frag → Sp) : TS :=
  (tRet (tIf (tB (tCB (rIsiT K) (tCons (tVar 0) (tCons (tTup (tCons (tC (.ty "list")) (tCons (tC (.ty "tuple")) tNil))) tNil)))) (tLc (iSeq K (tVar 0)) (gName 1) tYes (tCall (sp_Llists K) [] E0 (tCons (tVar 1) tNil)) [1]) (tVar 0)))
theorem lOf_Llists {n : Nat} (vs : List V) (H : Hp) (Q : VK) (E : XK) (h : spOf_Llists K n vs H Q E) : vs.length = 1 := by
  cases n with
  | zero => exact h.elim
  | succ n => exact Fn1.len vs H Q E h
theorem r_Llists (n : Nat) (vs : List V) (H : Hp) (Q : VK) (E : XK) (h : spOf_Llists K (n + 1) vs H Q E) : t_Llists K (fun K => spOf_Llists K n) (Ends.ret Q) (start N_Llists vs) H := by
  obtain ⟨a, B, hd, s, q⟩ := Fn1.st (E := E) h N_Llists
  obtain ⟨d⟩ := a
  replace s : St K [] B H [] [ce (DD.mk d), none] _ B H := s
  have leaf : ∀ t : String, tyD d = t → kitB t "list" = some false → kitB t "tuple" = some false → listyN n d = d → t_Llists K (fun K => spOf_Llists K n) (Ends.ret Q) (start N_Llists vs) H := fun t ht h1 h2 hl => by
    refine s.ret (x := DD.mk d) (e_if (b := false) ((t_B (e_isi2 t (s.v 0 rfl) h1 h2 ht)).is rfl) (fun h => by cases h) fun _ => s.v 0 rfl) fun v B1 H1 s1 hv => q v B1 H1 s1.toUp ?_
    show Rep.at_ K B1 v (DD.mk (listyN n d))
    rw [hl]
    exact hv
  cases d with
  | none => exact leaf "NoneType" rfl (by decide +kernel) (by decide +kernel) (by cases n <;> rfl)
  | bool c => exact leaf "bool" rfl (by decide +kernel) (by decide +kernel) (by cases n <;> rfl)
  | str c => exact leaf "str" rfl (by decide +kernel) (by decide +kernel) (by cases n <;> rfl)
  | int c => exact leaf "int" rfl (by decide +kernel) (by decide +kernel) (by cases n <;> rfl)
  | dict c => cases n <;> exact hd.elim
  | list ds =>
    cases n with
    | zero => exact hd.elim
    | succ n =>
      obtain ⟨z, hd⟩ := hd
      refine s.ret (x := DD.mk (.list (ds.map (listyN n)))) (e_if (b := true) ((t_B (e_isi2 (b1 := true) (b2 := false) "list" (s.v 0 rfl) (by decide +kernel) (by decide +kernel))).is rfl) (fun _ => ?_) fun h => by cases h) fun v B1 H1 s1 hv => q v B1 H1 s1.toUp hv
      have h0 := s.sl.lcAS (te := tCall (spOf_Llists K (n + 1)) [] E0 (tCons (tVar 1) tNil)) (j := 1) (fun x : DD => DD.mk (listyN n x.d)) (it_sq ((s.v (x := DD.mk (.list ds)) 0 rfl).imp ddL_sq)) (by rw [List.length_map]; exact z) fun x hx σ2 B2 b2 s2 => e_call1 (pre := fun a : DD => DOk n a.d) (f := fun a => DD.mk (listyN n a.d)) (s2.v (x := x) 1 rfl) (by
        obtain ⟨d, hdm, rfl⟩ := List.mem_map.mp hx
        exact hd d hdm)
      rw [List.map_map] at h0
      refine h0.imp fun h => ll_dd ?_
      rw [List.map_map]
      exact h
  | tuple ds =>
    cases n with
    | zero => exact hd.elim
    | succ n =>
      obtain ⟨z, hd⟩ := hd
      refine s.ret (x := DD.mk (.list (ds.map (listyN n)))) (e_if (b := true) ((t_B (e_isi2 (b1 := false) (b2 := true) "tuple" (s.v 0 rfl) (by decide +kernel) (by decide +kernel))).is rfl) (fun _ => ?_) fun h => by cases h) fun v B1 H1 s1 hv => q v B1 H1 s1.toUp hv
      have h0 := s.sl.lcAS (te := tCall (spOf_Llists K (n + 1)) [] E0 (tCons (tVar 1) tNil)) (j := 1) (fun x : DD => DD.mk (listyN n x.d)) (it_sq ((s.v (x := DD.mk (.tuple ds)) 0 rfl).imp ddT_sq)) (by rw [List.length_map]; exact z) fun x hx σ2 B2 b2 s2 => e_call1 (pre := fun a : DD => DOk n a.d) (f := fun a => DD.mk (listyN n a.d)) (s2.v (x := x) 1 rfl) (by
        obtain ⟨d, hdm, rfl⟩ := List.mem_map.mp hx
        exact hd d hdm)
      rw [List.map_map] at h0
      refine h0.imp fun h => ll_dd ?_
      rw [List.map_map]
      exact h
/-! a panel as lists -/
theorem dd_strs {H : Hp} {v : V} : ∀ {vs : List V} {xs : List Str}, DqAll K H vs (xs.map fun x => .str x) → AtAll K H vs xs
  | _, [], h => by cases h; exact .nil
  | _, x :: xs, h => by
    cases h with
    | cons a b => exact .cons a (dd_strs (v := v) b)
end
end Ob
set_option Elab.async false
set_option linter.all false
set_option maxRecDepth 100000
set_option maxHeartbeats 4000000
/-! V0: a list that nobody else holds, given by a def; a list of two such, asked, then changed; a dict whose values are any things. -/
namespace Ob
open PySem L2
open Evl (Ex)
open PySem.W (Datum Tup DatumOrd)
section
variable {K : PySem.W.Frag} {W0 : List Addr} {B0 H0 : Hp} {os : List OC} {Γ : List (Option Cell)} {σ : L2.St} {B H B1 H1 : Hp} {te ta tb tc td tk tv : TE} {tt tt1 : TT} {D : Ends} {tu tw tz : TS} {C : Addr} {f : Str}
variable {α β γ δ ε : Type} [Rep α] [Rep β] [Rep γ] [Rep δ] [Rep ε] {vs : List V} {Q : VK} {E : XK}
/-- a reading gives a list that nobody else holds -/
def PeF (K : PySem.W.Frag) {α : Type} [Rep α] (te : TE) (σ : L2.St) (B : Hp) (xs : List α) : Prop := ∀ H, Ex B H → ∀ Q : VK, (∀ l us B1 H1, Up B H B1 H1 → B1 l = none → H l = none → H1 l = some (.lst us) → AtAll K B1 us xs → Q (.ref l) H1) → te σ H Q
theorem up_lst {l : Addr} {o : HO} (u : Up B H B1 H1) (hb : B1 l = none) (hh : H l = none) (hl : H1 l = some o) : Up B H (upd B1 l o) H1 :=
  ⟨u.bb.trans (Ex.new hb), ex_in u.bh hl, u.hh, fun a ha => by
    by_cases z : a = l
    · exact .inr (z ▸ hh)
    · rw [upd_ne z] at ha
      exact u.nw a ha⟩
theorem PeF.pe {α : Type} [DecidableEq α] [Datum α] {xs : List α} (h : PeF K te σ B xs) : Pe K te σ B xs := fun H e Q q => h H e Q fun l us B1 H1 u hb hh hl hA => q _ _ _ (up_lst u hb hh hl) (at_list.mpr ⟨l, us, rfl, Evl.sq_of upd_same, hA.mono (Ex.new hb)⟩)
def FnF3 (K : PySem.W.Frag) (pre : α → β → γ → Prop) (g : α → β → γ → List δ) : Sp := fun vs H Q _ => ∃ x y z B, Ex B H ∧ RCons K x (RCons K y (RCons K z RNil)) vs B ∧ pre x y z ∧ ∀ l us B2 H2, Up B H B2 H2 → B2 l = none → H l = none → H2 l = some (.lst us) → AtAll K B2 us (g x y z) → Q (.ref l) H2
theorem FnF3.len {pre : α → β → γ → Prop} {g : α → β → γ → List δ} (vs : List V) (H : Hp) (Q : VK) (E : XK) (h : FnF3 K pre g vs H Q E) : vs.length = 3 := by
  obtain ⟨x, y, z, B, e, ⟨v, r, rfl, h1, v2, r2, rfl, h2, v3, r3, rfl, h3, rfl⟩, _⟩ := h
  rfl
variable {pre : α → β → γ → Prop} {g : α → β → γ → List δ} {bad : α → β → γ → ε → Prop}
theorem FnF3.st (h : FnF3 K pre g vs H Q E) (N : List Str) : ∃ x y z B, pre x y z ∧ St K [] B H [] ([ce x, ce y, ce z] ++ List.replicate (N.length - 3) none) (start N vs) B H ∧ ∀ (l : Addr) (os : List OC) (k : Nat) (Γ : List (Option Cell)) (σ : L2.St) (B2 H2 : Hp), os[k]? = some (lstC K l (g x y z)) → St K [] B H os Γ σ B2 H2 → Q (.ref l) H2 := by
  obtain ⟨x, y, z, B, e, ⟨v, _, rfl, h1, v2, _, rfl, h2, v3, _, rfl, h3, rfl⟩, hp, q⟩ := h
  refine ⟨x, y, z, B, hp, St.pure e (start_slots [v, v2, v3] [ce x, ce y, ce z] _ (.cons (At1.some h1) (.cons (At1.some h2) (.cons (At1.some h3) .nil)))), fun l os k Γ σ B2 H2 hk s => ?_⟩
  obtain ⟨g1, g2, ob, g3, us, rfl, g4⟩ := s.own _ (List.mem_of_getElem? hk)
  exact q l us B2 H2 s.toUp g1 (g2.resolve_left (by simp)) g3 g4
end
section
variable {K : PySem.W.Frag} {W0 : List Addr} {B0 H0 : Hp} {os : List OC} {Γ : List (Option Cell)} {σ : L2.St} {B H B1 H1 : Hp} {te ta tb tc td tk tv : TE} {tt tt1 : TT} {D : Ends} {tu tw tz : TS}
theorem up_chg {l : Addr} {o : HO} (e : Ex B H) (hh : H l = none) (u : Up B H B1 H1) : Up B H B (upd H1 l o) :=
  ⟨Ex.refl B, fun a x h => by
    have ha : a ≠ l := fun z => by rw [z] at h; rw [e _ _ h] at hh; cases hh
    rw [upd_ne ha]; exact u.hh a x (e a x h), fun a x h => by
    have ha : a ≠ l := fun z => by rw [z, hh] at h; cases h
    rw [upd_ne ha]; exact u.hh a x h, fun _ h => .inl h⟩
end
end Ob
set_option Elab.async false
set_option linter.all false
set_option maxRecDepth 100000
set_option maxHeartbeats 4000000
/-! V1: a dict with texts as keys that grows, its values any things. -/
namespace Ob
open PySem L2
open Evl (Ex)
open PySem.W (Datum Tup DatumOrd)
theorem dicAt_mono {K : PySem.W.Frag} {B B' : Hp} {α : Type} [Rep α] {ks : List (Key × V)} {d : List (Str × α)} (e : Ex B B') (h : DicAt K B ks d) : DicAt K B' ks d := Paired.mapP h fun _ _ h => ⟨h.1, Rep.mono e h.2⟩
def dkC (K : PySem.W.Frag) {α : Type} [Rep α] (l : Addr) (d : List (Str × α)) : OC := ⟨l, fun B o => ∃ ks, o = .dK ks ∧ DicAt K B ks d, fun e ⟨ks, h1, h2⟩ => ⟨ks, h1, dicAt_mono e h2⟩⟩
theorem dic_out {K : PySem.W.Frag} {B : Hp} {α : Type} [Rep α] {x : Str} : ∀ {ks : List (Key × V)} {d : List (Str × α)}, DicAt K B ks d → x ∉ d.map (·.1) → (ks.any fun kv => decide (kv.1 = .inr x)) = false
  | [], [], _, _ => rfl
  | (k, v) :: ks, (y, z) :: d, h, hn => by
    cases h with
    | cons a t =>
      rw [List.map_cons, List.mem_cons, not_or] at hn
      rw [List.any_cons, dic_out t hn.2, Bool.or_false, decide_eq_false_iff_not]
      intro e
      have a1 : k = .inr y := a.1
      have e1 : k = .inr x := e
      rw [a1] at e1
      cases e1
      exact hn.1 rfl
theorem dic_snoc {K : PySem.W.Frag} {B : Hp} {α : Type} [Rep α] {x : Str} {v : V} {y : α} (hv : Rep.at_ K B v y) : ∀ {ks : List (Key × V)} {d : List (Str × α)}, DicAt K B ks d → DicAt K B (ks ++ [(.inr x, v)]) (d ++ [(x, y)])
  | [], [], _ => .cons ⟨rfl, hv⟩ .nil
  | (k, w) :: ks, (z, u) :: d, h => by
    cases h with
    | cons a t => exact .cons a (dic_snoc hv t)
section
variable {K : PySem.W.Frag} {W0 : List Addr} {B0 H0 : Hp} {os : List OC} {Γ : List (Option Cell)} {σ : L2.St} {B H B1 H1 : Hp} {te ta tb tc td tk tv : TE} {tt tt1 : TT} {D : Ends} {tu tw tz : TS}
variable {α β : Type} [Rep α] [Rep β]
theorem St.dkv {k : Nat} {l : Addr} {d : List (Str × α)} (s : St K W0 B0 H0 os Γ σ B H) (h : os[k]? = some (dkC K l d)) : B l = none ∧ ∃ ks, H l = some (.dK ks) ∧ DicAt K B ks d := by
  obtain ⟨h1, _, x, h3, ks, rfl, h4⟩ := s.own _ (List.mem_of_getElem? h)
  exact ⟨h1, ks, h3, h4⟩
theorem St.putK {i j k : Nat} {l : Addr} {d : List (Str × α)} {x : Str} {y : α} (s : St K W0 B0 H0 os Γ σ B H) (h : os[k]? = some (dkC K l d)) (hi : cg Γ i = ca l) (hj : cg Γ j = ce x) (hy : Pe K te σ B y) (hn : x ∉ d.map (·.1)) (hz : d.length ≤ 1000000)
    (q : ∀ B1 H1, St K W0 B0 H0 (os.set k (dkC K l (d ++ [(x, y)]))) Γ σ B1 H1 → D.nx σ H1) : tAsg te (gSub (tVar i) (tVar j) rSetD) D σ H := hy H s.bh _ fun v B1 H1 u hv => by
  have s1 := s.up u
  obtain ⟨hb, ks, hl, hk⟩ := s1.dkv h
  obtain ⟨w, hw, hx⟩ := s1.sl.get hj
  have hx' : w = .str x := at_str.mp hx
  subst hx'
  have hkl : ks.length = d.length := hk.length
  refine ⟨_, s1.sl.rf i hi, ⟨_, hw, l, _, rfl, .inl ⟨ks, .inr x, hl, rfl, by rw [hkl, sizeLine_eq]; omega, rfl⟩, ?_⟩⟩
  refine q B1 _ (s1.chg (ob := .dK (L2.putK ks (.inr x) v)) h rfl ⟨_, rfl, ?_⟩)
  have hno := dic_out hk hn
  unfold L2.putK
  rw [hno, if_neg (by decide)]
  exact dic_snoc hv hk
end
end Ob
set_option Elab.async false
set_option linter.all false
set_option maxRecDepth 100000
set_option maxHeartbeats 2000000
/-! Lk: a for over a dict that stays, while other objects change; dicts that grow and count; d != {}. -/
namespace Ob
open PySem PySem.Spec PyProof.Rows L2
open Evl (Ex)
open PySem.W (Datum Tup DatumOrd)
/-- what an own object holds stays true when a dict is locked or unlocked -/
def RMono (o : OC) : Prop := ∀ {B B' : Hp} {ob : HO}, ExR B B' → o.P B ob → o.P B' ob
/-! ### d != {} -/
end Ob
set_option Elab.async false
set_option linter.all false
set_option maxRecDepth 100000
set_option maxHeartbeats 2000000
/-! Lk2: dicts with texts as keys that grow and count: {k: v}, k in d, d[k] = d.get(k, 0) + n. -/
set_option Elab.async false
set_option linter.all false
set_option maxRecDepth 100000
set_option maxHeartbeats 2000000
/-! Dj: dicts with tuples as keys, from the model up: sorted(d); d != {} (after the library's KE.KDictList, KE.KDictSum, KE.KEqDict). -/
namespace DjZ
open PySem PySem.Calls PyProof.Rows PyProof.V PySem.Spec PySem.W L2
section
variable {prog : Program} {w : World} {A : Around}
/-- a dict whose entries are these -/
def Ent (h : Heap) (d : Addr) (es : Array DictEntry) (ep : Nat) : Prop := ∃ o, h.get? d = some o ∧ o.ExactDict ∧ o.data = .dict es ep
theorem Ent.at {h h' : Heap} {d : Addr} {es : Array DictEntry} {ep : Nat} (x : Ent h d es ep) (e : ∀ o, h.get? d = some o → h'.get? d = some o) : Ent h' d es ep := let ⟨o, a, b⟩ := x; ⟨o, e o a, b⟩
theorem ent_walks (hh : A.handled = none) (I d : Addr) (hne : d ≠ I) (es : Array DictEntry) (ep : Nat) :
    Walks prog w A I [I, d] [I] es.size (fun i v => ∃ en, es[i]? = some en ∧ en.key = v) (fun i h => h.IsKeyIter I d i es.size ep ∧ Ent h d es ep) where
  sub := fun b hb => by simp at hb; simp [hb]
  frame := fun _ _ _ st hk => ⟨st.1.at fun o e => hk I (by simp) o e, st.2.at fun o e => hk d (by simp) o e⟩
  item := fun i s Q E hi st hQ => by
    obtain ⟨st1, o, ho, hx, hd⟩ := st
    refine next_key_item st1 ho hd rfl (Array.getElem?_eq_getElem hi) fun h' hit sb => ?_
    exact hQ _ h' s.toks ⟨es[i], Array.getElem?_eq_getElem hi, rfl⟩ ⟨hit, o, (sb.2 d hne).trans ho, hx, hd⟩ fun b o hb e => (sb.2 b (fun h => hb (by simp [h]))).trans e
  done := fun s Q E st hQ => by
    obtain ⟨st1, o, ho, hx, hd⟩ := st
    exact next_key_end hh st1 ho hd rfl (Nat.le_refl _) fun h' he' => hQ h' s.toks fun b o hb e => he' b o (fun h => hb (by simp [h])) e
  self := fun _ s Q E st hQ => wpAny_pyIter_keyiter st.1 hQ
theorem ent_src {d : Addr} {es : Array DictEntry} {ep : Nat} (lo : (d == sysModules) = false) : KdlSrc prog w "dict" d d es.size (fun i v => ∃ en, es[i]? = some en ∧ en.key = v) (fun h => Ent h d es ep) where
  type := fun _ ⟨o, ho, hx, _⟩ => ⟨o, ho, hx.1⟩
  there := fun _ ⟨o, ho, _⟩ => ⟨Heap.lt_size ho, Heap.lt_size ho⟩
  keep := fun _ _ x hk => x.at fun o e => hk d (.inl rfl) o e
  notList := by decide
  notTuple := by decide
  hint := fun _ _ _ _ ⟨o, ho, hx, _⟩ hq => kdl_hint_dict ⟨o, ho, hx.1⟩ hq
  iter := fun _ s hh ⟨o, ho, hx, hd⟩ => ⟨_, _, (fun _ _ hq => iter_keys lo ho hx hd hq), ent_walks hh _ d (Nat.ne_of_lt (Heap.lt_size ho)) es ep, ⟨⟨_, Heap.get?_push_size _ rfl, rfl, rfl⟩, o, Heap.get?_push_of_some _ ho, hx, hd⟩⟩
end
end DjZ
namespace Ob
open PySem PySem.Spec PyProof.Rows L2
open Evl (Ex)
open PySem.W (Datum Tup DatumOrd)
section
variable {X : Cx}
/-- the entries of a dict with tuples as keys -/
theorem ents_of {H : Hp} {h : Heap} {a : Addr} {kvs : List (List Key × V)} (ok : HOk X.prog X.w H h) (e : Rd H a (.dT kvs)) : kvs.length ≤ sizeLine ∧ (a == sysModules) = false ∧ ∃ o es ep, h.get? a = some o ∧ o.ExactDict ∧ o.data = .dict es ep ∧ es.size = kvs.length ∧
    ∀ (i : Nat) (k : List Key) (v : V), kvs[i]? = some (k, v) → ∃ (en : DictEntry) (q : Addr), es[i]? = some en ∧ en.key = .ref q ∧ H q = some (.tup (k.map kV)) ∧ RelV v en.val := by
  obtain ⟨z, lo, xs, rel, o, es, ep, h1, h2, h3, h4, h5, h6⟩ := dt_rd ok e
  refine ⟨z, lo, o, es, ep, h1, h2, h3, ?_, fun i k v hi => ?_⟩
  · have l1 : es.size = xs.length := by rw [← Array.length_toList, h4, List.length_map]
    rw [l1]
    exact (Paired.length rel).symm
  · have key : ∀ {kvs : List (List Key × V)} {xs : List (List Key × Addr × Value)}, KT H kvs xs → ∀ {i : Nat}, kvs[i]? = some (k, v) → ∃ x, xs[i]? = some x ∧ H x.2.1 = some (.tup (k.map kV)) ∧ RelV v x.2.2 := by
      intro kvs xs rel
      unfold KT at rel
      induction rel with
      | nil => intro i h; simp at h
      | @cons p x ps xs a t ih =>
        intro i h
        cases i with
        | zero =>
          have e' : p = (k, v) := by simpa using h
          subst e'
          exact ⟨x, rfl, a.2⟩
        | succ i =>
          obtain ⟨y, k1, k2⟩ := ih (i := i) (by simpa using h)
          exact ⟨y, by simpa using k1, k2⟩
    obtain ⟨x, k1, k2, k3⟩ := key rel hi
    refine ⟨entryOfKey (tupleKind (mixKind X.prog X.w)) x, x.2.1, ?_, rfl, k2, k3⟩
    rw [← Array.getElem?_toList, h4, List.getElem?_map, k1]
    rfl
/-- sorted(d), d a dict with tuples of texts as keys: the keys' own tuples, in ascending order -/
def rSortT : List V → Hp → VK → Prop := fun vs H Q => ∃ (a : Addr) (kvs : List (List Key × V)) (ks : List (List Str)), vs = [.ref a] ∧ Rd H a (.dT kvs) ∧ kvs.map (·.1) = ks.map kT ∧ ks.length ≤ 1000000 ∧
  ∀ (qs : List Addr) (p : Addr), Paired (fun (q : Addr) (z : Tup Str) => H q = some (.tup (z.items.map V.str))) qs (sortD (ks.map Tup.mk)) → H p = none → Q (.ref p) (upd H p (.lst (qs.map V.ref)))
theorem at_strs {K : PySem.W.Frag} {H : Hp} : ∀ xs : List Str, AtAll K H (xs.map V.str) xs
  | [] => .nil
  | _ :: xs => .cons (at_str.mpr rfl) (at_strs xs)
theorem vals_refs : ∀ qs : List Addr, Vals (qs.map V.ref) (qs.map Value.ref)
  | [] => .nil
  | _ :: qs => .cons rfl (vals_refs qs)
theorem each_refs {H : Hp} : ∀ {us : List Value} {zs : List (Tup Str)}, PySem.W.EachIs (fun u z => ∃ q : Addr, u = .ref q ∧ H q = some (.tup (z.items.map V.str))) us zs → ∃ qs : List Addr, us = qs.map Value.ref ∧ Paired (fun (q : Addr) (z : Tup Str) => H q = some (.tup (z.items.map V.str))) qs zs
  | _, _, .nil => ⟨[], rfl, .nil⟩
  | _, _, .cons ⟨q, e, h⟩ t => by
    obtain ⟨qs, e2, h2⟩ := each_refs t
    exact ⟨q :: qs, by rw [e, e2]; rfl, .cons h h2⟩
theorem call_sortT (hcalm : X.calm = true) (hu : X.A.units + 150 < cLine) : CallR X (.builtin "sorted") rSortT := by
  intro pins s σ H vs us Q I r h
  obtain ⟨a, kvs, ks, rfl, hd, hks, hz, q⟩ := h
  obtain ⟨u, rfl, rx⟩ := vals1 r
  cases rx
  obtain ⟨z, lo, o, es, ep, h1, h2, h3, h4, hent⟩ := ents_of I.hok hd
  have hlen : kvs.length = ks.length := by
    have := congrArg List.length hks
    rwa [List.length_map, List.length_map] at this
  refine Calls.call_function_entry kind_sorted plain_sorted entry_sorted (args_sorted1 _) ?_
  unfold Builtin.«sorted»
  refine wpAny_bind (m := checkCount "sorted" 1 1 _) (wpAny_pure ?_)
  refine wpAny_bind (PySem.W.kdu_collect (A := X.A.in1) (DjZ.ent_src lo) (I.ok.hd hcalm) ⟨o, h1, h2, h3⟩ (by rw [h4]; exact z) fun h' tk acc hk hacc => ?_)
  have hal : acc.toList.length = ks.length := by rw [Array.length_toList, hacc.1, h4, hlen]
  have hsl : acc.toList.length ≤ sizeLine := by rw [hal, ← hlen]; exact z
  refine wpAny_bind (wpAny_newList ?_ hsl)
  obtain ⟨zs, hzs⟩ : ∃ zs : List (Tup Str), zs = ks.map Tup.mk := ⟨_, rfl⟩
  have hzl : zs.length = ks.length := by rw [hzs, List.length_map]
  have hE : PySem.W.EachIs (fun u (z : Tup Str) => ∃ q : Addr, u = .ref q ∧ H q = some (.tup (z.items.map V.str))) acc.toList zs := by
    have key : ∀ (us : List Value) (zs : List (Tup Str)), us.length = zs.length → (∀ (j : Nat) (u : Value) (z : Tup Str), us[j]? = some u → zs[j]? = some z → ∃ q : Addr, u = .ref q ∧ H q = some (.tup (z.items.map V.str))) → PySem.W.EachIs (fun u (z : Tup Str) => ∃ q : Addr, u = .ref q ∧ H q = some (.tup (z.items.map V.str))) us zs := by
      intro us
      induction us with
      | nil => intro zs hl _; cases zs with
        | nil => exact .nil
        | cons => cases hl
      | cons u us ih => intro zs hl hj; cases zs with
        | nil => cases hl
        | cons z zs => exact .cons (hj 0 u z rfl rfl) (ih zs (Nat.succ.inj hl) fun j u' z' e1 e2 => hj (j + 1) u' z' (by simpa using e1) (by simpa using e2))
    refine key _ _ (by rw [hal, hzl]) fun j u z e1 e2 => ?_
    rw [hzs, List.getElem?_map] at e2
    obtain ⟨k, hk2, rfl⟩ := Option.map_eq_some_iff.mp e2
    obtain ⟨en, en1, en2⟩ := hacc.2 j u (by rw [← Array.getElem?_toList]; exact e1)
    have e3 : (kvs.map (·.1))[j]? = some (kT k) := by rw [hks, List.getElem?_map, hk2]; rfl
    rw [List.getElem?_map] at e3
    obtain ⟨⟨k', v⟩, e4, e5⟩ := Option.map_eq_some_iff.mp e3
    cases e5
    obtain ⟨en', q', f1, f2, f3, _⟩ := hent j _ v e4
    rw [f1] at en1
    cases en1
    refine ⟨q', by rw [← en2, f2], ?_⟩
    rw [f3]
    show some (HO.tup ((kT k).map kV)) = _
    rw [kT_map]
  have hR : PySem.W.EachIs (fun u (z : Tup Str) => ∃ as, Reads s.heap u (Datum.toD z) as) acc.toList zs := hE.mono fun u z ⟨q, e, hq⟩ => by
    rw [e]
    refine Dp.reads (X := X) I (Datum.toD z) (.ref q) (.ref q) (Dq.dp _ _ ?_) rfl
    exact (at_tup (K := X.K) (H := H)).mpr ⟨q, _, rfl, hq, at_strs z.items⟩
  have ho' : (h'.push (seqObj "list" acc.toList.toArray 0)).get? h'.objs.size = some (seqObj "list" acc.toList.toArray 0) := Heap.get?_push_size _ rfl
  have hal2 : PySem.W.AllAlike (zs.map (Datum.toD (α := Tup Str))) := PySem.W.AllAlike.of fun b b' => DatumOrd.alike b b'
  have kp : ∀ b o, s.heap.get? b = some o → (PySem.W.sortingHeap (h'.push (seqObj "list" acc.toList.toArray 0)) h'.objs.size acc.toList).get? b = some o := fun b o e => PySem.W.sortingHeap_old (Nat.ne_of_lt (Heap.lt_size (hk b o e))) (Heap.get?_push_of_some _ (hk b o e))
  have I1 : Inv X pins σ H { s with heap := h', toks := tk } := I.kept hk
  have hbd : ∀ b, b ∈ zs → X.A.units + 2 + (Datum.toD b).depth < cLine := fun b _ => by
    have h5 := Datum.depth_le b
    have h6 : Datum.depth (Tup Str) ≤ 64 := by decide
    omega
  refine wpAny_bind (wpAny_holding (wpAny_call_entry slot_list_sort ⟨_, ho', rfl⟩ entry_list_sort ?body (args_list_sort _)))
  case body =>
    show wpAny _ X.A.in1.in1 (Builtin.«list.sort» ⟨[.ref h'.objs.size], []⟩) _ _ _
    refine PySem.W.list_sort_vals (n := 0) (s := { s with heap := h'.push (seqObj "list" acc.toList.toArray 0), toks := tk }) ho' (sortsAt_any (PySem.W.each_map (R := fun v d => ∃ as, Reads (PySem.W.sortingHeap (h'.push (seqObj "list" acc.toList.toArray 0)) h'.objs.size acc.toList) v d as) Datum.toD (hR.mono fun u z ⟨as, r⟩ => ⟨as, PyProof.Rows.Reads.keeps kp r⟩)) hal2 (.inr (allTup_tup zs)) (PySem.W.bound_map hbd)) hsl ?_
    have hs := PySem.W.sortVals_data (h' := PySem.W.sortingHeap (h'.push (seqObj "list" acc.toList.toArray 0)) h'.objs.size acc.toList) (enc := Datum.toD (α := Tup Str)) false hE (hR.mono fun u z ⟨as, r⟩ => ⟨as, PyProof.Rows.Reads.keeps kp r⟩) hal2
    rw [dataLe_lt] at hs
    obtain ⟨qs, e1, e2⟩ := each_refs hs
    rw [e1]
    obtain ⟨en, hen⟩ := PyProof.Rows.sortedHeap_at (vs := acc.toList) (out := (qs.map Value.ref).toArray) ho'
    refine ⟨_, rfl, wpAny_pure ?_⟩
    have hql : qs.length = ks.length := by
      have := congrArg List.length e1
      rw [PySem.W.sortVals_length false rfl, hal, List.length_map] at this
      exact this.symm
    have kq : ∀ b o, h'.get? b = some o → (PyProof.Rows.sortedHeap (h'.push (seqObj "list" acc.toList.toArray 0)) h'.objs.size acc.toList (qs.map Value.ref).toArray).get? b = some o := fun b o e => by
      rw [PyProof.Rows.sortedHeap_old (Nat.ne_of_lt (Heap.lt_size e)) (by rw [size_push']; exact Nat.lt_succ_of_lt (Heap.lt_size e))]
      exact Heap.get?_push_of_some _ e
    exact ⟨_, rfl, .ref h'.objs.size, upd H h'.objs.size (.lst (qs.map V.ref)), I1.laid (t' := tk) kq (Nat.le_refl _) (show ObjOk X.prog X.w _ _ _ (.lst (qs.map V.ref)) from ⟨by rw [List.length_map, hql, ← hlen]; exact z, qs.map Value.ref, en, vals_refs qs, hen⟩), rfl, q qs _ (by rw [hzs] at e2; exact e2) (I1.hok.fresh (Nat.le_refl _))⟩
end
end Ob
set_option Elab.async false
set_option linter.all false
set_option maxRecDepth 100000
set_option maxHeartbeats 1000000
/-! M37: lists of pairs as dicts with keys of any kind; dicts that count. Plain. -/
namespace Ob
open PySem L2
section
variable {κ α : Type} [DecidableEq κ]
def lkG : List (κ × α) → κ → Option α
  | [], _ => none
  | p :: d, x => if p.1 = x then some p.2 else lkG d x
/-- in its place, or at the end -/
def putG (d : List (κ × α)) (x : κ) (y : α) : List (κ × α) := if x ∈ d.map (·.1) then d.map (fun p => if p.1 = x then (p.1, y) else p) else d ++ [(x, y)]
theorem putG_keys {d : List (κ × α)} {x : κ} {y : α} : (putG d x y).map (·.1) = if x ∈ d.map (·.1) then d.map (·.1) else d.map (·.1) ++ [x] := by
  unfold putG
  by_cases h : x ∈ d.map (·.1)
  · rw [if_pos h, if_pos h, List.map_map]
    refine List.map_congr_left fun p _ => ?_
    show (if p.1 = x then (p.1, y) else p).1 = p.1
    split <;> rfl
  · rw [if_neg h, if_neg h, List.map_append]
    rfl
theorem putG_nd {d : List (κ × α)} {x : κ} {y : α} (nd : (d.map (·.1)).Nodup) : ((putG d x y).map (·.1)).Nodup := by
  rw [putG_keys]
  split
  · exact nd
  · rename_i h
    exact List.nodup_append.mpr ⟨nd, List.nodup_cons.mpr ⟨fun h => (nomatch h), .nil⟩, fun a ha b hb e => h (by rw [List.mem_singleton.mp hb] at e; exact e ▸ ha)⟩
theorem putG_len {d : List (κ × α)} {x : κ} {y : α} : (putG d x y).length ≤ d.length + 1 := by
  unfold putG
  split
  · rw [List.length_map]; omega
  · rw [List.length_append, List.length_singleton]; exact Nat.le_refl _
theorem lkG_none {d : List (κ × α)} {x : κ} : lkG d x = none ↔ x ∉ d.map (·.1) := by
  induction d with
  | nil => exact ⟨fun _ h => (nomatch h), fun _ => rfl⟩
  | cons p d ih =>
    show (if p.1 = x then some p.2 else lkG d x) = none ↔ _
    rw [List.map_cons, List.mem_cons]
    by_cases e : p.1 = x
    · rw [if_pos e]
      exact ⟨fun h => (nomatch h), fun h => absurd (.inl e.symm) h⟩
    · rw [if_neg e, ih]
      exact ⟨fun h k => k.elim (fun z => e z.symm) h, fun h k => h (.inr k)⟩
theorem lkG_app {d e : List (κ × α)} {x : κ} : lkG (d ++ e) x = (lkG d x).or (lkG e x) := by
  induction d with
  | nil => rfl
  | cons p d ih =>
    show (if p.1 = x then some p.2 else lkG (d ++ e) x) = (if p.1 = x then some p.2 else lkG d x).or _
    by_cases h : p.1 = x
    · rw [if_pos h, if_pos h]; rfl
    · rw [if_neg h, if_neg h, ih]
theorem lkG_mem {d : List (κ × α)} (nd : (d.map (·.1)).Nodup) {x : κ} {v : α} : (x, v) ∈ d ↔ lkG d x = some v := by
  induction d with
  | nil => exact ⟨fun h => (nomatch h), fun h => (nomatch h)⟩
  | cons p d ih =>
    obtain ⟨a, w⟩ := p
    rw [List.map_cons, List.nodup_cons] at nd
    show _ ↔ (if a = x then some w else lkG d x) = some v
    rw [List.mem_cons]
    by_cases h : a = x
    · subst h
      rw [if_pos rfl]
      exact ⟨fun k => k.elim (fun e => by cases e; rfl) fun k => absurd (List.mem_map.mpr ⟨_, k, rfl⟩) nd.1, fun k => .inl (by cases k; rfl)⟩
    · rw [if_neg h, ← ih nd.2]
      exact ⟨fun k => k.elim (fun e => absurd (by cases e; rfl) h) id, .inr⟩
theorem lkG_put {d : List (κ × α)} {x z : κ} {y : α} : lkG (putG d x y) z = if z = x then some y else lkG d z := by
  unfold putG
  by_cases h : x ∈ d.map (·.1)
  · rw [if_pos h]
    have key : ∀ d : List (κ × α), lkG (d.map fun p => if p.1 = x then (p.1, y) else p) z = if z = x then (if x ∈ d.map (·.1) then some y else none) else lkG d z := fun d => by
      induction d with
      | nil => by_cases e : z = x <;> simp [e, lkG]
      | cons p d ih =>
        obtain ⟨a, w⟩ := p
        rw [List.map_cons]
        show (if (if a = x then (a, y) else (a, w)).1 = z then some (if a = x then (a, y) else (a, w)).2 else lkG (d.map _) z) = if z = x then _ else (if a = z then some w else lkG d z)
        rw [ih]
        by_cases ha : a = x
        · subst ha
          rw [if_pos rfl]
          by_cases e : z = a
          · subst e
            rw [if_pos rfl, if_pos rfl, if_pos (by simp)]
          · rw [if_neg (fun k => e k.symm), if_neg e, if_neg e, if_neg (fun k => e k.symm)]
        · rw [if_neg ha]
          by_cases e : z = x
          · subst e
            rw [if_neg ha, if_pos rfl, if_pos rfl, List.map_cons]
            by_cases k : z ∈ d.map (·.1)
            · rw [if_pos k, if_pos (List.mem_cons_of_mem _ k)]
            · rw [if_neg k, if_neg fun j => (List.mem_cons.mp j).elim (fun i => ha i.symm) k]
          · rw [if_neg e, if_neg e]
    rw [key, if_pos h]
  · rw [if_neg h, lkG_app]
    show (lkG d z).or (if x = z then some y else none) = _
    by_cases e : z = x
    · subst e
      rw [lkG_none.mpr h, if_pos rfl]
      rfl
    · rw [if_neg fun k => e k.symm, if_neg e]
      cases lkG d z <;> rfl
end
section
variable {κ : Type} [DecidableEq κ]
/-- how often -/
def mulG (zs : List κ) (x : κ) : Nat := (zs.filter fun z => decide (z = x)).length
def cntG (F : List κ) (v : Int) (d : List (κ × Int)) (z : κ) : List (κ × Int) := if z ∈ F then d else putG d z ((lkG d z).getD 0 + v)
def furG (F : List κ) (nb : κ → List κ) (d : List (κ × Int)) (L : List (κ × Int)) : List (κ × Int) := L.foldl (fun d yv => (nb yv.1).foldl (cntG F yv.2) d) d
theorem mulG_cons {z : κ} {zs : List κ} {x : κ} : mulG (z :: zs) x = (if z = x then 1 else 0) + mulG zs x := by
  unfold mulG
  rw [List.filter_cons]
  by_cases h : z = x
  · rw [if_pos (decide_eq_true h), if_pos h, List.length_cons]; omega
  · rw [if_neg (by simpa using h), if_neg h]; omega
theorem cntG_nd {F : List κ} {v : Int} : ∀ {zs : List κ} {d : List (κ × Int)}, (d.map (·.1)).Nodup → ((zs.foldl (cntG F v) d).map (·.1)).Nodup
  | [], _, h => h
  | a :: zs, d, h => by
    rw [List.foldl_cons]
    refine cntG_nd ?_
    unfold cntG
    split
    · exact h
    · exact putG_nd h
theorem furG_nd {F : List κ} {nb : κ → List κ} : ∀ {L d : List (κ × Int)}, (d.map (·.1)).Nodup → ((furG F nb d L).map (·.1)).Nodup
  | [], _, h => h
  | _ :: L, _, h => furG_nd (L := L) (cntG_nd h)
theorem cntG_len {F : List κ} {v : Int} : ∀ {zs : List κ} {d : List (κ × Int)}, (zs.foldl (cntG F v) d).length ≤ d.length + zs.length
  | [], _ => Nat.le_refl _
  | a :: zs, d => by
    rw [List.foldl_cons]
    refine Nat.le_trans cntG_len ?_
    have : (cntG F v d a).length ≤ d.length + 1 := by
      unfold cntG
      split
      · omega
      · exact putG_len
    rw [List.length_cons]
    omega
theorem furG_len {F : List κ} {nb : κ → List κ} {k : Nat} : ∀ {L d : List (κ × Int)}, (∀ y ∈ L, (nb y.1).length ≤ k) → (furG F nb d L).length ≤ d.length + L.length * k
  | [], _, _ => by show _ ≤ _ + 0 * k; rw [Nat.zero_mul]; exact Nat.le_refl _
  | y :: L, d, h => by
    have h1 := furG_len (F := F) (nb := nb) (L := L) (d := (nb y.1).foldl (cntG F y.2) d) fun z hz => h z (List.mem_cons_of_mem _ hz)
    have h2 : ((nb y.1).foldl (cntG F y.2) d).length ≤ d.length + (nb y.1).length := cntG_len
    have h3 := h y List.mem_cons_self
    show (furG F nb ((nb y.1).foldl (cntG F y.2) d) L).length ≤ _
    rw [List.length_cons, Nat.succ_mul]
    omega
theorem rowG_lk {F : List κ} {v : Int} {x : κ} : ∀ {zs : List κ} {d : List (κ × Int)}, (x ∈ F → lkG (zs.foldl (cntG F v) d) x = lkG d x) ∧ (x ∉ F → (lkG (zs.foldl (cntG F v) d) x).getD 0 = (lkG d x).getD 0 + v * (mulG zs x : Int) ∧ (lkG (zs.foldl (cntG F v) d) x = none ↔ lkG d x = none ∧ x ∉ zs))
  | [], d => ⟨fun _ => rfl, fun _ => ⟨by show _ = _ + v * ((0 : Nat) : Int); rw [Int.natCast_zero, Int.mul_zero, Int.add_zero]; rfl, fun h => ⟨h, fun k => (nomatch k)⟩, fun h => h.1⟩⟩
  | a :: zs, d => by
    obtain ⟨i1, i2⟩ := rowG_lk (F := F) (v := v) (x := x) (zs := zs) (d := cntG F v d a)
    rw [List.foldl_cons]
    have hc : lkG (cntG F v d a) x = if a ∉ F ∧ x = a then some ((lkG d x).getD 0 + v) else lkG d x := by
      unfold cntG
      by_cases ha : a ∈ F
      · rw [if_pos ha, if_neg fun h => h.1 ha]
      · rw [if_neg ha, lkG_put]
        by_cases e : x = a
        · subst e
          rw [if_pos rfl, if_pos ⟨ha, rfl⟩]
        · rw [if_neg e, if_neg fun h => e h.2]
    refine ⟨fun hF => ?_, fun hF => ?_⟩
    · rw [i1 hF, hc, if_neg fun h => h.1 (h.2 ▸ hF)]
    · obtain ⟨j1, j2⟩ := i2 hF
      rw [j1, j2, hc, mulG_cons]
      by_cases e : x = a
      · subst e
        rw [if_pos ⟨hF, rfl⟩, if_pos rfl]
        refine ⟨?_, fun h => (by cases h.1), fun h => absurd List.mem_cons_self h.2⟩
        rw [Int.natCast_add, Int.mul_add]
        show _ + v + _ = _ + (v * ((1 : Nat) : Int) + _)
        rw [Int.natCast_one, Int.mul_one]
        omega
      · rw [if_neg fun h => e h.2, if_neg fun k => e k.symm, Nat.zero_add]
        exact ⟨rfl, fun h => ⟨h.1, fun k => (List.mem_cons.mp k).elim e h.2⟩, fun h => ⟨h.1, fun k => h.2 (List.mem_cons_of_mem _ k)⟩⟩
/-- what all of a layer bring -/
def sumG (nb : κ → List κ) (x : κ) (L : List (κ × Int)) : Int := (L.map fun yv => yv.2 * (mulG (nb yv.1) x : Int)).sum
theorem furG_lk {F : List κ} {nb : κ → List κ} {x : κ} : ∀ {L d : List (κ × Int)}, (x ∈ F → lkG (furG F nb d L) x = lkG d x) ∧ (x ∉ F → (lkG (furG F nb d L) x).getD 0 = (lkG d x).getD 0 + sumG nb x L ∧ (lkG (furG F nb d L) x = none ↔ lkG d x = none ∧ ∀ y ∈ L, x ∉ nb y.1))
  | [], d => ⟨fun _ => rfl, fun _ => ⟨by show _ = _ + (0 : Int); rw [Int.add_zero]; rfl, fun h => ⟨h, fun _ k => (nomatch k)⟩, fun h => h.1⟩⟩
  | y :: L, d => by
    obtain ⟨i1, i2⟩ := furG_lk (F := F) (nb := nb) (x := x) (L := L) (d := (nb y.1).foldl (cntG F y.2) d)
    obtain ⟨r1, r2⟩ := rowG_lk (F := F) (v := y.2) (x := x) (zs := nb y.1) (d := d)
    have e : furG F nb d (y :: L) = furG F nb ((nb y.1).foldl (cntG F y.2) d) L := rfl
    rw [e]
    refine ⟨fun hF => by rw [i1 hF, r1 hF], fun hF => ?_⟩
    obtain ⟨j1, j2⟩ := i2 hF
    obtain ⟨k1, k2⟩ := r2 hF
    have es : sumG nb x (y :: L) = y.2 * (mulG (nb y.1) x : Int) + sumG nb x L := rfl
    rw [j1, j2, k1, k2, es]
    exact ⟨by omega, fun h => ⟨h.1.1, fun w hw => (List.mem_cons.mp hw).elim (fun e => e ▸ h.1.2) (h.2 w)⟩, fun h => ⟨⟨h.1, h.2 y List.mem_cons_self⟩, fun w hw => h.2 w (List.mem_cons_of_mem _ hw)⟩⟩
end
end Ob
set_option Elab.async false
set_option linter.all false
set_option maxRecDepth 100000
set_option maxHeartbeats 2000000
/-! Dj2: dicts with tuples as keys: all tuples of the heap frozen (TC); dicts that change (dtvC): k in d, d[k] = v, d[k] = d.get(k, 0) + n; a for over such a dict's keys; for over sorted(d). -/
namespace Ob
open PySem PySem.Spec PyProof.Rows L2
open Evl (Ex)
open PySem.W (Datum Tup DatumOrd)
/-! ### all tuples of the heap are frozen -/
def TC (B H : Hp) : Prop := ∀ a us, H a = some (.tup us) → B a = some (.tup us)
def wide (B H : Hp) : Hp := fun a => match H a with
  | some (.tup us) => some (.tup us)
  | _ => B a
theorem wide_tup {B H : Hp} {a : Addr} {us : List V} (h : H a = some (.tup us)) : wide B H a = some (.tup us) := by unfold wide; rw [h]
theorem wide_not {B H : Hp} {a : Addr} (h : ∀ us, H a ≠ some (.tup us)) : wide B H a = B a := by
  unfold wide
  split
  · next us e => exact absurd e (h us)
  · rfl
theorem wide_or (B H : Hp) (a : Addr) : (∃ us, H a = some (.tup us) ∧ wide B H a = some (.tup us)) ∨ wide B H a = B a := by
  by_cases h : ∃ us, H a = some (.tup us)
  · obtain ⟨us, h⟩ := h
    exact .inl ⟨us, h, wide_tup h⟩
  · exact .inr (wide_not fun us e => h ⟨us, e⟩)
theorem wide_ex {B H : Hp} (e : Ex B H) : Ex B (wide B H) := fun a u h => by
  rcases wide_or B H a with ⟨us, h1, h2⟩ | h1
  · have := e a u h
    rw [h1] at this
    cases this
    exact h2
  · rw [h1]
    exact h
theorem wide_in {B H : Hp} (e : Ex B H) : Ex (wide B H) H := fun a u h => by
  rcases wide_or B H a with ⟨us, h1, h2⟩ | h1
  · rw [h2] at h
    cases h
    exact h1
  · rw [h1] at h
    exact e a u h
theorem wide_tc {B H : Hp} : TC (wide B H) H := fun _ _ h => wide_tup h
/-- what may change is no tuple -/
def OC.nt (o : OC) : Prop := ∀ B us, ¬ o.P B (.tup us)
theorem nt_box {b : Addr} {c : Int} : (boxC b c).nt := fun _ _ ⟨_, _, _, h, _⟩ => nomatch h
section
variable {K : PySem.W.Frag} {W0 : List Addr} {B0 H0 : Hp} {os : List OC} {Γ : List (Option Cell)} {σ : L2.St} {B H B1 H1 : Hp} {te ta tb tc td tk tv : TE} {tt : TT} {D : Ends} {tu tw tz : TS}
theorem St.ntB (s : St K W0 B0 H0 os Γ σ B H) (hn : ∀ o ∈ os, o.nt) {o : OC} (ho : o ∈ os) : ∀ us, H o.l ≠ some (.tup us) := fun us e => by
  obtain ⟨_, _, ob, h3, h4⟩ := s.own o ho
  rw [e] at h3
  cases h3
  exact hn o ho _ _ h4
/-- at the start of a def -/
theorem St.widen (s : St K W0 B H os Γ σ B H) (hn : ∀ o ∈ os, o.nt) : St K W0 (wide B H) H os Γ σ (wide B H) H :=
  ⟨Ex.refl _, wide_in s.bh, fun _ _ _ h => h, fun _ h => h, fun _ h => .inl h, fun o ho => by
    obtain ⟨h1, h2, ob, h3, h4⟩ := s.own o ho
    exact ⟨by rw [wide_not (s.ntB hn ho)]; exact h1, h2, ob, h3, o.mono (wide_ex s.bh) h4⟩, s.nd, s.sl.mono (wide_ex s.bh)⟩
/-- later on -/
theorem St.tcAll (s : St K W0 B0 H0 os Γ σ B H) (tc : TC B0 H0) (hn : ∀ o ∈ os, o.nt) (hW : ∀ a ∈ W0, ∃ o ∈ os, o.l = a) : St K W0 B0 H0 os Γ σ (wide B H) H :=
  ⟨s.bb.trans (wide_ex s.bh), wide_in s.bh, s.hh, s.dm, fun a ha => by
    rcases wide_or B H a with ⟨us, h1, h2⟩ | h1
    · cases q : H0 a with
      | none => exact .inr rfl
      | some u =>
        refine .inl ?_
        by_cases w : a ∈ W0
        · obtain ⟨o, ho, rfl⟩ := hW a w
          exact absurd h1 (s.ntB hn ho us)
        · have := s.hh a u w q
          rw [h1] at this
          cases this
          rw [tc a us q]
          exact fun z => nomatch z
    · rw [h1] at ha
      exact s.nw a ha, fun o ho => by
    obtain ⟨h1, h2, ob, h3, h4⟩ := s.own o ho
    exact ⟨by rw [wide_not (s.ntB hn ho)]; exact h1, h2, ob, h3, o.mono (wide_ex s.bh) h4⟩, s.nd, s.sl.mono (wide_ex s.bh)⟩
/-! ### a dict that changes -/
section
variable {α : Type} [Rep α]
theorem dtAt_mono {B B' : Hp} (e : Ex B B') {ks : List (List Key × V)} {d : List (List Str × α)} (h : DicTAt K B ks d) : DicTAt K B' ks d := Paired.mapP h fun _ _ h => ⟨h.1, Rep.mono e h.2⟩
def dtvC (K : PySem.W.Frag) (l : Addr) (d : List (List Str × α)) : OC := ⟨l, fun B o => ∃ ks, o = .dT ks ∧ DicTAt K B ks d, fun e ⟨ks, h1, h2⟩ => ⟨ks, h1, dtAt_mono e h2⟩⟩
theorem nt_dtv {l : Addr} {d : List (List Str × α)} : (dtvC K l d).nt := fun _ _ ⟨_, h, _⟩ => nomatch h
theorem rm_dtv {l : Addr} {d : List (List Str × α)} : RMono (dtvC K l d) := fun e ⟨ks, h1, h2⟩ => ⟨ks, h1, Paired.mapP h2 fun _ _ h => ⟨h.1, Rep.monoR e h.2⟩⟩
theorem dtAt_keys {ks : List (List Key × V)} {d : List (List Str × α)} (h : DicTAt K B ks d) : ks.map (·.1) = (d.map (·.1)).map kT := by
  unfold DicTAt at h
  induction h with
  | nil => rfl
  | cons a t ih => rw [List.map_cons, List.map_cons, List.map_cons, ih, a.1]
theorem dtAt_get {ks : List (List Key × V)} {d : List (List Str × α)} (h : DicTAt K B ks d) (x : List Str) : (lkG d x = none ∧ valV ks (kT x) = none) ∨ ∃ y v, lkG d x = some y ∧ valV ks (kT x) = some v ∧ Rep.at_ K B v y := by
  unfold DicTAt at h
  induction h with
  | nil => exact .inl ⟨rfl, rfl⟩
  | @cons p q ps qs a t ih =>
    obtain ⟨pk, pv⟩ := p
    obtain ⟨qk, qv⟩ := q
    obtain ⟨a1, a2⟩ := a
    simp only at a1 a2
    subst a1
    show ((if qk = x then some qv else lkG qs x) = none ∧ _) ∨ ∃ y v, (if qk = x then some qv else lkG qs x) = some y ∧ _
    by_cases e : qk = x
    · subst e
      rw [if_pos rfl]
      exact .inr ⟨qv, pv, rfl, valV_pos rfl, a2⟩
    · rw [if_neg e, valV_neg fun z => e (kT_inj z)]
      exact ih
theorem dtAt_any {ks : List (List Key × V)} {d : List (List Str × α)} (h : DicTAt K B ks d) (x : List Str) : (ks.any fun kv => decide (kv.1 = kT x)) = decide (x ∈ d.map (·.1)) := by
  have e := dtAt_keys h
  rw [Bool.eq_iff_iff, decide_eq_true_iff, List.any_eq_true]
  constructor
  · rintro ⟨p, hp, he⟩
    have : p.1 ∈ ks.map (·.1) := List.mem_map.mpr ⟨p, hp, rfl⟩
    rw [e, of_decide_eq_true he] at this
    obtain ⟨y, hy, e2⟩ := List.mem_map.mp this
    exact kT_inj e2 ▸ hy
  · intro hx
    have : kT x ∈ ks.map (·.1) := by rw [e]; exact List.mem_map.mpr ⟨x, hx, rfl⟩
    obtain ⟨p, hp, e2⟩ := List.mem_map.mp this
    exact ⟨p, hp, decide_eq_true e2⟩
theorem dtAt_snoc {x : List Str} {v : V} {y : α} (hv : Rep.at_ K B v y) {ks : List (List Key × V)} {d : List (List Str × α)} (h : DicTAt K B ks d) : DicTAt K B (ks ++ [(kT x, v)]) (d ++ [(x, y)]) := by
  unfold DicTAt at h ⊢
  induction h with
  | nil => exact .cons ⟨rfl, hv⟩ .nil
  | cons a t ih => exact .cons a ih
theorem dtAt_put {ks : List (List Key × V)} {d : List (List Str × α)} (h : DicTAt K B ks d) {x : List Str} {v : V} {y : α} (hv : Rep.at_ K B v y) : DicTAt K B (L2.putK ks (kT x) v) (putG d x y) := by
  unfold L2.putK putG
  rw [dtAt_any h]
  by_cases hx : x ∈ d.map (·.1)
  · rw [if_pos (decide_eq_true hx), if_pos hx]
    clear hx
    unfold DicTAt at h ⊢
    induction h with
    | nil => exact .nil
    | @cons a b as bs q t ih =>
      obtain ⟨k, u⟩ := a
      obtain ⟨c, w⟩ := b
      obtain ⟨q1, q2⟩ := q
      have q1 : k = kT c := q1
      subst q1
      rw [List.map_cons, List.map_cons]
      refine .cons ?_ ih
      by_cases hc : c = x
      · subst hc
        rw [if_pos rfl, if_pos rfl]
        exact ⟨rfl, hv⟩
      · rw [if_neg (fun e => hc (kT_inj e)), if_neg hc]
        exact ⟨rfl, q2⟩
  · rw [if_neg (fun z => hx (of_decide_eq_true z)), if_neg hx]
    exact dtAt_snoc hv h
theorem St.dtv {k : Nat} {l : Addr} {d : List (List Str × α)} (s : St K W0 B0 H0 os Γ σ B H) (h : os[k]? = some (dtvC K l d)) : B l = none ∧ ∃ ks, H l = some (.dT ks) ∧ DicTAt K B ks d := by
  obtain ⟨h1, _, x, h3, ks, rfl, h4⟩ := s.own _ (List.mem_of_getElem? h)
  exact ⟨h1, ks, h3, h4⟩
/-- d[k] = d.get(k, 0) + n -/
theorem St.cntT {i j k : Nat} {l : Addr} {d : List (List Str × Int)} {x : Tup Str} {n : Int} (s : St K W0 B0 H0 os Γ σ B H) (h : os[k]? = some (dtvC K l d)) (hi : cg Γ i = ca l) (hj : cg Γ j = ce x) (hy : Pe K te σ B n) (hz : d.length ≤ 1000000)
    (q : ∀ B1 H1, St K W0 B0 H0 (os.set k (dtvC K l (putG d x.items ((lkG d x.items).getD 0 + n)))) Γ σ B1 H1 → D.nx σ H1) : tAsg (tOp (rAddU K) (tDGet2 (tVar i) (tVar j) (tC (.int 0))) te) (gSub (tVar i) (tVar j) rSetD) D σ H := by
  obtain ⟨hb, ks, hl, hk⟩ := s.dtv h
  obtain ⟨w, hw, hx⟩ := s.sl.get hj
  obtain ⟨b, rfl, hkey⟩ := tup_key s.bh hx
  have key : ∀ (v : V) (m : Int), v = .int m → (lkG d x.items).getD 0 = m → te σ H (fun y H2 => rAddU K v y H2 fun z H3 => gSub (tVar i) (tVar j) rSetD z σ H3 D.nx) := fun v m hv hm => hy H s.bh _ fun y B1 H1 u hyv => by
    cases at_int.mp hyv
    subst hv
    refine .inl ⟨m, n, rfl, rfl, ?_⟩
    have s1 := s.up u
    obtain ⟨hb1, ks1, hl1, hk1⟩ := s1.dtv h
    have hkl : ks1.length = d.length := hk1.length
    refine ⟨_, s1.sl.rf i hi, ⟨_, hw, l, _, rfl, .inr ⟨ks1, kT x.items, b, hl1, rfl, u.hh _ _ hkey, by rw [hkl, sizeLine_eq]; omega, rfl⟩, ?_⟩⟩
    refine q B1 _ (s1.chg (ob := .dT (L2.putK ks1 (kT x.items) (.int (m + n)))) h rfl ⟨_, rfl, ?_⟩)
    rw [hm]
    exact dtAt_put hk1 (at_int.mpr rfl)
  refine ⟨_, s.sl.rf i hi, l, rfl, .inr ⟨ks, .inl hl⟩, _, hw, valV ks (kT x.items), .inr ⟨ks, kT x.items, b, .inl hl, rfl, hkey, rfl⟩, ?_⟩
  rcases dtAt_get hk x.items with ⟨e1, e2⟩ | ⟨y, v, e1, e2, e3⟩
  · rw [e2]
    exact key _ 0 rfl (by rw [e1]; rfl)
  · rw [e2]
    exact key _ y (at_int.mp e3) (by rw [e1]; rfl)
/-- frozen from here on -/
theorem St.frzT {i k : Nat} {l : Addr} {d : List (List Str × α)} (s : St K W0 B0 H0 os Γ σ B H) (h : os[k]? = some (dtvC K l d)) (hi : cg Γ i = ca l) (hw : l ∉ W0) : ∃ B1, Ex B B1 ∧ St K W0 B0 H0 (os.eraseIdx k) (cs Γ i (ce (DicT.mk d))) σ B1 H := by
  obtain ⟨hb, ks, hl, hk⟩ := s.dtv h
  have e : Ex B (upd B l (.dT ks)) := Ex.new hb
  have s2 : Slots K (upd B l (.dT ks)) σ (cs Γ i (ce (DicT.mk d))) := (s.sl.mono e).re (s.sl.rf i hi) ⟨l, ks, rfl, .inl upd_same, dtAt_mono e hk⟩
  have h0 : H0 l = none := by
    rcases (s.own _ (List.mem_of_getElem? h)).2.1 with z | z
    · exact absurd z hw
    · exact z
  refine ⟨_, e, s.bb.trans e, ex_in s.bh hl, s.hh, s.dm, fun a ha => ?_, fun o ho => ?_, s.nd.sublist ((List.eraseIdx_sublist os k).map _), s2⟩
  · by_cases z : a = l
    · exact .inr (z ▸ h0)
    · rw [upd_ne z] at ha
      exact s.nw a ha
  · obtain ⟨g1, g2, w, g3, g4⟩ := s.own o ((List.eraseIdx_sublist os k).subset ho)
    have ne : o.l ≠ l := by
      intro z
      obtain ⟨j, hj, hjk⟩ : ∃ j, os[j]? = some o ∧ j ≠ k := by
        obtain ⟨j, hj⟩ := List.getElem?_of_mem ho
        rw [List.getElem?_eraseIdx] at hj
        split at hj
        · next hlt => exact ⟨j, hj, Nat.ne_of_lt hlt⟩
        · next hge => exact ⟨j + 1, hj, by omega⟩
      have e1 : (os.map (·.l))[k]? = some l := by rw [List.getElem?_map, h]; rfl
      have e2 : (os.map (·.l))[j]? = some l := by rw [List.getElem?_map, hj, ← z]; rfl
      exact hjk ((List.getElem?_inj (List.getElem?_eq_some_iff.mp e2).1 s.nd).mp (e2.trans e1.symm))
    exact ⟨by rw [upd_ne ne]; exact g1, g2, w, g3, o.mono e g4⟩
/-- d = {} -/
theorem St.newT {i : Nat} (s : St K W0 B0 H0 os Γ σ B H) (α : Type) [Rep α] (k : ∀ l σ1 H1, St K W0 B0 H0 (os ++ [dtvC K l ([] : List (List Str × α))]) (cs Γ i (ca l)) σ1 B H1 → tz D σ1 H1) : tSeq (tAsg tDNewT (gName i)) tz D σ H := fun p hp =>
  k p _ _ (St.put (s.add (ob := .dT []) hp (dtvC K p ([] : List (List Str × α))) rfl ⟨[], rfl, .nil⟩) i rfl)
/-- {k: v} as it is -/
theorem e_disp1T {x : Tup Str} {y : α} (h1 : Pe K ta σ B x) (h2 : ∀ B', Ex B B' → Pe K tb σ B' y) : Pe K (tDisp1T ta tb) σ B (DicT.mk [(x.items, y)]) := fun H e Q q p hp => by
  have s1 : Ex B (upd H p (.dT [])) := ex_upd e (Evl.fresh_back e hp)
  refine h1 _ s1 _ fun v B2 H2 u2 hv => (h2 B2 u2.bb) H2 u2.bh _ fun w B3 H3 u3 hw => ?_
  obtain ⟨b, rfl, hkey⟩ := tup_key u2.bh hv
  have u := u2.trans u3
  have hp3 : H3 p = some (.dT []) := u.hh p _ upd_same
  have hB3 : B3 p = none := by
    cases z : B3 p with
    | none => rfl
    | some o =>
      rcases u.nw p (by rw [z]; exact fun z => nomatch z) with k | k
      · exact absurd (Evl.fresh_back e hp) k
      · rw [upd_same] at k
        cases k
  refine ⟨b, kT x.items, rfl, u3.hh _ _ hkey, hp3, ?_⟩
  have hex : Ex B3 (upd B3 p (.dT [(kT x.items, w)])) := Ex.new hB3
  refine q (.ref p) (upd B3 p (.dT [(kT x.items, w)])) (upd H3 p (.dT [(kT x.items, w)])) ⟨u.bb.trans hex, fun a o ha => ?_, fun a o ha => ?_, fun a ha => ?_⟩ ⟨p, [(kT x.items, w)], rfl, .inl upd_same, .cons ⟨rfl, Rep.mono hex hw⟩ .nil⟩
  · by_cases e2 : a = p
    · subst e2
      rw [upd_same] at ha ⊢
      exact ha
    · rw [upd_ne e2] at ha ⊢
      exact u.bh a o ha
  · have e2 : a ≠ p := fun z => by rw [z, hp] at ha; cases ha
    rw [upd_ne e2]
    exact u.hh a o (by rw [upd_ne e2]; exact ha)
  · by_cases e2 : a = p
    · exact .inr (e2 ▸ hp)
    · rw [upd_ne e2] at ha
      rcases u.nw a ha with k | k
      · exact .inl k
      · rw [upd_ne e2] at k
        exact .inr k
/-! ### loops over the keys -/
theorem exr_lockT {H : Hp} {d : Addr} {o : Obj} {kvs : List (List Key × V)} (h : H d = some (.dT kvs)) : ExR H (upd H d (.frz o (.dT kvs))) := ⟨fun a u hp hr => by
  by_cases ha : a = d
  · subst ha
    rcases hr with hr | ⟨o', hr⟩
    · rw [h] at hr
      cases hr
      exact .inr ⟨o, upd_same⟩
    · rw [h] at hr
      cases hr
  · rcases hr with hr | ⟨o', hr⟩
    · exact .inl (by rw [upd_ne ha]; exact hr)
    · exact .inr ⟨o', by rw [upd_ne ha]; exact hr⟩, fun a us ha => by
  have hne : a ≠ d := fun z => by rw [z, h] at ha; cases ha
  rw [upd_ne hne]
  exact ha, fun a _ _ _ ha => by
  have hne : a ≠ d := fun z => by rw [z, h] at ha; cases ha
  rw [upd_ne hne]
  exact ha⟩
/-- a statement under the lock of a dict with tuples as keys -/
theorem St.lockT {m : Nat} {dd : DicT α} (s : St K W0 B0 H0 os Γ σ B H) (tc : TC B H) (hm : cg Γ m = ce dd) (hR : ∀ o ∈ os, RMono o) (P : L2.St → List OC → List (Option Cell) → Prop)
    (h : ∀ Bl Hl a od kvs, σ[m]? = some (some (.ref a)) → Bl a = some (.frz od (.dT kvs)) → kvs.map (·.1) = (dd.kvs.map (·.1)).map kT → TC Bl Hl → St K (os.map (·.l)) Bl Hl os Γ σ Bl Hl → ∀ D' : Ends, (∀ {os' : List OC} {Γ' : List (Option Cell)} {σ' : L2.St} {B' H' : Hp}, P σ' os' Γ' → os'.map (·.l) = os.map (·.l) → (∀ o ∈ os', RMono o) → St K (os.map (·.l)) Bl Hl os' Γ' σ' B' H' → D'.nx σ' H') → tu D' σ Hl)
    (k : ∀ os' Γ' σ' B1 H1, P σ' os' Γ' → St K W0 B0 H0 os' Γ' σ' B1 H1 → tz D σ' H1) : tSeq (tLockOS tu) tz D σ H := by
  obtain ⟨v, hv, a, ks, rfl, hr, hd⟩ := s.sl.get hm
  have hkeys := dtAt_keys hd
  have second : ∀ {os' : List OC}, os'.map (·.l) = os.map (·.l) → ∀ o ∈ os', o.l ∈ W0 ∨ H0 o.l = none := fun {os'} hl o ho => by
    have : o.l ∈ os.map (·.l) := hl ▸ List.mem_map.mpr ⟨o, ho, rfl⟩
    obtain ⟨o2, ho2, e⟩ := List.mem_map.mp this
    rw [← e]
    exact (s.own o2 ho2).2.1
  rcases hr with hB | ⟨o, hB⟩
  · have hHa : H a = some (.dT ks) := s.bh a _ hB
    refine .inl ⟨a, .dT ks, hHa, trivial, fun od => ?_⟩
    have sl2 := s.sl.monoR (exr_lockT (o := od) hB)
    have hne : ∀ o ∈ os, o.l ≠ a := fun o ho e => by
      have := (s.own o ho).1
      rw [e, hB] at this
      cases this
    have s1 : St K (os.map (·.l)) (upd B a (.frz od (.dT ks))) (upd H a (.frz od (.dT ks))) os Γ σ (upd B a (.frz od (.dT ks))) (upd H a (.frz od (.dT ks))) := by
      refine ⟨Ex.refl _, fun x o hx => ?_, fun _ _ _ h => h, fun _ h => h, fun _ h => .inl h, fun o ho => ?_, s.nd, sl2⟩
      · by_cases e : x = a
        · subst e
          rw [upd_same] at hx ⊢
          exact hx
        · rw [upd_ne e] at hx ⊢
          exact s.bh x o hx
      · obtain ⟨h1, _, ob, h3, h4⟩ := s.own o ho
        exact ⟨by rw [upd_ne (hne o ho)]; exact h1, .inl (List.mem_map.mpr ⟨o, ho, rfl⟩), ob, by rw [upd_ne (hne o ho)]; exact h3, hR o ho (exr_lockT hB) h4⟩
    have tcl : TC (upd B a (.frz od (.dT ks))) (upd H a (.frz od (.dT ks))) := fun x us hx => by
      by_cases e : x = a
      · subst e
        rw [upd_same] at hx
        cases hx
      · rw [upd_ne e] at hx ⊢
        exact tc x us hx
    refine h _ _ a od ks hv upd_same hkeys tcl s1 _ fun {os' Γ' σ' B' H'} hP hl hR' s2 => ?_
    have hB' : B' a = some (.frz od (.dT ks)) := s2.bb a _ upd_same
    have hH' : H' a = some (.frz od (.dT ks)) := s2.bh a _ hB'
    have unl : ∀ {X : Hp}, X a = some (.frz od (.dT ks)) → ExR X (upd X a (.dT ks)) := fun hX => exr_unlock hX
    refine ⟨hH', k os' Γ' σ' (upd B' a (.dT ks)) (upd H' a (.dT ks)) hP ⟨fun x o hx => ?_, fun x o hx => ?_, fun x u hx hu => ?_, fun x hx => ?_, fun x hx => ?_, fun o ho => ?_, s2.nd, s2.sl.monoR (unl hB')⟩⟩
    · have h1 := s.bb x o hx
      by_cases e : x = a
      · subst e
        rw [upd_same, ← hB]
        exact h1
      · rw [upd_ne e]
        exact s2.bb x o (by rw [upd_ne e]; exact h1)
    · by_cases e : x = a
      · subst e
        rw [upd_same] at hx ⊢
        exact hx
      · rw [upd_ne e] at hx ⊢
        exact s2.bh x o hx
    · have h1 := s.hh x u hx hu
      by_cases e : x = a
      · subst e
        rw [upd_same, ← hHa]
        exact h1
      · rw [upd_ne e]
        refine s2.hh x u (fun z => ?_) (by rw [upd_ne e]; exact h1)
        obtain ⟨o, ho, e2⟩ := List.mem_map.mp z
        rcases (s.own o ho).2.1 with w | w
        · exact hx (e2 ▸ w)
        · rw [e2, hu] at w
          cases w
    · by_cases e : x = a
      · subst e
        rw [upd_same]
        exact fun z => nomatch z
      · rw [upd_ne e]
        exact s2.dm x (by rw [upd_ne e]; exact s.dm x hx)
    · by_cases e : x = a
      · subst e
        exact s.nw x (by rw [hB]; exact fun z => nomatch z)
      · rw [upd_ne e] at hx
        rcases s2.nw x hx with z | z
        · rw [upd_ne e] at z
          exact s.nw x z
        · rw [upd_ne e] at z
          cases q : H0 x with
          | none => exact .inr rfl
          | some o => exact absurd z (s.dm x (by rw [q]; exact fun z => nomatch z))
    · obtain ⟨h1, _, ob, h3, h4⟩ := s2.own o ho
      have hne' : o.l ≠ a := fun e => by
        rw [e, hB'] at h1
        cases h1
      exact ⟨by rw [upd_ne hne']; exact h1, second hl o ho, ob, by rw [upd_ne hne']; exact h3, hR' o ho (unl hB') h4⟩
  · refine .inr (h B H a o ks hv hB hkeys tc s.here _ fun {os' Γ' σ' B' H'} hP hl _ s2 => ?_)
    refine k os' Γ' σ' B' H' hP ⟨s.bb.trans s2.bb, s2.bh, fun x u hx hu => s2.hh x u (fun z => ?_) (s.hh x u hx hu), fun x hx => s2.dm x (s.dm x hx), fun x hx => ?_, fun o ho => ?_, s2.nd, s2.sl⟩
    · obtain ⟨o2, ho2, e2⟩ := List.mem_map.mp z
      rcases (s.own o2 ho2).2.1 with w | w
      · exact hx (e2 ▸ w)
      · rw [e2, hu] at w
        cases w
    · rcases s2.nw x hx with z | z
      · exact s.nw x z
      · cases q : H0 x with
        | none => exact .inr rfl
        | some o => exact absurd z (s.dm x (by rw [q]; exact fun z => nomatch z))
    · obtain ⟨h1, _, h3⟩ := s2.own o ho
      exact ⟨h1, second hl o ho, h3⟩
end
end
end Ob
set_option Elab.async false
set_option linter.all false
set_option maxRecDepth 100000
set_option maxHeartbeats 2000000
/-! Di: dicts with tuples as keys: for k, v in d.items(); sum(d.values()), from the model up (after the library's HandS.Iter and HandS.Sort). -/
namespace Ob
open PySem PySem.Spec PyProof.Rows L2
open Evl (Ex)
open PySem.W (Datum Tup DatumOrd)
/-- the pairs, each a new tuple -/
def ItiT (d : Addr) (o : Obj) (kvs : List (List Key × V)) : It :=
  ⟨fun i H => H d = some (.frz o (.dT kvs)) ∧ i < kvs.length, fun i H x H' => ∃ (T : Addr) (k : List Key) (v : V) (q : Addr), kvs[i]? = some (k, v) ∧ x = .ref T ∧ H T = none ∧ H q = some (.tup (k.map kV)) ∧ H' = upd H T (.tup [.ref q, v]), fun i H => H d = some (.frz o (.dT kvs)) ∧ kvs.length ≤ i⟩
section
variable {X : Cx} {pins : List (Addr × Obj)} {σ : L2.St} {H : Hp} {s : Shared} {d : Addr} {o : Obj}
theorem frzTv {kvs : List (List Key × V)} (I : Inv X pins σ H s) (h : H d = some (.frz o (.dT kvs))) :
    (d == sysModules) = false ∧ s.heap.get? d = some o ∧ o.ExactDict ∧ ∃ (es : Array DictEntry) (ep : Nat), o.data = .dict es ep ∧ es.size = kvs.length ∧
      ∀ (i : Nat) (k : List Key) (v : V), kvs[i]? = some (k, v) → ∃ (en : DictEntry) (q : Addr), es[i]? = some en ∧ en.key = .ref q ∧ H q = some (.tup (k.map kV)) ∧ RelV v en.val := by
  have hd : s.heap.get? d = some o := (I.hok d _ h).1
  obtain ⟨z, lo, o', es, ep, h1, h2, h3, h4, h5⟩ := ents_of I.hok (show Rd H d (.dT kvs) from .inr ⟨o, h⟩)
  rw [hd] at h1
  cases h1
  exact ⟨lo, hd, h2, es, ep, h3, h4, h5⟩
end
section
variable {P : Program} {w : World} {K : PySem.W.Frag} {tg : Expr} {d : Addr} {o : Obj} {es : Array DictEntry} {ep : Nat}
theorem raw_of {h : Heap} (hg : h.get? d = some o) (hx : o.ExactDict) (hd : o.data = .dict es ep) : h.DictRaw d es ep := ⟨o, hg, hx, hd⟩
theorem turn_itemsT {kvs : List (List Key × V)} {elts : List Expr} {kk : Nat} {tpos : Pos} (it : Addr) (hod : o.data = .dict es ep) :
    Turn P w K (.Tuple elts kk tpos) (ItiT d o kvs) [it] it (fun i h => ∃ ok ov, IsItemIter h it d i kvs.length ep ok ov) where
  mem := by simp
  obj := fun i h st b hb => by
    have e : b = it := by simpa using hb
    subst e
    obtain ⟨ok, ov, e⟩ := st
    exact ⟨_, e, fun v z => nomatch z⟩
  keep := fun i h h' st k => let ⟨ok, ov, e⟩ := st; ⟨ok, ov, k it (by simp) _ e⟩
  item := by
    intro X hP hw hK hc i pins s σ H E I hf st hg
    subst hP hw hK
    obtain ⟨hd, hi⟩ := hg
    obtain ⟨hs, hgd, hx, es', ep', hdt, hsz, ent⟩ := frzTv I hd
    obtain ⟨rfl, rfl⟩ := dict_ep hod hdt
    obtain ⟨⟨k, v⟩, hkv⟩ : ∃ p, kvs[i]? = some p := ⟨kvs[i], List.getElem?_eq_getElem hi⟩
    obtain ⟨en, q, hen, hkey, hq, hv⟩ := ent i k v hkv
    obtain ⟨ok, ov, he⟩ := st
    rw [← hsz] at he hi
    have hen' : es'[i] = en := by
      rw [Array.getElem?_eq_getElem hi] at hen
      exact Option.some.inj hen
    have hlt : it < s.heap.objs.size := Heap.lt_size he
    refine wpAny_pyNext_items_item_raw he (raw_of hgd hx hdt) hi fun h' ho hT hz hk => ?_
    rw [hen'] at ho hT
    refine ⟨_, rfl, wpAny_letOwnedTupleGo_items (s := { s with heap := h' }) ho fun h'' he' sb => ?_⟩
    have hT2 : h''.get? s.heap.objs.size = some { cls := .type "tuple", data := .seq #[en.key, en.val] } := (sb.2 _ (Nat.ne_of_gt hlt)).trans hT
    have new : ObjOk X.prog X.w (upd H s.heap.objs.size (.tup [.ref q, v])) h'' s.heap.objs.size (.tup [.ref q, v]) :=
      ⟨by show 2 ≤ sizeLine; decide, [en.key, en.val], .cons (show RelV (.ref q) en.key from hkey) (.cons hv .nil), ⟨_, hT2, rfl, _, rfl⟩⟩
    have I1 : Inv X pins σ (upd H s.heap.objs.size (.tup [.ref q, v])) { s with heap := h'' } :=
      I.turnedNew (t' := s.toks) (ch := [it]) (fun b ob hb e => (sb.2 b (by simpa using hb)).trans (hk b ob (by simpa using hb) e)) hf (Nat.le_refl _) new
    refine ⟨.ref s.heap.objs.size, _, I1, rfl, ⟨_, k, v, q, hkv, rfl, I.hok.fresh (Nat.le_refl _), hq, rfl⟩, ⟨en.key, en.val, ?_⟩, fun b hb => ?_⟩
    · rw [← hsz]; exact he'
    · have e : b = it := by simpa using hb
      rw [e, upd_ne (Nat.ne_of_lt hlt)]
      exact (hf it (by simp)).1
  done := by
    intro X hP hw hK hc i pins s σ H E I hf st hg
    subst hP hw hK
    obtain ⟨hd, hi⟩ := hg
    obtain ⟨f0, f1, f2, f3, f4, f5⟩ := hf it (by simp)
    obtain ⟨hs, hgd, hx, es', ep', hdt, hsz, ent⟩ := frzTv I hd
    obtain ⟨rfl, rfl⟩ := dict_ep hod hdt
    obtain ⟨ok, ov, he⟩ := st
    rw [← hsz] at he hi
    exact wpAny_pyNext_items_end_raw (I.ok.hd hc) he (raw_of hgd hx hdt) hi fun h' eb => ⟨rfl, I.turned (t' := s.toks) (fun b ob hb e => eb b ob hb e) f0 f1 f3 f4 f5⟩
  self := fun A i s Q E st h => let ⟨_, _, e⟩ := st; PySem.W.kcp_self e h
end
def iItemsT (td : TE) : TI := fun σ H R => td σ H fun x H1 => ∃ d o kvs, x = .ref d ∧ H1 d = some (.frz o (.dT kvs)) ∧ R (ItiT d o kvs) H1
def tSumVals (td : TE) : TE := fun σ H Q => td σ H fun x H1 => ∃ (a : Addr) (kvs : List (List Key × V)) (ns : List Int), x = V.ref a ∧ Rd H1 a (.dT kvs) ∧ kvs.map (·.2) = ns.map V.int ∧ Q (.int ns.sum) H1
theorem preSum_list (ns : List Int) : ∀ n, n ≤ ns.length → preSum (fun i => ns.getD i 0) n = (ns.take n).sum := fun n => by
  induction n with
  | zero => intro _; rfl
  | succ n ih =>
    intro h
    show preSum (fun i => ns.getD i 0) n + ns.getD n 0 = _
    rw [ih (by omega), List.take_add_one, List.sum_append, List.getD_eq_getElem?_getD, List.getElem?_eq_getElem (by omega)]
    simp
section
variable {X : Cx} {e : Expr} {td : TE} {p pos apos cpos mpos : Pos}
theorem pi_itemsT {elts : List Expr} {kk : Nat} {tpos : Pos} (he : PE X e td) (hbase : attributeBase e "items" X.env (eval e X.env) = eval e X.env := by rfl) (hline : (apos.endLine == cpos.line) = true := by rfl) :
    PI X (.Tuple elts kk tpos) (.Call (.Attribute e "items" apos) [] [] cpos) (iItemsT td) := by
  refine ⟨fun pins s σ H R I h => ?_⟩
  refine wpAny_Call_method (T := "dict") (id := "dict.items") hbase rfl hline F.plainAttrs_dict F.slot_dict_items F.type_dict_items (thn (he.run pins s σ H _ I h) fun u s1 ⟨x, H1, I1, rx, d, o, kvs, ex, hd, q⟩ => ?_)
  subst ex
  obtain rfl : u = Value.ref d := rx
  obtain ⟨hs, hgd, hx, es, ep, hdt, hsz, ent⟩ := frzTv I1 hd
  refine ⟨⟨o, hgd, hx.1⟩, fun b e => ?_, ?_⟩
  · cases e
    exact ⟨o, hgd, hx.2.1⟩
  have I2 : Inv X pins σ H1 { s1 with heap := s1.heap.push { cls := .type "dict_items", data := .fields #[.ref d] } } := I1.kept (t' := s1.toks) fun b ob q => Heap.get?_push_of_some _ q
  have fin : wpAny (model X.prog X.w) X.A (pyIter (.ref s1.heap.objs.size)) (PIE X pins σ (.Tuple elts kk tpos) R) X.xe { s1 with heap := s1.heap.push { cls := .type "dict_items", data := .fields #[.ref d] } } := by
    refine wpAny_pyIter_items_raw (d := d) (es := es) (ep := ep) ⟨_, Heap.get?_push_size _ rfl, rfl, rfl⟩ (raw_of (Heap.get?_push_of_some _ hgd) hx hdt) (pi_one (tk := s1.toks) I2 _ (turn_itemsT _ hdt) ⟨.none, .none, ?_⟩ q)
    rw [← hsz]
    exact Heap.get?_push_size _ rfl
  show wpAny _ _ (callWith cpos (.builtin "dict.items") [.ref d] [] []) _ X.xe s1
  exact method_meetsIn F.slot_dict_items F.entry_dict_items rfl (PySem.evalArgs_none ⟨rfl, ⟨o, hgd, hx.1⟩, F.args_dict_items_1 _, _, meets_dict_items_raw d hs, ⟨es, ep, raw_of hgd hx hdt⟩, fin⟩)
/-- sum(o.values()), a dict with tuples as keys, its values numbers -/
theorem pe_sumVals {o : Expr} (hc : X.calm = true) (hg : Gl X "sum") (hm : X.mg "sum" = none) (hd : PE X o td) (hbase : attributeBase o "values" X.env (eval o X.env) = eval o X.env := by rfl) (hline : (apos.endLine == mpos.line) = true := by rfl)
    (hse : starEach [Expr.Call (.Attribute o "values" apos) [] [] mpos] X.env = [(false, eval (Expr.Call (.Attribute o "values" apos) [] [] mpos) X.env)] := by rfl) :
    PE X (.Call (.Name "sum" p) [.Call (.Attribute o "values" apos) [] [] mpos] [] pos) (tSumVals td) := by
  refine ⟨fun pins s σ H Q I h => ?_⟩
  refine wpAny_Call_Name_kw (ld_blt I hg hm (u := .builtin "sum") (by first | rfl | decide +kernel) ?_ (by first | decide +kernel | decide) (by first | decide +kernel | decide))
  rw [hse]
  refine PySem.callWith_builtin1 (wpAny_Call_method0_late hbase hline (thn (hd.run pins s σ H _ I h) fun v s1 ⟨x, H1, I1, r1, a, kvs, ns, ex, ha, hv, q⟩ => ?_))
  subst ex
  obtain rfl : v = Value.ref a := r1
  obtain ⟨_, hsys, ob, es, ep, ho, hx, hdat, hsz, ent⟩ := ents_of I1.hok ha
  refine ⟨"dict", "dict.values", F.plainAttrs_dict, F.slot_dict_values, F.type_dict_values, ⟨ob, ho, hx.1⟩, fun b e => ?_, Calls.callWith_builtin rfl (PySem.evalArgs_none ?_)⟩
  · cases e
    exact ⟨ob, ho, hx.2.1⟩
  have k1 : ∀ b u, s1.heap.get? b = some u → (s1.heap.push { cls := .type "dict_values", data := .fields #[.ref a] }).get? b = some u := fun b u e => Heap.get?_push_of_some _ e
  have raw1 : (s1.heap.push { cls := .type "dict_values", data := .fields #[.ref a] }).DictRaw a es ep := raw_of (k1 _ _ ho) hx hdat
  refine call_meetsIn F.slot_dict_values ⟨ob, ho, hx.1⟩ F.entry_dict_values (F.args_dict_values_1 _) (meets_dict_values_raw a hsys) ⟨⟨es, ep, raw_of ho hx hdat⟩, ?_⟩
  have hln : es.size = ns.length := by
    have e1 := congrArg List.length hv
    rw [List.length_map, List.length_map] at e1
    rw [hsz, e1]
  have hval : ∀ (i : Nat) (v : Value), (∃ hi : i < es.size, v = es[i].val) → ∃ t, v = Value.int (ns.getD i 0) t := fun i v ⟨hi, e⟩ => by
    obtain ⟨⟨k, w⟩, hkv⟩ : ∃ p, kvs[i]? = some p := ⟨kvs[i]'(by rw [← hsz]; exact hi), List.getElem?_eq_getElem _⟩
    obtain ⟨en, q, hen, _, _, hvv⟩ := ent i k w hkv
    rw [Array.getElem?_eq_getElem hi] at hen
    have hen' := Option.some.inj hen
    have e1 : (kvs.map (·.2))[i]? = some w := by rw [List.getElem?_map, hkv] <;> rfl
    rw [hv, List.getElem?_map] at e1
    obtain ⟨j, hj, e2⟩ := Option.map_eq_some_iff.mp e1
    subst e2
    obtain ⟨t, e3⟩ := hvv
    refine ⟨t, ?_⟩
    rw [e, hen', e3, List.getD_eq_getElem?_getD, hj] <;> rfl
  have hlt : a < s1.heap.objs.size := Heap.lt_size ho
  have hsz2 : (s1.heap.push { cls := .type "dict_values", data := .fields #[.ref a] }).objs.size = s1.heap.objs.size + 1 := Heap.size_push _ _
  refine call_sum_walkAnyS (wpAny_pyIter_values_raw (v := s1.heap.objs.size) (d := a) ⟨_, Heap.get?_push_size _ rfl, rfl, rfl⟩ raw1 ?_)
  refine ⟨_, _, _, _, _, _, _, fun i => ns.getD i 0, rfl, (Walks.rawValues (A := X.A.in1) (I.ok.hd hc) (s1.heap.push { cls := .type "dict_values", data := .fields #[.ref a] }).objs.size a (by rw [hsz2]; exact Nat.ne_of_lt (Nat.lt_succ_of_lt hlt)) es ep).toS, ⟨⟨_, Heap.get?_push_size _ rfl, rfl, rfl⟩, raw1.at fun u e => Heap.get?_push_of_some _ e⟩, fun b hb => ?_, hval, fun s' t' hmv => ?_⟩
  · show b < ((s1.heap.push _).push _).objs.size
    rw [Heap.size_push, Heap.size_push]
    rw [hsz2] at hb
    rcases List.mem_cons.mp hb with e | hb
    · rw [e]
      exact Nat.lt_succ_self _
    · have e : b = a := List.mem_singleton.mp hb
      rw [e]
      exact Nat.lt_succ_of_lt (Nat.lt_succ_of_lt hlt)
  · have hsum : preSum (fun i => ns.getD i 0) es.size = ns.sum := by
      rw [preSum_list ns es.size (by omega), hln, List.take_length]
    rw [Moved.eq_with hmv, hsum]
    refine ⟨.int ns.sum, H1, I1.kept (t' := s'.toks) fun b u e => ?_, ⟨t', rfl⟩, q⟩
    refine hmv.heap b u (fun hmem => ?_) (Heap.get?_push_of_some _ (k1 b u e))
    have e1 : b = (s1.heap.push { cls := .type "dict_values", data := .fields #[.ref a] }).objs.size := List.mem_singleton.mp hmem
    have e2 := Heap.lt_size e
    rw [hsz2] at e1
    rw [e1] at e2
    exact absurd e2 (Nat.not_lt.mpr (Nat.le_succ _))
end
end Ob
set_option Elab.async false
set_option linter.all false
set_option maxRecDepth 100000
set_option maxHeartbeats 4000000
/-! Cl: own classes: an instance that doesn't change any more is data; an instance while its __init__ runs; fields, methods, making. -/
namespace Ob
open PySem L2
open Evl (Ex)
open PySem.W (Datum Tup DatumOrd)
/-- an own class: its attributes' names -/
structure ClsF (K : PySem.W.Frag) (ns : List Str) where
  C : Addr
  cl : Cls K C
  no : ∀ f ∈ ns, NoAttr K C f
/-! ### attributes with their types -/
inductive Flds (K : PySem.W.Frag) (B : Hp) : List (Str × V) → List (Str × Cell) → Prop where
  | nil : Flds K B [] []
  | cons {a : Str × V} {b : Str × Cell} {fs : List (Str × V)} {fz : List (Str × Cell)} (h : a.1 = b.1 ∧ @Rep.at_ b.2.α b.2.inst K B a.2 b.2.x) (t : Flds K B fs fz) : Flds K B (a :: fs) (b :: fz)
abbrev fc {α : Type} [r : Rep α] (f : Str) (x : α) : Str × Cell := (f, ⟨α, r, x⟩)
section
variable {K : PySem.W.Frag} {B B' H : Hp} {fs : List (Str × V)} {fz : List (Str × Cell)}
theorem Flds.monoR (e : ExR B B') (h : Flds K B fs fz) : Flds K B' fs fz := by
  induction h with
  | nil => exact .nil
  | @cons a b fs fz q t ih => exact .cons ⟨q.1, @Rep.monoR b.2.α b.2.inst _ _ _ _ _ e q.2⟩ ih
theorem Flds.mono (e : Ex B B') (h : Flds K B fs fz) : Flds K B' fs fz := h.monoR (ExR.of e)
theorem Flds.at_ : ∀ {fs : List (Str × V)} {fz : List (Str × Cell)}, Flds K B fs fz → (fz.map (·.1)).Nodup → ∀ {i : Nat} {f : Str} {d : Cell}, fz[i]? = some (f, d) → ∃ u, fs.lookup f = some u ∧ @Rep.at_ d.α d.inst K B u d.x
  | _, _, .nil, _, _, _, _, h => by simp at h
  | (a, u) :: fs, (b, e) :: fz, .cons ⟨q, r⟩ t, nd, 0, f, d, h => by
    have h' : b = f ∧ e = d := by simpa using h
    obtain ⟨rfl, rfl⟩ := h'
    have q' : a = b := q
    subst q'
    exact ⟨u, by rw [List.lookup_cons, beq_self_eq_true], r⟩
  | (a, u) :: fs, (b, e) :: fz, .cons ⟨q, r⟩ t, nd, i + 1, f, d, h => by
    have q' : a = b := q
    subst q'
    have h' : fz[i]? = some (f, d) := by simpa using h
    rw [List.map_cons, List.nodup_cons] at nd
    obtain ⟨u', h1, h2⟩ := Flds.at_ t nd.2 h'
    have hne : f ≠ a := fun z => nd.1 (z ▸ List.mem_map.mpr ⟨(f, d), List.mem_of_getElem? h', rfl⟩)
    exact ⟨u', by rw [List.lookup_cons, beq_eq_false_iff_ne.mpr hne]; exact h1, h2⟩
theorem Flds.len (h : Flds K B fs fz) : fs.length = fz.length := by
  induction h with
  | nil => rfl
  | cons q t ih => exact congrArg (· + 1) ih
theorem Flds.snoc : ∀ {fs : List (Str × V)} {fz : List (Str × Cell)}, Flds K B fs fz → ∀ {f : Str} {u : V} {d : Cell}, @Rep.at_ d.α d.inst K B u d.x → Flds K B (fs ++ [(f, u)]) (fz ++ [(f, d)])
  | _, _, .nil, _, _, _, h => .cons ⟨rfl, h⟩ .nil
  | _, _, .cons q t, _, _, _, h => .cons q (Flds.snoc t h)
end
/-- an instance, by what its attributes hold -/
structure ObjP where
  C : Addr
  P : PySem.W.Frag → Hp → List (Str × V) → Prop
  mono : ∀ {K : PySem.W.Frag} {H H' : Hp} {fs : List (Str × V)}, ExR H H' → P K H fs → P K H' fs
instance : Rep ObjP := ⟨fun K H v o => ∃ p dx fs, v = .ref p ∧ H p = some (.ins o.C dx fs) ∧ o.P K H fs, fun {K H H' v x} e ⟨p, dx, fs, h1, h2, h3⟩ => ⟨p, dx, fs, h1, e.2.2 _ _ _ _ h2, x.mono e h3⟩⟩
def objF (C : Addr) (fz : List (Str × Cell)) : ObjP := ⟨C, fun K H fs => Flds K H fs fz, fun e h => h.monoR e⟩
/-- an instance that its __init__ fills -/
def insC (K : PySem.W.Frag) (p C dx : Addr) (fz : List (Str × Cell)) : OC := ⟨p, fun B o => ∃ fs, o = .ins C dx fs ∧ Flds K B fs fz, fun e ⟨fs, h1, h2⟩ => ⟨fs, h1, h2.mono e⟩⟩
section
variable {K : PySem.W.Frag} {W0 : List Addr} {B0 H0 : Hp} {os : List OC} {Γ : List (Option Cell)} {σ : L2.St} {B H B1 H1 : Hp} {te ta tb tc td tk tv : TE} {tt : TT} {D : Ends} {tu tw tz : TS} {ns : List Str} {Cw : ClsF K ns} {fz : List (Str × Cell)} {f : Str} {E : XK}
theorem St.ins {k : Nat} {p dx C : Addr} (s : St K W0 B0 H0 os Γ σ B H) (h : os[k]? = some (insC K p C dx fz)) : B p = none ∧ ∃ fs, H p = some (.ins C dx fs) ∧ Flds K B fs fz := by
  obtain ⟨h1, _, x, h3, fs, rfl, h4⟩ := s.own _ (List.mem_of_getElem? h)
  exact ⟨h1, fs, h3, h4⟩
end
/-! ### reading an instance that is being filled -/
section
variable {K : PySem.W.Frag} {H H' : Hp}
mutual
theorem dq_mono0 (e1 : ∀ a u, plainO u = true → Rd H a u → Rd H' a u) (e2 : ∀ a us, H a = some (.tup us) → H' a = some (.tup us)) : ∀ (d : PyData) (v : V), Dq K H v d → Dq K H' v d
  | .none, _, h => by cases h; exact .non
  | .bool _, _, h => by cases h; exact .bl _
  | .int _, _, h => by cases h; exact .int _
  | .str _, _, h => by cases h; exact .str _
  | .list ds, _, h => by
    cases h with
    | lst a b => exact .lst (a.imp (fun h => e1 _ _ rfl h) id) (dqAll_mono0 e1 e2 ds _ b)
  | .tuple ds, _, h => by
    cases h with
    | tup a b => exact .tup (e2 _ _ a) (dqAll_mono0 e1 e2 ds _ b)
  | .dict _, _, h => by cases h
theorem dqAll_mono0 (e1 : ∀ a u, plainO u = true → Rd H a u → Rd H' a u) (e2 : ∀ a us, H a = some (.tup us) → H' a = some (.tup us)) : ∀ (ds : List PyData) (vs : List V), DqAll K H vs ds → DqAll K H' vs ds
  | [], _, h => by cases h; exact .nil
  | d :: ds, _, h => by
    cases h with
    | cons a b => exact .cons (dq_mono0 e1 e2 d _ a) (dqAll_mono0 e1 e2 ds _ b)
end
theorem cut_ins {B : Hp} {p C dx : Addr} {fs : List (Str × V)} (h : B p = some (.ins C dx fs)) : (∀ a u, plainO u = true → Rd B a u → Rd (cutH B p) a u) ∧ ∀ a us, B a = some (.tup us) → cutH B p a = some (.tup us) := by
  refine ⟨fun a u hp hr => ?_, fun a us ha => ?_⟩
  · have ne : a ≠ p := fun z => by
      subst z
      rcases hr with hr | ⟨o, hr⟩
      · rw [h] at hr
        cases hr
        cases hp
      · rw [h] at hr
        cases hr
    rcases hr with hr | ⟨o, hr⟩
    · exact .inl (by rw [cutH_ne ne]; exact hr)
    · exact .inr ⟨o, by rw [cutH_ne ne]; exact hr⟩
  · have ne : a ≠ p := fun z => by
      subst z
      rw [h] at ha
      cases ha
    rw [cutH_ne ne]
    exact ha
end
/-- data in which no instance lies -/
class ThawI (α : Type) [Rep α] : Prop where
  thaw : ∀ {K : PySem.W.Frag} {B : Hp} {p C dx : Addr} {fs : List (Str × V)} {v : V} {x : α}, B p = some (.ins C dx fs) → Rep.at_ K B v x → Rep.at_ K (cutH B p) v x
instance {α : Type} [DecidableEq α] [Datum α] : ThawI α := ⟨fun h hv => dq_mono0 (cut_ins h).1 (cut_ins h).2 _ _ hv⟩
instance {α : Type} [Rep α] [ThawI α] : ThawI (Dic α) := ⟨fun h ⟨a, ks, h1, h2, hz, h3⟩ => ⟨a, ks, h1, (cut_ins h).1 a _ rfl h2, hz, Paired.mapP h3 fun _ _ q => ⟨q.1, ThawI.thaw h q.2⟩⟩⟩
/-! ### __init__ of three, of two, of one parameter beside self -/
section
variable {α β γ : Type} [Rep α] [Rep β] [Rep γ]
def FnI1 (K : PySem.W.Frag) (C : Addr) (pre : α → Prop) (fz : α → List (Str × Cell)) : Sp := fun vs H Q _ => ∃ p dx x B, (∃ r, vs = .ref p :: r ∧ RCons K x RNil r B) ∧ Ex B H ∧ B p = none ∧ H p = some (.ins C dx []) ∧ pre x ∧ ∀ fs B2 H2, Ub p B H B2 H2 → B2 p = none → H2 p = some (.ins C dx fs) → Flds K B2 fs (fz x) → Q .non H2
def FnI2 (K : PySem.W.Frag) (C : Addr) (pre : α → β → Prop) (fz : α → β → List (Str × Cell)) : Sp := fun vs H Q _ => ∃ p dx x y B, (∃ r, vs = .ref p :: r ∧ RCons K x (RCons K y RNil) r B) ∧ Ex B H ∧ B p = none ∧ H p = some (.ins C dx []) ∧ pre x y ∧ ∀ fs B2 H2, Ub p B H B2 H2 → B2 p = none → H2 p = some (.ins C dx fs) → Flds K B2 fs (fz x y) → Q .non H2
def FnI3 (K : PySem.W.Frag) (C : Addr) (pre : α → β → γ → Prop) (fz : α → β → γ → List (Str × Cell)) : Sp := fun vs H Q _ => ∃ p dx x y z B, (∃ r, vs = .ref p :: r ∧ RCons K x (RCons K y (RCons K z RNil)) r B) ∧ Ex B H ∧ B p = none ∧ H p = some (.ins C dx []) ∧ pre x y z ∧ ∀ fs B2 H2, Ub p B H B2 H2 → B2 p = none → H2 p = some (.ins C dx fs) → Flds K B2 fs (fz x y z) → Q .non H2
end
section
variable {K : PySem.W.Frag} {W0 : List Addr} {B0 H0 : Hp} {os : List OC} {Γ : List (Option Cell)} {σ : L2.St} {B H B1 H1 : Hp} {te ta tb tc td tk tv : TE} {C : Addr} {E : XK} {vs : List V} {Q : VK}
variable {α β γ δ : Type} [Rep α] [Rep β] [Rep γ] [Rep δ] {pre1 : α → Prop} {fz1 : α → List (Str × Cell)} {pre2 : α → β → Prop} {fz2 : α → β → List (Str × Cell)} {pre : α → β → γ → Prop} {fz : α → β → γ → List (Str × Cell)}
theorem FnI1.len (vs : List V) (H : Hp) (Q : VK) (E : XK) (h : FnI1 K C pre1 fz1 vs H Q E) : vs.length = 2 := by
  obtain ⟨p, dx, x, B, ⟨r, rfl, v, _, rfl, _, rfl⟩, _⟩ := h
  rfl
theorem FnI2.len (vs : List V) (H : Hp) (Q : VK) (E : XK) (h : FnI2 K C pre2 fz2 vs H Q E) : vs.length = 3 := by
  obtain ⟨p, dx, x, y, B, ⟨r, rfl, v, _, rfl, _, w, _, rfl, _, rfl⟩, _⟩ := h
  rfl
theorem FnI3.len (vs : List V) (H : Hp) (Q : VK) (E : XK) (h : FnI3 K C pre fz vs H Q E) : vs.length = 4 := by
  obtain ⟨p, dx, x, y, z, B, ⟨r, rfl, v, _, rfl, _, w, _, rfl, _, u, _, rfl, _, rfl⟩, _⟩ := h
  rfl
theorem St.startI {p dx : Addr} (e : Ex B H) (hb : B p = none) (hp : H p = some (.ins C dx [])) (s : Slots K B σ Γ) : St K [p] B H [insC K p C dx []] Γ σ B H :=
  ⟨Ex.refl B, e, fun _ _ _ h => h, fun _ h => h, fun _ h => .inl h, fun o ho => by
    rw [List.mem_singleton.mp ho]
    exact ⟨hb, .inl (by simp [insC]), _, hp, [], rfl, .nil⟩, by simp, s⟩
theorem FnI1.st (h : FnI1 K C pre1 fz1 vs H Q E) (N : List Str) : ∃ p dx x B, pre1 x ∧ St K [p] B H [insC K p C dx []] ([ca p, ce x] ++ List.replicate (N.length - 2) none) (start N vs) B H ∧
    ∀ (k : Nat) (os : List OC) Γ σ B2 H2, os[k]? = some (insC K p C dx (fz1 x)) → St K [p] B H os Γ σ B2 H2 → Q .non H2 := by
  obtain ⟨p, dx, x, B, ⟨r, rfl, v, _, rfl, h1, rfl⟩, e, hb, hp, hpre, q⟩ := h
  refine ⟨p, dx, x, B, hpre, St.startI e hb hp (start_slots [.ref p, v] [ca p, ce x] _ (.cons (At1.some rfl) (.cons (At1.some h1) .nil))), fun k os Γ σ B2 H2 hk s => ?_⟩
  obtain ⟨g1, fs, g2, g3⟩ := s.ins hk
  exact q fs B2 H2 s.toUb g1 g2 g3
theorem FnI2.st (h : FnI2 K C pre2 fz2 vs H Q E) (N : List Str) : ∃ p dx x y B, pre2 x y ∧ St K [p] B H [insC K p C dx []] ([ca p, ce x, ce y] ++ List.replicate (N.length - 3) none) (start N vs) B H ∧
    ∀ (k : Nat) (os : List OC) Γ σ B2 H2, os[k]? = some (insC K p C dx (fz2 x y)) → St K [p] B H os Γ σ B2 H2 → Q .non H2 := by
  obtain ⟨p, dx, x, y, B, ⟨r, rfl, v, _, rfl, h1, w, _, rfl, h2, rfl⟩, e, hb, hp, hpre, q⟩ := h
  refine ⟨p, dx, x, y, B, hpre, St.startI e hb hp (start_slots [.ref p, v, w] [ca p, ce x, ce y] _ (.cons (At1.some rfl) (.cons (At1.some h1) (.cons (At1.some h2) .nil)))), fun k os Γ σ B2 H2 hk s => ?_⟩
  obtain ⟨g1, fs, g2, g3⟩ := s.ins hk
  exact q fs B2 H2 s.toUb g1 g2 g3
theorem FnI3.st (h : FnI3 K C pre fz vs H Q E) (N : List Str) : ∃ p dx x y z B, pre x y z ∧ St K [p] B H [insC K p C dx []] ([ca p, ce x, ce y, ce z] ++ List.replicate (N.length - 4) none) (start N vs) B H ∧
    ∀ (k : Nat) (os : List OC) Γ σ B2 H2, os[k]? = some (insC K p C dx (fz x y z)) → St K [p] B H os Γ σ B2 H2 → Q .non H2 := by
  obtain ⟨p, dx, x, y, z, B, ⟨r, rfl, v, _, rfl, h1, w, _, rfl, h2, u, _, rfl, h3, rfl⟩, e, hb, hp, hpre, q⟩ := h
  refine ⟨p, dx, x, y, z, B, hpre, St.startI e hb hp (start_slots [.ref p, v, w, u] [ca p, ce x, ce y, ce z] _ (.cons (At1.some rfl) (.cons (At1.some h1) (.cons (At1.some h2) (.cons (At1.some h3) .nil))))), fun k os Γ σ B2 H2 hk s => ?_⟩
  obtain ⟨g1, fs, g2, g3⟩ := s.ins hk
  exact q fs B2 H2 s.toUb g1 g2 g3
end
/-! ### methods -/
end Ob
set_option Elab.async false
set_option linter.all false
set_option maxRecDepth 100000
set_option maxHeartbeats 4000000
/-! Oc: readings that change one known object (a memo) and else allocate only; sums. -/
namespace Ob
open PySem L2
open Evl (Ex)
open PySem.W (Datum Tup DatumOrd)
/-- the object o stands there, not frozen -/
def OAt (o : OC) (B H : Hp) : Prop := B o.l = none ∧ ∃ ob, H o.l = some ob ∧ o.P B ob
section
variable {o : OC} {B H B1 H1 : Hp}
theorem OAt.ne (t : OAt o B H) : H o.l ≠ none := by
  obtain ⟨_, ob, h, _⟩ := t
  rw [h]
  exact fun z => nomatch z
theorem OAt.up (t : OAt o B H) (u : Up B H B1 H1) : OAt o B1 H1 := by
  obtain ⟨h1, ob, h2, h3⟩ := t
  exact ⟨(u.out h1 h2).1, ob, (u.out h1 h2).2, o.mono u.bb h3⟩
theorem OAt.put {a : Addr} {x : HO} (t : OAt o B H) (ne : o.l ≠ a) : OAt o B (upd H a x) := by
  obtain ⟨h1, ob, h2, h3⟩ := t
  exact ⟨h1, ob, by rw [upd_ne ne]; exact h2, h3⟩
theorem OAt.frz {a : Addr} {x : HO} (t : OAt o B H) (ne : o.l ≠ a) (e : Ex B (upd B a x)) : OAt o (upd B a x) H := by
  obtain ⟨h1, ob, h2, h3⟩ := t
  exact ⟨by rw [upd_ne ne]; exact h1, ob, h2, o.mono e h3⟩
end
/-- a reading behind which the object may have changed -/
def PqO {α : Type} [Rep α] (K : PySem.W.Frag) (o : OC) (te : TE) (σ : L2.St) (B : Hp) (R : α → Prop) : Prop := ∀ H, Ex B H → OAt o B H → ∀ Q : VK, (∀ v x B2 H2, Ub o.l B H B2 H2 → OAt o B2 H2 → R x → Rep.at_ K B2 v x → Q v H2) → te σ H Q
section
variable {K : PySem.W.Frag} {W0 : List Addr} {B0 H0 : Hp} {os : List OC} {Γ : List (Option Cell)} {σ : L2.St} {B H B1 H1 : Hp} {te ta tb tc td tk tv : TE} {tt tt1 : TT} {D : Ends} {tu tw tz : TS} {o : OC}
theorem PqO.sum {R : List Int → Prop} (h : PqO K o te σ B R) : PqO K o (tCB (rSum K) (tCons te tNil)) σ B (fun z : Int => ∃ xs, R xs ∧ z = xs.sum) := fun H e t Q c =>
  h H e t _ fun v xs B1 H1 u t1 r hv => by
    obtain ⟨a, vs, rfl, hs, hx⟩ := at_list.mp hv
    exact ⟨a, xs, rfl, by rw [← atAll_ints hx]; exact Evl.ex_l u.bh hs, c _ xs.sum B1 H1 u t1 ⟨xs, r, rfl⟩ (at_int.mpr rfl)⟩
end
/-! ### a memo: a dict from tuples of texts to numbers, each the value of f -/
structure MemI (base : List Str) (xs : List (List Str)) : Prop where
  nd : xs.Nodup
  sub : ∀ x ∈ xs, x.Sublist base
  emp : [] ∈ xs
/-- all sublists -/
def subsL : List Str → List (List Str)
  | [] => [[]]
  | x :: xs => subsL xs ++ (subsL xs).map (x :: ·)
theorem mem_subsL : ∀ {xs ys : List Str}, ys.Sublist xs → ys ∈ subsL xs
  | [], ys, h => by
    rw [List.sublist_nil.mp h]
    exact List.mem_singleton.mpr rfl
  | x :: xs, ys, h => by
    unfold subsL
    cases h with
    | cons _ h => exact List.mem_append.mpr (.inl (mem_subsL h))
    | cons_cons _ h => exact List.mem_append.mpr (.inr (List.mem_map.mpr ⟨_, mem_subsL h, rfl⟩))
theorem subsL_len : ∀ xs : List Str, (subsL xs).length = 2 ^ xs.length
  | [] => rfl
  | x :: xs => by
    unfold subsL
    rw [List.length_append, List.length_map, subsL_len xs, List.length_cons, Nat.pow_succ]
    omega
theorem MemI.len {base : List Str} {xs : List (List Str)} (h : MemI base xs) : xs.length ≤ 2 ^ base.length := by
  rw [← subsL_len]
  exact h.nd.length_le_of_subset fun x hx => mem_subsL (h.sub x hx)
theorem MemI.put {base : List Str} {xs : List (List Str)} {x : List Str} (h : MemI base xs) (hx : x.Sublist base) : MemI base (if x ∈ xs then xs else xs ++ [x]) := by
  by_cases e : x ∈ xs
  · rw [if_pos e]
    exact h
  · rw [if_neg e]
    refine ⟨List.nodup_append.mpr ⟨h.nd, by simp, fun a ha b hb z => ?_⟩, fun y hy => ?_, List.mem_append.mpr (.inl h.emp)⟩
    · rw [List.mem_singleton.mp hb] at z
      exact e (z ▸ ha)
    · rcases List.mem_append.mp hy with hy | hy
      · exact h.sub y hy
      · rw [List.mem_singleton.mp hy]
        exact hx
end Ob
set_option Elab.async false
set_option linter.all false
set_option maxRecDepth 100000
set_option maxHeartbeats 4000000
/-! M17: section 6: ways round; what is surely before what; the order that has it the other way round. Plain Lean. -/
set_option Elab.async false
set_option linter.all false
set_option maxRecDepth 100000
set_option maxHeartbeats 4000000
/-! Y1a: look_pressed; can_leave, whatever the sets. -/
set_option Elab.async false
set_option linter.all false
set_option maxRecDepth 100000
set_option maxHeartbeats 4000000
/-! Or: class Orders: orders counted from the last press back; orders_many. -/
namespace Ob
open PySem L2
open Evl (Ex)
open PySem.W (Datum Tup DatumOrd)
/-! ### what is counted -/
/-! ### the object -/
structure OrdersW where
  own : Dic (List Str)
  lit : List Str
structure OrdersO (C : Addr) where
  w : OrdersW
  l : Addr
abbrev ordersF (w : OrdersW) (l : Addr) : List (Str × Cell) := [fc "own_rivals" w.own, fc "own_lit" w.lit, fc "own_known" (Any.mk (.ref l))]
instance {C : Addr} : Rep (OrdersO C) := ⟨fun K H v x => Rep.at_ K H v (objF C (ordersF x.w x.l)), fun {K H H' v x} e h => Rep.monoR (x := objF C (ordersF x.w x.l)) e h⟩
end Ob
set_option Elab.async false
set_option linter.all false
set_option maxRecDepth 100000
set_option maxHeartbeats 1000000
/-! M23: orders of some switches, from the last press back: how many leave exactly these on. Plain. -/
set_option Elab.async false
set_option linter.all false
set_option maxRecDepth 100000
set_option maxHeartbeats 1000000
/-! Or2: orders_many gives how many orders there are. -/
set_option Elab.async false
set_option linter.all false
set_option maxRecDepth 100000
set_option maxHeartbeats 1000000
/-! M40: a set that can stay on is left by some order (as M24's, without the classes' texts). Plain. -/
set_option Elab.async false
set_option linter.all false
set_option maxRecDepth 100000
set_option maxHeartbeats 1000000
/-! M34a (split off M34): the order of lists of names, sorted lists of lists. Plain. -/
namespace Ob
open PySem L2
open PySem.W (Datum Tup DatumOrd listLt)
theorem bnot {b : Bool} (h : (!b) = true) : b = false := by
  cases b with
  | false => rfl
  | true => cases h
theorem lst_irr : ∀ xs : List Str, listLt xs xs = false
  | [] => rfl
  | x :: xs => by rw [listLt, if_pos rfl]; exact lst_irr xs
theorem lst_tri : ∀ xs ys : List Str, listLt xs ys = true ∨ xs = ys ∨ listLt ys xs = true
  | [], [] => .inr (.inl rfl)
  | [], _ :: _ => .inl rfl
  | _ :: _, [] => .inr (.inr rfl)
  | x :: xs, y :: ys => by
    by_cases h : x = y
    · subst h
      rw [listLt, if_pos rfl, listLt, if_pos rfl]
      rcases lst_tri xs ys with a | a | a
      · exact .inl a
      · exact .inr (.inl (by rw [a]))
      · exact .inr (.inr a)
    · rw [listLt, if_neg h, listLt, if_neg fun e => h e.symm]
      rcases ltS_tri x y with a | a | a
      · exact .inl a
      · exact absurd a h
      · exact .inr (.inr a)
theorem lst_tr : ∀ {xs ys zs : List Str}, listLt xs ys = true → listLt ys zs = true → listLt xs zs = true
  | _, [], [], _, k => by cases k
  | [], [], _ :: _, h, _ => by cases h
  | _ :: _, [], _, h, _ => by cases h
  | _, _ :: _, [], _, k => by cases k
  | [], _ :: _, _ :: _, _, _ => rfl
  | x :: xs, y :: ys, z :: zs, h, k => by
    rw [listLt] at h k ⊢
    by_cases e1 : x = y
    · subst e1
      rw [if_pos rfl] at h
      by_cases e2 : x = z
      · rw [if_pos e2] at k ⊢
        exact lst_tr h k
      · rw [if_neg e2] at k ⊢
        exact k
    · rw [if_neg e1] at h
      by_cases e2 : y = z
      · subst e2
        rw [if_neg e1]
        exact h
      · rw [if_neg e2] at k
        have hxz : ltS x z = true := ltS_tr h k
        rw [if_neg fun e => by rw [e, ltS_irr] at hxz; cases hxz]
        exact hxz
theorem lst_asy {xs ys : List Str} (h : listLt xs ys = true) : listLt ys xs = false := by
  cases e : listLt ys xs with
  | false => rfl
  | true => exact absurd (lst_tr h e) (by rw [lst_irr]; decide)
end Ob
set_option Elab.async false
set_option linter.all false
set_option maxRecDepth 100000
set_option maxHeartbeats 4000000
/-! Ix (split off Y5): xs.index(x). -/
set_option Elab.async false
set_option linter.all false
set_option maxRecDepth 100000
set_option maxHeartbeats 4000000
/-! Y1: look_pressed, can_leave, look_order, look_both, is_order. -/
set_option Elab.async false
set_option linter.all false
set_option maxRecDepth 100000
set_option maxHeartbeats 4000000
/-! M18: a search for a path, level by level. Plain Lean. -/
namespace Ob
open PySem L2
open PySem.W (Datum Tup DatumOrd)
structure WPath (rv : Str → List Str) (ins seen : List Str) (st : Str) (w : List Str) : Prop where
  nd : w.Nodup
  mem : ∀ x ∈ w, x ∈ ins ∧ x ∈ seen
  first : w[0]? = some st
  chain : ∀ i x y, w[i]? = some x → w[i + 1]? = some y → y ∈ rv x
  last : ∃ x, w[w.length - 1]? = some x ∧ Reach rv ins st x
section
variable {rv : Str → List Str} {ins es seen : List Str} {st : Str} {W : List (List Str)} {at_ : Nat}
theorem WPath.up {w : List Str} {z : Str} (h : WPath rv ins seen st w) : WPath rv ins (seen ++ [z]) st w := ⟨h.nd, fun x hx => ⟨(h.mem x hx).1, List.mem_append_left _ (h.mem x hx).2⟩, h.first, h.chain, h.last⟩
end
end Ob
set_option Elab.async false
set_option linter.all false
set_option maxRecDepth 100000
set_option maxHeartbeats 4000000
/-! Y2: path_to, way_round, surely_before. -/
namespace Ob
open PySem L2
open Evl (Ex)
open PySem.W (Datum Tup DatumOrd)
section
variable {α β γ δ ε ζ : Type} [Rep α] [Rep β] [Rep γ] [Rep δ] [Rep ε] [Rep ζ] {K : PySem.W.Frag} {vs : List V} {Q : VK} {E : XK} {σ : L2.St} {B H : Hp} {ta tb tc td tf : TE}
def Fn4R (K : PySem.W.Frag) (pre : α → β → γ → δ → Prop) (R : α → β → γ → δ → ε → Prop) : Sp := fun vs H Q _ => ∃ x y z t B, Ex B H ∧ RCons K x (RCons K y (RCons K z (RCons K t RNil))) vs B ∧ pre x y z t ∧ ∀ v r B2 H2, Up B H B2 H2 → R x y z t r → Rep.at_ K B2 v r → Q v H2
theorem Fn4R.len {pre : α → β → γ → δ → Prop} {R : α → β → γ → δ → ε → Prop} (vs : List V) (H : Hp) (Q : VK) (E : XK) (h : Fn4R K pre R vs H Q E) : vs.length = 4 := by
  obtain ⟨x, y, z, t, B, e, ⟨v, r, rfl, h1, v2, r2, rfl, h2, v3, r3, rfl, h3, v4, r4, rfl, h4, rfl⟩, _⟩ := h
  rfl
theorem Fn4R.st {pre : α → β → γ → δ → Prop} {R : α → β → γ → δ → ε → Prop} (h : Fn4R K pre R vs H Q E) (N : List Str) : ∃ x y z t B, pre x y z t ∧ St K [] B H [] ([ce x, ce y, ce z, ce t] ++ List.replicate (N.length - 4) none) (start N vs) B H ∧ ∀ v r B2 H2, Up B H B2 H2 → R x y z t r → Rep.at_ K B2 v r → Q v H2 := by
  obtain ⟨x, y, z, t, B, e, ⟨v, _, rfl, h1, v2, _, rfl, h2, v3, _, rfl, h3, v4, _, rfl, h4, rfl⟩, hp, q⟩ := h
  exact ⟨x, y, z, t, B, hp, St.pure e (start_slots [v, v2, v3, v4] [ce x, ce y, ce z, ce t] _ (.cons (At1.some h1) (.cons (At1.some h2) (.cons (At1.some h3) (.cons (At1.some h4) .nil))))), q⟩
end
end Ob
set_option Elab.async false
set_option linter.all false
set_option maxRecDepth 100000
set_option maxHeartbeats 4000000
/-! Y3: way_round, surely_before. -/
namespace Ob
open PySem L2
open Evl (Ex)
open PySem.W (Datum Tup DatumOrd)
section
variable {α β γ δ ε ζ : Type} [Rep α] [Rep β] [Rep γ] [Rep δ] [Rep ε] [Rep ζ] {K : PySem.W.Frag} {vs : List V} {Q : VK} {E : XK} {σ : L2.St} {B H : Hp} {ta tb tc td tf te : TE}
def Fn5R (K : PySem.W.Frag) (pre : α → β → γ → δ → ε → Prop) (R : α → β → γ → δ → ε → ζ → Prop) : Sp := fun vs H Q _ => ∃ x y z t w B, Ex B H ∧ RCons K x (RCons K y (RCons K z (RCons K t (RCons K w RNil)))) vs B ∧ pre x y z t w ∧ ∀ v r B2 H2, Up B H B2 H2 → R x y z t w r → Rep.at_ K B2 v r → Q v H2
theorem Fn5R.len {pre : α → β → γ → δ → ε → Prop} {R : α → β → γ → δ → ε → ζ → Prop} (vs : List V) (H : Hp) (Q : VK) (E : XK) (h : Fn5R K pre R vs H Q E) : vs.length = 5 := by
  obtain ⟨x, y, z, t, w, B, e, ⟨v, r, rfl, h1, v2, r2, rfl, h2, v3, r3, rfl, h3, v4, r4, rfl, h4, v5, r5, rfl, h5, rfl⟩, _⟩ := h
  rfl
theorem Fn5R.st {pre : α → β → γ → δ → ε → Prop} {R : α → β → γ → δ → ε → ζ → Prop} (h : Fn5R K pre R vs H Q E) (N : List Str) : ∃ x y z t w B, pre x y z t w ∧ St K [] B H [] ([ce x, ce y, ce z, ce t, ce w] ++ List.replicate (N.length - 5) none) (start N vs) B H ∧ ∀ v r B2 H2, Up B H B2 H2 → R x y z t w r → Rep.at_ K B2 v r → Q v H2 := by
  obtain ⟨x, y, z, t, w, B, e, ⟨v, _, rfl, h1, v2, _, rfl, h2, v3, _, rfl, h3, v4, _, rfl, h4, v5, _, rfl, h5, rfl⟩, hp, q⟩ := h
  exact ⟨x, y, z, t, w, B, hp, St.pure e (start_slots [v, v2, v3, v4, v5] [ce x, ce y, ce z, ce t, ce w] _ (.cons (At1.some h1) (.cons (At1.some h2) (.cons (At1.some h3) (.cons (At1.some h4) (.cons (At1.some h5) .nil)))))), q⟩
end
/-! plain -/
end Ob
set_option Elab.async false
set_option linter.all false
set_option maxRecDepth 100000
set_option maxHeartbeats 4000000
/-! Y4: laid_round. -/
namespace Ob
open PySem L2
open Evl (Ex)
open PySem.W (Datum Tup DatumOrd)
section
variable {α β γ δ ε ζ : Type} [Rep α] [Rep β] [Rep γ] [Rep δ] [Rep ε] [Rep ζ] {K : PySem.W.Frag} {vs : List V} {Q : VK} {E : XK} {σ : L2.St} {B H : Hp} {ta tb tc td tf te : TE} {qn : Str} {Pt : Addr}
def FnT5R (K : PySem.W.Frag) (qn : Str) (Pt : Addr) (pre : α → β → γ → δ → ε → Prop) (R : α → β → γ → δ → ε → ζ → Prop) : Sp := fun vs H Q _ => ∃ x y z t w B, Ex B H ∧ LtAt qn B H Pt ∧ RCons K x (RCons K y (RCons K z (RCons K t (RCons K w RNil)))) vs B ∧ pre x y z t w ∧ ∀ v r B2 H2, Ub Pt B H B2 H2 → LtAt qn B2 H2 Pt → R x y z t w r → Rep.at_ K B2 v r → Q v H2
theorem FnT5R.len {pre : α → β → γ → δ → ε → Prop} {R : α → β → γ → δ → ε → ζ → Prop} (vs : List V) (H : Hp) (Q : VK) (E : XK) (h : FnT5R K qn Pt pre R vs H Q E) : vs.length = 5 := by
  obtain ⟨x, y, z, t, w, B, e, _, ⟨v, r, rfl, h1, v2, r2, rfl, h2, v3, r3, rfl, h3, v4, r4, rfl, h4, v5, r5, rfl, h5, rfl⟩, _⟩ := h
  rfl
theorem FnT5R.st {pre : α → β → γ → δ → ε → Prop} {R : α → β → γ → δ → ε → ζ → Prop} (h : FnT5R K qn Pt pre R vs H Q E) (N : List Str) : ∃ x y z t w B, pre x y z t w ∧ St K [Pt] B H [tabC qn Pt] ([ce x, ce y, ce z, ce t, ce w] ++ List.replicate (N.length - 5) none) (start N vs) B H ∧ ∀ v r B2 H2, Ub Pt B H B2 H2 → LtAt qn B2 H2 Pt → R x y z t w r → Rep.at_ K B2 v r → Q v H2 := by
  obtain ⟨x, y, z, t, w, B, e, tb, ⟨v, _, rfl, h1, v2, _, rfl, h2, v3, _, rfl, h3, v4, _, rfl, h4, v5, _, rfl, h5, rfl⟩, hp, q⟩ := h
  exact ⟨x, y, z, t, w, B, hp, St.startT e tb (start_slots [v, v2, v3, v4, v5] [ce x, ce y, ce z, ce t, ce w] _ (.cons (At1.some h1) (.cons (At1.some h2) (.cons (At1.some h3) (.cons (At1.some h4) (.cons (At1.some h5) .nil)))))), q⟩
end
section
variable {K : PySem.W.Frag} {W0 : List Addr} {B0 H0 : Hp} {os : List OC} {Γ : List (Option Cell)} {σ : L2.St} {B H : Hp} {te : TE} {tt : TT} {D : Ends} {tz : TS} {qn : Str} {P0 : Addr}
/-- name += [.. for ..] -/
theorem St.ext {γ β : Type} [Rep γ] [DecidableEq β] [Datum β] {wi : TI} {g : TG} {ns : List Nat} {xs : List γ} {i k : Nat} {l : Addr} {ys : List β} (f : γ → Bool) (y : γ → β) (s : St K W0 B0 H0 os Γ σ B H) (h : os[k]? = some (lstC K l ys)) (hi : cg Γ i = ca l) (hI : ItD K wi σ B xs) (hz : xs.length + ys.length ≤ 1000000)
    (ht : ∀ x ∈ xs, ∀ v B1, Ex B B1 → Rep.at_ K B1 v x → TurnD K g tt te ns σ B1 v (f x) (y x))
    (q : ∀ σ1 B1 H1, St K W0 B0 H0 (os.set k (lstC K l (ys ++ (xs.filter f).map y))) (cs Γ i (ca l)) σ1 B1 H1 → tz D σ1 H1) : tSeq (tAug i (tLc wi g tt te ns) rExt2) tz D σ H :=
  ⟨_, s.sl.rf i hi, lcU (Q := fun y H1 => rExt2 (.ref l) y H1 fun z H2 => tz D (σ.set i (some z)) H2) f y hI s.bh (by omega) ht fun D' ws B1 H1 u hD0 hDH hD hA => by
    have s1 := s.up u
    obtain ⟨_, vs, hl, hAl⟩ := s1.lst h
    refine ⟨l, D', vs, ws, rfl, rfl, hl, hD, ?_, ?_⟩
    · have h1 := hA.length
      rw [List.length_map] at h1
      have h2 := List.length_filter_le f xs
      rw [hAl.length, h1]
      exact Nat.le_trans (show ys.length + (xs.filter f).length ≤ 1000000 by omega) (by rw [sizeLine_eq]; decide)
    · exact q _ B1 _ (St.put (x := Any.mk (.ref l)) (s1.chg (o' := lstC K l (ys ++ (xs.filter f).map y)) (ob := .lst (vs ++ ws)) h rfl ⟨vs ++ ws, rfl, hAl.append hA⟩) i rfl)⟩
theorem Slots.lt (s : Slots K B σ Γ) {γ : Type} [Rep γ] {x : γ} {v : V} {B1 : Hp} {j : Nat} {β : Type} [Rep β] {b : Bool} {r : β} (b1 : Ex B B1) (hv : Rep.at_ K B1 v x) (ht : ∀ σ2, Slots K B1 σ2 (cs (cw Γ [j]) j (ce x)) → Pt tt σ2 B1 b ∧ (b = true → Pe K te σ2 B1 r)) : TurnD K (gName j) tt te [j] σ B1 v b r := by
  obtain ⟨h1, h2⟩ := ht _ ((s.mono b1).turn (j := j) hv)
  exact turn_name rfl (by rw [set_none_comm (List.mem_singleton.mpr rfl), wipe_wipe]) h1 h2
end
end Ob
set_option Elab.async false
set_option linter.all false
set_option maxRecDepth 100000
set_option maxHeartbeats 4000000
/-! Y5: counter_order, shows_counter. -/
namespace Ob
open PySem L2
open Evl (Ex)
open PySem.W (Datum Tup DatumOrd)
section
variable {α β γ δ ε ζ η : Type} [Rep α] [Rep β] [Rep γ] [Rep δ] [Rep ε] [Rep ζ] [Rep η] {K : PySem.W.Frag} {vs : List V} {Q : VK} {E : XK} {σ : L2.St} {B H : Hp} {ta tb tc td te tf : TE}
def Fn6 (K : PySem.W.Frag) (pre : α → β → γ → δ → ε → ζ → Prop) (f : α → β → γ → δ → ε → ζ → η) : Sp := fun vs H Q _ => ∃ x y z t w r B, Ex B H ∧ RCons K x (RCons K y (RCons K z (RCons K t (RCons K w (RCons K r RNil))))) vs B ∧ pre x y z t w r ∧ ∀ v B2 H2, Up B H B2 H2 → Rep.at_ K B2 v (f x y z t w r) → Q v H2
theorem Fn6.len {pre : α → β → γ → δ → ε → ζ → Prop} {f : α → β → γ → δ → ε → ζ → η} (vs : List V) (H : Hp) (Q : VK) (E : XK) (h : Fn6 K pre f vs H Q E) : vs.length = 6 := by
  obtain ⟨x, y, z, t, w, r, B, e, ⟨v, r, rfl, h1, v2, r2, rfl, h2, v3, r3, rfl, h3, v4, r4, rfl, h4, v5, r5, rfl, h5, v6, r6, rfl, h6, rfl⟩, _⟩ := h
  rfl
theorem Fn6.st {pre : α → β → γ → δ → ε → ζ → Prop} {f : α → β → γ → δ → ε → ζ → η} (h : Fn6 K pre f vs H Q E) (N : List Str) : ∃ x y z t w r B, pre x y z t w r ∧ St K [] B H [] ([ce x, ce y, ce z, ce t, ce w, ce r] ++ List.replicate (N.length - 6) none) (start N vs) B H ∧ ∀ v B2 H2, Up B H B2 H2 → Rep.at_ K B2 v (f x y z t w r) → Q v H2 := by
  obtain ⟨x, y, z, t, w, r, B, e, ⟨v, _, rfl, h1, v2, _, rfl, h2, v3, _, rfl, h3, v4, _, rfl, h4, v5, _, rfl, h5, v6, _, rfl, h6, rfl⟩, hp, q⟩ := h
  exact ⟨x, y, z, t, w, r, B, hp, St.pure e (start_slots [v, v2, v3, v4, v5, v6] [ce x, ce y, ce z, ce t, ce w, ce r] _ (.cons (At1.some h1) (.cons (At1.some h2) (.cons (At1.some h3) (.cons (At1.some h4) (.cons (At1.some h5) (.cons (At1.some h6) .nil))))))), q⟩
end
end Ob
set_option Elab.async false
set_option linter.all false
set_option maxRecDepth 100000
set_option maxHeartbeats 4000000
/-! M14: what is connected, step by step; what cuts the way from one switch to another one (k25). Plain Lean. -/
set_option Elab.async false
set_option linter.all false
set_option maxRecDepth 100000
set_option maxHeartbeats 4000000
/-! M16: the pairs that the wired family draws: no pair twice. Plain Lean. -/
namespace Ob
open PySem L2
open PySem.W (Datum Tup DatumOrd)
def TieP (os : List Str) (srt : Int) (k : Nat) (ps : List SS) : Prop := (∀ e ∈ ps, ∃ i j x y, i < j ∧ j < k ∧ os[j]? = some x ∧ os[i]? = some y ∧ e = mm x y ∧ (srt = 5 → j = i + 1)) ∧ ps.Nodup ∧ ps.length ≤ 20 * k
theorem tie_step {os : List Str} {srt : Int} {k : Nat} {ps : List SS} {x : Str} {mates : List Str} (nd : os.Nodup) (h : TieP os srt k ps) (hx : os[k]? = some x) (mn : mates.Nodup) (hm : ∀ m ∈ mates, ∃ i, i < k ∧ os[i]? = some m ∧ (srt = 5 → k = i + 1)) (hl : mates.length ≤ 20) : TieP os srt (k + 1) (ps ++ mates.map fun m => mm x m) := by
  obtain ⟨h1, h2, h3⟩ := h
  have ne : ∀ m ∈ mates, x ≠ m := fun m hm' e => by
    obtain ⟨i, hi, hio, _⟩ := hm m hm'
    rw [← e] at hio
    have := nd_idx nd hx hio
    omega
  refine ⟨fun e he => ?_, List.nodup_append.mpr ⟨h2, star_nd mn ne, fun a ha b hb e => ?_⟩, ?_⟩
  · rcases List.mem_append.mp he with he | he
    · obtain ⟨i, j, x', y, a1, a2, a3⟩ := h1 e he
      exact ⟨i, j, x', y, a1, by omega, a3⟩
    · obtain ⟨m, hm', rfl⟩ := List.mem_map.mp he
      obtain ⟨i, hi, hio, h5⟩ := hm m hm'
      exact ⟨i, k, x, m, hi, Nat.lt_succ_self k, hx, hio, rfl, h5⟩
  · obtain ⟨i, j, x', y, a1, a2, a3, a4, a5, _⟩ := h1 a ha
    obtain ⟨m, hm', rfl⟩ := List.mem_map.mp hb
    have n1 : x' ≠ y := fun z => by
      rw [← z] at a4
      have := nd_idx nd a3 a4
      omega
    rw [a5] at e
    rcases mm_inj n1 (ne m hm') e with ⟨z, _⟩ | ⟨_, z⟩
    · rw [z] at a3
      have := nd_idx nd hx a3
      omega
    · rw [z] at a4
      have := nd_idx nd hx a4
      omega
  · rw [List.length_append, List.length_map]
    omega
theorem tie_ring {os : List Str} {k : Nat} {ps : List SS} (nd : os.Nodup) (h : TieP os 5 k ps) {o l : Str} (ho : os[0]? = some o) (hl : os[os.length - 1]? = some l) (hn : 2 < os.length) : mm o l ∉ ps := fun hm => by
  obtain ⟨i, j, x, y, a1, a2, a3, a4, a5, a6⟩ := h.1 _ hm
  have e := a6 rfl
  have n1 : x ≠ y := fun z => by
    rw [← z] at a4
    have := nd_idx nd a3 a4
    omega
  have n2 : o ≠ l := fun z => by
    rw [z] at ho
    have := nd_idx nd ho hl
    omega
  rcases mm_inj n2 n1 a5 with ⟨z1, z2⟩ | ⟨z1, z2⟩
  · rw [z1] at ho
    rw [z2] at hl
    have := nd_idx nd a3 ho
    have := nd_idx nd a4 hl
    omega
  · rw [z1] at ho
    rw [z2] at hl
    have := nd_idx nd a4 ho
    have := nd_idx nd a3 hl
    omega
theorem tie_good {os ns : List Str} {srt : Int} {k : Nat} {ps : List SS} (nd : os.Nodup) (hp : ∀ x ∈ os, x ∈ ns) (h : TieP os srt k ps) : ∀ e ∈ ps, (e.1 ∈ ns ∧ e.2 ∈ ns) ∧ ltS e.1 e.2 = true := fun e he => by
  obtain ⟨i, j, x, y, a1, a2, a3, a4, a5, _⟩ := h.1 e he
  rw [a5]
  refine good_mm (hp _ (List.mem_of_getElem? a3)) (hp _ (List.mem_of_getElem? a4)) fun z => ?_
  rw [← z] at a4
  have := nd_idx nd a3 a4
  omega
/-- the mates of a name: of the names ahead of it, none twice -/
theorem mates_ok {os M : List Str} {srt : Int} {k : Nat} {y o z : Str} (nd : os.Nodup) (hk : 0 < k) (hl : os.length ≤ 14) (h1 : M.Sublist (os.take k)) (h2 : M ≠ [] → 1 ≤ srt ∧ srt ≤ 3) (hy : os[k - 1]? = some y) (ho : os[0]? = some o) (hz : ∃ i, i < k ∧ os[i]? = some z) :
    ((M ++ (if ngb false (decide (srt ∈ [(4 : Int), 5])) then [y] else []) ++ (if decide (srt = 6) then [o] else []) ++ (if decide (srt = 7) then [z] else [])).Nodup ∧
    (∀ m ∈ M ++ (if ngb false (decide (srt ∈ [(4 : Int), 5])) then [y] else []) ++ (if decide (srt = 6) then [o] else []) ++ (if decide (srt = 7) then [z] else []), ∃ i, i < k ∧ os[i]? = some m ∧ (srt = 5 → k = i + 1))) ∧
    (M ++ (if ngb false (decide (srt ∈ [(4 : Int), 5])) then [y] else []) ++ (if decide (srt = 6) then [o] else []) ++ (if decide (srt = 7) then [z] else [])).length ≤ 20 := by
  have hMl : M.length ≤ 14 := by
    have := h1.length_le
    have := List.length_take_le k os
    have : (os.take k).length ≤ os.length := by rw [List.length_take]; exact Nat.min_le_right _ _
    omega
  by_cases c : M = []
  · subst c
    by_cases c4 : srt ∈ [(4 : Int), 5]
    · have c4' : srt = 4 ∨ srt = 5 := by simpa using c4
      have n6 : ¬ srt = 6 := by omega
      have n7 : ¬ srt = 7 := by omega
      simp only [ngb, c4, n6, n7, decide_true, decide_false, if_true, if_false, List.nil_append, List.append_nil, Bool.false_eq_true]
      refine ⟨⟨by simp, fun m hm => ?_⟩, by simp⟩
      rw [List.mem_singleton.mp hm]
      exact ⟨k - 1, by omega, hy, fun _ => by omega⟩
    · have n5 : ¬ srt = 5 := fun h => c4 (by rw [h]; decide)
      by_cases c6 : srt = 6
      · have n7 : ¬ srt = 7 := by omega
        simp only [ngb, c4, n7, decide_true, decide_false, if_true, if_false, List.nil_append, List.append_nil, Bool.false_eq_true]
        rw [if_pos (decide_eq_true c6)]
        refine ⟨⟨by simp, fun m hm => ?_⟩, by simp⟩
        rw [List.mem_singleton.mp hm]
        exact ⟨0, hk, ho, fun h => absurd h n5⟩
      · simp only [ngb, c4, c6, decide_true, decide_false, if_true, if_false, List.nil_append, List.append_nil, Bool.false_eq_true]
        by_cases c7 : srt = 7
        · rw [if_pos (decide_eq_true c7)]
          refine ⟨⟨by simp, fun m hm => ?_⟩, by simp⟩
          rw [List.mem_singleton.mp hm]
          obtain ⟨i, hi, hio⟩ := hz
          exact ⟨i, hi, hio, fun h => absurd h n5⟩
        · rw [if_neg (by simpa using c7)]
          exact ⟨⟨.nil, fun m hm => nomatch hm⟩, by simp⟩
  · obtain ⟨a1, a2⟩ := h2 c
    have n4 : ¬ srt ∈ [(4 : Int), 5] := fun h => by
      have : srt = 4 ∨ srt = 5 := by simpa using h
      omega
    have n6 : ¬ srt = 6 := by omega
    have n7 : ¬ srt = 7 := by omega
    simp only [ngb, n4, n6, n7, decide_false, if_false, List.append_nil, Bool.false_eq_true]
    refine ⟨⟨(nd.sublist (List.take_sublist k os)).sublist h1, fun m hm => ?_⟩, by omega⟩
    obtain ⟨i, hi⟩ := List.getElem?_of_mem (h1.subset hm)
    rw [List.getElem?_take] at hi
    split at hi
    · rename_i hik
      exact ⟨i, hik, hi, fun h => by omega⟩
    · cases hi
end Ob
set_option Elab.async false
set_option linter.all false
set_option maxRecDepth 100000
set_option maxHeartbeats 4000000
/-! D8w: the wired family's panels, states, presses, subsets. -/
namespace Ob
open PySem L2
open Evl (Ex)
open PySem.W (Datum Tup DatumOrd)
section
variable {K : PySem.W.Frag} {σ : L2.St} {B H : Hp} {te ta tb tc : TE} {tt t1 t2 : TT} {b : Addr} {n m : Int}
/-- a test that draws -/
def Ptb (b : Addr) (n : Int) (tt : TT) (σ : L2.St) (B : Hp) (R : Bool → Prop) : Prop := ∀ H c, Ex B H → BoxAt c B H b → c + n ≤ 2 ^ 40 → ∀ Q : Bool → Hp → Prop, (∀ r B2 H2, Ub b B H B2 H2 → BoxAt (c + n) B2 H2 b → R r → Q r H2) → tt σ H Q
theorem ptb_test {R : Bool → Prop} (h : Pb K b n te σ B R) : Ptb b n (tTest te) σ B R := fun H c e bx hc Q q => h H c e bx hc _ fun v r B2 H2 u ub hr hv => ⟨r, at_bl.mp hv, q r B2 H2 u ub hr⟩
theorem Ptb.imp {R R' : Bool → Prop} (h : Ptb b n tt σ B R) (k : ∀ x, R x → R' x) : Ptb b n tt σ B R' := fun H c e bx hc Q q => h H c e bx hc Q fun r B2 H2 u ub hr => q r B2 H2 u ub (k r hr)
theorem Ptb.mono {R : Bool → Prop} (hm : ∀ {B'}, Ex B B' → Ptb b n tt σ B' R) {B' : Hp} (e : Ex B B') : Ptb b n tt σ B' R := hm e
theorem ptb_or {a : Bool} {R : Bool → Prop} (h1 : Pt t1 σ B a) (h2 : a = false → ∀ B', Ex B B' → Ptb b n t2 σ B' R) (h0 : a = true → R true) (hn : 0 ≤ n) : Ptb b n (tOr t1 t2) σ B R := fun H c e bx hc Q q =>
  h1 H e (fun k H1 => if k = true then Q true H1 else t2 σ H1 Q) fun B1 H1 u => by
    cases a with
    | true => exact q true B1 H1 u.ub ((u.box bx).le (by omega)) (h0 rfl)
    | false => exact h2 rfl B1 u.bb H1 c u.bh (u.box bx) hc Q fun r B2 H2 u2 ub2 r2 => q r B2 H2 (u.ub.trans (u.box bx).ne u2) ub2 r2
theorem ptb_and {a : Bool} {R : Bool → Prop} (h1 : Pt t1 σ B a) (h2 : a = true → ∀ B', Ex B B' → Ptb b n t2 σ B' R) (h0 : a = false → R false) (hn : 0 ≤ n) : Ptb b n (tAnd t1 t2) σ B R := fun H c e bx hc Q q =>
  h1 H e (fun k H1 => if k = true then t2 σ H1 Q else Q false H1) fun B1 H1 u => by
    cases a with
    | false => exact q false B1 H1 u.ub ((u.box bx).le (by omega)) (h0 rfl)
    | true => exact h2 rfl B1 u.bb H1 c u.bh (u.box bx) hc Q fun r B2 H2 u2 ub2 r2 => q r B2 H2 (u.ub.trans (u.box bx).ne u2) ub2 r2
/-- a comprehension whose test draws -/
theorem b_lcT {γ : Type} [DecidableEq γ] [Datum γ] {wi : TI} {g : TG} {vs : List Nat} {xs : List γ} {R : Bool → Prop} (h : ItD K wi σ B xs) (hz : xs.length ≤ 1000000) (hn : 0 ≤ n)
    (ht : ∀ x ∈ xs, ∀ v B1, Ex B B1 → Rep.at_ K B1 v x → ∃ σ2, (∀ H (Q : L2.St → Hp → Prop), Ex B1 H → Q σ2 H → g v (wipe σ vs) H Q) ∧ wipe σ2 vs = wipe σ vs ∧ Ptb b n tt σ2 B1 R ∧ Pe K te σ2 B1 x) :
    Pb K b (n * xs.length) (tLc wi g tt te vs) σ B (fun ys : List γ => ys.Sublist xs ∧ (ys ≠ [] → R true)) := fun H c e bx hc Q q =>
  h H e _ fun J B1 H1 G Y up W hG hY D hD => by
    have hDH : H D = none := Evl.fresh_back up.hh hD
    have hDB : B1 D = none := Evl.fresh_back up.bh hD
    have bx1 := up.box bx
    have hne : b ≠ D := fun z => bx1.ne (z ▸ hD)
    have hmul : ∀ i : Nat, i ≤ xs.length → n * (i : Int) ≤ n * (xs.length : Int) := fun i hi => Int.mul_le_mul_of_nonneg_left (by omega) hn
    refine walk_w W (fun i H' => ∃ Bi ws out, Ex B1 Bi ∧ Ub b B1 H1 Bi H' ∧ BoxAt (c + n * (i : Int)) Bi H' b ∧ Bi D = none ∧ H' D = some (.lst ws) ∧ AtAll K Bi ws out ∧ out.Sublist (xs.take i) ∧ (out ≠ [] → R true))
      ⟨B1, [], [], Ex.refl _, (Ub.refl up.bh).put hD hDB, (bx1.put hne).le (by simp), hDB, upd_same, .nil, List.nil_sublist _, fun h => absurd rfl h⟩ (fun i H' _ p => ?_) (fun i x Hx H' hi p hy => ?_) (fun H' p => ?_)
    · obtain ⟨Bi, ws, out, b1, u, _⟩ := p
      exact hG H' (b1.trans u.bh)
    · obtain ⟨Bi, ws, out, b1, u, ubi, bD, eD, hA, ho, hS⟩ := p
      obtain ⟨d, hd, hB⟩ := hY i x Hx H' hi (b1.trans u.bh) hy
      obtain ⟨B2, u2, hx⟩ := hB Bi b1 u.bh
      obtain ⟨o1, o2⟩ := u2.out bD eD
      obtain ⟨σ2, hg, hw, htt, hte⟩ := ht d (mem_of_get hd) x B2 ((up.bb.trans b1).trans u2.bb) hx
      have hi1 := hmul (i + 1) hi
      have e1 : n * ((i + 1 : Nat) : Int) = n * (i : Int) + n := by
        rw [show ((i + 1 : Nat) : Int) = (i : Int) + 1 by omega, Int.mul_add, Int.mul_one]
      refine hg H' _ u2.bh ⟨hw, htt H' (c + n * (i : Int)) u2.bh (u2.box ubi) (by omega) _ fun r B3 H3 u3 ub3 r3 => ?_⟩
      have o34 := u3.out o1 o2 hne.symm
      cases r with
      | true =>
        refine (hte.mono u3.bb) H3 u3.bh _ fun w B4 H4 u4 hw4 => ⟨ws, (u4.out o34.1 o34.2).2, ?_, B4, ws ++ [w], out ++ [d], ((b1.trans u2.bb).trans u3.bb).trans u4.bb, ?_, ?_, (u4.out o34.1 o34.2).1, upd_same, ?_, ?_, fun _ => r3⟩
        · rw [hA.length, sizeLine_eq]
          have h2 := ho.length_le
          have h3 := List.length_take_le i xs
          omega
        · exact (((u.up ubi.ne u2).trans (u2.box ubi).ne u3).up ub3.ne u4).put hD (u4.out o34.1 o34.2).1
        · exact ((u4.box ub3).le (by omega)).put hne
        · exact (hA.mono ((u2.bb.trans u3.bb).trans u4.bb)).snoc hw4
        · rw [take_snoc hd]
          exact ho.append (List.Sublist.refl _)
      | false =>
        refine ⟨B3, ws, out, (b1.trans u2.bb).trans u3.bb, (u.up ubi.ne u2).trans (u2.box ubi).ne u3, ub3.le (by omega), o34.1, o34.2, hA.mono (u2.bb.trans u3.bb), ?_, hS⟩
        rw [take_snoc hd]
        exact ho.trans (List.sublist_append_left _ _)
    · obtain ⟨Bi, ws, out, b1, u, ubi, bD, eD, hA, ho, hS⟩ := p
      obtain ⟨u4, e4⟩ := (up.ub.trans bx1.ne u).freeze eD hDH
      rw [List.take_length] at ho
      exact q (.ref D) out _ H' u4 (ubi.frz hne) ⟨ho, hS⟩ (at_list.mpr ⟨D, ws, rfl, Evl.sq_of upd_same, hA.mono e4⟩)
/-- xs[k], k drawn -/
theorem b_ix2 {α : Type} [DecidableEq α] [Datum α] {xs : List α} {R : Int → Prop} (ha : Pe K ta σ B xs) (hb : Pb K b n tb σ B R) (hr : ∀ k, R k → ∃ x, atI xs k = some x) : Pb K b n (tOp (rIxU K) ta tb) σ B (fun y => ∃ k, R k ∧ atI xs k = some y) := fun H c e bx hc Q q =>
  ha H e _ fun v B1 H1 u1 hv => (hb.mono u1.bb) H1 c u1.bh (u1.box bx) hc _ fun w k B2 H2 u2 ub r2 hw => by
    obtain ⟨x, hx⟩ := hr k r2
    have hv2 : Rep.at_ K B2 v xs := Rep.mono u2.bb hv
    have key : tOp (rIxU K) (tC v) (tC w) σ H2 Q := (e_ixL (e_const hv2) (e_const hw) hx) H2 u2.bh Q fun z B3 H3 u3 hz => q z x B3 H3 ((u1.ub.trans (u1.box bx).ne u2).up ub.ne u3) (u3.box ub) ⟨k, r2, hx⟩ hz
    exact key
/-- [x] * int(c), x drawn -/
theorem b_repL {α : Type} [DecidableEq α] [Datum α] {R : α → Prop} {c : Bool} (h : Pb K b n te σ B R) (hb : Pe K tb σ B (if c then 1 else 0 : Int)) : Pb K b n (tOp (rMulU) (tLst (tCons te tNil)) tb) σ B (fun ys => ∃ x, R x ∧ ys = if c then [x] else []) := fun H c0 e bx hc Q q =>
  h H c0 e bx hc _ fun v x B1 H1 u1 ub1 r1 hv => by
    have key : tOp (rMulU) (tLst (tCons (tC v) tNil)) tb σ H1 Q := (e_rep1' (e_const hv) (hb.mono u1.bb)) H1 u1.bh Q fun z B3 H3 u3 hz => q z _ B3 H3 (u1.up ub1.ne u3) (u3.box ub1) ⟨x, r1, rfl⟩ hz
    exact key
end
theorem rangeI_get {lo : Int} {n : Nat} {done rest : List Int} {x : Int} (h : rangeI lo n = done ++ x :: rest) : x = lo + (done.length : Int) ∧ done.length < n := by
  have h1 : (rangeI lo n)[done.length]? = some x := by rw [h]; simp
  have h2 : done.length < n := by
    have := congrArg List.length h
    rw [rangeI_len, List.length_append, List.length_cons] at this
    omega
  refine ⟨?_, h2⟩
  unfold rangeI at h1
  simp [h2] at h1
  omega
section
variable {K : PySem.W.Frag} {W0 : List Addr} {B0 H0 : Hp} {os : List OC} {Γ : List (Option Cell)} {σ : L2.St} {B H : Hp} {ta tb tc : TE} {D : Ends} {tz : TS}
/-- xs + ys of a list that may change, as a new one that may change -/
theorem St.addT {α : Type} [DecidableEq α] [Datum α] {i j k : Nat} {l : Addr} {xs ys : List α} (s : St K W0 B0 H0 os Γ σ B H) (h : os[k]? = some (lstC K l xs)) (hi : cg Γ i = ca l) (hb : Pe K tb σ B ys) (hz : xs.length + ys.length ≤ 1000000)
    (q : ∀ l2 σ1 B1 H1, St K W0 B0 H0 (os ++ [lstC K l2 (xs ++ ys)]) (cs Γ j (ca l2)) σ1 B1 H1 → D.nx σ1 H1) : tAsg (tOp (rAddU K) (tVar i) tb) (gName j) D σ H :=
  ⟨_, s.sl.rf i hi, hb H s.bh _ fun w B1 H1 u hw => by
    have s1 := s.up u
    obtain ⟨_, vs, hl, hA⟩ := s1.lst h
    obtain ⟨b, ws, rfl, hs2, hy⟩ := at_list.mp hw
    refine .inr (.inr (.inl ⟨l, b, vs, ws, rfl, rfl, Evl.sq_of hl, Evl.ex_l s1.bh hs2, ?_, fun p hp => ?_⟩))
    · rw [hA.length, hy.length]
      exact Nat.le_trans hz (by rw [sizeLine_eq]; decide)
    · exact q p _ _ _ (St.put (x := Any.mk (.ref p)) (s1.add (ob := .lst (vs ++ ws)) hp (lstC K p (xs ++ ys)) rfl ⟨vs ++ ws, rfl, hA.append hy⟩) j rfl)⟩
/-- an object that may change, let go -/
theorem St.letgo (s : St K W0 B0 H0 os Γ σ B H) (k : Nat) : St K W0 B0 H0 (os.eraseIdx k) Γ σ B H :=
  ⟨s.bb, s.bh, s.hh, s.dm, s.nw, fun o ho => s.own o ((List.eraseIdx_sublist os k).subset ho), s.nd.sublist ((List.eraseIdx_sublist os k).map _), s.sl⟩
/-- (drawn, []) unpacked -/
theorem St.unpBN {α : Type} [Rep α] {b : Addr} {c n : Int} {R1 : α → Prop} {i j : Nat} (s : St K W0 B0 H0 (boxC b c :: os) Γ σ B H) (h1 : Pb K b n ta σ B R1) (β : Type) [Rep β] (hc : c + n ≤ 2 ^ 40)
    (k : ∀ x l, R1 x → ∀ σ1 B1 H1, St K W0 B0 H0 (boxC b (c + n) :: (os ++ [lstC K l ([] : List β)])) (cs (cs Γ i (ce x)) j (ca l)) σ1 B1 H1 → tz D σ1 H1) : tSeq (tAsg (tTup (tCons ta (tCons (tLst tNil) tNil))) (gUnp K 2 (gCons (gName i) (gCons (gName j) gNil)))) tz D σ H :=
  h1 H c s.bh s.box hc _ fun v x B1 H1 u1 ub1 r1 hv => ⟨Nat.zero_le _, fun p hp => ⟨by show 2 ≤ sizeLine; rw [sizeLine_eq]; decide, fun t ht => .inl ⟨t, [v, .ref p], rfl, Evl.st_of upd_same, rfl, _, _, rfl, _, _, rfl, rfl, by
    have s2 : St K W0 B0 H0 (boxC b (c + n) :: (os ++ [lstC K p ([] : List β)])) Γ σ B1 (upd H1 p (.lst [])) := (s.ub u1 ub1).add (ob := .lst []) hp (lstC K p ([] : List β)) rfl ⟨[], rfl, .nil⟩
    have w3 := Up.new (o := .tup [v, .ref p]) s2.bh ht
    exact k x p r1 _ _ _ (St.put (x := Any.mk (.ref p)) (((s2.up w3).put i (Rep.mono w3.bb hv))) j rfl)⟩⟩⟩
end
section
variable {K : PySem.W.Frag}
/-- a drawn panel, with the least number of its switches -/
structure PanGL (lo m : Int) (p : Pan) extends PanG m p where
  low : lo ≤ (p.sw.length : Int)
abbrev sp_Ltied (K : PySem.W.Frag) : Sp := FnB1 K 20000 (fun ns : List Str => Asc ns ∧ 1 ≤ ns.length ∧ ns.length ≤ 14 ∧ ∀ y ∈ ns, y ∈ poolN) (fun ns (y : PanT) => ∃ p, y = p.t ∧ PanGL ns.length ns.length p)
def N_Ltied : List Str := ["_law_box_here", "_law_called", "_law_sort", "_law_pairs", "_law_line", "_law_at", "_law_mates", "_law_mate"]
def t_Ltied (K : PySem.W.Frag) : TS :=
  (tSeq (tAsg (tTup (tCons (tCall (sp_Ltake K) [] E0 (tCons (tVar 0) (tCons (tC (.int 8)) tNil))) (tCons (tLst tNil) tNil))) (gUnp K 2 (gCons (gName 2) (gCons (gName 3) gNil))))
    (tSeq (tAsg (tCall (sp_Lstrewn K) [] E0 (tCons (tVar 0) (tCons (tVar 1) tNil))) (gName 4))
    (tSeq (tFor (iRng2 (tCons (tC (.int 1)) (tCons (tCB (rLenU K) (tCons (tVar 4) tNil)) tNil))) (gName 5) (tSeq (tAsg (tLc (iSeq K (tSl (rSlU K) (tVar 4) tNoPart (tPart (tVar 5)))) (gName 7) (tOr (tTest (tOp (rEqP K) (tVar 2) (tC (.int 3)))) (tAnd (tTest (tOp (rInU K false) (tVar 2) (tTup (tCons (tC (.int 1)) (tCons (tC (.int 2)) tNil))))) (tTest (tOp (rEqP K) (tCall (sp_Ltake K) [] E0 (tCons (tVar 0) (tCons (tOp (rI0 fun i j => .int (i - j)) (tC (.int 4)) (tVar 2)) tNil))) (tC (.int 0)))))) (tVar 7) [7]) (gName 6))
    (tSeq (tAsg (tOp (rAddU K) (tOp (rAddU K) (tVar 6) (tOp (rMulU) (tLst (tCons (tOp (rIxU K) (tVar 4) (tOp (rI0 fun i j => .int (i - j)) (tVar 5) (tC (.int 1)))) tNil)) (tCB (rInt1) (tCons (tOp (rInU K false) (tVar 2) (tTup (tCons (tC (.int 4)) (tCons (tC (.int 5)) tNil)))) tNil)))) (tOp (rMulU) (tLst (tCons (tOp (rIxU K) (tVar 4) (tC (.int 0))) tNil)) (tCB (rInt1) (tCons (tOp (rEqP K) (tVar 2) (tC (.int 6))) tNil)))) (gName 6))
    (tSeq (tAsg (tOp (rAddU K) (tVar 6) (tOp (rMulU) (tLst (tCons (tOp (rIxU K) (tVar 4) (tCall (sp_Ltake K) [] E0 (tCons (tVar 0) (tCons (tVar 5) tNil)))) tNil)) (tCB (rInt1) (tCons (tOp (rEqP K) (tVar 2) (tC (.int 7))) tNil)))) (gName 6))
    (tAsg (tOp (rAddU K) (tVar 3) (tLc (iSeq K (tVar 6)) (gName 7) tYes (tTup (tCons (tCB (rMinU) (tCons (tOp (rIxU K) (tVar 4) (tVar 5)) (tCons (tVar 7) tNil))) (tCons (tCB (rMaxU) (tCons (tOp (rIxU K) (tVar 4) (tVar 5)) (tCons (tVar 7) tNil))) tNil))) [7])) (gName 3))))))
    (tSeq (tIfS (tAnd (tTest (tOp (rEqP K) (tVar 2) (tC (.int 5)))) (tTest (tOp (rGtU K) (tCB (rLenU K) (tCons (tVar 4) tNil)) (tC (.int 2))))) (tDrop (tBM K "list" (rAppend) (tVar 3) (tCons (tTup (tCons (tCB (rMinU) (tCons (tOp (rIxU K) (tVar 4) (tC (.int 0))) (tCons (tOp (rIxU K) (tVar 4) (tUn (rU fun i => .int (-i)) (tC (.int 1)))) tNil))) (tCons (tCB (rMaxU) (tCons (tOp (rIxU K) (tVar 4) (tC (.int 0))) (tCons (tOp (rIxU K) (tVar 4) (tUn (rU fun i => .int (-i)) (tC (.int 1)))) tNil))) tNil))) tNil))) tNext)
    (tRet (tTup (tCons (tCB (rTupleU K) (tCons (tVar 1) tNil)) (tCons (tCB (rTupleU K) (tCons (tCB (rSortU K) (tCons (tVar 3) tNil)) tNil)) tNil))))))))
theorem l_Ltied (vs : List V) (H : Hp) (Q : VK) (E : XK) (h : sp_Ltied K vs H Q E) : vs.length = 2 := FnB1.len vs H Q E h
theorem r_Ltied (vs : List V) (H : Hp) (Q : VK) (E : XK) (h : sp_Ltied K vs H Q E) : t_Ltied K (Ends.ret Q) (start N_Ltied vs) H := by
  obtain ⟨b, c, ns, B, ⟨hasc, n1, n14, hnm⟩, hc, s, q⟩ := FnB1.st h N_Ltied
  refine s.unpBN (n := 1) (x_take (i := 0) (b := b) rfl s.sl (e_int (i := 8)) (by decide) (by decide)) SS (by omega) fun k l0 hk σ1 B1 H1 s1 => ?_
  obtain ⟨k0, k8⟩ := hk
  replace s1 : St K [b] B H [boxC b (c + 1), lstC K l0 ([] : List SS)] [ca b, ce ns, ce k, ca l0, none, none, none, none] σ1 B1 H1 := s1
  refine s1.setB (n := 10000) (e_strewn (b := b) (i := 0) (xs := ns) (s1.sl.rf 0 rfl) ((s1.v (x := ns) 1 rfl).imp sq_list) (by omega)) (by omega) fun os hos σ2 B2 H2 s2 => ?_
  have ond : os.Nodup := hos.nodup_iff.mpr (asc_nodup hasc)
  have ol : os.length = ns.length := hos.length_eq
  have osub : ∀ x ∈ os, x ∈ ns := fun x hx => hos.mem_iff.mp hx
  obtain ⟨o, ho⟩ : ∃ o, os[0]? = some o := ⟨os[0]'(by omega), List.getElem?_eq_getElem (by omega)⟩
  replace s2 : St K [b] B H [boxC b (c + 10001), lstC K l0 ([] : List SS)] [ca b, ce ns, ce k, ca l0, ce os, none, none, none] σ2 B2 H2 := s2.le (by omega)
  refine s2.qforG (δ := Addr × List SS) (it_rng2 (e_int (i := 1)) (e_lenL (s2.v (x := os) 4 rfl)) ⟨by decide, by decide, by omega, by omega⟩) (fun done d => [boxC b (c + 10001 + 100 * (done.length : Int)), lstC K d.1 d.2]) (fun _ d => [ca b, ce ns, ce k, ca d.1, ce os, none, none, none]) (fun done d => TieP os k (1 + done.length) d.2) ⟨(l0, []), ⟨(fun e he => nomatch he), .nil, Nat.zero_le _⟩, fun _ _ s3 => s3.le (by simp)⟩ (fun done at_ rest d ex hP v σ' B' H' N hN s3 hv => ?_) fun d hP σ' B' H' s3 => ?_
  · obtain ⟨l, ps⟩ := d
    obtain ⟨hat, hlt⟩ := rangeI_get ex
    have hdl : done.length + 1 < os.length := by omega
    obtain ⟨kk, hkk⟩ : ∃ kk : Nat, kk = 1 + done.length := ⟨_, rfl⟩
    have hat' : at_ = (kk : Int) := by omega
    rw [← hkk] at hP
    have hkl : kk < os.length := by omega
    obtain ⟨x, hx⟩ : ∃ x, os[kk]? = some x := ⟨os[kk]'hkl, List.getElem?_eq_getElem hkl⟩
    obtain ⟨y, hy⟩ : ∃ y, os[kk - 1]? = some y := ⟨os[kk - 1]'(by omega), List.getElem?_eq_getElem (by omega)⟩
    have s4 := s3.here.put 5 hv
    replace s4 : St K [b, l] B' H' [boxC b (c + 10001 + 100 * (done.length : Int)), lstC K l ps] [ca b, ce ns, ce k, ca l, ce os, ce at_, none, none] _ B' H' := s4
    have hix : atI os at_ = some x := by rw [hat']; exact atI_nat (by omega) (by simpa using hx)
    have htk : (os.take kk).length ≤ 14 := by rw [List.length_take]; omega
    refine s4.setB (n := 14) (R := fun M : List Str => M.Sublist (os.take kk) ∧ (M ≠ [] → 1 ≤ k ∧ k ≤ 3)) (((b_lcT (n := 1) (R := fun r => r = true → 1 ≤ k ∧ k ≤ 3) (it_seqL ((e_slL (s4.v (x := os) 4 rfl) o_none (o_some ((s4.v (x := at_) 5 rfl).is hat'))).is (cutA_to os kk))) (by omega) (by decide) fun z hz w B5 b5 hw => ⟨_, fun H Q _ q => q, ?_, ?_, ((s4.sl.mono b5).turn (j := 7) hw).v 7 rfl⟩).imp fun M hM => ⟨hM.1, fun h => hM.2 h rfl⟩).le (by omega)) (by omega) fun M hM σ5 B5 H5 s5 => ?_
    · rw [set_none_comm (List.mem_singleton.mpr rfl), wipe_wipe]
    · have s5 : Slots K B5 _ (cs (cw [ca b, ce ns, ce k, ca l, ce os, ce at_, none, none] [7]) 7 (ce z)) := (s4.sl.mono b5).turn (j := 7) hw
      refine ptb_or (a := decide (k = 3)) (t_test (e_eq (s5.v (x := k) 2 rfl) (e_int (i := 3)))) (fun _ B6 b6 => ?_) (fun h _ => by have := of_decide_eq_true h; omega) (by decide)
      have s6 := s5.mono b6
      refine ptb_and (a := ngb false (decide (k ∈ [(1 : Int), 2]))) (t_test (e_inT (s6.v (x := k) 2 rfl) (e_intsT [1, 2] (by decide)) false)) (fun ha B7 b7 => ?_) (fun _ h => by cases h) (by decide)
      have s7 := s6.mono b7
      have hk12 : k = 1 ∨ k = 2 := by simpa [ngb] using ha
      exact (ptb_test (b_opL (f := fun z : Int => decide (z = 0)) (x_take (b := b) (i := 0) rfl s7 (e_subI (e_int (i := 4)) (s7.v (x := k) 2 rfl)) (by omega) (by omega)) (e_int (i := 0)) (fun _ _ => rd_eq))).imp fun r _ _ => by omega
    obtain ⟨hM1, hM2⟩ := hM
    replace s5 : St K [b, l] B' H' [boxC b (c + 10001 + 100 * (done.length : Int) + 14), lstC K l ps] [ca b, ce ns, ce k, ca l, ce os, ce at_, ce M, none] σ5 B5 H5 := s5
    have hMl : M.length ≤ 14 := Nat.le_trans hM1.length_le htk
    have hiy : atI os (at_ - 1) = some y := by
      rw [show at_ - 1 = ((kk - 1 : Nat) : Int) by omega]
      exact atI_nat (by omega) (by simpa using hy)
    have hio : atI os 0 = some o := atI_nat (by decide) (by simpa using ho)
    have l1 : ∀ (c : Bool) (w : Str), (if c then [w] else ([] : List Str)).length ≤ 1 := fun c w => by split <;> simp
    obtain ⟨M1, hM1e⟩ : ∃ M1, M1 = M ++ if ngb false (decide (k ∈ [(4 : Int), 5])) then [y] else [] := ⟨_, rfl⟩
    obtain ⟨M2, hM2e⟩ : ∃ M2, M2 = M1 ++ if decide (k = 6) then [o] else [] := ⟨_, rfl⟩
    have hM1l : M1.length ≤ 15 := by
      have := l1 (ngb false (decide (k ∈ [(4 : Int), 5]))) y
      rw [hM1e, List.length_append]
      omega
    have hM2l : M2.length ≤ 16 := by
      have := l1 (decide (k = 6)) o
      rw [hM2e, List.length_append]
      omega
    have y1 := l1 (ngb false (decide (k ∈ [(4 : Int), 5]))) y
    have y2 := l1 (decide (k = 6)) o
    refine s5.set (x := M2) ((e_addL ((e_addL (s5.v (x := M) 6 rfl) (e_rep1' (c := ngb false (decide (k ∈ [(4 : Int), 5]))) (e_ixL (s5.v (x := os) 4 rfl) (e_subI (s5.v (x := at_) 5 rfl) (e_int (i := 1))) hiy) (e_intB (e_inT (s5.v (x := k) 2 rfl) (e_intsT [4, 5] (by decide)) false))) (by omega)).is hM1e.symm) (e_rep1' (c := decide (k = 6)) (e_ixL (s5.v (x := os) 4 rfl) (e_int (i := 0)) hio) (e_intB (e_eq (s5.v (x := k) 2 rfl) (e_int (i := 6))))) (by omega)).is hM2e.symm) fun σ6 B6 H6 s6 => ?_
    replace s6 : St K [b, l] B' H' [boxC b (c + 10001 + 100 * (done.length : Int) + 14), lstC K l ps] [ca b, ce ns, ce k, ca l, ce os, ce at_, ce M2, none] σ6 B6 H6 := s6
    refine s6.setB (n := 1) (b_op (f := fun ys : List Str => M2 ++ ys) (s6.v (x := M2) 6 rfl) (b_repL (c := decide (k = 7)) (b_ix2 (s6.v (x := os) 4 rfl) (x_take (b := b) (i := 0) rfl s6.sl (s6.v (x := at_) 5 rfl) (by omega) (by omega)) fun j hj => ⟨os[j.toNat]'(by omega), atI_nat hj.1 (List.getElem?_eq_getElem (by omega))⟩) (e_intB (e_eq (s6.v (x := k) 2 rfl) (e_int (i := 7))))) fun ys hys => rd_addL (by
      obtain ⟨w, _, rfl⟩ := hys
      have := l1 (decide (k = 7)) w
      omega)) (by omega) fun M3 hM3 σ7 B7 H7 s7 => ?_
    obtain ⟨_, ⟨z, ⟨j, hj, hz⟩, rfl⟩, rfl⟩ := hM3
    have hz' : ∃ i, i < kk ∧ os[i]? = some z := by
      refine ⟨j.toNat, by omega, ?_⟩
      have hjl : j.toNat < os.length := by omega
      have h0 : atI os j = some (os[j.toNat]'hjl) := atI_nat hj.1 (List.getElem?_eq_getElem hjl)
      rw [h0] at hz
      rw [List.getElem?_eq_getElem hjl]
      exact hz
    have hmo := mates_ok (srt := k) ond (show 0 < kk by omega) (show os.length ≤ 14 by omega) hM1 hM2 hy ho hz'
    rw [← hM1e, ← hM2e] at hmo
    obtain ⟨⟨m1, m2⟩, m3⟩ := hmo
    obtain ⟨M3, hM3⟩ : ∃ M3, M3 = M2 ++ if decide (k = 7) then [z] else [] := ⟨_, rfl⟩
    rw [← hM3] at m1 m2 m3
    rw [← hM3] at s7
    replace s7 : St K [b, l] B' H' [boxC b (c + 10001 + 100 * (done.length : Int) + 14 + 1), lstC K l ps] [ca b, ce ns, ce k, ca l, ce os, ce at_, ce M3, none] σ7 B7 H7 := s7
    have hpl : ps.length ≤ 20 * kk := hP.2.2
    refine s7.addT (i := 3) (j := 3) (k := 1) (l := l) (xs := ps) (ys := M3.map fun m => mm x m) rfl rfl (s7.sl.lcA (j := 7) (fun m => mm x m) (it_seqL (s7.v (x := M3) 6 rfl)) (by omega) fun m _ σ8 B8 b8 s8 => e_pair (e_minS (e_ixL (s8.v (x := os) 4 rfl) (s8.v (x := at_) 5 rfl) hix) (s8.v 7 rfl)) (e_maxS (e_ixL (s8.v (x := os) 4 rfl) (s8.v (x := at_) 5 rfl) hix) (s8.v 7 rfl))) (by rw [List.length_map]; omega) fun l2 σ8 B8 H8 s8 => hN (l2, ps ++ M3.map fun m => mm x m) (B3 := B8) ?_ ?_
    · show TieP os k (1 + (done ++ [at_]).length) _
      rw [List.length_append, List.length_singleton, show 1 + (done.length + 1) = kk + 1 by omega]
      exact tie_step ond hP hx m1 m2 m3
    · have s9 : St K [b, l] B' H' [boxC b (c + 10001 + 100 * (done.length : Int) + 14 + 1), lstC K l2 (ps ++ M3.map fun m => mm x m)] [ca b, ce ns, ce k, ca l2, ce os, ce at_, ce M3, none] σ8 B8 H8 := s8.letgo 1
      exact (s9.fg [5, 6, 7]).le (by rw [List.length_append, List.length_singleton]; omega)
  · obtain ⟨l, ps⟩ := d
    have hrl : (rangeI 1 ((os.length : Int) - 1).toNat).length ≤ 13 := by rw [rangeI_len]; omega
    replace s3 : St K [b] B H [boxC b (c + 15000), lstC K l ps] [ca b, ce ns, ce k, ca l, ce os, none, none, none] σ' B' H' := s3.le (by omega)
    have g1 := tie_good ond osub hP
    have g2 : ps.length ≤ 20 * (1 + (rangeI 1 ((os.length : Int) - 1).toNat).length) := hP.2.2
    have g3 : ps.Nodup := hP.2.1
    have hlb : l ≠ b := fun z => by
      have := s3.nd
      rw [z] at this
      exact (List.nodup_cons.mp this).1 List.mem_cons_self
    have hfin : ∀ (ps' : List SS), (∀ e ∈ ps', (e.1 ∈ ns ∧ e.2 ∈ ns) ∧ ltS e.1 e.2 = true) → ps'.length ≤ 300 → ps'.Nodup → ∀ σ4 B4 H4, St K [b] B H [boxC b (c + 15000), lstC K l ps'] [ca b, ce ns, ce k, ca l, ce os, none, none, none] σ4 B4 H4 →
        tRet (tTup (tCons (tCB (rTupleU K) (tCons (tVar 1) tNil)) (tCons (tCB (rTupleU K) (tCons (tCB (rSortU K) (tCons (tVar 3) tNil)) tNil)) tNil))) (Ends.ret Q) σ4 H4 := fun ps' g1 g2 g3 σ4 B4 H4 s4 => by
      obtain ⟨B5, b5, s5⟩ := s4.frz (i := 3) (k := 1) (l := l) (xs := ps') rfl rfl (fun hm => hlb (List.mem_singleton.mp hm))
      replace s5 : St K [b] B H [boxC b (c + 15000)] [ca b, ce ns, ce k, ce ps', ce os, none, none, none] σ4 B5 H4 := s5
      refine s5.ret (e_pair (e_tupL (s5.v (x := ns) 1 rfl)) (e_tupL (α := SS) (e_sortSq ((s5.v (x := ps') 3 rfl).imp sq_list) (sortable_pair _)))) fun v B5 H5 s5 hv => ?_
      exact q v _ _ _ _ B5 H5 (s5.le (by omega)) ⟨⟨ns, sortD ps'⟩, rfl, ⟨hasc, (fun h => by rw [show ns = [] from h] at n1; exact absurd n1 (by decide)), Int.le_refl _, fun e he => g1 e (mem_sortD.mp he), sortP_idem ps', by show (sortD ps').length ≤ 300; rw [sortD_len]; exact g2, (sortD_perm ps').nodup_iff.mpr g3, hnm⟩, Int.le_refl _⟩ hv
    obtain ⟨z, hz⟩ : ∃ z, os[os.length - 1]? = some z := ⟨os[os.length - 1]'(by omega), List.getElem?_eq_getElem (by omega)⟩
    obtain ⟨hb, hbe⟩ : ∃ hb : Bool, hb = (decide (k = 5) && DatumOrd.lt (2 : Int) (os.length : Int)) := ⟨_, rfl⟩
    have hb1 : hb = true → k = 5 ∧ 2 < os.length := fun h => by
      rw [hbe, Bool.and_eq_true] at h
      have h2 : decide ((2 : Int) < (os.length : Int)) = true := h.2
      exact ⟨of_decide_eq_true h.1, by have := of_decide_eq_true h2; omega⟩
    refine s3.iteJ [boxC b (c + 15000), lstC K l (if hb then ps ++ [mm o z] else ps)] [ca b, ce ns, ce k, ca l, ce os, none, none, none] (b := hb) ((t_and (t_test (e_eq (s3.v (x := k) 2 rfl) (e_int (i := 5)))) fun _ => t_test (e_gt (e_lenL (s3.v (x := os) 4 rfl)) (e_int (i := 2)))).is hbe.symm) (fun σ4 B4 H4 s4 => ?_) (fun hbt N hN B4 H4 s4 => ?_) fun hbf N hN B4 H4 s4 => hN (by rw [if_neg (by rw [hbf]; decide)]; exact s4)
    · refine hfin _ ?_ ?_ ?_ σ4 B4 H4 s4
      · intro e he
        split at he
        · rename_i h
          obtain ⟨h5, hl2⟩ := hb1 h
          rcases List.mem_append.mp he with he | he
          · exact g1 e he
          · rw [List.mem_singleton.mp he]
            refine good_mm (osub _ (List.mem_of_getElem? ho)) (osub _ (List.mem_of_getElem? hz)) fun w => ?_
            rw [w] at ho
            have := nd_idx ond ho hz
            omega
        · exact g1 e he
      · split
        · rw [List.length_append, List.length_singleton]; omega
        · omega
      · split
        · rename_i h
          obtain ⟨h5, hl2⟩ := hb1 h
          subst h5
          exact List.nodup_append.mpr ⟨g3, by simp, fun a ha b hb e => tie_ring ond hP ho hz hl2 (by rw [← List.mem_singleton.mp hb, ← e]; exact ha)⟩
        · exact g3
    · obtain ⟨h5, hl2⟩ := hb1 hbt
      have hio : atI os 0 = some o := atI_nat (by decide) (by simpa using ho)
      have hiz : atI os (-1) = some z := atI_last (n := os.length - 1) (by omega) hz
      refine s4.app (i := 3) (k := 1) (l := l) (xs := ps) (x := mm o z) rfl rfl (e_pair (e_minS (e_ixL (s4.v (x := os) 4 rfl) (e_int (i := 0)) hio) (e_ixL (s4.v (x := os) 4 rfl) (e_negI (K := K) (e_int (i := 1))) hiz)) (e_maxS (e_ixL (s4.v (x := os) 4 rfl) (e_int (i := 0)) hio) (e_ixL (s4.v (x := os) 4 rfl) (e_negI (K := K) (e_int (i := 1))) hiz))) (by omega) fun B5 H5 s5 => hN (B1 := B5) ?_
      rw [if_pos hbt]
      exact s5
abbrev sp_Lwired (K : PySem.W.Frag) : Sp := FnB2 K 40000 (fun (lo hi : Int) => 1 ≤ lo ∧ lo ≤ hi ∧ hi ≤ 14) (fun lo hi (y : PanT) => ∃ p, y = p.t ∧ PanGL lo hi p)
def N_Lwired : List Str := ["_law_box_here", "_law_least", "_law_most"]
def t_Lwired (K : PySem.W.Frag) : TS :=
  (tRet (tCall (sp_Ltied K) [] E0 (tCons (tVar 0) (tCons (tCall (sp_Lnames K) [] E0 (tCons (tVar 0) (tCons (tOp (rAddU K) (tVar 1) (tCall (sp_Ltake K) [] E0 (tCons (tVar 0) (tCons (tOp (rAddU K) (tOp (rI0 fun i j => .int (i - j)) (tVar 2) (tVar 1)) (tC (.int 1))) tNil)))) tNil))) tNil))))
theorem l_Lwired (vs : List V) (H : Hp) (Q : VK) (E : XK) (h : sp_Lwired K vs H Q E) : vs.length = 3 := FnB2.len vs H Q E h
theorem r_Lwired (vs : List V) (H : Hp) (Q : VK) (E : XK) (h : sp_Lwired K vs H Q E) : t_Lwired K (Ends.ret Q) (start N_Lwired vs) H := by
  obtain ⟨b, c, lo, hi, B, ⟨a1, a2, a3⟩, hc, s, q⟩ := FnB2.st h N_Lwired
  refine s.retB (n := 1 + 10000 + 20000) (b_call1 (n := 20000) (i := 0) (s.sl.rf 0 rfl) (b_call1 (n := 10000) (i := 0) (s.sl.rf 0 rfl) (b_op (f := fun y : Int => lo + y) (s.v 1 rfl) (x_take (b := b) (i := 0) rfl s.sl (e_addI (e_subI (s.v (x := hi) 2 rfl) (s.v (x := lo) 1 rfl)) (e_int (i := 1))) (by omega) (by omega)) (fun _ _ => rd_addI)) fun x hx => ?_) fun ns hns => ?_) (by omega) fun v y hy B1 H1 s1 hv => ?_
  · obtain ⟨k, hk, rfl⟩ := hx
    omega
  · obtain ⟨x, ⟨k, hk, rfl⟩, h1, h2, h3⟩ := hns
    exact ⟨h1, by omega, by omega, h3⟩
  · obtain ⟨ns, ⟨x, ⟨k, hk, rfl⟩, h1, h2, _⟩, p, rfl, g⟩ := hy
    exact q v _ _ _ _ B1 H1 (s1.le (by omega)) ⟨p, rfl, { g with len := by have := g.len; omega, low := by have := g.low; omega }⟩ hv
theorem rd_gt {α : Type} [DecidableEq α] [DatumOrd α] {x y : α} (hz : Datum.depth α ≤ 64 := by decide) : RD K (rGtU K) x y (DatumOrd.lt y x) :=
  rd_val (.bl _) (fun _ => at_bl.mpr rfl) fun B H v w e h1 h2 Q q => ⟨α, inferInstance, inferInstance, x, y, dp_mono e _ _ h1, dp_mono e _ _ h2, hz, q⟩
abbrev sp_Lstate (K : PySem.W.Frag) : Sp := FnB2 K 20000 (fun (p : Pan) (d : Dic (List Str)) => (PanOk p ∧ (∀ e ∈ p.ex, e.1 ≠ e.2) ∧ p.sw.length ≤ 9000) ∧ d = lawTab p) (fun p _ (st : Tup Str) => StOk p st.items)
def N_Lstate : List Str := ["_law_box_here", "_law_wired_here", "_law_table_here", "_law_drawn", "_law_name", "_law_near"]
def t_Lstate (K : PySem.W.Frag) : TS :=
  (tSeq (tAsg (tLst tNil) (gName 3))
    (tSeq (tFor (iSeq K (tCall (sp_Lstrewn K) [] E0 (tCons (tVar 0) (tCons (tOp (rIxU K) (tVar 1) (tC (.int 0))) tNil)))) (gName 4) (tIfS (tAnd (tTest (tOp (rGtU K) (tCall (sp_Ltake K) [] E0 (tCons (tVar 0) (tCons (tC (.int 3)) tNil))) (tC (.int 0)))) (tTest (tOp (rEqP K) (tLc (iSeq K (tOp (rIxU K) (tVar 2) (tVar 4))) (gName 5) (tTest (tOp (rInU K false) (tVar 5) (tVar 3))) (tVar 5) [5]) (tLst tNil)))) (tDrop (tBM K "list" (rAppend) (tVar 3) (tCons (tVar 4) tNil))) tNext))
    (tRet (tCB (rTupleU K) (tCons (tCB (rSortU K) (tCons (tVar 3) tNil)) tNil)))))
theorem l_Lstate (vs : List V) (H : Hp) (Q : VK) (E : XK) (h : sp_Lstate K vs H Q E) : vs.length = 3 := FnB2.len vs H Q E h
theorem r_Lstate (vs : List V) (H : Hp) (Q : VK) (E : XK) (h : sp_Lstate K vs H Q E) : t_Lstate K (Ends.ret Q) (start N_Lstate vs) H := by
  obtain ⟨b, c, p, d, B, ⟨⟨ok, irr, hlen⟩, rfl⟩, hc, s, q⟩ := FnB2.st h N_Lstate
  refine s.new Str fun l σ1 H1 s1 => ?_
  replace s1 : St K [b] B H [boxC b c, lstC K l ([] : List Str)] [ca b, ce p, ce (lawTab p), ca l, none, none] σ1 B H1 := s1
  refine s1.qforDr (n := 10000) (R := fun ys : List Str => ys.Perm p.sw) (e_strewn (b := b) (i := 0) (s1.sl.rf 0 rfl) (e_sw (s1.v (x := p) 1 rfl)) (by omega)) (by omega) fun ys hys v0 B2 H2 hv0 s2 => ?_
  have hynd : ys.Nodup := hys.nodup_iff.mpr ok.nd
  have hyl : ys.length = p.sw.length := hys.length_eq
  have hlb : l ≠ b := fun z => by
    have := s1.nd
    rw [z] at this
    exact (List.nodup_cons.mp this).1 List.mem_cons_self
  refine s2.qforG (δ := List Str) (it_seqL (xs := ys) (e_const hv0)) (fun done found => [boxC b (c + 10000 + (done.length : Int)), lstC K l found]) (fun _ _ => [ca b, ce p, ce (lawTab p), ca l, none, none]) (fun done found => found.Sublist done ∧ ∀ x ∈ found, ∀ y ∈ found, (x, y) ∉ p.ex) ⟨[], ⟨List.nil_sublist _, fun x hx => nomatch hx⟩, fun _ _ s3 => s3.le (by simp)⟩ (fun done x rest found ex hP v σ' B' H' N hN s3 hv => ?_) fun found hP σ' B' H' s3 => ?_
  · obtain ⟨hsub, hfree⟩ := hP
    have hdl := congrArg List.length ex
    rw [List.length_append, List.length_cons] at hdl
    have hxs : x ∈ p.sw := hys.mem_iff.mp (by rw [ex]; simp)
    have hfl := hsub.length_le
    have s4 := s3.here.put 4 hv
    replace s4 : St K [b, l] B' H' [boxC b (c + 10000 + (done.length : Int)), lstC K l found] [ca b, ce p, ce (lawTab p), ca l, ce x, none] _ B' H' := s4
    have keep : ∀ σ5 B5 H5, St K [b, l] B' H' [boxC b (c + 10000 + (done.length : Int) + 1), lstC K l found] [ca b, ce p, ce (lawTab p), ca l, ce x, none] σ5 B5 H5 → N σ5 H5 := fun σ5 B5 H5 s5 => hN found (B3 := B5) ⟨hsub.trans (List.sublist_append_left _ _), hfree⟩ ((s5.fg [4]).le (by rw [List.length_append, List.length_singleton]; omega))
    refine p_ifAndB (c := c + 10000 + (done.length : Int)) (b_opL (f := fun z : Int => DatumOrd.lt (0 : Int) z) (x_take (b := b) (i := 0) rfl s4.sl (e_int (i := 3)) (by decide) (by decide)) (e_int (i := 0)) (fun _ _ => rd_gt)) s4.bh s4.box (by omega) (fun B5 H5 _ u5 bx5 => ?_) fun B5 H5 _ u5 bx5 => keep _ _ _ (s4.ub u5 bx5)
    have s5 : St K [b, l] B' H' [boxC b (c + 10000 + (done.length : Int) + 1), lstC K l found] [ca b, ce p, ce (lawTab p), ca l, ce x, none] _ B5 H5 := s4.ub u5 bx5
    have hrl := rawP_len2 p.ex x
    have hn2 := ok.n2
    refine s5.iteT (i := 3) (k := 1) (l := l) (xs := found) rfl rfl (fun B6 b6 sl => t_test (e_eq (sl.lcF (j := 5) (fun near => ngb false (decide (near ∈ found))) (it_seqL (e_ixD (sl.v (x := lawTab p) 2 rfl) (sl.v (x := x) 4 rfl) (lookup_map (fun s => raw p.ex s) hxs))) (by omega) fun z _ σ7 B7 b7 s7 => ⟨t_test (e_inL (s7.v 5 rfl) (s7.v (x := found) 3 rfl) false), rfl⟩) (e_lst0 (α := Str)))) (fun hb B6 H6 s6 => ?_) fun hb B6 H6 s6 => keep _ _ _ s6
    have hno : ∀ z ∈ raw p.ex x, z ∉ found := fun z hz hf => by
      have := of_decide_eq_true hb
      rw [List.filter_eq_nil_iff] at this
      exact this z hz (by simp [ngb, hf])
    refine s6.app (i := 3) (k := 1) (l := l) (xs := found) (x := x) rfl rfl (s6.v 4 rfl) (by omega) fun B7 H7 s7 => hN (found ++ [x]) (B3 := B7) ⟨hsub.append (List.Sublist.refl _), ?_⟩ ((s7.fg [4]).le (by rw [List.length_append, List.length_singleton]; omega))
    intro z1 h1 z2 h2 he
    rcases List.mem_append.mp h1 with h1 | h1
    · rcases List.mem_append.mp h2 with h2 | h2
      · exact hfree z1 h1 z2 h2 he
      · rw [List.mem_singleton.mp h2] at he
        exact hno z1 (mem_raw.mpr (.inr he)) h1
    · rw [List.mem_singleton.mp h1] at he
      rcases List.mem_append.mp h2 with h2 | h2
      · exact hno z2 (mem_raw.mpr (.inl he)) h2
      · rw [List.mem_singleton.mp h2] at he
        exact irr _ he rfl
  · obtain ⟨hsub, hfree⟩ := hP
    obtain ⟨B5, b5, s5⟩ := s3.frz (i := 3) (k := 1) (l := l) (xs := found) rfl rfl (fun hm => hlb (List.mem_singleton.mp hm))
    replace s5 : St K [b] B H [boxC b (c + 10000 + (ys.length : Int))] [ca b, ce p, ce (lawTab p), ce found, none, none] σ' B5 H' := s5
    refine St.ret (x := Tup.mk (sortD found)) s5 (e_tupL (e_sortSq ((s5.v (x := found) 3 rfl).imp sq_list) (sortable_str _))) fun v B6 H6 s6 hv => q v _ _ _ _ B6 H6 (s6.le (by omega)) ⟨sortD_asc (hynd.sublist hsub), fun x hx => hys.mem_iff.mp (hsub.subset (mem_sortD.mp hx)), fun x hx y hy => hfree x (mem_sortD.mp hx) y (mem_sortD.mp hy)⟩ hv
theorem look_lawW {p : Pan} {x : Str} (h : x ∈ p.sw) : look (lawTab p) x = raw p.ex x := by
  unfold look
  rw [show (lawTab p).kvs.lookup x = some (raw p.ex x) from lookup_map (fun s => raw p.ex s) h]
  rfl
theorem wp_law {p : Pan} {st : List Str} {x : Str} (h : x ∈ p.sw) : wp (look (lawTab p)) st x = wp (rvs p) st x := by
  unfold wp
  rw [look_lawW h]
  congr 2
  refine List.filter_congr fun z _ => ?_
  have hr : z ∈ raw p.ex x ↔ z ∈ rvs p x := mem_sortD.symm
  simp only [hr]
abbrev sp_Lafter (K : PySem.W.Frag) : Sp := Fn3 K (fun (d : Dic (List Str)) (s : Sq Str) (x : Str) => (d.kvs.lookup x).isSome = true ∧ s.items.length ≤ 100000) fun d s x => Tup.mk (wp (look d) s.items x)
def N_Lafter : List Str := ["_law_table_here", "_law_here", "_law_name", "_law_near"]
def t_Lafter (K : PySem.W.Frag) : TS :=
  (tRet (tCB (rTupleU K) (tCons (tCB (rSortU K) (tCons (tOp (rAddU K) (tLc (iSeq K (tVar 1)) (gName 3) (tAnd (tTest (tOp (rInU K true) (tVar 3) (tOp (rIxU K) (tVar 0) (tVar 2)))) (tTest (tOp (rNeP K) (tVar 3) (tVar 2)))) (tVar 3) [3]) (tLst (tCons (tVar 2) tNil))) tNil)) tNil)))
theorem l_Lafter (vs : List V) (H : Hp) (Q : VK) (E : XK) (h : sp_Lafter K vs H Q E) : vs.length = 3 := Fn3.len vs H Q E h
theorem r_Lafter (vs : List V) (H : Hp) (Q : VK) (E : XK) (h : sp_Lafter K vs H Q E) : t_Lafter K (Ends.ret Q) (start N_Lafter vs) H := r_with_press vs H Q E h
end
end Ob
set_option Elab.async false
set_option linter.all false
set_option maxRecDepth 100000
set_option maxHeartbeats 4000000
/-! Bo: b is True, b is not True, both truth values. -/
set_option Elab.async false
set_option linter.all false
set_option maxRecDepth 100000
set_option maxHeartbeats 4000000
/-! Y6: k76's own defs: _law_left, _law_free, _law_web, _law_webs, _law_fits, _law_all_stay, _law_hits. -/
set_option Elab.async false
set_option linter.all false
set_option maxRecDepth 100000
set_option maxHeartbeats 4000000
/-! Y7: _law_webs, _law_fits, _law_all_stay, _law_hits (k76). -/
set_option Elab.async false
set_option linter.all false
set_option maxRecDepth 100000
set_option maxHeartbeats 4000000
/-! Y8: _law_is_sure, _law_hits (k76). -/
set_option Elab.async false
set_option linter.all false
set_option maxRecDepth 100000
set_option maxHeartbeats 4000000
/-! M19: the sets that stay (k76): what stayAll holds, and that it isn't empty. Plain Lean. -/
set_option Elab.async false
set_option linter.all false
set_option maxRecDepth 100000
set_option maxHeartbeats 1000000
/-! M39: the sets that some order leaves on, as stays lists them. Plain (k65). -/
namespace Ob
open PySem L2
open PySem.W (Datum Tup DatumOrd listLt)
theorem snoc_ind {α : Type} {P : List α → Prop} (h0 : P []) (h1 : ∀ xs x, P xs → P (xs ++ [x])) (xs : List α) : P xs := by
  rw [← List.reverse_reverse xs]
  generalize xs.reverse = ys
  induction ys with
  | nil => exact h0
  | cons y ys ih =>
    rw [List.reverse_cons]
    exact h1 _ _ ih
/-! ### sets without rivals -/
/-! ### one set of each group -/
/-- sorted lists of the same members -/
theorem sortT_perm {xs ys : List (Tup Str)} (h : xs.Perm ys) : sortD xs = sortD ys := by
  have tr : ∀ a b c : Tup Str, (!DatumOrd.lt b a) = true → (!DatumOrd.lt c b) = true → (!DatumOrd.lt c a) = true := fun a b c h1 h2 => by
    have h1' : listLt b.items a.items = false := bnot h1
    have h2' : listLt c.items b.items = false := bnot h2
    have : listLt c.items a.items = false := by
      cases e : listLt c.items a.items with
      | false => rfl
      | true =>
        rcases lst_tri a.items b.items with k | k | k
        · rw [lst_tr e k] at h2'; cases h2'
        · rw [k] at e; rw [e] at h2'; cases h2'
        · rw [k] at h1'; cases h1'
    show (!listLt c.items a.items) = true
    rw [this]; rfl
  have tot : ∀ a b : Tup Str, ((!DatumOrd.lt b a) || (!DatumOrd.lt a b)) = true := fun a b => by
    show ((!listLt b.items a.items) || (!listLt a.items b.items)) = true
    cases e : listLt b.items a.items with
    | false => rfl
    | true => rw [lst_asy e]; rfl
  refine (((sortD_perm xs).trans h).trans (sortD_perm ys).symm).eq_of_pairwise (le := fun a b => (!DatumOrd.lt b a) = true) (fun a b _ _ h1 h2 => ?_) (List.pairwise_mergeSort tr tot xs) (List.pairwise_mergeSort tr tot ys)
  have h1' : listLt b.items a.items = false := bnot h1
  have h2' : listLt a.items b.items = false := bnot h2
  rcases lst_tri a.items b.items with k | k | k
  · rw [k] at h2'; cases h2'
  · obtain ⟨a⟩ := a
    obtain ⟨b⟩ := b
    exact congrArg Tup.mk k
  · rw [k] at h1'; cases h1'
/-! ### what is counted -/
end Ob
set_option Elab.async false
set_option linter.all false
set_option maxRecDepth 100000
set_option maxHeartbeats 4000000
/-! Rv: x[::-1] of a list or a tuple. -/
namespace HT
open PySem PySem.Spec PyProof.Rows
section
variable {prog : Program} {w : World} {A : Around} {E : Value → Shared → Prop} {s : Shared}
theorem adjust_rev (n : Nat) : Builtin.Slice.sliceAdjust none none (-1) (n : Int) = ((n : Int) - 1, -1) := by
  unfold Builtin.Slice.sliceAdjust
  simp
theorem places_rev (n : Nat) : Builtin.Slice.slicePlaces ((n : Int) - 1) (-1) (-1) = n := by
  unfold Builtin.Slice.slicePlaces
  simp
  omega
theorem sliceApplied_rev {sl : Addr} {vs : Value} {n : Nat} {Q : Int × Int × Nat → Shared → Prop} (hs : s.heap.IsSliceOf sl .none .none vs) (ps : IsPart vs (some (-1))) (h : Q ((n : Int) - 1, -1, n) s) :
    wpAny (model prog w) A (Builtin.Slice.sliceApplied (.ref sl) (pure (n : Int))) Q E s := by
  obtain ⟨os, hos, hcs, hds⟩ := id hs
  unfold Builtin.Slice.sliceApplied Builtin.Slice.sliceFields
  refine wpAny_bind (wpAny_bind (wpAny_field hos hds (x := .none) rfl (wpAny_bind (wpAny_field hos hds (x := .none) rfl (wpAny_bind (wpAny_field hos hds (x := vs) rfl (wpAny_pure ?_)))))))
  refine wpAny_bind (slicePart_ ps ?_)
  show wpAny _ _ (if ((-1 : Int) == 0) = true then _ else _) _ _ s
  rw [if_neg (by decide)]
  refine wpAny_bind (slicePart_none (wpAny_bind (slicePart_none (wpAny_bind (wpAny_pure ?_)))))
  show wpAny _ _ (match Builtin.Slice.sliceAdjust none none (-1) (n : Int) with | (lo, hi) => pure (lo, (-1 : Int), Builtin.Slice.slicePlaces lo hi (-1))) _ _ s
  rw [adjust_rev n]
  show wpAny _ _ (pure ((n : Int) - 1, (-1 : Int), Builtin.Slice.slicePlaces ((n : Int) - 1) (-1) (-1))) _ _ s
  rw [places_rev]
  exact wpAny_pure h
theorem fm_congr {f g : Nat → Option Value} : ∀ l : List Nat, (∀ x ∈ l, f x = g x) → l.filterMap f = l.filterMap g
  | [], _ => rfl
  | x :: l, h => by
    rw [List.filterMap_cons, List.filterMap_cons, h x List.mem_cons_self, fm_congr l fun y hy => h y (List.mem_cons_of_mem _ hy)]
theorem rev_range (xs : List Value) : ((List.range xs.length).filterMap fun (m : Nat) => xs[(((xs.length : Nat) : Int) - 1 + (m : Int) * -1).toNat]?) = xs.reverse := by
  refine List.ext_getElem? fun i => ?_
  have e : (List.range xs.length).filterMap (fun (m : Nat) => xs[(((xs.length : Nat) : Int) - 1 + (m : Int) * -1).toNat]?) = (List.range xs.length).map fun m => xs.getD (xs.length - 1 - m) .none := by
    rw [← List.filterMap_eq_map]
    refine fm_congr _ fun m hm => ?_
    rw [List.mem_range] at hm
    have : (((xs.length : Nat) : Int) - 1 + (m : Int) * -1).toNat = xs.length - 1 - m := by omega
    rw [this, List.getElem?_eq_getElem (by omega), Function.comp, List.getD_eq_getElem?_getD, List.getElem?_eq_getElem (by omega)]
    rfl
  rw [e, List.getElem?_map]
  by_cases hi : i < xs.length
  · rw [List.getElem?_range hi, List.getElem?_reverse (by omega)]
    show some (xs.getD (xs.length - 1 - i) .none) = _
    rw [List.getD_eq_getElem?_getD, List.getElem?_eq_getElem (by omega)]
    rfl
  · rw [List.getElem?_eq_none (by simp; omega), List.getElem?_eq_none (by simp; omega)]
    rfl
theorem pick_rev (xs : Array Value) : ((List.range xs.size).filterMap fun (m : Nat) => xs[((xs.size : Int) - 1 + (m : Int) * -1).toNat]?).toArray = xs.toList.reverse.toArray := by
  have := rev_range xs.toList
  rw [Array.length_toList] at this
  congr 1
  rw [← this]
  refine fm_congr _ fun m _ => ?_
  rw [Array.getElem?_toList]
theorem getItem_tuple_rev {t sl : Addr} {items : Array Value} {vs : Value} {Q : Value → Shared → Prop} (ht : IsTup s.heap t items) (hs : s.heap.IsSliceOf sl .none .none vs) (ps : IsPart vs (some (-1)))
    (h : Q (.ref s.heap.objs.size) { s with heap := s.heap.push { cls := .type "tuple", data := .seq items.toList.reverse.toArray } })
    (hsz : items.size ≤ sizeLine) : wpAny (model prog w) A (getItem (.ref t) (.ref sl)) Q E s := by
  have htake : sizeOk (.seq items.toList.reverse.toArray) := by
    show items.toList.reverse.toArray.size ≤ sizeLine
    rw [List.size_toArray, List.length_reverse, Array.length_toList]
    exact hsz
  obtain ⟨os, hos, hcs, hds⟩ := id hs
  have hTs : s.TypeIs (.ref sl) "slice" := ⟨os, hos, hcs⟩
  unfold getItem
  try with_reducible refine wpAny_holding ?_
  first | refine wpAny_bind (wpAny_pure ?_) | skip
  refine wpAny_bind (wpAny_sequenceKey ht.typeIs (by decide) ?_)
  refine wpAny_bind (wpAny_callSpecial?_slot (name := Str.ofString "__getitem__") ht.typeIs PyProof.Rows.slot_tuple_getitem (wpAny_call_entry PyProof.Rows.slot_tuple_getitem ht.typeIs entry_tuple_getitem ?_ (args_tuple_getitem _ _)))
  show wpAny _ _ (Builtin.Tuple.tupleItemsOf (.ref t) >>= _) _ _ s
  refine wpAny_bind (tupleItemsOf_ ht (wpAny_bind (wpAny_typeOf hTs ?_)))
  rw [if_pos (by decide)]
  refine wpAny_bind (sliceApplied_rev hs ps ?_)
  have hno : ¬ ((((items.size : Int) - 1) == 0 && (-1 : Int) == 1 && items.size == items.size) = true) := by
    intro q
    rw [Bool.and_eq_true, Bool.and_eq_true] at q
    exact absurd q.1.2 (by decide)
  show wpAny _ _ (if (((items.size : Int) - 1) == 0 && (-1 : Int) == 1 && items.size == items.size) = true then _ else _) _ _ s
  rw [if_neg hno, pick_rev]
  first
    | exact wpAny_bind (m := Builtin.Tuple.tupleExact _) (wpAny_newObj_type (wpAny_pure ⟨_, rfl, wpAny_pure h⟩) htake)
    | exact wpAny_bind (m := Builtin.Tuple.tupleExact _) (wpAny_newObj_type (wpAny_bind (wpAny_pure (wpAny_pure ⟨_, rfl, wpAny_pure h⟩))) htake)
    | exact wpAny_bind (wpAny_bind (m := Builtin.Tuple.tupleExact _) (wpAny_newObj_type (wpAny_pure (wpAny_pure ⟨_, rfl, wpAny_pure h⟩)) htake))
    | exact wpAny_bind (wpAny_bind (m := Builtin.Tuple.tupleExact _) (wpAny_newObj_type (wpAny_pure ⟨_, rfl, wpAny_pure h⟩) htake))
end
end HT
namespace L2
open PySem PySem.Spec PyProof.Rows
/-- x[::-1], x a list or a tuple -/
def tRevX (K : PySem.W.Frag) (te : TE) : TE := fun σ H Q => te σ H fun x H1 => ∃ a xs, x = .ref a ∧ ((SqL K H1 a xs ∧ ∀ p, H1 p = none → Q (.ref p) (upd H1 p (.lst xs.reverse))) ∨ (SqT K H1 a xs ∧ ∀ p, H1 p = none → Q (.ref p) (upd H1 p (.tup xs.reverse))))
section
variable {X : Cx}
theorem pe_revX {e : Expr} {te : TE} {k : Nat} {p1 p2 p3 pos : Pos} (he : PE X e te) : PE X (.Subscript e (.Slice none none (some (.UnaryOp .USub (.Constant (.int 1) k p1) p2)) p3) pos) (tRevX X.K te) := by
  refine ⟨fun pins s σ H Q I h => Subscript_ (thn (he.run pins s σ H _ I h) fun v s1 ⟨x, H1, I1, r1, a, xs, ex, hh⟩ => ?_)⟩
  subst ex
  cases r1
  have hst : PO X (some (.UnaryOp .USub (.Constant (.int 1) k p1) p2)) (tPart (tUn (rU fun i => .int (-i)) (tC (.int 1)))) := po_some (pe_un un_neg pe_int)
  refine wpAny_Slice (thn (po_none.run pins s1 σ H1 (fun o H2 => o = none ∧ H2 = H1) I1 ⟨rfl, rfl⟩) fun vl s2 ⟨l, H2, I2, pl, el, e2⟩ => ?_)
  subst el e2
  refine thn (po_none.run pins s2 σ H2 (fun o H3 => o = none ∧ H3 = H2) I2 ⟨rfl, rfl⟩) fun vu s3 ⟨u, H3, I3, pu, eu, e3⟩ => ?_
  subst eu e3
  refine thn (hst.run pins s3 σ H3 (fun o H4 => o = some (-1) ∧ H4 = H3) I3 ⟨1, rfl, -1, rfl, rfl, rfl⟩) fun vs s4 ⟨o, H4, I4, ps, eo, e4⟩ => ?_
  subst eo e4
  have I5 : Inv X pins σ H4 { s4 with heap := s4.heap.push { cls := .type "slice", data := .fields #[vl, vu, vs] } } := I4.kept (t' := s4.toks) fun b ob q => Heap.get?_push_of_some _ q
  show wpAny (model X.prog X.w) X.A (subscriptTail e (.Slice none none (some (.UnaryOp .USub (.Constant (.int 1) k p1) p2)) p3) (.ref a) (.ref s4.heap.objs.size)) (EP X pins σ Q) X.xe { s4 with heap := s4.heap.push { cls := .type "slice", data := .fields #[vl, vu, vs] } }
  cases pl
  cases pu
  rcases hh with ⟨hx, q⟩ | ⟨hx, q⟩
  · obtain ⟨its, r, ht, hz⟩ := I5.list hx
    have hlen := r.length
    refine tail_any (ops := [.ref a, .ref s4.heap.objs.size]) ht.isList.typeIs (PySem.slot_list_getitem.lookup) ?_ (by with_unfolding_all rfl)
    refine wpAny_getItem_list_slice ht.isList (Heap.IsSliceOf.new _ _ _ vs) .none .none ps (by decide) ?_ (by rw [List.size_toArray]; omega)
    rw [PySem.W.krv_pick]
    exact ⟨.ref _, _, I5.laid (t' := s4.toks) (o := .lst xs.reverse) (fun b ob q => Heap.get?_push_of_some _ q) (Nat.le_refl _) ⟨by rw [List.length_reverse]; exact hz, _, 0, r.reverse, Heap.get?_push_size _ rfl⟩, rfl, q _ (I5.hok.fresh (Nat.le_refl _))⟩
  · obtain ⟨its, r, ht, hz⟩ := I5.tuple hx
    have hlen := r.length
    refine tail_any (ops := [.ref a, .ref s4.heap.objs.size]) ht.typeIs PyProof.Rows.slot_tuple_getitem.lookup ?_ (by with_unfolding_all rfl)
    refine HT.getItem_tuple_rev ht (Heap.IsSliceOf.new _ _ _ vs) ps ?_ (by rw [List.size_toArray]; omega)
    refine ⟨.ref _, _, I5.laid (t' := s4.toks) (o := .tup xs.reverse) (fun b ob q => Heap.get?_push_of_some _ q) (Nat.le_refl _) ?_, rfl, q _ (I5.hok.fresh (Nat.le_refl _))⟩
    exact ⟨by rw [List.length_reverse]; exact hz, _, r.reverse, IsTup.new _ _⟩
end
end L2
set_option Elab.async false
set_option linter.all false
set_option maxRecDepth 100000
set_option maxHeartbeats 4000000
/-! Tm: min of a list of data (after the library's KE.DataMinMax), list.remove of a text (after HandS.SetFor's of a number), the reverse of a pair. -/
namespace L2
open PySem PySem.Spec PyProof.Rows
end L2
set_option Elab.async false
set_option linter.all false
set_option maxRecDepth 100000
set_option maxHeartbeats 1000000
/-! M21: orientations of a history's last presses (section 5): arrows, sinks, no cycle, the first order that has an orientation. Plain. -/
namespace Ob
open PySem L2
open PySem.W (Datum Tup DatumOrd)
abbrev ix (T : List Str) (x : Str) : Nat := T.idxOf x
/-- no arrow leads back in the list -/
def Lin (D : List SS) (T : List Str) : Prop := T.Pairwise fun a b => (b, a) ∉ D
def ori (T : List Str) (e : SS) : SS := if decide ((ix T e.1 : Int) < (ix T e.2 : Int)) = true then e else (e.2, e.1)
/-! ### sinks -/
def sinkO (ss : List Str) (D : List SS) : List Str := (sortD ss).filter fun x => !(D.any fun e => decide (e.1 = x) && decide (e.2 ∈ ss))
theorem mem_sink {ss : List Str} {D : List SS} {x : Str} : x ∈ sinkO ss D ↔ x ∈ ss ∧ ∀ y ∈ ss, (x, y) ∉ D := by
  unfold sinkO
  rw [List.mem_filter, mem_sortD, Bool.not_eq_true', List.any_eq_false]
  refine and_congr_right fun _ => ⟨fun h y hy hm => ?_, fun h e he => ?_⟩
  · exact h (x, y) hm (by simp [hy])
  · simp only [Bool.and_eq_true, decide_eq_true_iff, not_and]
    rintro rfl hy
    exact h e.2 hy he
/-! ### pairs in order -/
/-! ### the first order that has an orientation -/
end Ob
set_option Elab.async false
set_option linter.all false
set_option maxRecDepth 100000
set_option maxHeartbeats 2000000
/-! Io (split off Ow): in_order. -/
set_option Elab.async false
set_option linter.all false
set_option maxRecDepth 100000
set_option maxHeartbeats 4000000
/-! W0a: a comprehension's list is nobody else's. -/
namespace Ob
open PySem L2
open Evl (Ex)
open PySem.W (Datum Tup DatumOrd)
section
variable {K : PySem.W.Frag} {H B B' : Hp} {v : V} {σ : L2.St} {te ta tb tc tk tv : TE} {tt tt1 tu : TT} {vs : List V} {Q : VK} {E : XK}
section
variable {α δ : Type} [Rep α] [Rep δ]
def FnF1 (K : PySem.W.Frag) (pre : α → Prop) (g : α → List δ) : Sp := fun vs H Q _ => ∃ x B, Ex B H ∧ RCons K x RNil vs B ∧ pre x ∧ ∀ l us B2 H2, Up B H B2 H2 → B2 l = none → H l = none → H2 l = some (.lst us) → AtAll K B2 us (g x) → Q (.ref l) H2
theorem FnF1.len {pre : α → Prop} {g : α → List δ} (vs : List V) (H : Hp) (Q : VK) (E : XK) (h : FnF1 K pre g vs H Q E) : vs.length = 1 := by
  obtain ⟨x, B, e, ⟨v, r, rfl, h1, rfl⟩, _⟩ := h
  rfl
theorem FnF1.st {pre : α → Prop} {g : α → List δ} (h : FnF1 K pre g vs H Q E) (N : List Str) : ∃ x B, pre x ∧ St K [] B H [] ([ce x] ++ List.replicate (N.length - 1) none) (start N vs) B H ∧ ∀ l us B2 H2, Up B H B2 H2 → B2 l = none → H l = none → H2 l = some (.lst us) → AtAll K B2 us (g x) → Q (.ref l) H2 := by
  obtain ⟨x, B, e, ⟨v, _, rfl, h1, rfl⟩, hp, q⟩ := h
  exact ⟨x, B, hp, St.pure e (start_slots [v] [ce x] _ (.cons (At1.some h1) .nil)), q⟩
end
end
end Ob
set_option Elab.async false
set_option linter.all false
set_option maxRecDepth 100000
set_option maxHeartbeats 2000000
/-! Ow: orientations (k69): exclusions_among, orientation_of, sinks_among, is_acyclic, is_orientation, sinks_of, order_of. -/
namespace Ob
open PySem L2
open Evl (Ex)
open PySem.W (Datum Tup DatumOrd)
section
variable {K : PySem.W.Frag} {W0 : List Addr} {B0 H0 : Hp} {os : List OC} {Γ : List (Option Cell)} {σ : L2.St} {B H B1 H1 : Hp} {te ta tb tc td tk tv : TE} {tt tt1 : TT} {D : Ends} {tu tw tz : TS} {E : XK} {vs : List V} {Q : VK}
/-- of two, of three parameters: a list that nobody else holds -/
def FnF2 {α β δ : Type} [Rep α] [Rep β] [Rep δ] (K : PySem.W.Frag) (pre : α → β → Prop) (g : α → β → List δ) : Sp := fun vs H Q _ => ∃ x y B, Ex B H ∧ RCons K x (RCons K y RNil) vs B ∧ pre x y ∧ ∀ l us B2 H2, Up B H B2 H2 → B2 l = none → H l = none → H2 l = some (.lst us) → AtAll K B2 us (g x y) → Q (.ref l) H2
section
variable {α β γ δ : Type} [Rep α] [Rep β] [Rep γ] [Rep δ] {pre : α → β → Prop} {g : α → β → List δ} {pre3 : α → β → γ → Prop} {g3 : α → β → γ → List δ} {x : α} {y : β} {z : γ}
theorem FnF2.len (vs : List V) (H : Hp) (Q : VK) (E : XK) (h : FnF2 K pre g vs H Q E) : vs.length = 2 := by
  obtain ⟨x, y, B, e, ⟨v, r, rfl, h1, v2, r2, rfl, h2, rfl⟩, _⟩ := h
  rfl
theorem FnF2.st (h : FnF2 K pre g vs H Q E) (N : List Str) : ∃ x y B, pre x y ∧ St K [] B H [] ([ce x, ce y] ++ List.replicate (N.length - 2) none) (start N vs) B H ∧ ∀ (l : Addr) (os : List OC) (k : Nat) (Γ : List (Option Cell)) (σ : L2.St) (B2 H2 : Hp), os[k]? = some (lstC K l (g x y)) → St K [] B H os Γ σ B2 H2 → Q (.ref l) H2 := by
  obtain ⟨x, y, B, e, ⟨v, _, rfl, h1, v2, _, rfl, h2, rfl⟩, hp, q⟩ := h
  refine ⟨x, y, B, hp, St.pure e (start_slots [v, v2] [ce x, ce y] _ (.cons (At1.some h1) (.cons (At1.some h2) .nil))), fun l os k Γ σ B2 H2 hk s => ?_⟩
  obtain ⟨g1, g2, ob, g3, us, rfl, g4⟩ := s.own _ (List.mem_of_getElem? hk)
  exact q l us B2 H2 s.toUp g1 (g2.resolve_left (by simp)) g3 g4
end
end
end Ob
set_option Elab.async false
set_option linter.all false
set_option maxRecDepth 100000
set_option maxHeartbeats 1000000
/-! Oi: independent_sets, stays. -/
set_option Elab.async false
set_option linter.all false
set_option maxRecDepth 100000
set_option maxHeartbeats 4000000
/-! Gd: repr of data; for it the state of the guards (no repr is under way) is handed down from law: FnOkG. -/
namespace L2
open PySem PySem.Spec PyProof.Rows
end L2
set_option Elab.async false
set_option linter.all false
set_option maxRecDepth 100000
set_option maxHeartbeats 4000000
/-! Ge: the end of a law whose promise asks for the guards (no repr is under way when the law is called). -/
namespace L2
open PySem PySem.Spec PyProof.Rows
end L2
set_option Elab.async false
set_option linter.all false
set_option maxRecDepth 100000
set_option maxHeartbeats 4000000
/-! Gf: data whose repr is known to fit; repr(x) by data. -/
namespace Ob
open PySem L2
open Evl (Ex)
open PySem.W (Datum Tup DatumOrd)
/-- repr fits: m bounds the signs, k the depth -/
structure Shw (m k : Nat) (d : PyData) : Prop where
  sh : d.showable = true
  nd : d.hasDict = false
  dp : d.depth ≤ k
  lf : d.leavesShort 8 = true
  bk : d.bulk ≤ m
theorem Shw.le {m k m' k' : Nat} {d : PyData} (h : Shw m k d) (h1 : m ≤ m') (h2 : k ≤ k') : Shw m' k' d := ⟨h.sh, h.nd, Nat.le_trans h.dp h2, h.lf, Nat.le_trans h.bk h1⟩
end Ob
set_option Elab.async false
set_option linter.all false
set_option maxRecDepth 100000
set_option maxHeartbeats 4000000
/-! Tg: lists of things of any kind; a list of two lists, of which nobody else holds the first, asked, then changed. -/
namespace Ob
open PySem L2
open Evl (Ex)
open PySem.W (Datum Tup DatumOrd)
section
variable {K : PySem.W.Frag} {W0 : List Addr} {B0 H0 : Hp} {os : List OC} {Γ : List (Option Cell)} {σ : L2.St} {B H B1 H1 : Hp} {te ta tb tc td tk tv : TE} {tt tt1 : TT} {D : Ends} {tu tw tz : TS}
theorem dqAll_app {H : Hp} : ∀ {vs ws : List V} {xs ys : List PyData}, DqAll K H vs xs → DqAll K H ws ys → DqAll K H (vs ++ ws) (xs ++ ys)
  | _, _, _, _, .nil, k => k
  | _, _, _, _, .cons a b, k => .cons a (dqAll_app b k)
theorem dqAll_len {H : Hp} : ∀ {vs : List V} {xs : List PyData}, DqAll K H vs xs → vs.length = xs.length
  | _, _, .nil => rfl
  | _, _, .cons a b => by rw [List.length_cons, List.length_cons, dqAll_len b]
theorem dqAll_mono {H H' : Hp} (e : Ex H H') : ∀ {vs : List V} {xs : List PyData}, DqAll K H vs xs → DqAll K H' vs xs
  | _, _, .nil => .nil
  | _, _, .cons a b => .cons (dq_monoR (ExR.of e) _ _ a) (dqAll_mono e b)
end
end Ob
set_option Elab.async false
set_option linter.all false
set_option maxRecDepth 100000
set_option maxHeartbeats 4000000
/-! Bx: data of any kind, bounded: how it is displayed, cut, added, turned round; lists of it that change. -/
namespace L2
open PySem PySem.Spec PyProof.Rows
end L2
namespace Ob
open PySem L2
open Evl (Ex)
open PySem.W (Datum Tup DatumOrd)
/-! ### data that repr can show -/
def Low (s : Str) : Prop := ∀ c ∈ s.cps.toList, c < 128
inductive OkD : PyData → Prop where
  | non : OkD .none
  | bl (b : Bool) : OkD (.bool b)
  | int (i : Int) (h : 0 ≤ i ∧ i ≤ 9) : OkD (.int i)
  | str (s : Str) (h : Low s) : OkD (.str s)
  | lst (ds : List PyData) (h : ∀ d ∈ ds, OkD d) : OkD (.list ds)
  | tup (ds : List PyData) (h : ∀ d ∈ ds, OkD d) : OkD (.tuple ds)
theorem bulk_l (ds : List PyData) : PyData.bulk (.list ds) = PyData.bulkAll ds := by simp only [PyData.bulk]
theorem bulk_t (ds : List PyData) : PyData.bulk (.tuple ds) = PyData.bulkAll ds := by simp only [PyData.bulk]
theorem bulkAll_cons (d : PyData) (ds : List PyData) : PyData.bulkAll (d :: ds) = PyData.bulk d + 1 + PyData.bulkAll ds := by simp only [PyData.bulkAll]
theorem bulkAll_mem {d : PyData} : ∀ {ds : List PyData}, d ∈ ds → d.bulk + 1 ≤ PyData.bulkAll ds
  | e :: ds, h => by
    rw [bulkAll_cons]
    rcases List.mem_cons.mp h with rfl | h
    · omega
    · have := bulkAll_mem h
      omega
theorem bulkAll_len : ∀ (ds : List PyData), ds.length ≤ PyData.bulkAll ds
  | [] => Nat.zero_le _
  | d :: ds => by rw [bulkAll_cons, List.length_cons]; have := bulkAll_len ds; omega
theorem okD_l {ds : List PyData} (h : OkD (.list ds)) : ∀ d ∈ ds, OkD d := by cases h with | lst _ h => exact h
theorem okD_t {ds : List PyData} (h : OkD (.tuple ds)) : ∀ d ∈ ds, OkD d := by cases h with | tup _ h => exact h
section
variable {K : PySem.W.Frag} {W0 : List Addr} {B0 H0 : Hp} {os : List OC} {Γ : List (Option Cell)} {σ : L2.St} {B H B1 H1 : Hp} {te tb tc td tk tv : TE} {ta : TA} {tt tt1 : TT} {D : Ends} {tu tw tz : TS} {tl th : TO}
/-! ### displays -/
abbrev Pad (K : PySem.W.Frag) (ta : TA) (σ : L2.St) (B : Hp) (ds : List PyData) : Prop := Pa ta σ B fun vs B => DqAll K B vs ds
theorem pad_nil : Pad K tNil σ B [] := fun H e Q q => q [] B H (Up.refl e) .nil
theorem pad_cons {d : PyData} {ds : List PyData} (h : Pe K te σ B (DD.mk d)) (hr : ∀ B', Ex B B' → Pad K ta σ B' ds) : Pad K (tCons te ta) σ B (d :: ds) := fun H e Q q =>
  h H e _ fun v B1 H1 u1 h1 => hr B1 u1.bb H1 u1.bh _ fun vs B2 H2 u2 h2 => q _ B2 H2 (u1.trans u2) (.cons (dq_monoR (ExR.of u2.bb) _ _ h1) h2)
theorem e_lstD {ds : List PyData} (h : Pad K ta σ B ds) (hz : ds.length ≤ 1000000) : Pe K (tLst ta) σ B (DD.mk (.list ds)) := fun H e Q q => h H e _ fun vs B1 H1 u hv =>
  ⟨by rw [dqAll_len hv, sizeLine_eq]; omega, fun p hp => q _ _ _ (u.then hp) (Dq.lst (Evl.sq_of upd_same) (dqAll_mono (Up.new (o := .lst vs) u.bh hp).bb hv))⟩
/-! ### list, tuple, [::-1], slices of data -/
/-- a list or a tuple of these -/
inductive SD (ds : List PyData) : PyData → Prop where
  | l : SD ds (.list ds)
  | t : SD ds (.tuple ds)
theorem sd_ex {ds : List PyData} {d : PyData} {v : V} (h : SD ds d) (hv : Rep.at_ K B v (DD.mk d)) : ∃ a vs, v = .ref a ∧ DqAll K B vs ds ∧ ((d = .list ds ∧ SqL K B a vs) ∨ (d = .tuple ds ∧ B a = some (.tup vs))) := by
  cases h with
  | l => cases (show Dq K B v (.list ds) from hv) with
    | lst a b => exact ⟨_, _, rfl, b, .inl ⟨rfl, a⟩⟩
  | t => cases (show Dq K B v (.tuple ds) from hv) with
    | tup a b => exact ⟨_, _, rfl, b, .inr ⟨rfl, a⟩⟩
theorem dqAll_rev {H : Hp} : ∀ {vs : List V} {xs : List PyData}, DqAll K H vs xs → DqAll K H vs.reverse xs.reverse
  | _, _, .nil => .nil
  | _, _, .cons a b => by
    rw [List.reverse_cons, List.reverse_cons]
    exact dqAll_app (dqAll_rev b) (.cons a .nil)
/-- the same kind of thing, of other parts -/
def likeD (d : PyData) (ds : List PyData) : PyData := match d with
  | .tuple _ => .tuple ds
  | _ => .list ds
theorem e_revD {ds : List PyData} {d : PyData} (hs : SD ds d) (h : Pe K te σ B (DD.mk d)) : Pe K (tRevX K te) σ B (DD.mk (likeD d ds.reverse)) := fun H e Q q => h H e _ fun v B1 H1 u hv => by
  obtain ⟨a, vs, rfl, hA, hh⟩ := sd_ex hs hv
  rcases hh with ⟨rfl, h1⟩ | ⟨rfl, h1⟩
  · exact ⟨a, vs, rfl, .inl ⟨Evl.ex_l u.bh h1, fun p hp => q _ _ _ (u.then hp) (Dq.lst (Evl.sq_of upd_same) (dqAll_mono (Up.new (o := .lst vs.reverse) u.bh hp).bb (dqAll_rev hA)))⟩⟩
  · exact ⟨a, vs, rfl, .inr ⟨ex_tx u.bh h1, fun p hp => q _ _ _ (u.then hp) (Dq.tup upd_same (dqAll_mono (Up.new (o := .tup vs.reverse) u.bh hp).bb (dqAll_rev hA)))⟩⟩
/-! ### texts -/
end
end Ob
set_option Elab.async false
set_option linter.all false
set_option maxRecDepth 100000
set_option maxHeartbeats 1000000
/-! Oy: is_acyclic, are_arrows, is_orientation, sinks_of, order_of (k69). -/
namespace Ob
open PySem L2
open Evl (Ex)
open PySem.W (Datum Tup DatumOrd)
section
variable {K : PySem.W.Frag}
def ExOk (p : Pan) : Prop := p.ex.Nodup ∧ (∀ e ∈ p.ex, ltS e.1 e.2 = true) ∧ p.ex.length ≤ 1000
theorem ExOk.irr {p : Pan} (h : ExOk p) : ∀ e ∈ p.ex, e.1 ≠ e.2 := fun e he z => by
  have := h.2.1 e he
  rw [z, ltS_irr] at this
  cases this
end
end Ob
set_option Elab.async false
set_option linter.all false
set_option maxRecDepth 100000
set_option maxHeartbeats 1000000
/-! Oz: the law's own orders, arrows, last presses (k69). -/
set_option Elab.async false
set_option linter.all false
set_option maxRecDepth 100000
set_option maxHeartbeats 1000000
/-! M41: the orders listed hold no order twice; how many leave a set on is what the tally says (k65, k66). Plain. -/
set_option Elab.async false
set_option linter.all false
set_option maxRecDepth 100000
set_option maxHeartbeats 1000000
/-! Tl: what the laws with tallies over orders share (k65, k66): _law_right's start with all tuples frozen; d.get(k, 0) of a dict with tuples as keys; sorted(d) beside a list that nobody else holds. -/
namespace Ob
open PySem L2
open Evl (Ex)
open PySem.W (Datum Tup DatumOrd)
section
variable {K : PySem.W.Frag} {W0 : List Addr} {B0 H0 : Hp} {os : List OC} {Γ : List (Option Cell)} {σ : L2.St} {B H B1 H1 : Hp} {te ta tb tc td tk tv : TE} {tt : TT} {D : Ends} {tu tw tz : TS} {b : Addr} {c n m : Int} {vs : List V} {Q : VK} {E : XK}
theorem RightP.stT (h : RightP K vs H Q E) (N : List Str) : ∃ b B, TC B H ∧ St K [b] B H [boxC b 0] ([ca b] ++ List.replicate (N.length - 1) none) (start N vs) B H ∧ ∀ os Γ σ B2 H2, St K [b] B H os Γ σ B2 H2 → Q (.bl true) H2 := by
  obtain ⟨b, B, rfl, e, bx, q⟩ := h
  have s0 := St.draw e bx (start_slots (K := K) [.ref b] [ca b] (N.length - 1) (.cons (At1.some rfl) .nil))
  have s1 := s0.widen (fun o ho => by rw [List.mem_singleton.mp ho]; exact nt_box)
  refine ⟨b, wide B H, wide_tc, s1, fun os Γ σ B2 H2 s => ?_⟩
  have w := s.toUb
  exact q B H2 ⟨Ex.refl B, ((wide_ex e).trans w.bb).trans w.bh, w.hh, fun _ h => .inl h⟩
theorem e_revLX {xs : List Str} (h : Pe K te σ B xs) : Pe K (tRevX K te) σ B xs.reverse := by
  have h0 := e_revD (ds := xs.map .str) .l (e_dd h)
  have e : likeD (.list (xs.map PyData.str)) (xs.map PyData.str).reverse = Datum.toD xs.reverse := by
    show PyData.list (xs.map PyData.str).reverse = .list (xs.reverse.map .str)
    rw [List.map_reverse]
  rw [e] at h0
  exact h0
end
end Ob
set_option Elab.async false
set_option linter.all false
set_option maxRecDepth 100000
set_option maxHeartbeats 2000000
/-! Ds: dicts with tuples as keys: [d[k] for k in d]; sorted(d) in a test, handed to a def; {} beside a drawn thing. -/
namespace Ob
open PySem L2
open Evl (Ex)
open PySem.W (Datum Tup DatumOrd)
section
variable {K : PySem.W.Frag} {σ : L2.St} {B H : Hp} {te : TE}
theorem Slots.lenQ : ∀ {σ : L2.St} {Γ : List (Option Cell)}, Slots K B σ Γ → σ.length = Γ.length
  | _, _, .nil => rfl
  | _, _, .cons _ t => congrArg (· + 1) (Slots.lenQ t)
end
end Ob
set_option Elab.async false
set_option linter.all false
set_option maxRecDepth 100000
set_option maxHeartbeats 2000000
/-! Ek: for k, v in d.items() of a dict with tuples as keys; expressions that want all tuples frozen (PeU); what such a def may do within (narrow). -/
namespace Ob
open PySem PySem.Spec PyProof.Rows L2
open Evl (Ex)
open PySem.W (Datum Tup DatumOrd)
theorem walk_itemsT {d : Addr} {o : Obj} {kvs : List (List Key × V)} : Walk (ItiT d o kvs) kvs.length (fun H => H d = some (.frz o (.dT kvs)))
    (fun i H x H' => ∃ (T : Addr) (k : List Key) (v : V) (q : Addr), kvs[i]? = some (k, v) ∧ x = .ref T ∧ H T = none ∧ H q = some (.tup (k.map kV)) ∧ H' = upd H T (.tup [.ref q, v])) :=
  ⟨fun _ _ hi q => ⟨q, hi⟩, fun _ q => ⟨q, Nat.le_refl _⟩, fun _ _ _ _ _ _ y => y⟩
theorem tc_upd {B H : Hp} {T : Addr} {us : List V} (h : TC B H) : TC (upd B T (.tup us)) (upd H T (.tup us)) := fun a vs e => by
  by_cases z : a = T
  · subst z
    rw [upd_same] at e ⊢
    exact e
  · rw [upd_ne z] at e ⊢
    exact h a vs e
/-- all tuples frozen, later on -/
theorem tc_up {B H B1 H1 : Hp} (tc : TC B H) (u : Up B H B1 H1) : Up B H (wide B1 H1) H1 := ⟨u.bb.trans (wide_ex u.bh), wide_in u.bh, u.hh, fun a ha => by
  rcases wide_or B1 H1 a with ⟨us, h1, h2⟩ | h1
  · cases q : H a with
    | none => exact .inr rfl
    | some o =>
      have := u.hh a o q
      rw [h1] at this
      cases this
      refine .inl ?_
      rw [tc a us q]
      exact fun z => nomatch z
  · rw [h1] at ha
    exact u.nw a ha⟩
/-- within, all tuples were frozen; without, nothing is told -/
theorem Up.narrow {B H B2 H2 : Hp} (e : Ex B H) (u : Up (wide B H) H B2 H2) : Up B H B H2 := ⟨Ex.refl B, (wide_ex e).trans (u.bb.trans u.bh), u.hh, fun _ h => .inl h⟩
section
variable {K : PySem.W.Frag} {W0 : List Addr} {B0 H0 : Hp} {os : List OC} {Γ : List (Option Cell)} {σ : L2.St} {B H B1 H1 : Hp} {te ta tb tc td tk tv : TE} {tt : TT} {D : Ends} {tu tw tz : TS}
/-- for k, v in d.items() (locked), d's keys tuples of texts, its values numbers; each turn all tuples are frozen -/
theorem St.forIT {δ : Type} {i : Nat} {a : Addr} {od : Obj} {kvs : List (List Key × V)} {L : List (List Str × Int)} {g : TG} (s : St K W0 B0 H0 os Γ σ B H) (hv : σ[i]? = some (some (.ref a))) (hB : B a = some (.frz od (.dT kvs))) (hd : DicTAt K B kvs L) (tc : TC B0 H0)
    (oz : List (List Str × Int) → δ → List OC) (Γz : List (List Str × Int) → δ → List (Option Cell)) (P : List (List Str × Int) → δ → Prop) (hn : ∀ done d, ∀ o ∈ oz done d, o.nt) (hW : ∀ done d, ∀ a ∈ W0, ∃ o ∈ oz done d, o.l = a)
    (h0 : ∃ d, P [] d ∧ St K W0 B0 H0 (oz [] d) (Γz [] d) σ B H)
    (hs : ∀ done x rest d, L = done ++ x :: rest → P done d → ∀ (v : V) (σ' : L2.St) (B' H' : Hp) (N : L2.St → Hp → Prop), (∀ (d' : δ) {σ3 : L2.St} {B3 H3 : Hp}, P (done ++ [x]) d' → St K ((oz done d).map (·.l)) B' H' (oz (done ++ [x]) d') (Γz (done ++ [x]) d') σ3 B3 H3 → N σ3 H3) →
      TC B' H' → St K W0 B0 H0 (oz done d) (Γz done d) σ' B' H' → Rep.at_ K B' v (Tup.mk x.1, x.2) → g v σ' H' fun σ2 H2 => tu { D with nx := N, ct := N, bk := D.nx } σ2 H2)
    (k : ∀ d, P L d → ∀ σ' B' H', St K W0 B0 H0 (oz L d) (Γz L d) σ' B' H' → D.nx σ' H') : tFor (iItemsT (tVar i)) g tu D σ H := by
  refine ⟨.ref a, hv, a, od, kvs, rfl, s.bh a _ hB, ?_⟩
  have el : kvs.length = L.length := hd.length
  refine for_it walk_itemsT (fun n σ' H' => ∃ B' d, Ex B B' ∧ P (L.take n) d ∧ St K W0 B0 H0 (oz (L.take n) d) (Γz (L.take n) d) σ' B' H') ?_ (fun n σ' H' _ p => ?_) (fun n v σ' Hx H' hi p y => ?_) fun σ' H' p => ?_
  · obtain ⟨d, h1, h2⟩ := h0
    exact ⟨B, d, Ex.refl B, h1, h2⟩
  · obtain ⟨B', d, b1, _, s'⟩ := p
    exact s'.bh a _ (b1 a _ hB)
  · obtain ⟨B', d, b1, hP, s'⟩ := p
    obtain ⟨T, key, w, q, y2, rfl, y3, y4, rfl⟩ := y
    have hx : ∃ x : List Str × Int, L[n]? = some x ∧ key = kT x.1 ∧ Rep.at_ K B w x.2 := by
      have key2 : ∀ {ks : List (List Key × V)} {Lq : List (List Str × Int)}, DicTAt K B ks Lq → ∀ n : Nat, ks[n]? = some (key, w) → ∃ x : List Str × Int, Lq[n]? = some x ∧ key = kT x.1 ∧ Rep.at_ K B w x.2 := fun {ks Lq} h => by
        unfold DicTAt at h
        induction h with
        | nil => intro n h; cases h
        | @cons a b as bs h1 _ ih =>
          intro n h
          cases n with
          | zero =>
            cases h
            exact ⟨b, rfl, h1.1, h1.2⟩
          | succ n => exact ih n h
      exact key2 hd n y2
    obtain ⟨x, hx, rfl, hw⟩ := hx
    have s2 := s'.tcAll tc (hn _ _) (hW _ _)
    have u3 := Up.new (o := .tup [.ref q, w]) s2.bh y3
    have s3 := s2.up u3
    have exs : L = L.take n ++ x :: L.drop (n + 1) := by
      have hlt := (List.getElem?_eq_some_iff.mp hx).1
      have e1 : L.drop n = x :: L.drop (n + 1) := by
        rw [List.drop_eq_getElem_cons hlt]
        congr 1
        exact (List.getElem?_eq_some_iff.mp hx).2
      rw [← e1, List.take_append_drop]
    have et : L.take n ++ [x] = L.take (n + 1) := by
      rw [List.take_add_one, hx]
      rfl
    rw [kT_map] at y4
    have hq : Rep.at_ K (upd (wide B' Hx) T (.tup [.ref q, w])) (.ref q) (Tup.mk x.1) := Rep.mono u3.bb (at_tup.mpr ⟨q, _, rfl, wide_tup y4, at_strs x.1⟩)
    refine hs (L.take n) x (L.drop (n + 1)) d exs hP _ σ' _ _ _ (fun d' {σ3 B3 H3} hP' s4 => ?_) (tc_upd wide_tc) s3 (at_pair.mpr ⟨T, _, _, rfl, upd_same, hq, Rep.mono (b1.trans ((wide_ex s'.bh).trans u3.bb)) hw⟩)
    rw [et] at hP' s4
    exact ⟨B3, d', b1.trans ((wide_ex s'.bh).trans (u3.bb.trans s4.bb)), hP', s3.comp s4⟩
  · obtain ⟨B', d, b1, hP, s'⟩ := p
    rw [el, List.take_length] at hP s'
    exact k d hP σ' B' H' s'
/-! ### expressions that want all tuples frozen -/
def PeU (K : PySem.W.Frag) {α : Type} [Rep α] (te : TE) (σ : L2.St) (B H : Hp) (x : α) : Prop := ∀ B1 H1, Up B H B1 H1 → TC B1 H1 → ∀ Q : VK, (∀ v B2 H2, Up B1 H1 B2 H2 → TC B2 H2 → Rep.at_ K B2 v x → Q v H2) → te σ H1 Q
/-- a def that wants all tuples frozen -/
def FnT4 (K : PySem.W.Frag) {α β γ δ ε : Type} [Rep α] [Rep β] [Rep γ] [Rep δ] [Rep ε] (pre : α → β → γ → δ → Prop) (f : α → β → γ → δ → ε) : Sp := fun vs H Q _ => ∃ x y z t B, Ex B H ∧ TC B H ∧ RCons K x (RCons K y (RCons K z (RCons K t RNil))) vs B ∧ pre x y z t ∧ ∀ v B2 H2, Up B H B2 H2 → Rep.at_ K B2 v (f x y z t) → Q v H2
section
variable {α β γ δ ε : Type} [Rep α] [Rep β] [Rep γ] [Rep δ] [Rep ε] {pre : α → β → γ → δ → Prop} {f : α → β → γ → δ → ε} {x : α} {y : β} {z : γ} {t : δ} {E : XK}
theorem FnT4.len (vs : List V) (H : Hp) (Q : VK) (E : XK) (h : FnT4 K pre f vs H Q E) : vs.length = 4 := by
  obtain ⟨x, y, z, t, B, e, _, ⟨v, r, rfl, h1, v2, r2, rfl, h2, v3, r3, rfl, h3, v4, r4, rfl, h4, rfl⟩, _⟩ := h
  rfl
theorem FnT4.st {vs : List V} {Q : VK} (h : FnT4 K pre f vs H Q E) (N : List Str) : ∃ x y z t B, pre x y z t ∧ TC B H ∧ St K [] B H [] ([ce x, ce y, ce z, ce t] ++ List.replicate (N.length - 4) none) (start N vs) B H ∧ ∀ v B2 H2, Up B H B2 H2 → Rep.at_ K B2 v (f x y z t) → Q v H2 := by
  obtain ⟨x, y, z, t, B, e, tc, ⟨v, _, rfl, h1, v2, _, rfl, h2, v3, _, rfl, h3, v4, _, rfl, h4, rfl⟩, hp, q⟩ := h
  exact ⟨x, y, z, t, B, hp, tc, St.pure e (start_slots [v, v2, v3, v4] [ce x, ce y, ce z, ce t] _ (.cons (At1.some h1) (.cons (At1.some h2) (.cons (At1.some h3) (.cons (At1.some h4) .nil))))), q⟩
theorem eU_call4 (h : Pe K ta σ B x) (h2 : Pe K tb σ B y) (h3 : Pe K tc σ B z) (h4 : Pe K td σ B t) (hp : pre x y z t) : PeU K (tCall (FnT4 K pre f) [] E (tCons ta (tCons tb (tCons tc (tCons td tNil))))) σ B H (f x y z t) := fun B1 H1 u tc0 Q q => a_4 (h.mono u.bb) (h2.mono u.bb) (h3.mono u.bb) (h4.mono u.bb) H1 u.bh _ fun vs B2 H2 u2 hv => by
  rw [List.append_nil]
  have u3 := tc_up tc0 u2
  have b2 : Ex B2 (wide B2 H2) := wide_ex u2.bh
  obtain ⟨v, _, rfl, k1, v2, _, rfl, k2, v3, _, rfl, k3, v4, _, rfl, k4, rfl⟩ := hv
  exact ⟨x, y, z, t, _, u3.bh, wide_tc, ⟨v, _, rfl, Rep.mono b2 k1, v2, _, rfl, Rep.mono b2 k2, v3, _, rfl, Rep.mono b2 k3, v4, _, rfl, Rep.mono b2 k4, rfl⟩, hp, fun w B3 H3 u4 hw => q w _ H3 (u3.trans (tc_up wide_tc u4)) wide_tc (Rep.mono (wide_ex u4.bh) hw)⟩
end
/-- such an expression, told, and the statement with what it gave -/
theorem St.useU {α : Type} [Rep α] {x : α} {Q : VK} (s : St K W0 B0 H0 os Γ σ B H) (tc : TC B0 H0) (hn : ∀ o ∈ os, o.nt) (hW : ∀ a ∈ W0, ∃ o ∈ os, o.l = a) (h : PeU K te σ (wide B H) H x) (q : ∀ v B1 H1, TC B1 H1 → St K W0 B0 H0 os Γ σ B1 H1 → Rep.at_ K B1 v x → Q v H1) : te σ H Q := by
  have s2 := s.tcAll tc hn hW
  exact h _ H (Up.refl s2.bh) wide_tc Q fun v B2 H2 u tc2 hv => q v B2 H2 tc2 (s2.up u) hv
/-- a for; each turn all tuples are frozen -/
theorem St.forGT {α δ : Type} [Rep α] {wi : TI} {g : TG} {xs : List α} (s : St K W0 B0 H0 os Γ σ B H) (tc : TC B0 H0) (h : ItD K wi σ B xs) (oz : List α → δ → List OC) (Γz : List α → δ → List (Option Cell)) (P : List α → δ → Prop) (hn : ∀ done d, ∀ o ∈ oz done d, o.nt) (hW : ∀ done d, ∀ a ∈ W0, ∃ o ∈ oz done d, o.l = a)
    (h0 : ∃ d, P [] d ∧ ∀ B1 H1, St K W0 B0 H0 os Γ σ B1 H1 → St K W0 B0 H0 (oz [] d) (Γz [] d) σ B1 H1)
    (hs : ∀ done x rest d, xs = done ++ x :: rest → P done d → ∀ (v : V) (σ' : L2.St) (B' H' : Hp) (N : L2.St → Hp → Prop), (∀ (d' : δ) {σ3 : L2.St} {B3 H3 : Hp}, P (done ++ [x]) d' → St K ((oz done d).map (·.l)) B' H' (oz (done ++ [x]) d') (Γz (done ++ [x]) d') σ3 B3 H3 → N σ3 H3) →
      TC B' H' → St K W0 B0 H0 (oz done d) (Γz done d) σ' B' H' → Rep.at_ K B' v x → g v σ' H' fun σ2 H2 => tu { D with nx := N, ct := N, bk := tz D } σ2 H2)
    (k : ∀ d, P xs d → ∀ σ' B' H', St K W0 B0 H0 (oz xs d) (Γz xs d) σ' B' H' → tz D σ' H') : tSeq (tFor wi g tu) tz D σ H := by
  show tFor wi g tu { D with nx := tz D } σ H
  refine p_for h s.bh fun B1 H1 u => ⟨fun done σ' B' H' => ∃ d, P done d ∧ St K W0 B0 H0 (oz done d) (Γz done d) σ' B' H', ?_, fun done x rest v σ' B' Hx B2 H2 ex b1 bx hP u2 hv => ?_, fun σ' B' H' b1 bx hP => ?_⟩
  · obtain ⟨d, hd, hk⟩ := h0
    exact ⟨d, hd, hk B1 H1 (s.up u)⟩
  · obtain ⟨d, hd, s'⟩ := hP
    have s2 := s'.up u2
    have s3 := s2.tcAll tc (hn _ _) (hW _ _)
    exact hs done x rest d ex hd v σ' _ H2 _ (fun d' {σ3 B3 H3} hd' s4 => ⟨B3, b1.trans (u2.bb.trans ((wide_ex s2.bh).trans s4.bb)), s4.bh, d', hd', s3.comp s4⟩) wide_tc s3 (Rep.mono (wide_ex s2.bh) hv)
  · obtain ⟨d, hd, s'⟩ := hP
    exact k d hd σ' B' H' s'
end
end Ob
set_option Elab.async false
set_option linter.all false
set_option maxRecDepth 100000
set_option maxHeartbeats 1000000
/-! M22: sinks turned into sources (section 5): differences along arrows, one orientation for each sink, the turning ends. Plain. -/
namespace Ob
open PySem L2
open PySem.W (Datum Tup DatumOrd)
def adjE (E : List SS) (u v : Str) : Prop := (u, v) ∈ E ∨ (v, u) ∈ E
theorem adjE.symm {E : List SS} {u v : Str} (h : adjE E u v) : adjE E v u := Or.symm h
/-- A gives each exclusion of E one direction -/
structure OrE (E A : List SS) : Prop where
  nd : A.Nodup
  un : ∀ u v, ((u, v) ∈ A ∨ (v, u) ∈ A) ↔ adjE E u v
  as : ∀ u v, (u, v) ∈ A → (v, u) ∉ A
def flipAt (x : Str) (A : List SS) : List SS := A.map fun e => if decide (x ∈ [e.1, e.2]) = true then (e.2, e.1) else e
theorem mem_flip {x u v : Str} {A : List SS} : (u, v) ∈ flipAt x A ↔ if x = u ∨ x = v then (v, u) ∈ A else (u, v) ∈ A := by
  unfold flipAt
  rw [List.mem_map]
  constructor
  · rintro ⟨⟨a, b⟩, he, h⟩
    by_cases hx : x ∈ [a, b]
    · rw [if_pos (decide_eq_true hx)] at h
      have h1 : b = u := congrArg Prod.fst h
      have h2 : a = v := congrArg Prod.snd h
      subst h1 h2
      have hx' : x = a ∨ x = b := by simpa using hx
      rw [if_pos hx'.symm]
      exact he
    · rw [if_neg (by rw [decide_eq_false hx]; decide)] at h
      have h1 : a = u := congrArg Prod.fst h
      have h2 : b = v := congrArg Prod.snd h
      subst h1 h2
      have hx' : ¬ (x = a ∨ x = b) := by simpa using hx
      rw [if_neg hx']
      exact he
  · intro h
    by_cases hx : x = u ∨ x = v
    · rw [if_pos hx] at h
      refine ⟨(v, u), h, ?_⟩
      rw [if_pos (decide_eq_true (by simpa using hx.symm))]
    · rw [if_neg hx] at h
      refine ⟨(u, v), h, ?_⟩
      rw [if_neg (by rw [decide_eq_false (by simpa using hx)]; decide)]
theorem flip_nd {x : Str} {A : List SS} (h : A.Nodup) : (flipAt x A).Nodup := by
  unfold flipAt
  have key : ∀ e f : SS, (if decide (x ∈ [e.1, e.2]) = true then (e.2, e.1) else e) = (if decide (x ∈ [f.1, f.2]) = true then (f.2, f.1) else f) → e = f := by
    rintro ⟨a, b⟩ ⟨c, d⟩ h
    by_cases h1 : x ∈ [a, b]
    · rw [if_pos (decide_eq_true h1)] at h
      by_cases h2 : x ∈ [c, d]
      · rw [if_pos (decide_eq_true h2)] at h
        cases h
        rfl
      · rw [if_neg (by rw [decide_eq_false h2]; decide)] at h
        cases h
        exact absurd (by simp at h1 ⊢; exact h1.symm) h2
    · rw [if_neg (by rw [decide_eq_false h1]; decide)] at h
      by_cases h2 : x ∈ [c, d]
      · rw [if_pos (decide_eq_true h2)] at h
        cases h
        exact absurd (by simp at h2 ⊢; exact h2.symm) h1
      · rw [if_neg (by rw [decide_eq_false h2]; decide)] at h
        exact h
  induction A with
  | nil => exact .nil
  | cons e A ih =>
    rw [List.nodup_cons] at h
    rw [List.map_cons, List.nodup_cons]
    refine ⟨fun hm => ?_, ih h.2⟩
    obtain ⟨f, hf, hfe⟩ := List.mem_map.mp hm
    exact h.1 (key f e hfe ▸ hf)
theorem OrE.flip {E A : List SS} (h : OrE E A) (x : Str) : OrE E (flipAt x A) where
  nd := flip_nd h.nd
  un u v := by
    rw [mem_flip, mem_flip, ← h.un u v]
    by_cases hx : x = u ∨ x = v
    · rw [if_pos hx, if_pos hx.symm]
      exact Or.comm
    · rw [if_neg hx, if_neg fun z => hx z.symm]
  as u v := by
    rw [mem_flip, mem_flip]
    by_cases hx : x = u ∨ x = v
    · rw [if_pos hx, if_pos hx.symm]
      exact h.as v u
    · rw [if_neg hx, if_neg fun z => hx z.symm]
      exact h.as u v
theorem ite_iff {α : Type} {p q : Prop} [Decidable p] [Decidable q] {a b : α} (h : p ↔ q) : (if p then a else b) = if q then a else b := by
  by_cases hp : p
  · rw [if_pos hp, if_pos (h.mp hp)]
  · rw [if_neg hp, if_neg fun z => hp (h.mpr z)]
def dirI (A : List SS) (u v : Str) : Int := if (u, v) ∈ A then 1 else 0
theorem dirI1 {A : List SS} {u v : Str} : dirI A u v = 1 ↔ (u, v) ∈ A := by
  unfold dirI
  split
  · simp [*]
  · simp [*]
theorem dirI0 {A : List SS} {u v : Str} : dirI A u v = 0 ↔ (u, v) ∉ A := by
  unfold dirI
  split
  · simp [*]
  · simp [*]
theorem OrE.c {E A : List SS} (h : OrE E A) {u v : Str} (ha : adjE E u v) : dirI A u v + dirI A v u = 1 := by
  rcases (h.un u v).mpr ha with h1 | h1
  · rw [dirI1.mpr h1, dirI0.mpr (h.as u v h1)]
    rfl
  · rw [dirI1.mpr h1, dirI0.mpr (h.as v u h1)]
    rfl
/-- the differences of A and A2 are those of heights -/
def Pot (E : List SS) (t : Str → Int) (A A2 : List SS) : Prop := ∀ u v, adjE E u v → dirI A2 u v = dirI A u v + t u - t v
theorem Pot.refl {E A : List SS} : Pot E (fun _ => 0) A A := fun u v _ => by
  show dirI A u v = dirI A u v + 0 - 0
  omega
theorem Pot.trans {E A B C : List SS} {t s : Str → Int} (h : Pot E t A B) (k : Pot E s B C) : Pot E (fun u => t u + s u) A C := fun u v ha => by
  have := h u v ha
  have := k u v ha
  show dirI C u v = dirI A u v + (t u + s u) - (t v + s v)
  omega
theorem Pot.symm {E A B : List SS} {t : Str → Int} (h : Pot E t A B) : Pot E (fun u => - t u) B A := fun u v ha => by
  have := h u v ha
  show dirI A u v = dirI B u v + - t u - - t v
  omega
/-- t, one more at x -/
def bump (t : Str → Int) (x : Str) (d : Int) : Str → Int := fun u => if u = x then t u + d else t u
theorem bump_x (t : Str → Int) (x : Str) (d : Int) : bump t x d x = t x + d := if_pos rfl
theorem bump_ne {t : Str → Int} {x u : Str} {d : Int} (h : u ≠ x) : bump t x d u = t u := if_neg h
theorem pot_flip {E A0 A : List SS} {t : Str → Int} {x : Str} {d : Int} (irr : ∀ u, ¬ adjE E u u) (ho : OrE E A) (hp : Pot E t A0 A) (hs : ∀ y, adjE E x y → dirI A y x = dirI A x y + d) : Pot E (bump t x d) A0 (flipAt x A) := fun u v ha => by
  have huv : u ≠ v := fun z => irr u (by rw [z] at ha ⊢; exact ha)
  have h0 := hp u v ha
  have hc : dirI (flipAt x A) u v = if x = u ∨ x = v then dirI A v u else dirI A u v := by
    unfold dirI
    by_cases hx : x = u ∨ x = v
    · rw [if_pos hx]
      refine ite_iff ?_
      rw [mem_flip, if_pos hx]
    · rw [if_neg hx]
      refine ite_iff ?_
      rw [mem_flip, if_neg hx]
  rw [hc]
  by_cases h1 : x = u
  · subst h1
    rw [if_pos (.inl rfl), bump_x, bump_ne (Ne.symm huv), hs v ha]
    omega
  · by_cases h2 : x = v
    · subst h2
      rw [if_pos (.inr rfl), bump_x, bump_ne huv]
      have := hs u ha.symm
      omega
    · rw [if_neg (fun h => h.elim h1 h2), bump_ne (Ne.symm h1), bump_ne (Ne.symm h2)]
      exact h0
/-- x has no arrow to another one: it is turned up -/
theorem sink_d {E A : List SS} {x : Str} (ho : OrE E A) (hs : ∀ y, (x, y) ∉ A) : ∀ y, adjE E x y → dirI A y x = dirI A x y + 1 := fun y ha => by
  have h1 := ho.c ha
  have h2 := dirI0.mpr (hs y)
  omega
def Acy (V : List Str) (A : List SS) : Prop := ∃ T, T.Perm V ∧ Lin A T
theorem acy_sink {V : List Str} {A : List SS} {x : Str} (hx : x ∈ V) (nd : V.Nodup) (h : Acy V A) (hs : ∀ y, (x, y) ∉ A) : Acy V (flipAt x A) := by
  obtain ⟨T, hp, hl⟩ := h
  have ndT : T.Nodup := hp.nodup_iff.mpr nd
  refine ⟨x :: T.erase x, (List.perm_cons_erase (hp.mem_iff.mpr hx)).symm.trans hp, List.pairwise_cons.mpr ⟨fun b _ hm => ?_, ?_⟩⟩
  · rw [mem_flip, if_pos (.inr rfl)] at hm
    exact hs b hm
  · have h1 : Lin A (T.erase x) := hl.sublist List.erase_sublist
    have hne : ∀ a ∈ T.erase x, x ≠ a := fun a ha z => by
      rw [z] at ha
      exact ndT.not_mem_erase ha
    refine List.Pairwise.imp_of_mem (fun {a b} ha hb h2 hm => ?_) h1
    rw [mem_flip, if_neg (fun h => h.elim (hne b hb) (hne a ha))] at hm
    exact h2 hm
/-- what is asked of the exclusions: between the switches, none with itself -/
structure Gr (E : List SS) (V : List Str) : Prop where
  nd : V.Nodup
  irr : ∀ u, ¬ adjE E u u
  inV : ∀ u v, adjE E u v → u ∈ V
/-! ### the turning ends -/
def sumT (t : Str → Int) : List Str → Int
  | [] => 0
  | u :: V => t u + sumT t V
theorem sum_same {t s : Str → Int} : ∀ {V : List Str}, (∀ u ∈ V, t u = s u) → sumT t V = sumT s V
  | [], _ => rfl
  | u :: V, h => by
    show t u + sumT t V = s u + sumT s V
    rw [h u List.mem_cons_self, sum_same fun v hv => h v (List.mem_cons_of_mem _ hv)]
theorem sum_bump {t : Str → Int} {x : Str} {d : Int} : ∀ {V : List Str}, V.Nodup → x ∈ V → sumT (bump t x d) V = sumT t V + d
  | [], _, h => by cases h
  | u :: V, nd, h => by
    rw [List.nodup_cons] at nd
    show bump t x d u + sumT (bump t x d) V = t u + sumT t V + d
    by_cases e : u = x
    · subst e
      rw [bump_x, sum_same (t := bump t u d) (s := t) fun v hv => bump_ne fun z : v = u => nd.1 (by rw [← z]; exact hv)]
      omega
    · rw [bump_ne e, sum_bump nd.2 ((List.mem_cons.mp h).resolve_left fun z => e z.symm)]
      omega
def othO (V : List Str) (s : Str) (A : List SS) : List Str := (sinkO V A).filter fun x => !decide (x = s)
/-- what stays true while sinks are turned -/
structure MovI (E : List SS) (V : List Str) (s : Str) (A0 : List SS) (k : Nat) (A : List SS) : Prop where
  ori : OrE E A
  acy : Acy V A
  pot : ∃ t : Str → Int, Pot E t A0 A ∧ t s = 0 ∧ sumT t V + (k : Int) = (V.length : Int) * (V.length : Int) + 1
theorem sink_all {E A : List SS} {V : List Str} (g : Gr E V) (ho : OrE E A) {x : Str} (h : x ∈ sinkO V A) : x ∈ V ∧ ∀ y, (x, y) ∉ A := by
  obtain ⟨h1, h2⟩ := mem_sink.mp h
  exact ⟨h1, fun y hy => h2 y (g.inV y x ((ho.un x y).mp (.inl hy)).symm) hy⟩
theorem MovI.step {E A0 A : List SS} {V : List Str} {s x : Str} {xs : List Str} {k : Nat} (g : Gr E V) (I : MovI E V s A0 (k + 1) A) (h : othO V s A = x :: xs) : MovI E V s A0 k (flipAt x A) := by
  have hx : x ∈ othO V s A := by rw [h]; exact List.mem_cons_self
  obtain ⟨hx1, hx2⟩ := List.mem_filter.mp hx
  rw [Bool.not_eq_true', decide_eq_false_iff_not] at hx2
  obtain ⟨hxV, hxs⟩ := sink_all g I.ori hx1
  obtain ⟨t, hp, h0, hk⟩ := I.pot
  refine ⟨I.ori.flip x, acy_sink hxV g.nd I.acy hxs, bump t x 1, pot_flip g.irr I.ori hp (sink_d I.ori hxs), by rw [bump_ne (Ne.symm hx2)]; exact h0, ?_⟩
  rw [sum_bump g.nd hxV]
  omega
/-- what sink_moved gives -/
structure Moved (E : List SS) (V : List Str) (s : Str) (A M : List SS) : Prop where
  ori : OrE E M
  acy : Acy V M
  one : othO V s M = []
  pot : ∃ t : Str → Int, Pot E t A M
end Ob
set_option Elab.async false
set_option linter.all false
set_option maxRecDepth 100000
set_option maxHeartbeats 1000000
/-! M42: the sets that stay as the laws list them are those that stays lists; the numbers of orders add up (k66, k75). Plain. -/
set_option Elab.async false
set_option linter.all false
set_option maxRecDepth 100000
set_option maxHeartbeats 1000000
/-! M44: orientations without a cycle, counted by their sinks: what class Plays computes. Plain. -/
namespace Ob
open PySem L2
open PySem.W (Datum Tup DatumOrd)
/-! ### what is computed -/
theorem nd_mapI {α β : Type} {f : α → β} : ∀ {xs : List α}, (∀ x ∈ xs, ∀ y ∈ xs, f x = f y → x = y) → xs.Nodup → (xs.map f).Nodup
  | [], _, _ => .nil
  | x :: xs, h, nd => by
    rw [List.nodup_cons] at nd
    rw [List.map_cons]
    refine List.nodup_cons.mpr ⟨fun hm => ?_, nd_mapI (fun a ha b hb => h a (List.mem_cons_of_mem _ ha) b (List.mem_cons_of_mem _ hb)) nd.2⟩
    obtain ⟨y, hy, e⟩ := List.mem_map.mp hm
    exact nd.1 (h y (List.mem_cons_of_mem _ hy) x List.mem_cons_self e ▸ hy)
/-! ### orientations without a cycle -/
/-! ### all of them -/
end Ob
set_option Elab.async false
set_option linter.all false
set_option maxRecDepth 100000
set_option maxHeartbeats 1000000
/-! M45: class Plays computes how many orientations without a cycle have exactly these sinks. Plain. -/
namespace Ob
open PySem L2
open PySem.W (Datum Tup DatumOrd)
theorem sum_int {α : Type} {xs : List α} {f : α → Int} {g : α → Nat} (h : ∀ x ∈ xs, f x = (g x : Int)) : (xs.map f).sum = (((xs.map g).sum : Nat) : Int) := by
  induction xs with
  | nil => rfl
  | cons a r ih => rw [List.map_cons, List.sum_cons, List.map_cons, List.sum_cons, h a List.mem_cons_self, ih fun x hx => h x (List.mem_cons_of_mem _ hx), Int.natCast_add]
end Ob
set_option Elab.async false
set_option linter.all false
set_option maxRecDepth 100000
set_option maxHeartbeats 1000000
/-! M48: what watching tells: the states behind a history of which only some switches are seen, with how often. Plain (for k84, k83). -/
namespace Ob
open PySem L2
open PySem.W (Datum Tup DatumOrd)
section
variable {κ : Type} [DecidableEq κ]
theorem mulG_nil {x : κ} : mulG ([] : List κ) x = 0 := rfl
theorem mulG_app {xs ys : List κ} {x : κ} : mulG (xs ++ ys) x = mulG xs x + mulG ys x := by
  unfold mulG
  rw [List.filter_append, List.length_append]
theorem mulG_flat {f : κ → List κ} {x : κ} : ∀ xs : List κ, mulG (xs.flatMap f) x = (xs.map fun e => mulG (f e) x).sum
  | [] => rfl
  | a :: xs => by rw [List.flatMap_cons, mulG_app, mulG_flat xs, List.map_cons, List.sum_cons]
theorem pickK {s : κ} {c : κ → Nat} : ∀ {Y : List κ}, Y.Nodup → s ∈ Y → (Y.map fun y => (if s = y then 1 else 0) * c y).sum = c s
  | [], _, h => (nomatch h)
  | y :: Y, nd, h => by
    rw [List.map_cons, List.sum_cons]
    rw [List.nodup_cons] at nd
    by_cases e : s = y
    · subst e
      have z : ∀ Z : List κ, s ∉ Z → (Z.map fun y => (if s = y then 1 else 0) * c y).sum = 0 := fun Z => by
        induction Z with
        | nil => intro _; rfl
        | cons z Z ih =>
          intro hz
          rw [List.mem_cons, not_or] at hz
          rw [List.map_cons, List.sum_cons, if_neg hz.1, ih hz.2, Nat.zero_mul]
      rw [if_pos rfl, z Y nd.1, Nat.one_mul, Nat.add_zero]
    · rw [if_neg e, Nat.zero_mul, Nat.zero_add]
      exact pickK nd.2 ((List.mem_cons.mp h).elim (fun k => absurd k e) id)
theorem sum_addN {α : Type} {f g : α → Nat} : ∀ xs : List α, (xs.map fun x => f x + g x).sum = (xs.map f).sum + (xs.map g).sum
  | [] => rfl
  | a :: xs => by rw [List.map_cons, List.sum_cons, sum_addN xs, List.map_cons, List.sum_cons, List.map_cons, List.sum_cons]; omega
theorem wsum (f : κ → Nat) {Y : List κ} (nd : Y.Nodup) : ∀ E : List κ, (∀ e ∈ E, e ∈ Y) → (Y.map fun y => mulG E y * f y).sum = (E.map f).sum
  | [], _ => by
    have z : ∀ Z : List κ, (Z.map fun y => mulG ([] : List κ) y * f y).sum = 0 := fun Z => by
      induction Z with
      | nil => rfl
      | cons z Z ih => rw [List.map_cons, List.sum_cons, ih, mulG_nil, Nat.zero_mul]
    exact z Y
  | e :: E, h => by
    have e1 : (Y.map fun y => mulG (e :: E) y * f y) = Y.map fun y => (if e = y then 1 else 0) * f y + mulG E y * f y := List.map_congr_left fun y _ => by rw [mulG_cons, Nat.add_mul]
    rw [e1, sum_addN, pickK nd (h e List.mem_cons_self), wsum f nd E fun z hz => h z (List.mem_cons_of_mem _ hz), List.map_cons, List.sum_cons]
/-- a dict that counts a list -/
structure Tal (E : List κ) (L : List (κ × Int)) : Prop where
  nd : (L.map (·.1)).Nodup
  vl : ∀ x, (lkG L x).getD 0 = (mulG E x : Int)
  ky : ∀ x, lkG L x = none ↔ x ∉ E
theorem Tal.key {E : List κ} {L : List (κ × Int)} (t : Tal E L) (x : κ) : x ∈ L.map (·.1) ↔ x ∈ E := by
  have := t.ky x
  rw [lkG_none] at this
  exact Decidable.not_iff_not.mp this
theorem Tal.val {E : List κ} {L : List (κ × Int)} (t : Tal E L) {p : κ × Int} (h : p ∈ L) : p.2 = (mulG E p.1 : Int) := by
  have h1 := (lkG_mem t.nd (x := p.1) (v := p.2)).mp h
  have h2 := t.vl p.1
  rw [h1] at h2
  exact h2
theorem Tal.sum {E : List κ} {L : List (κ × Int)} (t : Tal E L) (f : κ → Nat) : (L.map fun yv => yv.2 * (f yv.1 : Int)).sum = (((E.map f).sum : Nat) : Int) := by
  rw [sum_int (g := fun yv : κ × Int => mulG E yv.1 * f yv.1) fun p hp => by rw [t.val hp, Int.natCast_mul]]
  have := wsum f t.nd E fun e he => (t.key e).mpr he
  rw [List.map_map] at this
  exact congrArg _ this
theorem Tal.total {E : List κ} {L : List (κ × Int)} (t : Tal E L) : (L.map (·.2)).sum = (E.length : Int) := by
  have h := t.sum fun _ => 1
  have e1 : (L.map fun yv => yv.2 * ((1 : Nat) : Int)) = L.map (·.2) := List.map_congr_left fun p _ => Int.mul_one _
  have e2 : ∀ E : List κ, (E.map fun _ => 1).sum = E.length := fun E => by
    induction E with
    | nil => rfl
    | cons a E ih => rw [List.map_cons, List.sum_cons, ih, List.length_cons]; omega
  rw [e1, e2] at h
  exact h
theorem tal_one (x : κ) : Tal [x] [(x, 1)] := by
  refine ⟨List.nodup_cons.mpr ⟨fun h => (nomatch h), .nil⟩, fun z => ?_, fun z => ?_⟩
  · show ((if x = z then some (1 : Int) else none).getD 0) = _
    rw [mulG_cons]
    by_cases e : x = z
    · rw [if_pos e, if_pos e]; rfl
    · rw [if_neg e, if_neg e]; rfl
  · rw [lkG_none]
    exact Iff.rfl
theorem Tal.next {E : List κ} {L : List (κ × Int)} (t : Tal E L) (nb : κ → List κ) : Tal (E.flatMap nb) (furG [] nb [] L) := by
  refine ⟨furG_nd .nil, fun x => ?_, fun x => ?_⟩
  · obtain ⟨h1, _⟩ := (furG_lk (F := []) (nb := nb) (x := x) (L := L) (d := [])).2 (fun h => nomatch h)
    rw [h1, mulG_flat]
    show (0 : Int) + sumG nb x L = _
    rw [Int.zero_add]
    exact t.sum fun e => mulG (nb e) x
  · obtain ⟨_, h2⟩ := (furG_lk (F := []) (nb := nb) (x := x) (L := L) (d := [])).2 (fun h => nomatch h)
    rw [h2, List.mem_flatMap]
    constructor
    · rintro ⟨_, h⟩ ⟨e, he, hx⟩
      obtain ⟨p, hp, rfl⟩ := List.mem_map.mp ((t.key e).mpr he)
      exact h p hp hx
    · exact fun h => ⟨rfl, fun y hy hx => h ⟨y.1, (t.key y.1).mp (List.mem_map.mpr ⟨y, hy, rfl⟩), hx⟩⟩
end
/-! ### what is seen -/
def shO (w st : List Str) : List Str := st.filter fun x => decide (x ∈ w)
def nbE (rv : Str → List Str) (sw w lamp st : List Str) : List (List Str) := (sw.map (wp rv st)).filter fun a => decide (shO w a = lamp)
def endsE (rv : Str → List Str) (sw w st : List Str) (shown : List (List Str)) : List (List Str) := shown.foldl (fun E lamp => E.flatMap (nbE rv sw w lamp)) [st]
def waysE (rv : Str → List Str) (sw w st : List Str) (shown : List (List Str)) : List (List Str × Int) := shown.foldl (fun L lamp => furG [] (nbE rv sw w lamp) [] L) [(st, 1)]
def endsS (rv : Str → List Str) (sw w st : List Str) (shown : List (List Str)) : List (Tup Str) := sortD (((waysE rv sw w st shown).map (·.1)).map Tup.mk)
section
variable {rv : Str → List Str} {sw w st : List Str}
theorem waysE_snoc {shown : List (List Str)} {lamp : List Str} : waysE rv sw w st (shown ++ [lamp]) = furG [] (nbE rv sw w lamp) [] (waysE rv sw w st shown) := by
  unfold waysE
  rw [List.foldl_append]
  rfl
theorem endsE_snoc {shown : List (List Str)} {lamp : List Str} : endsE rv sw w st (shown ++ [lamp]) = (endsE rv sw w st shown).flatMap (nbE rv sw w lamp) := by
  unfold endsE
  rw [List.foldl_append]
  rfl
theorem ways_tal (shown : List (List Str)) : Tal (endsE rv sw w st shown) (waysE rv sw w st shown) := by
  refine snoc_ind (P := fun shown => Tal (endsE rv sw w st shown) (waysE rv sw w st shown)) (tal_one st) (fun xs x ih => ?_) shown
  rw [waysE_snoc, endsE_snoc]
  exact ih.next _
theorem mem_endsS {shown : List (List Str)} {x : List Str} : Tup.mk x ∈ endsS rv sw w st shown ↔ x ∈ endsE rv sw w st shown := by
  unfold endsS
  rw [mem_sortD, List.mem_map]
  exact ⟨fun ⟨y, hy, e⟩ => by cases e; exact ((ways_tal shown).key _).mp hy, fun h => ⟨x, ((ways_tal shown).key x).mpr h, rfl⟩⟩
theorem endsS_nd {shown : List (List Str)} : (endsS rv sw w st shown).Nodup := by
  unfold endsS
  refine (sortD_perm _).nodup_iff.mpr (nd_mapI (fun a _ b _ h => by injection h) (ways_tal shown).nd)
theorem nbE_len {lamp : List Str} : (nbE rv sw w lamp st).length ≤ sw.length := by
  unfold nbE
  have := List.length_filter_le (fun a => decide (shO w a = lamp)) (sw.map (wp rv st))
  rwa [List.length_map] at this
theorem flat_lenK {α β : Type} {f : α → List β} {k : Nat} : ∀ {xs : List α}, (∀ x ∈ xs, (f x).length ≤ k) → (xs.flatMap f).length ≤ xs.length * k
  | [], _ => by simp
  | a :: xs, h => by
    have h1 := flat_lenK (xs := xs) fun x hx => h x (List.mem_cons_of_mem _ hx)
    have h2 := h a List.mem_cons_self
    rw [List.flatMap_cons, List.length_append, List.length_cons, Nat.succ_mul]
    omega
theorem endsE_len (shown : List (List Str)) : (endsE rv sw w st shown).length ≤ sw.length ^ shown.length := by
  refine snoc_ind (P := fun shown => (endsE rv sw w st shown).length ≤ sw.length ^ shown.length) (Nat.le_refl _) (fun xs x ih => ?_) shown
  rw [endsE_snoc, List.length_append, List.length_singleton, Nat.pow_succ]
  exact Nat.le_trans (flat_lenK fun e _ => nbE_len) (Nat.mul_le_mul_right _ ih)
end
end Ob
set_option Elab.async false
set_option linter.all false
set_option maxRecDepth 100000
set_option maxHeartbeats 4000000
/-! Lz: list(zip(xs, ys)) of two lists (after the library's list(d.items()): KE.KItemsList, HandS.ListItems; the zip's turns are KE.KDictZip's). -/
namespace LzZ
open PySem PySem.Calls PyProof.Rows PyProof.V PySem.Spec PySem.W
section
variable {prog : Program} {w : World} {A : Around} {E : Value → Shared → Prop} {s : Shared} {z TI TO i1 i2 l1 l2 S : Addr} {xs ys : Array Value}
/-- a zip that has given i pairs, all of which are held -/
def ZSt (h : Heap) (z TI TO i1 i2 l1 l2 : Addr) (xs ys : Array Value) (S : Addr) (i : Nat) : Prop :=
  IsPair h TI (.ref i1) (.ref i2) ∧ h.IsListIter i1 l1 i ∧ h.IsListIter i2 l2 i ∧ h.IsList l1 xs ∧ h.IsList l2 ys ∧
    ((IsZip h z TI TO .none ∧ ∃ a b, IsPair h TO a b) ∨ ∃ T f oT, IsZipHeld h z TI TO T f ∧ h.get? T = some oT ∧ T ≠ z ∧ T ≠ i1 ∧ T ≠ i2 ∧ T ≠ S)
/-- the list S lies apart -/
structure SOff (S z TI TO i1 i2 l1 l2 : Addr) : Prop where
  z : z ≠ S
  TI : TI ≠ S
  TO : TO ≠ S
  i1 : i1 ≠ S
  i2 : i2 ≠ S
  l1 : l1 ≠ S
  l2 : l2 ≠ S
theorem ZSt.keep {h h' : Heap} {i : Nat} (x : ZSt h z TI TO i1 i2 l1 l2 xs ys S i) (o : SOff S z TI TO i1 i2 l1 l2) (hk : ∀ b u, b ≠ S → h.get? b = some u → h'.get? b = some u) : ZSt h' z TI TO i1 i2 l1 l2 xs ys S i := by
  obtain ⟨hTI, h1, h2, hl1, hl2, hz⟩ := x
  refine ⟨hk _ _ o.TI hTI, h1.at fun u e => hk _ u o.i1 e, h2.at fun u e => hk _ u o.i2 e, hl1.at fun u e => hk _ u o.l1 e, hl2.at fun u e => hk _ u o.l2 e, ?_⟩
  rcases hz with ⟨hz, a, b, hTO⟩ | ⟨T, f, oT, hz, hT, r1, r2, r3, r4⟩
  · exact .inl ⟨hk _ _ o.z hz, a, b, hk _ _ o.TO hTO⟩
  · exact .inr ⟨T, f, oT, hk _ _ o.z hz, hk _ _ r4 hT, r1, r2, r3, r4⟩
/-- the pairs made so far -/
structure ZG (xs ys : Array Value) (lo : Addr) (h : Heap) (as : List Addr) : Prop where
  rise : as.Pairwise (· < ·)
  above : ∀ a ∈ as, lo < a
  pairs : ∀ (j : Nat) (a : Addr), as[j]? = some a → ∃ x y, xs[j]? = some x ∧ ys[j]? = some y ∧ IsPair h a x y
theorem ZG.there {lo : Addr} {h : Heap} {as : List Addr} (g : ZG xs ys lo h as) {a : Addr} (ha : a ∈ as) : a < h.objs.size := by
  obtain ⟨j, hj⟩ := List.mem_iff_getElem?.mp ha
  obtain ⟨_, _, _, _, e⟩ := g.pairs j a hj
  exact Heap.lt_size e
end
end LzZ
set_option Elab.async false
set_option linter.all false
set_option maxRecDepth 100000
set_option maxHeartbeats 4000000
/-! By: lists of data that change: pop, insert, a part turned round, a part put in. -/
set_option Elab.async false
set_option linter.all false
set_option maxRecDepth 100000
set_option maxHeartbeats 4000000
/-! Bn: _law_odd, _law_bent: things bent at a drawn place (k01, k10). -/
namespace Ob
open PySem L2
open Evl (Ex)
open PySem.W (Datum Tup DatumOrd)
section
variable {K : PySem.W.Frag}
def DPre (a : DD) : Prop := OkD a.d ∧ a.d.bulk ≤ 100000
end
end Ob
set_option Elab.async false
set_option linter.all false
set_option maxRecDepth 100000
set_option maxHeartbeats 4000000
/-! Be: _law_bent (k01, k10): a def that calls itself and draws. -/
set_option Elab.async false
set_option linter.all false
set_option maxRecDepth 100000
set_option maxHeartbeats 4000000
/-! Tx: texts walked sign by sign, one in another, list(text); two comparisons in a chain. -/
namespace L2
open PySem PySem.Spec PyProof.Rows
end L2
set_option Elab.async false
set_option linter.all false
set_option maxRecDepth 100000
set_option maxHeartbeats 4000000
/-! Rp: repr of any data (Gd's rReprU asks for a list or a tuple). -/
namespace L2
open PySem PySem.Spec PyProof.Rows
end L2
set_option Elab.async false
set_option linter.all false
set_option maxRecDepth 100000
set_option maxHeartbeats 4000000
/-! Bp: is_name, is_pair, are_pairs, is_panel, is_state of things of any kind; the law's own reading of them (k01). -/
namespace Ob
open PySem L2
open Evl (Ex)
open PySem.W (Datum Tup DatumOrd)
/-! ### plain -/
theorem DPre.mem {d : PyData} {ds : List PyData} {x : PyData} (hs : SD ds d) (h : DPre (DD.mk d)) (hx : x ∈ ds) : DPre (DD.mk x) := by
  obtain ⟨h1, h2⟩ := h
  have hb := bulkAll_mem hx
  cases hs with
  | l => exact ⟨okD_l h1 x hx, by have : PyData.bulk (.list ds) ≤ 100000 := h2; rw [bulk_l] at this; show x.bulk ≤ 100000; omega⟩
  | t => exact ⟨okD_t h1 x hx, by have : PyData.bulk (.tuple ds) ≤ 100000 := h2; rw [bulk_t] at this; show x.bulk ≤ 100000; omega⟩
theorem DPre.len {d : PyData} {ds : List PyData} (hs : SD ds d) (h : DPre (DD.mk d)) : ds.length ≤ 100000 := by
  have h2 : d.bulk ≤ 100000 := h.2
  have := bulkAll_len ds
  cases hs with
  | l => rw [bulk_l] at h2; omega
  | t => rw [bulk_t] at h2; omega
end Ob
set_option Elab.async false
set_option linter.all false
set_option maxRecDepth 100000
set_option maxHeartbeats 4000000
/-! Bq: is_panel, is_state, the law's own reading of panels and states (k01). -/
set_option Elab.async false
set_option linter.all false
set_option maxRecDepth 100000
set_option maxHeartbeats 4000000
/-! Rq: whether a thing is a list of texts among some (they began in Ro). -/
set_option Elab.async false
set_option linter.all false
set_option maxRecDepth 100000
set_option maxHeartbeats 4000000
/-! Dk: the depth of data; a panel as lists is that panel. -/
namespace Ob
open PySem L2
open Evl (Ex)
open PySem.W (Datum Tup DatumOrd)
theorem dkP {p : Pan} (h1 : p.sw.length ≤ 1000000) (h2 : p.ex.length ≤ 1000000) : DOk 5 (Datum.toD p.t) := by
  refine ⟨by show 2 ≤ 1000000; decide, fun d hd => ?_⟩
  have hd' : d ∈ [Datum.toD (Tup.mk p.sw), Datum.toD (Tup.mk p.ex)] := hd
  rcases List.mem_cons.mp hd' with rfl | hd'
  · refine ⟨by rw [List.length_map]; exact h1, fun d hd => ?_⟩
    obtain ⟨x, _, rfl⟩ := List.mem_map.mp hd
    trivial
  · rw [List.mem_singleton.mp hd']
    refine ⟨by rw [List.length_map]; exact h2, fun d hd => ?_⟩
    obtain ⟨x, _, rfl⟩ := List.mem_map.mp hd
    refine ⟨by show 2 ≤ 1000000; decide, fun d hd => ?_⟩
    have hd' : d ∈ [PyData.str x.1, PyData.str x.2] := hd
    rcases List.mem_cons.mp hd' with rfl | hd'
    · trivial
    · rw [List.mem_singleton.mp hd']
      trivial
theorem dkT {n : Nat} {xs : List Str} (h : xs.length ≤ 1000000) : DOk (n + 1) (.tuple (xs.map .str)) :=
  ⟨by rw [List.length_map]; exact h, fun d hd => by
    obtain ⟨x, _, rfl⟩ := List.mem_map.mp hd
    cases n <;> trivial⟩
theorem dkI {n : Nat} {i : Int} : DOk n (.int i) := by cases n <;> trivial
theorem dkL {n : Nat} {ds : List PyData} (hz : ds.length ≤ 1000000) (h : ∀ d ∈ ds, DOk n d) : DOk (n + 1) (.list ds) := ⟨hz, h⟩
theorem dkL2 {n : Nat} {a b : PyData} (h1 : DOk n a) (h2 : DOk n b) : DOk (n + 1) (.list [a, b]) := dkL (by show 2 ≤ 1000000; decide) fun d hd => by
  rcases List.mem_cons.mp hd with rfl | hd
  · exact h1
  · rw [List.mem_singleton.mp hd]; exact h2
section
variable {K : PySem.W.Frag} {H : Hp} {v : V}
theorem ddPrs : ∀ {vs : List V} {xs : List (Str × Str)}, DqAll K H vs (xs.map fun e => .list [.str e.1, .str e.2]) → AtAll K H vs (prs xs)
  | _, [], h => by cases h; exact .nil
  | _, x :: xs, h => by
    cases h with
    | cons a b =>
      refine .cons ?_ (ddPrs b)
      cases a with
      | lst s d =>
        cases d with
        | cons d1 d =>
          cases d with
          | cons d2 d =>
            cases d
            cases d1
            cases d2
            exact ⟨_, rfl, .inl s⟩
theorem ddP {p : Pan} (h : Rep.at_ K H v (DD.mk (listyN 5 (Datum.toD p.t)))) : Rep.at_ K H v p := by
  have e : listyN 5 (Datum.toD p.t) = .list [.list (p.sw.map .str), .list (p.ex.map fun e => .list [.str e.1, .str e.2])] := by
    show PyData.list [listyN 4 (.tuple (p.sw.map Datum.toD)), listyN 4 (.tuple (p.ex.map Datum.toD))] = _
    have e1 : listyN 4 (.tuple (p.sw.map Datum.toD)) = .list (p.sw.map .str) := by
      show PyData.list ((p.sw.map Datum.toD).map (listyN 3)) = _
      rw [List.map_map]
      rfl
    have e2 : listyN 4 (.tuple (p.ex.map Datum.toD)) = .list (p.ex.map fun e => .list [.str e.1, .str e.2]) := by
      show PyData.list ((p.ex.map Datum.toD).map (listyN 3)) = _
      rw [List.map_map]
      rfl
    rw [e1, e2]
  have h' : Dq K H v (.list [.list (p.sw.map .str), .list (p.ex.map fun e => .list [.str e.1, .str e.2])]) := e ▸ h
  cases h' with
  | lst s d =>
    cases d with
    | cons d1 d =>
      cases d with
      | cons d2 d =>
        cases d
        cases d1 with
        | lst s1 k1 =>
          cases d2 with
          | lst s2 k2 => exact ⟨_, _, _, rfl, .inl s, ⟨_, _, rfl, .inl s1, dd_strs (v := .non) k1⟩, ⟨_, _, rfl, .inl s2, ddPrs k2⟩⟩
end
end Ob
set_option Elab.async false
set_option linter.all false
set_option maxRecDepth 100000
set_option maxHeartbeats 4000000
/-! Sh: steps_between, shows_history of things of any kind; the law's own reading of a history shown (k80). -/
namespace Ob
open PySem L2
open Evl (Ex)
open PySem.W (Datum Tup DatumOrd)
theorem wp_tab {p : Pan} {st : List Str} {x : Str} (h : x ∈ p.sw) : wp (look (tab p)) st x = wp (rvs p) st x := by
  unfold wp
  rw [look_rvs (os := [x]) (fun y hy => by rw [List.mem_singleton.mp hy]; exact h) x (List.mem_singleton.mpr rfl)]
end Ob
set_option Elab.async false
set_option linter.all false
set_option maxRecDepth 100000
set_option maxHeartbeats 4000000
/-! Nt: an exception with a field, the last of a clause of three classes; isinstance(caught, (A, B)); promises of defs that only raise; a try whose body is an if with calls that raise. -/
namespace L2
open PySem PySem.Spec PyProof.Rows
end L2
namespace Ob
open PySem PySem.Spec PyProof.Rows L2
open Evl (Ex)
open PySem.W (Datum Tup DatumOrd)
theorem CnGo3.none {K : PySem.W.Frag} {f : Str} {bm : List Value} {nid : String} (Ce : CnGo3 K f bm nid) : PySem.W.kitAny K (.ref Ce.C) [.ref Ce.c1, .ref Ce.c2] = some false :=
  kitAny_cons Ce.ho (fun _ => kitAny_cons Ce.ho2 (fun _ => rfl) fun h => by cases h) fun h => by cases h
section
variable {K : PySem.W.Frag} {W0 : List Addr} {B0 H0 : Hp} {os : List OC} {Γ : List (Option Cell)} {σ : L2.St} {B H B1 H1 : Hp} {te ta tb tc td tk tv : TE} {tt tt1 : TT} {D : Ends} {tu tw tz : TS} {C : Addr} {f : Str}
variable {α β γ δ : Type} [Rep α] [Rep β] [Rep γ] [Rep δ] {vs : List V} {Q : VK} {E : XK}
/-- defs that only raise C, its field a text -/
def FnR2 (K : PySem.W.Frag) (C : Addr) (f : Str) (bad : α → β → Str → Prop) : Sp := fun vs H _ E => ∃ x y z B, Ex B H ∧ RCons K x (RCons K y RNil) vs B ∧ bad x y z ∧ ∀ d B2 H2, Up B H B2 H2 → B2 d = some (.xd [(f, .str z)]) → E (.ref C) (some d) H2
def FnR3 (K : PySem.W.Frag) (C : Addr) (f : Str) (bad : α → β → γ → Str → Prop) : Sp := fun vs H _ E => ∃ x y t z B, Ex B H ∧ RCons K x (RCons K y (RCons K t RNil)) vs B ∧ bad x y t z ∧ ∀ d B2 H2, Up B H B2 H2 → B2 d = some (.xd [(f, .str z)]) → E (.ref C) (some d) H2
def FnR4 (K : PySem.W.Frag) (C : Addr) (f : Str) (bad : α → β → γ → δ → Str → Prop) : Sp := fun vs H _ E => ∃ x y t w z B, Ex B H ∧ RCons K x (RCons K y (RCons K t (RCons K w RNil))) vs B ∧ bad x y t w z ∧ ∀ d B2 H2, Up B H B2 H2 → B2 d = some (.xd [(f, .str z)]) → E (.ref C) (some d) H2
theorem FnR2.len {bad : α → β → Str → Prop} (vs : List V) (H : Hp) (Q : VK) (E : XK) (h : FnR2 K C f bad vs H Q E) : vs.length = 2 := by
  obtain ⟨x, y, z, B, e, ⟨v, r, rfl, h1, v2, r2, rfl, h2, rfl⟩, _⟩ := h
  rfl
theorem FnR3.len {bad : α → β → γ → Str → Prop} (vs : List V) (H : Hp) (Q : VK) (E : XK) (h : FnR3 K C f bad vs H Q E) : vs.length = 3 := by
  obtain ⟨x, y, t, z, B, e, ⟨v, r, rfl, h1, v2, r2, rfl, h2, v3, r3, rfl, h3, rfl⟩, _⟩ := h
  rfl
theorem FnR4.len {bad : α → β → γ → δ → Str → Prop} (vs : List V) (H : Hp) (Q : VK) (E : XK) (h : FnR4 K C f bad vs H Q E) : vs.length = 4 := by
  obtain ⟨x, y, t, w, z, B, e, ⟨v, r, rfl, h1, v2, r2, rfl, h2, v3, r3, rfl, h3, v4, r4, rfl, h4, rfl⟩, _⟩ := h
  rfl
/-- a try's body that raises C -/
def RaX (C : Addr) (f : Str) (body : WX → TS) (σ : L2.St) (B : Hp) (z : Str) : Prop := ∀ (W : WX) (D : Ends) (H : Hp), Ex B H → (∀ d B2 H2, Up B H B2 H2 → B2 d = some (.xd [(f, .str z)]) → W (.ref C) (some d) σ H2) → body W D σ H
theorem RaX.c2 {bad : α → β → Str → Prop} {x : α} {y : β} {z : Str} (h1 : Pe K ta σ B x) (h2 : Pe K tb σ B y) (hb : bad x y z) : RaX C f (fun W => tDrop (tCallS (FnR2 K C f bad) (WE W) (tCons ta (tCons tb tNil)))) σ B z := fun W D H e k =>
  (a_2 h1 h2) H e (fun vs H1 => FnR2 K C f bad vs H1 (fun _ H' => D.nx σ H') (WE W σ)) fun vs B1 H1 u hv => ⟨x, y, z, B1, u.bh, hv, hb, fun d B2 H2 u2 hd => k d B2 H2 (u.trans u2) hd⟩
theorem RaX.c4 {bad : α → β → γ → δ → Str → Prop} {x : α} {y : β} {t : γ} {w : δ} {z : Str} (h1 : Pe K ta σ B x) (h2 : Pe K tb σ B y) (h3 : Pe K tc σ B t) (h4 : Pe K td σ B w) (hb : bad x y t w z) : RaX C f (fun W => tDrop (tCallS (FnR4 K C f bad) (WE W) (tCons ta (tCons tb (tCons tc (tCons td tNil)))))) σ B z := fun W D H e k =>
  (a_4 h1 h2 h3 h4) H e (fun vs H1 => FnR4 K C f bad vs H1 (fun _ H' => D.nx σ H') (WE W σ)) fun vs B1 H1 u hv => ⟨x, y, t, w, z, B1, u.bh, hv, hb, fun d B2 H2 u2 hd => k d B2 H2 (u.trans u2) hd⟩
theorem RaX.ift {b1 b2 : WX → TS} {c : Bool} {z : Str} (h : Ob.Pt tt σ B c) (h1 : c = true → ∀ B', Ex B B' → RaX C f b1 σ B' z) (h2 : c = false → ∀ B', Ex B B' → RaX C f b2 σ B' z) : RaX C f (fun W => tIfS tt (b1 W) (b2 W)) σ B z := fun W D H e k =>
  h H e (fun b H1 => if b = true then b1 W D σ H1 else b2 W D σ H1) fun B1 H1 u => by
    cases c with
    | true => exact h1 rfl B1 u.bb W D H1 u.bh fun d B2 H2 u2 hd => k d B2 H2 (u.trans u2) hd
    | false => exact h2 rfl B1 u.bb W D H1 u.bh fun d B2 H2 u2 hd => k d B2 H2 (u.trans u2) hd
/-- a try whose body raises, caught and held -/
theorem St.tryRa {i j : Nat} {cl : List Value} {Wo : WX} {body : WX → TS} {z : Str} (s : St K W0 B0 H0 os Γ σ B H) (hx : PySem.W.exmAny K (.ref C) cl = some true) (h : RaX C f body σ B z) (hi : i < σ.length)
    (k : ∀ a dd σ2 B2 H2, St K W0 B0 H0 os (cs (cs (cs Γ i none) j (ca a)) i none) σ2 B2 H2 → B2 a = some (exH a (.ref C) (some dd)) → B2 dd = some (.xd [(f, .str z)]) → tz D σ2 H2) :
    tSeq (tTryH K cl i body (fun _ _ _ => tAsg (tVar i) (gName j)) Wo) tz D σ H := by
  refine h (wHold K cl i (fun _ _ _ => tAsg (tVar i) (gName j)) Wo { D with nx := tz D }) { D with nx := tz D } H s.bh fun dd B2 H2 u2 hdd => ⟨true, hx, fun _ a na => ⟨.ref a, List.getElem?_set_self hi, fun na' => ?_⟩, fun h => nomatch h⟩
  have s3 := (s.up u2).up (Up.new (o := exH a (.ref C) (some dd)) u2.bh na')
  have hne : dd ≠ a := fun e => by
    have := u2.bh _ _ hdd
    rw [e, na'] at this
    cases this
  exact k a dd _ _ _ (s3.slot (((s3.sl.put i (o := some (.ref a)) At1.none).put j (At1.some (x := Any.mk (.ref a)) rfl)).put i At1.none)) upd_same (by rw [upd_ne hne]; exact hdd)
end
end Ob
set_option Elab.async false
set_option linter.all false
set_option maxRecDepth 100000
set_option maxHeartbeats 4000000
/-! Xo: a class over RuntimeError without a field; except (A, B) as e, A the class itself, B another one. -/
namespace Ob
open PySem PySem.Spec PyProof.Rows L2
structure CesO (K : PySem.W.Frag) where
  C : Addr
  c1 : Addr
  c2 : Addr
  ec : ExcC K C
  hx : PySem.W.exmAny K (.ref C) [.ref c1, .ref c2] = some true
  hv : PySem.W.kitOne K (.ref C) (.type "RuntimeError") = some true
  ho : PySem.W.kitOne K (.ref C) (.ref c2) = some false
  x : PySem.W.excIn K C reB "RuntimeError.__new__" = true
  kc : PySem.W.keepIn K (.ref C) = true
  bc : PySem.W.subIn K (.ref C) (.type "BaseException") = some true
  tc : PySem.W.typeIn K (.ref C) = some (.type "type")
end Ob
set_option Elab.async false
set_option linter.all false
set_option maxRecDepth 100000
set_option maxHeartbeats 4000000
/-! Nr: two own classes raised in one law (see Np): what is known of them. -/
namespace Ob
open PySem PySem.Spec PyProof.Rows L2
structure CnGq2 (K : PySem.W.Frag) (f : Str) (bm : List Value) (nid : String) where
  C : Addr
  fI : Addr
  o : CesO K
  T : NsC K C fI f bm nid
  hx : PySem.W.exmAny K (.ref C) [.ref o.C, .ref C] = some true
  hv : PySem.W.kitOne K (.ref C) (bm.headD .none) = some true
  ho : PySem.W.kitOne K (.ref C) (.ref o.C) = some false
  e1 : o.c1 = o.C
  e2 : o.c2 = C
abbrev CnGq2.c1 {K : PySem.W.Frag} {f : Str} {bm : List Value} {nid : String} (Ce : CnGq2 K f bm nid) : Addr := Ce.o.C
abbrev CnGq2.c2 {K : PySem.W.Frag} {f : Str} {bm : List Value} {nid : String} (Ce : CnGq2 K f bm nid) : Addr := Ce.C
end Ob
set_option Elab.async false
set_option linter.all false
set_option maxRecDepth 100000
set_option maxHeartbeats 4000000
/-! W1b: look_switches, which may raise NoSwitch. -/
namespace Ob
open PySem L2
open Evl (Ex)
open PySem.W (Datum Tup DatumOrd)
section
variable {K : PySem.W.Frag} {W0 : List Addr} {B0 H0 : Hp} {os : List OC} {Γ : List (Option Cell)} {σ : L2.St} {B H B1 H1 : Hp} {te ta tb tc td tk tv : TE} {tt tt1 : TT} {D : Ends} {tu tw tz : TS} {C : Addr} {f : Str}
variable {α β γ : Type} [Rep α] [Rep β] [Rep γ] {vs : List V} {Q : VK} {E : XK} {pre : α → β → Prop} {g : α → β → γ} {bad : α → β → Str → Prop}
/-- a call of two that raises, let through -/
theorem St.thruY {x : α} {y : β} {z : Str} (s : St K [] B0 H0 os Γ σ B H) (h1 : Pe K ta σ B x) (h2 : Pe K tb σ B y) (hb : bad x y z) (q : ∀ d B2 H2, Up B0 H0 B2 H2 → B2 d = some (.xd [(f, .str z)]) → E (.ref C) (some d) H2) :
    tSeq (tDrop (tCallS (FnY2 K C f pre g bad) (fun _ => E) (tCons ta (tCons tb tNil)))) tz D σ H := by
  show tCons ta (tCons tb tNil) σ H (fun vs H1 => FnY2 K C f pre g bad vs H1 (fun _ H' => tz D σ H') E)
  exact (a_2 h1 h2) H s.bh _ fun vs B1 H1 u hv => .inr ⟨x, y, z, B1, u.bh, hv, hb, fun d B2 H2 u2 hd => q d B2 H2 (s.up (u.trans u2)).toUp hd⟩
theorem bad_st2 {x : α} {y : β} {B : Hp} (e : Ex B H) (h : RCons K x (RCons K y RNil) vs B) (N : List Str) : St K [] B H [] ([ce x, ce y] ++ List.replicate (N.length - 2) none) (start N vs) B H := by
  obtain ⟨v, _, rfl, h1, v2, _, rfl, h2, rfl⟩ := h
  exact St.pure e (start_slots [v, v2] [ce x, ce y] _ (.cons (At1.some h1) (.cons (At1.some h2) .nil)))
end
/-- the first of some switches that the panel doesn't have -/
def missO (p : Pan) (xs : List Str) : Option Str := xs.find? fun x => !decide (x ∈ p.sw)
section
variable {K : PySem.W.Frag} {Ce : CnSo2 K "switch"}
abbrev sp_look_switchesX (K : PySem.W.Frag) (Ce : CnSo2 K "switch") : Sp := FnY2 K Ce.C "switch" (fun (p : Pan) (s : Sq Str) => ∀ x ∈ s.items, x ∈ p.sw) (fun _ _ => ()) fun p s z => missO p s.items = some z
def N_look_switchesX : List Str := ["panel", "switches", "switch"]
def t_look_switchesX (K : PySem.W.Frag) (Ce : CnSo2 K "switch") (E : XK) : TS :=
  (tFor (iSeq K (tVar 1)) (gName 2) (tIfS (tTest (tOp (rInU K true) (tVar 2) (tOp (rIxU K) (tVar 0) (tC (.int 0))))) (tRaiseNs Ce.C "switch" E (tCons (tVar 2) tNil)) tNext))
theorem l_look_switchesX (vs : List V) (H : Hp) (Q : VK) (E : XK) (h : sp_look_switchesX K Ce vs H Q E) : vs.length = 2 := FnY2.len vs H Q E h
theorem r_look_switchesX (vs : List V) (H : Hp) (Q : VK) (E : XK) (h : sp_look_switchesX K Ce vs H Q E) : t_look_switchesX K Ce E (Ends.ret Q) (start N_look_switchesX vs) H := by
  rcases h with h | ⟨p, s, z, B, e, hv, hz, q⟩
  · obtain ⟨p, ⟨xs⟩, B, hp, s, q⟩ := Fn2.st h N_look_switchesX
    refine s.forC [2] (it_sq (s.v (x := Sq.mk xs) 1 rfl)) (fun done x rest ex σ' B' H' N hN s1 => ?_) fun σ' B' H' s1 => q .non B' H' s1.toUp (at_non.mpr rfl)
    have hx : x ∈ p.sw := hp x (by rw [show (Sq.mk xs).items = done ++ x :: rest from ex]; simp)
    have s2 : St K [] B' H' [] [ce p, ce (Sq.mk xs), ce x] σ' B' H' := s1.here
    exact s2.noL (t_test ((e_inSq (s2.v 2 rfl) (e_sw (s2.v (x := p) 0 rfl)) true).is (by show (!decide (x ∈ p.sw)) = false; rw [decide_eq_true hx]; rfl))) fun B3 H3 s3 => hN s3 rfl
  · obtain ⟨xs⟩ := s
    have s : St K [] B H [] [ce p, ce (Sq.mk xs), none] (start N_look_switchesX vs) B H := bad_st2 e hv N_look_switchesX
    have hz' : missO p xs = some z := hz
    refine s.forG (δ := Unit) (it_sq (s.v (x := Sq.mk xs) 1 rfl)) (fun _ _ => []) (fun _ _ => [ce p, ce (Sq.mk xs), none]) (fun done _ => ∀ y ∈ done, y ∈ p.sw) ⟨(), (fun y hy => nomatch hy), fun _ _ s1 => s1⟩ (fun done x rest _ ex hd v σ' B' H' N hN s1 hv => ?_) fun _ hd σ' B' H' s1 => ?_
    · have s2 : St K [] B H [] [ce p, ce (Sq.mk xs), ce x] (σ'.set 2 (some v)) B' H' := s1.put 2 hv
      have ht := e_inSq (s2.v (x := x) 2 rfl) (e_sw (s2.v (x := p) 0 rfl)) true
      have s3 : St K [] B' H' [] [ce p, ce (Sq.mk xs), ce x] (σ'.set 2 (some v)) B' H' := s2.here
      by_cases hx : x ∈ p.sw
      · show tIfS _ _ _ _ _ _
        exact s3.noL (t_test (ht.is (by show (!decide (x ∈ p.sw)) = false; rw [decide_eq_true hx]; rfl))) fun B3 H3 s4 => hN () (B3 := B3) (fun y hy => (List.mem_append.mp hy).elim (hd y) fun e => List.mem_singleton.mp e ▸ hx) (s4.fg [2])
      · show tIfS _ _ _ _ _ _
        have hxz : x = z := by
          have h1 : missO p (done ++ x :: rest) = some z := by rw [← show xs = done ++ x :: rest from ex]; exact hz'
          unfold missO at h1
          rw [List.find?_append, List.find?_eq_none.mpr (fun y hy => by simp [hd y hy]), List.find?_cons_of_pos (by simp [hx])] at h1
          exact Option.some.inj h1
        subst hxz
        refine s2.iteL (b := true) (t_test (ht.is (by show (!decide (x ∈ p.sw)) = true; rw [decide_eq_false hx]; rfl))) (fun _ B3 H3 s4 => ?_) fun h => by cases h
        exact St.raiseN (s4.v 2 rfl) s4 fun d B4 H4 u hd => q d B4 H4 u hd
    · exfalso
      have h1 : xs.find? (fun x => !decide (x ∈ p.sw)) = some z := hz'
      have h2 := List.find?_some h1
      have h3 := List.mem_of_find?_eq_some h1
      simp [hd z h3] at h2
end
end Ob
set_option Elab.async false
set_option linter.all false
set_option maxRecDepth 100000
set_option maxHeartbeats 4000000
/-! Em: as El: shown_of, ways_seen, ends_seen, histories_seen, of lists or tuples (k83); their raising twins; lists that nobody else holds from what wants all tuples frozen. -/
namespace Ob
open PySem L2
open Evl (Ex)
open PySem.W (Datum Tup DatumOrd)
structure EmPre (p : Pan) (st : Sq Str) (w : Sq Str) (sh : Sq (Sq Str)) : Prop where
  ok : PanS p
  irr : ∀ e ∈ p.ex, e.1 ≠ e.2
  ap : Asc p.sw
  hz : p.sw.length ≤ 8
  st : StOk p st.items
  ws : ∀ x ∈ w.items, x ∈ p.sw
  wl : w.items.length ≤ 100
  sl : sh.items.length ≤ 1000
abbrev waysP (p : Pan) (st : Sq Str) (w : Sq Str) (sh : Sq (Sq Str)) : List (List Str × Int) := waysE (rvs p) p.sw w.items st.items (sh.items.map (·.items))
abbrev endsP (p : Pan) (st : Sq Str) (w : Sq Str) (sh : Sq (Sq Str)) : List (List Str) := endsE (rvs p) p.sw w.items st.items (sh.items.map (·.items))
theorem endsE_ok {p : Pan} {w st : List Str} (irr : ∀ e ∈ p.ex, e.1 ≠ e.2) (h : StOk p st) (shown : List (List Str)) : ∀ e ∈ endsE (rvs p) p.sw w st shown, StOk p e := by
  refine snoc_ind (P := fun shown => ∀ e ∈ endsE (rvs p) p.sw w st shown, StOk p e) (fun e he => by rw [List.mem_singleton.mp he]; exact h) (fun xs x ih e he => ?_) shown
  rw [endsE_snoc, List.mem_flatMap] at he
  obtain ⟨m, hm, he⟩ := he
  obtain ⟨y, hy, rfl⟩ := List.mem_map.mp (List.mem_filter.mp he).1
  exact wp_st irr (ih m hm) hy
theorem EmPre.few {p : Pan} {st : Sq Str} {w : Sq Str} {sh : Sq (Sq Str)} (c : EmPre p st w sh) (shown : List (List Str)) : (waysE (rvs p) p.sw w.items st.items shown).length ≤ 256 := by
  have t := ways_tal (rv := rvs p) (sw := p.sw) (w := w.items) (st := st.items) shown
  have h1 := states_few c.ap t.nd fun x hx => by
    have := endsE_ok c.irr c.st shown x ((t.key x).mp hx)
    exact ⟨this.1, this.2.1⟩
  rw [List.length_map] at h1
  exact Nat.le_trans h1 (Nat.pow_le_pow_right (by decide) c.hz)
section
variable {K : PySem.W.Frag} {W0 : List Addr} {B0 H0 : Hp} {os : List OC} {Γ : List (Option Cell)} {σ : L2.St} {B H B1 H1 : Hp} {te ta tb tc td tk tv : TE} {D : Ends} {tu tw tz : TS} {C : Addr} {f : Str}
variable {α β γ δ ε : Type} [Rep α] [Rep β] [Rep γ] [Rep δ] [Rep ε] {vs : List V} {Q : VK} {E : XK}
/-- an expression that raises within a call of four -/
theorem St.exR4 {bad : α → β → γ → δ → Str → Prop} {x : α} {y : β} {t : γ} {w : δ} {z : Str} (s : St K [] B0 H0 os Γ σ B H) (h1 : Pe K ta σ B x) (h2 : Pe K tb σ B y) (h3 : Pe K tc σ B t) (h4 : Pe K td σ B w) (hb : bad x y t w z) {Q : VK} (q : ∀ d B2 H2, Up B0 H0 B2 H2 → B2 d = some (.xd [(f, .str z)]) → E (.ref C) (some d) H2) :
    tCallS (FnR4 K C f bad) (fun _ => E) (tCons ta (tCons tb (tCons tc (tCons td tNil)))) σ H Q :=
  (a_4 h1 h2 h3 h4) H s.bh (fun vs H1 => FnR4 K C f bad vs H1 Q E) fun vs B1 H1 u hv => ⟨x, y, t, w, z, B1, u.bh, hv, hb, fun d B2 H2 u2 hd => q d B2 H2 (s.up (u.trans u2)).toUp hd⟩
/-- wants all tuples frozen, gives a list that nobody else holds -/
def PeUF (K : PySem.W.Frag) {α : Type} [Rep α] (te : TE) (σ : L2.St) (B H : Hp) (xs : List α) : Prop := ∀ B1 H1, Up B H B1 H1 → TC B1 H1 → ∀ Q : VK, (∀ l us B2 H2, Up B1 H1 B2 H2 → TC B2 H2 → B2 l = none → H1 l = none → H2 l = some (.lst us) → AtAll K B2 us xs → Q (.ref l) H2) → te σ H1 Q
theorem PeUF.pe {α : Type} [DecidableEq α] [Datum α] {xs : List α} (h : PeUF K te σ B H xs) : PeU K te σ B H xs := fun B1 H1 u tc Q q => h B1 H1 u tc Q fun l us B2 H2 u2 tc2 hb hh hl hA => q _ _ _ (up_lst u2 hb hh hl) (fun a us h => by
  by_cases z : a = l
  · subst z; rw [hl] at h; cases h
  · rw [upd_ne z]; exact tc2 a us h) (at_list.mpr ⟨l, us, rfl, Evl.sq_of upd_same, hA.mono (Ex.new hb)⟩)
def FnTF4 (K : PySem.W.Frag) (pre : α → β → γ → δ → Prop) (g : α → β → γ → δ → List ε) : Sp := fun vs H Q _ => ∃ x y z t B, Ex B H ∧ TC B H ∧ RCons K x (RCons K y (RCons K z (RCons K t RNil))) vs B ∧ pre x y z t ∧ ∀ l us B2 H2, Up B H B2 H2 → B2 l = none → H l = none → H2 l = some (.lst us) → AtAll K B2 us (g x y z t) → Q (.ref l) H2
variable {pre : α → β → γ → δ → Prop} {g : α → β → γ → δ → List ε} {x : α} {y : β} {z : γ} {t : δ}
theorem FnTF4.len (vs : List V) (H : Hp) (Q : VK) (E : XK) (h : FnTF4 K pre g vs H Q E) : vs.length = 4 := by
  obtain ⟨x, y, z, t, B, e, _, ⟨v, r, rfl, h1, v2, r2, rfl, h2, v3, r3, rfl, h3, v4, r4, rfl, h4, rfl⟩, _⟩ := h
  rfl
theorem FnTF4.st (h : FnTF4 K pre g vs H Q E) (N : List Str) : ∃ x y z t B, pre x y z t ∧ TC B H ∧ St K [] B H [] ([ce x, ce y, ce z, ce t] ++ List.replicate (N.length - 4) none) (start N vs) B H ∧ ∀ l us B2 H2, Up B H B2 H2 → B2 l = none → H l = none → H2 l = some (.lst us) → AtAll K B2 us (g x y z t) → Q (.ref l) H2 := by
  obtain ⟨x, y, z, t, B, e, tc, ⟨v, _, rfl, h1, v2, _, rfl, h2, v3, _, rfl, h3, v4, _, rfl, h4, rfl⟩, hp, q⟩ := h
  exact ⟨x, y, z, t, B, hp, tc, St.pure e (start_slots [v, v2, v3, v4] [ce x, ce y, ce z, ce t] _ (.cons (At1.some h1) (.cons (At1.some h2) (.cons (At1.some h3) (.cons (At1.some h4) .nil))))), q⟩
theorem eUF_go {B1 H1 B2 H2 : Hp} (tc0 : TC B1 H1) (u2 : Up B1 H1 B2 H2) (hv : RCons K x (RCons K y (RCons K z (RCons K t RNil))) vs B2) (hp : pre x y z t) (q : ∀ l us B2 H2, Up B1 H1 B2 H2 → TC B2 H2 → B2 l = none → H1 l = none → H2 l = some (.lst us) → AtAll K B2 us (g x y z t) → Q (.ref l) H2) : FnTF4 K pre g vs H2 Q E := by
  have u3 := tc_up tc0 u2
  have b2 : Ex B2 (wide B2 H2) := wide_ex u2.bh
  obtain ⟨v, _, rfl, k1, v2, _, rfl, k2, v3, _, rfl, k3, v4, _, rfl, k4, rfl⟩ := hv
  refine ⟨x, y, z, t, _, u3.bh, wide_tc, ⟨v, _, rfl, Rep.mono b2 k1, v2, _, rfl, Rep.mono b2 k2, v3, _, rfl, Rep.mono b2 k3, v4, _, rfl, Rep.mono b2 k4, rfl⟩, hp, fun l us B3 H3 u4 hb hh hl hA => ?_⟩
  have hw : wide B3 H3 l = none := by rw [wide_not (fun us h => by rw [hl] at h; cases h)]; exact hb
  exact q l us _ H3 (u3.trans (tc_up wide_tc u4)) wide_tc hw (by
    cases w : H1 l with
    | none => rfl
    | some o => rw [u2.hh l o w] at hh; cases hh) hl (hA.mono (wide_ex u4.bh))
theorem eUF_call4 (h : Pe K ta σ B x) (h2 : Pe K tb σ B y) (h3 : Pe K tc σ B z) (h4 : Pe K td σ B t) (hp : pre x y z t) : PeUF K (tCall (FnTF4 K pre g) [] E (tCons ta (tCons tb (tCons tc (tCons td tNil))))) σ B H (g x y z t) := fun B1 H1 u tc0 Q q => a_4 (h.mono u.bb) (h2.mono u.bb) (h3.mono u.bb) (h4.mono u.bb) H1 u.bh _ fun vs B2 H2 u2 hv => by
  rw [List.append_nil]
  exact eUF_go tc0 u2 hv hp q
theorem eUF_kw4 (h : Pe K ta σ B x) (h2 : Pe K tb σ B y) (h3 : Pe K tc σ B z) (h4 : Pe K td σ B t) (hp : pre x y z t) : PeUF K (tCallN 0 4 (FnTF4 K pre g) (fun _ zs => permL [3, 2, 1, 0] zs) E tNil (tCons td (tCons tc (tCons tb (tCons ta tNil))))) σ B H (g x y z t) := fun B1 H1 u tc0 Q q => by
  show tCons td (tCons tc (tCons tb (tCons ta tNil))) σ H1 (fun zs H2 => ([] : List V).length = 0 ∧ zs.length = 4 ∧ FnTF4 K pre g (permL [3, 2, 1, 0] zs) H2 Q E)
  refine a_4 (h4.mono u.bb) (h3.mono u.bb) (h2.mono u.bb) (h.mono u.bb) H1 u.bh _ fun vs B2 H2 u2 hv => ?_
  obtain ⟨v, _, rfl, k1, w, _, rfl, k2, t', _, rfl, k3, r, _, rfl, k4, rfl⟩ := hv
  exact ⟨rfl, rfl, eUF_go tc0 u2 ⟨r, _, rfl, k4, t', _, rfl, k3, w, _, rfl, k2, v, _, rfl, k1, rfl⟩ hp q⟩
end
section
variable {K : PySem.W.Frag}
abbrev sp_shown_of (K : PySem.W.Frag) : Sp := Fn2 K (fun (st : Tup Str) (_ : Sq Str) => st.items.length ≤ 100000) fun st w => Tup.mk (shO w.items st.items)
def N_shown_of : List Str := ["state", "watched", "switch"]
def t_shown_of (K : PySem.W.Frag) : TS :=
  (tRet (tCB (rTupleU K) (tCons (tLc (iSeq K (tVar 0)) (gName 2) (tTest (tOp (rInU K false) (tVar 2) (tVar 1))) (tVar 2) [2]) tNil)))
theorem l_shown_of (vs : List V) (H : Hp) (Q : VK) (E : XK) (h : sp_shown_of K vs H Q E) : vs.length = 2 := Fn2.len vs H Q E h
theorem r_shown_of (vs : List V) (H : Hp) (Q : VK) (E : XK) (h : sp_shown_of K vs H Q E) : t_shown_of K (Ends.ret Q) (start N_shown_of vs) H := by
  obtain ⟨st, w, B, hp, s, q⟩ := Fn2.st (E := E) h N_shown_of
  replace hp : st.items.length ≤ 100000 := hp
  exact St.ret (x := Tup.mk (shO w.items st.items)) s (e_tupL (s.sl.lcF (j := 2) (fun x => decide (x ∈ w.items)) (it_sq ((s.v (x := st) 0 rfl).imp sq_tup)) (by omega) fun x hx σ2 B2 b2 s2 => ⟨t_test (e_inSq (s2.v (x := x) 2 rfl) (s2.v (x := w) 1 rfl) false), rfl⟩)) fun v B1 H1 s1 hv => q v B1 H1 s1.toUp hv
abbrev sp_ways_seen (K : PySem.W.Frag) : Sp := FnT4 K EmPre fun p st w sh => DicT.mk (waysP p st w sh)
def N_ways_seen : List Str := ["panel", "state", "watched", "shown", "rivals", "ways", "lit", "later", "before", "many", "switch", "after"]
def t_ways_seen (K : PySem.W.Frag) : TS :=
  (tSeq (tDrop (tCall (sp_look_switches K) [] E0 (tCons (tVar 0) (tCons (tVar 2) tNil))))
    (tSeq (tPar 4 5 (tCons (tCall (sp_rival_table K) [] E0 (tCons (tVar 0) tNil)) (tCons (tDisp1T (tCB (rTupleU K) (tCons (tVar 1) tNil)) (tC (.int 1))) tNil)))
    (tSeq (tFor (iSeq K (tVar 3)) (gName 6) (tSeq (tAsg tDNewT (gName 7))
    (tSeq (tLockOS (tFor (iItemsT (tVar 5)) (gUnp K 2 (gCons (gName 8) (gCons (gName 9) gNil))) (tFor (iSeq K (tOp (rIxU K) (tVar 0) (tC (.int 0)))) (gName 10) (tSeq (tAsg (tCall (sp_with_press K) [] E0 (tCons (tVar 4) (tCons (tVar 8) (tCons (tVar 10) tNil)))) (gName 11))
    (tIfS (tTest (tOp (rEqP K) (tCall (sp_shown_of K) [] E0 (tCons (tVar 11) (tCons (tVar 2) tNil))) (tCB (rTupleU K) (tCons (tVar 6) tNil)))) (tAsg (tOp (rAddU K) (tDGet2 (tVar 7) (tVar 11) (tC (.int 0))) (tVar 9)) (gSub (tVar 7) (tVar 11) rSetD)) tNext)))))
    (tAsg (tVar 7) (gName 5)))))
    (tRet (tVar 5)))))
theorem l_ways_seen (vs : List V) (H : Hp) (Q : VK) (E : XK) (h : sp_ways_seen K vs H Q E) : vs.length = 4 := FnT4.len vs H Q E h
theorem r_ways_seen (vs : List V) (H : Hp) (Q : VK) (E : XK) (h : sp_ways_seen K vs H Q E) : t_ways_seen K (Ends.ret Q) (start N_ways_seen vs) H := by
  obtain ⟨p, ⟨st⟩, ⟨w⟩, ⟨sh⟩, B, c, tc, s, q⟩ := FnT4.st (E := E) h N_ways_seen
  have ok := c.ok
  have hz := c.hz
  have hst : StOk p st := c.st
  replace s : St K [] B H [] [ce p, ce (Sq.mk st), ce (Sq.mk w), ce (Sq.mk sh), none, none, none, none, none, none, none, none] (start N_ways_seen vs) B H := s
  refine s.drop (e_call2 (s.v (x := p) 0 rfl) (s.v (x := Sq.mk w) 2 rfl) c.ws) fun B1 H1 s1 => ?_
  refine s1.par (x := tab p) (y := DicT.mk [(st, (1 : Int))]) (e_call1 (s1.v (x := p) 0 rfl) ok.toPanOk) (e_disp1T (x := Tup.mk st) (e_tupSq (s1.v (x := Sq.mk st) 1 rfl)) fun _ _ => e_int) fun σ2 B2 H2 s2 => ?_
  replace s2 : St K [] B H [] [ce p, ce (Sq.mk st), ce (Sq.mk w), ce (Sq.mk sh), ce (tab p), ce (DicT.mk [(st, (1 : Int))]), none, none, none, none, none, none] σ2 B2 H2 := s2
  obtain ⟨WW, hWW⟩ : ∃ W : List (Sq Str) → List (List Str × Int), W = fun done => waysE (rvs p) p.sw w st (done.map (·.items)) := ⟨_, rfl⟩
  have hWW0 : WW [] = [(st, 1)] := by rw [hWW]; rfl
  have hfew : ∀ done, (WW done).length ≤ 256 := fun done => by rw [hWW]; exact c.few _
  have hok : ∀ done, ∀ y ∈ WW done, StOk p y.1 := fun done y hy => by
    rw [hWW] at hy
    exact endsE_ok c.irr hst _ y.1 (((ways_tal _).key y.1).mp (List.mem_map.mpr ⟨y, hy, rfl⟩))
  refine s2.forGT (δ := Unit) tc (it_sq (s2.v (x := Sq.mk sh) 3 rfl)) (fun _ _ => []) (fun done _ => [ce p, ce (Sq.mk st), ce (Sq.mk w), ce (Sq.mk sh), ce (tab p), ce (DicT.mk (WW done)), none, none, none, none, none, none]) (fun _ _ => True) (fun _ _ o ho => nomatch ho) (fun _ _ a ha => nomatch ha) ⟨(), trivial, fun B3 H3 s3 => by rw [hWW0]; exact s3⟩ (fun done lit rest _ ex _ v σ' B' H' N hN tcl s3 hv => ?_) fun _ _ σ' B' H' s3 => ?_
  · obtain ⟨lit⟩ := lit
    obtain ⟨L, hL⟩ : ∃ L, L = WW done := ⟨_, rfl⟩
    have hLl : L.length ≤ 256 := hL ▸ hfew done
    have hLs : ∀ y ∈ L, StOk p y.1 := hL ▸ hok done
    obtain ⟨nb, hnb⟩ : ∃ nb, nb = nbE (rvs p) p.sw w lit := ⟨_, rfl⟩
    obtain ⟨DD0, hDD⟩ : ∃ D, D = furG [] nb [] L := ⟨_, rfl⟩
    have hnext : WW (done ++ [Sq.mk lit]) = DD0 := by
      rw [hDD, hL, hnb, hWW]
      show waysE _ _ _ _ ((done ++ [Sq.mk lit]).map (·.items)) = _
      rw [List.map_append]
      exact waysE_snoc
    have hnbl : ∀ y, (nb y).length ≤ 8 := fun y => by rw [hnb]; exact Nat.le_trans nbE_len hz
    have s4 := (s3.here.put 6 hv)
    replace s4 : St K [] B' H' [] [ce p, ce (Sq.mk st), ce (Sq.mk w), ce (Sq.mk sh), ce (tab p), ce (DicT.mk L), ce (Sq.mk lit), none, none, none, none, none] (σ'.set 6 (some v)) B' H' := by
      rw [hL]
      exact s4
    refine s4.newT (i := 7) Int fun f σ5 H5 s5 => ?_
    replace s5 : St K [] B' H' [dtvC K f ([] : List (List Str × Int))] [ce p, ce (Sq.mk st), ce (Sq.mk w), ce (Sq.mk sh), ce (tab p), ce (DicT.mk L), ce (Sq.mk lit), ca f, none, none, none, none] σ5 B' H5 := s5
    have nt1 : ∀ {d : List (List Str × Int)}, ∀ o ∈ [dtvC K f d], o.nt := fun o ho => by rw [List.mem_singleton.mp ho]; exact nt_dtv
    have rm1 : ∀ {d : List (List Str × Int)}, ∀ o ∈ [dtvC K f d], RMono o := fun o ho => by rw [List.mem_singleton.mp ho]; exact rm_dtv
    have hW1 : ∀ {d : List (List Str × Int)}, ∀ a ∈ [f], ∃ o ∈ [dtvC K f d], o.l = a := fun a ha => ⟨_, List.mem_cons_self, (List.mem_singleton.mp ha).symm⟩
    have s5t := s5.tcAll tcl nt1 (fun a ha => nomatch ha)
    refine s5t.lockT (m := 5) (dd := DicT.mk L) wide_tc rfl rm1 (fun _ os' Γ' => os' = [dtvC K f DD0] ∧ Γ' = [ce p, ce (Sq.mk st), ce (Sq.mk w), ce (Sq.mk sh), ce (tab p), ce (DicT.mk L), ce (Sq.mk lit), ca f, none, none, none, none]) (fun Bl Hl a od kvs hv hBa hk tcl2 s6 D' hD' => ?_) fun os' Γ' σ7 B7 H7 hPP s7 => ?_
    · replace s6 : St K [f] Bl Hl [dtvC K f ([] : List (List Str × Int))] [ce p, ce (Sq.mk st), ce (Sq.mk w), ce (Sq.mk sh), ce (tab p), ce (DicT.mk L), ce (Sq.mk lit), ca f, none, none, none, none] σ5 Bl Hl := s6
      have hd : DicTAt K Bl kvs L := by
        obtain ⟨v2, hv2, a2, ks2, rfl, hr2, hd2⟩ := s6.sl.get (i := 5) (d := ⟨_, _, DicT.mk L⟩) rfl
        rw [hv] at hv2
        cases hv2
        rcases hr2 with hr2 | ⟨o2, hr2⟩
        · rw [hBa] at hr2
          cases hr2
        · rw [hBa] at hr2
          cases hr2
          exact hd2
      refine s6.forIT (D := D') (δ := Unit) (L := L) hv hBa hd tcl2 (fun dn _ => [dtvC K f (furG [] nb [] dn)]) (fun _ _ => [ce p, ce (Sq.mk st), ce (Sq.mk w), ce (Sq.mk sh), ce (tab p), ce (DicT.mk L), ce (Sq.mk lit), ca f, none, none, none, none]) (fun _ _ => True) (fun _ _ => nt1) (fun _ _ => hW1) ⟨(), trivial, s6⟩ (fun dn x rs _ ey _ v8 σ8 B8 H8 N8 hN8 tc8 s8 hv8 => ?_) fun _ _ σ8 B8 H8 s8 => ?_
      · obtain ⟨x, m⟩ := x
        have hxm : (x, m) ∈ L := by rw [ey]; simp
        have hxs : StOk p x := hLs _ hxm
        have hxl : x.length ≤ p.sw.length := (asc_nodup hxs.1).length_le_of_subset hxs.2.1
        obtain ⟨d0, hd0⟩ : ∃ d0, d0 = furG [] nb [] dn := ⟨_, rfl⟩
        have hd0l : d0.length ≤ 2048 := by
          rw [hd0]
          have h5 := furG_len (F := []) (nb := nb) (k := 8) (L := dn) (d := []) fun y _ => hnbl y.1
          have h6 := congrArg List.length ey
          rw [List.length_append] at h6
          rw [List.length_nil] at h5
          omega
        have hrow : furG [] nb [] (dn ++ [(x, m)]) = (nb x).foldl (cntG [] m) d0 := by
          rw [hd0]
          unfold furG
          rw [List.foldl_append]
          rfl
        have hnbx : nb x = (p.sw.map (wp (rvs p) x)).filter fun a => decide (shO w a = lit) := by rw [hnb]; rfl
        rw [hrow, hnbx] at hN8
        refine unp_pair hv8 s8.bh fun v1 v2 k1 k2 => ?_
        have s9 : St K [f] B8 H8 [dtvC K f d0] [ce p, ce (Sq.mk st), ce (Sq.mk w), ce (Sq.mk sh), ce (tab p), ce (DicT.mk L), ce (Sq.mk lit), ca f, ce (Tup.mk x), ce m, none, none] ((σ8.set 8 (some v1)).set 9 (some v2)) B8 H8 := by
          rw [hd0]
          exact (s8.here.put 8 k1).put 9 k2
        refine s9.forG (D := { D' with nx := N8, ct := N8, bk := D'.nx }) (δ := Unit) (it_sq (e_sw (s9.v (x := p) 0 rfl))) (fun en _ => [dtvC K f (((en.map (wp (rvs p) x)).filter fun a => decide (shO w a = lit)).foldl (cntG [] m) d0)]) (fun _ _ => [ce p, ce (Sq.mk st), ce (Sq.mk w), ce (Sq.mk sh), ce (tab p), ce (DicT.mk L), ce (Sq.mk lit), ca f, ce (Tup.mk x), ce m, none, none]) (fun _ _ => True) ⟨(), trivial, fun _ _ s10 => s10⟩ (fun en y ys _ ez _ v10 σ10 B10 H10 N10 hN10 s10 hv10 => ?_) fun _ _ σ10 B10 H10 s10 => ?_
        · have hy : y ∈ p.sw := by rw [ez]; simp
          obtain ⟨z, hzz⟩ : ∃ z, z = wp (rvs p) x y := ⟨_, rfl⟩
          have hzs : StOk p z := hzz ▸ wp_st c.irr hxs hy
          have hzl : z.length ≤ p.sw.length := (asc_nodup hzs.1).length_le_of_subset hzs.2.1
          obtain ⟨d1, hd1⟩ : ∃ d1, d1 = ((en.map (wp (rvs p) x)).filter fun a => decide (shO w a = lit)).foldl (cntG [] m) d0 := ⟨_, rfl⟩
          have hd1l : d1.length ≤ 3000 := by
            rw [hd1]
            have h5 := cntG_len (F := []) (v := m) (zs := (en.map (wp (rvs p) x)).filter fun a => decide (shO w a = lit)) (d := d0)
            have h7 := List.length_filter_le (fun a => decide (shO w a = lit)) (en.map (wp (rvs p) x))
            have h6 := congrArg List.length ez
            rw [List.length_append] at h6
            rw [List.length_map] at h7
            omega
          have e1 : (((en ++ [y]).map (wp (rvs p) x)).filter fun a => decide (shO w a = lit)).foldl (cntG [] m) d0 = if shO w z = lit then cntG [] m d1 z else d1 := by
            rw [List.map_append, List.filter_append, List.foldl_append, ← hd1, List.map_singleton, ← hzz]
            by_cases hl : shO w z = lit
            · rw [if_pos hl, List.filter_cons, if_pos (decide_eq_true hl)]
              rfl
            · rw [if_neg hl, List.filter_cons, if_neg (fun k => hl (of_decide_eq_true k))]
              rfl
          rw [e1] at hN10
          have s11 : St K [f] B10 H10 [dtvC K f d1] [ce p, ce (Sq.mk st), ce (Sq.mk w), ce (Sq.mk sh), ce (tab p), ce (DicT.mk L), ce (Sq.mk lit), ca f, ce (Tup.mk x), ce m, ce y, none] (σ10.set 10 (some v10)) B10 H10 := by
            rw [hd1]
            exact s10.here.put 10 hv10
          refine s11.set (x := Tup.mk z) ((e_call3 (x := tab p) (y := Sq.mk x) (z := y) (pre := fun (d : Dic (List Str)) (s : Sq Str) (x : Str) => (d.kvs.lookup x).isSome = true ∧ s.items.length ≤ 100000) (f := fun d s x => Tup.mk (wp (look d) s.items x)) (s11.v (x := tab p) 4 rfl) ((s11.v (x := Tup.mk x) 8 rfl).imp sq_tup) (s11.v (x := y) 10 rfl) ⟨tab_some hy, by show x.length ≤ _; omega⟩).is (by show Tup.mk (wp (look (tab p)) x y) = _; rw [wp_tab hy, hzz])) fun σ12 B12 H12 s12 => ?_
          replace s12 : St K [f] B10 H10 [dtvC K f d1] [ce p, ce (Sq.mk st), ce (Sq.mk w), ce (Sq.mk sh), ce (tab p), ce (DicT.mk L), ce (Sq.mk lit), ca f, ce (Tup.mk x), ce m, ce y, ce (Tup.mk z)] σ12 B12 H12 := s12
          refine s12.iteL (b := decide (Tup.mk (shO w z) = Tup.mk lit)) (t_test (e_eq (e_call2 (x := Tup.mk z) (y := Sq.mk w) (pre := fun (st : Tup Str) (_ : Sq Str) => st.items.length ≤ 100000) (f := fun st w => Tup.mk (shO w.items st.items)) (s12.v (x := Tup.mk z) 11 rfl) (s12.v (x := Sq.mk w) 2 rfl) (by show z.length ≤ _; omega)) (e_tupSq (s12.v (x := Sq.mk lit) 6 rfl)))) (fun hb B13 H13 s13 => ?_) fun hb B13 H13 s13 => ?_
          · have hl : shO w z = lit := by
              have := of_decide_eq_true hb
              injection this
            refine s13.cntT (i := 7) (j := 11) (k := 0) (l := f) (d := d1) (x := Tup.mk z) (n := m) rfl rfl rfl (s13.v (x := m) 9 rfl) (by omega) fun B14 H14 s14 => ?_
            refine hN10 () (B3 := B14) trivial ?_
            rw [if_pos hl]
            unfold cntG
            rw [if_neg (fun k => nomatch k)]
            exact s14.fg [10, 11]
          · have hl : shO w z ≠ lit := fun e => of_decide_eq_false hb (by rw [e])
            refine hN10 () (B3 := B13) trivial ?_
            rw [if_neg hl]
            exact s13.fg [10, 11]
        · exact hN8 () (B3 := B10) trivial (s10.fg [8, 9, 10, 11])
      · rw [← hDD] at s8
        exact hD' ⟨rfl, rfl⟩ rfl rm1 s8
    · obtain ⟨rfl, rfl⟩ := hPP
      obtain ⟨B8, b8, s8⟩ := s7.frzT (i := 7) (k := 0) (l := f) (d := DD0) rfl rfl (fun hm => nomatch hm)
      replace s8 : St K [] B' H' [] [ce p, ce (Sq.mk st), ce (Sq.mk w), ce (Sq.mk sh), ce (tab p), ce (DicT.mk L), ce (Sq.mk lit), ce (DicT.mk DD0), none, none, none, none] σ7 B8 H7 := s8
      refine s8.setL (x := DicT.mk DD0) (s8.v (x := DicT.mk DD0) 7 rfl) fun σ9 B9 H9 s9 => ?_
      refine hN () (B3 := B9) trivial ?_
      show St K [] B' H' [] [ce p, ce (Sq.mk st), ce (Sq.mk w), ce (Sq.mk sh), ce (tab p), ce (DicT.mk (WW (done ++ [Sq.mk lit]))), none, none, none, none, none, none] σ9 B9 H9
      rw [hnext]
      exact s9.fg [6, 7]
  · refine St.ret (D := Ends.ret Q) (x := DicT.mk (WW sh)) s3 (s3.v (x := DicT.mk (WW sh)) 5 rfl) fun v B4 H4 s4 hv => q v B4 H4 s4.toUp ?_
    rw [hWW] at hv
    exact hv
abbrev sp_histories_seen (K : PySem.W.Frag) : Sp := Fn4 K EmPre fun p st w sh => ((endsP p st w sh).length : Int)
def N_histories_seen : List Str := ["panel", "state", "watched", "shown"]
def t_histories_seen (K : PySem.W.Frag) : TS :=
  (tRet (tSumVals (tCall (sp_ways_seen K) [] E0 (tCons (tVar 0) (tCons (tVar 1) (tCons (tVar 2) (tCons (tVar 3) tNil)))))))
theorem l_histories_seen (vs : List V) (H : Hp) (Q : VK) (E : XK) (h : sp_histories_seen K vs H Q E) : vs.length = 4 := Fn4.len vs H Q E h
theorem r_histories_seen (vs : List V) (H : Hp) (Q : VK) (E : XK) (h : sp_histories_seen K vs H Q E) : t_histories_seen K (Ends.ret Q) (start N_histories_seen vs) H := by
  obtain ⟨p, st, w, sh, B, c, s, q⟩ := Fn4.st (E := E) h N_histories_seen
  have s2 := s.widen (fun o ho => nomatch ho)
  refine eU_call4 (E := E0) (B := wide B H) (H := H) (pre := EmPre) (f := fun p st w sh => DicT.mk (waysP p st w sh)) (s2.v (x := p) 0 rfl) (s2.v (x := st) 1 rfl) (s2.v (x := w) 2 rfl) (s2.v (x := sh) 3 rfl) c _ H (Up.refl s2.bh) wide_tc _ fun v B2 H2 u tc2 hv => ?_
  obtain ⟨a, ks, rfl, hr, hd⟩ := hv
  have hn : ks.map (·.2) = ((waysP p st w sh).map (·.2)).map V.int := by
    have key : ∀ {ks : List (List Key × V)} {L : List (List Str × Int)}, DicTAt K B2 ks L → ks.map (·.2) = (L.map (·.2)).map V.int := fun {ks L} h => by
      unfold DicTAt at h
      induction h with
      | nil => rfl
      | cons a t ih => rw [List.map_cons, List.map_cons, List.map_cons, ih, at_int.mp a.2]
    exact key hd
  exact ⟨a, ks, _, rfl, Evl.ex_rd u.bh hr, hn, q _ B H2 (u.narrow s.bh) (at_int.mpr (by rw [(ways_tal _).total]))⟩
abbrev endsSP (p : Pan) (st : Sq Str) (w : Sq Str) (sh : Sq (Sq Str)) : List (Tup Str) := endsS (rvs p) p.sw w.items st.items (sh.items.map (·.items))
abbrev sp_ends_seenF (K : PySem.W.Frag) : Sp := FnTF4 K EmPre endsSP
def N_ends_seenF : List Str := ["panel", "state", "watched", "shown"]
def t_ends_seenF (K : PySem.W.Frag) : TS :=
  (tRet (tCB (rSortT) (tCons (tCall (sp_ways_seen K) [] E0 (tCons (tVar 0) (tCons (tVar 1) (tCons (tVar 2) (tCons (tVar 3) tNil))))) tNil)))
theorem l_ends_seenF (vs : List V) (H : Hp) (Q : VK) (E : XK) (h : sp_ends_seenF K vs H Q E) : vs.length = 4 := FnTF4.len vs H Q E h
theorem r_ends_seenF (vs : List V) (H : Hp) (Q : VK) (E : XK) (h : sp_ends_seenF K vs H Q E) : t_ends_seenF K (Ends.ret Q) (start N_ends_seenF vs) H := by
  obtain ⟨p, st, w, sh, B, c, tc, s, q⟩ := FnTF4.st (E := E) h N_ends_seenF
  refine eU_call4 (E := E0) (B := B) (H := H) (pre := EmPre) (f := fun p st w sh => DicT.mk (waysP p st w sh)) (s.v (x := p) 0 rfl) (s.v (x := st) 1 rfl) (s.v (x := w) 2 rfl) (s.v (x := sh) 3 rfl) c _ H (Up.refl s.bh) tc _ fun v B2 H2 u tc2 hv => ?_
  obtain ⟨a, ks, rfl, hr, hd⟩ := hv
  have hl := c.few (sh.items.map (·.items))
  refine ⟨a, ks, (waysP p st w sh).map (·.1), rfl, Evl.ex_rd u.bh hr, dtAt_keys hd, by rw [List.length_map]; exact Nat.le_trans hl (by decide), fun qs pp hq hp => ?_⟩
  have hH : H pp = none := by
    cases z : H pp with
    | none => rfl
    | some o => rw [u.hh pp o z] at hp; cases hp
  have hB2 : B2 pp = none := Evl.fresh_back u.bh hp
  refine q pp (qs.map V.ref) B2 _ ⟨u.bb, ex_upd u.bh hB2, u.hh.trans (Ex.new hp), u.nw⟩ hB2 hH upd_same ?_
  have key : ∀ {qs : List Addr} {zs : List (Tup Str)}, Paired (fun (q : Addr) (z : Tup Str) => H2 q = some (.tup (z.items.map V.str))) qs zs → AtAll K B2 (qs.map V.ref) zs := fun {qs zs} h => by
    induction h with
    | nil => exact .nil
    | cons a t ih => exact .cons (at_tup.mpr ⟨_, _, rfl, tc2 _ _ a, at_strs _⟩) ih
  exact key hq
end
section
variable {K : PySem.W.Frag} {Ce : CnSo2 K "switch"}
def MissE (p : Pan) (_ : Sq Str) (w : Sq Str) (_ : Sq (Sq Str)) (z : Str) : Prop := missO p w.items = some z
abbrev sp_ways_seenX (K : PySem.W.Frag) (Ce : CnSo2 K "switch") : Sp := FnR4 K Ce.C "switch" MissE
def N_ways_seenX : List Str := ["panel", "state", "watched", "shown", "rivals", "ways", "lit", "later", "before", "many", "switch", "after"]
def t_ways_seenX (K : PySem.W.Frag) (Ce : CnSo2 K "switch") (E : XK) : TS :=
  (tSeq (tDrop (tCallS (sp_look_switchesX K Ce) (fun _ => E) (tCons (tVar 0) (tCons (tVar 2) tNil))))
    (tSeq (tPar 4 5 (tCons (tCall (sp_rival_table K) [] E0 (tCons (tVar 0) tNil)) (tCons (tDisp1T (tCB (rTupleU K) (tCons (tVar 1) tNil)) (tC (.int 1))) tNil)))
    (tSeq (tFor (iSeq K (tVar 3)) (gName 6) (tSeq (tAsg tDNewT (gName 7))
    (tSeq (tLockOS (tFor (iItemsT (tVar 5)) (gUnp K 2 (gCons (gName 8) (gCons (gName 9) gNil))) (tFor (iSeq K (tOp (rIxU K) (tVar 0) (tC (.int 0)))) (gName 10) (tSeq (tAsg (tCall (sp_with_press K) [] E0 (tCons (tVar 4) (tCons (tVar 8) (tCons (tVar 10) tNil)))) (gName 11))
    (tIfS (tTest (tOp (rEqP K) (tCall (sp_shown_of K) [] E0 (tCons (tVar 11) (tCons (tVar 2) tNil))) (tCB (rTupleU K) (tCons (tVar 6) tNil)))) (tAsg (tOp (rAddU K) (tDGet2 (tVar 7) (tVar 11) (tC (.int 0))) (tVar 9)) (gSub (tVar 7) (tVar 11) rSetD)) tNext)))))
    (tAsg (tVar 7) (gName 5)))))
    (tRet (tVar 5)))))
theorem l_ways_seenX (vs : List V) (H : Hp) (Q : VK) (E : XK) (h : sp_ways_seenX K Ce vs H Q E) : vs.length = 4 := FnR4.len vs H Q E h
theorem r_ways_seenX (vs : List V) (H : Hp) (Q : VK) (E : XK) (h : sp_ways_seenX K Ce vs H Q E) : t_ways_seenX K Ce E (Ends.ret Q) (start N_ways_seenX vs) H := by
  obtain ⟨p, st, w, sh, z, B, e, hv, hm, q⟩ := h
  have s : St K [] B H [] [ce p, ce st, ce w, ce sh, none, none, none, none, none, none, none, none] (start N_ways_seenX vs) B H := bad_st4 e hv N_ways_seenX
  exact s.thruY (x := p) (y := w) (s.v (x := p) 0 rfl) (s.v (x := w) 2 rfl) hm fun d B2 H2 u hd => q d B2 H2 u hd
abbrev sp_ends_seenXF (K : PySem.W.Frag) (Ce : CnSo2 K "switch") : Sp := FnR4 K Ce.C "switch" MissE
def N_ends_seenXF : List Str := ["panel", "state", "watched", "shown"]
def t_ends_seenXF (K : PySem.W.Frag) (Ce : CnSo2 K "switch") (E : XK) : TS :=
  (tRet (tCB (rSortT) (tCons (tCallS (sp_ways_seenX K Ce) (fun _ => E) (tCons (tVar 0) (tCons (tVar 1) (tCons (tVar 2) (tCons (tVar 3) tNil))))) tNil)))
theorem l_ends_seenXF (vs : List V) (H : Hp) (Q : VK) (E : XK) (h : sp_ends_seenXF K Ce vs H Q E) : vs.length = 4 := FnR4.len vs H Q E h
theorem r_ends_seenXF (vs : List V) (H : Hp) (Q : VK) (E : XK) (h : sp_ends_seenXF K Ce vs H Q E) : t_ends_seenXF K Ce E (Ends.ret Q) (start N_ends_seenXF vs) H := by
  obtain ⟨p, st, w, sh, z, B, e, hv, hm, q⟩ := h
  have s : St K [] B H [] [ce p, ce st, ce w, ce sh] (start N_ends_seenXF vs) B H := bad_st4 e hv N_ends_seenXF
  exact s.exR4 (x := p) (y := st) (t := w) (w := sh) (s.v (x := p) 0 rfl) (s.v (x := st) 1 rfl) (s.v (x := w) 2 rfl) (s.v (x := sh) 3 rfl) hm fun d B2 H2 u hd => q d B2 H2 u hd
abbrev sp_histories_seenX (K : PySem.W.Frag) (Ce : CnSo2 K "switch") : Sp := FnR4 K Ce.C "switch" MissE
def N_histories_seenX : List Str := ["panel", "state", "watched", "shown"]
def t_histories_seenX (K : PySem.W.Frag) (Ce : CnSo2 K "switch") (E : XK) : TS :=
  (tRet (tSumVals (tCallS (sp_ways_seenX K Ce) (fun _ => E) (tCons (tVar 0) (tCons (tVar 1) (tCons (tVar 2) (tCons (tVar 3) tNil)))))))
theorem l_histories_seenX (vs : List V) (H : Hp) (Q : VK) (E : XK) (h : sp_histories_seenX K Ce vs H Q E) : vs.length = 4 := FnR4.len vs H Q E h
theorem r_histories_seenX (vs : List V) (H : Hp) (Q : VK) (E : XK) (h : sp_histories_seenX K Ce vs H Q E) : t_histories_seenX K Ce E (Ends.ret Q) (start N_histories_seenX vs) H := by
  obtain ⟨p, st, w, sh, z, B, e, hv, hm, q⟩ := h
  have s : St K [] B H [] [ce p, ce st, ce w, ce sh] (start N_histories_seenX vs) B H := bad_st4 e hv N_histories_seenX
  exact s.exR4 (x := p) (y := st) (t := w) (w := sh) (s.v (x := p) 0 rfl) (s.v (x := st) 1 rfl) (s.v (x := w) 2 rfl) (s.v (x := sh) 3 rfl) hm fun d B2 H2 u hd => q d B2 H2 u hd
end
end Ob
set_option Elab.async false
set_option linter.all false
set_option maxRecDepth 100000
set_option maxHeartbeats 2000000
/-! Dn: dicts whose keys are tuples of tuples, from the model up: {}, k in d, d[k], d[k] = v. The hash of a key is a parameter hs of the readings (hs = hashN of the world). -/
namespace Ob
open PySem PySem.Spec PyProof.Rows L2
open Evl (Ex)
open PySem.W (Datum Tup DatumOrd)
def hashN (w : World) : NestedKey → Int := fun k => k.hash w
/-! ### keys on the tracked heap -/
mutual
inductive HasN (H : Hp) : NestedKey → V → Prop where
  | text (x : Str) : HasN H (.text x) (.str x)
  | tup {a : Addr} {vs : List V} {ks : List NestedKey} (h : H a = some (.tup vs)) (t : HasNs H ks vs) : HasN H (.tup ks) (.ref a)
inductive HasNs (H : Hp) : List NestedKey → List V → Prop where
  | nil : HasNs H [] []
  | cons {k : NestedKey} {v : V} {ks : List NestedKey} {vs : List V} (h : HasN H k v) (t : HasNs H ks vs) : HasNs H (k :: ks) (v :: vs)
end
mutual
theorem HasN.mono {H H' : Hp} (e : ∀ a us, H a = some (.tup us) → H' a = some (.tup us)) : ∀ (k : NestedKey) (v : V), HasN H k v → HasN H' k v
  | .text _, _, h => by cases h; exact .text _
  | .tup ks, _, h => by
    cases h with
    | tup a t => exact .tup (e _ _ a) (HasNs.mono e ks _ t)
  | .none, _, h => by cases h
  | .num _, _, h => by cases h
theorem HasNs.mono {H H' : Hp} (e : ∀ a us, H a = some (.tup us) → H' a = some (.tup us)) : ∀ (ks : List NestedKey) (vs : List V), HasNs H ks vs → HasNs H' ks vs
  | [], _, h => by cases h; exact .nil
  | k :: ks, _, h => by
    cases h with
    | cons a t => exact .cons (HasN.mono e k _ a) (HasNs.mono e ks _ t)
end
mutual
theorem HasN.is {P : Program} {w : World} {H : Hp} {h : Heap} (ok : HOk P w H h) : ∀ (k : NestedKey) (v : V) (u : Value), HasN H k v → RelV v u → NestedIs h k u
  | .text _, _, u, x, r => by
    cases x
    obtain ⟨t, rfl⟩ := (show ∃ t, u = Value.str _ t from r)
    exact .text _ _
  | .tup ks, _, u, x, r => by
    cases x with
    | @tup a vs _ e t =>
      obtain rfl : u = Value.ref a := r
      obtain ⟨_, its, rel, o, h1, h2, n, h3⟩ := (show ObjOk P w H h a (.tup vs) from ok a _ e)
      exact .tup h1 h2 h3 (by simpa using HasNs.is ok ks vs its t rel)
  | .none, _, _, x, _ => by cases x
  | .num _, _, _, x, _ => by cases x
theorem HasNs.is {P : Program} {w : World} {H : Hp} {h : Heap} (ok : HOk P w H h) : ∀ (ks : List NestedKey) (vs : List V) (us : List Value), HasNs H ks vs → Vals vs us → NestedAll h ks us
  | [], _, _, x, r => by cases x; cases r; exact .nil
  | k :: ks, _, _, x, r => by
    cases x with
    | cons a t =>
      cases r with
      | cons r1 r2 => exact .cons (HasN.is ok k _ _ a r1) (HasNs.is ok ks _ _ t r2)
end
/-! ### the dict -/
abbrev NdL := List (NestedKey × Addr × V)
abbrev NdV : NdL → List (NestedKey × Addr × Value) → Prop := Paired fun p q => p.1 = q.1 ∧ p.2.1 = q.2.1 ∧ RelV p.2.2 q.2.2
def NdP (hs : NestedKey → Int) (a : Addr) (ks : NdL) : Heap → Prop := fun h => ks.length ≤ sizeLine ∧ (a == sysModules) = false ∧ ∃ xs, NdV ks xs ∧ ∃ o es ep, h.get? a = some o ∧ o.ExactDict ∧ o.data = .dict es ep ∧ es.toList = xs.map fun x => ⟨hs x.1, .ref x.2.1, x.2.2⟩
abbrev ndO (hs : NestedKey → Int) (a : Addr) (ks : NdL) : HO := .ext (NdP hs a ks)
theorem nd_ok {P : Program} {w : World} {H : Hp} {h : Heap} {hs : NestedKey → Int} {a : Addr} {ks : NdL} (x : NdP hs a ks h) : ObjOk P w H h a (ndO hs a ks) := by
  refine ⟨x, ?_, fun h1 h2 y k => ?_⟩
  · obtain ⟨_, _, _, _, o, _, _, e, _⟩ := x
    exact ⟨o, e⟩
  · obtain ⟨y1, y2, y3, y4, o, es, ep, e, y5⟩ := y
    exact ⟨y1, y2, y3, y4, o, es, ep, k o e, y5⟩
/-- the keys' own tuples stand, and no key twice -/
structure NdK (H : Hp) (ks : NdL) : Prop where
  at_ : ∀ p ∈ ks, HasN H p.1 (.ref p.2.1) ∧ p.1.depth ≤ 8
  nd : (ks.map (·.1)).Nodup
def valN (ks : NdL) (k : NestedKey) : Option V := match ks with
  | [] => none
  | p :: r => if p.1 = k then some p.2.2 else valN r k
def putN (ks : NdL) (k : NestedKey) (b : Addr) (v : V) : NdL := if k ∈ ks.map (·.1) then ks.map (fun p => if p.1 = k then (p.1, p.2.1, v) else p) else ks ++ [(k, b, v)]
section
variable {P : Program} {w : World} {H : Hp} {h : Heap} {a : Addr} {ks : NdL} {xs : List (NestedKey × Addr × Value)}
theorem NdV.keys (r : NdV ks xs) : ks.map (·.1) = xs.map (·.1) := by
  unfold NdV at r
  induction r with
  | nil => rfl
  | cons h t ih => rw [List.map_cons, List.map_cons, ih, h.1]
theorem NdV.val (r : NdV ks xs) (k : NestedKey) : RelO (valN ks k) ((atKey xs k).map (·.2)) := by
  unfold NdV at r
  induction r with
  | nil => exact True.intro
  | @cons p q ps qs h t ih =>
    obtain ⟨h1, _, h2⟩ := h
    by_cases e : p.1 = k
    · have e' : q.1 = k := h1.symm.trans e
      have b : atKey (q :: qs) k = some q.2 := by simp [atKey, List.find?_cons, e']
      rw [b]
      show RelO (if p.1 = k then some p.2.2 else _) _
      rw [if_pos e]
      exact h2
    · have e' : ¬ q.1 = k := fun z => e (h1.trans z)
      have b : atKey (q :: qs) k = atKey qs k := by simp [atKey, List.find?_cons, e']
      rw [b]
      show RelO (if p.1 = k then some p.2.2 else valN ps k) _
      rw [if_neg e]
      exact ih
theorem valN_mem {k : NestedKey} : ∀ {ks : NdL}, (valN ks k).isSome = decide (k ∈ ks.map (·.1))
  | [] => rfl
  | p :: r => by
    show (if p.1 = k then some p.2.2 else valN r k).isSome = _
    by_cases e : p.1 = k
    · rw [if_pos e, decide_eq_true (by rw [List.map_cons]; exact List.mem_cons.mpr (.inl e.symm))]
      rfl
    · rw [if_neg e, valN_mem]
      refine decide_eq_decide.mpr ?_
      rw [List.map_cons, List.mem_cons]
      exact ⟨.inr, fun z => z.resolve_left fun y => e y.symm⟩
theorem NdV.put (r : NdV ks xs) (k : NestedKey) {b : Addr} {y : V} {u : Value} (ry : RelV y u) : NdV (putN ks k b y) (storedH xs k b u) := by
  have e : decide (k ∈ ks.map (·.1)) = (atKey xs k).isSome := by
    rw [← valN_mem, (r.val k).isSome_eq, Option.isSome_map]
  unfold putN storedH
  rw [← e]
  by_cases q : k ∈ ks.map (·.1)
  · rw [if_pos q, if_pos (decide_eq_true q)]
    clear q e
    unfold NdV at r ⊢
    induction r with
    | nil => exact .nil
    | @cons p q ps qs h t ih =>
      rw [List.map_cons, List.map_cons]
      refine .cons ?_ ih
      obtain ⟨h1, h2, h3⟩ := h
      unfold putAt
      by_cases e : p.1 = k
      · rw [if_pos e, if_pos (h1.symm.trans e)]; exact ⟨h1, h2, ry⟩
      · rw [if_neg e, if_neg (fun z => e (h1.trans z))]; exact ⟨h1, h2, h3⟩
  · rw [if_neg q, if_neg (by rw [decide_eq_false q]; decide)]
    exact Paired.snoc r ⟨rfl, rfl, ry⟩
theorem nd_dict (ok : HOk P w H h) (e : H a = some (ndO (hashN w) a ks)) (K : NdK H ks) : ks.length ≤ sizeLine ∧ (a == sysModules) = false ∧ ∃ xs, NdV ks xs ∧ h.DictOfH (nestedKind P w) a xs := by
  obtain ⟨⟨z, y, xs, r, o, es, ep, h1, h2, h3, h4⟩, _⟩ := (show ObjOk P w H h a (ndO (hashN w) a ks) from ok a _ e)
  refine ⟨z, y, xs, r, o, es, ep, h1, h2, h3, h4, fun x hx => ?_, by rw [← NdV.keys r]; exact K.nd⟩
  have all : ∀ {l : NdL} {m : List (NestedKey × Addr × Value)}, NdV l m → (∀ p ∈ l, HasN H p.1 (.ref p.2.1) ∧ p.1.depth ≤ 8) → ∀ x ∈ m, (nestedKind P w).is h x.1 x.2.1 := by
    intro l m q hl
    induction q with
    | nil => intro x hx; exact nomatch hx
    | @cons p q ps qs hq t ih =>
      intro x hx
      rcases List.mem_cons.mp hx with e | hx
      · subst e
        obtain ⟨g1, g2⟩ := hl p List.mem_cons_self
        rw [← hq.1, ← hq.2.1]
        exact ⟨HasN.is ok _ _ _ g1 rfl, g2⟩
      · exact ih (fun p hp => hl p (List.mem_cons_of_mem _ hp)) x hx
  exact all r K.at_ x hx
end
/-- y is the key k, the dict at a holds ks -/
structure NAt (hs : NestedKey → Int) (H : Hp) (a : Addr) (ks : NdL) (k : NestedKey) (b : Addr) : Prop where
  hd : H a = some (ndO hs a ks)
  hK : NdK H ks
  hk : HasN H k (.ref b)
  dp : k.depth ≤ 8
def rSetN (hs : NestedKey → Int) : L2.TSet := fun o i v H Q => ∃ a ks k b, o = .ref a ∧ i = .ref b ∧ NAt hs H a ks k b ∧ ks.length < sizeLine ∧ Q (upd H a (ndO hs a (putN ks k b v)))
def tDNewN (hs : NestedKey → Int) : TE := fun _ H Q => ∀ p, H p = none → Q (.ref p) (upd H p (ndO hs p []))
section
variable {X : Cx} {hs : NestedKey → Int} {pos : Pos}
theorem room_n {A : Around} (hu : A.units + 150 < cLine) : A.in1.units + 8 < cLine := by
  have : A.in1.units ≤ A.units + 1 := by first | exact Nat.le_refl _ | (unfold Around.in1; simp) | omega
  omega
theorem set_N (hu : X.A.units + 150 < cLine) (hw : hs = hashN X.w) : PSet X (rSetN hs) := by
  intro pins s σ H o i v ov iv u Q I ro ri rv h
  obtain ⟨a, ks, k, b, rfl, rfl, ⟨d, K, hk, dp⟩, hz, q⟩ := h
  obtain rfl : ov = Value.ref a := ro
  obtain rfl : iv = Value.ref b := ri
  subst hw
  obtain ⟨z, hd, xs, rel, dd⟩ := nd_dict I.hok d K
  have hz2 : xs.length ≤ sizeLine := by rw [← Paired.length rel]; exact z
  have hl : (putN ks k b v).length ≤ sizeLine := by
    unfold putN
    split
    · rw [List.length_map]; exact z
    · rw [List.length_append, List.length_singleton]; omega
  refine wpAny_setItem_heap (knd := nestedKind X.prog X.w) (hsz := hz2) (room_n hu) ⟨HasN.is I.hok _ _ _ hk rfl, dp⟩ dd fun h' dd' hsb => ?_
  obtain ⟨o, es, ep, hq, h2, h3, h4, _, h5⟩ := dd'
  exact ⟨_, d_write I (by rw [d]; exact True.intro) hsb ⟨o, hq⟩ (nd_ok ⟨hl, hd, _, rel.put k rv, o, es, ep, hq, h2, h3, h4⟩), q⟩
theorem pe_dnewN : PE X (.Dict [] [] pos) (tDNewN hs) := ⟨fun pins s σ H Q I h =>
  wpAny_Dict_empty ⟨.ref s.heap.objs.size, _, I.laid (a := s.heap.objs.size) (o := ndO hs s.heap.objs.size []) (t' := s.toks) (fun _ _ q => Heap.get?_push_of_some _ q) (Nat.le_refl _)
    (nd_ok ⟨Nat.zero_le _, beq_eq_false_iff_ne.mpr (Ne.symm (Nat.ne_of_lt I.big)), [], .nil, _, #[], 0, Heap.get?_push_size _ rfl, ⟨rfl, rfl, rfl⟩, rfl, rfl⟩), rfl, h _ (I.hok.fresh (Nat.le_refl _))⟩⟩
end
end Ob
set_option Elab.async false
set_option linter.all false
set_option maxRecDepth 100000
set_option maxHeartbeats 2000000
/-! Dn2: dicts with nested keys (tuples of tuples), more: for k in d, d.get(k, x). -/
namespace Ob
open PySem PySem.Spec PyProof.Rows L2
open Evl (Ex)
/-- the keys, each the tuple that stands there -/
def ItkN (hs : NestedKey → Int) (d : Addr) (o : Obj) (ks : NdL) : It :=
  ⟨fun i H => H d = some (.frz o (ndO hs d ks)) ∧ i < ks.length, fun i H x H' => H' = H ∧ ∃ p : NestedKey × Addr × V, ks[i]? = some p ∧ x = .ref p.2.1, fun i H => H d = some (.frz o (ndO hs d ks)) ∧ ks.length ≤ i⟩
def iKeysN (hs : NestedKey → Int) (td : TE) : TI := fun σ H R => td σ H fun x H1 => ∃ d o ks, x = .ref d ∧ H1 d = some (.frz o (ndO hs d ks)) ∧ R (ItkN hs d o ks) H1
section
variable {X : Cx} {pins : List (Addr × Obj)} {σ : L2.St} {H : Hp} {s : Shared} {d : Addr} {o : Obj} {hs : NestedKey → Int} {ks : NdL}
theorem frzN (I : Inv X pins σ H s) (h : H d = some (.frz o (ndO hs d ks))) :
    (d == sysModules) = false ∧ s.heap.get? d = some o ∧ o.ExactDict ∧ ∃ (es : Array DictEntry) (ep : Nat), o.data = .dict es ep ∧ es.size = ks.length ∧
      ∀ (i : Nat) (p : NestedKey × Addr × V), ks[i]? = some p → ∃ en : DictEntry, es[i]? = some en ∧ en.key = .ref p.2.1 ∧ RelV p.2.2 en.val := by
  obtain ⟨hd, ⟨z, lo, xs, r, o', es, ep, e1, e2, e3, e4⟩, _⟩ := (show _ ∧ ObjOk X.prog X.w H s.heap d (ndO hs d ks) from I.hok d _ h)
  rw [hd] at e1
  cases e1
  have hl : es.size = ks.length := by
    have := congrArg List.length e4
    rw [Array.length_toList, List.length_map] at this
    rw [this, Paired.length r]
  refine ⟨lo, hd, e2, es, ep, e3, hl, fun i p hp => ?_⟩
  have key : ∀ {l : NdL} {m : List (NestedKey × Addr × Value)}, NdV l m → ∀ (i : Nat), l[i]? = some p → ∃ q, m[i]? = some q ∧ p.1 = q.1 ∧ p.2.1 = q.2.1 ∧ RelV p.2.2 q.2.2 := by
    intro l m h
    induction h with
    | nil => intro i hi; cases hi
    | @cons a b as bs h1 _ ih =>
      intro i hi
      cases i with
      | zero => cases hi; exact ⟨b, rfl, h1⟩
      | succ i => exact ih i hi
  obtain ⟨q, hq, q1, q2, q3⟩ := key r i hp
  refine ⟨⟨hs q.1, .ref q.2.1, q.2.2⟩, ?_, by rw [q2], q3⟩
  rw [← Array.getElem?_toList, e4, List.getElem?_map, hq]
  rfl
end
section
variable {P : Program} {w : World} {K : PySem.W.Frag} {tg : Expr} {d : Addr} {o : Obj} {es : Array DictEntry} {ep : Nat} {hs : NestedKey → Int} {ks : NdL}
theorem turn_keysN (it : Addr) (hod : o.data = .dict es ep) : Turn P w K tg (ItkN hs d o ks) [it] it (fun i h => h.IsKeyIter it d i ks.length ep) where
  mem := by simp
  obj := fun i h st b hb => by
    obtain rfl : b = it := by simpa using hb
    obtain ⟨oi, e, c, dd⟩ := st
    exact ⟨oi, e, fun v z => by rw [dd] at z; cases z⟩
  keep := fun i h h' st k => st.at fun oi e => k it (by simp) oi e
  item := by
    intro X hP hw hK hc i pins s σ H E I hf st hg
    subst hP hw hK
    obtain ⟨hd, hi⟩ := hg
    obtain ⟨f0, f1, f2, f3, f4, f5⟩ := hf it (by simp)
    obtain ⟨_, hgd, hx, es', ep', hdt, hsz, ent⟩ := frzN I hd
    obtain ⟨rfl, rfl⟩ := dict_ep hod hdt
    obtain ⟨p, hp⟩ : ∃ p, ks[i]? = some p := ⟨ks[i], List.getElem?_eq_getElem hi⟩
    obtain ⟨en, hen, hkey, _⟩ := ent i p hp
    refine next_key_item st hgd hdt hsz hen fun h' st' sb => ?_
    have I1 : Inv X pins σ H { s with heap := h' } := I.turned (t' := s.toks) (fun b ob hb e => (sb.2 b hb).trans e) f0 f1 f3 f4 f5
    obtain ⟨oi, e, c, dd⟩ := id st'
    exact ⟨en.key, rfl, go_of (s := { s with heap := h' }) e c dd (by decide) ⟨.ref p.2.1, H, I1, hkey, ⟨rfl, p, hp, rfl⟩, st', fun b hb => (hf b hb).1⟩⟩
  done := by
    intro X hP hw hK hc i pins s σ H E I hf st hg
    subst hP hw hK
    obtain ⟨hd, hi⟩ := hg
    obtain ⟨f0, f1, f2, f3, f4, f5⟩ := hf it (by simp)
    obtain ⟨_, hgd, hx, es', ep', hdt, hsz, ent⟩ := frzN I hd
    obtain ⟨rfl, rfl⟩ := dict_ep hod hdt
    exact next_key_end (I.ok.hd hc) st hgd hdt hsz hi fun h' eb => ⟨rfl, I.turned (t' := s.toks) (fun b ob hb e => eb b ob hb e) f0 f1 f3 f4 f5⟩
  self := fun A i s Q E st h => wpAny_pyIter_keyiter st h
end
section
variable {X : Cx} {e f ob : Expr} {td ty tx : TE} {tg : Expr} {hs : NestedKey → Int} {apos cpos : Pos}
theorem pi_keysN (he : PE X e td) : PI X tg e (iKeysN hs td) := by
  refine ⟨fun pins s σ H R I h => ?_⟩
  refine thn (he.run pins s σ H _ I h) fun u s1 ⟨x, H1, I1, rx, d, o, ks, ex, hd, q⟩ => ?_
  subst ex
  obtain rfl : u = Value.ref d := rx
  obtain ⟨lo, hgd, hx, es, ep, hdt, hsz, ent⟩ := frzN I1 hd
  refine iter_keys lo hgd hx hdt (pi_one (tk := s1.toks) I1 _ (turn_keysN _ hdt) ⟨_, Heap.get?_push_size _ rfl, rfl, ?_⟩ q)
  rw [hsz] <;> rfl
end
/-- sorted(d), its keys tuples of any data -/
def rSortN (hs : NestedKey → Int) (K : PySem.W.Frag) (β : Type) [DecidableEq β] [PySem.W.DatumOrd β] : List V → Hp → VK → Prop := fun vs H Q => ∃ (a : Addr) (ks : NdL) (zs : List (PySem.W.Tup β)) (B : Hp), vs = [.ref a] ∧ Ex B H ∧ Rd H a (ndO hs a ks) ∧
  Paired (fun (p : NestedKey × Addr × V) (z : PySem.W.Tup β) => Rep.at_ K B (.ref p.2.1) z) ks zs ∧ zs.length ≤ 1000000 ∧
  ∀ (qs : List Addr) (p : Addr), Paired (fun (q : Addr) (z : PySem.W.Tup β) => Rep.at_ K B (.ref q) z) qs (sortD zs) → H p = none → Q (.ref p) (upd H p (.lst (qs.map V.ref)))
theorem each_refsN {R : Addr → α → Prop} : ∀ {us : List Value} {zs : List α}, PySem.W.EachIs (fun u z => ∃ q : Addr, u = .ref q ∧ R q z) us zs → ∃ qs : List Addr, us = qs.map Value.ref ∧ Paired R qs zs
  | _, _, .nil => ⟨[], rfl, .nil⟩
  | _, _, .cons ⟨q, e, h⟩ t => by
    obtain ⟨qs, e2, h2⟩ := each_refsN t
    exact ⟨q :: qs, by rw [e, e2]; rfl, .cons h h2⟩
theorem ents_n {X : Cx} {pins : List (Addr × Obj)} {σ : L2.St} {H : Hp} {s : Shared} {a : Addr} {hs : NestedKey → Int} {ks : NdL} (I : Inv X pins σ H s) (h : H a = some (ndO hs a ks) ∨ ∃ o, H a = some (.frz o (ndO hs a ks))) :
    (a == sysModules) = false ∧ ∃ (ob : Obj) (es : Array DictEntry) (ep : Nat), s.heap.get? a = some ob ∧ ob.ExactDict ∧ ob.data = .dict es ep ∧ es.size = ks.length ∧ ks.length ≤ sizeLine ∧
      ∀ (i : Nat) (p : NestedKey × Addr × V), ks[i]? = some p → ∃ en : DictEntry, es[i]? = some en ∧ en.key = .ref p.2.1 := by
  have hN : NdP hs a ks s.heap := by
    rcases h with h | ⟨o, h⟩
    · exact (show ObjOk X.prog X.w H s.heap a (ndO hs a ks) from I.hok a _ h).1
    · exact (show _ ∧ ObjOk X.prog X.w H s.heap a (ndO hs a ks) from I.hok a _ h).2.1
  obtain ⟨z, lo, xs, r, ob, es, ep, e1, e2, e3, e4⟩ := hN
  have hl : es.size = ks.length := by
    have := congrArg List.length e4
    rw [Array.length_toList, List.length_map] at this
    rw [this, Paired.length r]
  refine ⟨lo, ob, es, ep, e1, e2, e3, hl, z, fun i p hp => ?_⟩
  have key : ∀ {l : NdL} {m : List (NestedKey × Addr × Value)}, NdV l m → ∀ (i : Nat), l[i]? = some p → ∃ q, m[i]? = some q ∧ p.2.1 = q.2.1 := by
    intro l m h
    induction h with
    | nil => intro i hi; cases hi
    | @cons a b as bs h1 _ ih =>
      intro i hi
      cases i with
      | zero => cases hi; exact ⟨b, rfl, h1.2.1⟩
      | succ i => exact ih i hi
  obtain ⟨q, hq, q2⟩ := key r i hp
  refine ⟨⟨hs q.1, .ref q.2.1, q.2.2⟩, ?_, by rw [q2]⟩
  rw [← Array.getElem?_toList, e4, List.getElem?_map, hq]
  rfl
section
open PySem.W (Datum Tup DatumOrd)
variable {X : Cx} {hs : NestedKey → Int} {β : Type} [DecidableEq β] [DatumOrd β]
theorem call_sortN (hcalm : X.calm = true) (hu : X.A.units + 150 < cLine) (hz64 : Datum.depth (Tup β) ≤ 64 := by decide) : CallR X (.builtin "sorted") (rSortN hs X.K β) := by
  intro pins s σ H vs us Q I r h
  obtain ⟨a, ks, zs, B, rfl, hBH, hd, hks, hz, q⟩ := h
  obtain ⟨u, rfl, rx⟩ := vals1 r
  cases rx
  obtain ⟨lo, o, es, ep, h1, h2, h3, h4, z, hent⟩ := ents_n I hd
  have hlen : ks.length = zs.length := Paired.length hks
  refine Calls.call_function_entry kind_sorted plain_sorted entry_sorted (args_sorted1 _) ?_
  unfold Builtin.«sorted»
  refine wpAny_bind (m := checkCount "sorted" 1 1 _) (wpAny_pure ?_)
  refine wpAny_bind (PySem.W.kdu_collect (A := X.A.in1) (DjZ.ent_src lo) (I.ok.hd hcalm) ⟨o, h1, h2, h3⟩ (by rw [h4]; exact z) fun h' tk acc hk hacc => ?_)
  have hal : acc.toList.length = zs.length := by rw [Array.length_toList, hacc.1, h4, hlen]
  have hsl : acc.toList.length ≤ sizeLine := by rw [hal, ← hlen]; exact z
  refine wpAny_bind (wpAny_newList ?_ hsl)
  have hE : PySem.W.EachIs (fun u (z : Tup β) => ∃ q : Addr, u = .ref q ∧ Rep.at_ X.K B (.ref q) z) acc.toList zs := by
    have key : ∀ (us : List Value) (l : NdL) (zs : List (Tup β)), us.length = l.length → Paired (fun (p : NestedKey × Addr × V) (z : Tup β) => Rep.at_ X.K B (.ref p.2.1) z) l zs → (∀ (j : Nat) (u : Value) (p : NestedKey × Addr × V), us[j]? = some u → l[j]? = some p → u = .ref p.2.1) → PySem.W.EachIs (fun u (z : Tup β) => ∃ q : Addr, u = .ref q ∧ Rep.at_ X.K B (.ref q) z) us zs := by
      intro us
      induction us with
      | nil => intro l zs hl hp _; cases hp with
        | nil => exact .nil
        | cons => cases hl
      | cons u us ih => intro l zs hl hp hj; cases hp with
        | nil => cases hl
        | @cons p z l zs h1 t => exact .cons ⟨p.2.1, hj 0 u p rfl rfl, h1⟩ (ih l zs (Nat.succ.inj hl) t fun j u' p' e1 e2 => hj (j + 1) u' p' (by simpa using e1) (by simpa using e2))
    refine key _ ks _ (by rw [hal, hlen]) hks fun j u p e1 e2 => ?_
    obtain ⟨en, en1, en2⟩ := hacc.2 j u (by rw [← Array.getElem?_toList]; exact e1)
    obtain ⟨en', f1, f2⟩ := hent j p e2
    rw [f1] at en1
    cases en1
    rw [← en2, f2]
  have hR : PySem.W.EachIs (fun u (z : Tup β) => ∃ as, Reads s.heap u (Datum.toD z) as) acc.toList zs := hE.mono fun u z ⟨q, e, hq⟩ => by
    rw [e]
    exact Dp.reads (X := X) I (Datum.toD z) (.ref q) (.ref q) (Dq.dp _ _ (show Dq X.K H (.ref q) (Datum.toD z) from Rep.mono hBH hq)) rfl
  have ho' : (h'.push (seqObj "list" acc.toList.toArray 0)).get? h'.objs.size = some (seqObj "list" acc.toList.toArray 0) := Heap.get?_push_size _ rfl
  have hal2 : PySem.W.AllAlike (zs.map (Datum.toD (α := Tup β))) := PySem.W.AllAlike.of fun b b' => DatumOrd.alike b b'
  have kp : ∀ b o, s.heap.get? b = some o → (PySem.W.sortingHeap (h'.push (seqObj "list" acc.toList.toArray 0)) h'.objs.size acc.toList).get? b = some o := fun b o e => PySem.W.sortingHeap_old (Nat.ne_of_lt (Heap.lt_size (hk b o e))) (Heap.get?_push_of_some _ (hk b o e))
  have I1 : Inv X pins σ H { s with heap := h', toks := tk } := I.kept hk
  have hbd : ∀ b, b ∈ zs → X.A.units + 2 + (Datum.toD b).depth < cLine := fun b _ => by
    have h5 := Datum.depth_le b
    omega
  refine wpAny_bind (wpAny_holding (wpAny_call_entry slot_list_sort ⟨_, ho', rfl⟩ entry_list_sort ?body (args_list_sort _)))
  case body =>
    show wpAny _ X.A.in1.in1 (Builtin.«list.sort» ⟨[.ref h'.objs.size], []⟩) _ _ _
    refine PySem.W.list_sort_vals (n := 0) (s := { s with heap := h'.push (seqObj "list" acc.toList.toArray 0), toks := tk }) ho' (sortsAt_any (PySem.W.each_map (R := fun v d => ∃ as, Reads (PySem.W.sortingHeap (h'.push (seqObj "list" acc.toList.toArray 0)) h'.objs.size acc.toList) v d as) Datum.toD (hR.mono fun u z ⟨as, r⟩ => ⟨as, PyProof.Rows.Reads.keeps kp r⟩)) hal2 (.inr (allTup_tup zs)) (PySem.W.bound_map hbd)) hsl ?_
    have hs := PySem.W.sortVals_data (h' := PySem.W.sortingHeap (h'.push (seqObj "list" acc.toList.toArray 0)) h'.objs.size acc.toList) (enc := Datum.toD (α := Tup β)) false hE (hR.mono fun u z ⟨as, r⟩ => ⟨as, PyProof.Rows.Reads.keeps kp r⟩) hal2
    rw [dataLe_lt] at hs
    obtain ⟨qs, e1, e2⟩ := each_refsN hs
    rw [e1]
    obtain ⟨en, hen⟩ := PyProof.Rows.sortedHeap_at (vs := acc.toList) (out := (qs.map Value.ref).toArray) ho'
    refine ⟨_, rfl, wpAny_pure ?_⟩
    have hql : qs.length = zs.length := by rw [e2.length]; exact (sortD_perm zs).length_eq
    have kq : ∀ b o, h'.get? b = some o → (PyProof.Rows.sortedHeap (h'.push (seqObj "list" acc.toList.toArray 0)) h'.objs.size acc.toList (qs.map Value.ref).toArray).get? b = some o := fun b o e => by
      rw [PyProof.Rows.sortedHeap_old (Nat.ne_of_lt (Heap.lt_size e)) (by rw [size_push']; exact Nat.lt_succ_of_lt (Heap.lt_size e))]
      exact Heap.get?_push_of_some _ e
    exact ⟨_, rfl, .ref h'.objs.size, upd H h'.objs.size (.lst (qs.map V.ref)), I1.laid (t' := tk) kq (Nat.le_refl _) (show ObjOk X.prog X.w _ _ _ (.lst (qs.map V.ref)) from ⟨by rw [List.length_map, hql, ← hlen]; exact z, qs.map Value.ref, en, vals_refs qs, hen⟩), rfl, q qs _ e2 (I1.hok.fresh (Nat.le_refl _))⟩
end
section
variable {X : Cx} {hs : NestedKey → Int}
/-- {k: v}, k a tuple of tuples -/
def tDisp1N (hs : NestedKey → Int) (tk tv : TE) : TE := fun σ H Q => ∀ p, H p = none → tk σ (upd H p (ndO hs p [])) fun x H1 => tv σ H1 fun y H2 => ∃ (b : Addr) (k : NestedKey), x = .ref b ∧ HasN H2 k (.ref b) ∧ k.depth ≤ 8 ∧ H2 p = some (ndO hs p []) ∧ Q (.ref p) (upd H2 p (ndO hs p [(k, b, y)]))
theorem pe_disp1N {pos : Pos} {k v : Expr} {tk tv : TE} (hu : X.A.units + 150 < cLine) (hw : hs = hashN X.w) (hk : PE X k tk) (hv : PE X v tv) : PE X (.Dict [some k] [v] pos) (tDisp1N hs tk tv) := by
  subst hw
  refine ⟨fun pins s σ H Q I q => ?_⟩
  have hn := I.hok.fresh (Nat.le_refl s.heap.objs.size)
  have I1 := I.laid (a := s.heap.objs.size) (o := ndO (hashN X.w) s.heap.objs.size []) (h' := s.heap.push { cls := .type "dict", data := .dict #[] }) (t' := s.toks) (fun _ _ q => Heap.get?_push_of_some _ q) (Nat.le_refl _)
    (nd_ok ⟨Nat.zero_le _, beq_eq_false_iff_ne.mpr (Ne.symm (Nat.ne_of_lt I.big)), [], .nil, _, #[], 0, Heap.get?_push_size _ rfl, ⟨rfl, rfl, rfl⟩, rfl, rfl⟩)
  refine wpAny_Dict_any (keys := [some k]) (values := [v]) rfl rfl (by simp) (Nat.le_of_ble_eq_true rfl) (pairTrees_cons_walk (thn (hk.run pins _ σ _ _ I1 (q _ hn)) fun u s1 ⟨x, H1, I2, rx, q1⟩ => thn (hv.run pins s1 σ H1 _ I2 q1) fun w2 s2 ⟨y, H2, I3, ry, b, kk, ex, hkey, dp, hD, q2⟩ => pairTrees_nil_walk ?_))
  subst ex
  cases (show u = Value.ref b from rx)
  unfold storeAll
  simp only [List.forIn_cons, List.forIn_nil]
  obtain ⟨z, hd, xs, rel, dd⟩ := nd_dict I3.hok hD ⟨fun p hp => absurd hp List.not_mem_nil, .nil⟩
  have hx0 : xs = [] := List.length_eq_zero_iff.mp (Paired.length rel).symm
  refine wpAny_bind (wpAny_bind (wpAny_dictSet_heap (hsz := by rw [hx0]; exact Nat.zero_le _) (knd := nestedKind X.prog X.w) (by first | exact room_n hu | (show X.A.units + 8 < cLine; omega)) ⟨HasN.is I3.hok _ _ _ hkey rfl, dp⟩ dd fun h' dd' hsb => wpAny_pure ?_))
  obtain ⟨o, es, ep, hq, h2, h3, h4, _, h5⟩ := dd'
  exact wpAny_pure ⟨.ref s.heap.objs.size, _, d_write I3 (by rw [hD]; exact True.intro) hsb ⟨o, hq⟩ (nd_ok ⟨(by show 1 ≤ sizeLine; rw [sizeLine_eq]; decide), hd, _, rel.put kk ry, o, es, ep, hq, h2, h3, h4⟩), rfl, q2⟩
end
end Ob
set_option Elab.async false
set_option linter.all false
set_option maxRecDepth 100000
set_option maxHeartbeats 1000000
/-! M50: things gathered by a key in the order they come; all histories of n presses by what they show. Plain (k83). -/
namespace Ob
open PySem L2
section
variable {κ α : Type} [DecidableEq κ]
def addG (d : List (κ × List α)) (p : κ × α) : List (κ × List α) := putG d p.1 ((lkG d p.1).getD [] ++ [p.2])
def grpG (Z : List (κ × α)) : List (κ × List α) := Z.foldl addG []
theorem grp_nd {Z : List (κ × α)} : ∀ {d : List (κ × List α)}, (d.map (·.1)).Nodup → ((Z.foldl addG d).map (·.1)).Nodup := by
  induction Z with
  | nil => exact fun h => h
  | cons p Z ih => exact fun h => ih (putG_nd h)
theorem grp_lk (x : κ) : ∀ (Z : List (κ × α)) (d : List (κ × List α)), (lkG (Z.foldl addG d) x).getD [] = (lkG d x).getD [] ++ (Z.filter fun p => decide (p.1 = x)).map (·.2) ∧ (lkG (Z.foldl addG d) x = none ↔ lkG d x = none ∧ ∀ p ∈ Z, p.1 ≠ x)
  | [], d => ⟨(List.append_nil _).symm, ⟨fun h => ⟨h, fun p hp => absurd hp List.not_mem_nil⟩, fun h => h.1⟩⟩
  | p :: Z, d => by
    obtain ⟨i1, i2⟩ := grp_lk x Z (addG d p)
    rw [List.foldl_cons]
    have hc : lkG (addG d p) x = if x = p.1 then some ((lkG d p.1).getD [] ++ [p.2]) else lkG d x := lkG_put
    rw [i1, i2, hc, List.filter_cons]
    by_cases e : x = p.1
    · rw [if_pos e, if_pos (decide_eq_true e.symm), List.map_cons]
      refine ⟨?_, fun h => (nomatch h.1), fun h => absurd e.symm (h.2 p List.mem_cons_self)⟩
      show (lkG d p.1).getD [] ++ [p.2] ++ _ = _
      rw [e, List.append_assoc]
      rfl
    · rw [if_neg e, if_neg (by simpa using fun z => e z.symm)]
      refine ⟨rfl, fun h => ⟨h.1, fun q hq => ?_⟩, fun h => ⟨h.1, fun q hq => h.2 q (List.mem_cons_of_mem _ hq)⟩⟩
      rcases List.mem_cons.mp hq with z | z
      · rw [z]; exact fun k => e k.symm
      · exact h.2 q z
end
/-- what one press more makes of the histories, in the order of the walk -/
def longZ (rv : Str → List Str) (sw w : List Str) (L : List (List (List Str) × List (List Str))) : List (List (List Str) × List Str) :=
  L.flatMap fun p => p.2.flatMap fun e => sw.map fun x => (p.1 ++ [shO w (wp rv e x)], wp rv e x)
def everyG (rv : Str → List Str) (sw w st : List Str) : Nat → List (List (List Str) × List (List Str))
  | 0 => [([], [st])]
  | n + 1 => grpG (longZ rv sw w (everyG rv sw w st n))
section
variable {rv : Str → List Str} {sw w st : List Str}
structure ByL (rv : Str → List Str) (sw w st : List Str) (n : Nat) (L : List (List (List Str) × List (List Str))) : Prop where
  nd : (L.map (·.1)).Nodup
  ln : ∀ p ∈ L, p.1.length = n
  lk : ∀ s : List (List Str), s.length = n → (lkG L s).getD [] = endsE rv sw w st s ∧ (lkG L s = none ↔ endsE rv sw w st s = [])
theorem flat_filter {α β : Type} {f : α → List β} {q : β → Bool} : ∀ xs : List α, (xs.flatMap f).filter q = xs.flatMap fun x => (f x).filter q
  | [] => rfl
  | a :: xs => by rw [List.flatMap_cons, List.filter_append, flat_filter xs, List.flatMap_cons]
theorem pick_flat {κ α β : Type} [DecidableEq κ] {f : κ → α → List β} {x : κ} : ∀ {L : List (κ × α)}, (L.map (·.1)).Nodup → (∀ p ∈ L, p.1 ≠ x → f p.1 p.2 = []) → (L.flatMap fun p => f p.1 p.2) = match lkG L x with | none => [] | some v => f x v
  | [], _, _ => rfl
  | p :: L, nd, h => by
    rw [List.map_cons, List.nodup_cons] at nd
    rw [List.flatMap_cons, pick_flat nd.2 fun q hq => h q (List.mem_cons_of_mem _ hq)]
    show _ = match (if p.1 = x then some p.2 else lkG L x) with | none => [] | some v => f x v
    by_cases e : p.1 = x
    · rw [if_pos e, ← e, lkG_none.mpr nd.1]
      exact List.append_nil _
    · rw [if_neg e, h p List.mem_cons_self e]
      rfl
theorem every_by : ∀ n, ByL rv sw w st n (everyG rv sw w st n)
  | 0 => ⟨List.nodup_cons.mpr ⟨List.not_mem_nil, .nil⟩, fun p hp => by rw [List.mem_singleton.mp hp]; rfl, fun s hs => by
    have : s = [] := List.length_eq_zero_iff.mp hs
    subst this
    exact ⟨rfl, fun h => (nomatch h), fun h => (nomatch h)⟩⟩
  | n + 1 => by
    have ih := every_by n
    obtain ⟨L, hL⟩ : ∃ L, L = everyG rv sw w st n := ⟨_, rfl⟩
    rw [← hL] at ih
    have e0 : everyG rv sw w st (n + 1) = grpG (longZ rv sw w L) := by rw [hL]; rfl
    rw [e0]
    have hz : ∀ p ∈ longZ rv sw w L, p.1.length = n + 1 := fun p hp => by
      obtain ⟨q, hq, hp⟩ := List.mem_flatMap.mp hp
      obtain ⟨e, _, hp⟩ := List.mem_flatMap.mp hp
      obtain ⟨x, _, rfl⟩ := List.mem_map.mp hp
      show (q.1 ++ [_]).length = n + 1
      rw [List.length_append, ih.ln q hq]
      rfl
    refine ⟨grp_nd .nil, fun p hp => ?_, fun s hs => ?_⟩
    · have hk : lkG (grpG (longZ rv sw w L)) p.1 ≠ none := fun h => lkG_none.mp h (List.mem_map.mpr ⟨p, hp, rfl⟩)
      have := (grp_lk p.1 (longZ rv sw w L) []).2
      have h2 : ¬ ∀ q ∈ longZ rv sw w L, q.1 ≠ p.1 := fun h => hk (this.mpr ⟨rfl, h⟩)
      obtain ⟨q, hq⟩ := Classical.not_forall.mp h2
      obtain ⟨h3, h4⟩ := Classical.not_imp.mp hq
      rw [← Classical.not_not.mp h4]
      exact hz q h3
    · have hne : s ≠ [] := fun e => by rw [e] at hs; cases hs
      obtain ⟨s0, q, rfl⟩ : ∃ s0 q, s = s0 ++ [q] := ⟨s.dropLast, s.getLast hne, (List.dropLast_concat_getLast hne).symm⟩
      rw [List.length_append, List.length_singleton] at hs
      obtain ⟨j1, j2⟩ := ih.lk s0 (by omega)
      obtain ⟨g1, g2⟩ := grp_lk (s0 ++ [q]) (longZ rv sw w L) []
      have key : ((longZ rv sw w L).filter fun p => decide (p.1 = s0 ++ [q])).map (·.2) = endsE rv sw w st (s0 ++ [q]) := by
        have h1 : (longZ rv sw w L).filter (fun p => decide (p.1 = s0 ++ [q])) = L.flatMap fun p => (p.2.flatMap fun e => sw.map fun x => (p.1 ++ [shO w (wp rv e x)], wp rv e x)).filter fun p => decide (p.1 = s0 ++ [q]) := flat_filter L
        rw [h1, pick_flat (x := s0) (f := fun k E => (E.flatMap fun e => sw.map fun x => (k ++ [shO w (wp rv e x)], wp rv e x)).filter fun p => decide (p.1 = s0 ++ [q])) ih.nd fun p _ hpn => ?_]
        · rw [endsE_snoc, ← j1]
          have each : ∀ E : List (List Str), ((E.flatMap fun e => sw.map fun x => (s0 ++ [shO w (wp rv e x)], wp rv e x)).filter fun p => decide (p.1 = s0 ++ [q])).map (·.2) = E.flatMap (nbE rv sw w q) := fun E => by
            rw [flat_filter, List.map_flatMap]
            congr 1
            funext e
            unfold nbE
            rw [List.filter_map, List.filter_map, List.map_map]
            have e1 : ((fun p : List (List Str) × List Str => decide (p.1 = s0 ++ [q])) ∘ fun x => (s0 ++ [shO w (wp rv e x)], wp rv e x)) = ((fun a => decide (shO w a = q)) ∘ wp rv e) := by
              funext x
              show decide (s0 ++ [shO w (wp rv e x)] = s0 ++ [q]) = decide (shO w (wp rv e x) = q)
              exact decide_eq_decide.mpr ⟨fun h => by simpa using h, fun h => by rw [h]⟩
            rw [e1]
            rfl
          cases hl : lkG L s0 with
          | none => rfl
          | some E => exact each E
        · rw [List.filter_eq_nil_iff]
          intro r hr hd
          obtain ⟨e, _, hr⟩ := List.mem_flatMap.mp hr
          obtain ⟨x, _, rfl⟩ := List.mem_map.mp hr
          have h5 := of_decide_eq_true hd
          exact hpn (List.append_inj_left' h5 rfl)
      refine ⟨g1.trans (by rw [key]; rfl), g2.trans ?_⟩
      rw [← key]
      constructor
      · rintro ⟨_, h⟩
        rw [List.map_eq_nil_iff, List.filter_eq_nil_iff]
        exact fun p hp hd => h p hp (of_decide_eq_true hd)
      · intro h
        rw [List.map_eq_nil_iff, List.filter_eq_nil_iff] at h
        exact ⟨rfl, fun p hp e => h p hp (decide_eq_true e)⟩
end
end Ob
set_option Elab.async false
set_option linter.all false
set_option maxRecDepth 100000
set_option maxHeartbeats 4000000
/-! Nw: a list of lists, none of which anybody else holds; calls of two that give one, or raise; a told list of such, changed at every depth. -/
namespace Ob
open PySem L2
open Evl (Ex)
open PySem.W (Datum Tup DatumOrd)
/-- v is a list that isn't in H0 -/
def New1 (H0 B : Hp) (v : V) : Prop := ∃ (a : Addr) (ws : List V), v = .ref a ∧ H0 a = none ∧ B a = some (.lst ws) ∧ ws.length ≤ 1000000
theorem New1.mono {H0 B B' : Hp} {v : V} (e : Ex B B') (h : New1 H0 B v) : New1 H0 B' v := by
  obtain ⟨a, ws, h1, h2, h3, h4⟩ := h
  exact ⟨a, ws, h1, h2, e _ _ h3, h4⟩
section
variable {K : PySem.W.Frag} {W0 : List Addr} {B0 H0 H9 : Hp} {os : List OC} {Γ : List (Option Cell)} {σ : L2.St} {B H B1 H1 : Hp} {te ta tb tc td tk tv t1 t2 : TE} {tt tt1 tp : TT} {D : Ends} {tu tw tz tr : TS} {C : Addr} {f : Str}
/-- a reading gives a list of lists that nobody else holds -/
def PeN (K : PySem.W.Frag) (te : TE) (σ : L2.St) (B : Hp) (xs : List (List Str)) : Prop := ∀ H, Ex B H → ∀ Q : VK, (∀ l us B1 H1, Up B H B1 H1 → B1 l = none → H l = none → H1 l = some (.lst us) → AtAll K B1 us xs → (∀ v ∈ us, New1 H B1 v) → Q (.ref l) H1) → te σ H Q
theorem PeN.pe {xs : List (List Str)} (h : PeN K te σ B xs) : Pe K te σ B xs := fun H e Q q => h H e Q fun l us B1 H1 u hb hh hl hA _ => q _ _ _ (up_lst u hb hh hl) (at_list.mpr ⟨l, us, rfl, Evl.sq_of upd_same, hA.mono (Ex.new hb)⟩)
variable {α β γ ε : Type} [Rep α] [Rep β] [Rep γ] [Rep ε] {vs : List V} {Q : VK} {E : XK}
/-- a def of two parameters that gives such a list -/
def FnN2 (K : PySem.W.Frag) (pre : α → β → Prop) (g : α → β → List (List Str)) : Sp := fun vs H Q _ => ∃ x y B, Ex B H ∧ RCons K x (RCons K y RNil) vs B ∧ pre x y ∧ ∀ l us B2 H2, Up B H B2 H2 → B2 l = none → H l = none → H2 l = some (.lst us) → AtAll K B2 us (g x y) → (∀ v ∈ us, New1 H B2 v) → Q (.ref l) H2
theorem FnN2.len {pre : α → β → Prop} {g : α → β → List (List Str)} (vs : List V) (H : Hp) (Q : VK) (E : XK) (h : FnN2 K pre g vs H Q E) : vs.length = 2 := by
  obtain ⟨x, y, B, e, ⟨v, r, rfl, h1, v2, r2, rfl, h2, rfl⟩, _⟩ := h
  rfl
/-- of three parameters -/
def FnN3 (K : PySem.W.Frag) (pre : α → β → γ → Prop) (g : α → β → γ → List (List Str)) : Sp := fun vs H Q _ => ∃ x y z B, Ex B H ∧ RCons K x (RCons K y (RCons K z RNil)) vs B ∧ pre x y z ∧ ∀ l us B2 H2, Up B H B2 H2 → B2 l = none → H l = none → H2 l = some (.lst us) → AtAll K B2 us (g x y z) → (∀ v ∈ us, New1 H B2 v) → Q (.ref l) H2
theorem FnN3.len {pre : α → β → γ → Prop} {g : α → β → γ → List (List Str)} (vs : List V) (H : Hp) (Q : VK) (E : XK) (h : FnN3 K pre g vs H Q E) : vs.length = 3 := by
  obtain ⟨x, y, z, B, e, ⟨v, r, rfl, h1, v2, r2, rfl, h2, v3, r3, rfl, h3, rfl⟩, _⟩ := h
  rfl
/-- of two parameters, or it raises, the field any thing -/
def FnZ2 (K : PySem.W.Frag) (C : Addr) (f : Str) (ok : Sp) (bad : α → β → ε → Prop) : Sp := fun vs H Q E => ok vs H Q E ∨ ∃ x y w B, Ex B H ∧ RCons K x (RCons K y RNil) vs B ∧ bad x y w ∧ ∀ d v B2 H2, Up B H B2 H2 → B2 d = some (.xd [(f, v)]) → Rep.at_ K B2 v w → E (.ref C) (some d) H2
variable {ok : Sp} {bad : α → β → ε → Prop} {w : L2.St → XK}
theorem FnZ2.len (hk : ∀ vs H Q E, ok vs H Q E → vs.length = 2) (vs : List V) (H : Hp) (Q : VK) (E : XK) (h : FnZ2 K C f ok bad vs H Q E) : vs.length = 2 := by
  rcases h with h | ⟨x, y, w, B, e, ⟨v, r, rfl, h1, v2, r2, rfl, h2, rfl⟩, _⟩
  · exact hk vs H Q E h
  · rfl
theorem FnN2.st {pre : α → β → Prop} {g : α → β → List (List Str)} (h : FnN2 K pre g vs H Q E) (N : List Str) : ∃ x y B, pre x y ∧ St K [] B H [] ([ce x, ce y] ++ List.replicate (N.length - 2) none) (start N vs) B H ∧ ∀ l us B2 H2, Up B H B2 H2 → B2 l = none → H l = none → H2 l = some (.lst us) → AtAll K B2 us (g x y) → (∀ v ∈ us, New1 H B2 v) → Q (.ref l) H2 := by
  obtain ⟨x, y, B, e, ⟨v, _, rfl, h1, v2, _, rfl, h2, rfl⟩, hp, q⟩ := h
  exact ⟨x, y, B, hp, St.pure e (start_slots [v, v2] [ce x, ce y] _ (.cons (At1.some h1) (.cons (At1.some h2) .nil))), q⟩
theorem FnN3.st {pre : α → β → γ → Prop} {g : α → β → γ → List (List Str)} (h : FnN3 K pre g vs H Q E) (N : List Str) : ∃ x y z B, pre x y z ∧ St K [] B H [] ([ce x, ce y, ce z] ++ List.replicate (N.length - 3) none) (start N vs) B H ∧ ∀ l us B2 H2, Up B H B2 H2 → B2 l = none → H l = none → H2 l = some (.lst us) → AtAll K B2 us (g x y z) → (∀ v ∈ us, New1 H B2 v) → Q (.ref l) H2 := by
  obtain ⟨x, y, z, B, e, ⟨v, _, rfl, h1, v2, _, rfl, h2, v3, _, rfl, h3, rfl⟩, hp, q⟩ := h
  exact ⟨x, y, z, B, hp, St.pure e (start_slots [v, v2, v3] [ce x, ce y, ce z] _ (.cons (At1.some h1) (.cons (At1.some h2) (.cons (At1.some h3) .nil)))), q⟩
end
end Ob
set_option Elab.async false
set_option linter.all false
set_option maxRecDepth 100000
set_option maxHeartbeats 2000000
/-! Dg: dicts whose keys are tuples of tuples of texts, as data: {k: v}, d[k], d.get(k, x), d[k] = v, {}, for k in d, sorted(d). -/
namespace Ob
open PySem PySem.Spec PyProof.Rows L2
open Evl (Ex)
open PySem.W (Datum Tup DatumOrd)
/-! ### readings of a dict that may be locked -/
structure NAtR (hs : NestedKey → Int) (H : Hp) (a : Addr) (ks : NdL) (k : NestedKey) (b : Addr) : Prop where
  hd : Rd H a (ndO hs a ks)
  hK : NdK H ks
  hk : HasN H k (.ref b)
  dp : k.depth ≤ 8
theorem ndp_rd {P : Program} {w : World} {H : Hp} {h : Heap} {hs : NestedKey → Int} {a : Addr} {ks : NdL} (ok : HOk P w H h) (e : Rd H a (ndO hs a ks)) : NdP hs a ks h := by
  rcases e with e | ⟨o, e⟩
  · exact (show ObjOk P w H h a (ndO hs a ks) from ok a _ e).1
  · exact (show _ ∧ ObjOk P w H h a (ndO hs a ks) from ok a _ e).2.1
theorem nd_dictR {P : Program} {w : World} {H : Hp} {h : Heap} {a : Addr} {ks : NdL} (ok : HOk P w H h) (e : Rd H a (ndO (hashN w) a ks)) (K : NdK H ks) : ks.length ≤ sizeLine ∧ (a == sysModules) = false ∧ ∃ xs, NdV ks xs ∧ h.DictOfH (nestedKind P w) a xs := by
  obtain ⟨z, y, xs, r, o, es, ep, h1, h2, h3, h4⟩ := ndp_rd ok e
  refine ⟨z, y, xs, r, o, es, ep, h1, h2, h3, h4, fun x hx => ?_, by rw [← NdV.keys r]; exact K.nd⟩
  have all : ∀ {l : NdL} {m : List (NestedKey × Addr × Value)}, NdV l m → (∀ p ∈ l, HasN H p.1 (.ref p.2.1) ∧ p.1.depth ≤ 8) → ∀ x ∈ m, (nestedKind P w).is h x.1 x.2.1 := by
    intro l m q hl
    induction q with
    | nil => intro x hx; exact nomatch hx
    | @cons p q ps qs hq t ih =>
      intro x hx
      rcases List.mem_cons.mp hx with e | hx
      · subst e
        obtain ⟨g1, g2⟩ := hl p List.mem_cons_self
        rw [← hq.1, ← hq.2.1]
        exact ⟨HasN.is ok _ _ _ g1 rfl, g2⟩
      · exact ih (fun p hp => hl p (List.mem_cons_of_mem _ hp)) x hx
  exact all r K.at_ x hx
def rIxR (hs : NestedKey → Int) : R2 := fun x y H Q => ∃ a ks k b v, x = .ref a ∧ y = .ref b ∧ NAtR hs H a ks k b ∧ valN ks k = some v ∧ Q v H
def tGetR (hs : NestedKey → Int) (td ty tx : TE) : TE := fun σ H Q => td σ H fun x H1 => ∃ a, x = .ref a ∧ (∃ ks, Rd H1 a (ndO hs a ks)) ∧ ty σ H1 fun y H2 => tx σ H2 fun z H3 => ∃ ks k b, y = .ref b ∧ NAtR hs H3 a ks k b ∧ Q ((valN ks k).getD z) H3
section
variable {X : Cx} {hs : NestedKey → Int} {pos apos cpos : Pos} {e f ob : Expr} {td ty tx : TE}
theorem ix_R (hu : X.A.units + 150 < cLine) (hw : hs = hashN X.w) : IxR X (rIxR hs) := by
  intro value slice pins s σ H x y v u Q I rx ry h hsl
  obtain ⟨a, ks, k, b, z, rfl, rfl, ⟨d, K, hk, dp⟩, hv, q⟩ := h
  obtain rfl : v = Value.ref a := rx
  obtain rfl : u = Value.ref b := ry
  subst hw
  obtain ⟨_, hd, xs, rel, dd⟩ := nd_dictR I.hok d K
  obtain ⟨w', hw', rw'⟩ := RelO.some_of (v := z) (o := (atKey xs k).map (·.2)) (by rw [← hv]; exact rel.val k)
  obtain ⟨p, hp, hp2⟩ := Option.map_eq_some_iff.mp hw'
  refine PyProof.Rows.tail_any dd.typeIs PySem.F.slot_dict_getitem.lookup (wpAny_getItem_heap (knd := nestedKind X.prog X.w) (room_n hu) ⟨HasN.is I.hok _ _ _ hk rfl, dp⟩ dd hp ?_) hsl
  rw [hp2]
  exact ⟨z, H, I.tok _, rw', q⟩
theorem pe_getR (hu : X.A.units + 150 < cLine) (hw : hs = hashN X.w) (ho : PE X ob td) (he : PE X e ty) (hf : PE X f tx) (m : M2 X ob "get" apos e f cpos) : PE X (.Call (.Attribute ob "get" apos) [e, f] [] cpos) (tGetR hs td ty tx) := by
  refine ⟨fun pins s σ H Q I h => ?_⟩
  subst hw
  refine wpAny_Call_method m.base m.few m.line PySem.F.plainAttrs_dict PySem.F.slot_dict_get PySem.F.type_dict_get (thn (ho.run pins s σ H _ I h) fun u s1 ⟨x, H1, I1, rx, a, ex, ⟨ks0, d0⟩, q1⟩ => ?_)
  subst ex
  obtain rfl : u = Value.ref a := rx
  obtain ⟨_, _, xs0, _, o0, es, ep, g1, g2, g3, g4⟩ := ndp_rd I1.hok d0
  refine ⟨⟨o0, g1, g2.1⟩, fun b e => ?_, ?_⟩
  · cases e
    exact ⟨o0, g1, g2.2.1⟩
  rw [m.trees]
  refine Calls.callWith_builtin rfl (Calls.evalArgs_plain (Calls.spliced_cons (thn (he.run pins s1 σ H1 _ I1 q1) fun iv s2 ⟨y, H2, I2, ry, q2⟩ =>
    Calls.spliced_cons (thn (hf.run pins s2 σ H2 _ I2 q2) fun fv s3 ⟨z, H3, I3, rz, ks, k, b, ey, ⟨d, K, hk, dp⟩, q3⟩ => Calls.spliced_nil ?_))))
  subst ey
  obtain rfl : iv = Value.ref b := ry
  obtain ⟨_, hd, xs, rel, dd⟩ := nd_dictR I3.hok d K
  refine call_meetsIn PySem.F.slot_dict_get dd.typeIs PySem.F.entry_dict_get (PySem.F.args_dict_get_3 _ _ _) (meetsH_dict_get_default (nestedKind X.prog X.w) a b hd fv) ⟨?_, k, xs, ⟨HasN.is I3.hok _ _ _ hk rfl, dp⟩, dd, ⟨_, H3, I3.tok _, ?_, q3⟩⟩
  · exact room_n hu
  · exact (rel.val k).getD rz
end
theorem walk_keysN {hs : NestedKey → Int} {d : Addr} {o : Obj} {ks : NdL} : Walk (ItkN hs d o ks) ks.length (fun H => H d = some (.frz o (ndO hs d ks))) (fun i H x H' => H' = H ∧ ∃ p : NestedKey × Addr × V, ks[i]? = some p ∧ x = .ref p.2.1) :=
  ⟨fun _ _ hi q => ⟨q, hi⟩, fun _ q => ⟨q, Nat.le_refl _⟩, fun _ _ _ _ _ _ y => y⟩
/-! ### keys -/
def nkT (a : List Str) : NestedKey := .tup (a.map .text)
def nkL (k : List (List Str)) : NestedKey := .tup (k.map nkT)
abbrev keyN (k : List (List Str)) : Tup (Tup Str) := Tup.mk (k.map Tup.mk)
theorem nk_text : ∀ {a b : List Str}, a.map NestedKey.text = b.map NestedKey.text → a = b
  | [], [], _ => rfl
  | [], _ :: _, e => by simp at e
  | _ :: _, [], e => by simp at e
  | x :: xs, y :: ys, e => by
    rw [List.map_cons, List.map_cons] at e
    injection e with e1 e2
    injection e1 with e1
    rw [e1, nk_text e2]
theorem nkT_inj {a b : List Str} (e : nkT a = nkT b) : a = b := by
  unfold nkT at e
  injection e with e
  exact nk_text e
theorem nk_tups : ∀ {a b : List (List Str)}, a.map nkT = b.map nkT → a = b
  | [], [], _ => rfl
  | [], _ :: _, e => by simp at e
  | _ :: _, [], e => by simp at e
  | x :: xs, y :: ys, e => by
    rw [List.map_cons, List.map_cons] at e
    injection e with e1 e2
    rw [nkT_inj e1, nk_tups e2]
theorem nkL_inj {a b : List (List Str)} (e : nkL a = nkL b) : a = b := by
  unfold nkL at e
  injection e with e
  exact nk_tups e
theorem nk_d1 : ∀ a : List Str, NestedKey.depthAll (a.map .text) = 0
  | [] => rfl
  | x :: xs => by
    rw [List.map_cons]
    show max (NestedKey.depth (.text x)) (NestedKey.depthAll (xs.map .text)) = 0
    rw [nk_d1 xs]
    rfl
theorem nk_d2 : ∀ a : List (List Str), NestedKey.depthAll (a.map nkT) ≤ 1
  | [] => Nat.zero_le _
  | x :: xs => by
    rw [List.map_cons]
    show max (NestedKey.depthAll (x.map .text) + 1) (NestedKey.depthAll (xs.map nkT)) ≤ 1
    rw [nk_d1 x]
    have := nk_d2 xs
    omega
theorem nkL_depth (k : List (List Str)) : (nkL k).depth ≤ 8 := by
  show NestedKey.depthAll (k.map nkT) + 1 ≤ 8
  have := nk_d2 k
  omega
theorem nk_strs {H : Hp} : ∀ a : List Str, HasNs H (a.map .text) (a.map V.str)
  | [] => .nil
  | x :: xs => .cons (.text x) (nk_strs xs)
theorem nk_tup {K : PySem.W.Frag} {B : Hp} {v : V} {x : List Str} (h : Rep.at_ K B v (Tup.mk x)) : HasN B (nkT x) v := by
  obtain ⟨a, vs, rfl, h1, h2⟩ := at_tup.mp h
  rw [atAll_strs h2] at h1
  exact .tup h1 (nk_strs _)
theorem nk_all {K : PySem.W.Frag} {B : Hp} : ∀ {vs : List V} {k : List (List Str)}, AtAll K B vs (k.map Tup.mk) → HasNs B (k.map nkT) vs
  | _, [], h => by cases h; exact .nil
  | _, x :: xs, h => by
    rw [List.map_cons] at h
    cases h with
    | cons a t => exact .cons (nk_tup a) (nk_all t)
theorem nk_has {K : PySem.W.Frag} {B : Hp} {v : V} {k : List (List Str)} (h : Rep.at_ K B v (keyN k)) : ∃ q, v = .ref q ∧ HasN B (nkL k) (.ref q) := by
  obtain ⟨a, vs, rfl, h1, h2⟩ := at_tup.mp h
  exact ⟨a, rfl, .tup h1 (nk_all h2)⟩
/-! ### the dict as data -/
section
variable {α : Type} [Rep α] {K : PySem.W.Frag} {hs : NestedKey → Int}
structure DicN (hs : NestedKey → Int) (α : Type) where
  kvs : List (List (List Str) × α)
def DicNAt (K : PySem.W.Frag) (H : Hp) (ks : NdL) (L : List (List (List Str) × α)) : Prop := Paired (fun (p : NestedKey × Addr × V) (q : List (List Str) × α) => p.1 = nkL q.1 ∧ Rep.at_ K H (.ref p.2.1) (keyN q.1) ∧ Rep.at_ K H p.2.2 q.2) ks L
theorem DicNAt.monoR {H H' : Hp} {ks : NdL} {L : List (List (List Str) × α)} (e : ExR H H') (h : DicNAt K H ks L) : DicNAt K H' ks L := Paired.mapP h fun _ _ h => ⟨h.1, Rep.monoR e h.2.1, Rep.monoR e h.2.2⟩
theorem DicNAt.mono {H H' : Hp} {ks : NdL} {L : List (List (List Str) × α)} (e : Ex H H') (h : DicNAt K H ks L) : DicNAt K H' ks L := DicNAt.monoR (ExR.of e) h
instance : Rep (DicN hs α) := ⟨fun K H v d => ∃ a ks, v = .ref a ∧ Rd H a (ndO hs a ks) ∧ ks.length ≤ 1000000 ∧ DicNAt K H ks d.kvs ∧ (d.kvs.map fun q : List (List Str) × α => q.1).Nodup,
  fun e ⟨a, ks, h1, h2, hz, h3, h4⟩ => ⟨a, ks, h1, e.1 a _ rfl h2, hz, DicNAt.monoR e h3, h4⟩⟩
theorem dnAt_keys {H : Hp} {ks : NdL} {L : List (List (List Str) × α)} (h : DicNAt K H ks L) : ks.map (·.1) = (L.map (·.1)).map nkL := by
  unfold DicNAt at h
  induction h with
  | nil => rfl
  | cons a t ih => rw [List.map_cons, List.map_cons, List.map_cons, ih, a.1]
theorem dnAt_len {H : Hp} {ks : NdL} {L : List (List (List Str) × α)} (h : DicNAt K H ks L) : ks.length = L.length := Paired.length h
theorem nodup_nk : ∀ {l : List (List (List Str))}, l.Nodup → (l.map nkL).Nodup
  | [], _ => .nil
  | x :: xs, h => by
    rw [List.nodup_cons] at h
    rw [List.map_cons, List.nodup_cons]
    refine ⟨fun z => ?_, nodup_nk h.2⟩
    obtain ⟨y, hy, e⟩ := List.mem_map.mp z
    rw [nkL_inj e] at hy
    exact h.1 hy
theorem dnAt_K {B H : Hp} {ks : NdL} {L : List (List (List Str) × α)} (h : DicNAt K B ks L) (e : Ex B H) (nd : (L.map (·.1)).Nodup) : NdK H ks := ⟨fun p hp => by
  have key : ∀ {ks : NdL} {L : List (List (List Str) × α)}, DicNAt K B ks L → p ∈ ks → HasN B p.1 (.ref p.2.1) ∧ p.1.depth ≤ 8 := fun {ks L} h => by
    unfold DicNAt at h
    induction h with
    | nil => exact fun h => nomatch h
    | cons a t ih =>
      intro hp
      rcases List.mem_cons.mp hp with e | hp
      · subst e
        rw [a.1]
        obtain ⟨q, e1, e2⟩ := nk_has a.2.1
        rw [e1]
        exact ⟨e2, nkL_depth _⟩
      · exact ih hp
  obtain ⟨h1, h2⟩ := key h hp
  exact ⟨HasN.mono (fun a us h => e a _ h) _ _ h1, h2⟩, by rw [dnAt_keys h]; exact nodup_nk nd⟩
theorem dnAt_get {H : Hp} {ks : NdL} {L : List (List (List Str) × α)} (h : DicNAt K H ks L) (x : List (List Str)) : (lkG L x = none ∧ valN ks (nkL x) = none) ∨ ∃ y v, lkG L x = some y ∧ valN ks (nkL x) = some v ∧ Rep.at_ K H v y := by
  unfold DicNAt at h
  induction h with
  | nil => exact .inl ⟨rfl, rfl⟩
  | @cons p q ps qs a t ih =>
    show ((if q.1 = x then some q.2 else lkG qs x) = none ∧ (if p.1 = nkL x then some p.2.2 else valN ps (nkL x)) = none) ∨ ∃ y v, (if q.1 = x then some q.2 else lkG qs x) = some y ∧ (if p.1 = nkL x then some p.2.2 else valN ps (nkL x)) = some v ∧ _
    by_cases e : q.1 = x
    · rw [if_pos e, if_pos (by rw [a.1, e])]
      exact .inr ⟨q.2, p.2.2, rfl, rfl, a.2.2⟩
    · rw [if_neg e, if_neg (fun z => e (nkL_inj (a.1.symm.trans z)))]
      exact ih
theorem dnAt_put {H : Hp} {ks : NdL} {L : List (List (List Str) × α)} (h : DicNAt K H ks L) {x : List (List Str)} {b : Addr} {v : V} {y : α} (hb : Rep.at_ K H (.ref b) (keyN x)) (hv : Rep.at_ K H v y) : DicNAt K H (putN ks (nkL x) b v) (putG L x y) := by
  have hk := dnAt_keys h
  have e1 : (nkL x ∈ ks.map (·.1)) = (x ∈ L.map (·.1)) := by
    rw [hk]
    refine propext ⟨fun z => ?_, fun z => List.mem_map.mpr ⟨x, z, rfl⟩⟩
    obtain ⟨y, hy, e⟩ := List.mem_map.mp z
    rw [nkL_inj e] at hy
    exact hy
  unfold putN putG
  by_cases hx : x ∈ L.map (·.1)
  · rw [if_pos hx, if_pos (by rw [e1]; exact hx)]
    clear hx e1 hk
    unfold DicNAt at h ⊢
    induction h with
    | nil => exact .nil
    | @cons p q ps qs a t ih =>
      rw [List.map_cons, List.map_cons]
      refine .cons ?_ ih
      by_cases e : q.1 = x
      · rw [if_pos e, if_pos (by rw [a.1, e])]
        exact ⟨a.1, a.2.1, hv⟩
      · rw [if_neg e, if_neg (fun z => e (nkL_inj (a.1.symm.trans z)))]
        exact a
  · rw [if_neg hx, if_neg (by rw [e1]; exact hx)]
    exact Paired.snoc h ⟨rfl, hb, hv⟩
def dnvC (K : PySem.W.Frag) (hs : NestedKey → Int) (l : Addr) (L : List (List (List Str) × α)) : OC := ⟨l, fun B o => ∃ ks, o = ndO hs l ks ∧ DicNAt K B ks L ∧ ks.length ≤ 1000000 ∧ (L.map fun q : List (List Str) × α => q.1).Nodup, fun e ⟨ks, h1, h2, h3⟩ => ⟨ks, h1, DicNAt.mono e h2, h3⟩⟩
theorem rm_dnv {l : Addr} {L : List (List (List Str) × α)} : RMono (dnvC K hs l L) := fun e ⟨ks, h1, h2, h3⟩ => ⟨ks, h1, DicNAt.monoR e h2, h3⟩
theorem exr_lockN {H : Hp} {d : Addr} {o : Obj} {ks : NdL} (h : H d = some (ndO hs d ks)) : ExR H (upd H d (.frz o (ndO hs d ks))) := ⟨fun a u hp hr => by
  by_cases ha : a = d
  · subst ha
    rcases hr with hr | ⟨o', hr⟩
    · rw [h] at hr
      cases hr
      exact .inr ⟨o, upd_same⟩
    · rw [h] at hr
      cases hr
  · rcases hr with hr | ⟨o', hr⟩
    · exact .inl (by rw [upd_ne ha]; exact hr)
    · exact .inr ⟨o', by rw [upd_ne ha]; exact hr⟩, fun a us ha => by
  have hne : a ≠ d := fun z => by rw [z, h] at ha; cases ha
  rw [upd_ne hne]
  exact ha, fun a _ _ _ ha => by
  have hne : a ≠ d := fun z => by rw [z, h] at ha; cases ha
  rw [upd_ne hne]
  exact ha⟩
end
section
variable {α : Type} [Rep α] {hs : NestedKey → Int}
variable {K : PySem.W.Frag} {W0 : List Addr} {B0 H0 : Hp} {os : List OC} {Γ : List (Option Cell)} {σ : L2.St} {B B' H B1 H1 : Hp} {te ta tb tc td tk tv : TE} {tt tt1 : TT} {D : Ends} {tu tw tz : TS}
theorem e_ixR {L : List (List (List Str) × α)} {k : List (List Str)} {y : α} (h1 : Pe K ta σ B (DicN.mk L : DicN hs α)) (h2 : Pe K tb σ B (keyN k)) (hl : lkG L k = some y) : Pe K (tOp (rIxR hs) ta tb) σ B y := fun H e Q q => h1 H e _ fun v B1 H1 u1 hv => (h2.mono u1.bb) H1 u1.bh _ fun w B2 H2 u2 hw => by
  obtain ⟨a, ks, rfl, hr, hz, hd, nd⟩ := Rep.mono u2.bb hv
  obtain ⟨b, rfl, hk⟩ := nk_has hw
  rcases dnAt_get hd k with ⟨g1, _⟩ | ⟨y', v', g1, g2, g3⟩
  · rw [g1] at hl; cases hl
  · rw [g1] at hl
    cases hl
    exact ⟨a, ks, nkL k, b, v', rfl, rfl, ⟨Evl.ex_rd u2.bh hr, dnAt_K hd u2.bh nd, HasN.mono (fun a us h => u2.bh a _ h) _ _ hk, nkL_depth k⟩, g2, q v' B2 H2 (u1.trans u2) g3⟩
theorem e_getR {L : List (List (List Str) × α)} {k : List (List Str)} {y : α} (h1 : Pe K ta σ B (DicN.mk L : DicN hs α)) (h2 : Pe K tb σ B (keyN k)) (h3 : Pe K tc σ B y) : Pe K (tGetR hs ta tb tc) σ B ((lkG L k).getD y) := fun H e Q q => h1 H e _ fun v B1 H1 u1 hv => by
  obtain ⟨a, ks, rfl, hr, hz, hd, nd⟩ := hv
  refine ⟨a, rfl, ⟨ks, Evl.ex_rd u1.bh hr⟩, (h2.mono u1.bb) H1 u1.bh _ fun w B2 H2 u2 hw => (h3.mono (u1.bb.trans u2.bb)) H2 u2.bh _ fun z B3 H3 u3 hz3 => ?_⟩
  obtain ⟨b, rfl, hk⟩ := nk_has hw
  have b23 : Ex B2 H3 := u3.bb.trans u3.bh
  have b13 : Ex B1 B3 := u2.bb.trans u3.bb
  refine ⟨ks, nkL k, b, rfl, ⟨Evl.ex_rd (b13.trans u3.bh) hr, dnAt_K hd (b13.trans u3.bh) nd, HasN.mono (fun a us h => b23 a _ h) _ _ hk, nkL_depth k⟩, q _ B3 H3 ((u1.trans u2).trans u3) ?_⟩
  rcases dnAt_get (hd.mono b13) k with ⟨g1, g2⟩ | ⟨y', v', g1, g2, g3⟩
  · rw [g1, g2]; exact hz3
  · rw [g1, g2]; exact g3
/-- {k: v} -/
theorem e_disp1N {k : List (List Str)} {y : α} (h1 : Pe K ta σ B (keyN k)) (h2 : ∀ B', Ex B B' → Pe K tb σ B' y) : Pe K (tDisp1N hs ta tb) σ B (DicN.mk [(k, y)] : DicN hs α) := fun H e Q q p hp => by
  have s1 : Ex B (upd H p (ndO hs p [])) := ex_upd e (Evl.fresh_back e hp)
  refine h1 _ s1 _ fun v B2 H2 u2 hv => (h2 B2 u2.bb) H2 u2.bh _ fun w B3 H3 u3 hw => ?_
  obtain ⟨b, rfl, hkey⟩ := nk_has hv
  have u := u2.trans u3
  have hp3 : H3 p = some (ndO hs p []) := u.hh p _ upd_same
  have hB3 : B3 p = none := by
    cases z : B3 p with
    | none => rfl
    | some o =>
      rcases u.nw p (by rw [z]; exact fun z => nomatch z) with k | k
      · exact absurd (Evl.fresh_back e hp) k
      · rw [upd_same] at k
        cases k
  have b3 : Ex B3 (upd B3 p (ndO hs p [(nkL k, b, w)])) := Ex.new hB3
  refine ⟨b, nkL k, rfl, HasN.mono (fun a us h => (u3.bb.trans u3.bh) a _ h) _ _ hkey, nkL_depth k, hp3, q _ (upd B3 p (ndO hs p [(nkL k, b, w)])) _ ⟨u.bb.trans b3, fun a o ha => ?_, fun a o ha => ?_, fun a ha => ?_⟩ ⟨p, _, rfl, .inl upd_same, by show 1 ≤ 1000000; decide, .cons ⟨rfl, Rep.mono (u3.bb.trans b3) hv, Rep.mono b3 hw⟩ .nil, by simp⟩⟩
  · by_cases z : a = p
    · subst z; rw [upd_same] at ha ⊢; exact ha
    · rw [upd_ne z] at ha ⊢; exact u.bh a o ha
  · by_cases z : a = p
    · subst z; rw [hp] at ha; cases ha
    · rw [upd_ne z]; exact u.hh a o (by rw [upd_ne z]; exact ha)
  · by_cases z : a = p
    · subst z; exact .inr hp
    · rw [upd_ne z] at ha
      rcases u.nw a ha with k | k
      · exact .inl k
      · exact .inr (by rw [upd_ne z] at k; exact k)
theorem it_keysN {i : Nat} {a : Addr} {od : Obj} {ks : NdL} {L : List (List (List Str) × α)} (hv : σ[i]? = some (some (.ref a))) (hB : B a = some (.frz od (ndO hs a ks))) (hd : DicNAt K B ks L) : ItD K (iKeysN hs (tVar i)) σ B (L.map fun p => keyN p.1) := fun H e R q => by
  have el : ks.length = (L.map fun p => keyN p.1).length := by rw [List.length_map]; exact dnAt_len hd
  refine ⟨.ref a, hv, a, od, ks, rfl, e a _ hB, ?_⟩
  refine q (ItkN hs a od ks) B H (fun H => H a = some (.frz od (ndO hs a ks))) _ (Up.refl e) (by rw [← el]; exact walk_keysN) (fun H' e' => e' a _ hB) fun j x Hx H' hj ex y => ?_
  obtain ⟨rfl, p, hp, rfl⟩ := y
  have key : ∀ {ks : NdL} {L : List (List (List Str) × α)}, DicNAt K B ks L → ∀ j : Nat, ks[j]? = some p → ∃ d, (L.map fun p => keyN p.1)[j]? = some d ∧ Rep.at_ K B (.ref p.2.1) d := fun {ks L} h => by
    unfold DicNAt at h
    induction h with
    | nil => intro j h; cases h
    | @cons a b as bs h1 _ ih =>
      intro j h
      cases j with
      | zero => cases h; exact ⟨_, rfl, h1.2.1⟩
      | succ j => exact ih j h
  obtain ⟨d, h1, h2⟩ := key hd j hp
  exact ⟨d, h1, fun B' b1 b2 => ⟨B', Up.refl b2, Rep.mono b1 h2⟩⟩
/-- sorted(d) -/
theorem e_sortN {L : List (List (List Str) × α)} (h : Pe K te σ B (DicN.mk L : DicN hs α)) : Pe K (tCB (rSortN hs K (Tup Str)) (tCons te tNil)) σ B (sortD (L.map fun p => keyN p.1)) := fun H e Q q => h H e _ fun v B1 H1 u hv => by
  obtain ⟨a, ks, rfl, hr, hz, hd, nd⟩ := hv
  refine ⟨a, ks, L.map fun p => keyN p.1, B1, rfl, u.bh, Evl.ex_rd u.bh hr, ?_, by rw [List.length_map, ← dnAt_len hd]; exact hz, fun qs p hq hp => ?_⟩
  · have key : ∀ {ks : NdL} {L : List (List (List Str) × α)}, DicNAt K B1 ks L → Paired (fun (p : NestedKey × Addr × V) (z : Tup (Tup Str)) => Rep.at_ K B1 (.ref p.2.1) z) ks (L.map fun p => keyN p.1) := fun {ks L} h => by
      unfold DicNAt at h
      induction h with
      | nil => exact .nil
      | cons a t ih => exact .cons a.2.1 ih
    exact key hd
  · have u2 := Up.new (o := .lst (qs.map V.ref)) u.bh hp
    refine q (.ref p) _ _ (u.trans u2) (at_list.mpr ⟨p, _, rfl, Evl.sq_of upd_same, ?_⟩)
    have key : ∀ {qs : List Addr} {zs : List (Tup (Tup Str))}, Paired (fun (q : Addr) (z : Tup (Tup Str)) => Rep.at_ K B1 (.ref q) z) qs zs → AtAll K (upd B1 p (.lst [])) [] ([] : List (Tup (Tup Str))) → ∀ {B'}, Ex B1 B' → AtAll K B' (qs.map V.ref) zs := fun {qs zs} h _ {B'} b => by
      induction h with
      | nil => exact .nil
      | cons a t ih => exact .cons (Rep.mono b a) ih
    exact key hq .nil u2.bb
theorem St.newN {i : Nat} (s : St K W0 B0 H0 os Γ σ B H) (α : Type) [Rep α] (k : ∀ l σ1 H1, St K W0 B0 H0 (os ++ [dnvC K hs l ([] : List (List (List Str) × α))]) (cs Γ i (ca l)) σ1 B H1 → tz D σ1 H1) : tSeq (tAsg (tDNewN hs) (gName i)) tz D σ H := fun p hp =>
  k p _ _ (St.put (s.add (ob := ndO hs p []) hp (dnvC K hs p ([] : List (List (List Str) × α))) rfl ⟨[], rfl, .nil, Nat.zero_le _, .nil⟩) i rfl)
theorem St.dnv {k : Nat} {l : Addr} {L : List (List (List Str) × α)} (s : St K W0 B0 H0 os Γ σ B H) (h : os[k]? = some (dnvC K hs l L)) : B l = none ∧ ∃ ks, H l = some (ndO hs l ks) ∧ DicNAt K B ks L ∧ ks.length ≤ 1000000 ∧ (L.map (·.1)).Nodup := by
  obtain ⟨h1, _, ob, h3, ks, rfl, h4⟩ := s.own _ (List.mem_of_getElem? h)
  exact ⟨h1, ks, h3, h4⟩
/-- frozen from here on -/
theorem St.frzN {i k : Nat} {l : Addr} {d : List (List (List Str) × α)} (s : St K W0 B0 H0 os Γ σ B H) (h : os[k]? = some (dnvC K hs l d)) (hi : cg Γ i = ca l) (hw : l ∉ W0) : ∃ B1, Ex B B1 ∧ St K W0 B0 H0 (os.eraseIdx k) (cs Γ i (ce ((DicN.mk d : DicN hs α)))) σ B1 H := by
  obtain ⟨hb, ks, hl, hk, hz, hnd⟩ := s.dnv h
  have e : Ex B (upd B l (ndO hs l ks)) := Ex.new hb
  have s2 : Slots K (upd B l (ndO hs l ks)) σ (cs Γ i (ce ((DicN.mk d : DicN hs α)))) := (s.sl.mono e).re (s.sl.rf i hi) ⟨l, ks, rfl, .inl upd_same, hz, hk.mono e, hnd⟩
  have h0 : H0 l = none := by
    rcases (s.own _ (List.mem_of_getElem? h)).2.1 with z | z
    · exact absurd z hw
    · exact z
  refine ⟨_, e, s.bb.trans e, ex_in s.bh hl, s.hh, s.dm, fun a ha => ?_, fun o ho => ?_, s.nd.sublist ((List.eraseIdx_sublist os k).map _), s2⟩
  · by_cases z : a = l
    · exact .inr (z ▸ h0)
    · rw [upd_ne z] at ha
      exact s.nw a ha
  · obtain ⟨g1, g2, w, g3, g4⟩ := s.own o ((List.eraseIdx_sublist os k).subset ho)
    have ne : o.l ≠ l := by
      intro z
      obtain ⟨j, hj, hjk⟩ : ∃ j, os[j]? = some o ∧ j ≠ k := by
        obtain ⟨j, hj⟩ := List.getElem?_of_mem ho
        rw [List.getElem?_eraseIdx] at hj
        split at hj
        · next hlt => exact ⟨j, hj, Nat.ne_of_lt hlt⟩
        · next hge => exact ⟨j + 1, hj, by omega⟩
      have e1 : (os.map (·.l))[k]? = some l := by rw [List.getElem?_map, h]; rfl
      have e2 : (os.map (·.l))[j]? = some l := by rw [List.getElem?_map, hj, ← z]; rfl
      exact hjk ((List.getElem?_inj (List.getElem?_eq_some_iff.mp e2).1 s.nd).mp (e2.trans e1.symm))
    exact ⟨by rw [upd_ne ne]; exact g1, g2, w, g3, o.mono e g4⟩
/-- a statement under the lock of a dict with nested keys -/
theorem St.lockN {m : Nat} {dd : DicN hs α} (s : St K W0 B0 H0 os Γ σ B H) (hm : cg Γ m = ce dd) (hR : ∀ o ∈ os, RMono o) (P : L2.St → List OC → List (Option Cell) → Prop)
    (h : ∀ Bl Hl, ItD K (iKeysN hs (tVar m)) σ Bl (dd.kvs.map fun p => keyN p.1) → St K (os.map (·.l)) Bl Hl os Γ σ Bl Hl → ∀ D' : Ends, (∀ {os' : List OC} {Γ' : List (Option Cell)} {σ' : L2.St} {B' H' : Hp}, P σ' os' Γ' → os'.map (·.l) = os.map (·.l) → (∀ o ∈ os', RMono o) → St K (os.map (·.l)) Bl Hl os' Γ' σ' B' H' → D'.nx σ' H') → tu D' σ Hl)
    (k : ∀ os' Γ' σ' B1 H1, P σ' os' Γ' → St K W0 B0 H0 os' Γ' σ' B1 H1 → tz D σ' H1) : tSeq (tLockOS tu) tz D σ H := by
  obtain ⟨v, hv, a, ks, rfl, hr, hz, hd, hnd⟩ := s.sl.get hm
  have second : ∀ {os' : List OC}, os'.map (·.l) = os.map (·.l) → ∀ o ∈ os', o.l ∈ W0 ∨ H0 o.l = none := fun {os'} hl o ho => by
    have : o.l ∈ os.map (·.l) := hl ▸ List.mem_map.mpr ⟨o, ho, rfl⟩
    obtain ⟨o2, ho2, e⟩ := List.mem_map.mp this
    rw [← e]
    exact (s.own o2 ho2).2.1
  rcases hr with hB | ⟨o, hB⟩
  · have hHa : H a = some (ndO hs a ks) := s.bh a _ hB
    refine .inl ⟨a, ndO hs a ks, hHa, trivial, fun od => ?_⟩
    have sl2 := s.sl.monoR (exr_lockN (o := od) hB)
    have hne : ∀ o ∈ os, o.l ≠ a := fun o ho e => by
      have := (s.own o ho).1
      rw [e, hB] at this
      cases this
    have s1 : St K (os.map (·.l)) (upd B a (.frz od (ndO hs a ks))) (upd H a (.frz od (ndO hs a ks))) os Γ σ (upd B a (.frz od (ndO hs a ks))) (upd H a (.frz od (ndO hs a ks))) := by
      refine ⟨Ex.refl _, fun x o hx => ?_, fun _ _ _ h => h, fun _ h => h, fun _ h => .inl h, fun o ho => ?_, s.nd, sl2⟩
      · by_cases e : x = a
        · subst e
          rw [upd_same] at hx ⊢
          exact hx
        · rw [upd_ne e] at hx ⊢
          exact s.bh x o hx
      · obtain ⟨h1, _, ob, h3, h4⟩ := s.own o ho
        exact ⟨by rw [upd_ne (hne o ho)]; exact h1, .inl (List.mem_map.mpr ⟨o, ho, rfl⟩), ob, by rw [upd_ne (hne o ho)]; exact h3, hR o ho (exr_lockN hB) h4⟩
    refine h _ _ (it_keysN hv upd_same (DicNAt.monoR (exr_lockN hB) hd)) s1 _ fun {os' Γ' σ' B' H'} hP hl hR' s2 => ?_
    have hB' : B' a = some (.frz od (ndO hs a ks)) := s2.bb a _ upd_same
    have hH' : H' a = some (.frz od (ndO hs a ks)) := s2.bh a _ hB'
    refine ⟨hH', k os' Γ' σ' (upd B' a (ndO hs a ks)) (upd H' a (ndO hs a ks)) hP ⟨fun x o hx => ?_, fun x o hx => ?_, fun x u hx hu => ?_, fun x hx => ?_, fun x hx => ?_, fun o ho => ?_, s2.nd, s2.sl.monoR (exr_unlock hB')⟩⟩
    · have h1 := s.bb x o hx
      by_cases e : x = a
      · subst e
        rw [upd_same, ← hB]
        exact h1
      · rw [upd_ne e]
        exact s2.bb x o (by rw [upd_ne e]; exact h1)
    · by_cases e : x = a
      · subst e
        rw [upd_same] at hx ⊢
        exact hx
      · rw [upd_ne e] at hx ⊢
        exact s2.bh x o hx
    · have h1 := s.hh x u hx hu
      by_cases e : x = a
      · subst e
        rw [upd_same, ← hHa]
        exact h1
      · rw [upd_ne e]
        refine s2.hh x u (fun z => ?_) (by rw [upd_ne e]; exact h1)
        obtain ⟨o, ho, e2⟩ := List.mem_map.mp z
        rcases (s.own o ho).2.1 with w | w
        · exact hx (e2 ▸ w)
        · rw [e2, hu] at w
          cases w
    · by_cases e : x = a
      · subst e
        rw [upd_same]
        exact fun z => nomatch z
      · rw [upd_ne e]
        exact s2.dm x (by rw [upd_ne e]; exact s.dm x hx)
    · by_cases e : x = a
      · subst e
        exact s.nw x (by rw [hB]; exact fun z => nomatch z)
      · rw [upd_ne e] at hx
        rcases s2.nw x hx with z | z
        · rw [upd_ne e] at z
          exact s.nw x z
        · rw [upd_ne e] at z
          cases q : H0 x with
          | none => exact .inr rfl
          | some o => exact absurd z (s.dm x (by rw [q]; exact fun z => nomatch z))
    · obtain ⟨h1, _, ob, h3, h4⟩ := s2.own o ho
      have hne' : o.l ≠ a := fun e => by
        rw [e, hB'] at h1
        cases h1
      exact ⟨by rw [upd_ne hne']; exact h1, second hl o ho, ob, by rw [upd_ne hne']; exact h3, hR' o ho (exr_unlock hB') h4⟩
  · refine .inr (h B H (it_keysN hv hB hd) s.here _ fun {os' Γ' σ' B' H'} hP hl _ s2 => ?_)
    refine k os' Γ' σ' B' H' hP ⟨s.bb.trans s2.bb, s2.bh, fun x u hx hu => s2.hh x u (fun z => ?_) (s.hh x u hx hu), fun x hx => s2.dm x (s.dm x hx), fun x hx => ?_, fun o ho => ?_, s2.nd, s2.sl⟩
    · obtain ⟨o2, ho2, e2⟩ := List.mem_map.mp z
      rcases (s.own o2 ho2).2.1 with w | w
      · exact hx (e2 ▸ w)
      · rw [e2, hu] at w
        cases w
    · rcases s2.nw x hx with z | z
      · exact s.nw x z
      · cases q : H0 x with
        | none => exact .inr rfl
        | some o => exact absurd z (s.dm x (by rw [q]; exact fun z => nomatch z))
    · obtain ⟨h1, _, h3⟩ := s2.own o ho
      exact ⟨h1, second hl o ho, h3⟩
end
section
variable {β : Type} [DecidableEq β] [Datum β] {hs : NestedKey → Int}
variable {K : PySem.W.Frag} {W0 : List Addr} {B0 H0 : Hp} {os : List OC} {Γ : List (Option Cell)} {σ : L2.St} {B B' H B1 H1 : Hp} {te ta tb tc td tk tv : TE} {D : Ends}
/-- d[k] = d.get(k, []) + [x] -/
theorem St.addN {i j k : Nat} {l : Addr} {L : List (List (List Str) × List β)} {key : List (List Str)} {x : β} (s : St K W0 B0 H0 os Γ σ B H) (h : os[k]? = some (dnvC K hs l L)) (hi : cg Γ i = ca l) (hj : cg Γ j = ce (keyN key)) (hy : Pe K te σ B x) (hz : L.length < 1000000) (hz2 : ((lkG L key).getD []).length < 1000000)
    (q : ∀ B1 H1, St K W0 B0 H0 (os.set k (dnvC K hs l (addG L (key, x)))) Γ σ B1 H1 → D.nx σ H1) : tAsg (tOp (rAddU K) (tGetR hs (tVar i) (tVar j) (tLst tNil)) (tLst (tCons te tNil))) (gSub (tVar i) (tVar j) (rSetN hs)) D σ H := by
  obtain ⟨hb, ks, hl, hk, hkz, hnd⟩ := s.dnv h
  obtain ⟨w, hw, hx⟩ := s.sl.get hj
  obtain ⟨b, rfl, hkey⟩ := nk_has hx
  refine ⟨_, s.sl.rf i hi, l, rfl, ⟨ks, .inl hl⟩, _, hw, ?_⟩
  refine (e_lst0 (α := β) (K := K) (σ := σ) (B := B)) H s.bh _ fun z B1 H1 u1 hz1 => ?_
  have s1 := s.up u1
  have hl1 : H1 l = some (ndO hs l ks) := u1.hh l _ hl
  refine ⟨ks, nkL key, b, rfl, ⟨.inl hl1, dnAt_K hk (u1.bb.trans u1.bh) hnd, HasN.mono (fun a us h => u1.hh a _ (s.bh a _ h)) _ _ hkey, nkL_depth key⟩, ?_⟩
  obtain ⟨v0, hv0, hat⟩ : ∃ v0, (valN ks (nkL key)).getD z = v0 ∧ Rep.at_ K B1 v0 ((lkG L key).getD []) := by
    rcases dnAt_get (hk.mono u1.bb) key with ⟨g1, g2⟩ | ⟨y', v', g1, g2, g3⟩
    · rw [g1, g2]; exact ⟨_, rfl, hz1⟩
    · rw [g1, g2]; exact ⟨_, rfl, g3⟩
  rw [hv0]
  have key2 : tOp (rAddU K) (tC v0) (tLst (tCons te tNil)) σ H1 (fun v H2 => (gSub (tVar i) (tVar j) (rSetN hs)) v σ H2 D.nx) := (e_addL (e_const hat) (e_lst1 (hy.mono u1.bb)) (by show _ + 1 ≤ _; omega)) H1 s1.bh _ fun v B2 H2 u2 hv => by
    have s2 := s1.up u2
    have hl2 : H2 l = some (ndO hs l ks) := u2.hh l _ hl1
    have b02 : Ex B B2 := u1.bb.trans u2.bb
    have hk2 := hk.mono b02
    have kk : HasN H2 (nkL key) (.ref b) := HasN.mono (fun a us h => u2.hh a _ (u1.hh a _ (s.bh a _ h))) _ _ hkey
    have hlen := dnAt_len hk
    refine ⟨_, s2.sl.rf i hi, _, hw, l, ks, nkL key, b, rfl, rfl, ⟨hl2, dnAt_K hk2 s2.bh hnd, kk, nkL_depth key⟩, by rw [sizeLine_eq]; omega, ?_⟩
    refine q B2 _ (s2.chg (ob := ndO hs l (putN ks (nkL key) b v)) h rfl ⟨_, rfl, dnAt_put hk2 (Rep.mono b02 hx) hv, ?_, putG_nd hnd⟩)
    have : (putN ks (nkL key) b v).length ≤ ks.length + 1 := by
      unfold putN
      split
      · rw [List.length_map]; omega
      · rw [List.length_append]; exact Nat.le_refl _
    omega
  exact key2
end
end Ob
set_option Elab.async false
set_option linter.all false
set_option maxRecDepth 100000
set_option maxHeartbeats 1000000
/-! M51: how much is gathered; gathering values under a map. Plain (k83). -/
namespace Ob
open PySem L2
section
variable {κ α β : Type} [DecidableEq κ]
def totG (d : List (κ × List α)) : Nat := (d.map fun p => p.2.length).sum
def mapG (f : α → β) (d : List (κ × List α)) : List (κ × List β) := d.map fun p => (p.1, p.2.map f)
theorem addG_len {d : List (κ × List α)} {p : κ × α} : (addG d p).length ≤ d.length + 1 := by
  unfold addG putG
  split
  · rw [List.length_map]; omega
  · rw [List.length_append]; exact Nat.le_refl _
theorem grp_len {Z : List (κ × α)} : ∀ {d : List (κ × List α)}, (Z.foldl addG d).length ≤ d.length + Z.length := by
  induction Z with
  | nil => exact fun {d} => Nat.le_refl _
  | cons p Z ih =>
    intro d
    rw [List.foldl_cons, List.length_cons]
    have h1 := ih (d := addG d p)
    have h2 := addG_len (d := d) (p := p)
    omega
theorem put_id {d : List (κ × List α)} {x : κ} {v : List α} (h : x ∉ d.map (·.1)) : d.map (fun p => if p.1 = x then (p.1, v) else p) = d := by
  induction d with
  | nil => rfl
  | cons a r ih =>
    rw [List.map_cons, List.mem_cons, not_or] at h
    rw [List.map_cons, ih h.2, if_neg (fun e => h.1 e.symm)]
theorem tot_add {x : κ} {y : α} : ∀ {d : List (κ × List α)}, (d.map (·.1)).Nodup → totG (addG d (x, y)) = totG d + 1
  | [], _ => rfl
  | p :: d, nd => by
    rw [List.map_cons, List.nodup_cons] at nd
    have ih := tot_add (x := x) (y := y) nd.2
    by_cases e : p.1 = x
    · have hx : x ∈ (p :: d).map (·.1) := by rw [List.map_cons, e]; exact List.mem_cons_self
      have hl : lkG (p :: d) x = some p.2 := by show (if p.1 = x then some p.2 else _) = _; rw [if_pos e]
      have h1 : addG (p :: d) (x, y) = (p.1, p.2 ++ [y]) :: d := by
        unfold addG putG
        rw [if_pos hx, hl, List.map_cons, if_pos e]
        exact congrArg (_ :: ·) (put_id (e ▸ nd.1))
      rw [h1]
      show (p.2 ++ [y]).length + totG d = (p.2.length + totG d) + 1
      rw [List.length_append, List.length_singleton]
      omega
    · have hl : lkG (p :: d) x = lkG d x := by show (if p.1 = x then some p.2 else _) = _; rw [if_neg e]
      have h1 : addG (p :: d) (x, y) = p :: addG d (x, y) := by
        unfold addG putG
        rw [hl]
        by_cases hx : x ∈ d.map (·.1)
        · rw [if_pos hx, if_pos (by rw [List.map_cons]; exact List.mem_cons_of_mem _ hx), List.map_cons, if_neg e]
        · rw [if_neg hx, if_neg (by rw [List.map_cons, List.mem_cons, not_or]; exact ⟨fun z => e z.symm, hx⟩)]
          rfl
      rw [h1]
      show p.2.length + totG (addG d (x, y)) = (p.2.length + totG d) + 1
      rw [ih]
      omega
theorem tot_grp {Z : List (κ × α)} : ∀ {d : List (κ × List α)}, (d.map (·.1)).Nodup → totG (Z.foldl addG d) = totG d + Z.length := by
  induction Z with
  | nil => exact fun _ => rfl
  | cons p Z ih =>
    intro d nd
    rw [List.foldl_cons, ih (d := addG d p) (putG_nd nd), List.length_cons]
    show totG (addG d (p.1, p.2)) + _ = _
    rw [tot_add nd]
    omega
theorem lkG_map {f : α → β} {x : κ} : ∀ {d : List (κ × List α)}, lkG (mapG f d) x = (lkG d x).map (·.map f)
  | [] => rfl
  | p :: d => by
    show (if p.1 = x then some (p.2.map f) else lkG (mapG f d) x) = ((if p.1 = x then some p.2 else lkG d x)).map _
    by_cases e : p.1 = x
    · rw [if_pos e, if_pos e]; rfl
    · rw [if_neg e, if_neg e, lkG_map]
theorem mapG_keys {f : α → β} {d : List (κ × List α)} : (mapG f d).map (·.1) = d.map (·.1) := by
  unfold mapG
  rw [List.map_map]
  rfl
theorem addG_map {f : α → β} {d : List (κ × List α)} {p : κ × α} : addG (mapG f d) (p.1, f p.2) = mapG f (addG d p) := by
  unfold addG putG
  simp only
  rw [mapG_keys, lkG_map]
  have e1 : ((lkG d p.1).map (·.map f)).getD [] ++ [f p.2] = ((lkG d p.1).getD [] ++ [p.2]).map f := by
    cases lkG d p.1 with
    | none => rfl
    | some v => simp
  rw [e1]
  by_cases h : p.1 ∈ d.map (·.1)
  · rw [if_pos h, if_pos h]
    unfold mapG
    rw [List.map_map, List.map_map]
    refine List.map_congr_left fun q _ => ?_
    show (if q.1 = p.1 then (q.1, _) else (q.1, q.2.map f)) = (fun z : κ × List α => (z.1, z.2.map f)) (if q.1 = p.1 then (q.1, _) else q)
    split <;> rfl
  · rw [if_neg h, if_neg h]
    unfold mapG
    rw [List.map_append (f := fun p : κ × List α => (p.1, p.2.map f)), List.map_singleton, List.map_append (f := f)]
theorem grp_map {f : α → β} {Z : List (κ × α)} : ∀ {d : List (κ × List α)}, (Z.map fun p => (p.1, f p.2)).foldl addG (mapG f d) = mapG f (Z.foldl addG d) := by
  induction Z with
  | nil => exact fun {d} => rfl
  | cons p Z ih =>
    intro d
    rw [List.map_cons, List.foldl_cons, List.foldl_cons, addG_map, ih]
theorem grp_get_len {Z : List (κ × α)} {x : κ} : ((lkG (grpG Z) x).getD []).length ≤ Z.length := by
  have h := (grp_lk x Z ([] : List (κ × List α))).1
  unfold grpG
  rw [h, List.length_append, List.length_map]
  have := List.length_filter_le (fun p : κ × α => decide (p.1 = x)) Z
  show 0 + _ ≤ _
  omega
end
section
variable {rv : Str → List Str} {sw w st : List Str}
theorem longZ_len : ∀ {L : List (List (List Str) × List (List Str))}, (longZ rv sw w L).length = totG L * sw.length
  | [] => by rw [show totG ([] : List (List (List Str) × List (List Str))) = 0 from rfl, Nat.zero_mul]; rfl
  | p :: L => by
    have h : ∀ E : List (List Str), (E.flatMap fun e => sw.map fun x => (p.1 ++ [shO w (wp rv e x)], wp rv e x)).length = E.length * sw.length := fun E => by
      induction E with
      | nil => simp
      | cons a r ih => rw [List.flatMap_cons, List.length_append, ih, List.length_map, List.length_cons, Nat.succ_mul]; omega
    show ((p.2.flatMap fun e => sw.map fun x => (p.1 ++ [shO w (wp rv e x)], wp rv e x)) ++ longZ rv sw w L).length = (p.2.length + totG L) * sw.length
    rw [List.length_append, h, longZ_len, Nat.add_mul]
theorem every_tot : ∀ n, totG (everyG rv sw w st n) = sw.length ^ n
  | 0 => rfl
  | n + 1 => by
    show totG (grpG (longZ rv sw w (everyG rv sw w st n))) = _
    unfold grpG
    rw [tot_grp (d := ([] : List (List (List Str) × List (List Str)))) List.nodup_nil, longZ_len, every_tot n, Nat.pow_succ]
    show 0 + _ = _
    omega
/-- one key's row, with the ends as tuples -/
def rowT (rv : Str → List Str) (sw w : List Str) (k : List (List Str)) (es : List (List Str)) : List (List (List Str) × PySem.W.Tup Str) := es.flatMap fun e => sw.map fun x => (k ++ [shO w (wp rv e x)], PySem.W.Tup.mk (wp rv e x))
def longT (rv : Str → List Str) (sw w : List Str) (L : List (List (List Str) × List (List Str))) : List (List (List Str) × PySem.W.Tup Str) := L.flatMap fun p => rowT rv sw w p.1 p.2
theorem longT_eq {L : List (List (List Str) × List (List Str))} : longT rv sw w L = (longZ rv sw w L).map fun p => (p.1, PySem.W.Tup.mk p.2) := by
  unfold longT longZ rowT
  rw [List.map_flatMap]
  congr 1
  funext p
  rw [List.map_flatMap]
  congr 1
  funext e
  rw [List.map_map]
  rfl
theorem every_succ {n : Nat} : mapG PySem.W.Tup.mk (everyG rv sw w st (n + 1)) = grpG (longT rv sw w (everyG rv sw w st n)) := by
  rw [longT_eq]
  exact (grp_map (f := PySem.W.Tup.mk) (d := ([] : List (List (List Str) × List (List Str))))).symm
theorem rowT_len {k : List (List Str)} {es : List (List Str)} : (rowT rv sw w k es).length = es.length * sw.length := by
  unfold rowT
  induction es with
  | nil => simp
  | cons a r ih => rw [List.flatMap_cons, List.length_append, ih, List.length_map, List.length_cons, Nat.succ_mul]; omega
theorem longT_len {L : List (List (List Str) × List (List Str))} : (longT rv sw w L).length = totG L * sw.length := by rw [longT_eq, List.length_map, longZ_len]
theorem tot_app {κ α : Type} {a b : List (κ × List α)} : totG (a ++ b) = totG a + totG b := by
  unfold totG
  rw [List.map_append, List.sum_append]
end
end Ob
set_option Elab.async false
set_option linter.all false
set_option maxRecDepth 100000
set_option maxHeartbeats 4000000
/-! Eb: _law_by_lamps, _law_unknown (k83). -/
namespace Ob
open PySem L2
open Evl (Ex)
open PySem.W (Datum Tup DatumOrd)
section
variable {α β γ δ ε η : Type} [Rep α] [Rep β] [Rep γ] [Rep δ] [Rep ε] [Rep η] {K : PySem.W.Frag} {vs : List V} {Q : VK} {E : XK} {σ : L2.St} {B H : Hp} {ta tb tc td te : TE}
def Fn5e (K : PySem.W.Frag) (pre : α → β → γ → δ → ε → Prop) (f : α → β → γ → δ → ε → η) : Sp := fun vs H Q _ => ∃ x y z t w B, Ex B H ∧ RCons K x (RCons K y (RCons K z (RCons K t (RCons K w RNil)))) vs B ∧ pre x y z t w ∧ ∀ v B2 H2, Up B H B2 H2 → Rep.at_ K B2 v (f x y z t w) → Q v H2
variable {pre : α → β → γ → δ → ε → Prop} {f : α → β → γ → δ → ε → η}
theorem Fn5e.len (vs : List V) (H : Hp) (Q : VK) (E : XK) (h : Fn5e K pre f vs H Q E) : vs.length = 5 := by
  obtain ⟨x, y, z, t, w, B, e, ⟨v, r, rfl, h1, v2, r2, rfl, h2, v3, r3, rfl, h3, v4, r4, rfl, h4, v5, r5, rfl, h5, rfl⟩, _⟩ := h
  rfl
theorem e_call5e {x : α} {y : β} {z : γ} {t : δ} {w : ε} (h : Pe K ta σ B x) (h2 : Pe K tb σ B y) (h3 : Pe K tc σ B z) (h4 : Pe K td σ B t) (h5 : Pe K te σ B w) (hp : pre x y z t w) : Pe K (tCall (Fn5e K pre f) [] E (tCons ta (tCons tb (tCons tc (tCons td (tCons te tNil)))))) σ B (f x y z t w) := fun H e Q q => (a_cons h fun _ e => a_4 (h2.mono e) (h3.mono e) (h4.mono e) (h5.mono e)) H e _ fun vs B1 H1 u hv => by
  rw [List.append_nil]
  exact ⟨x, y, z, t, w, B1, u.bh, hv, hp, fun v B2 H2 u2 h2 => q v B2 H2 (u.trans u2) h2⟩
theorem Fn5e.st (h : Fn5e K pre f vs H Q E) (N : List Str) : ∃ x y z t w B, pre x y z t w ∧ St K [] B H [] ([ce x, ce y, ce z, ce t, ce w] ++ List.replicate (N.length - 5) none) (start N vs) B H ∧ ∀ v B2 H2, Up B H B2 H2 → Rep.at_ K B2 v (f x y z t w) → Q v H2 := by
  obtain ⟨x, y, z, t, w, B, e, ⟨v, _, rfl, h1, v2, _, rfl, h2, v3, _, rfl, h3, v4, _, rfl, h4, v5, _, rfl, h5, rfl⟩, hp, q⟩ := h
  exact ⟨x, y, z, t, w, B, hp, St.pure e (start_slots [v, v2, v3, v4, v5] [ce x, ce y, ce z, ce t, ce w] _ (.cons (At1.some h1) (.cons (At1.some h2) (.cons (At1.some h3) (.cons (At1.some h4) (.cons (At1.some h5) .nil)))))), q⟩
end
structure ByPre (p : Pan) (d : Dic (List Str)) (st : Tup Str) (w : List Str) (n : Int) : Prop where
  ok : PanS p
  irr : ∀ e ∈ p.ex, e.1 ≠ e.2
  hz : p.sw.length ≤ 4
  d : d = lawTab p
  st : StOk p st.items
  wl : w.length ≤ 100
  n0 : 0 ≤ n
  n1 : n ≤ 4
abbrev everyT (p : Pan) (st : Tup Str) (w : List Str) (n : Int) : List (List (List Str) × List (Tup Str)) := mapG Tup.mk (everyG (rvs p) p.sw w st.items n.toNat)
theorem every_st {p : Pan} {w st : List Str} (irr : ∀ e ∈ p.ex, e.1 ≠ e.2) (h : StOk p st) {n : Nat} : ∀ q ∈ everyG (rvs p) p.sw w st n, ∀ e ∈ q.2, StOk p e := fun q hq e he => by
  have by_ := every_by (rv := rvs p) (sw := p.sw) (w := w) (st := st) n
  have hl := (lkG_mem by_.nd (x := q.1) (v := q.2)).mp hq
  have h2 := (by_.lk q.1 (by_.ln q hq)).1
  rw [hl] at h2
  have h3 : q.2 = endsE (rvs p) p.sw w st q.1 := h2
  rw [h3] at he
  exact endsE_ok irr h q.1 e he
section
variable {K : PySem.W.Frag} {hs : NestedKey → Int}
abbrev sp_Lby_lamps (K : PySem.W.Frag) (hs : NestedKey → Int) : Sp := Fn5e K ByPre fun p _ st w n => (DicN.mk (everyT p st w n) : DicN hs (List (Tup Str)))
def N_Lby_lamps : List Str := ["_law_wired_here", "_law_table_here", "_law_here", "_law_watched_here", "_law_size", "_law_every", "_law_turn", "_law_longer", "_law_lamps", "_law_end", "_law_name", "_law_there", "_law_more", "_law_lamp"]
def t_Lby_lamps (K : PySem.W.Frag) (hs : NestedKey → Int) : TS :=
  (tSeq (tAsg (tDisp1N hs (tTup tNil) (tLst (tCons (tVar 2) tNil))) (gName 5))
    (tSeq (tFor (iRng1 (tCons (tVar 4) tNil)) (gName 6) (tSeq (tAsg (tDNewN hs) (gName 7))
    (tSeq (tLockOS (tFor (iKeysN hs (tVar 5)) (gName 8) (tFor (iSeq K (tOp (rIxR hs) (tVar 5) (tVar 8))) (gName 9) (tFor (iSeq K (tOp (rIxU K) (tVar 0) (tC (.int 0)))) (gName 10) (tSeq (tAsg (tCall (sp_Lafter K) [] E0 (tCons (tVar 1) (tCons (tVar 9) (tCons (tVar 10) tNil)))) (gName 11))
    (tSeq (tAsg (tOp (rAddU K) (tVar 8) (tTup (tCons (tCB (rTupleU K) (tCons (tLc (iSeq K (tVar 11)) (gName 13) (tTest (tOp (rInU K false) (tVar 13) (tVar 3))) (tVar 13) [13]) tNil)) tNil))) (gName 12))
    (tAsg (tOp (rAddU K) (tGetR hs (tVar 7) (tVar 12) (tLst tNil)) (tLst (tCons (tVar 11) tNil))) (gSub (tVar 7) (tVar 12) (rSetN hs)))))))))
    (tAsg (tVar 7) (gName 5)))))
    (tRet (tVar 5))))
theorem l_Lby_lamps (vs : List V) (H : Hp) (Q : VK) (E : XK) (h : sp_Lby_lamps K hs vs H Q E) : vs.length = 5 := Fn5e.len vs H Q E h
theorem r_Lby_lamps (vs : List V) (H : Hp) (Q : VK) (E : XK) (h : sp_Lby_lamps K hs vs H Q E) : t_Lby_lamps K hs (Ends.ret Q) (start N_Lby_lamps vs) H := by
  obtain ⟨p, d, ⟨st⟩, w, n, B, c, s, q⟩ := Fn5e.st (E := E) h N_Lby_lamps
  obtain ⟨ok, irr, hz, rfl, hst, wl, n0, n1⟩ := c
  replace hst : StOk p st := hst
  replace s : St K [] B H [] [ce p, ce (lawTab p), ce (Tup.mk st), ce w, ce n, none, none, none, none, none, none, none, none, none] (start N_Lby_lamps vs) B H := s
  obtain ⟨EV, hEV⟩ : ∃ EV : Nat → List (List (List Str) × List (List Str)), EV = fun n => everyG (rvs p) p.sw w st n := ⟨_, rfl⟩
  have hst' : ∀ k, ∀ q ∈ EV k, ∀ e ∈ q.2, StOk p e := fun k => hEV ▸ every_st irr hst
  have hnd : ∀ k, ((EV k).map (·.1)).Nodup := fun k => by rw [hEV]; exact (every_by k).nd
  have hln : ∀ k, ∀ q ∈ EV k, q.1.length = k := fun k => by rw [hEV]; exact (every_by k).ln
  have htot : ∀ k, k ≤ 4 → totG (EV k) ≤ 256 := fun k hk => by
    rw [hEV]
    show totG (everyG _ _ _ _ k) ≤ 256
    rw [every_tot]
    exact Nat.le_trans (Nat.pow_le_pow_left hz k) (Nat.pow_le_pow_right (n := 4) (by decide) hk)
  have hsucc : ∀ k, mapG Tup.mk (EV (k + 1)) = grpG (longT (rvs p) p.sw w (EV k)) := fun k => by rw [hEV]; exact every_succ
  have hwp : ∀ {x : List Str} {y : Str}, y ∈ p.sw → wp (look (lawTab p)) x y = wp (rvs p) x y := fun h => wp_law h
  refine s.set (x := (DicN.mk [([], [Tup.mk st])] : DicN hs (List (Tup Str)))) (e_disp1N (k := []) (e_tup0 (α := Tup Str)) fun B' b' => e_lst1 ((s.sl.mono b').v (x := Tup.mk st) 2 rfl)) fun σ1 B1 H1 s1 => ?_
  replace s1 : St K [] B H [] [ce p, ce (lawTab p), ce (Tup.mk st), ce w, ce n, ce (DicN.mk (mapG Tup.mk (EV 0)) : DicN hs (List (Tup Str))), none, none, none, none, none, none, none, none] σ1 B1 H1 := by
    rw [hEV]
    exact s1
  have hrl : (rangeI 0 n.toNat).length ≤ 4 := by rw [rangeI_len]; omega
  refine s1.qforG (δ := Unit) (it_rng1 (n := n) (s1.v (x := n) 4 rfl) (by omega) (by omega)) (fun _ _ => []) (fun done _ => [ce p, ce (lawTab p), ce (Tup.mk st), ce w, ce n, ce (DicN.mk (mapG Tup.mk (EV done.length)) : DicN hs (List (Tup Str))), none, none, none, none, none, none, none, none]) (fun _ _ => True) ⟨(), trivial, fun _ _ s2 => s2⟩ (fun done x rest _ ex _ v σ' B' H' N hN s2 hv => ?_) fun _ _ σ2 B2 H2 s2 => ?_
  · have hdl := congrArg List.length ex
    rw [List.length_append, List.length_cons] at hdl
    obtain ⟨m, hm⟩ : ∃ m, m = done.length := ⟨_, rfl⟩
    have hm4 : m ≤ 3 := by omega
    obtain ⟨L, hL⟩ : ∃ L, L = EV m := ⟨_, rfl⟩
    have hLt : totG L ≤ 256 := hL ▸ htot m (by omega)
    have hLn : (L.map (·.1)).Nodup := hL ▸ hnd m
    have s3 := s2.here.put 6 hv
    replace s3 : St K [] B' H' [] [ce p, ce (lawTab p), ce (Tup.mk st), ce w, ce n, ce (DicN.mk (mapG Tup.mk L) : DicN hs (List (Tup Str))), ce x, none, none, none, none, none, none, none] (σ'.set 6 (some v)) B' H' := by
      rw [hL, hm]
      exact s3
    refine s3.newN (i := 7) (hs := hs) (List (Tup Str)) fun f σ5 H5 s5 => ?_
    replace s5 : St K [] B' H' [dnvC K hs f ([] : List (List (List Str) × List (Tup Str)))] [ce p, ce (lawTab p), ce (Tup.mk st), ce w, ce n, ce (DicN.mk (mapG Tup.mk L) : DicN hs (List (Tup Str))), ce x, ca f, none, none, none, none, none, none] σ5 B' H5 := s5
    have rm1 : ∀ {d : List (List (List Str) × List (Tup Str))}, ∀ o ∈ [dnvC K hs f d], RMono o := fun o ho => by rw [List.mem_singleton.mp ho]; exact rm_dnv
    refine s5.lockN (m := 5) (dd := (DicN.mk (mapG Tup.mk L) : DicN hs (List (Tup Str)))) rfl rm1 (fun _ os' Γ' => os' = [dnvC K hs f (grpG (longT (rvs p) p.sw w L))] ∧ Γ' = [ce p, ce (lawTab p), ce (Tup.mk st), ce w, ce n, ce (DicN.mk (mapG Tup.mk L) : DicN hs (List (Tup Str))), ce x, ca f, none, none, none, none, none, none]) (fun Bl Hl it s6 D' hD' => ?_) fun os' Γ' σ7 B7 H7 hPP s7 => ?_
    · replace s6 : St K [f] Bl Hl [dnvC K hs f ([] : List (List (List Str) × List (Tup Str)))] [ce p, ce (lawTab p), ce (Tup.mk st), ce w, ce n, ce (DicN.mk (mapG Tup.mk L) : DicN hs (List (Tup Str))), ce x, ca f, none, none, none, none, none, none] σ5 Bl Hl := s6
      have hkeys : ((mapG Tup.mk L).map fun p => keyN p.1) = L.map fun p => keyN p.1 := by unfold mapG; rw [List.map_map]; rfl
      rw [show ((DicN.mk (mapG Tup.mk L) : DicN hs (List (Tup Str))).kvs.map fun p => keyN p.1) = L.map fun p => keyN p.1 from hkeys] at it
      refine s6.forG (D := D') (δ := Unit) it (fun dn _ => [dnvC K hs f (grpG (longT (rvs p) p.sw w (L.take dn.length)))]) (fun _ _ => [ce p, ce (lawTab p), ce (Tup.mk st), ce w, ce n, ce (DicN.mk (mapG Tup.mk L) : DicN hs (List (Tup Str))), ce x, ca f, none, none, none, none, none, none]) (fun _ _ => True) ⟨(), trivial, fun _ _ s8 => s8⟩ (fun dn key rs _ ey _ v8 σ8 B8 H8 N8 hN8 s8 hv8 => ?_) fun _ _ σ8 B8 H8 s8 => ?_
      · have hdn := congrArg List.length ey
        rw [List.length_map, List.length_append, List.length_cons] at hdn
        obtain ⟨k, hk⟩ : ∃ k, k = dn.length := ⟨_, rfl⟩
        obtain ⟨pr, hpr⟩ : ∃ pr, L[k]? = some pr := ⟨L[k]'(by omega), List.getElem?_eq_getElem _⟩
        have hkey : key = keyN pr.1 := by
          have h1 : (L.map fun p => keyN p.1)[k]? = some key := by rw [ey, hk, List.getElem?_append_right (Nat.le_refl _), Nat.sub_self]; rfl
          rw [List.getElem?_map, hpr] at h1
          cases h1
          rfl
        subst hkey
        obtain ⟨ky, es⟩ := pr
        have hmem : (ky, es) ∈ L := List.mem_of_getElem? hpr
        have htk : L.take (k + 1) = L.take k ++ [(ky, es)] := by rw [List.take_add_one, hpr]; rfl
        have hlk : lkG L ky = some es := (lkG_mem hLn).mp hmem
        have hlkT : lkG (mapG Tup.mk L) ky = some (es.map Tup.mk) := by rw [lkG_map, hlk]; rfl
        have hess : ∀ e ∈ es, StOk p e := hst' m (ky, es) (hL ▸ hmem)
        have hkyl : ky.length = m := hln m (ky, es) (hL ▸ hmem)
        have htks : totG (L.take k) + es.length ≤ 256 := by
          have h1 : totG (L.take k ++ [(ky, es)]) + totG (L.drop (k + 1)) = totG L := by rw [← htk, ← tot_app, List.take_append_drop]
          rw [tot_app] at h1
          have h2 : totG [(ky, es)] = es.length := by show es.length + 0 = _; rfl
          omega
        obtain ⟨A, hA⟩ : ∃ A, A = longT (rvs p) p.sw w (L.take k) := ⟨_, rfl⟩
        have hAl : A.length ≤ 1024 := by
          rw [hA, longT_len]
          exact Nat.le_trans (Nat.mul_le_mul (show totG (L.take k) ≤ 256 by omega) hz) (by decide)
        have hA2 : longT (rvs p) p.sw w (L.take (dn ++ [keyN ky]).length) = A ++ rowT (rvs p) p.sw w ky es := by
          rw [List.length_append, List.length_singleton, ← hk, htk, hA]
          unfold longT
          rw [List.flatMap_append]
          simp
        rw [hA2] at hN8
        have s9 : St K [f] B8 H8 [dnvC K hs f (grpG A)] [ce p, ce (lawTab p), ce (Tup.mk st), ce w, ce n, ce (DicN.mk (mapG Tup.mk L) : DicN hs (List (Tup Str))), ce x, ca f, ce (keyN ky), none, none, none, none, none] (σ8.set 8 (some v8)) B8 H8 := by
          rw [hA, hk]
          exact s8.here.put 8 hv8
        refine s9.forG (D := { D' with nx := N8, ct := N8, bk := D'.nx }) (δ := Unit) (it_seqL (xs := es.map Tup.mk) (e_ixR (L := mapG Tup.mk L) (k := ky) (s9.v (x := (DicN.mk (mapG Tup.mk L) : DicN hs (List (Tup Str)))) 5 rfl) (s9.v (x := keyN ky) 8 rfl) hlkT)) (fun en _ => [dnvC K hs f (grpG (A ++ rowT (rvs p) p.sw w ky (es.take en.length)))]) (fun _ _ => [ce p, ce (lawTab p), ce (Tup.mk st), ce w, ce n, ce (DicN.mk (mapG Tup.mk L) : DicN hs (List (Tup Str))), ce x, ca f, ce (keyN ky), none, none, none, none, none]) (fun _ _ => True) ⟨(), trivial, fun _ _ s10 => by
          rw [show es.take ([] : List (Tup Str)).length = [] from rfl, show rowT (rvs p) p.sw w ky [] = [] from rfl, List.append_nil]
          exact s10⟩ (fun en y ys _ ez _ v10 σ10 B10 H10 N10 hN10 s10 hv10 => ?_) fun _ _ σ10 B10 H10 s10 => ?_
        · have hen := congrArg List.length ez
          rw [List.length_map, List.length_append, List.length_cons] at hen
          obtain ⟨j, hj⟩ : ∃ j, j = en.length := ⟨_, rfl⟩
          obtain ⟨e, he⟩ : ∃ e, es[j]? = some e := ⟨es[j]'(by omega), List.getElem?_eq_getElem _⟩
          have hy : y = Tup.mk e := by
            have h1 : (es.map Tup.mk)[j]? = some y := by rw [ez, hj, List.getElem?_append_right (Nat.le_refl _), Nat.sub_self]; rfl
            rw [List.getElem?_map, he] at h1
            cases h1
            rfl
          subst hy
          have hes : StOk p e := hess e (List.mem_of_getElem? he)
          have hel : e.length ≤ p.sw.length := (asc_nodup hes.1).length_le_of_subset hes.2.1
          have hjk : es.take (j + 1) = es.take j ++ [e] := by rw [List.take_add_one, he]; rfl
          obtain ⟨A2, hA3⟩ : ∃ A2, A2 = A ++ rowT (rvs p) p.sw w ky (es.take j) := ⟨_, rfl⟩
          have hA2l : A2.length ≤ 2048 := by
            rw [hA3, List.length_append, rowT_len]
            have h1 := Nat.mul_le_mul (show (es.take j).length ≤ 256 by rw [List.length_take]; omega) hz
            omega
          have hnext : A ++ rowT (rvs p) p.sw w ky (es.take (en ++ [Tup.mk e]).length) = A2 ++ p.sw.map fun x => (ky ++ [shO w (wp (rvs p) e x)], Tup.mk (wp (rvs p) e x)) := by
            rw [List.length_append, List.length_singleton, ← hj, hjk, hA3, List.append_assoc]
            congr 1
            unfold rowT
            rw [List.flatMap_append]
            simp
          rw [hnext] at hN10
          have s11 : St K [f] B10 H10 [dnvC K hs f (grpG A2)] [ce p, ce (lawTab p), ce (Tup.mk st), ce w, ce n, ce (DicN.mk (mapG Tup.mk L) : DicN hs (List (Tup Str))), ce x, ca f, ce (keyN ky), ce (Tup.mk e), none, none, none, none] (σ10.set 9 (some v10)) B10 H10 := by
            rw [hA3, hj]
            exact s10.here.put 9 hv10
          refine s11.forG (D := { D' with nx := N10, ct := N10, bk := N8 }) (δ := Unit) (it_sq (e_sw (s11.v (x := p) 0 rfl))) (fun nn _ => [dnvC K hs f (grpG (A2 ++ nn.map fun x => (ky ++ [shO w (wp (rvs p) e x)], Tup.mk (wp (rvs p) e x))))]) (fun _ _ => [ce p, ce (lawTab p), ce (Tup.mk st), ce w, ce n, ce (DicN.mk (mapG Tup.mk L) : DicN hs (List (Tup Str))), ce x, ca f, ce (keyN ky), ce (Tup.mk e), none, none, none, none]) (fun _ _ => True) ⟨(), trivial, fun _ _ s12 => by
            rw [List.map_nil, List.append_nil]
            exact s12⟩ (fun nn a as _ ea _ v12 σ12 B12 H12 N12 hN12 s12 hv12 => ?_) fun _ _ σ12 B12 H12 s12 => ?_
          · have ha : a ∈ p.sw := by rw [ea]; simp
            have hnn := congrArg List.length ea
            rw [List.length_append, List.length_cons] at hnn
            obtain ⟨z, hzz⟩ : ∃ z, z = wp (rvs p) e a := ⟨_, rfl⟩
            have hzs : StOk p z := hzz ▸ wp_st irr hes ha
            have hzl : z.length ≤ p.sw.length := (asc_nodup hzs.1).length_le_of_subset hzs.2.1
            obtain ⟨A4, hA4⟩ : ∃ A4, A4 = A2 ++ nn.map fun x => (ky ++ [shO w (wp (rvs p) e x)], Tup.mk (wp (rvs p) e x)) := ⟨_, rfl⟩
            have hA4l : A4.length ≤ 3000 := by rw [hA4, List.length_append, List.length_map]; omega
            have hn12 : grpG (A2 ++ (nn ++ [a]).map fun x => (ky ++ [shO w (wp (rvs p) e x)], Tup.mk (wp (rvs p) e x))) = addG (grpG A4) (ky ++ [shO w z], Tup.mk z) := by
              rw [List.map_append, ← List.append_assoc, ← hA4]
              unfold grpG
              rw [List.foldl_append, hzz]
              rfl
            rw [hn12] at hN12
            have s13 : St K [f] B12 H12 [dnvC K hs f (grpG A4)] [ce p, ce (lawTab p), ce (Tup.mk st), ce w, ce n, ce (DicN.mk (mapG Tup.mk L) : DicN hs (List (Tup Str))), ce x, ca f, ce (keyN ky), ce (Tup.mk e), ce a, none, none, none] (σ12.set 10 (some v12)) B12 H12 := by
              rw [hA4]
              exact s12.here.put 10 hv12
            refine s13.set (x := Tup.mk z) ((e_call3 (x := lawTab p) (y := Sq.mk e) (z := a) (pre := fun (d : Dic (List Str)) (s : Sq Str) (x : Str) => (d.kvs.lookup x).isSome = true ∧ s.items.length ≤ 100000) (f := fun d s x => Tup.mk (wp (look d) s.items x)) (s13.v (x := lawTab p) 1 rfl) ((s13.v (x := Tup.mk e) 9 rfl).imp sq_tup) (s13.v (x := a) 10 rfl) ⟨by
              rw [show (lawTab p).kvs.lookup a = some (raw p.ex a) from lookup_map (fun s => raw p.ex s) ha]
              rfl, by show e.length ≤ _; omega⟩).is (by show Tup.mk (wp (look (lawTab p)) e a) = _; rw [hwp ha, hzz])) fun σ14 B14 H14 s14 => ?_
            replace s14 : St K [f] B12 H12 [dnvC K hs f (grpG A4)] [ce p, ce (lawTab p), ce (Tup.mk st), ce w, ce n, ce (DicN.mk (mapG Tup.mk L) : DicN hs (List (Tup Str))), ce x, ca f, ce (keyN ky), ce (Tup.mk e), ce a, ce (Tup.mk z), none, none] σ14 B14 H14 := s14
            refine s14.set (x := keyN (ky ++ [shO w z])) ((e_addT (xs := ky.map Tup.mk) (ys := [Tup.mk (shO w z)]) (s14.v (x := keyN ky) 8 rfl) (e_tup1 (e_tupL (s14.sl.lcF (j := 13) (fun y => decide (y ∈ w)) (it_sq ((s14.v (x := Tup.mk z) 11 rfl).imp sq_tup)) (by omega) fun y hy σ2 B2 b2 s2 => ⟨t_test (e_inSq (s2.v (x := y) 13 rfl) ((s2.v (x := w) 3 rfl).imp sq_list) false), rfl⟩))) (by rw [List.length_map, List.length_singleton]; omega)).is (by show Tup.mk (ky.map Tup.mk ++ [Tup.mk (shO w z)]) = Tup.mk ((ky ++ [shO w z]).map Tup.mk); rw [List.map_append]; rfl)) fun σ15 B15 H15 s15 => ?_
            replace s15 : St K [f] B12 H12 [dnvC K hs f (grpG A4)] [ce p, ce (lawTab p), ce (Tup.mk st), ce w, ce n, ce (DicN.mk (mapG Tup.mk L) : DicN hs (List (Tup Str))), ce x, ca f, ce (keyN ky), ce (Tup.mk e), ce a, ce (Tup.mk z), ce (keyN (ky ++ [shO w z])), none] σ15 B15 H15 := s15
            have hg1 : (grpG A4).length ≤ 3000 := by
              have h1 := grp_len (Z := A4) (d := ([] : List (List (List Str) × List (Tup Str))))
              unfold grpG
              rw [List.length_nil] at h1
              omega
            have hg2 := grp_get_len (Z := A4) (x := ky ++ [shO w z])
            refine s15.addN (i := 7) (j := 12) (k := 0) (l := f) (L := grpG A4) (key := ky ++ [shO w z]) (x := Tup.mk z) rfl rfl rfl (s15.v (x := Tup.mk z) 11 rfl) (by omega) (by omega) fun B16 H16 s16 => ?_
            exact hN12 () (B3 := B16) trivial (s16.fg [10, 11, 12])
          · exact hN10 () (B3 := B12) trivial (s12.fg [9, 10, 11, 12])
        · refine hN8 () (B3 := B10) trivial ?_
          rw [show es.take (es.map Tup.mk).length = es by rw [List.length_map, List.take_length]] at s10
          exact s10.fg [8, 9, 10, 11, 12]
      · rw [show L.take (L.map fun p => keyN p.1).length = L by rw [List.length_map, List.take_length]] at s8
        exact hD' ⟨rfl, rfl⟩ rfl rm1 s8
    · obtain ⟨rfl, rfl⟩ := hPP
      obtain ⟨B8, b8, s8⟩ := s7.frzN (i := 7) (k := 0) (l := f) (d := grpG (longT (rvs p) p.sw w L)) rfl rfl (fun hm => nomatch hm)
      rw [hL, ← hsucc] at s8
      replace s8 : St K [] B' H' [] [ce p, ce (lawTab p), ce (Tup.mk st), ce w, ce n, ce (DicN.mk (mapG Tup.mk (EV m)) : DicN hs (List (Tup Str))), ce x, ce (DicN.mk (mapG Tup.mk (EV (m + 1))) : DicN hs (List (Tup Str))), none, none, none, none, none, none] σ7 B8 H7 := s8
      refine s8.setL (x := (DicN.mk (mapG Tup.mk (EV (m + 1))) : DicN hs (List (Tup Str)))) (s8.v 7 rfl) fun σ9 B9 H9 s9 => ?_
      refine hN () (B3 := B9) trivial ?_
      rw [List.length_append, List.length_singleton, ← hm]
      exact s9.fg [6, 7]
  · rw [show (rangeI 0 n.toNat).length = n.toNat from rangeI_len _ _] at s2
    refine St.ret (D := Ends.ret Q) (x := (DicN.mk (mapG Tup.mk (EV n.toNat)) : DicN hs (List (Tup Str)))) s2 (s2.v 5 rfl) fun v B4 H4 s4 hv => q v B4 H4 s4.toUp ?_
    rw [hEV] at hv
    exact hv
end
theorem nil_sqsq {K : PySem.W.Frag} {H : Hp} {v : V} (h : Rep.at_ K H v ([] : List (List Str))) : Rep.at_ K H v (Sq.mk ([] : List (Sq Str))) := by
  obtain ⟨a, vs, rfl, h1, h2⟩ := at_list.mp h
  cases h2
  exact ⟨a, [], rfl, .inl h1, .nil⟩
section
variable {K : PySem.W.Frag} {Ce : CnSo2 K "switch"}
abbrev sp_Lunknown (K : PySem.W.Frag) : Sp := Fn4 K (fun (p : Pan) (_ : Tup Str) (w : List Str) (_ : Bool) => (missO p w).isSome = true) fun p _ w _ => (missO p w).getD ""
def N_Lunknown : List Str := ["_law_wired_here", "_law_here", "_law_watched_here", "_law_is_count", "_law_caught", "error"]
def t_Lunknown (K : PySem.W.Frag) (Ce : CnSo2 K "switch") : TS :=
  (tSeq (tAsg (tC .non) (gName 4))
    (tSeq (tTryH K [.ref Ce.c1, .ref Ce.c2] 5 (fun W => (tIfS (tB (tVar 3)) (tDrop (tCallS (sp_histories_seenX K Ce) (WE W) (tCons (tVar 0) (tCons (tVar 1) (tCons (tVar 2) (tCons (tLst tNil) tNil)))))) (tDrop (tCallS (sp_ends_seenXF K Ce) (WE W) (tCons (tVar 0) (tCons (tVar 1) (tCons (tVar 2) (tCons (tLst tNil) tNil)))))))) (fun _ _ _ => (tAsg (tVar 5) (gName 4))) (fun _ _ _ _ => False))
    (tRet (tIf (tAnd (tB (tCB (rIsF K) (tCons (tVar 4) (tCons (tC (.ref Ce.C)) tNil)))) (tNot (tB (tCB (rIsF K) (tCons (tVar 4) (tCons (tC (.ref Ce.c1)) tNil)))))) (tFldH Ce.C "switch" (tVar 4)) (tC .non)))))
theorem l_Lunknown (vs : List V) (H : Hp) (Q : VK) (E : XK) (h : sp_Lunknown K vs H Q E) : vs.length = 4 := Fn4.len vs H Q E h
theorem r_Lunknown (vs : List V) (H : Hp) (Q : VK) (E : XK) (h : sp_Lunknown K vs H Q E) : t_Lunknown K Ce (Ends.ret Q) (start N_Lunknown vs) H := by
  obtain ⟨p, st, w, ic, B, hm, s, q⟩ := Fn4.st (E := E) h N_Lunknown
  obtain ⟨z, hz⟩ := Option.isSome_iff_exists.mp hm
  have hq : (missO p w).getD "" = z := by rw [hz]; rfl
  replace s : St K [] B H [] [ce p, ce st, ce w, ce ic, none, none] _ B H := s
  refine s.set (x := ()) e_non fun σ1 B1 H1 s1 => ?_
  replace s1 : St K [] B H [] [ce p, ce st, ce w, ce ic, ce (), none] σ1 B1 H1 := s1
  have hmm : MissE p (Sq.mk st.items) (Sq.mk w) (Sq.mk []) z := hz
  refine s1.tryRa (i := 5) (j := 4) (C := Ce.C) (f := "switch") (z := z) Ce.hx (RaX.ift (t_B (s1.v (x := ic) 3 rfl)) (fun _ B' b' => RaX.c4 (x := p) (y := Sq.mk st.items) (t := Sq.mk w) (w := Sq.mk ([] : List (Sq Str))) ((s1.sl.mono b').v (x := p) 0 rfl) (((s1.sl.mono b').v (x := st) 1 rfl).imp sq_tup) (((s1.sl.mono b').v (x := w) 2 rfl).imp sq_list) ((e_lst0 (α := List Str)).imp nil_sqsq) hmm) fun _ B' b' => RaX.c4 (x := p) (y := Sq.mk st.items) (t := Sq.mk w) (w := Sq.mk ([] : List (Sq Str))) ((s1.sl.mono b').v (x := p) 0 rfl) (((s1.sl.mono b').v (x := st) 1 rfl).imp sq_tup) (((s1.sl.mono b').v (x := w) 2 rfl).imp sq_list) ((e_lst0 (α := List Str)).imp nil_sqsq) hmm) (by rw [s1.sl.lenQ]; show 5 < 6; decide) fun a dd σ2 B2 H2 s2 ha hd => ?_
  replace s2 : St K [] B H [] [ce p, ce st, ce w, ce ic, ca a, none] σ2 B2 H2 := s2
  refine s2.ret (x := z) (e_if (b := true) ((t_and (a := true) (b := true) ((t_B (e_isF (c := .ref Ce.C) (cv := .ref Ce.C) (s2.v (x := Any.mk (.ref a)) 4 rfl) ha hd Ce.T (fun u h => h) kit_self))) fun _ => ((t_not (t_B (e_isF (c := .ref Ce.c1) (cv := .ref Ce.c1) (s2.v (x := Any.mk (.ref a)) 4 rfl) ha hd Ce.T (fun u h => h) Ce.ho))).is rfl))) (fun _ => e_fldH (s2.v (x := Any.mk (.ref a)) 4 rfl) ha hd) fun h => by cases h) fun v B3 H3 s3 hv => q v B3 H3 s3.toUp (by rw [hq]; exact hv)
end
end Ob
set_option Elab.async false
set_option linter.all false
set_option maxRecDepth 100000
set_option maxHeartbeats 4000000
/-! Tu: sets of tuples of texts (the table's own laws are the library's HandS.TupSets): a search, an item put in, laid anew. -/
namespace Ob
open PySem PySem.Spec PyProof.Rows L2 PySem.Froz
abbrev hsT (P : Program) (w : World) (k : List Str) : Int := tupleKeyHash (strKind P w) k
abbrev TupS (P : Program) (w : World) (h : Heap) (k : List Str) (b : Addr) : Prop := IsTupleKey (strKind P w) h k b
theorem nth_dummy (m : Nat) : ∀ (n : Nat) (p : SetTable.Probe), p.dummy = none → (nth m p n).dummy = none
  | 0, _, h => h
  | n + 1, p, h => nth_dummy m n (adv m p) (by unfold adv; split <;> exact h)
section
variable {P : Program} {w : World} {A : Around} {E : Value → Shared → Prop} {s : Shared}
theorem str_each {k : List Str} {vs : List Value} (h : ItemsAre (strKind P w) k vs) : ∀ v ∈ vs, ∃ x u, v = Value.str x u := by
  induction h with
  | nil => exact fun v hv => nomatch hv
  | @cons a u ks us h1 _ ih =>
    intro v hv
    rcases List.mem_cons.mp hv with e | e
    · subst e
      cases v with
      | str x u => exact ⟨x, u, rfl⟩
      | _ => exact absurd h1 (by simp [PySem.strKind, Value.isStrOf])
    · exact ih v e
/-- a tuple of texts is of no class statement -/
theorem noClass {k : List Str} {b : Addr} {Q : Bool → Shared → Prop} (x : TupS P w s.heap k b) (h : Q false s) : wpAny (model P w) A (ofAClassStatement 8 (.ref b)) Q E s := by
  have hT := x.typeIs
  obtain ⟨o, its, n, ho, _, hd, hi⟩ := x
  unfold ofAClassStatement
  refine wpAny_bind (wpAny_typeOf hT ?_)
  dsimp only
  rw [if_pos (show (("tuple" : String) == "tuple") = true by decide)]
  refine wpAny_bind (wpAny_pure ?_)
  simp only [Bool.not_true, Bool.false_eq_true, if_false]
  refine wpAny_bind (wpAny_seqItems ho hd ?_)
  dsimp only
  refine wpAny_bind ?_
  rw [← Array.forIn_toList]
  refine wpAny_forIn_list _ (fun l r s' => s' = s ∧ r.1 = none ∧ ∀ v ∈ l, ∃ x u, v = Value.str x u) _ (fun v l r s' hI => ?_) (fun r s' hI => ?_) _ _ ⟨rfl, rfl, str_each hi⟩
  · obtain ⟨e, hr, ha⟩ := hI
    obtain ⟨y, u, ev⟩ := ha v List.mem_cons_self
    subst e ev
    have e0 : ofAClassStatement 7 (.str y u) = pure false := rfl
    rw [e0]
    refine wpAny_bind (wpAny_pure ?_)
    rw [if_neg Bool.false_ne_true]
    exact wpAny_pure ⟨rfl, rfl, fun z hz => ha z (List.mem_cons_of_mem _ hz)⟩
  · obtain ⟨r1, r2⟩ := r
    obtain ⟨e, hr, _⟩ := hI
    subst e
    cases (show r1 = none from hr)
    exact wpAny_pure h
/-- whether its hash is told by its value: either way -/
theorem anyHash {k : List Str} {b : Addr} {Q : Bool → Shared → Prop} (x : TupS P w s.heap k b) (h : ∀ r, Q r s) : wpAny (model P w) A (hashByValue 8 (.ref b)) Q E s := by
  have hT := x.typeIs
  obtain ⟨o, its, n, ho, _, hd, hi⟩ := x
  unfold hashByValue
  refine wpAny_bind (wpAny_specialOf hT F.slot_tuple_hash.lookup ?_)
  dsimp only
  refine wpAny_bind (wpAny_seqItems ho hd ?_)
  refine wpAny_bind ?_
  rw [show (some its).getD #[Value.ellipsis] = its from rfl, ← Array.forIn_toList]
  refine wpAny_forIn_list _ (fun l r s' => s' = s ∧ r.1 = none ∧ ∀ v ∈ l, ∃ x u, v = Value.str x u) _ (fun v l r s' hI => ?_) (fun r s' hI => ?_) _ _ ⟨rfl, rfl, str_each hi⟩
  · obtain ⟨e, hr, ha⟩ := hI
    obtain ⟨y, u, ev⟩ := ha v List.mem_cons_self
    subst e ev
    have e0 : hashByValue 7 (.str y u) = pure false := rfl
    rw [e0]
    refine wpAny_bind (wpAny_pure ?_)
    rw [if_pos (by rfl)]
    exact wpAny_pure (wpAny_pure (h false))
  · obtain ⟨r1, r2⟩ := r
    obtain ⟨e, hr, _⟩ := hI
    subst e
    cases (show r1 = none from hr)
    exact wpAny_pure (h true)
/-- nobody sees a search among such -/
theorem unseen {k : List Str} {b : Addr} {Q : Bool → Shared → Prop} (x : TupS P w s.heap k b) {ys : List Value} (hy : ∀ y ∈ ys, ∃ k2 c, y = Value.ref c ∧ TupS P w s.heap k2 c) (h : Q false s) : wpAny (model P w) A (searchCouldBeSeen (.ref b) ys) Q E s := by
  unfold searchCouldBeSeen
  refine wpAny_bind ?_
  refine wpAny_forIn_list _ (fun l r s' => s' = s ∧ r.1 = none ∧ ∀ y ∈ l, ∃ k2 c, y = Value.ref c ∧ TupS P w s.heap k2 c) _ (fun v l r s' hI => ?_) (fun r s' hI => ?_) _ _ ⟨rfl, rfl, hy⟩
  · obtain ⟨e, hr, ha⟩ := hI
    obtain ⟨k2, c, ev, hc⟩ := ha v List.mem_cons_self
    subst e ev
    have nxt := fun z hz => ha z (List.mem_cons_of_mem _ hz)
    dsimp only
    split
    · exact wpAny_pure ⟨rfl, rfl, nxt⟩
    · refine wpAny_bind (wpAny_eqIsQuiet_tuple x ?_)
      simp only [Bool.not_true, Bool.false_eq_true, if_false]
      refine wpAny_bind (wpAny_eqIsQuiet_tuple hc ?_)
      simp only [Bool.not_true, Bool.false_eq_true, if_false]
      refine wpAny_bind (noClass x ?_)
      simp only [Bool.false_eq_true, if_false]
      refine wpAny_bind (noClass hc ?_)
      simp only [Bool.false_eq_true, if_false]
      exact wpAny_pure ⟨rfl, rfl, nxt⟩
  · obtain ⟨r1, r2⟩ := r
    obtain ⟨e, hr, _⟩ := hI
    subst e
    cases (show r1 = none from hr)
    exact wpAny_pure h
/-- a set of tuples: at L's addresses L's lists of texts -/
structure TupSet (P : Program) (w : World) (h : Heap) (a : Addr) (L : List (Addr × List Str)) (es : Array (Int × Value)) (ep : Nat) (t : SetTable) : Prop where
  ob : h.get? a = some (sObj "set" (es, ep, t))
  ent : es.toList = L.map fun p => (hsT P w p.2, Value.ref p.1)
  tab : TabOk t (L.map fun p => hsT P w p.2)
  tup : ∀ p ∈ L, TupS P w h p.2 p.1
  nd : (L.map (·.2)).Nodup
  led : w.params.followText "set-order" = true ∨ t.led = true
  room : L.length * 5 < t.mask * 3
variable {a : Addr} {L : List (Addr × List Str)} {es : Array (Int × Value)} {ep : Nat} {t : SetTable}
theorem ent_at (h : es.toList = L.map fun p => (hsT P w p.2, Value.ref p.1)) (i : Nat) : es[i]? = (L[i]?).map fun p => (hsT P w p.2, Value.ref p.1) := by
  rw [← Array.getElem?_toList, h, List.getElem?_map]
theorem ent_size (h : es.toList = L.map fun p => (hsT P w p.2, Value.ref p.1)) : es.size = L.length := by
  have := congrArg List.length h
  rwa [Array.length_toList, List.length_map] at this
theorem fits_tab (h1 : t.place.size = L.length) (hd : t.dummies = #[]) (hr : L.length ≤ t.mask) (hs : es.size = L.length) : t.fits es.size = true := by
  unfold SetTable.fits SetTable.fill
  rw [hd, hs, Bool.and_eq_true, beq_iff_eq, decide_eq_true_eq]
  exact ⟨h1, by show t.place.size + 0 ≤ t.mask; omega⟩
theorem TupSet.fits (R : TupSet P w s.heap a L es ep t) : t.fits es.size = true := by
  have h1 := R.tab.sz
  rw [List.length_map] at h1
  have h3 := R.room
  exact fits_tab h1 R.tab.dm (by omega) (ent_size R.ent)
/-- the search, from its c-th step on: none of those passed was it -/
theorem TupSet.seek (R : TupSet P w s.heap a L es ep t) {x : Addr} {k : List Str} (hx : TupS P w s.heap k x) (hu : A.units < cLine) {K : Nat} (k1 : K < 10 * SetTable.turns t.mask)
    (k2 : way t.mask (hsT P w k) K ∉ t.place.toList) (k3 : ∀ c, c < K → way t.mask (hsT P w k) c ∈ t.place.toList) {Q : SetFound → Shared → Prop}
    (yes : k ∈ L.map (·.2) → Q (.there none) s) (no : k ∉ L.map (·.2) → Q (.free (way t.mask (hsT P w k) K) false) s) (f : Nat) :
    ∀ (c : Nat) (st : Option SetTable.Probe), st.getD (t.probeStart (hsT P w k)) = nth t.mask (runAt t.mask (SetTable.bits (hsT P w k) % (t.mask + 1)) (SetTable.bits (hsT P w k))) c → c ≤ K → K < c + f →
      (∀ (c' i : Nat) (p : Addr × List Str), c' < c → t.place.toList[i]? = some (way t.mask (hsT P w k) c') → L[i]? = some p → p.2 ≠ k) → wpAny (model P w) A (setSearchFrom a (.ref x) (hsT P w k) true f st) Q E s := by
  obtain ⟨h, hh⟩ : ∃ h, h = hsT P w k := ⟨_, rfl⟩
  rw [← hh] at k2 k3 no ⊢
  obtain ⟨p0, hp0⟩ : ∃ p0, p0 = runAt t.mask (SetTable.bits h % (t.mask + 1)) (SetTable.bits h) := ⟨_, rfl⟩
  have hway : ∀ c, way t.mask h c = (nth t.mask p0 c).j := fun c => by rw [hp0]
  rw [← hp0]
  have fit := R.fits
  have ho := R.ob
  have hd : (sObj "set" (es, ep, t)).data = .set es ep t := rfl
  induction f with
  | zero => exact fun c st _ h1 h2 _ => absurd h2 (by omega)
  | succ f ih =>
    intro c st hst hc hf hpast
    rw [setSearchFrom_succ]
    refine wpAny_bind (wpAny_setState_of ho hd fit ?_)
    dsimp only
    rw [if_neg (by unfold SetTable.gaveWay; rw [mask_odd R.tab.mok]; decide)]
    refine wpAny_bind (wpAny_pure ?_)
    have hj : ∀ q, (nth t.mask (nth t.mask p0 c) q).j = way t.mask h (c + q) := fun q => by rw [hway, nth_add]
    have hAt : ∀ {i : Nat} {p : Addr × List Str}, L[i]? = some p → (es[i]?.map (·.1)).getD 0 = hsT P w p.2 := fun {i p} hp => by
      rw [ent_at R.ent, hp]
      rfl
    have hL : ∀ {i j : Nat}, t.place.toList[i]? = some j → ∃ p, L[i]? = some p := fun {i j} hi => by
      have h1 := (List.getElem?_eq_some_iff.mp hi).1
      have h2 := R.tab.sz
      rw [List.length_map] at h2
      rw [Array.length_toList] at h1
      exact ⟨L[i]'(by omega), List.getElem?_eq_getElem _⟩
    have spec := go_spec t R.tab.ris R.tab.dm (fun i => (es[i]?.map (·.1)).getD 0) h (10 * SetTable.turns t.mask) (K - c) (nth t.mask p0 c) (nth_dummy _ _ _ (by rw [hp0]; rfl)) (by omega)
      (fun q hq => by rw [hj]; exact k3 _ (by omega)) (by rw [hj, show c + (K - c) = K by omega]; exact k2)
    rw [hst]
    rcases spec with ⟨q, i, hq, hi, hhi, hbef, hgo⟩ | ⟨hbef, hgo⟩
    · rw [hj] at hi
      have hgo2 : t.probe (fun i => (es[i]?.map (·.1)).getD 0) h (nth t.mask p0 c) = some (.candidate (way t.mask h (c + q)) i (nth t.mask p0 (c + q + 1))) := by
        rw [← hj, show c + q + 1 = c + (q + 1) by omega, nth_add]
        exact hgo
      rw [hgo2]
      dsimp only
      obtain ⟨p, hp⟩ := hL hi
      have hpm : p ∈ L := List.mem_of_getElem? hp
      have hes : es[i]? = some (hsT P w p.2, Value.ref p.1) := by rw [ent_at R.ent, hp]; rfl
      have tail : wpAny (model P w) A (searchRest a (.ref x) h true f es t (way t.mask h (c + q)) i (nth t.mask p0 (c + q + 1))) Q E s := by
        unfold searchRest
        rw [hes]
        dsimp only
        refine wpAny_bind (wpAny_holding (wpAny_eqBool_tuple hu (R.tup p hpm) hx ?_))
        refine wpAny_bind (wpAny_setState_of ho hd fit ?_)
        dsimp only
        by_cases e : p.2 = k
        · rw [decide_eq_true e, if_pos (by rfl)]
          exact wpAny_pure (yes (List.mem_map.mpr ⟨p, hpm, e⟩))
        · rw [decide_eq_false e, if_neg (by decide)]
          refine wpAny_bind (wpAny_pure ?_)
          rw [sameMem]
          dsimp only
          rw [if_pos rfl, slot_live R.tab.ris hi]
          dsimp only
          rw [hes]
          dsimp only
          refine wpAny_bind (wpAny_isSame_ref_self (wpAny_bind (wpAny_pure ?_)))
          rw [if_pos rfl]
          dsimp only
          rw [if_neg Bool.false_ne_true]
          refine ih (c + q + 1) _ rfl (by omega) (by omega) fun c' i' p' hc' hi' hp' => ?_
          rcases Nat.lt_trichotomy c' (c + q) with z | z | z
          · rcases Nat.lt_or_ge c' c with y | y
            · exact hpast c' i' p' y hi' hp'
            · intro ek
              refine hbef (c' - c) i' (by omega) (by rw [hj, show c + (c' - c) = c' by omega]; exact hi') ?_
              show (es[i']?.map (·.1)).getD 0 = h
              rw [hAt hp', ek, hh]
          · subst z
            have e1 := slot_live R.tab.ris hi
            rw [slot_live R.tab.ris hi'] at e1
            injection e1 with e1
            subst e1
            rw [hp] at hp'
            cases hp'
            exact e
          · omega
      by_cases hl : t.led = true
      · rw [hl]
        rw [if_neg (by decide)]
        refine wpAny_bind (wpAny_pure ?_)
        exact tail
      · rw [if_pos (by simp [hl])]
        refine wpAny_bind (unseen hx (fun y hy => ?_) ?_)
        · obtain ⟨e, he, rfl⟩ := List.mem_map.mp hy
          have he2 : e ∈ es.toList := by
            have : e ∈ es ∧ e.1 = h := by simpa using he
            simpa using this.1
          rw [R.ent] at he2
          obtain ⟨p2, hp2, rfl⟩ := List.mem_map.mp he2
          exact ⟨p2.2, p2.1, rfl, R.tup p2 hp2⟩
        · rw [if_neg Bool.false_ne_true]
          exact tail
    · have hgo2 : t.probe (fun i => (es[i]?.map (·.1)).getD 0) h (nth t.mask p0 c) = some (.empty (way t.mask h K) none) := by
        have e1 := hj (K - c)
        rw [show c + (K - c) = K by omega] at e1
        rw [← e1]
        exact hgo
      rw [hgo2]
      dsimp only
      refine wpAny_pure (no fun hm => ?_)
      obtain ⟨p, hp, ek⟩ := List.mem_map.mp hm
      obtain ⟨i, hi⟩ := List.getElem?_of_mem hp
      have hlt : i < t.place.toList.length := by
        have h1 := (List.getElem?_eq_some_iff.mp hi).1
        have h2 := R.tab.sz
        rw [List.length_map] at h2
        rw [Array.length_toList]
        omega
      obtain ⟨c', hc', ew⟩ := R.tab.before (h := h) k2 (i := i) (by rw [List.getElem?_map, hi, hh, ← ek]; rfl) (List.getElem?_eq_getElem hlt)
      have hi2 : t.place.toList[i]? = some (way t.mask h c') := by rw [ew]; exact List.getElem?_eq_getElem hlt
      rcases Nat.lt_or_ge c' c with y | y
      · exact hpast c' i p y hi2 hi ek
      · refine hbef (c' - c) i (by omega) (by rw [hj, show c + (c' - c) = c' by omega]; exact hi2) ?_
        show (es[i]?.map (·.1)).getD 0 = h
        rw [hAt hi, ek, hh]
theorem TupSet.search (R : TupSet P w s.heap a L es ep t) {x : Addr} {k : List Str} (hx : TupS P w s.heap k x) (hu : A.units < cLine) {Q : SetFound → Shared → Prop} (yes : k ∈ L.map (·.2) → Q (.there none) s)
    (no : ∀ K, k ∉ L.map (·.2) → way t.mask (hsT P w k) K ∉ t.place.toList → (∀ c, c < K → way t.mask (hsT P w k) c ∈ t.place.toList) → Q (.free (way t.mask (hsT P w k) K) false) s) : wpAny (model P w) A (setSearch a (.ref x) (hsT P w k) true) Q E s := by
  have hr := R.room
  obtain ⟨K, k1, k2, k3⟩ := R.tab.first (by rw [List.length_map]; omega) (hsT P w k)
  have hb : 10 * SetTable.turns t.mask ≤ 50000 := by
    unfold SetTable.turns
    rcases R.tab.mok with e | e | e <;> rw [e] <;> omega
  unfold setSearch
  exact R.seek hx hu k1 k2 k3 yes (fun hn => no K hn k2 k3) 100000 0 none rfl (Nat.zero_le _) (by omega) fun c' i p hc' => absurd hc' (Nat.not_lt_zero _)
/-! ### one put in -/
theorem tup_same {h h' : Heap} {k : List Str} {b : Addr} {D : Array (Int × Value) × Nat × SetTable} (x : TupS P w h k b) (ho : h.get? a = some (sObj "set" D)) (hs : Heap.SameBut a h h') : TupS P w h' k b := by
  obtain ⟨o, its, n, h1, hc, hd, hi⟩ := x
  have hne : b ≠ a := by
    rintro rfl
    rw [ho] at h1
    have e : sObj "set" D = o := Option.some.inj h1
    rw [← e] at hd
    cases hd
  exact ⟨o, its, n, (hs.2 b hne).trans h1, hc, hd, hi⟩
theorem fm_congr {α β : Type} {f g : α → Option β} : ∀ {l : List α}, (∀ i ∈ l, f i = g i) → l.filterMap f = l.filterMap g
  | [], _ => rfl
  | i :: l, h => by rw [List.filterMap_cons, List.filterMap_cons, h i List.mem_cons_self, fm_congr fun j hj => h j (List.mem_cons_of_mem _ hj)]
theorem range_get {α : Type} : ∀ L : List α, (List.range L.length).filterMap (fun i => L[i]?) = L := fun L => by
  have sn : ∀ (n : Nat) (L : List α), L.length = n → (List.range L.length).filterMap (fun i => L[i]?) = L := fun n => by
    induction n with
    | zero => intro L h; rw [List.length_eq_zero_iff.mp h]; rfl
    | succ n ihn =>
      intro L h
      have hne : L ≠ [] := fun e => by rw [e] at h; cases h
      obtain ⟨xs, x, rfl⟩ : ∃ xs x, L = xs ++ [x] := ⟨L.dropLast, L.getLast hne, (List.dropLast_concat_getLast hne).symm⟩
      rw [List.length_append, List.length_singleton] at h
      have ih := ihn xs (by omega)
      rw [List.length_append, List.length_singleton, List.range_succ, List.filterMap_append]
      have e : (List.range xs.length).filterMap (fun i => (xs ++ [x])[i]?) = (List.range xs.length).filterMap (fun i => xs[i]?) := fm_congr fun i hi => List.getElem?_append_left (List.mem_range.mp hi)
      rw [e, ih]
      simp
  exact sn _ L rfl
theorem getD_all {es : Array (Int × Value)} (h : es.toList = L.map fun p => (hsT P w p.2, Value.ref p.1)) : ∀ l : List Nat, (∀ i ∈ l, i < L.length) → (l.filterMap fun i => L[i]?).map (fun p => hsT P w p.2) = l.map fun i => (es.map (·.1)).getD i 0
  | [], _ => rfl
  | i :: l, hl => by
    have hi := hl i List.mem_cons_self
    have ih := getD_all h l fun j hj => hl j (List.mem_cons_of_mem _ hj)
    have e1 := ent_at h i
    rw [List.getElem?_eq_getElem hi] at e1
    rw [List.filterMap_cons, List.getElem?_eq_getElem hi, List.map_cons, List.map_cons, ih]
    congr 1
    rw [Array.getD_eq_getD_getElem?, Array.getElem?_map, e1]
    rfl
/-- laid anew, in a greater table -/
theorem relay_t {wanted M : Nat} (ho : s.heap.get? a = some (sObj "set" (es, ep, t))) (ent : es.toList = L.map fun p => (hsT P w p.2, Value.ref p.1)) (hf : t.fits es.size = true) (tup : ∀ p ∈ L, TupS P w s.heap p.2 p.1) (nd : (L.map (·.2)).Nodup)
    (ld : w.params.followText "set-order" = true ∨ t.led = true) (hw : SetTable.sizeAbove wanted - 1 = M) (hM : MaskOk M) (hw2 : SetTable.sizeAbove wanted ≤ 128) (hn : L.length * 5 < M * 3) {Q : Unit → Shared → Prop}
    (h : ∀ h' L' es' ep' t', Heap.SameBut a s.heap h' → TupSet P w h' a L' es' ep' t' → L'.Perm L → Q () { s with heap := h' }) : wpAny (model P w) A (setRelay a wanted) Q E s := by
  have hd : (sObj "set" (es, ep, t)).data = .set es ep t := rfl
  have hsz := ent_size ent
  have hMb : M ≤ 127 := by rcases hM with e | e | e <;> omega
  obtain ⟨t', order, e1, e2, e3, e4, e5, _, e7⟩ := relaid_ok t (hs := es.map (·.1)) hw hM (by rw [Array.size_map, hsz]; omega)
  rw [Array.size_map, hsz] at e2
  rw [setRelay_eq]
  refine wpAny_bind (wpAny_setState_of ho hd hf ?_)
  dsimp only
  rw [if_neg (by rw [sizeLine_eq]; omega)]
  refine wpAny_bind ?_
  rw [e1]
  dsimp only
  obtain ⟨L', hL'⟩ : ∃ L', L' = order.toList.filterMap fun i => L[i]? := ⟨_, rfl⟩
  have pm : L'.Perm L := by
    have := e2.filterMap fun i => L[i]?
    rw [range_get, ← hL'] at this
    exact this
  have hlt : ∀ i ∈ order.toList, i < L.length := fun i hi => List.mem_range.mp (e2.mem_iff.mp hi)
  have ent' : (order.filterMap (es[·]?)).toList = L'.map fun p => (hsT P w p.2, Value.ref p.1) := by
    rw [Array.toList_filterMap, hL', List.map_filterMap]
    exact fm_congr fun i _ => ent_at ent i
  have sz' := ent_size ent'
  have hll := pm.length_eq
  rw [if_neg (by rw [sz', hsz, hll]; simp)]
  refine wpAny_pure ?_
  dsimp only
  refine wpAny_storeSet_of ho hd ?_ (by rw [sz', hll, sizeLine_eq]; omega)
  have sb : Heap.SameBut a s.heap (s.heap.update a (Obj.putSet (order.filterMap (es[·]?)) t')) := Heap.SameBut.update ..
  refine h _ L' _ (ep + 1) t' sb ⟨?_, ent', ?_, fun p hp => tup_same (tup p (pm.mem_iff.mp hp)) ho sb, (pm.map _).nodup_iff.mpr nd, ?_, by rw [hll, e4]; exact hn⟩ pm
  · rw [show s.heap.update a (Obj.putSet (order.filterMap (es[·]?)) t') = s.heap.update a (fun _ => sObj "set" (order.filterMap (es[·]?), ep + 1, t')) from (upd_const _ ho).trans rfl]
    exact get_upd _ ho rfl
  · rw [hL', getD_all ent _ hlt]
    exact e3
  · rw [e5]; exact ld
theorem ins_perm {α : Type} (L : List α) (n : Nat) (x : α) : (L.take n ++ x :: L.drop n).Perm (x :: L) := by
  have := List.perm_middle (a := x) (l₁ := L.take n) (l₂ := L.drop n)
  rwa [List.take_append_drop] at this
/-- a tuple put in, new or not -/
theorem TupSet.add (R : TupSet P w s.heap a L es ep t) {x : Addr} {k : List Str} (hx : TupS P w s.heap k x) (hu : A.units < cLine) (few : L.length + 1 < 64) {Q : Bool → Shared → Prop} (yes : k ∈ L.map (·.2) → Q false s)
    (no : k ∉ L.map (·.2) → ∀ h' L' es' ep' t', Heap.SameBut a s.heap h' → TupSet P w h' a L' es' ep' t' → L'.Perm ((x, k) :: L) → Q true { s with heap := h' }) : wpAny (model P w) A (setAddHashed a (.ref x) (hsT P w k)) Q E s := by
  have ho := R.ob
  have hd : (sObj "set" (es, ep, t)).data = .set es ep t := rfl
  have fit := R.fits
  unfold setAddHashed
  refine wpAny_holding ?_
  rw [show (100000 : Nat) = 99999 + 1 from rfl, setAddHashedIn_succ]
  refine wpAny_bind (wpAny_setState_of ho hd fit ?_)
  dsimp only
  rw [if_neg (show ¬ byScan (.ref x) es = true by unfold byScan Value.scannable; simp)]
  refine wpAny_bind (R.search hx hu (fun hk => ?_) fun K hk k2 k3 => ?_)
  · exact wpAny_pure (yes hk)
  · dsimp only
    refine wpAny_bind (wpAny_setState_of ho hd fit ?_)
    dsimp only
    obtain ⟨p1, p2, p3, p4, p5, p6, p7, p8, p9⟩ := R.tab.put k2 k3
    obtain ⟨n, hn⟩ : ∃ n, n = SetTable.below t.place (way t.mask (hsT P w k) K) := ⟨_, rfl⟩
    rw [← hn] at p1 p2 p3
    generalize hput : t.put (way t.mask (hsT P w k) K) = pr at p1 p3 p4 p5 p6 p7 p8 p9
    obtain ⟨t1, n1⟩ := pr
    dsimp only at p1 p3 p4 p5 p6 p7 p8 p9 ⊢
    subst p1
    obtain ⟨L1, hL1⟩ : ∃ L1, L1 = L.take n1 ++ (x, k) :: L.drop n1 := ⟨_, rfl⟩
    have pm : L1.Perm ((x, k) :: L) := hL1 ▸ ins_perm L n1 _
    have hl1 : L1.length = L.length + 1 := pm.length_eq
    rw [List.length_map] at p2 p9
    have hL1h : L1.map (fun p => hsT P w p.2) = (L.map fun p => hsT P w p.2).take n1 ++ hsT P w k :: (L.map fun p => hsT P w p.2).drop n1 := by
      rw [hL1, List.map_append, List.map_cons, List.map_take, List.map_drop]
    have ent1 : (SetTable.insertAt es n1 (hsT P w k, Value.ref x)).toList = L1.map fun p => (hsT P w p.2, Value.ref p.1) := by
      rw [SetTable.toList_insertAt, R.ent, hL1, List.map_append, List.map_cons, List.map_take, List.map_drop]
    have sz1 := ent_size ent1
    have nd1 : (L1.map (·.2)).Nodup := by
      rw [(pm.map _).nodup_iff]
      exact List.nodup_cons.mpr ⟨hk, R.nd⟩
    rw [← hL1h] at p3
    -- whatever is told of the hash
    have go : ∀ t2 : SetTable, t2.place = t1.place → t2.dummies = t1.dummies → t2.mask = t1.mask → t2.led = t1.led → wpAny (model P w) A (do
        storeSet a (SetTable.insertAt es n1 (hsT P w k, Value.ref x)) t2
        if (!false && t2.tooFull) = true then do
            setRelay a (SetTable.grown (es.size + 1))
            pure true
          else pure true) Q E s := fun t2 q1 q2 q3 q4 => by
      have T2 : TabOk t2 (L1.map fun p => hsT P w p.2) := by
        refine ⟨by rw [q1]; exact p3.ris, by rw [q2]; exact p3.dm, by rw [q1]; exact p3.sz, by rw [q3]; exact p3.mok, by rw [q1, q3]; exact p3.bd, ?_⟩
        rw [q1, q3]
        exact p3.reach
      have hm := R.tab.mok
      have hr := R.room
      have hfill : t2.fill = L.length + 1 := by
        rw [← p9]
        unfold SetTable.fill
        rw [q1, q2]
      refine wpAny_bind (wpAny_storeSet_of ho hd ?_ (by rw [sz1, hl1, sizeLine_eq]; omega))
      obtain ⟨h1, hh1⟩ : ∃ h1, h1 = s.heap.update a (Obj.putSet (SetTable.insertAt es n1 (hsT P w k, Value.ref x)) t2) := ⟨_, rfl⟩
      have sb : Heap.SameBut a s.heap h1 := hh1 ▸ Heap.SameBut.update ..
      have ho1 : h1.get? a = some (sObj "set" (SetTable.insertAt es n1 (hsT P w k, Value.ref x), ep + 1, t2)) := by
        rw [hh1, show s.heap.update a (Obj.putSet (SetTable.insertAt es n1 (hsT P w k, Value.ref x)) t2) = s.heap.update a (fun _ => sObj "set" (SetTable.insertAt es n1 (hsT P w k, Value.ref x), ep + 1, t2)) from (upd_const _ ho).trans rfl]
        exact get_upd _ ho rfl
      have tup1 : ∀ p ∈ L1, TupS P w h1 p.2 p.1 := fun p hp => by
        rcases List.mem_cons.mp (pm.mem_iff.mp hp) with e | e
        · subst e
          exact tup_same hx ho sb
        · exact tup_same (R.tup p e) ho sb
      have ld1 : w.params.followText "set-order" = true ∨ t2.led = true := by rw [q4, p5]; exact R.led
      rw [← hh1]
      have hmask : t2.mask = t.mask := q3.trans p4
      have hsz := ent_size R.ent
      have fit1 : t2.fits (SetTable.insertAt es n1 (hsT P w k, Value.ref x)).size = true := by
        have h1 := T2.sz
        rw [List.length_map] at h1
        exact fits_tab h1 T2.dm (by rw [hmask]; rcases hm with e | e | e <;> rw [e] at hr ⊢ <;> omega) sz1
      by_cases hf : t2.tooFull = true
      · rw [if_pos (by rw [hf]; rfl)]
        have hf2 : (L.length + 1) * 5 ≥ t.mask * 3 := by
          have := of_decide_eq_true (show decide (t2.fill * 5 ≥ t2.mask * 3) = true from hf)
          rwa [hfill, hmask] at this
        have key : ∀ M : Nat, SetTable.sizeAbove (SetTable.grown (es.size + 1)) - 1 = M → MaskOk M → SetTable.sizeAbove (SetTable.grown (es.size + 1)) ≤ 128 → L1.length * 5 < M * 3 → wpAny (model P w) A (do
            setRelay a (SetTable.grown (es.size + 1))
            pure true) Q E { s with heap := h1 } := fun M m1 m2 m3 m4 => by
          refine wpAny_bind (relay_t (s := { s with heap := h1 }) (L := L1) ho1 ent1 fit1 tup1 nd1 ld1 m1 m2 m3 m4 fun h2 L2 es2 ep2 tt2 sb2 R2 pm2 => ?_)
          refine wpAny_pure (no hk h2 L2 es2 ep2 tt2 ⟨sb2.1.trans sb.1, fun b hb => (sb2.2 b hb).trans (sb.2 b hb)⟩ R2 (pm2.trans pm))
        rcases hm with e | e | e
        · have e5 : es.size + 1 = 5 := by rw [e] at hf2 hr; omega
          rw [e5] at key ⊢
          exact key 31 (by rw [size_20]) (.inr (.inl rfl)) (by rw [size_20]; decide) (by omega)
        · have e5 : es.size + 1 = 19 := by rw [e] at hf2 hr; omega
          rw [e5] at key ⊢
          exact key 127 (by rw [size_76]) (.inr (.inr rfl)) (by rw [size_76]; decide) (by omega)
        · rw [e] at hf2
          omega
      · rw [if_neg (by rw [Bool.not_eq_true] at hf; rw [hf]; decide)]
        have hf2 : ¬ (L.length + 1) * 5 ≥ t.mask * 3 := fun z => hf (by
          show decide (t2.fill * 5 ≥ t2.mask * 3) = true
          rw [hfill, hmask]
          exact decide_eq_true z)
        exact wpAny_pure (no hk h1 L1 _ _ t2 sb ⟨ho1, ent1, T2, tup1, nd1, ld1, by rw [hl1, hmask]; omega⟩ pm)
    by_cases hp : t1.plain = true
    · rw [if_pos hp]
      refine wpAny_bind (anyHash hx fun r => ?_)
      cases r
      · exact go { t1 with plain := false } rfl rfl rfl rfl
      · exact go t1 rfl rfl rfl rfl
    · rw [if_neg hp]
      refine wpAny_bind (wpAny_pure ?_)
      exact go t1 rfl rfl rfl rfl
end
end Ob
set_option Elab.async false
set_option linter.all false
set_option maxRecDepth 100000
set_option maxHeartbeats 4000000
/-! Tu2: set(xs) of a list of tuples of texts; sorted(set(xs)). -/
namespace Ob
open PySem PySem.Spec PyProof.Rows L2 PySem.Froz
open Evl (Ex)
open PySem.W (Datum Tup DatumOrd)
theorem tup_keep {P : Program} {w : World} {h h' : Heap} {k : List Str} {b : Addr} (x : TupS P w h k b) (hk : ∀ o, h.get? b = some o → h'.get? b = some o) : TupS P w h' k b := by
  obtain ⟨o, its, n, h1, h2⟩ := x
  exact ⟨o, its, n, hk o h1, h2⟩
theorem TupSet.keep {P : Program} {w : World} {h h' : Heap} {a : Addr} {L : List (Addr × List Str)} {es : Array (Int × Value)} {ep : Nat} {t : SetTable} (R : TupSet P w h a L es ep t) (ha : ∀ o, h.get? a = some o → h'.get? a = some o) (ht : ∀ p ∈ L, TupS P w h' p.2 p.1) : TupSet P w h' a L es ep t :=
  ⟨ha _ R.ob, R.ent, R.tab, ht, R.nd, R.led, R.room⟩
theorem tset_new {P : Program} {w : World} {h : Heap} {a : Addr} (ho : h.get? a = some { cls := .type "set", dict := none, data := .set #[] 0 (.fresh 0 0 (!w.params.followText "set-order")) }) : TupSet P w h a [] #[] 0 (.fresh 0 0 (!w.params.followText "set-order")) where
  ob := ho
  ent := rfl
  tab := ⟨List.Pairwise.nil, rfl, rfl, .inl rfl, (fun x hx => nomatch hx), fun i h j hi => nomatch hi⟩
  tup := fun p hp => nomatch hp
  nd := .nil
  led := by
    show _ ∨ (!w.params.followText "set-order") = true
    cases w.params.followText "set-order"
    · exact .inr rfl
    · exact .inl rfl
  room := by show 0 * 5 < 7 * 3; decide
/-- what of the list is in the set -/
structure Gone (ks : List (Addr × List Str)) (i : Nat) (L : List (Addr × List Str)) : Prop where
  sub : ∀ p ∈ L, p ∈ ks
  all : ∀ k, k ∈ L.map (·.2) ↔ k ∈ (ks.take i).map (·.2)
section
variable {P : Program} {w : World} {A : Around} {E : Value → Shared → Prop} {s : Shared}
theorem tset_update {I : Addr} {fp wr : List Addr} {G : Array GenState → Array GenState → Prop} {n : Nat} {Pv : Nat → Value → Prop} {St : Nat → Shared → Prop} {R : Result → Shared → Prop}
    (W : WalksS P w A.in1 I fp wr G n Pv St) (S : Addr) (hSf : S ∉ fp) (ks : List (Addr × List Str)) (hn : n = ks.length) (hu : A.units + 64 < cLine) (few : ∀ M : List (List Str), M.Nodup → (∀ k ∈ M, k ∈ ks.map (·.2)) → M.length + 1 < 64) (hI : ∀ p ∈ ks, p.1 ∉ S :: wr)
    (hval : ∀ i v, Pv i v → ∃ p : Addr × List Str, ks[i]? = some p ∧ v = .ref p.1) :
    ∀ (m i : Nat) (s : Shared) (L : List (Addr × List Str)) (es : Array (Int × Value)) (ep : Nat) (t : SetTable), n - i = m → i ≤ n → St i s → Gone ks i L → (∀ p ∈ ks, TupS P w s.heap p.2 p.1) → TupSet P w s.heap S L es ep t →
      (∀ s' L' es' ep' t', PySem.Moved (S :: wr) G s s' → Gone ks n L' → TupSet P w s'.heap S L' es' ep' t' → R (.ok (.ret .none)) s') → codeAny (model P w) A (.builtin "set.update.loop" ⟨[.ref S, .ref I], []⟩) R s := by
  have hSw : S ∉ wr := fun h => hSf (W.sub _ h)
  have hsub : ∀ b ∈ wr, b ∈ S :: wr := fun b hb => List.mem_cons_of_mem _ hb
  intro m
  induction m with
  | zero =>
    intro i s L es ep t hm hi hst hG hT hS hR
    have hin : i = n := by omega
    subst hin
    refine codeAny_builtin F.entry_set_update_loop ?_
    rw [Around.under_plainId F.plain_set_update_loop _]
    show wpAny _ A.in1 (pyNext (.ref I) >>= _) _ _ s
    refine wpAny_bind (W.done s _ _ hst fun s' hmv => ?_)
    show wpAny _ A.in1 (ret Value.none) _ _ s'
    exact wpAny_pure (hR s' L es ep t (hmv.mono hsub) hG (hS.keep (fun o e => hmv.heap S o hSw e) fun p hp => tup_keep (hS.tup p hp) fun o e => hmv.heap p.1 o (fun z => hI p (hG.sub p hp) (hsub _ z)) e))
  | succ m ih =>
    intro i s L es ep t hm hi hst hG hT hS hR
    have hlt : i < n := by omega
    refine codeAny_builtin F.entry_set_update_loop ?_
    rw [Around.under_plainId F.plain_set_update_loop _]
    show wpAny _ A.in1 (pyNext (.ref I) >>= _) _ _ s
    refine wpAny_bind (W.item i s _ _ hlt hst fun v s' hP hst' hmv => ?_)
    obtain ⟨⟨x, k⟩, hz, rfl⟩ := hval i v hP
    have hxm : (x, k) ∈ ks := List.mem_of_getElem? hz
    have hT' : ∀ p ∈ ks, TupS P w s'.heap p.2 p.1 := fun p hp => tup_keep (hT p hp) fun o e => hmv.heap p.1 o (fun z => hI p hp (hsub _ z)) e
    have hS' : TupSet P w s'.heap S L es ep t := hS.keep (fun o e => hmv.heap S o hSw e) fun p hp => hT' p (hG.sub p hp)
    have hlen : L.length + 1 < 64 := by
      have := few (L.map (·.2)) hS.nd fun k hk => by
        obtain ⟨p, hp, rfl⟩ := List.mem_map.mp hk
        exact List.mem_map.mpr ⟨p, hG.sub p hp, rfl⟩
      rwa [List.length_map] at this
    have htk : ks.take (i + 1) = ks.take i ++ [(x, k)] := by
      rw [List.take_add_one, hz]
      rfl
    have hu1 : A.in1.units < cLine := by
      show A.units + 1 < cLine
      omega
    show wpAny _ A.in1 (holding [Value.ref x] (setAdd S (.ref x)) >>= _) _ _ s'
    refine wpAny_bind (wpAny_holding ?_)
    unfold setAdd
    refine wpAny_holding ?_
    refine wpAny_bind (wpAny_pyHash_tuple hu1 (hT' (x, k) hxm) ?_)
    refine TupSet.add (s := { s' with toks := s'.toks + (k.length + 1) }) hS' (hT' (x, k) hxm) hu1 hlen (fun hk => ?_) (fun hk h' L' es' ep' t' hsb hS2 pm => ?_)
    · refine wpAny_pure ⟨plainId_quiet F.plain_set_update_loop _, ih (i + 1) _ L es ep t (by omega) hlt (W.frame _ s' _ _ hst' (Nat.le_add_right _ _) fun b hb o e => e) ⟨hG.sub, fun z => ?_⟩ hT' hS' fun s'' L'' es'' ep'' t'' hm'' hG'' hS'' => ?_⟩
      · rw [htk, List.map_append, List.mem_append, ← hG.all z]
        exact ⟨.inl, fun z2 => z2.elim id fun z2 => by rw [List.mem_singleton.mp z2]; exact hk⟩
      · exact hR s'' L'' es'' ep'' t'' (PySem.Moved.trans W.gtrans ((hmv.mono hsub).then_heap (Nat.le_add_right _ _) fun b o hb e => e) hm'') hG'' hS''
    · have hT2 : ∀ p ∈ ks, TupS P w h' p.2 p.1 := fun p hp => tup_keep (hT' p hp) fun o e => (hsb.2 p.1 (fun z => hI p hp (by rw [z]; exact List.mem_cons_self))).trans e
      refine wpAny_pure ⟨plainId_quiet F.plain_set_update_loop _, ih (i + 1) _ L' es' ep' t' (by omega) hlt (W.frame _ s' _ _ hst' (Nat.le_add_right _ _) fun b hb o e => ?_) ⟨fun p hp => ?_, fun z => ?_⟩ hT2 hS2 fun s'' L'' es'' ep'' t'' hm'' hG'' hS'' => ?_⟩
      · rw [hsb.2 b (fun h : b = S => hSf (by rw [← h]; exact hb))]; exact e
      · rcases List.mem_cons.mp (pm.mem_iff.mp hp) with e | e
        · rw [e]; exact hxm
        · exact hG.sub p e
      · rw [htk, List.map_append, List.mem_append, ← hG.all z, (pm.map (·.2)).mem_iff, List.map_cons, List.mem_cons]
        exact ⟨fun q => q.elim (fun e => .inr (List.mem_singleton.mpr e)) .inl, fun q => q.elim .inr fun e => .inl (List.mem_singleton.mp e)⟩
      · refine hR s'' L'' es'' ep'' t'' (PySem.Moved.trans W.gtrans ((hmv.mono hsub).then_heap (Nat.le_add_right _ _) fun b o hb e => ?_) hm'') hG'' hS''
        rw [hsb.2 b (fun h : b = S => hb (by rw [h]; exact List.mem_cons_self))]; exact e
set_option maxHeartbeats 8000000 in
theorem tset_call {l : Addr} {items : Array Value} (ks : List (Addr × List Str)) {Q : Value → Shared → Prop} (hh : A.handled = none) (hu : A.units + 100 < cLine) (hl : s.heap.IsList l items) (hit : items.toList = ks.map fun p => Value.ref p.1) (hTu : ∀ p ∈ ks, TupS P w s.heap p.2 p.1) (few : ∀ M : List (List Str), M.Nodup → (∀ k ∈ M, k ∈ ks.map (·.2)) → M.length + 1 < 64)
    (h : ∀ (h' : Heap) (tk : Nat), (∃ L es ep t, Gone ks ks.length L ∧ TupSet P w h' s.heap.objs.size L es ep t) → (∀ b o, s.heap.get? b = some o → h'.get? b = some o) → Q (.ref s.heap.objs.size) { s with heap := h', toks := tk }) :
    wpAny (model P w) A (call (.type "set") [.ref l]) Q E s := by
  have hisz : items.size = ks.length := by
    have q := congrArg List.length hit
    rwa [Array.length_toList, List.length_map] at q
  obtain ⟨c, tl, hmro⟩ := F.called_set.mro
  have hmade := F.called_set.made
  have hsub := F.called_set.sub
  refine wpAny_call (codeAny_of_tree ?_)
  show wpAny _ _ (callAny (.type "set") _) _ _ _
  refine wpAny_pure ⟨Code.quiet_builtin _ (by decide +kernel), codeAny_builtin F.entry_type_call ?_⟩
  rw [Around.under_plain (weight_type_call_type "set" [.ref l] []) rfl]
  have h1 := F.called_set.notType
  have h2 := F.called_set.canCreate
  have hct := F.typeCall_set_1 (.ref l)
  repeat (any_goals (first | assumption | wp_step))
  refine codeAny_mono (code_set_led1 (.ref l) (E := E) (Q₁ := fun obj s₁ => obj = .ref s.heap.objs.size ∧ s₁ = { s with heap := s.heap.push { cls := .type "set", dict := none, data := .set #[] 0 (.fresh 0 0 (!w.params.followText "set-order")) } }) ⟨rfl, rfl⟩) fun r s₁ hr => ?_
  cases r with
  | error e => exact hr
  | ok fl =>
    cases fl with
    | ret obj =>
      obtain ⟨rfl, rfl⟩ := hr
      have hS : (s.heap.push { cls := .type "set", dict := none, data := .set #[] 0 (.fresh 0 0 (!w.params.followText "set-order")) }).get? s.heap.objs.size = some { cls := .type "set", dict := none, data := .set #[] 0 (.fresh 0 0 (!w.params.followText "set-order")) } := Heap.get?_push_size _ rfl
      have hT : Shared.TypeIs { s with heap := s.heap.push { cls := .type "set", dict := none, data := .set #[] 0 (.fresh 0 0 (!w.params.followText "set-order")) } } (.ref s.heap.objs.size) "set" := ⟨_, hS, rfl⟩
      have hli := F.called_set.init.lookup
      have hbi := F.called_set.init.bind (.ref s.heap.objs.size)
      repeat (any_goals (first | assumption | wp_step))
      refine codeAny_mono (codeAny_call_builtin (R := wants (fun r s₂ => r = .none ∧ ∃ h' tk, s₂ = { s with heap := h', toks := tk } ∧ (∃ L es ep t, Gone ks ks.length L ∧ TupSet P w h' s.heap.objs.size L es ep t) ∧
          (∀ b o, s.heap.get? b = some o → h'.get? b = some o)) E) F.called_set.init.plain F.entry_set_init (check_set_init_1 hT ?_)) fun r₂ s₂ hr₂ => ?_
      · obtain ⟨ol, hol, hcl, nl, hdl⟩ := hl
        obtain ⟨ocls, odict, odata, oslots⟩ := ol
        simp only at hcl hdl
        subst hcl; subst hdl
        have hol' : (s.heap.push { cls := .type "set", dict := none, data := .set #[] 0 (.fresh 0 0 (!w.params.followText "set-order")) }).get? l = some { cls := .type "list", dict := odict, data := .seq items nl, slots := oslots } := Heap.get?_push_of_some _ hol
        have hsls := F.sub_list_set
        have hslf := F.sub_list_frozenset
        have hne : (Value.type "list" == Value.type "dict") = false := by decide
        have hl1 : (s.heap.push { cls := .type "set", dict := none, data := .set #[] 0 (.fresh 0 0 (!w.params.followText "set-order")) }).IsList l items := ⟨_, hol', rfl, nl, rfl⟩
        unfold Builtin.«set.__init__» noKeywords Builtin.Frozenset.updateFrom
        generalize hPI : pyIter = PI
        wp_walk
        subst hPI
        refine wpAny_pyIter_list hl1 ?_
        refine wpAny_bind (wpAny_runValue ?_)
        have hlS : l < s.heap.objs.size := Heap.lt_size hol
        have hh3 : A.in1.in1.in1.handled = none := by simp [hh]
        have hneI : l ≠ (s.heap.push { cls := .type "set", dict := none, data := .set #[] 0 (.fresh 0 0 (!w.params.followText "set-order")) }).objs.size := by
          rw [Heap.size_push]; exact Nat.ne_of_lt (Nat.lt_succ_of_lt hlS)
        have hSf : s.heap.objs.size ∉ [(s.heap.push { cls := .type "set", dict := none, data := .set #[] 0 (.fresh 0 0 (!w.params.followText "set-order")) }).objs.size, l] := by
          rw [Heap.size_push]; simp only [List.mem_cons, List.mem_singleton, List.not_mem_nil, or_false, not_or]
          exact ⟨Nat.ne_of_lt (Nat.lt_succ_self _), Nat.ne_of_gt hlS⟩
        have hval : ∀ (i : Nat) (v : Value), items[i]? = some v → ∃ p : Addr × List Str, ks[i]? = some p ∧ v = .ref p.1 := fun i v hv => by
          rw [← Array.getElem?_toList, hit, List.getElem?_map] at hv
          obtain ⟨p, hp, e⟩ := Option.map_eq_some_iff.mp hv
          exact ⟨p, hp, e.symm⟩
        have hTl : ∀ p ∈ ks, p.1 < s.heap.objs.size := fun p hp => by
          obtain ⟨o, _, _, ho, _⟩ := hTu p hp
          exact Heap.lt_size ho
        refine tset_update ((Walks.list hh3 _ l hneI items).toS) s.heap.objs.size hSf ks hisz ?hU few ?hI hval (items.size - 0) 0 _ [] #[] 0 _ (by omega) (Nat.zero_le _) ⟨⟨_, Heap.get?_push_size _ rfl, rfl, rfl⟩, (hl1.push _)⟩ ⟨(fun p hp => nomatch hp), fun k => Iff.rfl⟩ ?hTT (tset_new (Heap.get?_push_of_some _ hS)) ?hR
        case hU =>
          show A.units + 1 + 1 + 64 < cLine
          omega
        case hI =>
          intro p hp
          have := hTl p hp
          rw [Heap.size_push]
          simp only [List.mem_cons, List.not_mem_nil, or_false, not_or]
          exact ⟨Nat.ne_of_lt this, Nat.ne_of_lt (Nat.lt_succ_of_lt this)⟩
        case hTT => exact fun p hp => tup_keep (hTu p hp) fun o e => Heap.get?_push_of_some _ (Heap.get?_push_of_some _ e)
        case hR =>
          intro s' L es ep t hm hG hS'
          obtain ⟨h', g2, d', tk', os'⟩ := s'
          have eg : g2 = s.gens := hm.gens
          have ed : d' = s.drawn := hm.drawn
          have eo : os' = s.os := hm.os
          subst eg; subst ed; subst eo
          show wpAny _ _ _ _ _ _
          refine wpAny_pure ?_
          show wpAny _ _ (ret Value.none) _ _ _
          refine wpAny_pure ⟨rfl, h', tk', rfl, ⟨L, es, ep, t, by rw [← hisz]; exact hG, hS'⟩, fun b o e => ?_⟩
          have hb0 : b < s.heap.objs.size := Heap.lt_size e
          have hb1 : b ≠ s.heap.objs.size := Nat.ne_of_lt hb0
          have hb2 : b ≠ (s.heap.push { cls := .type "set", dict := none, data := .set #[] 0 (.fresh 0 0 (!w.params.followText "set-order")) }).objs.size := by
            rw [Heap.size_push]; exact Nat.ne_of_lt (Nat.lt_succ_of_lt hb0)
          exact hm.heap b o (by simp only [List.mem_cons, List.mem_singleton, List.not_mem_nil, or_false, not_or]; exact ⟨hb1, hb2⟩) (Heap.get?_push_of_some _ (Heap.get?_push_of_some _ e))
      · cases r₂ with
        | error e => exact hr₂
        | ok fl₂ =>
          cases fl₂ with
          | ret r =>
            obtain ⟨rfl, h', tk, rfl, hS', hk'⟩ := hr₂
            repeat (any_goals (first | assumption | wp_step))
            exact h _ _ hS' hk'
          | _ => exact hr₂.elim
    | _ => exact hr.elim
theorem perm_inv {α β : Type} {f : α → β} {xs vs : List β} (p : xs.Perm vs) : ∀ L : List α, xs = L.map f → ∃ L2 : List α, L2.Perm L ∧ vs = L2.map f := by
  induction p with
  | nil => intro L h; cases L with
    | nil => exact ⟨[], .nil, rfl⟩
    | cons => cases h
  | cons x p ih => intro L h; cases L with
    | nil => cases h
    | cons a L =>
      rw [List.map_cons] at h
      injection h with h1 h2
      obtain ⟨L2, q1, q2⟩ := ih L h2
      exact ⟨a :: L2, q1.cons a, by rw [List.map_cons, ← q2, h1]⟩
  | swap x y l => intro L h; cases L with
    | nil => cases h
    | cons a L => cases L with
      | nil => cases h
      | cons b L =>
        rw [List.map_cons, List.map_cons] at h
        injection h with h1 h2
        injection h2 with h2 h3
        exact ⟨b :: a :: L, .swap _ _ _, by rw [List.map_cons, List.map_cons, h1, h2, h3]⟩
  | trans p1 p2 ih1 ih2 =>
    intro L h
    obtain ⟨L1, q1, q2⟩ := ih1 L h
    obtain ⟨L2, q3, q4⟩ := ih2 L1 q2
    exact ⟨L2, q3.trans q1, q4⟩
theorem each_refsP {R : Addr → Tup Str → Prop} : ∀ {us : List Value} {zs : List (Tup Str)}, PySem.W.EachIs (fun u z => ∃ q : Addr, u = .ref q ∧ R q z) us zs → ∃ qs : List Addr, us = qs.map Value.ref ∧ Paired R qs zs
  | _, _, .nil => ⟨[], rfl, .nil⟩
  | _, _, .cons ⟨q, e, h⟩ t => by
    obtain ⟨qs, e2, h2⟩ := each_refsP t
    exact ⟨q :: qs, by rw [e, e2]; rfl, .cons h h2⟩
theorem tset_sorted {a : Addr} {L : List (Addr × List Str)} {es : Array (Int × Value)} {ep : Nat} {t : SetTable} {Q : Value → Shared → Prop} (R : TupSet P w s.heap a L es ep t) (hh : A.handled = none) (few : L.length < 64) (hu : A.units + 150 < cLine)
    (rd : ∀ p ∈ L, ∀ h2 : Heap, (∀ b o, s.heap.get? b = some o → h2.get? b = some o) → ∃ as, Reads h2 (.ref p.1) (Datum.toD (Tup.mk p.2)) as)
    (hQ : ∀ (s' : Shared) (p : Addr) (L2 : List (Addr × List Str)) (qs : List Addr) (c : Nat), L2.Perm L → (∀ b o, s.heap.get? b = some o → s'.heap.get? b = some o) → s'.gens = s.gens → s'.os = s.os → s.heap.objs.size ≤ p →
      s'.heap.get? p = some (seqObj "list" (qs.map Value.ref).toArray c) → Paired (fun (q : Addr) (z : Tup Str) => ∃ p ∈ L, p.1 = q ∧ z = Tup.mk p.2) qs (sortD (L2.map fun p => Tup.mk p.2)) → Q (.ref p) s') : wpAny (model P w) A (call (.builtin "sorted") [.ref a]) Q E s := by
  have hsz := ent_size R.ent
  refine Calls.call_function_entry kind_sorted plain_sorted entry_sorted (args_sorted1 _) ?_
  unfold Builtin.«sorted»
  refine wpAny_bind (m := checkCount "sorted" 1 1 _) (wpAny_pure ?_)
  refine wpAny_bind (collect_set (A := A.in1) hh ⟨_, R.ob, rfl, rfl⟩ R.fits (by rw [hsz]; unfold scanBound; omega) R.tab.ris R.led fun s1 vs k1 hz g1 o1 pm => ?_)
  have em : es.toList.map (·.2) = L.map fun p => Value.ref p.1 := by
    rw [R.ent, List.map_map]
    rfl
  rw [em] at pm
  obtain ⟨L2, pm2, rfl⟩ := perm_inv pm.symm L rfl
  have hL2 : L2.length = L.length := pm2.length_eq
  obtain ⟨vs, hvs⟩ : ∃ vs, vs = L2.map fun p => Value.ref p.1 := ⟨_, rfl⟩
  rw [← hvs]
  have hvl : vs.length = L.length := by rw [hvs, List.length_map, hL2]
  have hL : vs.length ≤ sizeLine := by rw [hvl, sizeLine_eq]; omega
  refine wpAny_bind (wpAny_newList ?_ hL)
  obtain ⟨zs, hzs⟩ : ∃ zs : List (Tup Str), zs = L2.map fun p => Tup.mk p.2 := ⟨_, rfl⟩
  have hoL : (s1.heap.push (seqObj "list" vs.toArray 0)).get? s1.heap.objs.size = some (seqObj "list" vs.toArray 0) := Heap.get?_push_size _ rfl
  have hE : PySem.W.EachIs (fun u (z : Tup Str) => ∃ q : Addr, u = .ref q ∧ ∃ p ∈ L, p.1 = q ∧ z = Tup.mk p.2) vs zs := by
    have key : ∀ M : List (Addr × List Str), (∀ p ∈ M, p ∈ L) → PySem.W.EachIs (fun u (z : Tup Str) => ∃ q : Addr, u = .ref q ∧ ∃ p ∈ L, p.1 = q ∧ z = Tup.mk p.2) (M.map fun p => Value.ref p.1) (M.map fun p => Tup.mk p.2) := fun M => by
      induction M with
      | nil => exact fun _ => .nil
      | cons p M ih => exact fun h => .cons ⟨p.1, rfl, p, h p List.mem_cons_self, rfl, rfl⟩ (ih fun q hq => h q (List.mem_cons_of_mem _ hq))
    rw [hvs, hzs]
    exact key L2 fun p hp => pm2.mem_iff.mp hp
  have kp : ∀ b o, s.heap.get? b = some o → (PySem.W.sortingHeap (s1.heap.push (seqObj "list" vs.toArray 0)) s1.heap.objs.size vs).get? b = some o := fun b o e => PySem.W.sortingHeap_old (Nat.ne_of_lt (Heap.lt_size (k1 b o e))) (Heap.get?_push_of_some _ (k1 b o e))
  have hR : PySem.W.EachIs (fun u (z : Tup Str) => ∃ as, Reads (PySem.W.sortingHeap (s1.heap.push (seqObj "list" vs.toArray 0)) s1.heap.objs.size vs) u (Datum.toD z) as) vs zs := hE.mono fun u z ⟨q, e, p, hp, e2, e3⟩ => by
    rw [e, ← e2, e3]
    exact rd p hp _ kp
  have hal2 : PySem.W.AllAlike (zs.map (Datum.toD (α := Tup Str))) := PySem.W.AllAlike.of fun b b' => DatumOrd.alike b b'
  have hbd : ∀ b, b ∈ zs → A.units + 2 + (Datum.toD b).depth < cLine := fun b _ => by
    have h5 := Datum.depth_le b
    have h6 : Datum.depth (Tup Str) ≤ 64 := by decide
    omega
  refine wpAny_bind (wpAny_holding (wpAny_call_entry slot_list_sort ⟨_, hoL, rfl⟩ entry_list_sort ?body (args_list_sort _)))
  case body =>
    show wpAny _ A.in1.in1 (Builtin.«list.sort» ⟨[.ref s1.heap.objs.size], []⟩) _ _ _
    refine PySem.W.list_sort_vals (n := 0) (s := { s1 with heap := s1.heap.push (seqObj "list" vs.toArray 0) }) hoL (sortsAt_any (PySem.W.each_map (R := fun v d => ∃ as, Reads (PySem.W.sortingHeap (s1.heap.push (seqObj "list" vs.toArray 0)) s1.heap.objs.size vs) v d as) Datum.toD hR) hal2 (.inr (allTup_tup zs)) (PySem.W.bound_map hbd)) hL ?_
    have hs := PySem.W.sortVals_data (h' := PySem.W.sortingHeap (s1.heap.push (seqObj "list" vs.toArray 0)) s1.heap.objs.size vs) (enc := Datum.toD (α := Tup Str)) false hE hR hal2
    rw [dataLe_lt] at hs
    obtain ⟨qs, e1, e2⟩ := each_refsP hs
    rw [e1]
    obtain ⟨en, hen⟩ := PyProof.Rows.sortedHeap_at (vs := vs) (out := (qs.map Value.ref).toArray) hoL
    refine ⟨_, rfl, wpAny_pure ⟨_, rfl, ?_⟩⟩
    refine hQ _ _ L2 qs en pm2 (fun b u e => ?_) g1 o1 hz hen (by rw [hzs] at e2; exact e2)
    have q := k1 b u e
    have hlt := Heap.lt_size q
    rw [PyProof.Rows.sortedHeap_old (Nat.ne_of_lt hlt) (by rw [size_push']; exact Nat.lt_succ_of_lt hlt)]
    exact Heap.get?_push_of_some _ q
end
end Ob
set_option Elab.async false
set_option linter.all false
set_option maxRecDepth 100000
set_option maxHeartbeats 4000000
/-! Tu3: sorted(set(xs)) of a list of tuples of texts, the reading and its rule. -/
namespace Ob
open PySem PySem.Spec PyProof.Rows L2 PySem.Froz
open Evl (Ex)
open PySem.W (Datum Tup DatumOrd)
def tSortStT (K : PySem.W.Frag) (ta : TE) : TE := fun σ H Q => ta σ H fun x H1 => ∃ (l : Addr) (ks : List (Addr × List Str)), x = .ref l ∧ SqL K H1 l (ks.map fun p => V.ref p.1) ∧ (∀ p ∈ ks, H1 p.1 = some (.tup (p.2.map V.str))) ∧
  (∀ M : List (List Str), M.Nodup → (∀ k ∈ M, k ∈ ks.map (·.2)) → M.length + 1 < 64) ∧
  ∀ (L2 : List (Addr × List Str)) (qs : List Addr) (p : Addr), (L2.map (·.2)).Nodup → (∀ k, k ∈ L2.map (·.2) ↔ k ∈ ks.map (·.2)) → Paired (fun (q : Addr) (z : Tup Str) => ∃ p ∈ ks, p.1 = q ∧ z = Tup.mk p.2) qs (sortD (L2.map fun p => Tup.mk p.2)) → H1 p = none → Q (.ref p) (upd H1 p (.lst (qs.map V.ref)))
theorem vrefs_of : ∀ {ks : List (Addr × List Str)} {us : List Value}, Vals (ks.map fun p => V.ref p.1) us → us = ks.map fun p => Value.ref p.1
  | [], _, .nil => rfl
  | _ :: _, _, .cons r t => by rw [vrefs_of t, show _ = Value.ref _ from r]; rfl
theorem items_vals {P : Program} {w : World} : ∀ {k : List Str} {us : List Value}, Vals (k.map V.str) us → ItemsAre (PySem.strKind P w) k us
  | [], _, .nil => .nil
  | x :: k, _, .cons ⟨t, e⟩ r => by
    rw [e]
    exact .cons (is_str x t) (items_vals r)
section
variable {X : Cx}
theorem inv_tupS {pins : List (Addr × Obj)} {σ : L2.St} {H : Hp} {s : Shared} (I : Inv X pins σ H s) {b : Addr} {k : List Str} (h : H b = some (.tup (k.map V.str))) : TupS X.prog X.w s.heap k b := by
  obtain ⟨hz, us, hv, o, ho, hc, n, hd⟩ := (I.hok b _ h)
  exact ⟨o, us.toArray, n, ho, hc, hd, by simpa using items_vals hv⟩
theorem pe_sortStT {a : Expr} {ta : TE} {p p2 q pos : Pos} (hc : X.calm = true) (hu : X.A.units + 150 < cLine) (hg : Gl X "sorted") (hm : X.mg "sorted" = none) (hg2 : Gl X "set") (hm2 : X.mg "set" = none) (ha : PE X a ta)
    (na : starEach [a] X.env = (false, eval a X.env) :: starEach [] X.env := by rfl) : PE X (.Call (.Name "sorted" p) [.Call (.Name "set" p2) [a] [] q] [] pos) (tSortStT X.K ta) := by
  refine ⟨fun pins s σ H Q I h => ?_⟩
  refine Call_ (ld_blt I hg hm (show bootBuiltins "sorted" = some (.builtin "sorted") by decide +kernel) ?_)
  refine PyProof.Rows.callWith_builtin1 (PyProof.Rows.args_cons ?_ rfl) rfl rfl
  refine Call_ (ld_blt I hg2 hm2 boot_set ?_)
  refine PyProof.Rows.callWith_type1 (PyProof.Rows.args_cons (thn (ha.run pins s σ H _ I h) fun v s1 ⟨x, H1, I1, r1, q1⟩ => PyProof.Rows.args_nil ?_) na) na rfl
  obtain ⟨l, ks, rfl, hq, htup, few, q1⟩ := q1
  cases r1
  obtain ⟨its, r, pl, hz⟩ := I1.list hq
  have hr := vrefs_of r
  refine tset_call ks (I1.ok.hd hc) (by omega) pl.isList (by simpa using hr) (fun p hp => inv_tupS I1 (htup p hp)) few fun h' tk R hk => ?_
  obtain ⟨L, es, ep, t, G, R⟩ := R
  refine PyProof.Rows.args_nil ?_
  have I2 : Inv X pins σ H1 { s1 with heap := h', toks := tk } := I1.kept hk
  have hll : L.length < 64 := by
    have := few (L.map (·.2)) R.nd fun k hk => by
      obtain ⟨p, hp, rfl⟩ := List.mem_map.mp hk
      exact List.mem_map.mpr ⟨p, G.sub p hp, rfl⟩
    rw [List.length_map] at this
    omega
  refine tset_sorted (s := { s1 with heap := h', toks := tk }) R (I1.ok.hd hc) hll (by omega) (fun p hp h2 hk2 => ?_) fun s' pp L2 qs c pm k g o hp hgt he => ?_
  · have hq := htup p (G.sub p hp)
    obtain ⟨as, hr2⟩ := Dp.reads (X := X) I2 (Datum.toD (Tup.mk p.2)) (.ref p.1) (.ref p.1) (Dq.dp _ _ ((at_tup (K := X.K) (H := H1)).mpr ⟨p.1, _, rfl, hq, at_strs p.2⟩)) rfl
    exact ⟨as, PyProof.Rows.Reads.keeps hk2 hr2⟩
  · have hql : qs.length = L2.length := by rw [he.length, sortD_len, List.length_map]
    have hlen : (qs.map V.ref).length ≤ sizeLine := by
      rw [List.length_map, hql, pm.length_eq, sizeLine_eq]
      omega
    have hn : H1 pp = none := I2.hok.fresh hp
    have J : Inv X pins σ (upd H1 pp (.lst (qs.map V.ref))) { ({ s1 with heap := h', toks := tk } : Shared) with heap := s'.heap, gens := s'.gens, drawn := s'.drawn, toks := s'.toks } :=
      Inv.call (s := { s1 with heap := h', toks := tk }) I2 (ch := []) (Un.laid k hp hn) (I2.hok.laid k hp ⟨hlen, qs.map Value.ref, c, vals_refs qs, hgt⟩) (by rw [g]; exact I2.bare) (fun _ z => nomatch z)
    have e : s' = { s1 with heap := s'.heap, gens := s'.gens, drawn := s'.drawn, toks := s'.toks } := by
      cases s'
      cases s1
      cases o
      rfl
    rw [e]
    refine ⟨.ref pp, _, J, rfl, q1 L2 qs pp ((pm.map _).nodup_iff.mpr R.nd) (fun z => ?_) (Paired.mapP he fun q z ⟨p, hp, e1, e2⟩ => ⟨p, G.sub p hp, e1, e2⟩) hn⟩
    rw [(pm.map (·.2)).mem_iff, G.all z, List.take_length]
end
section
variable {K : PySem.W.Frag} {σ : L2.St} {B : Hp} {te : TE}
theorem e_sortStT {xs zs : List (Tup Str)} (h : Pe K te σ B xs) (nd : zs.Nodup) (hm : ∀ z, z ∈ zs ↔ z ∈ xs) (hs : sortD zs = zs) (hl : zs.length < 63) : Pe K (tSortStT K te) σ B zs := fun H e Q q => h H e _ fun v B1 H1 u hv => by
  obtain ⟨a, vs, rfl, hsq, hx⟩ := at_list.mp hv
  obtain ⟨ks, hk1, hk2, hk3⟩ : ∃ ks : List (Addr × List Str), vs = ks.map (fun p => V.ref p.1) ∧ xs = ks.map (fun p => Tup.mk p.2) ∧ ∀ p ∈ ks, B1 p.1 = some (.tup (p.2.map V.str)) := by
    have key : ∀ {vs : List V} {xs : List (Tup Str)}, AtAll K B1 vs xs → ∃ ks : List (Addr × List Str), vs = ks.map (fun p => V.ref p.1) ∧ xs = ks.map (fun p => Tup.mk p.2) ∧ ∀ p ∈ ks, B1 p.1 = some (.tup (p.2.map V.str)) := fun {vs xs} h => by
      induction h with
      | nil => exact ⟨[], rfl, rfl, fun p hp => nomatch hp⟩
      | @cons v z vs xs a _ ih =>
        obtain ⟨ks, i1, i2, i3⟩ := ih
        obtain ⟨q, us, rfl, hq, hz⟩ := at_tup.mp a
        rw [atAll_strs hz] at hq
        refine ⟨(q, z.items) :: ks, by rw [i1]; rfl, by rw [i2]; rfl, fun p hp => ?_⟩
        rcases List.mem_cons.mp hp with e | hp
        · subst e
          exact hq
        · exact i3 p hp
    exact key hx
  have hmem : ∀ k : List Str, Tup.mk k ∈ zs ↔ k ∈ ks.map (·.2) := fun k => by
    rw [hm, hk2, List.mem_map, List.mem_map]
    exact ⟨fun ⟨p, hp, e⟩ => ⟨p, hp, by injection e⟩, fun ⟨p, hp, e⟩ => ⟨p, hp, by rw [e]⟩⟩
  refine ⟨a, ks, rfl, by rw [← hk1]; exact Evl.ex_l u.bh hsq, fun p hp => u.bh _ _ (hk3 p hp), fun M ndM hM => ?_, fun L2 qs p n1 n2 n3 n4 => ?_⟩
  · have h1 : (M.map Tup.mk).Nodup := List.Pairwise.map _ (fun a b hne e => hne (by injection e)) ndM
    have h2 := h1.length_le_of_subset (l₂ := zs) fun z hz => by
      obtain ⟨k, hk, rfl⟩ := List.mem_map.mp hz
      exact (hmem k).mpr (hM k hk)
    rw [List.length_map] at h2
    omega
  · have hz : sortD (L2.map fun p => Tup.mk p.2) = zs := by
      rw [← hs]
      refine sortT_perm ((List.perm_ext_iff_of_nodup ?_ nd).mpr fun z => ?_)
      · have := List.Pairwise.map (R := fun a b => a ≠ b) (S := fun a b => a ≠ b) (Tup.mk (α := Str)) (fun a b hne e => hne (by injection e)) n1
        rwa [List.map_map] at this
      · obtain ⟨z⟩ := z
        rw [hmem z, ← n2 z, List.mem_map, List.mem_map]
        exact ⟨fun ⟨p, hp, e⟩ => ⟨p, hp, by injection e⟩, fun ⟨p, hp, e⟩ => ⟨p, hp, by rw [e]⟩⟩
    rw [hz] at n3
    have u2 := Up.new (o := .lst (qs.map V.ref)) u.bh n4
    refine q (.ref p) _ _ (u.trans u2) (at_list.mpr ⟨p, _, rfl, Evl.sq_of upd_same, AtAll.mono u2.bb ?_⟩)
    have key : ∀ {qs : List Addr} {zs : List (Tup Str)}, Paired (fun (q : Addr) (z : Tup Str) => ∃ p ∈ ks, p.1 = q ∧ z = Tup.mk p.2) qs zs → AtAll K B1 (qs.map V.ref) zs := fun {qs zs} h => by
      induction h with
      | nil => exact .nil
      | cons a t ih =>
        obtain ⟨p, hp, rfl, rfl⟩ := a
        exact .cons (at_tup.mpr ⟨_, _, rfl, hk3 p hp, at_strs _⟩) ih
    exact key n3
end
end Ob
set_option Elab.async false
set_option linter.all false
set_option maxRecDepth 100000
set_option maxHeartbeats 4000000
/-! Eu (split off Et): rules for the last defs. -/
namespace Ob
open PySem L2
open Evl (Ex)
open PySem.W (Datum Tup DatumOrd)
section
variable {K : PySem.W.Frag} {W0 : List Addr} {B0 H0 : Hp} {os : List OC} {Γ : List (Option Cell)} {σ : L2.St} {B H B1 H1 : Hp} {te ta tb tc tk tv : TE} {tt tt1 : TT} {D : Ends} {tu tw tz : TS} {b : Addr} {c n : Int}
theorem Pb.map {α β : Type} [Rep α] [Rep β] {R : α → Prop} {R' : β → Prop} (f : α → β) (h : Pb K b n te σ B R) (k : ∀ x, R x → R' (f x)) (hk : ∀ {H v x}, Rep.at_ K H v x → Rep.at_ K H v (f x)) : Pb K b n te σ B R' := fun H c e bx hc Q q => h H c e bx hc Q fun v x B2 H2 u ub r hv => q v (f x) B2 H2 u ub (k x r) (hk hv)
end
end Ob
set_option Elab.async false
set_option linter.all false
set_option maxRecDepth 100000
set_option maxHeartbeats 4000000
/-! E83: _law_right of k83. -/
namespace Ob
open PySem L2
open Evl (Ex)
open PySem.W (Datum Tup DatumOrd)
/-! plain -/
theorem endsE_watch {rv : Str → List Str} {sw w w' st : List Str} (h : ∀ x, x ∈ w ↔ x ∈ w') (shown : List (List Str)) : endsE rv sw w st shown = endsE rv sw w' st shown := by
  have e : shO w = shO w' := by
    funext st
    unfold shO
    exact List.filter_congr fun x _ => decide_eq_decide.mpr (h x)
  unfold endsE nbE
  rw [e]
theorem endsS_watch {rv : Str → List Str} {sw w w' st : List Str} (h : ∀ x, x ∈ w ↔ x ∈ w') (shown : List (List Str)) : endsS rv sw w st shown = endsS rv sw w' st shown := by
  have e : shO w = shO w' := by
    funext st
    unfold shO
    exact List.filter_congr fun x _ => decide_eq_decide.mpr (h x)
  unfold endsS waysE nbE
  rw [e]
theorem every_len {rv : Str → List Str} {sw w st : List Str} : ∀ n, (everyG rv sw w st n).length ≤ sw.length ^ n
  | 0 => Nat.le_refl _
  | n + 1 => by
    have h := grp_len (Z := longZ rv sw w (everyG rv sw w st n)) (d := ([] : List (List (List Str) × List (List Str))))
    rw [longZ_len, every_tot, ← Nat.pow_succ, List.length_nil, Nat.zero_add] at h
    exact h
theorem ends_lamps {p : Pan} {w st : List Str} (irr : ∀ e ∈ p.ex, e.1 ≠ e.2) (h : StOk p st) (shown : List (List Str)) : endsE (rvs p) p.sw w st shown ≠ [] → ∀ t ∈ shown, ∃ a, StOk p a ∧ t = shO w a := by
  refine snoc_ind (P := fun shown => endsE (rvs p) p.sw w st shown ≠ [] → ∀ t ∈ shown, ∃ a, StOk p a ∧ t = shO w a) (fun _ t ht => nomatch ht) (fun xs x ih hne t ht => ?_) shown
  obtain ⟨a, ha⟩ := List.exists_mem_of_ne_nil _ hne
  rw [endsE_snoc, List.mem_flatMap] at ha
  obtain ⟨e, he, ha⟩ := ha
  obtain ⟨ha1, ha2⟩ := List.mem_filter.mp ha
  rcases List.mem_append.mp ht with ht | ht
  · exact ih (List.ne_nil_of_mem he) t ht
  · obtain ⟨y, hy, rfl⟩ := List.mem_map.mp ha1
    exact ⟨_, wp_st irr (endsE_ok irr h xs e he) hy, by rw [List.mem_singleton.mp ht]; exact (of_decide_eq_true ha2).symm⟩
theorem cut_subE {α : Type} (xs : List α) (k : Int) : (cutA xs none (some k)).Sublist xs := (List.take_sublist _ _).trans (List.drop_sublist _ _)
theorem dkTE {n : Nat} {ts : List (Tup Str)} (h : ts.length ≤ 1000000) (hl : ∀ t ∈ ts, t.items.length ≤ 1000000) : DOk (n + 2) (Datum.toD ts) := ⟨by show (ts.map Datum.toD).length ≤ _; rw [List.length_map]; exact h, fun d hd => by
  obtain ⟨t, ht, rfl⟩ := List.mem_map.mp hd
  exact dkT (hl t ht)⟩
theorem dkKE {n : Nat} {k : List (List Str)} (h : k.length ≤ 1000000) (hl : ∀ t ∈ k, t.length ≤ 1000000) : DOk (n + 2) (Datum.toD (keyN k)) := ⟨by show ((k.map Tup.mk).map Datum.toD).length ≤ _; rw [List.length_map, List.length_map]; exact h, fun d hd => by
  obtain ⟨t, ht, rfl⟩ := List.mem_map.mp hd
  obtain ⟨s, hs, rfl⟩ := List.mem_map.mp ht
  exact dkT (hl s hs)⟩
/-- a key as a list of lists, however written -/
abbrev sqK (k : List (List Str)) : Sq (Sq Str) := Sq.mk (k.map Sq.mk)
theorem itm_sqK (k : List (List Str)) : (sqK k).items.map (·.items) = k := by
  show (k.map Sq.mk).map (·.items) = k
  rw [List.map_map]
  exact List.map_id' _
section
variable {K : PySem.W.Frag} {H : Hp} {v : V}
theorem sqK_all {k : List (List Str)} : ∀ {vs : List V}, AtAll K H vs (k.map Tup.mk) → AtAll K H vs (k.map Sq.mk) := by
  induction k with
  | nil => intro vs h; cases h; exact .nil
  | cons x xs ih => intro vs h; cases h with
    | cons a t => exact .cons (sq_tup a) (ih t)
theorem sqK_tup {k : List (List Str)} (h : Rep.at_ K H v (keyN k)) : Rep.at_ K H v (sqK k) := by
  obtain ⟨a, vs, rfl, hs, hx⟩ := at_tup.mp h
  exact ⟨a, vs, rfl, .inr hs, sqK_all hx⟩
theorem sqK_list {k : List (List Str)} (h : Rep.at_ K H v (k.map Tup.mk)) : Rep.at_ K H v (sqK k) := by
  obtain ⟨a, vs, rfl, hs, hx⟩ := at_list.mp h
  exact ⟨a, vs, rfl, .inl hs, sqK_all hx⟩
theorem sqK_dq : ∀ {vs : List V} {k : List (List Str)}, DqAll K H vs (k.map fun t => .list (t.map .str)) → AtAll K H vs (k.map Sq.mk)
  | _, [], h => by
    cases h
    exact .nil
  | _, x :: xs, h => by
    have h' : DqAll K H _ (.list (x.map .str) :: xs.map fun t => .list (t.map .str)) := h
    cases h' with
    | cons d1 d2 =>
      cases d1 with
      | lst s1 k1 => exact .cons ⟨_, _, rfl, .inl s1, dd_strs (v := .non) k1⟩ (sqK_dq d2)
theorem sqK_dd {k : List (List Str)} (h : Rep.at_ K H v (DD.mk (listyN 5 (Datum.toD (keyN k))))) : Rep.at_ K H v (sqK k) := by
  have e : listyN 5 (Datum.toD (keyN k)) = .list (k.map fun t => .list (t.map .str)) := by
    show PyData.list (((k.map Tup.mk).map Datum.toD).map (listyN 4)) = _
    rw [List.map_map, List.map_map]
    congr 1
    refine List.map_congr_left fun t _ => ?_
    show PyData.list ((t.map Datum.toD).map (listyN 3)) = _
    rw [List.map_map]
    rfl
  have h' : Dq K H v (.list (k.map fun t => .list (t.map .str))) := e ▸ h
  cases h' with
  | lst s d => exact ⟨_, _, rfl, .inl s, sqK_dq d⟩
end
section
variable {K : PySem.W.Frag} {W0 : List Addr} {B0 H0 : Hp} {os : List OC} {Γ : List (Option Cell)} {σ : L2.St} {B H B1 H1 : Hp} {te ta tb tc td tk tv t1 t2 t3 t4 : TE} {tt : TT} {D : Ends} {tu tw tz : TS} {b : Addr} {c n m : Int}
variable {α β γ δ ε : Type} [Rep α] [Rep β] [Rep γ] [Rep δ] [Rep ε]
theorem e_kw4E {E : XK} {pre : α → β → γ → δ → Prop} {f : α → β → γ → δ → ε} {x : α} {y : β} {z : γ} {t : δ} (h : Pe K t1 σ B x) (h2 : Pe K t2 σ B y) (h3 : Pe K t3 σ B z) (h4 : Pe K t4 σ B t) (hp : pre x y z t) : Pe K (tCallN 0 4 (Fn4 K pre f) (fun _ zs => permL [3, 2, 1, 0] zs) E tNil (tCons t4 (tCons t3 (tCons t2 (tCons t1 tNil))))) σ B (f x y z t) := fun H e Q q => by
  show tCons t4 (tCons t3 (tCons t2 (tCons t1 tNil))) σ H (fun zs H2 => ([] : List V).length = 0 ∧ zs.length = 4 ∧ Fn4 K pre f (permL [3, 2, 1, 0] zs) H2 Q E)
  refine a_4 h4 h3 h2 h H e _ fun vs B1 H1 u hv => ?_
  obtain ⟨v, _, rfl, k1, w, _, rfl, k2, t', _, rfl, k3, r, _, rfl, k4, rfl⟩ := hv
  exact ⟨rfl, rfl, x, y, z, t, B1, u.bh, ⟨r, _, rfl, k4, t', _, rfl, k3, w, _, rfl, k2, v, _, rfl, k1, rfl⟩, hp, fun v B2 H2 u2 h2 => q v B2 H2 (u.trans u2) h2⟩
theorem e_dlE {a b : PyData} (h : Pe K ta σ B (DD.mk a)) (h2 : Pe K tb σ B (DD.mk b)) : Pe K (tLst (tCons ta (tCons tb tNil))) σ B (DD.mk (.list [a, b])) := e_lstD (pad_cons h fun _ e => pad_cons (h2.mono e) fun _ _ => pad_nil) (by show 2 ≤ _; decide)
theorem e_ix0E {a b : PyData} (h : Pe K ta σ B (DD.mk (.list [a, b]))) : Pe K (tOp (rIxU K) ta (tC (.int 0))) σ B (DD.mk a) := fun H e Q q => h H e _ fun v B1 H1 u hv => by
  have h' : Dq K B1 v (.list [a, b]) := hv
  cases h' with
  | lst s d =>
    cases d with
    | cons d1 d2 => exact .inl ⟨_, _, 0, _, rfl, rfl, Evl.ex_l u.bh s, atI_nat (by decide) rfl, q _ B1 H1 u d1⟩
theorem b_slE {α : Type} [DecidableEq α] [Datum α] {R : List α → Prop} {R2 : Int → Prop} (h : Pb K b n ta σ B R) (hb : Pb K b m tb σ B R2) (hm : 0 ≤ m) : Pb K b (n + m) (tSl (rSlU K) ta tNoPart (tPart tb)) σ B (fun ys : List α => ∃ xs k, R xs ∧ R2 k ∧ ys = cutA xs none (some k)) := fun H c e bx hc Q q =>
  h H c e bx (by omega) _ fun v xs B1 H1 u1 bx1 r1 hv => (hb.mono u1.bb) H1 (c + n) u1.bh bx1 (by omega) _ fun w k B2 H2 u2 bx2 r2 hw => by
  have hv2 : Rep.at_ K B2 v xs := Rep.mono u2.bb hv
  rw [show c + n + m = c + (n + m) by omega] at bx2
  have key : tSl (rSlU K) (tC v) tNoPart (tPart (tC w)) σ H2 Q := (e_slL (e_const hv2) o_none (o_some (e_const hw))) H2 u2.bh Q fun z B3 H3 u3 hz => q z _ B3 H3 ((u1.trans bx1.ne u2).up bx2.ne u3) (u3.box bx2) ⟨xs, k, r1, r2, rfl⟩ hz
  exact key
theorem b_tupE {α : Type} [DecidableEq α] [Datum α] {R : List α → Prop} (h : Pb K b n ta σ B R) : Pb K b n (tCB (rTupleU K) (tCons ta tNil)) σ B (fun t : Tup α => R t.items) := fun H c e bx hc Q q =>
  h H c e bx hc _ fun v xs B1 H1 u1 bx1 r1 hv => by
    have key : (tCB (rTupleU K) (tCons (tC v) tNil)) σ H1 Q := (e_tupL (e_const hv)) H1 u1.bh Q fun z B3 H3 u3 hz => q z _ B3 H3 (u1.up bx1.ne u3) (u3.box bx1) r1 hz
    exact key
theorem St.new1E {i : Nat} {x : α} (s : St K W0 B0 H0 os Γ σ B H) (h : Pe K te σ B x) (k : ∀ l σ1 B1 H1, St K W0 B0 H0 (os ++ [lstC K l [x]]) (cs Γ i (ca l)) σ1 B1 H1 → tz D σ1 H1) : tSeq (tAsg (tLst (tCons te tNil)) (gName i)) tz D σ H :=
  h H s.bh _ fun v B1 H1 u hv => ⟨by show 1 ≤ sizeLine; rw [sizeLine_eq]; decide, fun p hp => by
    have s1 := (s.up u).add hp (lstC K p [x]) rfl (ob := .lst [v]) ⟨[v], rfl, .cons hv .nil⟩
    exact k p _ B1 _ (s1.put (x := Any.mk (.ref p)) i rfl)⟩
/-- xs = [a, b]; if not ..: return; xs[0].append(e): a is a list that nobody else holds, from what wants all tuples frozen -/
theorem St.toldU {i : Nat} {w : Str} {xs : List (Tup Str)} {m : Int} (s : St K W0 B0 H0 os Γ σ B H) (tc0 : TC B0 H0) (hn : ∀ o ∈ os, o.nt) (hW : ∀ a ∈ W0, ∃ o ∈ os, o.l = a) (hi : i < σ.length) (h1 : PeUF K ta σ (wide B H) H xs) (h2 : Pe K tb σ B m) (hz : xs.length ≤ 1000000)
    (ht : ∀ σ' B' H', St K W0 B0 H0 os (cs Γ i (ce (DD.mk (.list [Datum.toD xs, .int m])))) σ' B' H' → Ob.Pt tt σ' B' false) (k : ∀ σ1 B1 H1, St K W0 B0 H0 os (cs Γ i none) σ1 B1 H1 → tz D σ1 H1) :
    tSeq (tAsg (tLst (tCons ta (tCons tb tNil))) (gName i)) (tSeq (tIfS tt tu tNext) (tSeq (tDrop (tBM K "list" rAppend (tOp (rIxU K) (tVar i) (tC (.int 0))) (tCons (tC (.str w)) tNil))) tz)) D σ H := by
  have s0 := s.tcAll tc0 hn hW
  have bw : Ex B (wide B H) := wide_ex s.bh
  refine h1 _ H (Up.refl s0.bh) wide_tc _ fun l us B1 H1 u1 _ hb hh hl hA => ?_
  have u1' := up_lst u1 hb hh hl
  have eb : Ex (wide B H) B1 := u1.bb
  refine (h2.mono (bw.trans u1'.bb)) H1 u1'.bh _ fun v B2 H2 u2 hv => ?_
  refine ⟨by show 2 ≤ sizeLine; rw [sizeLine_eq]; decide, fun p hp => ?_⟩
  have u3 : Up B2 H2 (upd B2 p (.lst [.ref l, v])) (upd H2 p (.lst [.ref l, v])) := Up.new u2.bh hp
  have uu := (u1'.trans u2).trans u3
  have hl1 : Rep.at_ K (upd B2 p (.lst [.ref l, v])) (.ref l) xs := at_list.mpr ⟨l, us, rfl, Evl.sq_of ((u2.bb.trans u3.bb) _ _ upd_same), (hA.mono (Ex.new hb)).mono (u2.bb.trans u3.bb)⟩
  have s3 := (s0.up uu).put (x := DD.mk (.list [Datum.toD xs, .int m])) i (v := .ref p) (Dq.lst (Evl.sq_of upd_same) (.cons (show Dq K _ _ (Datum.toD xs) from hl1) (.cons (show Dq K _ _ (Datum.toD m) from Rep.mono u3.bb hv) .nil)))
  refine (ht _ _ _ s3) _ s3.bh _ fun B4 H4 u4 => ?_
  have hp4 : H4 p = some (.lst [.ref l, v]) := u4.hh _ _ upd_same
  have hl4 : H4 l = some (.lst us) := u4.hh _ _ (u3.hh _ _ (u2.hh _ _ hl))
  have key : tBM K "list" rAppend (tOp (rIxU K) (tVar i) (tC (.int 0))) (tCons (tC (.str w)) tNil) (σ.set i (some (.ref p))) H4 (fun _ H' => tz D (σ.set i (some (.ref p))) H') := by
    refine ⟨_, List.getElem?_set_self hi, ?_⟩
    refine .inl ⟨p, [.ref l, v], 0, .ref l, rfl, rfl, Evl.sq_of hp4, rfl, ?_⟩
    refine ⟨.inl ⟨rfl, us, Evl.sq_of hl4⟩, l, us, .str w, rfl, rfl, hl4, Nat.lt_of_le_of_lt (by rw [hA.length]; exact hz) (by rw [sizeLine_eq]; decide), ?_⟩
    have u5 := up_chg (o := .lst (us ++ [.str w])) s0.bh hh (uu.trans u4)
    exact k _ _ _ ((s0.up u5).slot (s0.sl.put i At1.none))
  exact key
/-- if a or not b: return; a reads what stands, b wants all tuples frozen -/
theorem St.noUor {x y : TE} (s : St K W0 B0 H0 os Γ σ B H) (tc0 : TC B0 H0) (hn : ∀ o ∈ os, o.nt) (hW : ∀ a ∈ W0, ∃ o ∈ os, o.l = a) {sp : Sp} {E : XK} {d : List (Tup Str)} (h1 : Ob.Pt tt σ B false) (h2 : ∀ B' H', St K W0 B0 H0 os Γ σ B' H' → PeU K x σ (wide B' H') H' d) (h3 : ∀ v B' H', St K W0 B0 H0 os Γ σ B' H' → Rep.at_ K B' v d → Pe K (tCall sp [] E (tCons (tC v) (tCons y tNil))) σ B' true)
    (k : ∀ B1 H1, St K W0 B0 H0 os Γ σ B1 H1 → tw D σ H1) : tIfS (tOr tt (tNot (tB (tCall sp [] E (tCons x (tCons y tNil)))))) tu tw D σ H := by
  refine h1 H s.bh (fun b H1 => if b = true then tu D σ H1 else (tNot (tB (tCall sp [] E (tCons x (tCons y tNil))))) σ H1 fun b H2 => if b = true then tu D σ H2 else tw D σ H2) fun B1 H1 u1 => ?_
  have s1 := s.up u1
  exact s1.useU (Q := fun v H2 => (tNot (tB (tCall sp [] E (tCons (tC v) (tCons y tNil))))) σ H2 fun b H3 => if b = true then tu D σ H3 else tw D σ H3) tc0 hn hW (h2 _ _ s1) fun v B2 H2 _ s2 hv => (t_not (t_B (h3 v B2 H2 s2 hv))) H2 s2.bh (fun b H3 => if b = true then tu D σ H3 else tw D σ H3) fun B3 H3 u3 => k B3 H3 (s2.up u3)
theorem St.new1U {i : Nat} {x : List (Tup Str)} (s : St K W0 B0 H0 os Γ σ B H) (tc : TC B0 H0) (hn : ∀ o ∈ os, o.nt) (hW : ∀ a ∈ W0, ∃ o ∈ os, o.l = a) (h : PeU K te σ (wide B H) H x) (k : ∀ l σ1 B1 H1, St K W0 B0 H0 (os ++ [lstC K l [DD.mk (Datum.toD x)]]) (cs Γ i (ca l)) σ1 B1 H1 → tz D σ1 H1) : tSeq (tAsg (tLst (tCons te tNil)) (gName i)) tz D σ H := s.useU (Q := fun v H1 => tSeq (tAsg (tLst (tCons (tC v) tNil)) (gName i)) tz D σ H1) tc hn hW h fun v B1 H1 _ s1 hv => s1.new1E (x := DD.mk (Datum.toD x)) (e_const hv) k
theorem St.set2U {i : Nat} {x : List (Tup Str)} {m : Int} (s : St K W0 B0 H0 os Γ σ B H) (tc : TC B0 H0) (hn : ∀ o ∈ os, o.nt) (hW : ∀ a ∈ W0, ∃ o ∈ os, o.l = a) (h : PeU K te σ (wide B H) H x) (h2 : ∀ B' H', St K W0 B0 H0 os Γ σ B' H' → Pe K tb σ B' m) (k : ∀ σ1 B1 H1, St K W0 B0 H0 os (cs Γ i (ce (DD.mk (.list [Datum.toD x, .int m])))) σ1 B1 H1 → tz D σ1 H1) : tSeq (tAsg (tLst (tCons te (tCons tb tNil))) (gName i)) tz D σ H := s.useU (Q := fun v H1 => tSeq (tAsg (tLst (tCons (tC v) (tCons tb tNil))) (gName i)) tz D σ H1) tc hn hW h fun v B1 H1 _ s1 hv => s1.set (x := DD.mk (.list [Datum.toD x, .int m])) (e_dlE (e_dd (e_const hv)) (e_dd (h2 B1 H1 s1))) k
theorem e_lst3E {α : Type} [DecidableEq α] [Datum α] {x y z : α} (h1 : Pe K ta σ B x) (h2 : Pe K tb σ B y) (h3 : Pe K tc σ B z) : Pe K (tLst (tCons ta (tCons tb (tCons tc tNil)))) σ B [x, y, z] := fun H e Q q =>
  (a_3 h1 h2 h3) H e (fun vs H1 => vs.length ≤ sizeLine ∧ ∀ p, H1 p = none → Q (.ref p) (upd H1 p (.lst vs))) fun vs B1 H1 u hv => by
    obtain ⟨v, _, rfl, k1, v2, _, rfl, k2, v3, _, rfl, k3, rfl⟩ := hv
    refine ⟨by show 3 ≤ sizeLine; rw [sizeLine_eq]; decide, fun p hp => ?_⟩
    have w := Up.new (o := .lst [v, v2, v3]) u.bh hp
    exact q _ _ _ (u.trans w) (at_list.mpr ⟨p, _, rfl, Evl.sq_of upd_same, AtAll.mono w.bb (.cons k1 (.cons k2 (.cons k3 .nil)))⟩)
theorem e_tup2E {α : Type} [DecidableEq α] [Datum α] {x y : α} (h1 : Pe K ta σ B x) (h2 : Pe K tb σ B y) : Pe K (tTup (tCons ta (tCons tb tNil))) σ B (Tup.mk [x, y]) := fun H e Q q =>
  (a_2 h1 h2) H e (fun vs H1 => vs.length ≤ sizeLine ∧ ∀ p, H1 p = none → Q (.ref p) (upd H1 p (.tup vs))) fun vs B1 H1 u hv => by
    obtain ⟨v, _, rfl, k1, v2, _, rfl, k2, rfl⟩ := hv
    refine ⟨by show 2 ≤ sizeLine; rw [sizeLine_eq]; decide, fun p hp => ?_⟩
    have w := Up.new (o := .tup [v, v2]) u.bh hp
    exact q _ _ _ (u.trans w) (at_tup.mpr ⟨p, _, rfl, upd_same, AtAll.mono w.bb (.cons k1 (.cons k2 .nil))⟩)
/-- a list of data that changed, from now on data -/
theorem St.frzDE {i k : Nat} {l : Addr} {ds : List PyData} (s : St K W0 B0 H0 os Γ σ B H) (h : os[k]? = some (lstC K l (ds.map DD.mk))) (hi : cg Γ i = ca l) (hw : l ∉ W0) : ∃ B1, Ex B B1 ∧ St K W0 B0 H0 (os.eraseIdx k) (cs Γ i (ce (DD.mk (.list ds)))) σ B1 H := by
  obtain ⟨hb, vs, hl, hA⟩ := s.lst h
  have e : Ex B (upd B l (.lst vs)) := Ex.new hb
  have s2 : Slots K (upd B l (.lst vs)) σ (cs Γ i (ce (DD.mk (.list ds)))) := (s.sl.mono e).re (s.sl.rf i hi) (show Dq K _ (.ref l) (.list ds) from Dq.lst (Evl.sq_of upd_same) (dd_all (hA.mono e)))
  have h0 : H0 l = none := by
    rcases (s.own _ (List.mem_of_getElem? h)).2.1 with z | z
    · exact absurd z hw
    · exact z
  refine ⟨_, e, s.bb.trans e, ex_in s.bh hl, s.hh, s.dm, fun a ha => ?_, fun o ho => ?_, s.nd.sublist ((List.eraseIdx_sublist os k).map _), s2⟩
  · by_cases z : a = l
    · exact .inr (z ▸ h0)
    · rw [upd_ne z] at ha
      exact s.nw a ha
  · have hm := (List.eraseIdx_sublist os k).subset ho
    obtain ⟨g1, g2, w, g3, g4⟩ := s.own o hm
    have ne : o.l ≠ l := by
      intro z
      have nd := s.nd
      have hlt := (List.getElem?_eq_some_iff.mp h).1
      have e1 : os = os.take k ++ lstC K l (ds.map DD.mk) :: os.drop (k + 1) := by
        have e2 : os.drop k = lstC K l (ds.map DD.mk) :: os.drop (k + 1) := by
          rw [List.drop_eq_getElem_cons hlt]
          congr 1
          exact (List.getElem?_eq_some_iff.mp h).2
        rw [← e2, List.take_append_drop]
      rw [List.eraseIdx_eq_take_drop_succ] at ho
      rw [e1, List.map_append, List.map_cons, List.nodup_append, List.nodup_cons] at nd
      rcases List.mem_append.mp ho with w | w
      · exact nd.2.2 _ (List.mem_map.mpr ⟨o, w, z⟩) _ List.mem_cons_self rfl
      · exact nd.2.1.1 (List.mem_map.mpr ⟨o, w, z⟩)
    exact ⟨by rw [upd_ne ne]; exact g1, g2, w, g3, o.mono e g4⟩
end
section
variable {K : PySem.W.Frag} {hs : NestedKey → Int}
def N_Lright : List Str := ["_law_box_here", "_law_wired_here", "_law_table_here", "_law_here", "_law_looked_at", "_law_size", "_law_every", "_law_turn", "_law_lamps", "_law_due", "_law_told", "_law_step", "_law_is_count"]
def t_Lright (K : PySem.W.Frag) (hs : NestedKey → Int) : TS :=
  (tSeq (tAsg (tCall (sp_Lwired K) [] E0 (tCons (tVar 0) (tCons (tC (.int 1)) (tCons (tC (.int 4)) tNil)))) (gName 1))
    (tSeq (tAsg (tCall (sp_Ltable K) [] E0 (tCons (tVar 1) tNil)) (gName 2))
    (tSeq (tAsg (tTup (tCons (tCall (sp_Lstate K) [] E0 (tCons (tVar 0) (tCons (tVar 1) (tCons (tVar 2) tNil)))) (tCons (tSl (rSlU K) (tCall (sp_Lstrewn K) [] E0 (tCons (tVar 0) (tCons (tOp (rIxU K) (tVar 1) (tC (.int 0))) tNil))) tNoPart (tPart (tCall (sp_Ltake K) [] E0 (tCons (tVar 0) (tCons (tOp (rAddU K) (tCB (rLenU K) (tCons (tOp (rIxU K) (tVar 1) (tC (.int 0))) tNil)) (tC (.int 1))) tNil))))) tNil))) (gUnp K 2 (gCons (gName 3) (gCons (gName 4) gNil))))
    (tSeq (tAsg (tCall (sp_Ltake K) [] E0 (tCons (tVar 0) (tCons (tC (.int 5)) tNil))) (gName 5))
    (tSeq (tAsg (tCall (sp_Lby_lamps K hs) [] E0 (tCons (tVar 1) (tCons (tVar 2) (tCons (tVar 3) (tCons (tVar 4) (tCons (tVar 5) tNil)))))) (gName 6))
    (tSeq (tFor (iRng1 (tCons (tC (.int 6)) tNil)) (gName 7) (tSeq (tAsg (tCall (sp_Lof K) [] E0 (tCons (tVar 0) (tCons (tCB (rSortN hs K (Tup Str)) (tCons (tVar 6) tNil)) tNil))) (gName 8))
    (tSeq (tAsg (tLst (tCons (tSortStT K (tOp (rIxR hs) (tVar 6) (tVar 8))) (tCons (tCB (rLenU K) (tCons (tOp (rIxR hs) (tVar 6) (tVar 8)) tNil)) tNil))) (gName 9))
    (tSeq (tAsg (tLst (tCons (tCall (sp_ends_seenF K) [] E0 (tCons (tVar 1) (tCons (tVar 3) (tCons (tVar 4) (tCons (tCB (rListU K) (tCons (tVar 8) tNil)) tNil))))) (tCons (tCall (sp_histories_seen K) [] E0 (tCons (tVar 1) (tCons (tVar 3) (tCons (tVar 4) (tCons (tCB (rListU K) (tCons (tVar 8) tNil)) tNil))))) tNil))) (gName 10))
    (tSeq (tIfS (tNot (tB (tCall (sp_Lsame K) [] E0 (tCons (tVar 10) (tCons (tVar 9) tNil))))) (tRet (tC (.bl false))) tNext)
    (tSeq (tDrop (tBM K "list" (rAppend) (tOp (rIxU K) (tVar 10) (tC (.int 0))) (tCons (tC (.str "more")) tNil)))
    (tSeq (tAsg (tLst (tCons (tCallN 0 4 (sp_ends_seenF K) (fun _ zs => permL [3, 2, 1, 0] zs) E0 tNil (tCons (tCall (sp_Llists K) [] E0 (tCons (tVar 8) tNil)) (tCons (tCB (rTupleU K) (tCons (tVar 4) tNil)) (tCons (tCB (rListU K) (tCons (tVar 3) tNil)) (tCons (tCall (sp_Llists K) [] E0 (tCons (tVar 1) tNil)) tNil))))) tNil)) (gName 10))
    (tSeq (tDrop (tBM K "list" (rAppend) (tVar 10) (tCons (tCallN 0 4 (sp_histories_seen K) (fun _ zs => permL [3, 2, 1, 0] zs) E0 tNil (tCons (tVar 8) (tCons (tRevX K (tVar 4)) (tCons (tVar 3) (tCons (tVar 1) tNil))))) tNil)))
    (tIfS (tOr (tNot (tB (tCall (sp_Lsame K) [] E0 (tCons (tVar 10) (tCons (tVar 9) tNil))))) (tNot (tB (tCall (sp_Lsame K) [] E0 (tCons (tCall (sp_ends_seenF K) [] E0 (tCons (tVar 1) (tCons (tVar 3) (tCons (tVar 4) (tCons (tVar 8) tNil))))) (tCons (tOp (rIxU K) (tVar 9) (tC (.int 0))) tNil)))))) (tRet (tC (.bl false))) tNext)))))))))
    (tSeq (tFor (iRng1 (tCons (tC (.int 3)) tNil)) (gName 7) (tSeq (tAsg (tCB (rTupleU K) (tCons (tLc (iRng1 (tCons (tVar 5) tNil)) (gName 11) tYes (tCall (sp_Lof K) [] E0 (tCons (tVar 0) (tCons (tLst (tCons (tTup tNil) (tCons (tCB (rTupleU K) (tCons (tSl (rSlU K) (tVar 4) tNoPart (tPart (tC (.int 1)))) tNil)) (tCons (tCB (rTupleU K) (tCons (tCB (rSortU K) (tCons (tVar 4) tNil)) tNil)) tNil)))) tNil))) [11]) tNil)) (gName 8))
    (tSeq (tAsg (tGetR hs (tVar 6) (tVar 8) (tLst tNil)) (gName 9))
    (tSeq (tAsg (tLst (tCons (tCall (sp_ends_seenF K) [] E0 (tCons (tVar 1) (tCons (tVar 3) (tCons (tVar 4) (tCons (tVar 8) tNil))))) (tCons (tCall (sp_histories_seen K) [] E0 (tCons (tVar 1) (tCons (tVar 3) (tCons (tVar 4) (tCons (tVar 8) tNil))))) tNil))) (gName 10))
    (tIfS (tNot (tB (tCall (sp_Lsame K) [] E0 (tCons (tVar 10) (tCons (tLst (tCons (tSortStT K (tVar 9)) (tCons (tCB (rLenU K) (tCons (tVar 9) tNil)) tNil))) tNil))))) (tRet (tC (.bl false))) tNext)))))
    (tRet (tOp (rEqP K) (tLc (iSeq K (tTup (tCons (tC (.bl false)) (tCons (tC (.bl true)) tNil)))) (gName 12) tYes (tCall (sp_Lunknown K) [] E0 (tCons (tVar 1) (tCons (tVar 3) (tCons (tOp (rAddU K) (tVar 4) (tLst (tCons (tC (.str "q")) (tCons (tC (.str "qq")) tNil)))) (tCons (tVar 12) tNil))))) [12]) (tLst (tCons (tC (.str "q")) (tCons (tC (.str "q")) tNil))))))))))))
theorem r_Lright (vs : List V) (H : Hp) (Q : VK) (E : XK) (h : sp_Lright K vs H Q E) : t_Lright K hs (Ends.ret Q) (start N_Lright vs) H := by
  obtain ⟨b, B, tc, s, q⟩ := RightP.stT h N_Lright
  refine s.setB (c := 0) (n := 40000) (e_callB2 (i := 0) (b := b) (s.sl.rf 0 rfl) (e_int (i := 1)) (e_int (i := 4)) ⟨by decide, by decide, by decide⟩) (by decide) fun pt hpt σ1 B1 H1 s1 => ?_
  obtain ⟨p, rfl, g⟩ := hpt
  replace s1 : St K [b] B H [boxC b 40000] [ca b, ce p.t, none, none, none, none, none, none, none, none, none, none, none] σ1 B1 H1 := s1
  have okn : PanN p := g.nn (by decide)
  have oks : PanS p := okn.1
  have okp := okn.1.toPanOk
  have gl := g.len
  have el := g.el
  have nsw : p.sw.Nodup := asc_nodup g.asc
  have hz4 : p.sw.length ≤ 4 := by omega
  have hp1 : ∀ {σ : L2.St} {B' : Hp} {Γ : List (Option Cell)}, Slots K B' σ Γ → cg Γ 1 = ce p.t → Pe K (tVar 1) σ B' p := fun sl h => (sl.v (x := p.t) 1 h).imp pan_t
  refine s1.set (x := lawTab p) ((e_call1 (x := p) (f := fun p : Pan => TabR.mk (lawTab p).kvs) (hp1 s1.sl rfl) okp).imp tabR_dic) fun σ2 B2 H2 s2 => ?_
  replace s2 : St K [b] B H [boxC b 40000] [ca b, ce p.t, ce (lawTab p), none, none, none, none, none, none, none, none, none, none] σ2 B2 H2 := s2
  refine s2.unpB (n := 20000) (m := 10001) (R1 := fun st : Tup Str => StOk p st.items) (e_callB2 (i := 0) (b := b) (x := p) (y := lawTab p) (s2.sl.rf 0 rfl) (hp1 s2.sl rfl) (s2.sl.v (x := lawTab p) 2 rfl) ⟨⟨okp, g.irr, by omega⟩, rfl⟩) (b_slE (e_strewn (b := b) (i := 0) (xs := p.sw) (s2.sl.rf 0 rfl) (e_sw (hp1 s2.sl rfl)) (by omega)) (x_take (b := b) (i := 0) rfl s2.sl (e_addI (e_lenSq (e_sw (hp1 s2.sl rfl))) (e_int (i := 1))) (by omega) (by omega)) (by decide)) (by decide) (by decide) fun st w hst hw σ3 B3 H3 s3 => ?_
  obtain ⟨st⟩ := st
  replace hst : StOk p st := hst
  have hwn : w.Nodup ∧ ∀ x ∈ w, x ∈ p.sw := by
    obtain ⟨ys, k, hy, _, rfl⟩ := hw
    exact ⟨((hy.nodup_iff).mpr nsw).sublist (cut_subE ys k), fun x hx => hy.mem_iff.mp ((cut_subE ys k).subset hx)⟩
  have hwl : w.length ≤ 4 := by have := hwn.1.length_le_of_subset hwn.2; omega
  replace s3 : St K [b] B H [boxC b 70001] [ca b, ce p.t, ce (lawTab p), ce (Tup.mk st), ce w, none, none, none, none, none, none, none, none] σ3 B3 H3 := s3
  refine s3.setB (n := 1) (x_take (b := b) (i := 0) rfl s3.sl (e_int (i := 5)) (by decide) (by decide)) (by decide) fun n hn σ4 B4 H4 s4 => ?_
  replace s4 : St K [b] B H [boxC b 70002] [ca b, ce p.t, ce (lawTab p), ce (Tup.mk st), ce w, ce n, none, none, none, none, none, none, none] σ4 B4 H4 := s4
  have hn0 : 0 ≤ n := hn.1
  have hn4 : n ≤ 4 := by have := hn.2; omega
  obtain ⟨L, hL⟩ : ∃ L, L = everyG (rvs p) p.sw w st n.toNat := ⟨_, rfl⟩
  have hby : ByL (rvs p) p.sw w st n.toNat L := hL ▸ every_by _
  have htot : totG L = p.sw.length ^ n.toNat := by rw [hL, every_tot]
  refine s4.set (x := (DicN.mk (mapG Tup.mk L) : DicN hs (List (Tup Str)))) ((e_call5e (x := p) (y := lawTab p) (z := Tup.mk st) (t := w) (w := n) (pre := ByPre) (f := fun p _ st w n => (DicN.mk (everyT p st w n) : DicN hs (List (Tup Str)))) (hp1 s4.sl rfl) (s4.v (x := lawTab p) 2 rfl) (s4.v (x := Tup.mk st) 3 rfl) (s4.v (x := w) 4 rfl) (s4.v (x := n) 5 rfl) ⟨oks, g.irr, hz4, rfl, hst, by omega, hn0, hn4⟩).is (by rw [hL])) fun σ5 B5 H5 s5 => ?_
  obtain ⟨EV, hEV⟩ : ∃ EV : DicN hs (List (Tup Str)), EV = DicN.mk (mapG Tup.mk L) := ⟨_, rfl⟩
  rw [← hEV] at s5
  replace s5 : St K [b] B H [boxC b 70002] [ca b, ce p.t, ce (lawTab p), ce (Tup.mk st), ce w, ce n, ce EV, none, none, none, none, none, none] σ5 B5 H5 := s5
  -- what a key means
  obtain ⟨EE, hEE⟩ : ∃ EE : List (List Str) → List (List Str), EE = fun k => endsE (rvs p) p.sw w st k := ⟨_, rfl⟩
  obtain ⟨ZZ, hZZ⟩ : ∃ ZZ : List (List Str) → List (Tup Str), ZZ = fun k => endsS (rvs p) p.sw w st k := ⟨_, rfl⟩
  have hst3 : st.length ≤ 4 := by have := (asc_nodup hst.1).length_le_of_subset hst.2.1; omega
  have em : ∀ {k : List (List Str)} {w' : List Str}, (∀ x, x ∈ w ↔ x ∈ w') → w'.length ≤ 4 → k.length ≤ 1000 → EmPre p (Sq.mk st) (Sq.mk w') (sqK k) := fun {k w'} h1 h2 h3 => ⟨oks, g.irr, g.asc, by omega, hst, fun x hx => hwn.2 x ((h1 x).mpr hx), by show w'.length ≤ _; omega, by show (List.map Sq.mk _).length ≤ _; rw [List.length_map]; exact h3⟩
  have hE : ∀ {k : List (List Str)} {w' : List Str}, (∀ x, x ∈ w ↔ x ∈ w') → endsP p (Sq.mk st) (Sq.mk w') (sqK k) = EE k := fun {k w'} h => by
    rw [hEE]
    show endsE _ _ _ _ ((sqK k).items.map (·.items)) = _
    rw [itm_sqK]
    exact (endsE_watch h k).symm
  have hS : ∀ {k : List (List Str)} {w' : List Str}, (∀ x, x ∈ w ↔ x ∈ w') → endsSP p (Sq.mk st) (Sq.mk w') (sqK k) = ZZ k := fun {k w'} h => by
    rw [hZZ]
    show endsS _ _ _ _ ((sqK k).items.map (·.items)) = _
    rw [itm_sqK]
    exact (endsS_watch h k).symm
  have hZm : ∀ k, ∀ z, z ∈ ZZ k ↔ z ∈ (EE k).map Tup.mk := fun k z => by
    obtain ⟨x⟩ := z
    rw [hZZ, hEE]
    show Tup.mk x ∈ endsS _ _ _ _ _ ↔ _
    rw [mem_endsS, List.mem_map]
    exact ⟨fun h => ⟨x, h, rfl⟩, fun ⟨y, hy, e⟩ => by cases e; exact hy⟩
  have hEst : ∀ k, ∀ e ∈ EE k, StOk p e := fun k => hEE ▸ endsE_ok g.irr hst k
  have hZnd : ∀ k, (ZZ k).Nodup := fun k => hZZ ▸ endsS_nd
  have hZs : ∀ k, sortD (ZZ k) = ZZ k := fun k => by rw [hZZ]; exact sortT_perm (sortD_perm _)
  have hZst : ∀ k, ∀ z ∈ ZZ k, StOk p z.items := fun k z hz => by
    obtain ⟨x, hx, rfl⟩ := List.mem_map.mp ((hZm k z).mp hz)
    exact hEst k x hx
  have hZl : ∀ k, (ZZ k).length ≤ 16 := fun k => by
    have h1 := states_few (sw := p.sw) (S := (ZZ k).map fun t : Tup Str => t.items) g.asc (nd_mapI (f := fun t : Tup Str => t.items) (fun a _ b _ e => by obtain ⟨a⟩ := a; obtain ⟨b⟩ := b; exact congrArg Tup.mk e) (hZnd k)) fun x hx => by
      obtain ⟨z, hz, rfl⟩ := List.mem_map.mp hx
      exact ⟨(hZst k z hz).1, (hZst k z hz).2.1⟩
    rw [List.length_map] at h1
    exact Nat.le_trans h1 (Nat.pow_le_pow_right (by decide) hz4)
  have hEl : ∀ k, k.length = n.toNat → (EE k).length ≤ 256 := fun k hk => by
    rw [hEE]
    refine Nat.le_trans (endsE_len k) ?_
    rw [hk]
    exact Nat.le_trans (Nat.pow_le_pow_left hz4 _) (Nat.pow_le_pow_right (n := 4) (by decide) (show n.toNat ≤ 4 by omega))
  have hLl : L.length ≤ 256 := by
    rw [hL]
    exact Nat.le_trans (every_len _) (Nat.le_trans (Nat.pow_le_pow_left hz4 _) (Nat.pow_le_pow_right (n := 4) (by decide) (show n.toNat ≤ 4 by omega)))
  have hLne : L ≠ [] := fun e => by
    rw [e] at htot
    have h1 : 0 < p.sw.length ^ n.toNat := Nat.pow_pos (by have := g.low; omega)
    have h0 : totG ([] : List (List (List Str) × List (List Str))) = 0 := rfl
    omega
  have hget : ∀ {k}, k.length = n.toNat → ((lkG (mapG Tup.mk L) k).getD [] : List (Tup Str)) = (EE k).map Tup.mk := fun {k} hk => by
    have h1 := (hby.lk k hk).1
    rw [lkG_map, hEE]
    show _ = (endsE (rvs p) p.sw w st k).map Tup.mk
    rw [← h1]
    cases lkG L k <;> rfl
  have hkey : ∀ {y : Tup (Tup Str)}, y ∈ sortD (L.map fun p => keyN p.1) → ∃ k, y = keyN k ∧ k.length = n.toNat ∧ lkG (mapG Tup.mk L) k = some ((EE k).map Tup.mk) ∧ ∀ t ∈ k, t.length ≤ 100 := fun {y} hy => by
    obtain ⟨pr, hpr, rfl⟩ := List.mem_map.mp (mem_sortD.mp hy)
    have hk := hby.ln pr hpr
    refine ⟨pr.1, rfl, hk, ?_⟩
    have h1 : lkG L pr.1 = some pr.2 := (lkG_mem hby.nd).mp hpr
    have h2 : lkG (mapG Tup.mk L) pr.1 = some (pr.2.map Tup.mk) := by rw [lkG_map, h1]; rfl
    have h3 := hget hk
    rw [h2] at h3
    rw [h2]
    refine ⟨congrArg some h3, fun t ht => ?_⟩
    obtain ⟨a, ha, rfl⟩ := ends_lamps g.irr hst pr.1 (fun e => by
      have := (hby.lk pr.1 hk).2.mpr e
      rw [h1] at this
      cases this) t ht
    have h4 := (asc_nodup ha.1).length_le_of_subset ha.2.1
    have h5 := List.length_filter_le (fun x => decide (x ∈ w)) a
    show (a.filter _).length ≤ 100
    omega
  have hsame : ∀ {σ : L2.St} {B : Hp} {ta tb : TE} (d : PyData), DOk 5 d → Pe K ta σ B (DD.mk d) → Pe K tb σ B (DD.mk d) → Pe K (tCall (sp_Lsame K) [] E0 (tCons ta (tCons tb tNil))) σ B true := fun d hd k1 k2 => e_call2 (x := DD.mk d) (y := DD.mk d) (pre := fun (a b : DD) => a = b ∧ DOk 5 a.d) (f := fun _ _ => true) k1 k2 ⟨rfl, hd⟩
  have hdZ : ∀ {j k}, DOk (j + 2) (Datum.toD (ZZ k)) := fun {j k} => dkTE (by have := hZl k; omega) fun t ht => by
    have := (asc_nodup (hZst k t ht).1).length_le_of_subset (hZst k t ht).2.1
    omega
  have hdue : ∀ {k}, DOk 5 (.list [Datum.toD (ZZ k), .int ((EE k).length : Int)]) := dkL2 hdZ dkI
  have hev : ∀ {σ : L2.St} {B' : Hp} {Γ : List (Option Cell)}, Slots K B' σ Γ → cg Γ 6 = ce EV → Pe K (tVar 6) σ B' (DicN.mk (mapG Tup.mk L) : DicN hs (List (Tup Str))) := fun sl h => (sl.v (x := EV) 6 h).is hEV
  have hpl : ∀ {σ : L2.St} {B' : Hp} {Γ : List (Option Cell)}, Slots K B' σ Γ → cg Γ 1 = ce p.t → Pe K (tCall (sp_Llists K) [] E0 (tCons (tVar 1) tNil)) σ B' p := fun sl h => (e_call1 (x := DD.mk (Datum.toD p.t)) (pre := fun a : DD => DOk 5 a.d) (f := fun a => DD.mk (listyN 5 a.d)) (e_dd (sl.v (x := p.t) 1 h)) (dkP (by omega) (by omega))).imp ddP
  have ww : ∀ x, x ∈ w ↔ x ∈ w := fun x => Iff.rfl
  have wr : ∀ x, x ∈ w ↔ x ∈ w.reverse := fun x => List.mem_reverse.symm
  have nt1 : ∀ {c : Int}, ∀ o ∈ [boxC b c], o.nt := fun o ho => by rw [List.mem_singleton.mp ho]; exact nt_box
  have hW1 : ∀ {c : Int}, ∀ a ∈ [b], ∃ o ∈ [boxC b c], o.l = a := fun a ha => ⟨_, List.mem_cons_self, (List.mem_singleton.mp ha).symm⟩
  refine s5.forGT (δ := Unit) tc (it_rng1 (n := 6) (e_int (i := 6)) (by decide) (by decide)) (fun done _ => [boxC b (70002 + done.length)]) (fun _ _ => [ca b, ce p.t, ce (lawTab p), ce (Tup.mk st), ce w, ce n, ce EV, none, none, none, none, none, none]) (fun _ _ => True) (fun _ _ => nt1) (fun _ _ => hW1) ⟨(), trivial, fun _ _ s6 => s6.le (by simp)⟩ (fun done x rest _ ex _ v σ' B' H' N hN tcl s6 hv => ?_) fun _ _ σ6 B6 H6 s6 => ?_
  · have hdl := congrArg List.length ex
    rw [List.length_append, List.length_cons, rangeI_len] at hdl
    have hd6 : done.length ≤ 6 := by omega
    have s7 : St K [b] B' H' [boxC b (70002 + done.length)] [ca b, ce p.t, ce (lawTab p), ce (Tup.mk st), ce w, ce n, ce EV, ce x, none, none, none, none, none] (σ'.set 7 (some v)) B' H' := s6.here.put 7 hv
    refine s7.setB (n := 1) (e_of (b := b) (i := 0) (xs := sortD (L.map fun p => keyN p.1)) (s7.sl.rf 0 rfl) (((e_sortN (hev s7.sl rfl)).is (by show sortD ((mapG Tup.mk L).map fun p => keyN p.1) = _; unfold mapG; rw [List.map_map]; rfl)).imp sq_list) (fun e => hLne (by
      have := congrArg List.length e
      rw [sortD_len, List.length_map] at this
      exact List.length_eq_zero_iff.mp this)) (by rw [sortD_len, List.length_map]; omega)) (by omega) fun y hy σ8 B8 H8 s8 => ?_
    obtain ⟨k, rfl, hkl, hlk, hkt⟩ := hkey hy
    have hk4 : k.length ≤ 4 := by omega
    replace s8 : St K [b] B' H' [boxC b (70002 + done.length + 1)] [ca b, ce p.t, ce (lawTab p), ce (Tup.mk st), ce w, ce n, ce EV, ce x, ce (keyN k), none, none, none, none] σ8 B8 H8 := s8
    have hix : ∀ {σ : L2.St} {B' : Hp} {Γ : List (Option Cell)}, Slots K B' σ Γ → cg Γ 6 = ce EV → cg Γ 8 = ce (keyN k) → Pe K (tOp (rIxR hs) (tVar 6) (tVar 8)) σ B' ((EE k).map Tup.mk) := fun sl h1 h2 => e_ixR (hev sl h1) (sl.v (x := keyN k) 8 h2) hlk
    refine s8.set (i := 9) (x := DD.mk (.list [Datum.toD (ZZ k), .int ((EE k).length : Int)])) (e_dlE (e_dd (e_sortStT (xs := (EE k).map Tup.mk) (hix s8.sl rfl rfl) (hZnd k) (hZm k) (hZs k) (by have := hZl k; omega))) (e_dd ((e_lenL (hix s8.sl rfl rfl)).is (by rw [List.length_map])))) fun σ9 B9 H9 s9 => ?_
    replace s9 : St K [b] B' H' [boxC b (70002 + done.length + 1)] [ca b, ce p.t, ce (lawTab p), ce (Tup.mk st), ce w, ce n, ce EV, ce x, ce (keyN k), ce (DD.mk (.list [Datum.toD (ZZ k), .int ((EE k).length : Int)])), none, none, none] σ9 B9 H9 := s9
    have hli : ∀ {σ : L2.St} {B' : Hp} {Γ : List (Option Cell)}, Slots K B' σ Γ → cg Γ 8 = ce (keyN k) → Pe K (tCB (rListU K) (tCons (tVar 8) tNil)) σ B' (sqK k) := fun sl h => (e_lstSq ((sl.v (x := keyN k) 8 h).imp sq_tup)).imp sqK_list
    have sl9 := s9.sl.mono (wide_ex s9.bh)
    refine s9.toldU (i := 10) (w := "more") (xs := ZZ k) (m := ((EE k).length : Int)) tcl nt1 hW1 (by rw [s9.sl.lenQ]; show 10 < 13; decide) (hS (k := k) ww ▸ eUF_call4 (pre := EmPre) (g := endsSP) (hp1 sl9 rfl) ((sl9.v (x := Tup.mk st) 3 rfl).imp sq_tup) ((sl9.v (x := w) 4 rfl).imp sq_list) (hli sl9 rfl) (em ww hwl (by omega))) ((e_call4 (x := p) (y := Sq.mk st) (z := Sq.mk w) (t := sqK k) (pre := EmPre) (f := fun p st w sh => ((endsP p st w sh).length : Int)) (hp1 s9.sl rfl) ((s9.v (x := Tup.mk st) 3 rfl).imp sq_tup) ((s9.v (x := w) 4 rfl).imp sq_list) (hli s9.sl rfl) (em ww hwl (by omega))).is (by rw [hE ww])) (by have := hZl k; omega) (fun σ' B' H' s10 => ?_) fun σ10 B10 H10 s10 => ?_
    · exact (t_not (t_B (hsame _ hdue (s10.v 10 rfl) (s10.v 9 rfl)))).is rfl
    replace s10 : St K [b] B' H' [boxC b (70002 + done.length + 1)] [ca b, ce p.t, ce (lawTab p), ce (Tup.mk st), ce w, ce n, ce EV, ce x, ce (keyN k), ce (DD.mk (.list [Datum.toD (ZZ k), .int ((EE k).length : Int)])), none, none, none] σ10 B10 H10 := s10
    have hll : ∀ {σ : L2.St} {B' : Hp} {Γ : List (Option Cell)}, Slots K B' σ Γ → cg Γ 8 = ce (keyN k) → Pe K (tCall (sp_Llists K) [] E0 (tCons (tVar 8) tNil)) σ B' (sqK k) := fun sl h => (e_call1 (x := DD.mk (Datum.toD (keyN k))) (pre := fun a : DD => DOk 5 a.d) (f := fun a => DD.mk (listyN 5 a.d)) (e_dd (sl.v (x := keyN k) 8 h)) (dkKE (by omega) fun t ht => by have := hkt t ht; omega)).imp sqK_dd
    have sl10 := s10.sl.mono (wide_ex s10.bh)
    refine s10.new1U (i := 10) (x := ZZ k) tcl nt1 hW1 (hS (k := k) ww ▸ (eUF_kw4 (pre := EmPre) (g := endsSP) (x := p) (y := Sq.mk st) (z := Sq.mk w) (t := sqK k) (hpl sl10 rfl) ((e_lstSq ((sl10.v (x := Tup.mk st) 3 rfl).imp sq_tup)).imp sq_list) ((e_tupL (sl10.v (x := w) 4 rfl)).imp sq_tup) (hll sl10 rfl) (em ww hwl (by omega))).pe) fun l σ11 B11 H11 s11 => ?_
    replace s11 : St K [b] B' H' [boxC b (70002 + done.length + 1), lstC K l [DD.mk (Datum.toD (ZZ k))]] [ca b, ce p.t, ce (lawTab p), ce (Tup.mk st), ce w, ce n, ce EV, ce x, ce (keyN k), ce (DD.mk (.list [Datum.toD (ZZ k), .int ((EE k).length : Int)])), ca l, none, none] σ11 B11 H11 := s11
    refine s11.qapp (i := 10) (k := 1) (l := l) (xs := [DD.mk (Datum.toD (ZZ k))]) (x := DD.mk (.int ((EE k).length : Int))) rfl rfl (e_dd ((e_kw4E (x := p) (y := Sq.mk st) (z := Sq.mk w.reverse) (t := sqK k) (pre := EmPre) (f := fun p st w sh => ((endsP p st w sh).length : Int)) (hp1 s11.sl rfl) ((s11.v (x := Tup.mk st) 3 rfl).imp sq_tup) ((e_revLX (s11.v (x := w) 4 rfl)).imp sq_list) ((s11.v (x := keyN k) 8 rfl).imp sqK_tup) (em wr (by rw [List.length_reverse]; exact hwl) (by omega))).is (by rw [hE wr]))) (by show 1 ≤ 1000000; decide) fun B12 H12 s12 => ?_
    have hbl : l ∉ [b] := fun hm => by
      have nd : [b, l].Nodup := s12.nd
      rw [List.mem_singleton.mp hm] at nd
      simp at nd
    obtain ⟨B13, e13, s13⟩ := St.frzDE (i := 10) (k := 1) (l := l) (ds := [Datum.toD (ZZ k), .int ((EE k).length : Int)]) s12 rfl rfl hbl
    replace s13 : St K [b] B' H' [boxC b (70002 + done.length + 1)] [ca b, ce p.t, ce (lawTab p), ce (Tup.mk st), ce w, ce n, ce EV, ce x, ce (keyN k), ce (DD.mk (.list [Datum.toD (ZZ k), .int ((EE k).length : Int)])), ce (DD.mk (.list [Datum.toD (ZZ k), .int ((EE k).length : Int)])), none, none] σ11 B13 H12 := s13
    refine s13.noUor (d := ZZ k) tcl nt1 hW1 ((t_not (t_B (hsame _ hdue (s13.v 10 rfl) (s13.v 9 rfl)))).is rfl) (fun B14 H14 s14 => ?_) (fun v B14 H14 s14 hv => hsame _ hdZ (e_dd (e_const hv)) (e_ix0E (s14.v 9 rfl))) fun B14 H14 s14 => ?_
    · have sl14 := s14.sl.mono (wide_ex s14.bh)
      exact hS (k := k) ww ▸ (eUF_call4 (pre := EmPre) (g := endsSP) (x := p) (y := Sq.mk st) (z := Sq.mk w) (t := sqK k) (hp1 sl14 rfl) ((sl14.v (x := Tup.mk st) 3 rfl).imp sq_tup) ((sl14.v (x := w) 4 rfl).imp sq_list) ((sl14.v (x := keyN k) 8 rfl).imp sqK_tup) (em ww hwl (by omega))).pe
    · refine hN () (B3 := B14) trivial ?_
      exact (s14.fg [7, 8, 9, 10]).le (by rw [List.length_append, List.length_singleton]; omega)
  replace s6 : St K [b] B H [boxC b 70010] [ca b, ce p.t, ce (lawTab p), ce (Tup.mk st), ce w, ce n, ce EV, none, none, none, none, none, none] σ6 B6 H6 := s6.le (by rw [rangeI_len]; decide)
  show tSeq _ _ _ _ _
  refine s6.forGT (δ := Unit) tc (it_rng1 (n := 3) (e_int (i := 3)) (by decide) (by decide)) (fun done _ => [boxC b (70010 + 4 * done.length)]) (fun _ _ => [ca b, ce p.t, ce (lawTab p), ce (Tup.mk st), ce w, ce n, ce EV, none, none, none, none, none, none]) (fun _ _ => True) (fun _ _ => nt1) (fun _ _ => hW1) ⟨(), trivial, fun _ _ s7 => s7.le (by simp)⟩ (fun done x rest _ ex _ v σ' B' H' N hN tcl s7 hv => ?_) fun _ _ σ7 B7 H7 s7 => ?_
  · have hdl := congrArg List.length ex
    rw [List.length_append, List.length_cons, rangeI_len] at hdl
    have hd3 : done.length ≤ 3 := by omega
    have hrn : (rangeI 0 n.toNat).length = n.toNat := rangeI_len _ _
    have s8 : St K [b] B' H' [boxC b (70010 + 4 * done.length)] [ca b, ce p.t, ce (lawTab p), ce (Tup.mk st), ce w, ce n, ce EV, ce x, none, none, none, none, none] (σ'.set 7 (some v)) B' H' := s7.here.put 7 hv
    refine s8.setB (n := 1 * ((rangeI 0 n.toNat).length : Int)) (i := 8) (b_tupE (s8.sl.lcB (j := 11) (n := 1) (S := fun _ : Tup Str => True) (it_rng1 (n := n) (s8.v (x := n) 5 rfl) (by omega) (by omega)) (by omega) (by decide) fun y hy σ9 B9 b9 s9 => (e_of (b := b) (i := 0) (xs := [Tup.mk [], Tup.mk (cutA w none (some 1)), Tup.mk (sortD w)]) (s9.rf 0 rfl) ((e_lst3E (e_tup0 (α := Str)) (e_tupL (e_slL (s9.v (x := w) 4 rfl) o_none (o_some (K := K) (e_int (i := 1))))) (e_tupL (e_sortSq ((s9.v (x := w) 4 rfl).imp sq_list) (sortable_str _)))).imp sq_list) (by simp) (by simp)).imp fun _ _ => trivial)) (by omega) fun t ht σ9 B9 H9 s9 => ?_
    obtain ⟨k, rfl⟩ : ∃ k, t = keyN k := ⟨t.items.map (·.items), by
      obtain ⟨ts⟩ := t
      show Tup.mk ts = Tup.mk ((ts.map (·.items)).map Tup.mk)
      rw [List.map_map]
      exact congrArg Tup.mk (List.map_id' _).symm⟩
    have hkl : k.length = n.toNat := by
      have := ht.1
      rw [hrn] at this
      rw [← this]
      show _ = (k.map Tup.mk).length
      rw [List.length_map]
    replace s9 : St K [b] B' H' [boxC b (70010 + 4 * done.length + 4)] [ca b, ce p.t, ce (lawTab p), ce (Tup.mk st), ce w, ce n, ce EV, ce x, ce (keyN k), none, none, none, none] σ9 B9 H9 := s9.le (by omega)
    refine s9.set (i := 9) (x := (EE k).map Tup.mk) ((e_getR (L := mapG Tup.mk L) (k := k) (hev s9.sl rfl) (s9.v (x := keyN k) 8 rfl) e_lst0).is (hget hkl)) fun σ10 B10 H10 s10 => ?_
    replace s10 : St K [b] B' H' [boxC b (70010 + 4 * done.length + 4)] [ca b, ce p.t, ce (lawTab p), ce (Tup.mk st), ce w, ce n, ce EV, ce x, ce (keyN k), ce ((EE k).map Tup.mk), none, none, none] σ10 B10 H10 := s10
    have sl10 := s10.sl.mono (wide_ex s10.bh)
    refine s10.set2U (i := 10) (x := ZZ k) (m := ((EE k).length : Int)) tcl nt1 hW1 (hS (k := k) ww ▸ (eUF_call4 (pre := EmPre) (g := endsSP) (x := p) (y := Sq.mk st) (z := Sq.mk w) (t := sqK k) (hp1 sl10 rfl) ((sl10.v (x := Tup.mk st) 3 rfl).imp sq_tup) ((sl10.v (x := w) 4 rfl).imp sq_list) ((sl10.v (x := keyN k) 8 rfl).imp sqK_tup) (em ww hwl (by omega))).pe) (fun B' H' s11 => (e_call4 (x := p) (y := Sq.mk st) (z := Sq.mk w) (t := sqK k) (pre := EmPre) (f := fun p st w sh => ((endsP p st w sh).length : Int)) (hp1 s11.sl rfl) ((s11.v (x := Tup.mk st) 3 rfl).imp sq_tup) ((s11.v (x := w) 4 rfl).imp sq_list) ((s11.v (x := keyN k) 8 rfl).imp sqK_tup) (em ww hwl (by omega))).is (by rw [hE ww])) fun σ11 B11 H11 s11 => ?_
    replace s11 : St K [b] B' H' [boxC b (70010 + 4 * done.length + 4)] [ca b, ce p.t, ce (lawTab p), ce (Tup.mk st), ce w, ce n, ce EV, ce x, ce (keyN k), ce ((EE k).map Tup.mk), ce (DD.mk (.list [Datum.toD (ZZ k), .int ((EE k).length : Int)])), none, none] σ11 B11 H11 := s11
    refine s11.noL ((t_not (t_B (hsame _ hdue (s11.v 10 rfl) (e_dlE (e_dd (e_sortStT (xs := (EE k).map Tup.mk) (s11.v (x := (EE k).map Tup.mk) 9 rfl) (hZnd k) (hZm k) (hZs k) (by have := hZl k; omega))) (e_dd ((e_lenL (s11.v (x := (EE k).map Tup.mk) 9 rfl)).is (by rw [List.length_map]))))))).is rfl) fun B12 H12 s12 => ?_
    refine hN () (B3 := B12) trivial ?_
    exact (s12.fg [7, 8, 9, 10]).le (by rw [List.length_append, List.length_singleton]; omega)
  have hq : (missO p (w ++ (["q", "qq"] : List Str))) = some "q" := by
    unfold missO
    rw [List.find?_append]
    have h1 : (w.find? fun x => !decide (x ∈ p.sw)) = none := List.find?_eq_none.mpr fun x hx => by simp [hwn.2 x hx]
    rw [h1, Option.none_or, List.find?_cons]
    have h2 : ("q" : Str) ∉ p.sw := fun h => absurd (g.nm _ h) (by decide +kernel)
    rw [decide_eq_false h2]
    rfl
  refine St.ret (D := Ends.ret Q) (x := true) s7 ((e_eq (s7.sl.lcA (j := 12) (fun _ : Bool => ("q" : Str)) (it_seqT (xs := [false, true]) (e_tup2E (e_bl (i := false)) (e_bl (i := true)))) (by decide) fun c hc σ8 B8 b8 s8 => (e_call4 (x := p) (y := Tup.mk st) (z := w ++ (["q", "qq"] : List Str)) (t := c) (pre := fun (p : Pan) (_ : Tup Str) (w : List Str) (_ : Bool) => (missO p w).isSome = true) (f := fun p _ w _ => (missO p w).getD "") (hp1 s8 rfl) (s8.v (x := Tup.mk st) 3 rfl) (e_addL (s8.v (x := w) 4 rfl) (e_lst2 (e_str (i := "q")) (e_str (i := "qq"))) (by show _ + 2 ≤ _; omega)) (s8.v (x := c) 12 rfl) (by rw [hq]; rfl)).is (by rw [hq]; rfl)) (e_lst2 (e_str (i := "q")) (e_str (i := "q")))).is (decide_eq_true rfl)) fun v B8 H8 s8 hv => ?_
  cases (show v = .bl true from at_bl.mp hv)
  exact q _ _ _ _ _ s8
end
end Ob
set_option Elab.async false
set_option linter.all false
set_option maxRecDepth 100000
set_option maxHeartbeats 0
namespace Ob
open PySem PySem.Spec PyProof.Rows L2
open Evl (Ex)
def topS (i : Nat) : Stmt := PySem.Challenge.pw_offbyon_k83_lamps_that_cannot_be_seen.main.body.getD i (.Pass ⟨0, 0, 0, 0⟩)
abbrev s_look_switchesX : Stmt := topS 4
abbrev s_rival_table : Stmt := topS 5
abbrev s_with_press : Stmt := topS 7
abbrev s_shown_of : Stmt := topS 9
abbrev s_ways_seenX : Stmt := topS 10
abbrev s_ends_seenXF : Stmt := topS 11
abbrev s_histories_seenX : Stmt := topS 12
abbrev s_Lcell_at : Stmt := topS 14
abbrev s_Lbox : Stmt := topS 15
abbrev s_Ltake : Stmt := topS 16
abbrev s_Lof : Stmt := topS 17
abbrev s_Lsame : Stmt := topS 18
abbrev s_Llists : Stmt := topS 19
abbrev s_Lstrewn : Stmt := topS 20
abbrev s_Lnames : Stmt := topS 21
abbrev s_Ltied : Stmt := topS 22
abbrev s_Lwired : Stmt := topS 23
abbrev s_Ltable : Stmt := topS 24
abbrev s_Lafter : Stmt := topS 25
abbrev s_Lstate : Stmt := topS 26
abbrev s_Lby_lamps : Stmt := topS 27
abbrev s_Lunknown : Stmt := topS 28
abbrev s_Lright : Stmt := topS 29
abbrev s_law : Stmt := topS 30
theorem sc_look_switchesX : FnScope N_look_switchesX ["panel", "switches"] (defScope s_look_switchesX) := ⟨rfl, rfl, rfl, by decide +kernel, rfl, by decide +kernel, by decide +kernel⟩
theorem sc_rival_table : FnScope N_rival_table ["panel"] (defScope s_rival_table) := ⟨rfl, rfl, rfl, by decide +kernel, rfl, by decide +kernel, by decide +kernel⟩
theorem sc_with_press : FnScope N_with_press ["rivals", "state", "switch"] (defScope s_with_press) := ⟨rfl, rfl, rfl, by decide +kernel, rfl, by decide +kernel, by decide +kernel⟩
theorem sc_shown_of : FnScope N_shown_of ["state", "watched"] (defScope s_shown_of) := ⟨rfl, rfl, rfl, by decide +kernel, rfl, by decide +kernel, by decide +kernel⟩
theorem sc_ways_seenX : FnScope N_ways_seenX ["panel", "state", "watched", "shown"] (defScope s_ways_seenX) := ⟨rfl, rfl, rfl, by decide +kernel, rfl, by decide +kernel, by decide +kernel⟩
theorem sc_ends_seenXF : FnScope N_ends_seenXF ["panel", "state", "watched", "shown"] (defScope s_ends_seenXF) := ⟨rfl, rfl, rfl, by decide +kernel, rfl, by decide +kernel, by decide +kernel⟩
theorem sc_histories_seenX : FnScope N_histories_seenX ["panel", "state", "watched", "shown"] (defScope s_histories_seenX) := ⟨rfl, rfl, rfl, by decide +kernel, rfl, by decide +kernel, by decide +kernel⟩
theorem sc_Lcell_at : FnScope N_Lcell_at ["_law_script", "_law_k"] (defScope s_Lcell_at) := ⟨rfl, rfl, rfl, by decide +kernel, rfl, by decide +kernel, by decide +kernel⟩
theorem sc_Lbox : FnScope N_Lbox ["_law_script", "_law_k"] (defScope s_Lbox) := ⟨rfl, rfl, rfl, by decide +kernel, rfl, by decide +kernel, by decide +kernel⟩
theorem sc_Ltake : FnScope N_Ltake ["_law_box_here", "_law_size"] (defScope s_Ltake) := ⟨rfl, rfl, rfl, by decide +kernel, rfl, by decide +kernel, by decide +kernel⟩
theorem sc_Lof : FnScope N_Lof ["_law_box_here", "_law_some"] (defScope s_Lof) := ⟨rfl, rfl, rfl, by decide +kernel, rfl, by decide +kernel, by decide +kernel⟩
theorem sc_Lsame : FnScope N_Lsame ["_law_told", "_law_due"] (defScope s_Lsame) := ⟨rfl, rfl, rfl, by decide +kernel, rfl, by decide +kernel, by decide +kernel⟩
theorem sc_Llists : FnScope N_Llists ["_law_matter"] (defScope s_Llists) := ⟨rfl, rfl, rfl, by decide +kernel, rfl, by decide +kernel, by decide +kernel⟩
theorem sc_Lstrewn : FnScope N_Lstrewn ["_law_box_here", "_law_some"] (defScope s_Lstrewn) := ⟨rfl, rfl, rfl, by decide +kernel, rfl, by decide +kernel, by decide +kernel⟩
theorem sc_Lnames : FnScope N_Lnames ["_law_box_here", "_law_size"] (defScope s_Lnames) := ⟨rfl, rfl, rfl, by decide +kernel, rfl, by decide +kernel, by decide +kernel⟩
theorem sc_Ltied : FnScope N_Ltied ["_law_box_here", "_law_called"] (defScope s_Ltied) := ⟨rfl, rfl, rfl, by decide +kernel, rfl, by decide +kernel, by decide +kernel⟩
theorem sc_Lwired : FnScope N_Lwired ["_law_box_here", "_law_least", "_law_most"] (defScope s_Lwired) := ⟨rfl, rfl, rfl, by decide +kernel, rfl, by decide +kernel, by decide +kernel⟩
theorem sc_Ltable : FnScope N_Ltable ["_law_wired_here"] (defScope s_Ltable) := ⟨rfl, rfl, rfl, by decide +kernel, rfl, by decide +kernel, by decide +kernel⟩
theorem sc_Lafter : FnScope N_Lafter ["_law_table_here", "_law_here", "_law_name"] (defScope s_Lafter) := ⟨rfl, rfl, rfl, by decide +kernel, rfl, by decide +kernel, by decide +kernel⟩
theorem sc_Lstate : FnScope N_Lstate ["_law_box_here", "_law_wired_here", "_law_table_here"] (defScope s_Lstate) := ⟨rfl, rfl, rfl, by decide +kernel, rfl, by decide +kernel, by decide +kernel⟩
theorem sc_Lby_lamps : FnScope N_Lby_lamps ["_law_wired_here", "_law_table_here", "_law_here", "_law_watched_here", "_law_size"] (defScope s_Lby_lamps) := ⟨rfl, rfl, rfl, by decide +kernel, rfl, by decide +kernel, by decide +kernel⟩
theorem sc_Lunknown : FnScope N_Lunknown ["_law_wired_here", "_law_here", "_law_watched_here", "_law_is_count"] (defScope s_Lunknown) := ⟨rfl, rfl, rfl, by decide +kernel, rfl, by decide +kernel, by decide +kernel⟩
theorem sc_Lright : FnScope N_Lright ["_law_box_here"] (defScope s_Lright) := ⟨rfl, rfl, rfl, by decide +kernel, rfl, by decide +kernel, by decide +kernel⟩
theorem sc_law : FnScope N_law ["_law_script"] (defScope s_law) := ⟨rfl, rfl, rfl, by decide +kernel, rfl, by decide +kernel, by decide +kernel⟩
abbrev s_xinit : Stmt := (C8.clsBody (topS 1)).getD 0 (.Pass ⟨0, 0, 0, 0⟩)
def N_xinit : List Str := ["self", "switch"]
theorem sc_xinit : FnScope N_xinit N_xinit (defScope s_xinit) := ⟨rfl, rfl, rfl, by decide +kernel, rfl, by decide +kernel, by decide +kernel⟩
structure Tx (K : PySem.W.Frag) (mg : Str → Option Value) where
  a_look_switchesX : Addr
  fd_look_switchesX : FuncData
  F_look_switchesX : FunD K "look_switches" "look_switches" (defArgs s_look_switchesX) (defBody s_look_switchesX) (defScope s_look_switchesX) [] [] a_look_switchesX fd_look_switchesX
  g_look_switchesX : mg "look_switches" = some (.ref a_look_switchesX)
  b_look_switchesX : Binds K fd_look_switchesX ["panel", "switches"] []
  a_rival_table : Addr
  fd_rival_table : FuncData
  F_rival_table : FunD K "rival_table" "rival_table" (defArgs s_rival_table) (defBody s_rival_table) (defScope s_rival_table) [] [] a_rival_table fd_rival_table
  g_rival_table : mg "rival_table" = some (.ref a_rival_table)
  b_rival_table : Binds K fd_rival_table ["panel"] []
  a_with_press : Addr
  fd_with_press : FuncData
  F_with_press : FunD K "with_press" "with_press" (defArgs s_with_press) (defBody s_with_press) (defScope s_with_press) [] [] a_with_press fd_with_press
  g_with_press : mg "with_press" = some (.ref a_with_press)
  b_with_press : Binds K fd_with_press ["rivals", "state", "switch"] []
  a_shown_of : Addr
  fd_shown_of : FuncData
  F_shown_of : FunD K "shown_of" "shown_of" (defArgs s_shown_of) (defBody s_shown_of) (defScope s_shown_of) [] [] a_shown_of fd_shown_of
  g_shown_of : mg "shown_of" = some (.ref a_shown_of)
  b_shown_of : Binds K fd_shown_of ["state", "watched"] []
  a_ways_seenX : Addr
  fd_ways_seenX : FuncData
  F_ways_seenX : FunD K "ways_seen" "ways_seen" (defArgs s_ways_seenX) (defBody s_ways_seenX) (defScope s_ways_seenX) [] [] a_ways_seenX fd_ways_seenX
  g_ways_seenX : mg "ways_seen" = some (.ref a_ways_seenX)
  b_ways_seenX : Binds K fd_ways_seenX ["panel", "state", "watched", "shown"] []
  a_ends_seenXF : Addr
  fd_ends_seenXF : FuncData
  F_ends_seenXF : FunD K "ends_seen" "ends_seen" (defArgs s_ends_seenXF) (defBody s_ends_seenXF) (defScope s_ends_seenXF) [] [] a_ends_seenXF fd_ends_seenXF
  g_ends_seenXF : mg "ends_seen" = some (.ref a_ends_seenXF)
  b_ends_seenXF : Binds K fd_ends_seenXF ["panel", "state", "watched", "shown"] []
  kw_ends_seenXF_0 : KBn K fd_ends_seenXF ["panel", "state", "watched", "shown"] 0 ["shown", "watched", "state", "panel"] (fun _ ws => permL [3, 2, 1, 0] ws) (fun _ zs => permL [3, 2, 1, 0] zs)
  a_histories_seenX : Addr
  fd_histories_seenX : FuncData
  F_histories_seenX : FunD K "histories_seen" "histories_seen" (defArgs s_histories_seenX) (defBody s_histories_seenX) (defScope s_histories_seenX) [] [] a_histories_seenX fd_histories_seenX
  g_histories_seenX : mg "histories_seen" = some (.ref a_histories_seenX)
  b_histories_seenX : Binds K fd_histories_seenX ["panel", "state", "watched", "shown"] []
  kw_histories_seenX_0 : KBn K fd_histories_seenX ["panel", "state", "watched", "shown"] 0 ["shown", "watched", "state", "panel"] (fun _ ws => permL [3, 2, 1, 0] ws) (fun _ zs => permL [3, 2, 1, 0] zs)
  a_Lcell_at : Addr
  fd_Lcell_at : FuncData
  F_Lcell_at : FunD K "_law_cell_at" "_law_cell_at" (defArgs s_Lcell_at) (defBody s_Lcell_at) (defScope s_Lcell_at) [] [] a_Lcell_at fd_Lcell_at
  g_Lcell_at : mg "_law_cell_at" = some (.ref a_Lcell_at)
  b_Lcell_at : Binds K fd_Lcell_at ["_law_script", "_law_k"] []
  a_Lbox : Addr
  fd_Lbox : FuncData
  F_Lbox : FunD K "_law_box" "_law_box" (defArgs s_Lbox) (defBody s_Lbox) (defScope s_Lbox) [] [] a_Lbox fd_Lbox
  g_Lbox : mg "_law_box" = some (.ref a_Lbox)
  b_Lbox : Binds K fd_Lbox ["_law_script", "_law_k"] []
  a_Ltake : Addr
  fd_Ltake : FuncData
  F_Ltake : FunD K "_law_take" "_law_take" (defArgs s_Ltake) (defBody s_Ltake) (defScope s_Ltake) [] [] a_Ltake fd_Ltake
  g_Ltake : mg "_law_take" = some (.ref a_Ltake)
  b_Ltake : Binds K fd_Ltake ["_law_box_here", "_law_size"] []
  a_Lof : Addr
  fd_Lof : FuncData
  F_Lof : FunD K "_law_of" "_law_of" (defArgs s_Lof) (defBody s_Lof) (defScope s_Lof) [] [] a_Lof fd_Lof
  g_Lof : mg "_law_of" = some (.ref a_Lof)
  b_Lof : Binds K fd_Lof ["_law_box_here", "_law_some"] []
  a_Lsame : Addr
  fd_Lsame : FuncData
  F_Lsame : FunD K "_law_same" "_law_same" (defArgs s_Lsame) (defBody s_Lsame) (defScope s_Lsame) [] [] a_Lsame fd_Lsame
  g_Lsame : mg "_law_same" = some (.ref a_Lsame)
  b_Lsame : Binds K fd_Lsame ["_law_told", "_law_due"] []
  a_Llists : Addr
  fd_Llists : FuncData
  F_Llists : FunD K "_law_lists" "_law_lists" (defArgs s_Llists) (defBody s_Llists) (defScope s_Llists) [] [] a_Llists fd_Llists
  g_Llists : mg "_law_lists" = some (.ref a_Llists)
  b_Llists : Binds K fd_Llists ["_law_matter"] []
  a_Lstrewn : Addr
  fd_Lstrewn : FuncData
  F_Lstrewn : FunD K "_law_strewn" "_law_strewn" (defArgs s_Lstrewn) (defBody s_Lstrewn) (defScope s_Lstrewn) [] [] a_Lstrewn fd_Lstrewn
  g_Lstrewn : mg "_law_strewn" = some (.ref a_Lstrewn)
  b_Lstrewn : Binds K fd_Lstrewn ["_law_box_here", "_law_some"] []
  a_Lnames : Addr
  fd_Lnames : FuncData
  F_Lnames : FunD K "_law_names" "_law_names" (defArgs s_Lnames) (defBody s_Lnames) (defScope s_Lnames) [] [] a_Lnames fd_Lnames
  g_Lnames : mg "_law_names" = some (.ref a_Lnames)
  b_Lnames : Binds K fd_Lnames ["_law_box_here", "_law_size"] []
  a_Ltied : Addr
  fd_Ltied : FuncData
  F_Ltied : FunD K "_law_tied" "_law_tied" (defArgs s_Ltied) (defBody s_Ltied) (defScope s_Ltied) [] [] a_Ltied fd_Ltied
  g_Ltied : mg "_law_tied" = some (.ref a_Ltied)
  b_Ltied : Binds K fd_Ltied ["_law_box_here", "_law_called"] []
  a_Lwired : Addr
  fd_Lwired : FuncData
  F_Lwired : FunD K "_law_wired" "_law_wired" (defArgs s_Lwired) (defBody s_Lwired) (defScope s_Lwired) [] [] a_Lwired fd_Lwired
  g_Lwired : mg "_law_wired" = some (.ref a_Lwired)
  b_Lwired : Binds K fd_Lwired ["_law_box_here", "_law_least", "_law_most"] []
  a_Ltable : Addr
  fd_Ltable : FuncData
  F_Ltable : FunD K "_law_table" "_law_table" (defArgs s_Ltable) (defBody s_Ltable) (defScope s_Ltable) [] [] a_Ltable fd_Ltable
  g_Ltable : mg "_law_table" = some (.ref a_Ltable)
  b_Ltable : Binds K fd_Ltable ["_law_wired_here"] []
  a_Lafter : Addr
  fd_Lafter : FuncData
  F_Lafter : FunD K "_law_after" "_law_after" (defArgs s_Lafter) (defBody s_Lafter) (defScope s_Lafter) [] [] a_Lafter fd_Lafter
  g_Lafter : mg "_law_after" = some (.ref a_Lafter)
  b_Lafter : Binds K fd_Lafter ["_law_table_here", "_law_here", "_law_name"] []
  a_Lstate : Addr
  fd_Lstate : FuncData
  F_Lstate : FunD K "_law_state" "_law_state" (defArgs s_Lstate) (defBody s_Lstate) (defScope s_Lstate) [] [] a_Lstate fd_Lstate
  g_Lstate : mg "_law_state" = some (.ref a_Lstate)
  b_Lstate : Binds K fd_Lstate ["_law_box_here", "_law_wired_here", "_law_table_here"] []
  a_Lby_lamps : Addr
  fd_Lby_lamps : FuncData
  F_Lby_lamps : FunD K "_law_by_lamps" "_law_by_lamps" (defArgs s_Lby_lamps) (defBody s_Lby_lamps) (defScope s_Lby_lamps) [] [] a_Lby_lamps fd_Lby_lamps
  g_Lby_lamps : mg "_law_by_lamps" = some (.ref a_Lby_lamps)
  b_Lby_lamps : Binds K fd_Lby_lamps ["_law_wired_here", "_law_table_here", "_law_here", "_law_watched_here", "_law_size"] []
  a_Lunknown : Addr
  fd_Lunknown : FuncData
  F_Lunknown : FunD K "_law_unknown" "_law_unknown" (defArgs s_Lunknown) (defBody s_Lunknown) (defScope s_Lunknown) [] [] a_Lunknown fd_Lunknown
  g_Lunknown : mg "_law_unknown" = some (.ref a_Lunknown)
  b_Lunknown : Binds K fd_Lunknown ["_law_wired_here", "_law_here", "_law_watched_here", "_law_is_count"] []
  a_Lright : Addr
  fd_Lright : FuncData
  F_Lright : FunD K "_law_right" "_law_right" (defArgs s_Lright) (defBody s_Lright) (defScope s_Lright) [] [] a_Lright fd_Lright
  g_Lright : mg "_law_right" = some (.ref a_Lright)
  b_Lright : Binds K fd_Lright ["_law_box_here"] []
  a_law : Addr
  fd_law : FuncData
  F_law : FunD K "law" "law" (defArgs s_law) (defBody s_law) (defScope s_law) [] [] a_law fd_law
  g_law : mg "law" = some (.ref a_law)
  b_law : Binds K fd_law ["_law_script"] []
  ce : CnSo2 K "switch"
  gc_NoSwitch : mg "NoSwitch" = some (.ref ce.C)
  fd_xinit : FuncData
  F_xinit : FunD K "__init__" "NoSwitch.__init__" (defArgs s_xinit) (defBody s_xinit) (defScope s_xinit) [] [] ce.fI fd_xinit
  b_xinit : Binds K fd_xinit ["self", "switch"] []
  gn_1 : mg "NoState" = some (.ref ce.c1)
  gn_2 : mg "NoSwitch" = some (.ref ce.c2)
  m_LookupError : mg "LookupError" = none
  m_abs : mg "abs" = none
  m_all : mg "all" = none
  m_bool : mg "bool" = none
  m_dict : mg "dict" = none
  m_int : mg "int" = none
  m_isinstance : mg "isinstance" = none
  m_len : mg "len" = none
  m_list : mg "list" = none
  m_max : mg "max" = none
  m_min : mg "min" = none
  m_range : mg "range" = none
  m_set : mg "set" = none
  m_sorted : mg "sorted" = none
  m_str : mg "str" = none
  m_sum : mg "sum" = none
  m_tuple : mg "tuple" = none
  m_zip : mg "zip" = none
section
variable {P : Program} {w : World} {K : PySem.W.Frag} {mg : Str → Option Value} {base : Heap}
abbrev s_look_switches : Stmt := topS 4
theorem sc_look_switches : FnScope N_look_switches ["panel", "switches"] (defScope s_look_switches) := ⟨rfl, rfl, rfl, by decide +kernel, rfl, by decide +kernel, by decide +kernel⟩
abbrev Tx.F_look_switches (T : Tx K mg) := T.F_look_switchesX
abbrev Tx.g_look_switches (T : Tx K mg) := T.g_look_switchesX
abbrev Tx.b_look_switches (T : Tx K mg) := T.b_look_switchesX
abbrev s_ways_seen : Stmt := topS 10
theorem sc_ways_seen : FnScope N_ways_seen ["panel", "state", "watched", "shown"] (defScope s_ways_seen) := ⟨rfl, rfl, rfl, by decide +kernel, rfl, by decide +kernel, by decide +kernel⟩
abbrev Tx.F_ways_seen (T : Tx K mg) := T.F_ways_seenX
abbrev Tx.g_ways_seen (T : Tx K mg) := T.g_ways_seenX
abbrev Tx.b_ways_seen (T : Tx K mg) := T.b_ways_seenX
abbrev s_ends_seenF : Stmt := topS 11
theorem sc_ends_seenF : FnScope N_ends_seenF ["panel", "state", "watched", "shown"] (defScope s_ends_seenF) := ⟨rfl, rfl, rfl, by decide +kernel, rfl, by decide +kernel, by decide +kernel⟩
abbrev Tx.F_ends_seenF (T : Tx K mg) := T.F_ends_seenXF
abbrev Tx.g_ends_seenF (T : Tx K mg) := T.g_ends_seenXF
abbrev Tx.b_ends_seenF (T : Tx K mg) := T.b_ends_seenXF
abbrev Tx.kw_ends_seenF_0 (T : Tx K mg) := T.kw_ends_seenXF_0
abbrev s_histories_seen : Stmt := topS 12
theorem sc_histories_seen : FnScope N_histories_seen ["panel", "state", "watched", "shown"] (defScope s_histories_seen) := ⟨rfl, rfl, rfl, by decide +kernel, rfl, by decide +kernel, by decide +kernel⟩
abbrev Tx.F_histories_seen (T : Tx K mg) := T.F_histories_seenX
abbrev Tx.g_histories_seen (T : Tx K mg) := T.g_histories_seenX
abbrev Tx.b_histories_seen (T : Tx K mg) := T.b_histories_seenX
abbrev Tx.kw_histories_seen_0 (T : Tx K mg) := T.kw_histories_seenX_0
theorem d_xinit (T : Tx K mg) : FnOk P w K mg base CX0 1 T.ce.fI T.fd_xinit ["self", "switch"] (spInit T.ce.C "switch") := by
  refine T.F_xinit.ok sc_xinit l_xinit (fun cdv A outer s H vs Q E hr h => ⟨t_xinit T.ce.C "switch", PSs.nox ?_, r_xinit vs H Q E h⟩)
  have hu := hu_room hr
  exact pss_cons (ps_expr (pe_leinit T.ce.T rfl (by rfl) T.m_LookupError le_init (pa_cons (pv 0) (pa_cons (pv 1) pa_nil)))) (pss_one (ps_osf PySem.F.store_LookupError T.ce.T (pv 0) (pv 1)))
theorem d_look_switches (T : Tx K mg) : FnOk P w K mg base CX0 3 T.a_look_switchesX T.fd_look_switchesX ["panel", "switches"] (sp_look_switches K) := by
  refine T.F_look_switchesX.ok sc_look_switches l_look_switches (fun cdv A outer s H vs Q E hr h => ⟨t_look_switches K, PSs.nox ?_, r_look_switches vs H Q E h⟩)
  have hu := hu_room hr
  exact (pss_one (ps_for PassesOwn.never rfl (pi_seq (pv 1)) (pg_name (i := 2) sc_look_switches.nd rfl (Or.inl rfl)) (pss_one (ps_if (pt_cmpR (op_notInU hu) (pv 2) (pe_ix (ix_U hu) (pv 0) pe_int (fun _ _ => rfl)) (by rfl)) (pss_one ps_never) pss_nil))))
theorem d_look_switchesX (T : Tx K mg) : FnOk P w K mg base (L2.CX P w) 3 T.a_look_switchesX T.fd_look_switchesX ["panel", "switches"] (sp_look_switchesX K T.ce) := by
  refine T.F_look_switchesX.ok sc_look_switchesX l_look_switchesX (fun cdv A outer s H vs Q E hr h => ⟨t_look_switchesX K T.ce E, ?_, r_look_switchesX vs H Q E h⟩)
  have hu := hu_room hr
  exact (pss_one (ps_for (passes_of rfl) rfl (pi_seq (pv 1)) (pg_name (i := 2) sc_look_switchesX.nd rfl (Or.inl rfl)) (pss_one (ps_if (PT.nox (pt_cmpR (op_notInU hu) (pv 2) (pe_ix (ix_U hu) (pv 0) pe_int (fun _ _ => rfl)) (by rfl))) (pss_one (ps_raise rfl (takes_of rfl rfl rfl rfl) (pmk_ns PySem.F.excBase_LookupError T.ce.T (d_xinit T) (hr.mono (by decide)) T.b_xinit passInit (by rfl) T.gc_NoSwitch (pa_cons (pv 2) pa_nil)))) pss_nil))))
theorem d_rival_table (T : Tx K mg) : FnOk P w K mg base CX0 1 T.a_rival_table T.fd_rival_table ["panel"] (sp_rival_table K) := by
  refine T.F_rival_table.ok sc_rival_table l_rival_table (fun cdv A outer s H vs Q E hr h => ⟨t_rival_table K, PSs.nox ?_, r_rival_table vs H Q E h⟩)
  have hu := hu_room hr
  exact (pss_cons (ps_set (i := 1) sc_rival_table.nd rfl (Or.inr rfl) (pe_dc (own := [("switch", 4)]) rfl sc_rival_table.nd (pi_seq (pe_ix (ix_U hu) (pv 0) pe_int (fun _ _ => rfl))) (blkOk_by (own := [("switch", 4)]) (N := N_rival_table) (sc := defScope s_rival_table) (by decide +kernel)) (fun _ _ _ _ _ => (pg_name (i := 4) sc_rival_table.nd rfl (by first | exact Or.inl rfl | exact Or.inr rfl))) (fun _ _ _ _ _ => pts_nil) (fun _ _ _ _ _ => (pv 4)) (fun _ _ _ _ _ => (pe_lst pa_nil))))
      (pss_cons (ps_for PassesOwn.never rfl (pi_seq (pe_ix (ix_U hu) (pv 0) pe_int (fun _ _ => rfl))) (pg_unp rfl (pgs_cons (pg_name (i := 2) sc_rival_table.nd rfl (Or.inl rfl)) (pgs_cons (pg_name (i := 3) sc_rival_table.nd rfl (Or.inl rfl)) pgs_nil))) (pss_cons (ps_expr (pe_bm PySem.F.plainAttrs_list PySem.F.slot_list_append PySem.F.type_list_append mt_append (pe_ix (ix_U hu) (pv 1) (pv 2) (fun _ _ => rfl)) (pa_cons (pv 3) pa_nil)))
      (pss_one (ps_expr (pe_bm PySem.F.plainAttrs_list PySem.F.slot_list_append PySem.F.type_list_append mt_append (pe_ix (ix_U hu) (pv 1) (pv 3) (fun _ _ => rfl)) (pa_cons (pv 2) pa_nil))))))
      (pss_one (ps_ret (pe_lock (pe_dc (own := [("switch", 4)]) rfl sc_rival_table.nd (pi_keys (pv 1)) (blkOk_by (own := [("switch", 4)]) (N := N_rival_table) (sc := defScope s_rival_table) (by decide +kernel)) (fun _ _ _ _ _ => (pg_name (i := 4) sc_rival_table.nd rfl (by first | exact Or.inl rfl | exact Or.inr rfl))) (fun _ _ _ _ _ => pts_nil) (fun _ _ _ _ _ => (pv 4)) (fun _ _ _ _ _ => (pe_callB (cr_sortU rfl hu) (by rfl) T.m_sorted (by decide +kernel) (pa_cons (pe_ix (ix_U hu) (pv 1) (pv 4) (fun _ _ => rfl)) pa_nil)))))))))
theorem d_with_press (T : Tx K mg) : FnOk P w K mg base CX0 1 T.a_with_press T.fd_with_press ["rivals", "state", "switch"] (sp_with_press K) := by
  refine T.F_with_press.ok sc_with_press l_with_press (fun cdv A outer s H vs Q E hr h => ⟨t_with_press K, PSs.nox ?_, r_with_press vs H Q E h⟩)
  have hu := hu_room hr
  exact (pss_one (ps_ret (pe_callTy call_tupleU (by rfl) T.m_tuple (by decide +kernel) (pa_cons (pe_callB (cr_sortU rfl hu) (by rfl) T.m_sorted (by decide +kernel) (pa_cons (pe_op op_addU (pe_lc (own := [("other", 3)]) rfl sc_with_press.nd (pi_seq (pv 1)) (blkOk_by (own := [("other", 3)]) (N := N_with_press) (sc := defScope s_with_press) (by decide +kernel)) (fun _ _ _ _ _ => (pg_name (i := 3) sc_with_press.nd rfl (by first | exact Or.inl rfl | exact Or.inr rfl))) (fun _ _ _ _ _ => (pts_one (PW.pt (pw_and (pt_cmpR (op_notInU hu) (pv 3) (pe_ix (ix_U hu) (pv 0) (pv 2) (fun _ _ => rfl)) (by rfl)) (pw_and1 (pt_cmpR (op_neP hu) (pv 3) (pv 2) (nomark _))))))) (fun _ _ _ _ _ => (pv 3))) (pe_lst (pa_cons (pv 2) pa_nil))) pa_nil)) pa_nil))))
theorem d_shown_of (T : Tx K mg) : FnOk P w K mg base CX0 1 T.a_shown_of T.fd_shown_of ["state", "watched"] (sp_shown_of K) := by
  refine T.F_shown_of.ok sc_shown_of l_shown_of (fun cdv A outer s H vs Q E hr h => ⟨t_shown_of K, PSs.nox ?_, r_shown_of vs H Q E h⟩)
  have hu := hu_room hr
  exact (pss_one (ps_ret (pe_callTy call_tupleU (by rfl) T.m_tuple (by decide +kernel) (pa_cons (pe_lc (own := [("switch", 2)]) rfl sc_shown_of.nd (pi_seq (pv 0)) (blkOk_by (own := [("switch", 2)]) (N := N_shown_of) (sc := defScope s_shown_of) (by decide +kernel)) (fun _ _ _ _ _ => (pg_name (i := 2) sc_shown_of.nd rfl (by first | exact Or.inl rfl | exact Or.inr rfl))) (fun _ _ _ _ _ => (pts_one (pt_cmpR (op_inU hu) (pv 2) (pv 1) (by rfl)))) (fun _ _ _ _ _ => (pv 2))) pa_nil))))
theorem d_ways_seen (T : Tx K mg) : FnOk P w K mg base CX0 4 T.a_ways_seenX T.fd_ways_seenX ["panel", "state", "watched", "shown"] (sp_ways_seen K) := by
  refine T.F_ways_seenX.ok sc_ways_seen l_ways_seen (fun cdv A outer s H vs Q E hr h => ⟨t_ways_seen K, PSs.nox ?_, r_ways_seen vs H Q E h⟩)
  have hu := hu_room hr
  exact (pss_cons (ps_expr (pe_call (d_look_switches T) (hr.mono (by decide)) (by rfl) T.g_look_switches T.F_look_switches.kp T.b_look_switches .nil pass0 (pa_cons (pv 0) (pa_cons (pv 2) pa_nil))))
      (pss_cons (ps_par (i := 4) (j := 5) (by rfl) sc_ways_seen.nd rfl rfl (by decide) rfl rfl (pa_cons (pe_call (d_rival_table T) (hr.mono (by decide)) (by rfl) T.g_rival_table T.F_rival_table.kp T.b_rival_table .nil pass0 (pa_cons (pv 0) pa_nil)) (pa_cons (pe_disp1T hu (pe_callTy call_tupleU (by rfl) T.m_tuple (by decide +kernel) (pa_cons (pv 1) pa_nil)) pe_int) pa_nil)) (by rfl))
      (pss_cons (ps_for PassesOwn.never rfl (pi_seq (pv 3)) (pg_name (i := 6) sc_ways_seen.nd rfl (Or.inl rfl)) (pss_cons (ps_set (i := 7) sc_ways_seen.nd rfl (Or.inl rfl) pe_dnewT)
      (pss_cons (ps_lockO (ps_for PassesOwn.never rfl (pi_itemsT (pv 5)) (pg_unp rfl (pgs_cons (pg_name (i := 8) sc_ways_seen.nd rfl (Or.inl rfl)) (pgs_cons (pg_name (i := 9) sc_ways_seen.nd rfl (Or.inl rfl)) pgs_nil))) (pss_one (ps_for PassesOwn.never rfl (pi_seq (pe_ix (ix_U hu) (pv 0) pe_int (fun _ _ => rfl))) (pg_name (i := 10) sc_ways_seen.nd rfl (Or.inl rfl)) (pss_cons (ps_set (i := 11) sc_ways_seen.nd rfl (Or.inl rfl) (pe_call (d_with_press T) (hr.mono (by decide)) (by rfl) T.g_with_press T.F_with_press.kp T.b_with_press .nil pass0 (pa_cons (pv 4) (pa_cons (pv 8) (pa_cons (pv 10) pa_nil)))))
      (pss_one (ps_if (pt_cmpR (op_eqP hu) (pe_call (d_shown_of T) (hr.mono (by decide)) (by rfl) T.g_shown_of T.F_shown_of.kp T.b_shown_of .nil pass0 (pa_cons (pv 11) (pa_cons (pv 2) pa_nil))) (pe_callTy call_tupleU (by rfl) T.m_tuple (by decide +kernel) (pa_cons (pv 6) pa_nil)) (nomark _)) (pss_one (ps_asg (pe_op op_addU (pe_dget2 (Nat.lt_of_le_of_lt (Nat.add_le_add_left (show 1 ≤ 150 by decide) _) hu) (pv 7) (pv 11) pe_int ⟨by rfl, by rfl, by rfl, by rfl⟩) (pv 9)) (pg_sub (pv 7) (pv 11) (set_dict (Nat.lt_of_le_of_lt (Nat.add_le_add_left (show 1 ≤ 150 by decide) _) hu))))) pss_nil)))))))
      (pss_one (ps_set (i := 5) sc_ways_seen.nd rfl (Or.inl rfl) (pv 7))))))
      (pss_one (ps_ret (pv 5))))))
theorem d_ways_seenX (T : Tx K mg) : FnOk P w K mg base (L2.CX P w) 4 T.a_ways_seenX T.fd_ways_seenX ["panel", "state", "watched", "shown"] (sp_ways_seenX K T.ce) := by
  refine T.F_ways_seenX.ok sc_ways_seenX l_ways_seenX (fun cdv A outer s H vs Q E hr h => ⟨t_ways_seenX K T.ce E, ?_, r_ways_seenX vs H Q E h⟩)
  have hu := hu_room hr
  exact (pss_cons (ps_expr (pe_callS (d_look_switchesX T) (hr.mono (by decide)) (by rfl) T.g_look_switchesX T.F_look_switchesX.kp T.b_look_switchesX (passE (takes_of rfl rfl rfl rfl)) (pa_cons (pv 0) (pa_cons (pv 2) pa_nil))))
      (pss_cons (PS.nox (ps_par (i := 4) (j := 5) (by rfl) sc_ways_seenX.nd rfl rfl (by decide) rfl rfl (pa_cons (pe_call (d_rival_table T) (hr.mono (by decide)) (by rfl) T.g_rival_table T.F_rival_table.kp T.b_rival_table .nil pass0 (pa_cons (pv 0) pa_nil)) (pa_cons (pe_disp1T hu (pe_callTy call_tupleU (by rfl) T.m_tuple (by decide +kernel) (pa_cons (pv 1) pa_nil)) pe_int) pa_nil)) (by rfl)))
      (pss_cons (PS.nox (ps_for PassesOwn.never rfl (pi_seq (pv 3)) (pg_name (i := 6) sc_ways_seenX.nd rfl (Or.inl rfl)) (pss_cons (ps_set (i := 7) sc_ways_seenX.nd rfl (Or.inl rfl) pe_dnewT)
      (pss_cons (ps_lockO (ps_for PassesOwn.never rfl (pi_itemsT (pv 5)) (pg_unp rfl (pgs_cons (pg_name (i := 8) sc_ways_seenX.nd rfl (Or.inl rfl)) (pgs_cons (pg_name (i := 9) sc_ways_seenX.nd rfl (Or.inl rfl)) pgs_nil))) (pss_one (ps_for PassesOwn.never rfl (pi_seq (pe_ix (ix_U hu) (pv 0) pe_int (fun _ _ => rfl))) (pg_name (i := 10) sc_ways_seenX.nd rfl (Or.inl rfl)) (pss_cons (ps_set (i := 11) sc_ways_seenX.nd rfl (Or.inl rfl) (pe_call (d_with_press T) (hr.mono (by decide)) (by rfl) T.g_with_press T.F_with_press.kp T.b_with_press .nil pass0 (pa_cons (pv 4) (pa_cons (pv 8) (pa_cons (pv 10) pa_nil)))))
      (pss_one (ps_if (pt_cmpR (op_eqP hu) (pe_call (d_shown_of T) (hr.mono (by decide)) (by rfl) T.g_shown_of T.F_shown_of.kp T.b_shown_of .nil pass0 (pa_cons (pv 11) (pa_cons (pv 2) pa_nil))) (pe_callTy call_tupleU (by rfl) T.m_tuple (by decide +kernel) (pa_cons (pv 6) pa_nil)) (nomark _)) (pss_one (ps_asg (pe_op op_addU (pe_dget2 (Nat.lt_of_le_of_lt (Nat.add_le_add_left (show 1 ≤ 150 by decide) _) hu) (pv 7) (pv 11) pe_int ⟨by rfl, by rfl, by rfl, by rfl⟩) (pv 9)) (pg_sub (pv 7) (pv 11) (set_dict (Nat.lt_of_le_of_lt (Nat.add_le_add_left (show 1 ≤ 150 by decide) _) hu))))) pss_nil)))))))
      (pss_one (ps_set (i := 5) sc_ways_seenX.nd rfl (Or.inl rfl) (pv 7)))))))
      (pss_one (PS.nox (ps_ret (pv 5)))))))
theorem d_ends_seenF (T : Tx K mg) : FnOk P w K mg base CX0 5 T.a_ends_seenXF T.fd_ends_seenXF ["panel", "state", "watched", "shown"] (sp_ends_seenF K) := by
  refine T.F_ends_seenXF.ok sc_ends_seenF l_ends_seenF (fun cdv A outer s H vs Q E hr h => ⟨t_ends_seenF K, PSs.nox ?_, r_ends_seenF vs H Q E h⟩)
  have hu := hu_room hr
  exact (pss_one (ps_ret (pe_callB (call_sortT rfl hu) (by rfl) T.m_sorted (by decide +kernel) (pa_cons (pe_call (d_ways_seen T) (hr.mono (by decide)) (by rfl) T.g_ways_seen T.F_ways_seen.kp T.b_ways_seen .nil pass0 (pa_cons (pv 0) (pa_cons (pv 1) (pa_cons (pv 2) (pa_cons (pv 3) pa_nil))))) pa_nil))))
theorem d_ends_seenXF (T : Tx K mg) : FnOk P w K mg base (L2.CX P w) 5 T.a_ends_seenXF T.fd_ends_seenXF ["panel", "state", "watched", "shown"] (sp_ends_seenXF K T.ce) := by
  refine T.F_ends_seenXF.ok sc_ends_seenXF l_ends_seenXF (fun cdv A outer s H vs Q E hr h => ⟨t_ends_seenXF K T.ce E, ?_, r_ends_seenXF vs H Q E h⟩)
  have hu := hu_room hr
  exact (pss_one (ps_ret (pe_callB (call_sortT rfl hu) (by rfl) T.m_sorted (by decide +kernel) (pa_cons (pe_callS (d_ways_seenX T) (hr.mono (by decide)) (by rfl) T.g_ways_seenX T.F_ways_seenX.kp T.b_ways_seenX (passE (takes_of rfl rfl rfl rfl)) (pa_cons (pv 0) (pa_cons (pv 1) (pa_cons (pv 2) (pa_cons (pv 3) pa_nil))))) pa_nil))))
theorem d_histories_seen (T : Tx K mg) : FnOk P w K mg base CX0 5 T.a_histories_seenX T.fd_histories_seenX ["panel", "state", "watched", "shown"] (sp_histories_seen K) := by
  refine T.F_histories_seenX.ok sc_histories_seen l_histories_seen (fun cdv A outer s H vs Q E hr h => ⟨t_histories_seen K, PSs.nox ?_, r_histories_seen vs H Q E h⟩)
  have hu := hu_room hr
  exact (pss_one (ps_ret (pe_sumVals rfl (by rfl) T.m_sum (pe_call (d_ways_seen T) (hr.mono (by decide)) (by rfl) T.g_ways_seen T.F_ways_seen.kp T.b_ways_seen .nil pass0 (pa_cons (pv 0) (pa_cons (pv 1) (pa_cons (pv 2) (pa_cons (pv 3) pa_nil))))))))
theorem d_histories_seenX (T : Tx K mg) : FnOk P w K mg base (L2.CX P w) 5 T.a_histories_seenX T.fd_histories_seenX ["panel", "state", "watched", "shown"] (sp_histories_seenX K T.ce) := by
  refine T.F_histories_seenX.ok sc_histories_seenX l_histories_seenX (fun cdv A outer s H vs Q E hr h => ⟨t_histories_seenX K T.ce E, ?_, r_histories_seenX vs H Q E h⟩)
  have hu := hu_room hr
  exact (pss_one (ps_ret (pe_sumVals rfl (by rfl) T.m_sum (pe_callS (d_ways_seenX T) (hr.mono (by decide)) (by rfl) T.g_ways_seenX T.F_ways_seenX.kp T.b_ways_seenX (passE (takes_of rfl rfl rfl rfl)) (pa_cons (pv 0) (pa_cons (pv 1) (pa_cons (pv 2) (pa_cons (pv 3) pa_nil))))))))
theorem d_Lcell_at (T : Tx K mg) : FnOk P w K mg base CX0 1 T.a_Lcell_at T.fd_Lcell_at ["_law_script", "_law_k"] (sp_Lcell_at K) := by
  refine T.F_Lcell_at.ok sc_Lcell_at l_Lcell_at (fun cdv A outer s H vs Q E hr h => ⟨t_Lcell_at K, PSs.nox ?_, r_Lcell_at vs H Q E h⟩)
  have hu := hu_room hr
  exact (pss_cons (ps_if (pt_cmpR (op_ltU hu) (pv 1) (pe_callB call_lenU (by rfl) T.m_len (by decide +kernel) (pa_cons (pv 0) pa_nil)) (nomark _)) (pss_one (ps_ret (pe_ix (ix_U hu) (pv 0) (pv 1) (fun _ _ => rfl)))) pss_nil)
      (pss_one (ps_ret pe_int)))
theorem d_Lbox (T : Tx K mg) : FnOk P w K mg base CX0 2 T.a_Lbox T.fd_Lbox ["_law_script", "_law_k"] (sp_Lbox K) := by
  refine T.F_Lbox.ok sc_Lbox l_Lbox (fun cdv A outer s H vs Q E hr h => ⟨t_Lbox K, PSs.nox ?_, r_Lbox vs H Q E h⟩)
  have hu := hu_room hr
  exact (pss_cons (ps_set (i := 2) sc_Lbox.nd rfl (Or.inl rfl) (pe_call (d_Lcell_at T) (hr.mono (by decide)) (by rfl) T.g_Lcell_at T.F_Lcell_at.kp T.b_Lcell_at .nil pass0 (pa_cons (pv 0) (pa_cons (pv 1) pa_nil))))
      (pss_one (ps_ret (pe_lst (pa_cons (pe_op op_mulU (pe_callB call_absr (by rfl) T.m_abs (by decide +kernel) (pa_cons (pv 2) pa_nil)) (pe_callTy call_int1r (by rfl) T.m_int (by decide +kernel) (pa_cons (pe_cmpR (op_geU hu) (pe_callB call_absr (by rfl) T.m_abs (by decide +kernel) (pa_cons (pv 2) pa_nil)) (pe_op op_pow pe_int pe_int) (nomark _)) pa_nil))) (pa_cons (pe_op op_addU (pe_op op_addU (pe_op op_mod (pv 2) pe_int) (pe_op op_mulU pe_int (pv 1))) pe_int) (pa_cons pe_int pa_nil)))))))
theorem d_Ltake (T : Tx K mg) : FnOk P w K mg base CX0 1 T.a_Ltake T.fd_Ltake ["_law_box_here", "_law_size"] (sp_Ltake K) := by
  refine T.F_Ltake.ok sc_Ltake l_Ltake (fun cdv A outer s H vs Q E hr h => ⟨t_Ltake K, PSs.nox ?_, r_Ltake vs H Q E h⟩)
  have hu := hu_room hr
  exact (pss_cons (ps_if (pt_cmpR (op_gtU hu) (pe_ix (ix_U hu) (pv 0) pe_int (fun _ _ => rfl)) pe_int (nomark _)) (pss_cons (ps_set (i := 2) sc_Ltake.nd rfl (Or.inl rfl) (pe_op op_mod (pe_ix (ix_U hu) (pv 0) pe_int (fun _ _ => rfl)) (pv 1)))
      (pss_cons (ps_asg (pe_op op_fdiv (pe_ix (ix_U hu) (pv 0) pe_int (fun _ _ => rfl)) (pv 1)) (pg_sub (pv 0) pe_int set_list))
      (pss_one (ps_ret (pv 2))))) pss_nil)
      (pss_cons (ps_asg (pe_op op_addU (pe_ix (ix_U hu) (pv 0) pe_int (fun _ _ => rfl)) pe_int) (pg_sub (pv 0) pe_int set_list))
      (pss_cons (ps_set (i := 3) sc_Ltake.nd rfl (Or.inl rfl) (pe_op op_mod (pe_op op_mulU (pe_op op_addU (pe_ix (ix_U hu) (pv 0) pe_int (fun _ _ => rfl)) (pe_op op_mulU pe_int (pe_ix (ix_U hu) (pv 0) pe_int (fun _ _ => rfl)))) (pe_op op_addU pe_int (pe_ix (ix_U hu) (pv 0) pe_int (fun _ _ => rfl)))) pe_int))
      (pss_cons (ps_set (i := 4) sc_Ltake.nd rfl (Or.inl rfl) (pe_op op_mod (pe_op op_mulU (pe_op op_addU (pe_op op_addU (pv 3) (pe_ix (ix_U hu) (pv 0) pe_int (fun _ _ => rfl))) (pe_op op_fdiv (pe_ix (ix_U hu) (pv 0) pe_int (fun _ _ => rfl)) pe_int)) (pe_op op_addU (pe_op op_mod (pv 3) pe_int) pe_int)) pe_int))
      (pss_one (ps_ret (pe_op op_mod (pe_op op_fdiv (pe_op op_mod (pe_op op_addU (pe_op op_mulU (pv 4) pe_int) (pv 3)) pe_int) pe_int) (pv 1))))))))
theorem d_Lof (T : Tx K mg) : FnOk P w K mg base CX0 2 T.a_Lof T.fd_Lof ["_law_box_here", "_law_some"] (sp_Lof K) := by
  refine T.F_Lof.ok sc_Lof l_Lof (fun cdv A outer s H vs Q E hr h => ⟨t_Lof K, PSs.nox ?_, r_Lof vs H Q E h⟩)
  have hu := hu_room hr
  exact (pss_one (ps_ret (pe_ix (ix_U hu) (pv 1) (pe_call (d_Ltake T) (hr.mono (by decide)) (by rfl) T.g_Ltake T.F_Ltake.kp T.b_Ltake .nil pass0 (pa_cons (pv 0) (pa_cons (pe_callB call_lenU (by rfl) T.m_len (by decide +kernel) (pa_cons (pv 1) pa_nil)) pa_nil))) (fun _ _ => rfl))))
theorem dr_Lsame (T : Tx K mg) (n j : Nat) (hj : 1 ≤ j) (d_Lsame : Tx K mg → FnOk P w K mg base CX0 j T.a_Lsame T.fd_Lsame ["_law_told", "_law_due"] (spOf_Lsame K n)) : FnOk P w K mg base CX0 (j + 1) T.a_Lsame T.fd_Lsame ["_law_told", "_law_due"] (spOf_Lsame K (n + 1)) := by
  refine T.F_Lsame.ok sc_Lsame lOf_Lsame (fun cdv A outer s H vs Q E hr h => ⟨t_Lsame K (fun K => spOf_Lsame K n), PSs.nox ?_, r_Lsame n vs H Q E h⟩)
  have hu := hu_room hr
  exact (pss_cons (ps_if (pt_val (pe_callB call_isiT (by rfl) T.m_isinstance (by decide +kernel) (pa_cons (pv 1) (pa_cons (pe_tup (pa_cons (pe_bltn (v := .ty "list") (by rfl) T.m_list (by decide +kernel) rfl) (pa_cons (pe_bltn (v := .ty "tuple") (by rfl) T.m_tuple (by decide +kernel) rfl) pa_nil))) pa_nil)))) (pss_cons (ps_if (PW.pt (pw_or (pt_cmpR (op_neP hu) (pe_callB call_isi (by rfl) T.m_isinstance (by decide +kernel) (pa_cons (pv 0) (pa_cons (pe_bltn (v := .ty "list") (by rfl) T.m_list (by decide +kernel) rfl) pa_nil))) (pe_callB call_isi (by rfl) T.m_isinstance (by decide +kernel) (pa_cons (pv 1) (pa_cons (pe_bltn (v := .ty "list") (by rfl) T.m_list (by decide +kernel) rfl) pa_nil))) (nomark _)) (pw_or1 (pt_cmpR (op_neP hu) (pe_callB call_isi (by rfl) T.m_isinstance (by decide +kernel) (pa_cons (pv 0) (pa_cons (pe_bltn (v := .ty "tuple") (by rfl) T.m_tuple (by decide +kernel) rfl) pa_nil))) (pe_callB call_isi (by rfl) T.m_isinstance (by decide +kernel) (pa_cons (pv 1) (pa_cons (pe_bltn (v := .ty "tuple") (by rfl) T.m_tuple (by decide +kernel) rfl) pa_nil))) (nomark _))))) (pss_one (ps_ret pe_bl)) pss_nil)
      (pss_one (ps_ret (pe_and (pe_cmpR (op_eqP hu) (pe_callB call_lenU (by rfl) T.m_len (by decide +kernel) (pa_cons (pv 0) pa_nil)) (pe_callB call_lenU (by rfl) T.m_len (by decide +kernel) (pa_cons (pv 1) pa_nil)) (nomark _)) (pe_one (pe_callB (cr_all rfl) (by rfl) T.m_all (by decide +kernel) (pa_cons (pe_lc (own := [("_law_mine", 2), ("_law_its", 3)]) rfl sc_Lsame.nd (RZ.pi_zipA (by rfl) T.m_zip (pa_cons (pv 0) (pa_cons (pv 1) pa_nil))) (blkOk_by (own := [("_law_mine", 2), ("_law_its", 3)]) (N := N_Lsame) (sc := defScope s_Lsame) (by decide +kernel)) (fun _ _ _ _ _ => (pg_unp rfl (pgs_cons (pg_name (i := 2) sc_Lsame.nd rfl (by first | exact Or.inl rfl | exact Or.inr rfl)) (pgs_cons (pg_name (i := 3) sc_Lsame.nd rfl (by first | exact Or.inl rfl | exact Or.inr rfl)) pgs_nil)))) (fun _ _ _ _ _ => pts_nil) (fun _ _ _ _ _ => (pe_call (d_Lsame T) (hr.mono (Nat.le_refl _)) (by rfl) T.g_Lsame T.F_Lsame.kp T.b_Lsame .nil pass0 (pa_cons (pv 2) (pa_cons (pv 3) pa_nil))))) pa_nil))))))) pss_nil)
      (pss_cons (ps_if (PW.pt (pw_or (pt_cmpR op_isNr (pv 1) pe_non (nomark _)) (pw_or1 (pt_val (pe_callB call_isiT (by rfl) T.m_isinstance (by decide +kernel) (pa_cons (pv 1) (pa_cons (pe_tup (pa_cons (pe_bltn (v := .ty "bool") (by rfl) T.m_bool (by decide +kernel) rfl) (pa_cons (pe_bltn (v := .ty "str") (by rfl) T.m_str (by decide +kernel) rfl) pa_nil))) pa_nil))))))) (pss_one (ps_ret (pe_and (pe_cmpR (op_eqP hu) (pv 0) (pv 1) (nomark _)) (pe_and (pe_cmpR (op_eqP hu) (pe_callB call_isi (by rfl) T.m_isinstance (by decide +kernel) (pa_cons (pv 0) (pa_cons (pe_bltn (v := .ty "bool") (by rfl) T.m_bool (by decide +kernel) rfl) pa_nil))) (pe_callB call_isi (by rfl) T.m_isinstance (by decide +kernel) (pa_cons (pv 1) (pa_cons (pe_bltn (v := .ty "bool") (by rfl) T.m_bool (by decide +kernel) rfl) pa_nil))) (nomark _)) (pe_one (pe_cmpR (op_eqP hu) (pe_cmpR op_isNr (pv 0) pe_non (nomark _)) (pe_cmpR op_isNr (pv 1) pe_non (nomark _)) (nomark _))))))) pss_nil)
      (pss_one (ps_ret (pe_and (pe_callB call_isi (by rfl) T.m_isinstance (by decide +kernel) (pa_cons (pv 0) (pa_cons (pe_bltn (v := .ty "int") (by rfl) T.m_int (by decide +kernel) rfl) pa_nil))) (pe_and (pe_not (pe_callB call_isi (by rfl) T.m_isinstance (by decide +kernel) (pa_cons (pv 0) (pa_cons (pe_bltn (v := .ty "bool") (by rfl) T.m_bool (by decide +kernel) rfl) pa_nil)))) (pe_one (pe_cmpR (op_eqP hu) (pv 0) (pv 1) (nomark _)))))))))
theorem d_Lsame (T : Tx K mg) : FnOk P w K mg base CX0 7 T.a_Lsame T.fd_Lsame ["_law_told", "_law_due"] (sp_Lsame K) := by
  have h : ∀ n, FnOk P w K mg base CX0 (1 + n) T.a_Lsame T.fd_Lsame ["_law_told", "_law_due"] (spOf_Lsame K n) := fun n => by
    induction n with
    | zero => exact ⟨fun vs H Q E h => h.elim, fun A outer s H args us vs Q E hr he hb hv h => h.elim⟩
    | succ n ih => exact dr_Lsame T n (1 + n) (Nat.le_add_right _ _) (fun _ => ih)
  exact h 6
theorem dr_Llists (T : Tx K mg) (n j : Nat) (hj : 1 ≤ j) (d_Llists : Tx K mg → FnOk P w K mg base CX0 j T.a_Llists T.fd_Llists ["_law_matter"] (spOf_Llists K n)) : FnOk P w K mg base CX0 (j + 1) T.a_Llists T.fd_Llists ["_law_matter"] (spOf_Llists K (n + 1)) := by
  refine T.F_Llists.ok sc_Llists lOf_Llists (fun cdv A outer s H vs Q E hr h => ⟨t_Llists K (fun K => spOf_Llists K n), PSs.nox ?_, r_Llists n vs H Q E h⟩)
  have hu := hu_room hr
  exact (pss_one (ps_ret (pe_ifExp (pt_val (pe_callB call_isiT (by rfl) T.m_isinstance (by decide +kernel) (pa_cons (pv 0) (pa_cons (pe_tup (pa_cons (pe_bltn (v := .ty "list") (by rfl) T.m_list (by decide +kernel) rfl) (pa_cons (pe_bltn (v := .ty "tuple") (by rfl) T.m_tuple (by decide +kernel) rfl) pa_nil))) pa_nil)))) (pe_lc (own := [("_law_part", 1)]) rfl sc_Llists.nd (pi_seq (pv 0)) (blkOk_by (own := [("_law_part", 1)]) (N := N_Llists) (sc := defScope s_Llists) (by decide +kernel)) (fun _ _ _ _ _ => (pg_name (i := 1) sc_Llists.nd rfl (by first | exact Or.inl rfl | exact Or.inr rfl))) (fun _ _ _ _ _ => pts_nil) (fun _ _ _ _ _ => (pe_call (d_Llists T) (hr.mono (Nat.le_refl _)) (by rfl) T.g_Llists T.F_Llists.kp T.b_Llists .nil pass0 (pa_cons (pv 1) pa_nil)))) (pv 0))))
theorem d_Llists (T : Tx K mg) : FnOk P w K mg base CX0 7 T.a_Llists T.fd_Llists ["_law_matter"] (sp_Llists K) := by
  have h : ∀ n, FnOk P w K mg base CX0 (1 + n) T.a_Llists T.fd_Llists ["_law_matter"] (spOf_Llists K n) := fun n => by
    induction n with
    | zero => exact ⟨fun vs H Q E h => h.elim, fun A outer s H args us vs Q E hr he hb hv h => h.elim⟩
    | succ n ih => exact dr_Llists T n (1 + n) (Nat.le_add_right _ _) (fun _ => ih)
  exact h 6
theorem d_Lstrewn (T : Tx K mg) : FnOk P w K mg base CX0 2 T.a_Lstrewn T.fd_Lstrewn ["_law_box_here", "_law_some"] (sp_Lstrewn K) := by
  refine T.F_Lstrewn.ok sc_Lstrewn l_Lstrewn (fun cdv A outer s H vs Q E hr h => ⟨t_Lstrewn K, PSs.nox ?_, r_Lstrewn vs H Q E h⟩)
  have hu := hu_room hr
  exact (pss_cons (ps_par (i := 2) (j := 3) (by rfl) sc_Lstrewn.nd rfl rfl (by decide) rfl rfl (pa_cons (pe_callTy (call_listU rfl) (by rfl) T.m_list (by decide +kernel) (pa_cons (pv 1) pa_nil)) (pa_cons (pe_lst pa_nil) pa_nil)) (by rfl))
      (pss_cons (ps_while PassesOwn.never (pt_cmpR (op_neP hu) (pv 2) (pe_lst pa_nil) (nomark _)) (pss_one (ps_expr (pe_bm PySem.F.plainAttrs_list PySem.F.slot_list_append PySem.F.type_list_append mt_append (pv 3) (pa_cons (pe_bm PySem.F.plainAttrs_list PySem.F.slot_list_pop PySem.F.type_list_pop mt_popAt (pv 2) (pa_cons (pe_call (d_Ltake T) (hr.mono (by decide)) (by rfl) T.g_Ltake T.F_Ltake.kp T.b_Ltake .nil pass0 (pa_cons (pv 0) (pa_cons (pe_callB call_lenU (by rfl) T.m_len (by decide +kernel) (pa_cons (pv 2) pa_nil)) pa_nil))) pa_nil)) pa_nil)))))
      (pss_one (ps_ret (pv 3)))))
theorem d_Lnames (T : Tx K mg) : FnOk P w K mg base CX0 3 T.a_Lnames T.fd_Lnames ["_law_box_here", "_law_size"] (sp_Lnames K) := by
  refine T.F_Lnames.ok sc_Lnames l_Lnames (fun cdv A outer s H vs Q E hr h => ⟨t_Lnames K, PSs.nox ?_, r_Lnames vs H Q E h⟩)
  have hu := hu_room hr
  exact (pss_cons (ps_set (i := 2) sc_Lnames.nd rfl (Or.inl rfl) (pe_lst (pa_cons pe_str (pa_cons pe_str (pa_cons pe_str (pa_cons pe_str (pa_cons pe_str (pa_cons pe_str (pa_cons pe_str (pa_cons pe_str (pa_cons pe_str (pa_cons pe_str (pa_cons pe_str (pa_cons pe_str (pa_cons pe_str (pa_cons pe_str pa_nil))))))))))))))))
      (pss_one (ps_ret (pe_callB (cr_sortU rfl hu) (by rfl) T.m_sorted (by decide +kernel) (pa_cons (pe_slice sl_U (pe_call (d_Lstrewn T) (hr.mono (by decide)) (by rfl) T.g_Lstrewn T.F_Lstrewn.kp T.b_Lstrewn .nil pass0 (pa_cons (pv 0) (pa_cons (pv 2) pa_nil))) po_none (po_some (pv 1))) pa_nil)))))
theorem d_Ltied (T : Tx K mg) : FnOk P w K mg base CX0 3 T.a_Ltied T.fd_Ltied ["_law_box_here", "_law_called"] (sp_Ltied K) := by
  refine T.F_Ltied.ok sc_Ltied l_Ltied (fun cdv A outer s H vs Q E hr h => ⟨t_Ltied K, PSs.nox ?_, r_Ltied vs H Q E h⟩)
  have hu := hu_room hr
  exact (pss_cons (ps_asg (pe_tup (pa_cons (pe_call (d_Ltake T) (hr.mono (by decide)) (by rfl) T.g_Ltake T.F_Ltake.kp T.b_Ltake .nil pass0 (pa_cons (pv 0) (pa_cons pe_int pa_nil))) (pa_cons (pe_lst pa_nil) pa_nil))) (pg_unp rfl (pgs_cons (pg_name (i := 2) sc_Ltied.nd rfl (Or.inr rfl)) (pgs_cons (pg_name (i := 3) sc_Ltied.nd rfl (Or.inl rfl)) pgs_nil))))
      (pss_cons (ps_set (i := 4) sc_Ltied.nd rfl (Or.inr rfl) (pe_call (d_Lstrewn T) (hr.mono (by decide)) (by rfl) T.g_Lstrewn T.F_Lstrewn.kp T.b_Lstrewn .nil pass0 (pa_cons (pv 0) (pa_cons (pv 1) pa_nil))))
      (pss_cons (ps_for PassesOwn.never rfl (pi_range2 (by rfl) T.m_range (pa_cons pe_int (pa_cons (pe_callB call_lenU (by rfl) T.m_len (by decide +kernel) (pa_cons (pv 4) pa_nil)) pa_nil))) (pg_name (i := 5) sc_Ltied.nd rfl (Or.inr rfl)) (pss_cons (ps_setLc (i := 6) (own := [("_law_mate", 7)]) rfl sc_Ltied.nd rfl rfl (sw_true rfl rfl rfl (by decide +kernel)) (pi_seq (pe_slice sl_U (pv 4) po_none (po_some (pv 5)))) (blkOk_by (own := [("_law_mate", 7)]) (N := N_Ltied) (sc := defScope s_Ltied) (by decide +kernel)) (fun _ _ _ _ _ => (pg_name (i := 7) sc_Ltied.nd rfl (by first | exact Or.inl rfl | exact Or.inr rfl))) (fun _ _ _ _ _ => (pts_one (PW.pt (pw_or (pt_cmpR (op_eqP hu) (pv 2) pe_int (nomark _)) (pw_or1 (PW.pt (pw_and (pt_cmpR (op_inU hu) (pv 2) (pe_tup (pa_cons pe_int (pa_cons pe_int pa_nil))) (by rfl)) (pw_and1 (pt_cmpR (op_eqP hu) (pe_call (d_Ltake T) (hr.mono (by decide)) (by rfl) T.g_Ltake T.F_Ltake.kp T.b_Ltake .nil pass0 (pa_cons (pv 0) (pa_cons (pe_op op_sub pe_int (pv 2)) pa_nil))) pe_int (nomark _)))))))))) (fun _ _ _ _ _ => (pv 7)))
      (pss_cons (ps_set (i := 6) sc_Ltied.nd rfl (Or.inl rfl) (pe_op op_addU (pe_op op_addU (pv 6) (pe_op op_mulU (pe_lst (pa_cons (pe_ix (ix_U hu) (pv 4) (pe_op op_sub (pv 5) pe_int) (fun _ _ => rfl)) pa_nil)) (pe_callTy call_int1r (by rfl) T.m_int (by decide +kernel) (pa_cons (pe_cmpR (op_inU hu) (pv 2) (pe_tup (pa_cons pe_int (pa_cons pe_int pa_nil))) (by rfl)) pa_nil)))) (pe_op op_mulU (pe_lst (pa_cons (pe_ix (ix_U hu) (pv 4) pe_int (fun _ _ => rfl)) pa_nil)) (pe_callTy call_int1r (by rfl) T.m_int (by decide +kernel) (pa_cons (pe_cmpR (op_eqP hu) (pv 2) pe_int (nomark _)) pa_nil)))))
      (pss_cons (ps_set (i := 6) sc_Ltied.nd rfl (Or.inl rfl) (pe_op op_addU (pv 6) (pe_op op_mulU (pe_lst (pa_cons (pe_ix (ix_U hu) (pv 4) (pe_call (d_Ltake T) (hr.mono (by decide)) (by rfl) T.g_Ltake T.F_Ltake.kp T.b_Ltake .nil pass0 (pa_cons (pv 0) (pa_cons (pv 5) pa_nil))) (fun _ _ => rfl)) pa_nil)) (pe_callTy call_int1r (by rfl) T.m_int (by decide +kernel) (pa_cons (pe_cmpR (op_eqP hu) (pv 2) pe_int (nomark _)) pa_nil)))))
      (pss_one (ps_set (i := 3) sc_Ltied.nd rfl (Or.inl rfl) (pe_op op_addU (pv 3) (pe_lc (own := [("_law_mate", 7)]) rfl sc_Ltied.nd (pi_seq (pv 6)) (blkOk_by (own := [("_law_mate", 7)]) (N := N_Ltied) (sc := defScope s_Ltied) (by decide +kernel)) (fun _ _ _ _ _ => (pg_name (i := 7) sc_Ltied.nd rfl (by first | exact Or.inl rfl | exact Or.inr rfl))) (fun _ _ _ _ _ => pts_nil) (fun _ _ _ _ _ => (pe_tup (pa_cons (pe_callB (cr_minU rfl) (by rfl) T.m_min (by decide +kernel) (pa_cons (pe_ix (ix_U hu) (pv 4) (pv 5) (fun _ _ => rfl)) (pa_cons (pv 7) pa_nil))) (pa_cons (pe_callB (cr_maxU rfl) (by rfl) T.m_max (by decide +kernel) (pa_cons (pe_ix (ix_U hu) (pv 4) (pv 5) (fun _ _ => rfl)) (pa_cons (pv 7) pa_nil))) pa_nil))))))))))))
      (pss_cons (ps_if (PW.pt (pw_and (pt_cmpR (op_eqP hu) (pv 2) pe_int (nomark _)) (pw_and1 (pt_cmpR (op_gtU hu) (pe_callB call_lenU (by rfl) T.m_len (by decide +kernel) (pa_cons (pv 4) pa_nil)) pe_int (nomark _))))) (pss_one (ps_expr (pe_bm PySem.F.plainAttrs_list PySem.F.slot_list_append PySem.F.type_list_append mt_append (pv 3) (pa_cons (pe_tup (pa_cons (pe_callB (cr_minU rfl) (by rfl) T.m_min (by decide +kernel) (pa_cons (pe_ix (ix_U hu) (pv 4) pe_int (fun _ _ => rfl)) (pa_cons (pe_ix (ix_U hu) (pv 4) (pe_un un_neg pe_int) (fun _ _ => rfl)) pa_nil))) (pa_cons (pe_callB (cr_maxU rfl) (by rfl) T.m_max (by decide +kernel) (pa_cons (pe_ix (ix_U hu) (pv 4) pe_int (fun _ _ => rfl)) (pa_cons (pe_ix (ix_U hu) (pv 4) (pe_un un_neg pe_int) (fun _ _ => rfl)) pa_nil))) pa_nil))) pa_nil)))) pss_nil)
      (pss_one (ps_ret (pe_tup (pa_cons (pe_callTy call_tupleU (by rfl) T.m_tuple (by decide +kernel) (pa_cons (pv 1) pa_nil)) (pa_cons (pe_callTy call_tupleU (by rfl) T.m_tuple (by decide +kernel) (pa_cons (pe_callB (cr_sortU rfl hu) (by rfl) T.m_sorted (by decide +kernel) (pa_cons (pv 3) pa_nil)) pa_nil)) pa_nil)))))))))
theorem d_Lwired (T : Tx K mg) : FnOk P w K mg base CX0 4 T.a_Lwired T.fd_Lwired ["_law_box_here", "_law_least", "_law_most"] (sp_Lwired K) := by
  refine T.F_Lwired.ok sc_Lwired l_Lwired (fun cdv A outer s H vs Q E hr h => ⟨t_Lwired K, PSs.nox ?_, r_Lwired vs H Q E h⟩)
  have hu := hu_room hr
  exact (pss_one (ps_ret (pe_call (d_Ltied T) (hr.mono (by decide)) (by rfl) T.g_Ltied T.F_Ltied.kp T.b_Ltied .nil pass0 (pa_cons (pv 0) (pa_cons (pe_call (d_Lnames T) (hr.mono (by decide)) (by rfl) T.g_Lnames T.F_Lnames.kp T.b_Lnames .nil pass0 (pa_cons (pv 0) (pa_cons (pe_op op_addU (pv 1) (pe_call (d_Ltake T) (hr.mono (by decide)) (by rfl) T.g_Ltake T.F_Ltake.kp T.b_Ltake .nil pass0 (pa_cons (pv 0) (pa_cons (pe_op op_addU (pe_op op_sub (pv 2) (pv 1)) pe_int) pa_nil)))) pa_nil))) pa_nil)))))
theorem d_Ltable (T : Tx K mg) : FnOk P w K mg base CX0 1 T.a_Ltable T.fd_Ltable ["_law_wired_here"] (sp_Ltable K) := by
  refine T.F_Ltable.ok sc_Ltable l_Ltable (fun cdv A outer s H vs Q E hr h => ⟨t_Ltable K, PSs.nox ?_, r_Ltable vs H Q E h⟩)
  have hu := hu_room hr
  exact (pss_cons (ps_set (i := 1) sc_Ltable.nd rfl (Or.inl rfl) (pe_callTy (call_dictPr rfl) (by rfl) T.m_dict (by decide +kernel) (pa_cons (pe_lc (own := [("_law_name", 2)]) rfl sc_Ltable.nd (pi_seq (pe_ix (ix_U hu) (pv 0) pe_int (fun _ _ => rfl))) (blkOk_by (own := [("_law_name", 2)]) (N := N_Ltable) (sc := defScope s_Ltable) (by decide +kernel)) (fun _ _ _ _ _ => (pg_name (i := 2) sc_Ltable.nd rfl (by first | exact Or.inl rfl | exact Or.inr rfl))) (fun _ _ _ _ _ => pts_nil) (fun _ _ _ _ _ => (pe_tup (pa_cons (pv 2) (pa_cons (pe_lst pa_nil) pa_nil))))) pa_nil)))
      (pss_cons (ps_for PassesOwn.never rfl (pi_seq (pe_ix (ix_U hu) (pv 0) pe_int (fun _ _ => rfl))) (pg_unp rfl (pgs_cons (pg_name (i := 2) sc_Ltable.nd rfl (Or.inl rfl)) (pgs_cons (pg_name (i := 3) sc_Ltable.nd rfl (Or.inl rfl)) pgs_nil))) (pss_cons (ps_expr (pe_bm PySem.F.plainAttrs_list PySem.F.slot_list_append PySem.F.type_list_append mt_append (pe_ix (ix_U hu) (pv 1) (pv 2) (fun _ _ => rfl)) (pa_cons (pv 3) pa_nil)))
      (pss_one (ps_expr (pe_bm PySem.F.plainAttrs_list PySem.F.slot_list_append PySem.F.type_list_append mt_append (pe_ix (ix_U hu) (pv 1) (pv 3) (fun _ _ => rfl)) (pa_cons (pv 2) pa_nil))))))
      (pss_one (ps_ret (pv 1)))))
theorem d_Lafter (T : Tx K mg) : FnOk P w K mg base CX0 1 T.a_Lafter T.fd_Lafter ["_law_table_here", "_law_here", "_law_name"] (sp_Lafter K) := by
  refine T.F_Lafter.ok sc_Lafter l_Lafter (fun cdv A outer s H vs Q E hr h => ⟨t_Lafter K, PSs.nox ?_, r_Lafter vs H Q E h⟩)
  have hu := hu_room hr
  exact (pss_one (ps_ret (pe_callTy call_tupleU (by rfl) T.m_tuple (by decide +kernel) (pa_cons (pe_callB (cr_sortU rfl hu) (by rfl) T.m_sorted (by decide +kernel) (pa_cons (pe_op op_addU (pe_lc (own := [("_law_near", 3)]) rfl sc_Lafter.nd (pi_seq (pv 1)) (blkOk_by (own := [("_law_near", 3)]) (N := N_Lafter) (sc := defScope s_Lafter) (by decide +kernel)) (fun _ _ _ _ _ => (pg_name (i := 3) sc_Lafter.nd rfl (by first | exact Or.inl rfl | exact Or.inr rfl))) (fun _ _ _ _ _ => (pts_one (PW.pt (pw_and (pt_cmpR (op_notInU hu) (pv 3) (pe_ix (ix_U hu) (pv 0) (pv 2) (fun _ _ => rfl)) (by rfl)) (pw_and1 (pt_cmpR (op_neP hu) (pv 3) (pv 2) (nomark _))))))) (fun _ _ _ _ _ => (pv 3))) (pe_lst (pa_cons (pv 2) pa_nil))) pa_nil)) pa_nil))))
theorem d_Lstate (T : Tx K mg) : FnOk P w K mg base CX0 3 T.a_Lstate T.fd_Lstate ["_law_box_here", "_law_wired_here", "_law_table_here"] (sp_Lstate K) := by
  refine T.F_Lstate.ok sc_Lstate l_Lstate (fun cdv A outer s H vs Q E hr h => ⟨t_Lstate K, PSs.nox ?_, r_Lstate vs H Q E h⟩)
  have hu := hu_room hr
  exact (pss_cons (ps_set (i := 3) sc_Lstate.nd rfl (Or.inr rfl) (pe_lst pa_nil))
      (pss_cons (ps_for PassesOwn.never rfl (pi_seq (pe_call (d_Lstrewn T) (hr.mono (by decide)) (by rfl) T.g_Lstrewn T.F_Lstrewn.kp T.b_Lstrewn .nil pass0 (pa_cons (pv 0) (pa_cons (pe_ix (ix_U hu) (pv 1) pe_int (fun _ _ => rfl)) pa_nil)))) (pg_name (i := 4) sc_Lstate.nd rfl (Or.inl rfl)) (pss_one (ps_if (PW.pt (pw_and (pt_cmpR (op_gtU hu) (pe_call (d_Ltake T) (hr.mono (by decide)) (by rfl) T.g_Ltake T.F_Ltake.kp T.b_Ltake .nil pass0 (pa_cons (pv 0) (pa_cons pe_int pa_nil))) pe_int (nomark _)) (pw_and1 (pt_cmpR (op_eqP hu) (pe_lc (own := [("_law_near", 5)]) rfl sc_Lstate.nd (pi_seq (pe_ix (ix_U hu) (pv 2) (pv 4) (fun _ _ => rfl))) (blkOk_by (own := [("_law_near", 5)]) (N := N_Lstate) (sc := defScope s_Lstate) (by decide +kernel)) (fun _ _ _ _ _ => (pg_name (i := 5) sc_Lstate.nd rfl (by first | exact Or.inl rfl | exact Or.inr rfl))) (fun _ _ _ _ _ => (pts_one (pt_cmpR (op_inU hu) (pv 5) (pv 3) (by rfl)))) (fun _ _ _ _ _ => (pv 5))) (pe_lst pa_nil) (nomark _))))) (pss_one (ps_expr (pe_bm PySem.F.plainAttrs_list PySem.F.slot_list_append PySem.F.type_list_append mt_append (pv 3) (pa_cons (pv 4) pa_nil)))) pss_nil)))
      (pss_one (ps_ret (pe_callTy call_tupleU (by rfl) T.m_tuple (by decide +kernel) (pa_cons (pe_callB (cr_sortU rfl hu) (by rfl) T.m_sorted (by decide +kernel) (pa_cons (pv 3) pa_nil)) pa_nil))))))
theorem d_Lby_lamps (T : Tx K mg) : FnOk P w K mg base CX0 2 T.a_Lby_lamps T.fd_Lby_lamps ["_law_wired_here", "_law_table_here", "_law_here", "_law_watched_here", "_law_size"] (sp_Lby_lamps K (hashN w)) := by
  refine T.F_Lby_lamps.ok sc_Lby_lamps l_Lby_lamps (fun cdv A outer s H vs Q E hr h => ⟨t_Lby_lamps K (hashN w), PSs.nox ?_, r_Lby_lamps vs H Q E h⟩)
  have hu := hu_room hr
  exact (pss_cons (ps_set (i := 5) sc_Lby_lamps.nd rfl (Or.inl rfl) (pe_disp1N hu rfl (pe_tup pa_nil) (pe_lst (pa_cons (pv 2) pa_nil))))
      (pss_cons (ps_for PassesOwn.never rfl (pi_range1 (by rfl) T.m_range (pa_cons (pv 4) pa_nil)) (pg_name (i := 6) sc_Lby_lamps.nd rfl (Or.inl rfl)) (pss_cons (ps_set (i := 7) sc_Lby_lamps.nd rfl (Or.inl rfl) pe_dnewN)
      (pss_cons (ps_lockO (ps_for PassesOwn.never rfl (pi_keysN (pv 5)) (pg_name (i := 8) sc_Lby_lamps.nd rfl (Or.inl rfl)) (pss_one (ps_for PassesOwn.never rfl (pi_seq (pe_ix (ix_R hu rfl) (pv 5) (pv 8) (fun _ _ => rfl))) (pg_name (i := 9) sc_Lby_lamps.nd rfl (Or.inl rfl)) (pss_one (ps_for PassesOwn.never rfl (pi_seq (pe_ix (ix_U hu) (pv 0) pe_int (fun _ _ => rfl))) (pg_name (i := 10) sc_Lby_lamps.nd rfl (Or.inl rfl)) (pss_cons (ps_set (i := 11) sc_Lby_lamps.nd rfl (Or.inl rfl) (pe_call (d_Lafter T) (hr.mono (by decide)) (by rfl) T.g_Lafter T.F_Lafter.kp T.b_Lafter .nil pass0 (pa_cons (pv 1) (pa_cons (pv 9) (pa_cons (pv 10) pa_nil)))))
      (pss_cons (ps_set (i := 12) sc_Lby_lamps.nd rfl (Or.inl rfl) (pe_op op_addU (pv 8) (pe_tup (pa_cons (pe_callTy call_tupleU (by rfl) T.m_tuple (by decide +kernel) (pa_cons (pe_lc (own := [("_law_lamp", 13)]) rfl sc_Lby_lamps.nd (pi_seq (pv 11)) (blkOk_by (own := [("_law_lamp", 13)]) (N := N_Lby_lamps) (sc := defScope s_Lby_lamps) (by decide +kernel)) (fun _ _ _ _ _ => (pg_name (i := 13) sc_Lby_lamps.nd rfl (by first | exact Or.inl rfl | exact Or.inr rfl))) (fun _ _ _ _ _ => (pts_one (pt_cmpR (op_inU hu) (pv 13) (pv 3) (by rfl)))) (fun _ _ _ _ _ => (pv 13))) pa_nil)) pa_nil))))
      (pss_one (ps_asg (pe_op op_addU (pe_getR hu rfl (pv 7) (pv 12) (pe_lst pa_nil) ⟨by rfl, by rfl, by rfl, by rfl⟩) (pe_lst (pa_cons (pv 11) pa_nil))) (pg_sub (pv 7) (pv 12) (set_N hu rfl))))))))))))
      (pss_one (ps_set (i := 5) sc_Lby_lamps.nd rfl (Or.inl rfl) (pv 7))))))
      (pss_one (ps_ret (pv 5)))))
theorem d_Lunknown (T : Tx K mg) : FnOk P w K mg base CX0 6 T.a_Lunknown T.fd_Lunknown ["_law_wired_here", "_law_here", "_law_watched_here", "_law_is_count"] (sp_Lunknown K) := by
  refine T.F_Lunknown.ok sc_Lunknown l_Lunknown (fun cdv A outer s H vs Q E hr h => ⟨t_Lunknown K T.ce, PSs.nox ?_, r_Lunknown vs H Q E h⟩)
  have hu := hu_room hr
  exact (pss_cons (ps_set (i := 4) sc_Lunknown.nd rfl (Or.inl rfl) pe_non)
      (pss_cons (ps_try_hold2 (i := 5) rfl rfl rfl sc_Lunknown.nd rfl rfl ⟨by rfl, by decide, .inl T.gn_1⟩ ⟨by rfl, by decide, .inl T.gn_2⟩ takes0 (fun W pn xe tk _ => (pss_one (ps_if (pt_val (pv 3)) (pss_one (ps_expr (pe_callS (d_histories_seenX T) (hr.mono (by decide)) (by rfl) T.g_histories_seenX T.F_histories_seenX.kp T.b_histories_seenX (fun σ => passAt tk σ) (pa_cons (pv 0) (pa_cons (pv 1) (pa_cons (pv 2) (pa_cons (pe_lst pa_nil) pa_nil))))))) (pss_one (ps_expr (pe_callS (d_ends_seenXF T) (hr.mono (by decide)) (by rfl) T.g_ends_seenXF T.F_ends_seenXF.kp T.b_ends_seenXF (fun σ => passAt tk σ) (pa_cons (pv 0) (pa_cons (pv 1) (pa_cons (pv 2) (pa_cons (pe_lst pa_nil) pa_nil)))))))))) (fun a oe cls d pn _ _ => (pss_one (ps_set (i := 4) sc_Lunknown.nd rfl (Or.inl rfl) (pv 5)))))
      (pss_one (ps_ret (pe_ifExp (PW.pt (pw_and (pt_val (pe_callB call_isF (by rfl) T.m_isinstance (by decide +kernel) (pa_cons (pv 4) (pa_cons (pe_glob (by rfl) T.gc_NoSwitch rfl) pa_nil)))) (pw_and1 (pt_not (pt_val (pe_callB call_isF (by rfl) T.m_isinstance (by decide +kernel) (pa_cons (pv 4) (pa_cons (pe_glob (by rfl) T.gn_1 rfl) pa_nil)))))))) (pe_fldH T.ce.T (pv 4)) pe_non)))))
theorem d_Lright (T : Tx K mg) : FnOk P w K mg base CX0 8 T.a_Lright T.fd_Lright ["_law_box_here"] (sp_Lright K) := by
  refine T.F_Lright.ok sc_Lright l_Lright (fun cdv A outer s H vs Q E hr h => ⟨t_Lright K (hashN w), PSs.nox ?_, r_Lright vs H Q E h⟩)
  have hu := hu_room hr
  exact (pss_cons (ps_set (i := 1) sc_Lright.nd rfl (Or.inr rfl) (pe_call (d_Lwired T) (hr.mono (by decide)) (by rfl) T.g_Lwired T.F_Lwired.kp T.b_Lwired .nil pass0 (pa_cons (pv 0) (pa_cons pe_int (pa_cons pe_int pa_nil)))))
      (pss_cons (ps_set (i := 2) sc_Lright.nd rfl (Or.inl rfl) (pe_call (d_Ltable T) (hr.mono (by decide)) (by rfl) T.g_Ltable T.F_Ltable.kp T.b_Ltable .nil pass0 (pa_cons (pv 1) pa_nil)))
      (pss_cons (ps_asg (pe_tup (pa_cons (pe_call (d_Lstate T) (hr.mono (by decide)) (by rfl) T.g_Lstate T.F_Lstate.kp T.b_Lstate .nil pass0 (pa_cons (pv 0) (pa_cons (pv 1) (pa_cons (pv 2) pa_nil)))) (pa_cons (pe_slice sl_U (pe_call (d_Lstrewn T) (hr.mono (by decide)) (by rfl) T.g_Lstrewn T.F_Lstrewn.kp T.b_Lstrewn .nil pass0 (pa_cons (pv 0) (pa_cons (pe_ix (ix_U hu) (pv 1) pe_int (fun _ _ => rfl)) pa_nil))) po_none (po_some (pe_call (d_Ltake T) (hr.mono (by decide)) (by rfl) T.g_Ltake T.F_Ltake.kp T.b_Ltake .nil pass0 (pa_cons (pv 0) (pa_cons (pe_op op_addU (pe_callB call_lenU (by rfl) T.m_len (by decide +kernel) (pa_cons (pe_ix (ix_U hu) (pv 1) pe_int (fun _ _ => rfl)) pa_nil)) pe_int) pa_nil))))) pa_nil))) (pg_unp rfl (pgs_cons (pg_name (i := 3) sc_Lright.nd rfl (Or.inr rfl)) (pgs_cons (pg_name (i := 4) sc_Lright.nd rfl (Or.inr rfl)) pgs_nil))))
      (pss_cons (ps_set (i := 5) sc_Lright.nd rfl (Or.inl rfl) (pe_call (d_Ltake T) (hr.mono (by decide)) (by rfl) T.g_Ltake T.F_Ltake.kp T.b_Ltake .nil pass0 (pa_cons (pv 0) (pa_cons pe_int pa_nil))))
      (pss_cons (ps_set (i := 6) sc_Lright.nd rfl (Or.inl rfl) (pe_call (d_Lby_lamps T) (hr.mono (by decide)) (by rfl) T.g_Lby_lamps T.F_Lby_lamps.kp T.b_Lby_lamps .nil pass0 (pa_cons (pv 1) (pa_cons (pv 2) (pa_cons (pv 3) (pa_cons (pv 4) (pa_cons (pv 5) pa_nil)))))))
      (pss_cons (ps_for PassesOwn.never rfl (pi_range1 (by rfl) T.m_range (pa_cons pe_int pa_nil)) (pg_name (i := 7) sc_Lright.nd rfl (Or.inl rfl)) (pss_cons (ps_set (i := 8) sc_Lright.nd rfl (Or.inl rfl) (pe_call (d_Lof T) (hr.mono (by decide)) (by rfl) T.g_Lof T.F_Lof.kp T.b_Lof .nil pass0 (pa_cons (pv 0) (pa_cons (pe_callB (call_sortN rfl hu) (by rfl) T.m_sorted (by decide +kernel) (pa_cons (pv 6) pa_nil)) pa_nil))))
      (pss_cons (ps_set (i := 9) sc_Lright.nd rfl (Or.inl rfl) (pe_lst (pa_cons (pe_sortStT rfl hu (by rfl) T.m_sorted (by rfl) T.m_set (pe_ix (ix_R hu rfl) (pv 6) (pv 8) (fun _ _ => rfl))) (pa_cons (pe_callB call_lenU (by rfl) T.m_len (by decide +kernel) (pa_cons (pe_ix (ix_R hu rfl) (pv 6) (pv 8) (fun _ _ => rfl)) pa_nil)) pa_nil))))
      (pss_cons (ps_set (i := 10) sc_Lright.nd rfl (Or.inl rfl) (pe_lst (pa_cons (pe_call (d_ends_seenF T) (hr.mono (by decide)) (by rfl) T.g_ends_seenF T.F_ends_seenF.kp T.b_ends_seenF .nil pass0 (pa_cons (pv 1) (pa_cons (pv 3) (pa_cons (pv 4) (pa_cons (pe_callTy (call_listU rfl) (by rfl) T.m_list (by decide +kernel) (pa_cons (pv 8) pa_nil)) pa_nil))))) (pa_cons (pe_call (d_histories_seen T) (hr.mono (by decide)) (by rfl) T.g_histories_seen T.F_histories_seen.kp T.b_histories_seen .nil pass0 (pa_cons (pv 1) (pa_cons (pv 3) (pa_cons (pv 4) (pa_cons (pe_callTy (call_listU rfl) (by rfl) T.m_list (by decide +kernel) (pa_cons (pv 8) pa_nil)) pa_nil))))) pa_nil))))
      (pss_cons (ps_if (pt_not (pt_val (pe_call (d_Lsame T) (hr.mono (by decide)) (by rfl) T.g_Lsame T.F_Lsame.kp T.b_Lsame .nil pass0 (pa_cons (pv 10) (pa_cons (pv 9) pa_nil))))) (pss_one (ps_ret pe_bl)) pss_nil)
      (pss_cons (ps_expr (pe_bm PySem.F.plainAttrs_list PySem.F.slot_list_append PySem.F.type_list_append mt_append (pe_ix (ix_U hu) (pv 10) pe_int (fun _ _ => rfl)) (pa_cons pe_str pa_nil)))
      (pss_cons (ps_set (i := 10) sc_Lright.nd rfl (Or.inl rfl) (pe_lst (pa_cons (pe_callK0_4 (d_ends_seenF T) (hr.mono (by decide)) (by rfl) T.g_ends_seenF T.F_ends_seenF.kp T.kw_ends_seenF_0 pass0 (pk_cons (pe_call (d_Llists T) (hr.mono (by decide)) (by rfl) T.g_Llists T.F_Llists.kp T.b_Llists .nil pass0 (pa_cons (pv 8) pa_nil)) (pk_cons (pe_callTy call_tupleU (by rfl) T.m_tuple (by decide +kernel) (pa_cons (pv 4) pa_nil)) (pk_cons (pe_callTy (call_listU rfl) (by rfl) T.m_list (by decide +kernel) (pa_cons (pv 3) pa_nil)) (pk_cons (pe_call (d_Llists T) (hr.mono (by decide)) (by rfl) T.g_Llists T.F_Llists.kp T.b_Llists .nil pass0 (pa_cons (pv 1) pa_nil)) pk_nil))))) pa_nil)))
      (pss_cons (ps_expr (pe_bm PySem.F.plainAttrs_list PySem.F.slot_list_append PySem.F.type_list_append mt_append (pv 10) (pa_cons (pe_callK0_4 (d_histories_seen T) (hr.mono (by decide)) (by rfl) T.g_histories_seen T.F_histories_seen.kp T.kw_histories_seen_0 pass0 (pk_cons (pv 8) (pk_cons (pe_revX (pv 4)) (pk_cons (pv 3) (pk_cons (pv 1) pk_nil))))) pa_nil)))
      (pss_one (ps_if (PW.pt (pw_or (pt_not (pt_val (pe_call (d_Lsame T) (hr.mono (by decide)) (by rfl) T.g_Lsame T.F_Lsame.kp T.b_Lsame .nil pass0 (pa_cons (pv 10) (pa_cons (pv 9) pa_nil))))) (pw_or1 (pt_not (pt_val (pe_call (d_Lsame T) (hr.mono (by decide)) (by rfl) T.g_Lsame T.F_Lsame.kp T.b_Lsame .nil pass0 (pa_cons (pe_call (d_ends_seenF T) (hr.mono (by decide)) (by rfl) T.g_ends_seenF T.F_ends_seenF.kp T.b_ends_seenF .nil pass0 (pa_cons (pv 1) (pa_cons (pv 3) (pa_cons (pv 4) (pa_cons (pv 8) pa_nil))))) (pa_cons (pe_ix (ix_U hu) (pv 9) pe_int (fun _ _ => rfl)) pa_nil)))))))) (pss_one (ps_ret pe_bl)) pss_nil))))))))))
      (pss_cons (ps_for PassesOwn.never rfl (pi_range1 (by rfl) T.m_range (pa_cons pe_int pa_nil)) (pg_name (i := 7) sc_Lright.nd rfl (Or.inl rfl)) (pss_cons (ps_set (i := 8) sc_Lright.nd rfl (Or.inl rfl) (pe_callTy call_tupleU (by rfl) T.m_tuple (by decide +kernel) (pa_cons (pe_lc (own := [("_law_step", 11)]) rfl sc_Lright.nd (pi_range1 (by rfl) T.m_range (pa_cons (pv 5) pa_nil)) (blkOk_by (own := [("_law_step", 11)]) (N := N_Lright) (sc := defScope s_Lright) (by decide +kernel)) (fun _ _ _ _ _ => (pg_name (i := 11) sc_Lright.nd rfl (by first | exact Or.inl rfl | exact Or.inr rfl))) (fun _ _ _ _ _ => pts_nil) (fun _ _ _ _ _ => (pe_call (d_Lof T) (hr.mono (by decide)) (by rfl) T.g_Lof T.F_Lof.kp T.b_Lof .nil pass0 (pa_cons (pv 0) (pa_cons (pe_lst (pa_cons (pe_tup pa_nil) (pa_cons (pe_callTy call_tupleU (by rfl) T.m_tuple (by decide +kernel) (pa_cons (pe_slice sl_U (pv 4) po_none (po_some pe_int)) pa_nil)) (pa_cons (pe_callTy call_tupleU (by rfl) T.m_tuple (by decide +kernel) (pa_cons (pe_callB (cr_sortU rfl hu) (by rfl) T.m_sorted (by decide +kernel) (pa_cons (pv 4) pa_nil)) pa_nil)) pa_nil)))) pa_nil))))) pa_nil)))
      (pss_cons (ps_set (i := 9) sc_Lright.nd rfl (Or.inl rfl) (pe_getR hu rfl (pv 6) (pv 8) (pe_lst pa_nil) ⟨by rfl, by rfl, by rfl, by rfl⟩))
      (pss_cons (ps_set (i := 10) sc_Lright.nd rfl (Or.inl rfl) (pe_lst (pa_cons (pe_call (d_ends_seenF T) (hr.mono (by decide)) (by rfl) T.g_ends_seenF T.F_ends_seenF.kp T.b_ends_seenF .nil pass0 (pa_cons (pv 1) (pa_cons (pv 3) (pa_cons (pv 4) (pa_cons (pv 8) pa_nil))))) (pa_cons (pe_call (d_histories_seen T) (hr.mono (by decide)) (by rfl) T.g_histories_seen T.F_histories_seen.kp T.b_histories_seen .nil pass0 (pa_cons (pv 1) (pa_cons (pv 3) (pa_cons (pv 4) (pa_cons (pv 8) pa_nil))))) pa_nil))))
      (pss_one (ps_if (pt_not (pt_val (pe_call (d_Lsame T) (hr.mono (by decide)) (by rfl) T.g_Lsame T.F_Lsame.kp T.b_Lsame .nil pass0 (pa_cons (pv 10) (pa_cons (pe_lst (pa_cons (pe_sortStT rfl hu (by rfl) T.m_sorted (by rfl) T.m_set (pv 9)) (pa_cons (pe_callB call_lenU (by rfl) T.m_len (by decide +kernel) (pa_cons (pv 9) pa_nil)) pa_nil))) pa_nil))))) (pss_one (ps_ret pe_bl)) pss_nil))))))
      (pss_one (ps_ret (pe_cmpR (op_eqP hu) (pe_lc (own := [("_law_is_count", 12)]) rfl sc_Lright.nd (pi_seq (pe_tup (pa_cons pe_bl (pa_cons pe_bl pa_nil)))) (blkOk_by (own := [("_law_is_count", 12)]) (N := N_Lright) (sc := defScope s_Lright) (by decide +kernel)) (fun _ _ _ _ _ => (pg_name (i := 12) sc_Lright.nd rfl (by first | exact Or.inl rfl | exact Or.inr rfl))) (fun _ _ _ _ _ => pts_nil) (fun _ _ _ _ _ => (pe_call (d_Lunknown T) (hr.mono (by decide)) (by rfl) T.g_Lunknown T.F_Lunknown.kp T.b_Lunknown .nil pass0 (pa_cons (pv 1) (pa_cons (pv 3) (pa_cons (pe_op op_addU (pv 4) (pe_lst (pa_cons pe_str (pa_cons pe_str pa_nil)))) (pa_cons (pv 12) pa_nil))))))) (pe_lst (pa_cons pe_str (pa_cons pe_str pa_nil))) (nomark _)))))))))))
theorem d_law (T : Tx K mg) : FnOk P w K mg base CX0 9 T.a_law T.fd_law ["_law_script"] (sp_law K) := by
  refine T.F_law.ok sc_law l_law (fun cdv A outer s H vs Q E hr h => ⟨t_law K, PSs.nox ?_, r_law vs H Q E h⟩)
  have hu := hu_room hr
  exact (pss_one (ps_ret (pe_callB (cr_all rfl) (by rfl) T.m_all (by decide +kernel) (pa_cons (pe_lc (own := [("_law_k", 1)]) rfl sc_law.nd (pi_range1 (by rfl) T.m_range (pa_cons (pe_op op_addU pe_int (pe_callB (cr_minU rfl) (by rfl) T.m_min (by decide +kernel) (pa_cons pe_int (pa_cons (pe_callB call_lenU (by rfl) T.m_len (by decide +kernel) (pa_cons (pv 0) pa_nil)) pa_nil)))) pa_nil)) (blkOk_by (own := [("_law_k", 1)]) (N := N_law) (sc := defScope s_law) (by decide +kernel)) (fun _ _ _ _ _ => (pg_name (i := 1) sc_law.nd rfl (by first | exact Or.inl rfl | exact Or.inr rfl))) (fun _ _ _ _ _ => pts_nil) (fun _ _ _ _ _ => (pe_call (d_Lright T) (hr.mono (by decide)) (by rfl) T.g_Lright T.F_Lright.kp T.b_Lright .nil pass0 (pa_cons (pe_call (d_Lbox T) (hr.mono (by decide)) (by rfl) T.g_Lbox T.F_Lbox.kp T.b_Lbox .nil pass0 (pa_cons (pv 0) (pa_cons (pv 1) pa_nil))) pa_nil)))) pa_nil))))
end
def D_look_switchesX : He.DefD := ⟨("look_switches", none), "look_switches", "look_switches", defArgs s_look_switchesX, defBody s_look_switchesX, defScope s_look_switchesX, [], []⟩
def D_rival_table : He.DefD := ⟨("rival_table", none), "rival_table", "rival_table", defArgs s_rival_table, defBody s_rival_table, defScope s_rival_table, [], []⟩
def D_with_press : He.DefD := ⟨("with_press", none), "with_press", "with_press", defArgs s_with_press, defBody s_with_press, defScope s_with_press, [], []⟩
def D_shown_of : He.DefD := ⟨("shown_of", none), "shown_of", "shown_of", defArgs s_shown_of, defBody s_shown_of, defScope s_shown_of, [], []⟩
def D_ways_seenX : He.DefD := ⟨("ways_seen", none), "ways_seen", "ways_seen", defArgs s_ways_seenX, defBody s_ways_seenX, defScope s_ways_seenX, [], []⟩
def D_ends_seenXF : He.DefD := ⟨("ends_seen", none), "ends_seen", "ends_seen", defArgs s_ends_seenXF, defBody s_ends_seenXF, defScope s_ends_seenXF, [], []⟩
def D_histories_seenX : He.DefD := ⟨("histories_seen", none), "histories_seen", "histories_seen", defArgs s_histories_seenX, defBody s_histories_seenX, defScope s_histories_seenX, [], []⟩
def D_Lcell_at : He.DefD := ⟨("_law_cell_at", none), "_law_cell_at", "_law_cell_at", defArgs s_Lcell_at, defBody s_Lcell_at, defScope s_Lcell_at, [], []⟩
def D_Lbox : He.DefD := ⟨("_law_box", none), "_law_box", "_law_box", defArgs s_Lbox, defBody s_Lbox, defScope s_Lbox, [], []⟩
def D_Ltake : He.DefD := ⟨("_law_take", none), "_law_take", "_law_take", defArgs s_Ltake, defBody s_Ltake, defScope s_Ltake, [], []⟩
def D_Lof : He.DefD := ⟨("_law_of", none), "_law_of", "_law_of", defArgs s_Lof, defBody s_Lof, defScope s_Lof, [], []⟩
def D_Lsame : He.DefD := ⟨("_law_same", none), "_law_same", "_law_same", defArgs s_Lsame, defBody s_Lsame, defScope s_Lsame, [], []⟩
def D_Llists : He.DefD := ⟨("_law_lists", none), "_law_lists", "_law_lists", defArgs s_Llists, defBody s_Llists, defScope s_Llists, [], []⟩
def D_Lstrewn : He.DefD := ⟨("_law_strewn", none), "_law_strewn", "_law_strewn", defArgs s_Lstrewn, defBody s_Lstrewn, defScope s_Lstrewn, [], []⟩
def D_Lnames : He.DefD := ⟨("_law_names", none), "_law_names", "_law_names", defArgs s_Lnames, defBody s_Lnames, defScope s_Lnames, [], []⟩
def D_Ltied : He.DefD := ⟨("_law_tied", none), "_law_tied", "_law_tied", defArgs s_Ltied, defBody s_Ltied, defScope s_Ltied, [], []⟩
def D_Lwired : He.DefD := ⟨("_law_wired", none), "_law_wired", "_law_wired", defArgs s_Lwired, defBody s_Lwired, defScope s_Lwired, [], []⟩
def D_Ltable : He.DefD := ⟨("_law_table", none), "_law_table", "_law_table", defArgs s_Ltable, defBody s_Ltable, defScope s_Ltable, [], []⟩
def D_Lafter : He.DefD := ⟨("_law_after", none), "_law_after", "_law_after", defArgs s_Lafter, defBody s_Lafter, defScope s_Lafter, [], []⟩
def D_Lstate : He.DefD := ⟨("_law_state", none), "_law_state", "_law_state", defArgs s_Lstate, defBody s_Lstate, defScope s_Lstate, [], []⟩
def D_Lby_lamps : He.DefD := ⟨("_law_by_lamps", none), "_law_by_lamps", "_law_by_lamps", defArgs s_Lby_lamps, defBody s_Lby_lamps, defScope s_Lby_lamps, [], []⟩
def D_Lunknown : He.DefD := ⟨("_law_unknown", none), "_law_unknown", "_law_unknown", defArgs s_Lunknown, defBody s_Lunknown, defScope s_Lunknown, [], []⟩
def D_Lright : He.DefD := ⟨("_law_right", none), "_law_right", "_law_right", defArgs s_Lright, defBody s_Lright, defScope s_Lright, [], []⟩
def D_law : He.DefD := ⟨("law", none), "law", "law", defArgs s_law, defBody s_law, defScope s_law, [], []⟩
def D_xinit : He.DefD := ⟨("NoSwitch", some "__init__"), "__init__", "NoSwitch.__init__", defArgs s_xinit, defBody s_xinit, defScope s_xinit, [], []⟩
def fn : List He.DefD := [D_look_switchesX, D_rival_table, D_with_press, D_shown_of, D_ways_seenX, D_ends_seenXF, D_histories_seenX, D_Lcell_at, D_Lbox, D_Ltake, D_Lof, D_Lsame, D_Llists, D_Lstrewn, D_Lnames, D_Ltied, D_Lwired, D_Ltable, D_Lafter, D_Lstate, D_Lby_lamps, D_Lunknown, D_Lright, D_law, D_xinit]
def fa : List He.Fa := [.glo "look_switches", .glo "rival_table", .glo "with_press", .glo "shown_of", .glo "ways_seen", .glo "ends_seen", .glo "histories_seen", .glo "_law_cell_at", .glo "_law_box", .glo "_law_take", .glo "_law_of", .glo "_law_same", .glo "_law_lists", .glo "_law_strewn", .glo "_law_names", .glo "_law_tied", .glo "_law_wired", .glo "_law_table", .glo "_law_after", .glo "_law_state", .glo "_law_by_lamps", .glo "_law_unknown", .glo "_law_right", .glo "law", .free "LookupError", .free "abs", .free "all", .free "bool", .free "dict", .free "int", .free "isinstance", .free "len", .free "list", .free "max", .free "min", .free "range", .free "set", .free "sorted", .free "str", .free "sum", .free "tuple", .free "zip", .glo "NoSwitch", .glo "NoState", .glo "NoSwitch"]
def loose : List Str := (["NoSwitch", "NoState", "look_switches", "rival_table", "with_press", "shown_of", "ways_seen", "ends_seen", "histories_seen", "_law_cell_at", "_law_box", "_law_take", "_law_of", "_law_same", "_law_lists", "_law_strewn", "_law_names", "_law_tied", "_law_wired", "_law_table"] : List Str) ++ (["_law_after", "_law_state", "_law_by_lamps", "_law_unknown", "_law_right"] : List Str)
abbrev R : PySem.W.OpenRow := PySem.W.OpenLaw.row PySem.Challenge.rw_offbyon_k83_lamps_that_cannot_be_seen
def tf : List He.Defn := []
abbrev hk : PySem.W.Hook := He.hookX 4 fa fn [] tf (exB2_o2 leB "LookupError.__new__" "NoSwitch" "switch" "NoState" "NoSwitch")
def ob (s : PySem.W.SharedT) : He.AlX := He.obsX 4 fa fn [] tf (exB2_o2 leB "LookupError.__new__" "NoSwitch" "switch" "NoState" "NoSwitch") (HandSHeadRun.getT s)
theorem ob_eq (s : PySem.W.SharedT) : ob s = hk.obs s.abs := He.obsX_eq (HandSHeadRun.getT_eq s)
theorem run (w : World) : HandSHeadRun.RunEq R (PySem.W.view R.prog [30]) hk ob 4000 loose w := by
  intro os
  kernel_rfl
theorem facts {P : Program} {w : World} {K : PySem.W.Frag} {h : Heap} {mg : Str → Option Value} {f : Addr} (X : K.In h) (G : h.Ns mainGlobals mg) (hfa : mg ("law" : Str) = some (.ref f)) (c : He.SaysD fa fn K) (cm : (exB2_o2 leB "LookupError.__new__" "NoSwitch" "switch" "NoState" "NoSwitch") K = true) :
    ∃ fd : FuncData, (∀ (s : Shared) (v : Value), BindsTo s fd ⟨[v], []⟩ [("_law_script", v)]) ∧ ∀ base : Heap, K.In base → base.Ns mainGlobals mg → FnOk P w K mg base CX0 9 f fd ["_law_script"] (sp_law K) := by
  obtain ⟨fd_look_switchesX, F_look_switchesX⟩ := c.def_ 0 (d := D_look_switchesX) rfl
  obtain ⟨fd_rival_table, F_rival_table⟩ := c.def_ 1 (d := D_rival_table) rfl
  obtain ⟨fd_with_press, F_with_press⟩ := c.def_ 2 (d := D_with_press) rfl
  obtain ⟨fd_shown_of, F_shown_of⟩ := c.def_ 3 (d := D_shown_of) rfl
  obtain ⟨fd_ways_seenX, F_ways_seenX⟩ := c.def_ 4 (d := D_ways_seenX) rfl
  obtain ⟨fd_ends_seenXF, F_ends_seenXF⟩ := c.def_ 5 (d := D_ends_seenXF) rfl
  obtain ⟨fd_histories_seenX, F_histories_seenX⟩ := c.def_ 6 (d := D_histories_seenX) rfl
  obtain ⟨fd_Lcell_at, F_Lcell_at⟩ := c.def_ 7 (d := D_Lcell_at) rfl
  obtain ⟨fd_Lbox, F_Lbox⟩ := c.def_ 8 (d := D_Lbox) rfl
  obtain ⟨fd_Ltake, F_Ltake⟩ := c.def_ 9 (d := D_Ltake) rfl
  obtain ⟨fd_Lof, F_Lof⟩ := c.def_ 10 (d := D_Lof) rfl
  obtain ⟨fd_Lsame, F_Lsame⟩ := c.def_ 11 (d := D_Lsame) rfl
  obtain ⟨fd_Llists, F_Llists⟩ := c.def_ 12 (d := D_Llists) rfl
  obtain ⟨fd_Lstrewn, F_Lstrewn⟩ := c.def_ 13 (d := D_Lstrewn) rfl
  obtain ⟨fd_Lnames, F_Lnames⟩ := c.def_ 14 (d := D_Lnames) rfl
  obtain ⟨fd_Ltied, F_Ltied⟩ := c.def_ 15 (d := D_Ltied) rfl
  obtain ⟨fd_Lwired, F_Lwired⟩ := c.def_ 16 (d := D_Lwired) rfl
  obtain ⟨fd_Ltable, F_Ltable⟩ := c.def_ 17 (d := D_Ltable) rfl
  obtain ⟨fd_Lafter, F_Lafter⟩ := c.def_ 18 (d := D_Lafter) rfl
  obtain ⟨fd_Lstate, F_Lstate⟩ := c.def_ 19 (d := D_Lstate) rfl
  obtain ⟨fd_Lby_lamps, F_Lby_lamps⟩ := c.def_ 20 (d := D_Lby_lamps) rfl
  obtain ⟨fd_Lunknown, F_Lunknown⟩ := c.def_ 21 (d := D_Lunknown) rfl
  obtain ⟨fd_Lright, F_Lright⟩ := c.def_ 22 (d := D_Lright) rfl
  obtain ⟨fd_law, F_law⟩ := c.def_ 23 (d := D_law) rfl
  have e := hfa.symm.trans (He.glo_ok X G (c.fact 23 (f := .glo "law") rfl))
  cases e
  obtain ⟨fd_xinit, F_xinit⟩ := c.def_ 24 (d := D_xinit) rfl
  have b := FunD.bindsA (ps := ["_law_script"]) F_law fun _ _ _ _ _ _ us hl => match us, hl with | [_], _ => rfl
  exact ⟨fd_law, fun s v => b s [v] rfl, fun base _ _ => d_law (⟨_, fd_look_switchesX, F_look_switchesX, He.glo_ok X G (c.fact 0 (f := .glo "look_switches") rfl), FunD.bindsN F_look_switchesX (fun _ _ _ _ _ _ us hl => match us, hl with | [_, _], _ => rfl),
    _, fd_rival_table, F_rival_table, He.glo_ok X G (c.fact 1 (f := .glo "rival_table") rfl), FunD.bindsN F_rival_table (fun _ _ _ _ _ _ us hl => match us, hl with | [_], _ => rfl),
    _, fd_with_press, F_with_press, He.glo_ok X G (c.fact 2 (f := .glo "with_press") rfl), FunD.bindsN F_with_press (fun _ _ _ _ _ _ us hl => match us, hl with | [_, _, _], _ => rfl),
    _, fd_shown_of, F_shown_of, He.glo_ok X G (c.fact 3 (f := .glo "shown_of") rfl), FunD.bindsN F_shown_of (fun _ _ _ _ _ _ us hl => match us, hl with | [_, _], _ => rfl),
    _, fd_ways_seenX, F_ways_seenX, He.glo_ok X G (c.fact 4 (f := .glo "ways_seen") rfl), FunD.bindsN F_ways_seenX (fun _ _ _ _ _ _ us hl => match us, hl with | [_, _, _, _], _ => rfl),
    _, fd_ends_seenXF, F_ends_seenXF, He.glo_ok X G (c.fact 5 (f := .glo "ends_seen") rfl), FunD.bindsN F_ends_seenXF (fun _ _ _ _ _ _ us hl => match us, hl with | [_, _, _, _], _ => rfl),
    kbinds0 (ps := ["panel", "state", "watched", "shown"]) F_ends_seenXF ["shown", "watched", "state", "panel"] [3, 2, 1, 0] (fun _ _ _ _ _ _ ws hl => match ws, hl with | [_, _, _, _], _ => rfl),
    _, fd_histories_seenX, F_histories_seenX, He.glo_ok X G (c.fact 6 (f := .glo "histories_seen") rfl), FunD.bindsN F_histories_seenX (fun _ _ _ _ _ _ us hl => match us, hl with | [_, _, _, _], _ => rfl),
    kbinds0 (ps := ["panel", "state", "watched", "shown"]) F_histories_seenX ["shown", "watched", "state", "panel"] [3, 2, 1, 0] (fun _ _ _ _ _ _ ws hl => match ws, hl with | [_, _, _, _], _ => rfl),
    _, fd_Lcell_at, F_Lcell_at, He.glo_ok X G (c.fact 7 (f := .glo "_law_cell_at") rfl), FunD.bindsN F_Lcell_at (fun _ _ _ _ _ _ us hl => match us, hl with | [_, _], _ => rfl),
    _, fd_Lbox, F_Lbox, He.glo_ok X G (c.fact 8 (f := .glo "_law_box") rfl), FunD.bindsN F_Lbox (fun _ _ _ _ _ _ us hl => match us, hl with | [_, _], _ => rfl),
    _, fd_Ltake, F_Ltake, He.glo_ok X G (c.fact 9 (f := .glo "_law_take") rfl), FunD.bindsN F_Ltake (fun _ _ _ _ _ _ us hl => match us, hl with | [_, _], _ => rfl),
    _, fd_Lof, F_Lof, He.glo_ok X G (c.fact 10 (f := .glo "_law_of") rfl), FunD.bindsN F_Lof (fun _ _ _ _ _ _ us hl => match us, hl with | [_, _], _ => rfl),
    _, fd_Lsame, F_Lsame, He.glo_ok X G (c.fact 11 (f := .glo "_law_same") rfl), FunD.bindsN F_Lsame (fun _ _ _ _ _ _ us hl => match us, hl with | [_, _], _ => rfl),
    _, fd_Llists, F_Llists, He.glo_ok X G (c.fact 12 (f := .glo "_law_lists") rfl), FunD.bindsN F_Llists (fun _ _ _ _ _ _ us hl => match us, hl with | [_], _ => rfl),
    _, fd_Lstrewn, F_Lstrewn, He.glo_ok X G (c.fact 13 (f := .glo "_law_strewn") rfl), FunD.bindsN F_Lstrewn (fun _ _ _ _ _ _ us hl => match us, hl with | [_, _], _ => rfl),
    _, fd_Lnames, F_Lnames, He.glo_ok X G (c.fact 14 (f := .glo "_law_names") rfl), FunD.bindsN F_Lnames (fun _ _ _ _ _ _ us hl => match us, hl with | [_, _], _ => rfl),
    _, fd_Ltied, F_Ltied, He.glo_ok X G (c.fact 15 (f := .glo "_law_tied") rfl), FunD.bindsN F_Ltied (fun _ _ _ _ _ _ us hl => match us, hl with | [_, _], _ => rfl),
    _, fd_Lwired, F_Lwired, He.glo_ok X G (c.fact 16 (f := .glo "_law_wired") rfl), FunD.bindsN F_Lwired (fun _ _ _ _ _ _ us hl => match us, hl with | [_, _, _], _ => rfl),
    _, fd_Ltable, F_Ltable, He.glo_ok X G (c.fact 17 (f := .glo "_law_table") rfl), FunD.bindsN F_Ltable (fun _ _ _ _ _ _ us hl => match us, hl with | [_], _ => rfl),
    _, fd_Lafter, F_Lafter, He.glo_ok X G (c.fact 18 (f := .glo "_law_after") rfl), FunD.bindsN F_Lafter (fun _ _ _ _ _ _ us hl => match us, hl with | [_, _, _], _ => rfl),
    _, fd_Lstate, F_Lstate, He.glo_ok X G (c.fact 19 (f := .glo "_law_state") rfl), FunD.bindsN F_Lstate (fun _ _ _ _ _ _ us hl => match us, hl with | [_, _, _], _ => rfl),
    _, fd_Lby_lamps, F_Lby_lamps, He.glo_ok X G (c.fact 20 (f := .glo "_law_by_lamps") rfl), FunD.bindsN F_Lby_lamps (fun _ _ _ _ _ _ us hl => match us, hl with | [_, _, _, _, _], _ => rfl),
    _, fd_Lunknown, F_Lunknown, He.glo_ok X G (c.fact 21 (f := .glo "_law_unknown") rfl), FunD.bindsN F_Lunknown (fun _ _ _ _ _ _ us hl => match us, hl with | [_, _, _, _], _ => rfl),
    _, fd_Lright, F_Lright, He.glo_ok X G (c.fact 22 (f := .glo "_law_right") rfl), FunD.bindsN F_Lright (fun _ _ _ _ _ _ us hl => match us, hl with | [_], _ => rfl),
    _, fd_law, F_law, He.glo_ok X G (c.fact 23 (f := .glo "law") rfl), FunD.bindsN F_law (fun _ _ _ _ _ _ us hl => match us, hl with | [_], _ => rfl),
    cnsOfo2 cm,
    He.glo_ok X G (c.fact 42 (f := .glo "NoSwitch") rfl),
    fd_xinit,
    F_xinit,
    FunD.bindsN F_xinit (fun _ _ _ _ _ _ us hl => match us, hl with | [_, _], _ => rfl),
    He.glo_ok X G (c.fact 43 (f := .glo "NoState") rfl),
    He.glo_ok X G (c.fact 44 (f := .glo "NoSwitch") rfl),
    He.free_ok X G (c.fact 24 (f := .free "LookupError") rfl),
    He.free_ok X G (c.fact 25 (f := .free "abs") rfl),
    He.free_ok X G (c.fact 26 (f := .free "all") rfl),
    He.free_ok X G (c.fact 27 (f := .free "bool") rfl),
    He.free_ok X G (c.fact 28 (f := .free "dict") rfl),
    He.free_ok X G (c.fact 29 (f := .free "int") rfl),
    He.free_ok X G (c.fact 30 (f := .free "isinstance") rfl),
    He.free_ok X G (c.fact 31 (f := .free "len") rfl),
    He.free_ok X G (c.fact 32 (f := .free "list") rfl),
    He.free_ok X G (c.fact 33 (f := .free "max") rfl),
    He.free_ok X G (c.fact 34 (f := .free "min") rfl),
    He.free_ok X G (c.fact 35 (f := .free "range") rfl),
    He.free_ok X G (c.fact 36 (f := .free "set") rfl),
    He.free_ok X G (c.fact 37 (f := .free "sorted") rfl),
    He.free_ok X G (c.fact 38 (f := .free "str") rfl),
    He.free_ok X G (c.fact 39 (f := .free "sum") rfl),
    He.free_ok X G (c.fact 40 (f := .free "tuple") rfl),
    He.free_ok X G (c.fact 41 (f := .free "zip") rfl)⟩ : Tx K mg)⟩
theorem ex_refl (H : Hp) : Ex H H := Ex.refl H
end Ob
open PySem PySem.W PySem.Calls PyProof.Rows
theorem PySem.Challenge.cw_offbyon_k83_lamps_that_cannot_be_seen_holds : PySem.Challenge.rw_offbyon_k83_lamps_that_cannot_be_seen.Holds := by
  w_on; o_law
  refine HandSHeadRun.head_any (r := OpenLaw.row PySem.Challenge.rw_offbyon_k83_lamps_that_cannot_be_seen) (q := view (OpenLaw.row PySem.Challenge.rw_offbyon_k83_lamps_that_cannot_be_seen).prog [30]) (H := Ob.hk) (ob := Ob.ob) (M := 4000) (loose := Ob.loose) (d := HandSHeadRun.topDef (OpenLaw.row PySem.Challenge.rw_offbyon_k83_lamps_that_cannot_be_seen).prog 30) (kwd := []) Ob.ob_eq
    (by kernel_rfl) (fun s => by kernel_rfl) Ob.run (by kernel_rfl) (by kernel_rfl) (by kernel_rfl) (by rfl) (by first | assumption | decide +kernel) (by decide +kernel) ⟨rfl, rfl, rfl, rfl, rfl, by decide +kernel⟩ ?hw ?hc
  case hw => w_witness2
  case hc =>

    refine L2.walk_ofE (l := PySem.Challenge.rw_offbyon_k83_lamps_that_cannot_be_seen) (n := 63) (k := 9) (x := "_law_script") (CX := L2.CX0) rfl (by decide) (by kernel_rfl) ⟨rfl, by decide, by decide⟩ ?F (fun _ _ _ _ z => z)
    intro w mg fa h Y G hmg0
    obtain ⟨K, KX, c⟩ := Y
    have hmg : mg ("law" : PySem.Str) = some (.ref fa) := by
      have e : (HandSHeadRun.topDef (OpenLaw.row PySem.Challenge.rw_offbyon_k83_lamps_that_cannot_be_seen).prog 30).name = ("law" : PySem.Str) := by kernel_rfl
      rw [← e]
      exact hmg0
    obtain ⟨fd, hb, hF⟩ := Ob.facts (P := (PySem.Challenge.rw_offbyon_k83_lamps_that_cannot_be_seen).prog) (w := w) KX G hmg c.t.d c.more
    exact ⟨K, fd, Ob.sp_law K, KX, hb, fun H a ns hl _ hS => ⟨⟨ns⟩, H, Ob.ex_refl H, ⟨_, _, rfl, ⟨a, _, rfl, .inl hS, Ob.ints_atAll ns⟩, rfl⟩, trivial, fun v B2 H2 u hv => Ob.at_bl.mp hv⟩, hF⟩
